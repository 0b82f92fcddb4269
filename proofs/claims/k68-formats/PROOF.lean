import PyProof.Rows.All
import Wide.All
import OpenK.AllK
import Wide.FinOn
import HandS.Base
import HandS.Call
import HandS.List
import HandS.Comp
import HandS.Ends
import HandS.Evl
import HandS.Exc
import HandS.ExcOwn
import HandS.Words
import HandS.WordsExc
import HandS.Defaults
import HandS.HeadHook1
import HandS.HeadHook2
import HandS.Style
import HandS.TupAny
import HandS.TupMul
import HandS.Wide
import HandS.IsInst
import KE.DataEq
import KE.DataFind
import KE.DataMinMax
import KE.SortData
import PyProof.Rows.SumAny
import KE.KIndexOf
import HandS.SetFor
import HandS.Deep
import HandS.Zip
import KE.GoesEnum
import KE.GoesNew
import HandS.Set
import HandS.Conv
import HandS.Strs
import HandS.TupSets
import KE.KRevSl
import KE.KDictZip
import HandS.ExcIs
import HandS.Dict
import HandS.More
import HandS.DictComp
import HandS.Iter
import HandS.Text
import HandS.Codes
import HandS.HeadEnd
import KE.KStateDown
import Lean
import HandS.Head0
import HandS.Head1
import HandS.Head2
import PySem.Challenge.RW_bucketdata_k68_formats
set_option Elab.async false
set_option linter.all false
set_option maxRecDepth 100000
set_option autoImplicit false
set_option maxHeartbeats 1000000
/-! PyA: a pure layer over HandS: values as data, slots that hold data or an owned list; the core. -/
namespace Py
open PySem L2
open Evl (Ex ex_l ex_t)
abbrev Sl := L2.St
/-- the written part that may hold the script -/
class KK where
  K : PySem.W.Frag
class OK [KK] (X : Cx) : Prop where
  eq : X.K = KK.K
variable [KK]
instance {CX : CXT} {P : Program} {w : World} {mg : Str → Option Value} {base : Heap} {N : List Str} {qual : Str} {scope : Scope} {f : Addr} {cd : Value} {A : Around} {outer : List Env} {s : Shared} {H : Hp} {E : XK} : OK (cxOf CX P w KK.K mg base N qual scope f cd A outer s H E) := ⟨rfl⟩
instance {X : Cx} [h : OK X] {s : Shared} {H : Hp} {scope : Scope} {cenv : Env} {fp : List Addr} : OK (X.blk s H scope cenv fp) := ⟨h.eq⟩
instance {X : Cx} [h : OK X] {pn : List (Addr × Obj)} {xe : Value → Shared → Prop} : OK (X.tr pn xe) := ⟨h.eq⟩
instance {X : Cx} [h : OK X] {a : Addr} {pn : List (Addr × Obj)} : OK (X.suite a pn) := ⟨h.eq⟩
/-- a list, read off the heap; or of the written part -/
def Rl (H : Hp) (a : Addr) (xs : List V) : Prop := Rd H a (.lst xs) ∨ ∃ (its : List Value) (n : Nat), KK.K.lookup a = some { cls := .type "list", data := .seq its.toArray n } ∧ its.length ≤ sizeLine ∧ Vals xs its
theorem Rl.up {H H' : Hp} {a : Addr} {xs : List V} (e : Ex H H') : Rl H a xs → Rl H' a xs
  | .inl h => .inl (Evl.ex_rd e h)
  | .inr h => .inr h
theorem Rl.sqK {H : Hp} {a : Addr} {xs : List V} : Rl H a xs → SqL KK.K H a xs
  | .inl h => .inl h
  | .inr ⟨its, n, h1, h2, h3⟩ => .inr ⟨_, its.toArray, n, h1, rfl, rfl, rfl, by rw [List.size_toArray]; exact h2, by simpa using h3⟩
theorem Rl.sq {X : Cx} [h : OK X] {H : Hp} {a : Addr} {xs : List V} (l : Rl H a xs) : SqL X.K H a xs := by rw [h.eq]; exact l.sqK

inductive R (α : Type) where
  | ok (a : α)
  | err (c : Str)
  | bad
def R.bind {α β : Type} : R α → (α → R β) → R β
  | .ok a, f => f a
  | .err c, _ => .err c
  | .bad, _ => .bad
instance : Monad R where
  pure := R.ok
  bind := R.bind
@[simp] theorem R.pure_eq {α : Type} (a : α) : (pure a : R α) = .ok a := id rfl
@[simp] theorem R.bind_ok {α β : Type} (a : α) (f : α → R β) : (R.ok a >>= f) = f a := id rfl
@[simp] theorem R.bind_err {α β : Type} (c : Str) (f : α → R β) : ((R.err c : R α) >>= f) = .err c := id rfl
@[simp] theorem R.bind_bad {α β : Type} (f : α → R β) : ((R.bad : R α) >>= f) = .bad := id rfl

/-- what a def gives -/
inductive Cr where
  | val (d : PyData)
  | own (ds : List PyData)
  | tpn (ds : List PyData)
/-- things that stay as they are: a dict that is being walked over -/
inductive Tg where
  | dfz (kvs : List (Int × PyData))
/-- what a slot holds; raw: the thing at a -/
inductive Cl where
  | val (d : PyData)
  | own (ds : List PyData)
  | raw (a : Addr)
  | dct (kvs : List (Int × PyData))
  | tpn (ds : List PyData)
  | kn (t : Tg)
abbrev En := List (Option Cl)
inductive Rv where
  | val (d : PyData)
  | own (ds : List PyData)
  | bor (i : Nat) (ds : List PyData)

/-- heaps grow: Hk what is known for good, H all -/
structure Gr (Hk H Hk' H' : Hp) : Prop where
  k : Ex Hk Hk'
  h : Ex H H'
  kh : Ex Hk' H'
  fr : ∀ p, H p ≠ none → Hk p = none → Hk' p = none
theorem Gr.refl {Hk H : Hp} (e : Ex Hk H) : Gr Hk H Hk H := ⟨Ex.refl _, Ex.refl _, e, fun _ _ h => h⟩
theorem Gr.trans {Hk H Hk1 H1 Hk2 H2 : Hp} (a : Gr Hk H Hk1 H1) (b : Gr Hk1 H1 Hk2 H2) : Gr Hk H Hk2 H2 :=
  ⟨a.k.trans b.k, a.h.trans b.h, b.kh, fun p h n => b.fr p (fun z => h (Evl.fresh_back a.h z)) (a.fr p h n)⟩
/-- a new object, known for good -/
theorem Gr.new {Hk H : Hp} {p : Addr} {o : HO} (e : Ex Hk H) (h : H p = none) : Gr Hk H (upd Hk p o) (upd H p o) := by
  have hk := Evl.fresh_back e h
  refine ⟨Ex.new hk, Ex.new h, fun a u q => ?_, fun q n z => ?_⟩
  · by_cases ha : a = p
    · subst ha; rw [upd_same] at q ⊢; exact q
    · rw [upd_ne ha] at q ⊢; exact e a u q
  · rw [upd_ne (fun w => n (by rw [w]; exact h))]; exact z
/-- a new object, not known -/
theorem Gr.own {Hk H : Hp} {p : Addr} {o : HO} (e : Ex Hk H) (h : H p = none) : Gr Hk H Hk (upd H p o) :=
  ⟨Ex.refl _, Ex.new h, fun a u q => by rw [upd_ne (ne_of_none (e a u q) h)]; exact e a u q, fun _ _ z => z⟩
/-- an object that is not of the elder heap becomes known -/
theorem Gr.frz {Hk H Hk' H' : Hp} {p : Addr} {o : HO} (g : Gr Hk H Hk' H') (h : H p = none) (ho : H' p = some o) (hk : Hk' p = none) : Gr Hk H (upd Hk' p o) H' := by
  refine ⟨fun a u q => ?_, g.h, fun a u q => ?_, fun q n z => ?_⟩
  · have : a ≠ p := ne_of_none (g.k a u q) hk
    rw [upd_ne this]; exact g.k a u q
  · by_cases ha : a = p
    · subst ha; rw [upd_same] at q; rw [ho]; exact q
    · rw [upd_ne ha] at q; exact g.kh a u q
  · rw [upd_ne (fun w => n (by rw [w]; exact h))]; exact g.fr q n z

mutual
/-- a value stands for data; lists and tuples are read off the heap -/
inductive Rp (H : Hp) : V → PyData → Prop
  | non : Rp H .non .none
  | bl (b : Bool) : Rp H (.bl b) (.bool b)
  | int (i : Int) : Rp H (.int i) (.int i)
  | str (x : Str) : Rp H (.str x) (.str x)
  | lst {a : Addr} {xs : List V} {ds : List PyData} (h : Rl H a xs) (r : RpAll H xs ds) : Rp H (.ref a) (.list ds)
  | tup {a : Addr} {xs : List V} {ds : List PyData} (h : Rd H a (.tup xs)) (r : RpAll H xs ds) : Rp H (.ref a) (.tuple ds)
inductive RpAll (H : Hp) : List V → List PyData → Prop
  | nil : RpAll H [] []
  | cons {v : V} {vs : List V} {d : PyData} {ds : List PyData} (h : Rp H v d) (r : RpAll H vs ds) : RpAll H (v :: vs) (d :: ds)
end
mutual
theorem Rp.up {H H' : Hp} (e : Ex H H') : ∀ {v : V} {d : PyData}, Rp H v d → Rp H' v d
  | _, _, .non => .non
  | _, _, .bl b => .bl b
  | _, _, .int i => .int i
  | _, _, .str x => .str x
  | _, _, .lst h a => .lst (Rl.up e h) (RpAll.up e a)
  | _, _, .tup h a => .tup (Evl.ex_rd e h) (RpAll.up e a)
theorem RpAll.up {H H' : Hp} (e : Ex H H') : ∀ {vs : List V} {ds : List PyData}, RpAll H vs ds → RpAll H' vs ds
  | _, _, .nil => .nil
  | _, _, .cons a b => .cons (Rp.up e a) (RpAll.up e b)
end
mutual
theorem Rp.dp {H : Hp} : ∀ {v : V} {d : PyData}, Rp H v d → Dp KK.K H v d
  | _, _, .non => .non
  | _, _, .bl b => .bl b
  | _, _, .int i => .int i
  | _, _, .str x => .str x
  | _, _, .lst h a => .lst h.sqK (RpAll.dp a)
  | _, _, .tup h a => .tup (.inl h) (RpAll.dp a)
theorem RpAll.dp {H : Hp} : ∀ {vs : List V} {ds : List PyData}, RpAll H vs ds → DpAll KK.K H vs ds
  | _, _, .nil => .nil
  | _, _, .cons a b => .cons (Rp.dp a) (RpAll.dp b)
end
theorem RpAll.length {H : Hp} : ∀ {vs : List V} {ds : List PyData}, RpAll H vs ds → vs.length = ds.length
  | _, _, .nil => rfl
  | _, _, .cons _ b => congrArg Nat.succ (RpAll.length b)
theorem RpAll.append {H : Hp} : ∀ {vs us : List V} {ds es : List PyData}, RpAll H vs ds → RpAll H us es → RpAll H (vs ++ us) (ds ++ es)
  | _, _, _, _, .nil, b => b
  | _, _, _, _, .cons a r, b => .cons a (RpAll.append r b)
theorem RpAll.one {H : Hp} {v : V} {d : PyData} (h : Rp H v d) : RpAll H [v] [d] := .cons h .nil
theorem RpAll.get {H : Hp} : ∀ {vs : List V} {ds : List PyData} {i : Nat} {d : PyData}, RpAll H vs ds → ds[i]? = some d → ∃ v, vs[i]? = some v ∧ Rp H v d
  | _, _, _, _, .nil, e => by simp at e
  | _, _, 0, _, .cons a _, e => by simp at e; subst e; exact ⟨_, rfl, a⟩
  | _, _, i + 1, d, .cons _ b, e => by
    obtain ⟨v, h1, h2⟩ := RpAll.get (i := i) (d := d) b (by simpa using e)
    exact ⟨v, by simpa using h1, h2⟩
theorem RpAll.getV {H : Hp} : ∀ {vs : List V} {ds : List PyData} {i : Nat} {v : V}, RpAll H vs ds → vs[i]? = some v → ∃ d, ds[i]? = some d ∧ Rp H v d
  | _, _, _, _, .nil, e => by simp at e
  | _, _, 0, _, .cons a _, e => by simp at e; subst e; exact ⟨_, rfl, a⟩
  | _, _, i + 1, d, .cons _ b, e => by
    obtain ⟨v, h1, h2⟩ := RpAll.getV (i := i) (v := d) b (by simpa using e)
    exact ⟨v, by simpa using h1, h2⟩
theorem RpAll.take {H : Hp} : ∀ {vs : List V} {ds : List PyData} (n : Nat), RpAll H vs ds → RpAll H (vs.take n) (ds.take n)
  | _, _, 0, _ => .nil
  | _, _, _ + 1, .nil => .nil
  | _, _, n + 1, .cons a b => .cons a (RpAll.take n b)
theorem RpAll.drop {H : Hp} : ∀ {vs : List V} {ds : List PyData} (n : Nat), RpAll H vs ds → RpAll H (vs.drop n) (ds.drop n)
  | _, _, 0, h => h
  | _, _, _ + 1, .nil => .nil
  | _, _, n + 1, .cons _ b => RpAll.drop n b
theorem RpAll.set {H : Hp} {v : V} {d : PyData} (h : Rp H v d) : ∀ {vs : List V} {ds : List PyData} (i : Nat), RpAll H vs ds → RpAll H (vs.set i v) (ds.set i d)
  | _, _, _, .nil => .nil
  | _, _, 0, .cons _ b => .cons h b
  | _, _, i + 1, .cons a b => .cons a (RpAll.set h i b)
theorem RpAll.reverse {H : Hp} : ∀ {vs : List V} {ds : List PyData}, RpAll H vs ds → RpAll H vs.reverse ds.reverse
  | _, _, .nil => .nil
  | _, _, .cons a b => by
    rw [List.reverse_cons, List.reverse_cons]
    exact RpAll.append (RpAll.reverse b) (RpAll.one a)
theorem RpAll.ints {H : Hp} : ∀ {vs : List V} {ns : List Int}, RpAll H vs (ns.map PyData.int) → vs = ns.map V.int
  | _, [], .nil => rfl
  | _, n :: ns, .cons a b => by
    cases a
    rw [RpAll.ints b]
    rfl
theorem RpAll.ofInts {H : Hp} : ∀ (ns : List Int), RpAll H (ns.map V.int) (ns.map PyData.int)
  | [] => .nil
  | n :: ns => .cons (.int n) (RpAll.ofInts ns)
theorem RpAll.bls {H : Hp} : ∀ {vs : List V} {ns : List Bool}, RpAll H vs (ns.map PyData.bool) → vs = ns.map V.bl
  | _, [], .nil => rfl
  | _, n :: ns, .cons a b => by
    cases a
    rw [RpAll.bls b]
    rfl

/-- the entries of a dict with int keys -/
def DR (Hk : Hp) (ks : List (Key × V)) (kvs : List (Int × PyData)) : Prop := ks.map (·.1) = kvs.map (fun p => Sum.inl p.1) ∧ RpAll Hk (ks.map (·.2)) (kvs.map (·.2))
theorem DR.up {Hk Hk' : Hp} {ks : List (Key × V)} {kvs : List (Int × PyData)} (e : Ex Hk Hk') (h : DR Hk ks kvs) : DR Hk' ks kvs := ⟨h.1, RpAll.up e h.2⟩
/-- a tuple without a dict of its own -/
def TN (Hk : Hp) (v : V) (ds : List PyData) : Prop := ∃ p xs o, v = .ref p ∧ Hk p = some (.frz o (.tup xs)) ∧ o.dict = none ∧ RpAll Hk xs ds
theorem TN.up {Hk Hk' : Hp} {v : V} {ds : List PyData} (e : Ex Hk Hk') (h : TN Hk v ds) : TN Hk' v ds := let ⟨p, xs, o, a, b, c, d⟩ := h; ⟨p, xs, o, a, e _ _ b, c, RpAll.up e d⟩
theorem TN.rp {Hk : Hp} {v : V} {ds : List PyData} (h : TN Hk v ds) : Rp Hk v (.tuple ds) := by
  obtain ⟨p, xs, o, rfl, b, c, d⟩ := h
  exact .tup (.inr ⟨o, b⟩) d
def Tg.In : Tg → Hp → V → Prop
  | .dfz kvs, Hk, v => ∃ p od ks, v = .ref p ∧ Hk p = some (.frz od (.dK ks)) ∧ DR Hk ks kvs
theorem Tg.up {Hk Hk' : Hp} {v : V} (e : Ex Hk Hk') : ∀ {t : Tg}, t.In Hk v → t.In Hk' v
  | .dfz _, ⟨p, od, ks, a, b, c⟩ => ⟨p, od, ks, a, e _ _ b, DR.up e c⟩
structure Rel (Hk0 H0 Hk H : Hp) (σ : Sl) (ρ : En) : Prop where
  len : σ.length = ρ.length
  gr : Gr Hk0 H0 Hk H
  val : ∀ (i : Nat) (d : PyData), ρ[i]? = some (some (Cl.val d)) → ∃ v, σ[i]? = some (some v) ∧ Rp Hk v d
  own : ∀ (i : Nat) (ds : List PyData), ρ[i]? = some (some (Cl.own ds)) → ∃ p xs, σ[i]? = some (some (.ref p)) ∧ H0 p = none ∧ Hk p = none ∧ H p = some (.lst xs) ∧ RpAll Hk xs ds
  sep : ∀ (i j : Nat) (ds es : List PyData) (p : Addr), ρ[i]? = some (some (Cl.own ds)) → ρ[j]? = some (some (Cl.own es)) → σ[i]? = some (some (.ref p)) → σ[j]? = some (some (.ref p)) → i = j
  raw : ∀ (i : Nat) (a : Addr), ρ[i]? = some (some (Cl.raw a)) → σ[i]? = some (some (.ref a))
  dct : ∀ (i : Nat) (kvs : List (Int × PyData)), ρ[i]? = some (some (Cl.dct kvs)) → ∃ p ks, σ[i]? = some (some (.ref p)) ∧ H0 p = none ∧ Hk p = none ∧ H p = some (.dK ks) ∧ DR Hk ks kvs
  tpn : ∀ (i : Nat) (ds : List PyData), ρ[i]? = some (some (Cl.tpn ds)) → ∃ v, σ[i]? = some (some v) ∧ TN Hk v ds
  dsep : ∀ (i j : Nat) (kvs ls : List (Int × PyData)) (p : Addr), ρ[i]? = some (some (Cl.dct kvs)) → ρ[j]? = some (some (Cl.dct ls)) → σ[i]? = some (some (.ref p)) → σ[j]? = some (some (.ref p)) → i = j
  kn : ∀ (i : Nat) (t : Tg), ρ[i]? = some (some (Cl.kn t)) → ∃ v, σ[i]? = some (some v) ∧ t.In Hk v
theorem Rel.up {Hk0 H0 Hk H Hk' H' : Hp} {σ : Sl} {ρ : En} (r : Rel Hk0 H0 Hk H σ ρ) (g : Gr Hk H Hk' H') : Rel Hk0 H0 Hk' H' σ ρ where
  len := r.len
  gr := r.gr.trans g
  val := fun i d e => let ⟨v, a, b⟩ := r.val i d e; ⟨v, a, Rp.up g.k b⟩
  own := fun i ds e => let ⟨p, xs, a, b, c, d, f⟩ := r.own i ds e; ⟨p, xs, a, b, g.fr p (by rw [d]; exact fun z => nomatch z) c, g.h _ _ d, RpAll.up g.k f⟩
  sep := r.sep
  raw := r.raw
  dct := fun i ds e => let ⟨p, xs, a, b, c, d, f⟩ := r.dct i ds e; ⟨p, xs, a, b, g.fr p (by rw [d]; exact fun z => nomatch z) c, g.h _ _ d, DR.up g.k f⟩
  tpn := fun i d e => let ⟨v, a, b⟩ := r.tpn i d e; ⟨v, a, TN.up g.k b⟩
  dsep := r.dsep
  kn := fun i d e => let ⟨v, a, b⟩ := r.kn i d e; ⟨v, a, Tg.up g.k b⟩
theorem Rel.kh {Hk0 H0 Hk H : Hp} {σ : Sl} {ρ : En} (r : Rel Hk0 H0 Hk H σ ρ) : Ex Hk H := r.gr.kh

def Den (Hk H : Hp) (σ : Sl) : Rv → V → Prop
  | .val d, v => Rp Hk v d
  | .own ds, v => ∃ p xs, v = .ref p ∧ Hk p = none ∧ H p = some (.lst xs) ∧ RpAll Hk xs ds
  | .bor i ds, v => ∃ p xs, v = .ref p ∧ σ[i]? = some (some v) ∧ Hk p = none ∧ H p = some (.lst xs) ∧ RpAll Hk xs ds
def New (H : Hp) : Rv → V → Prop
  | .own _, v => ∃ p, v = .ref p ∧ H p = none
  | _, _ => True
theorem New.back {H H' : Hp} (e : Ex H H') : ∀ {r : Rv} {v : V}, New H' r v → New H r v
  | .val _, _, _ => trivial
  | .bor _ _, _, _ => trivial
  | .own _, _, ⟨p, a, b⟩ => ⟨p, a, Evl.fresh_back e b⟩
theorem Den.up {Hk H Hk' H' : Hp} {σ : Sl} (g : Gr Hk H Hk' H') : ∀ {r : Rv} {v : V}, Den Hk H σ r v → Den Hk' H' σ r v
  | .val _, _, h => Rp.up g.k h
  | .own _, _, ⟨p, xs, a, b, c, d⟩ => ⟨p, xs, a, g.fr p (by rw [c]; exact fun z => nomatch z) b, g.h _ _ c, RpAll.up g.k d⟩
  | .bor _ _, _, ⟨p, xs, a, s, b, c, d⟩ => ⟨p, xs, a, s, g.fr p (by rw [c]; exact fun z => nomatch z) b, g.h _ _ c, RpAll.up g.k d⟩

section
variable (K : PySem.W.Frag) (W : WX)
def PostE (Hk H : Hp) (σ : Sl) (Q : VK) : R Rv → Prop
  | .ok r => ∀ v Hk' H', Gr Hk H Hk' H' → New H r v → Den Hk' H' σ r v → Q v H'
  | .err c => ∀ Hk' H', Gr Hk H Hk' H' → W (.ref (He.ga K c)) none σ H'
  | .bad => False
def PostT (Hk H : Hp) (σ : Sl) (Q : Bool → Hp → Prop) : R Bool → Prop
  | .ok b => ∀ Hk' H', Gr Hk H Hk' H' → Q b H'
  | .err c => ∀ Hk' H', Gr Hk H Hk' H' → W (.ref (He.ga K c)) none σ H'
  | .bad => False
def te (φ : En → R Rv) : TE := fun σ H Q => ∃ Hk0 H0 Hk ρ, Rel Hk0 H0 Hk H σ ρ ∧ PostE K W Hk H σ Q (φ ρ)
def tt (φ : En → R Bool) : TT := fun σ H Q => ∃ Hk0 H0 Hk ρ, Rel Hk0 H0 Hk H σ ρ ∧ PostT K W Hk H σ Q (φ ρ)
end
section
variable {K : PySem.W.Frag} {W : WX} {Hk0 H0 Hk H Hk' H' : Hp} {σ : Sl} {ρ : En} {Q : VK}
theorem PostE.up {r : R Rv} (g : Gr Hk H Hk' H') (h : PostE K W Hk H σ Q r) : PostE K W Hk' H' σ Q r := by
  cases r with
  | ok r => exact fun v Hk2 H2 g2 n d => h v Hk2 H2 (g.trans g2) (n.back g.h) d
  | err c => exact fun Hk2 H2 g2 => h Hk2 H2 (g.trans g2)
  | bad => exact h
theorem PostT.up {Q : Bool → Hp → Prop} {r : R Bool} (g : Gr Hk H Hk' H') (h : PostT K W Hk H σ Q r) : PostT K W Hk' H' σ Q r := by
  cases r with
  | ok r => exact fun Hk2 H2 g2 => h Hk2 H2 (g.trans g2)
  | err c => exact fun Hk2 H2 g2 => h Hk2 H2 (g.trans g2)
  | bad => exact h
/-- an expression, then what is done with its value -/
theorem te_then {φ : En → R Rv} {g : Rv → R Rv} {Q' : VK} (r : Rel Hk0 H0 Hk H σ ρ) (p : PostE K W Hk H σ Q (φ ρ >>= g))
    (k : ∀ x v Hk' H', Gr Hk H Hk' H' → New H x v → Den Hk' H' σ x v → Rel Hk0 H0 Hk' H' σ ρ → PostE K W Hk H σ Q (g x) → Q' v H') : te K W φ σ H Q' := by
  refine ⟨Hk0, H0, Hk, ρ, r, ?_⟩
  cases e : φ ρ with
  | ok x =>
    rw [e] at p
    exact fun v Hk' H' gr n d => k x v Hk' H' gr n d (r.up gr) p
  | err c => rw [e] at p; exact p
  | bad => rw [e] at p; exact p
theorem te_thenT {φ : En → R Rv} {g : Rv → R Bool} {Q : Bool → Hp → Prop} {Q' : VK} (r : Rel Hk0 H0 Hk H σ ρ) (p : PostT K W Hk H σ Q (φ ρ >>= g))
    (k : ∀ x v Hk' H', Gr Hk H Hk' H' → New H x v → Den Hk' H' σ x v → Rel Hk0 H0 Hk' H' σ ρ → PostT K W Hk' H' σ Q (g x) → Q' v H') : te K W φ σ H Q' := by
  refine ⟨Hk0, H0, Hk, ρ, r, ?_⟩
  cases e : φ ρ with
  | ok x =>
    rw [e] at p
    exact fun v Hk' H' gr n d => k x v Hk' H' gr n d (r.up gr) (PostT.up gr p)
  | err c => rw [e] at p; exact p
  | bad => rw [e] at p; exact p
theorem tt_then {φ : En → R Bool} {g : Bool → R Rv} {Q' : Bool → Hp → Prop} (r : Rel Hk0 H0 Hk H σ ρ) (p : PostE K W Hk H σ Q (φ ρ >>= g))
    (k : ∀ x Hk' H', Gr Hk H Hk' H' → Rel Hk0 H0 Hk' H' σ ρ → PostE K W Hk' H' σ Q (g x) → Q' x H') : tt K W φ σ H Q' := by
  refine ⟨Hk0, H0, Hk, ρ, r, ?_⟩
  cases e : φ ρ with
  | ok x =>
    rw [e] at p
    exact fun Hk' H' gr => k x Hk' H' gr (r.up gr) (PostE.up gr p)
  | err c => rw [e] at p; exact p
  | bad => rw [e] at p; exact p
theorem tt_thenT {φ : En → R Bool} {g : Bool → R Bool} {Q Q' : Bool → Hp → Prop} (r : Rel Hk0 H0 Hk H σ ρ) (p : PostT K W Hk H σ Q (φ ρ >>= g))
    (k : ∀ x Hk' H', Gr Hk H Hk' H' → Rel Hk0 H0 Hk' H' σ ρ → PostT K W Hk' H' σ Q (g x) → Q' x H') : tt K W φ σ H Q' := by
  refine ⟨Hk0, H0, Hk, ρ, r, ?_⟩
  cases e : φ ρ with
  | ok x =>
    rw [e] at p
    exact fun Hk' H' gr => k x Hk' H' gr (r.up gr) (PostT.up gr p)
  | err c => rw [e] at p; exact p
  | bad => rw [e] at p; exact p
/-- the end: a value that needs no new object -/
theorem PostE.here {d : PyData} {v : V} (e : Ex Hk H) (p : PostE K W Hk H σ Q (.ok (.val d))) (h : Rp Hk v d) : Q v H := p v Hk H (Gr.refl e) trivial h
end
section
variable {X : Cx}
theorem pe_imp {e : Expr} {t t' : TE} (h : PE X e t) (w : ∀ σ H Q, t' σ H Q → t σ H Q) : PE X e t' := ⟨fun pins s σ H Q I q => h.run pins s σ H Q I (w σ H Q q)⟩
theorem pt_imp {e : Expr} {t t' : TT} (h : PT X e t) (w : ∀ σ H Q, t' σ H Q → t σ H Q) : PT X e t' := ⟨fun pins s σ H Q I q => h.run pins s σ H Q I (w σ H Q q)⟩
theorem pw_imp {e : Expr} {t t' : TT} (h : PW X e t) (w : ∀ σ H Q, t' σ H Q → t σ H Q) : PW X e t' := ⟨fun wh pins s σ H Q I q => h.run wh pins s σ H Q I (w σ H Q q)⟩
theorem pa_imp {e : List Expr} {t t' : TA} (h : PA X e t) (w : ∀ σ H Q, t' σ H Q → t σ H Q) : PA X e t' := ⟨fun pos pins s σ H Q I q => h.run pos pins s σ H Q I (w σ H Q q)⟩
theorem ps_imp {e : Stmt} {t t' : TS} (h : PS X e t) (w : ∀ D σ H, t' D σ H → t D σ H) : PS X e t' := ⟨fun pins s σ H D I q => h.run pins s σ H D I (w D σ H q)⟩
theorem pss_imp {e : List Stmt} {t t' : TS} (h : PSs X e t) (w : ∀ D σ H, t' D σ H → t D σ H) : PSs X e t' := ⟨fun pins s σ H D I q => h.run pins s σ H D I (w D σ H q)⟩
theorem pi_imp {tg e : Expr} {t t' : TI} (h : PI X tg e t) (w : ∀ σ H Q, t' σ H Q → t σ H Q) : PI X tg e t' := ⟨fun pins s σ H Q I q => h.run pins s σ H Q I (w σ H Q q)⟩
end

/-! ### expressions -/
/-- a temporary list is known for good -/
def frz : Rv → Rv
  | .own ds => .val (.list ds)
  | r => r
def Rv.toVal : Rv → R PyData
  | .val d => .ok d
  | .own ds => .ok (.list ds)
  | .bor _ _ => .bad
/-- its data -/
def Rv.dat : Rv → PyData
  | .val d => d
  | .own ds => .list ds
  | .bor _ ds => .list ds
/-- its items -/
def Rv.items : Rv → R (List PyData)
  | .val (.list ds) => .ok ds
  | .val (.tuple ds) => .ok ds
  | .own ds => .ok ds
  | .bor _ ds => .ok ds
  | _ => .bad
def Rv.toInt : Rv → R Int
  | .val (.int i) => .ok i
  | _ => .bad
def Rv.toBool : Rv → R Bool
  | .val (.bool b) => .ok b
  | _ => .bad
def Rv.toStr : Rv → R Str
  | .val (.str b) => .ok b
  | _ => .bad
theorem toInt_ok {r : Rv} {i : Int} (h : r.toInt = .ok i) : r = .val (.int i) := by
  cases r with
  | val d => cases d <;> first | (cases h; rfl) | cases h
  | own _ => cases h
  | bor _ _ => cases h
theorem toBool_ok {r : Rv} {i : Bool} (h : r.toBool = .ok i) : r = .val (.bool i) := by
  cases r with
  | val d => cases d <;> first | (cases h; rfl) | cases h
  | own _ => cases h
  | bor _ _ => cases h
theorem toStr_ok {r : Rv} {i : Str} (h : r.toStr = .ok i) : r = .val (.str i) := by
  cases r with
  | val d => cases d <;> first | (cases h; rfl) | cases h
  | own _ => cases h
  | bor _ _ => cases h
section
variable {Hk H : Hp} {σ : Sl}
theorem Den.dat (e : Ex Hk H) : ∀ {r : Rv} {v : V}, Den Hk H σ r v → Rp H v r.dat
  | .val _, _, h => Rp.up e h
  | .own _, _, ⟨p, xs, a, _, c, d⟩ => by subst a; exact .lst (.inl (.inl c)) (RpAll.up e d)
  | .bor _ _, _, ⟨p, xs, a, _, _, c, d⟩ => by subst a; exact .lst (.inl (.inl c)) (RpAll.up e d)
theorem Den.int {r : Rv} {v : V} {i : Int} (h : Den Hk H σ r v) (e : r.toInt = .ok i) : v = .int i := by
  rw [toInt_ok e] at h; cases (show Rp Hk v (.int i) from h); rfl
theorem Den.bool {r : Rv} {v : V} {i : Bool} (h : Den Hk H σ r v) (e : r.toBool = .ok i) : v = .bl i := by
  rw [toBool_ok e] at h; cases (show Rp Hk v (.bool i) from h); rfl
theorem Den.str {r : Rv} {v : V} {i : Str} (h : Den Hk H σ r v) (e : r.toStr = .ok i) : v = .str i := by
  rw [toStr_ok e] at h; cases (show Rp Hk v (.str i) from h); rfl
/-- the items of a sequence -/
theorem Den.items (e : Ex Hk H) {r : Rv} {v : V} {ds : List PyData} (h : Den Hk H σ r v) (q : r.items = .ok ds) : ∃ a xs, v = .ref a ∧ (Rl H a xs ∨ Rd H a (.tup xs)) ∧ RpAll Hk xs ds := by
  cases r with
  | val d =>
    cases d with
    | list es => cases q; cases (show Rp Hk v (.list ds) from h) with | lst s a => exact ⟨_, _, rfl, .inl (Rl.up e s), a⟩
    | tuple es => cases q; cases (show Rp Hk v (.tuple ds) from h) with | tup s a => exact ⟨_, _, rfl, .inr (Evl.ex_rd e s), a⟩
    | _ => cases q
  | own es => cases q; obtain ⟨p, xs, a, _, c, d⟩ := h; exact ⟨p, xs, a, .inl (.inl (.inl c)), d⟩
  | bor i es => cases q; obtain ⟨p, xs, a, _, _, c, d⟩ := h; exact ⟨p, xs, a, .inl (.inl (.inl c)), d⟩
end
section
variable {X : Cx} {W : WX}
/-- own lists made known as they come -/
theorem e_frz {e : Expr} {φ : En → R Rv} (h : PE X e (te X.K W φ)) : PE X e (te X.K W fun ρ => φ ρ >>= fun r => .ok (frz r)) := pe_imp h fun σ H Q ⟨Hk0, H0, Hk, ρ, r, p⟩ => by
  refine te_then r p fun x v Hk' H' g n d r' p' => ?_
  cases x with
  | val d' => exact p' v Hk' H' g trivial d
  | own ds =>
    obtain ⟨q, xs, a, b, c, f⟩ := d
    obtain ⟨q', a', b'⟩ := n
    subst a
    cases a'
    exact p' _ _ H' (g.frz b' c b) trivial (.lst (.inl (.inl upd_same)) (RpAll.up (Ex.new b) f))
  | bor i ds => exact p' v Hk' H' g trivial d
end
end Py

set_option Elab.async false
set_option linter.all false
set_option maxRecDepth 100000
set_option autoImplicit false
set_option maxHeartbeats 1000000
/-! PyB: expressions. -/
namespace Py
variable [KK]
open PySem L2
open Evl (Ex)

def Rv.isOwn : Rv → Bool
  | .own _ => true
  | _ => false
theorem frz_not (x : Rv) : (frz x).isOwn = false := by cases x <;> rfl
section
variable {K : PySem.W.Frag} {W : WX} {Hk0 H0 Hk H Hk' H' : Hp} {σ : Sl} {ρ : En} {Q : VK}
theorem te_thenF {φ : En → R Rv} {g : Rv → R Rv} {Q' : VK} (r : Rel Hk0 H0 Hk H σ ρ) (p : PostE K W Hk H σ Q (φ ρ >>= fun x => g (frz x)))
    (k : ∀ x v Hk' H', Gr Hk H Hk' H' → Den Hk' H' σ x v → x.isOwn = false → Rel Hk0 H0 Hk' H' σ ρ → PostE K W Hk H σ Q (g x) → Q' v H') : te K W φ σ H Q' :=
  te_then r p fun x v Hk' H' g n d r' p' => by
    cases x with
    | val d' => exact k _ v Hk' H' g d rfl r' p'
    | own ds =>
      obtain ⟨q, xs, a, b, c, f⟩ := d
      obtain ⟨q', a', b'⟩ := n
      subst a
      cases a'
      have g2 := g.frz b' c b
      refine k (.val (.list ds)) _ (upd Hk' q (.lst xs)) H' g2 (.lst (.inl (.inl upd_same)) (RpAll.up (Ex.new b) f)) rfl ?_ p'
      exact ⟨r.len, r.gr.trans g2, fun i d e => let ⟨v, a, b⟩ := r.val i d e; ⟨v, a, Rp.up g2.k b⟩, fun i ds e => let ⟨p, xs, a, b, c, d, f⟩ := r.own i ds e; ⟨p, xs, a, b, g2.fr p (by rw [d]; exact fun z => nomatch z) c, g2.h _ _ d, RpAll.up g2.k f⟩, r.sep, r.raw, fun i ds e => let ⟨p, xs, a, b, c, d, f⟩ := r.dct i ds e; ⟨p, xs, a, b, g2.fr p (by rw [d]; exact fun z => nomatch z) c, g2.h _ _ d, DR.up g2.k f⟩, fun i d e => let ⟨v, a, b⟩ := r.tpn i d e; ⟨v, a, TN.up g2.k b⟩, r.dsep, fun i d e => let ⟨v, a, b⟩ := r.kn i d e; ⟨v, a, Tg.up g2.k b⟩⟩
    | bor i ds => exact k _ v Hk' H' g d rfl r' p'
/-- a test as a value -/
def eT (φ : En → R Bool) : En → R Rv := fun ρ => φ ρ >>= fun b => .ok (.val (.bool b))
theorem R.assoc {α β γ : Type} (m : R α) (f : α → R β) (g : β → R γ) : ((m >>= f) >>= g) = (m >>= fun x => f x >>= g) := by cases m <;> rfl
theorem PostT.toE {Q : Bool → Hp → Prop} {r : R Bool} (p : PostT K W Hk H σ Q r) : PostE K W Hk H σ (fun x H' => ∃ k, x = .bl k ∧ Q k H') (r >>= fun b => .ok (.val (.bool b))) := by
  cases r with
  | ok b => exact fun v Hk' H' g n d => by cases (show Rp Hk' v (.bool b) from d); exact ⟨b, rfl, p Hk' H' g⟩
  | err c => exact p
  | bad => exact p
theorem PostE.toT {Q : Bool → Hp → Prop} {r : R Bool} (p : PostE K W Hk H σ (fun x H' => ∃ k, x = .bl k ∧ Q k H') (r >>= fun b => .ok (.val (.bool b)))) : PostT K W Hk H σ Q r := by
  cases r with
  | ok b =>
    intro Hk' H' g
    obtain ⟨k, e, q⟩ := p (.bl b) Hk' H' g trivial (Rp.bl b)
    cases e
    exact q
  | err c => exact p
  | bad => exact p
theorem te_thenFT {φ : En → R Rv} {g : Rv → R Bool} {Q : Bool → Hp → Prop} {Q' : VK} (r : Rel Hk0 H0 Hk H σ ρ) (p : PostT K W Hk H σ Q (φ ρ >>= fun x => g (frz x)))
    (k : ∀ x v Hk' H', Gr Hk H Hk' H' → Den Hk' H' σ x v → x.isOwn = false → Rel Hk0 H0 Hk' H' σ ρ → PostT K W Hk H σ Q (g x) → Q' v H') : te K W φ σ H Q' := by
  have p2 := p.toE
  rw [R.assoc] at p2
  exact te_thenF (g := fun x => g x >>= fun b => .ok (.val (.bool b))) r p2 fun x v Hk' H' gr d n r' p3 => k x v Hk' H' gr d n r' p3.toT
theorem PostE.bindT {φ : R Bool} {g : Bool → R Rv} (p : PostE K W Hk H σ Q (φ >>= g)) : PostT K W Hk H σ (fun b H' => True) φ := by
  cases φ with
  | ok b => exact fun _ _ _ => trivial
  | err c => exact p
  | bad => exact p
end

/-! ### names, constants -/
def eVar (i : Nat) : En → R Rv := fun ρ => match ρ[i]? with
  | some (some (.val d)) => .ok (.val d)
  | some (some (.own ds)) => .ok (.bor i ds)
  | some (some (.tpn ds)) => .ok (.val (.tuple ds))
  | _ => .bad
def eK (d : PyData) : En → R Rv := fun _ => .ok (.val d)
section
variable {X : Cx} [OK X] {W : WX}
theorem d_var (i : Nat) {x : Str} {pos : Pos} (hN : X.N[i]? = some x := by rfl) (hv : Vis X.env.scope x := by first | exact Or.inl rfl | exact Or.inr (Or.inl rfl) | exact Or.inr (Or.inr rfl)) (hd : (x == ("__debug__" : Str)) = false := by decide)
    (hcd : (x == ("__classdict__" : Str)) = false := by decide) : PE X (.Name x pos) (te X.K W (eVar i)) := pe_imp (pv i hN hv hd hcd) fun σ H Q ⟨Hk0, H0, Hk, ρ, r, p⟩ => by
  unfold eVar at p
  split at p
  · rename_i d e
    obtain ⟨v, h1, h2⟩ := r.val i d e
    exact ⟨v, h1, p v Hk H (Gr.refl r.kh) trivial h2⟩
  · rename_i ds e
    obtain ⟨q, xs, h1, h2, h3, h4, h5⟩ := r.own i ds e
    exact ⟨_, h1, p _ Hk H (Gr.refl r.kh) trivial ⟨q, xs, rfl, h1, h3, h4, h5⟩⟩
  · rename_i ds e
    obtain ⟨v, h1, h2⟩ := r.tpn i ds e
    exact ⟨v, h1, p v Hk H (Gr.refl r.kh) trivial h2.rp⟩
  · exact p.elim
theorem d_c {e : Expr} {v : V} {d : PyData} (h : PE X e (tC v)) (hd : ∀ Hk, Rp Hk v d) : PE X e (te X.K W (eK d)) := pe_imp h fun σ H Q ⟨Hk0, H0, Hk, ρ, r, p⟩ => p v Hk H (Gr.refl r.kh) trivial (hd Hk)
theorem d_int {i : Int} {j : Nat} {pos : Pos} : PE X (.Constant (.int i) j pos) (te X.K W (eK (.int i))) := d_c pe_int fun _ => .int i
theorem d_bl {i : Bool} {j : Nat} {pos : Pos} : PE X (.Constant (.bool i) j pos) (te X.K W (eK (.bool i))) := d_c pe_bl fun _ => .bl i
theorem d_non {j : Nat} {pos : Pos} : PE X (.Constant .none j pos) (te X.K W (eK .none)) := d_c pe_non fun _ => .non
theorem d_str {i : Str} {j : Nat} {pos : Pos} : PE X (.Constant (.str i) j pos) (te X.K W (eK (.str i))) := d_c pe_str fun _ => .str i
theorem d_gint {x : Str} {i : Int} {pos : Pos} (hm : ∃ t, X.mg x = some (.int i t)) (hg : Gl X x := by rfl) (hd : (x == ("__debug__" : Str)) = false := by decide) : PE X (.Name x pos) (te X.K W (eK (.int i))) := by
  obtain ⟨t, hm⟩ := hm
  exact d_c (pe_glob (v := .int i) hg hm ⟨t, rfl⟩ hd) fun _ => .int i
theorem d_gstr {x : Str} {i : Str} {pos : Pos} (hm : ∃ t, X.mg x = some (.str i t)) (hg : Gl X x := by rfl) (hd : (x == ("__debug__" : Str)) = false := by decide) : PE X (.Name x pos) (te X.K W (eK (.str i))) := by
  obtain ⟨t, hm⟩ := hm
  exact d_c (pe_glob (v := .str i) hg hm ⟨t, rfl⟩ hd) fun _ => .str i
end

/-! ### operators by values -/
section
variable (K : PySem.W.Frag) (W : WX)
def rD (g : Rv → Rv → R Rv) : R2 := fun x y H Q => ∃ Hk σ a b, Ex Hk H ∧ Den Hk H σ a x ∧ Den Hk H σ b y ∧ PostE K W Hk H σ Q (g a b)
def rD1 (g : Rv → R Rv) : V → Hp → VK → Prop := fun x H Q => ∃ Hk σ a, Ex Hk H ∧ Den Hk H σ a x ∧ PostE K W Hk H σ Q (g a)
end
def e2 (g : Rv → Rv → R Rv) (φ ψ : En → R Rv) : En → R Rv := fun ρ => φ ρ >>= fun x => ψ ρ >>= fun y => g (frz x) (frz y)
def t2 (g : Rv → Rv → R Bool) (φ ψ : En → R Rv) : En → R Bool := fun ρ => φ ρ >>= fun x => ψ ρ >>= fun y => g (frz x) (frz y)
def e1 (g : Rv → R Rv) (φ : En → R Rv) : En → R Rv := fun ρ => φ ρ >>= fun x => g (frz x)
def gB (c : Rv → Rv → R Bool) : Rv → Rv → R Rv := fun a b => c a b >>= fun k => .ok (.val (.bool k))
def eChain (c c' : Rv → Rv → R Bool) (φ ψ χ : En → R Rv) : En → R Bool := fun ρ => φ ρ >>= fun x => ψ ρ >>= fun y => c (frz x) (frz y) >>= fun b => if b = true then χ ρ >>= fun z => c' (frz y) (frz z) else .ok false
section
variable {X : Cx} [OK X] {W : WX} {a b c : Expr} {φ ψ χ : En → R Rv} {pos : Pos}
theorem d_bin {op : Operator} {g : Rv → Rv → R Rv} (ho : OpR X (binaryOp op) (rD X.K W g)) (ha : PE X a (te X.K W φ)) (hb : PE X b (te X.K W ψ)) : PE X (.BinOp a op b pos) (te X.K W (e2 g φ ψ)) :=
  pe_imp (pe_op ho ha hb) fun σ H Q ⟨Hk0, H0, Hk, ρ, r, p⟩ => te_thenF (g := fun x => ψ ρ >>= fun y => g x (frz y)) r p fun x v Hk1 H1 g1 d1 n1 r1 p1 =>
    te_thenF (g := fun y => g x y) r1 (PostE.up g1 p1) fun y u Hk2 H2 g2 d2 n2 r2 p2 => ⟨Hk2, σ, x, y, g2.kh, Den.up g2 d1, d2, PostE.up g2 p2⟩
theorem d_cmp {op : CmpOp} {g : Rv → Rv → R Bool} (ho : OpR X (compareOp op) (rD X.K W (gB g))) (ha : PE X a (te X.K W φ)) (hb : PE X b (te X.K W ψ)) (hm : behindInMarks op b = false := by first | exact nomark _ | rfl) : PE X (.Compare a [op] [b] pos) (te X.K W (eT (t2 g φ ψ))) :=
  pe_imp (pe_cmpR ho ha hb hm) fun σ H Q ⟨Hk0, H0, Hk, ρ, r, p⟩ => by
    unfold eT t2 at p
    rw [R.assoc] at p
    refine te_thenF (g := fun x => (ψ ρ >>= fun y => g x (frz y)) >>= fun b => .ok (.val (.bool b))) r p fun x v Hk1 H1 g1 d1 n1 r1 p1 => ?_
    rw [R.assoc] at p1
    exact te_thenF (g := fun y => gB g x y) r1 (PostE.up g1 p1) fun y u Hk2 H2 g2 d2 n2 r2 p2 => ⟨Hk2, σ, x, y, g2.kh, Den.up g2 d1, d2, PostE.up g2 p2⟩
theorem d_cmpT {op : CmpOp} {g : Rv → Rv → R Bool} (ho : OpR X (compareOp op) (rD X.K W (gB g))) (ha : PE X a (te X.K W φ)) (hb : PE X b (te X.K W ψ)) (hm : behindInMarks op b = false := by first | exact nomark _ | rfl) : PT X (.Compare a [op] [b] pos) (tt X.K W (t2 g φ ψ)) :=
  pt_imp (pt_cmpR ho ha hb hm) fun σ H Q ⟨Hk0, H0, Hk, ρ, r, p⟩ =>
    te_thenFT (g := fun x => ψ ρ >>= fun y => g x (frz y)) r p fun x v Hk1 H1 g1 d1 n1 r1 p1 =>
      te_thenFT (g := fun y => g x y) r1 (PostT.up g1 p1) fun y u Hk2 H2 g2 d2 n2 r2 p2 => ⟨Hk2, σ, x, y, g2.kh, Den.up g2 d1, d2, PostT.toE (PostT.up g2 p2)⟩
theorem chain_read {g g' : Rv → Rv → R Bool} {σ : Sl} {H : Hp} {Q : VK} (h : te X.K W (eT (eChain g g' φ ψ χ)) σ H Q) : tChain (rD X.K W (gB g)) (rD X.K W (gB g')) (te X.K W φ) (te X.K W ψ) (te X.K W χ) σ H Q := by
  obtain ⟨Hk0, H0, Hk, ρ, r, p⟩ := h
  unfold eT eChain at p
  rw [R.assoc] at p
  refine te_thenF (g := fun x => (ψ ρ >>= fun y => g x (frz y) >>= fun b => if b = true then χ ρ >>= fun z => g' (frz y) (frz z) else .ok false) >>= fun b => .ok (.val (.bool b))) r p fun x v Hk1 H1 g1 d1 n1 r1 p1 => ?_
  rw [R.assoc] at p1
  refine te_thenF (g := fun y => (g x y >>= fun b => if b = true then χ ρ >>= fun z => g' y (frz z) else .ok false) >>= fun b => .ok (.val (.bool b))) r1 (PostE.up g1 p1) fun y u Hk2 H2 g2 d2 n2 r2 p2 => ?_
  have p3 := PostE.up g2 p2
  rw [R.assoc] at p3
  refine ⟨Hk2, σ, x, y, g2.kh, Den.up g2 d1, d2, ?_⟩
  show PostE _ _ _ _ _ _ (g x y >>= fun k => .ok (.val (.bool k)))
  cases e : g x y with
  | ok b =>
    rw [e] at p3
    intro z Hk3 H3 g3 n3 d3
    cases (show Rp Hk3 z (.bool b) from d3)
    refine ⟨b, rfl, ?_⟩
    cases b with
    | false => 
      rw [if_neg Bool.false_ne_true]
      exact p3 (.bl false) Hk3 H3 g3 trivial (Rp.bl false)
    | true =>
      rw [if_pos rfl]
      have p4 : PostE X.K W Hk2 H2 σ Q ((χ ρ >>= fun z => g' y (frz z)) >>= fun b => .ok (.val (.bool b))) := p3
      rw [R.assoc] at p4
      exact te_thenF (g := fun z => gB g' y z) (r2.up g3) (PostE.up g3 p4) fun z w Hk4 H4 g4 d4 n4 r4 p5 => ⟨Hk4, σ, y, z, g4.kh, Den.up g4 (Den.up g3 d2), d4, PostE.up g4 p5⟩
  | err c => rw [e] at p3; exact p3
  | bad => rw [e] at p3; exact p3
theorem d_chain {op op' : CmpOp} {g g' : Rv → Rv → R Bool} (ho : OpR X (compareOp op) (rD X.K W (gB g))) (ho' : OpR X (compareOp op') (rD X.K W (gB g'))) (ha : PE X a (te X.K W φ)) (hb : PE X b (te X.K W ψ)) (hc : PE X c (te X.K W χ))
    (hm : lastMarks [op, op'] [b, c] = false := by with_unfolding_all rfl) : PE X (.Compare a [op, op'] [b, c] pos) (te X.K W (eT (eChain g g' φ ψ χ))) := pe_imp (pe_chain ho ho' ha hb hc hm) fun σ H Q h => chain_read h
theorem d_chainT {op op' : CmpOp} {g g' : Rv → Rv → R Bool} (ho : OpR X (compareOp op) (rD X.K W (gB g))) (ho' : OpR X (compareOp op') (rD X.K W (gB g'))) (ha : PE X a (te X.K W φ)) (hb : PE X b (te X.K W ψ)) (hc : PE X c (te X.K W χ))
    (hm : lastMarks [op, op'] [b, c] = false := by with_unfolding_all rfl) : PT X (.Compare a [op, op'] [b, c] pos) (tt X.K W (eChain g g' φ ψ χ)) := pt_imp (pt_chain ho ho' ha hb hc hm) fun σ H Q ⟨Hk0, H0, Hk, ρ, r, p⟩ =>
  chain_read ⟨Hk0, H0, Hk, ρ, r, PostT.toE p⟩
/-- a value as a test -/
def tE (φ : En → R Rv) : En → R Bool := fun ρ => φ ρ >>= fun x => (frz x).toBool
theorem d_val (h : PE X a (te X.K W φ)) (he : ∀ whole, isTrue a X.env whole = (do let v ← whole; standAt a.pos; holding [v] (truthy v)) := by intro _; rfl) : PT X a (tt X.K W (tE φ)) := pt_imp (pt_val h he) fun σ H Q ⟨Hk0, H0, Hk, ρ, r, p⟩ => by
  refine te_thenFT (g := fun x => x.toBool) r p fun x v Hk' H' g d n r' p' => ?_
  cases e : x.toBool with
  | ok b => rw [e] at p'; exact ⟨b, d.bool e, p' Hk' H' g⟩
  | err c => cases x with
    | val d => cases d <;> cases e
    | own _ => cases e
    | bor _ _ => cases e
  | bad => rw [e] at p'; exact p'.elim
end

/-! ### and, or, not, if -/
def tAnd (φ ψ : En → R Bool) : En → R Bool := fun ρ => φ ρ >>= fun b => if b = true then ψ ρ else .ok false
def tOr (φ ψ : En → R Bool) : En → R Bool := fun ρ => φ ρ >>= fun b => if b = true then .ok true else ψ ρ
def tNot (φ : En → R Bool) : En → R Bool := fun ρ => φ ρ >>= fun b => .ok (!b)
def eAnd (φ : En → R Rv) (ψ : En → R Rv) : En → R Rv := fun ρ => tE φ ρ >>= fun b => if b = true then ψ ρ else .ok (.val (.bool false))
def eOr (φ : En → R Rv) (ψ : En → R Rv) : En → R Rv := fun ρ => tE φ ρ >>= fun b => if b = true then .ok (.val (.bool true)) else ψ ρ
def eNot (φ : En → R Rv) : En → R Rv := eT (tNot (tE φ))
def eIf (t : En → R Bool) (φ ψ : En → R Rv) : En → R Rv := fun ρ => t ρ >>= fun b => if b = true then φ ρ else ψ ρ
section
variable {X : Cx} [OK X] {W : WX} {a b c : Expr} {φ ψ χ : En → R Rv} {s t : En → R Bool} {pos : Pos} {rest : List Expr}
theorem d_and1 (ha : PT X a (tt X.K W s)) : PW X (.BoolOp .And [a] pos) (tt X.K W s) := pw_and1 ha
theorem d_or1 (ha : PT X a (tt X.K W s)) : PW X (.BoolOp .Or [a] pos) (tt X.K W s) := pw_or1 ha
theorem d_andC (ha : PT X a (tt X.K W s)) (hb : PW X (.BoolOp .And (b :: rest) pos) (tt X.K W t)) : PW X (.BoolOp .And (a :: b :: rest) pos) (tt X.K W (tAnd s t)) := pw_imp (pw_and ha hb) fun σ H Q ⟨Hk0, H0, Hk, ρ, r, p⟩ =>
  tt_thenT r p fun x Hk' H' g r' p' => by
    cases x with
    | true => rw [if_pos rfl]; exact ⟨Hk0, H0, Hk', ρ, r', p'⟩
    | false => rw [if_neg Bool.false_ne_true]; exact p' Hk' H' (Gr.refl g.kh)
theorem d_orC (ha : PT X a (tt X.K W s)) (hb : PW X (.BoolOp .Or (b :: rest) pos) (tt X.K W t)) : PW X (.BoolOp .Or (a :: b :: rest) pos) (tt X.K W (tOr s t)) := pw_imp (pw_or ha hb) fun σ H Q ⟨Hk0, H0, Hk, ρ, r, p⟩ =>
  tt_thenT r p fun x Hk' H' g r' p' => by
    cases x with
    | true => rw [if_pos rfl]; exact p' Hk' H' (Gr.refl g.kh)
    | false => rw [if_neg Bool.false_ne_true]; exact ⟨Hk0, H0, Hk', ρ, r', p'⟩
theorem d_notT (ha : PT X a (tt X.K W s)) : PT X (.UnaryOp .Not a pos) (tt X.K W (tNot s)) := pt_imp (pt_not ha) fun σ H Q ⟨Hk0, H0, Hk, ρ, r, p⟩ =>
  tt_thenT r p fun x Hk' H' g r' p' => p' Hk' H' (Gr.refl g.kh)
theorem tE_read {σ : Sl} {H : Hp} {Hk0 H0 Hk : Hp} {ρ : En} {Q Q' : VK} {g : Bool → R Rv} (r : Rel Hk0 H0 Hk H σ ρ) (p : PostE X.K W Hk H σ Q (tE φ ρ >>= g)) (k : ∀ b Hk' H', Gr Hk H Hk' H' → Rel Hk0 H0 Hk' H' σ ρ → PostE X.K W Hk' H' σ Q (g b) → Q' (.bl b) H') : te X.K W φ σ H Q' := by
  unfold tE at p
  rw [R.assoc] at p
  refine te_thenF (g := fun x => x.toBool >>= g) r p fun x v Hk' H' gr d n r' p' => ?_
  cases e : x.toBool with
  | ok b =>
    rw [e] at p'
    rw [d.bool e]
    exact k b Hk' H' gr r' (PostE.up gr p')
  | err c => cases x with
    | val d => cases d <;> cases e
    | own _ => cases e
    | bor _ _ => cases e
  | bad => rw [e] at p'; exact p'.elim
theorem d_one {op : BoolOp} (h : PE X a (te X.K W φ)) : PE X (.BoolOp op [a] pos) (te X.K W φ) := pe_one h
theorem d_and (ha : PE X a (te X.K W φ)) (hb : PE X (.BoolOp .And (b :: rest) pos) (te X.K W ψ)) : PE X (.BoolOp .And (a :: b :: rest) pos) (te X.K W (eAnd φ ψ)) := pe_imp (pe_and ha hb) fun σ H Q ⟨Hk0, H0, Hk, ρ, r, p⟩ =>
  tE_read r p fun x Hk' H' g r' p' => by
    refine ⟨x, rfl, ?_⟩
    cases x with
    | true => rw [if_pos rfl]; exact ⟨Hk0, H0, Hk', ρ, r', p'⟩
    | false => rw [if_neg Bool.false_ne_true]; exact p' (.bl false) Hk' H' (Gr.refl g.kh) trivial (Rp.bl false)
theorem d_or (ha : PE X a (te X.K W φ)) (hb : PE X (.BoolOp .Or (b :: rest) pos) (te X.K W ψ)) : PE X (.BoolOp .Or (a :: b :: rest) pos) (te X.K W (eOr φ ψ)) := pe_imp (pe_or ha hb) fun σ H Q ⟨Hk0, H0, Hk, ρ, r, p⟩ =>
  tE_read r p fun x Hk' H' g r' p' => by
    refine ⟨x, rfl, ?_⟩
    cases x with
    | true => rw [if_pos rfl]; exact p' (.bl true) Hk' H' (Gr.refl g.kh) trivial (Rp.bl true)
    | false => rw [if_neg Bool.false_ne_true]; exact ⟨Hk0, H0, Hk', ρ, r', p'⟩
theorem d_not (ha : PE X a (te X.K W φ)) : PE X (.UnaryOp .Not a pos) (te X.K W (eNot φ)) := pe_imp (pe_not ha) fun σ H Q ⟨Hk0, H0, Hk, ρ, r, p⟩ => by
  unfold eNot eT tNot at p
  rw [R.assoc] at p
  exact tE_read r p fun x Hk' H' g r' p' => ⟨x, rfl, p' (.bl (!x)) Hk' H' (Gr.refl g.kh) trivial (Rp.bl _)⟩
theorem d_if (hc : PT X c (tt X.K W s)) (ha : PE X a (te X.K W φ)) (hb : PE X b (te X.K W ψ)) : PE X (.IfExp c a b pos) (te X.K W (eIf s φ ψ)) := pe_imp (pe_ifExp hc ha hb) fun σ H Q ⟨Hk0, H0, Hk, ρ, r, p⟩ =>
  tt_then r p fun x Hk' H' g r' p' => by
    cases x with
    | true => rw [if_pos rfl]; exact ⟨Hk0, H0, Hk', ρ, r', p'⟩
    | false => rw [if_neg Bool.false_ne_true]; exact ⟨Hk0, H0, Hk', ρ, r', p'⟩
end

/-! ### argument lists: all known for good; or by values -/
def evA : List (En → R Rv) → En → R (List PyData)
  | [], _ => .ok []
  | φ :: φs, ρ => φ ρ >>= fun r => (frz r).toVal >>= fun d => evA φs ρ >>= fun ds => .ok (d :: ds)
def evR : List (En → R Rv) → En → R (List Rv)
  | [], _ => .ok []
  | φ :: φs, ρ => φ ρ >>= fun r => evR φs ρ >>= fun ds => .ok (frz r :: ds)
inductive DenAll (Hk H : Hp) (σ : Sl) : List Rv → List V → Prop
  | nil : DenAll Hk H σ [] []
  | cons {r : Rv} {rs : List Rv} {v : V} {vs : List V} (h : Den Hk H σ r v) (t : DenAll Hk H σ rs vs) : DenAll Hk H σ (r :: rs) (v :: vs)
theorem DenAll.up {Hk H Hk' H' : Hp} {σ : Sl} (g : Gr Hk H Hk' H') : ∀ {rs : List Rv} {vs : List V}, DenAll Hk H σ rs vs → DenAll Hk' H' σ rs vs
  | _, _, .nil => .nil
  | _, _, .cons a b => .cons (Den.up g a) (DenAll.up g b)
section
variable (K : PySem.W.Frag) (W : WX)
def PostA (Hk H : Hp) (σ : Sl) (Q : List V → Hp → Prop) : R (List PyData) → Prop
  | .ok ds => ∀ vs Hk' H', Gr Hk H Hk' H' → RpAll Hk' vs ds → Q vs H'
  | .err c => ∀ Hk' H', Gr Hk H Hk' H' → W (.ref (He.ga K c)) none σ H'
  | .bad => False
def PostR (Hk H : Hp) (σ : Sl) (Q : List V → Hp → Prop) : R (List Rv) → Prop
  | .ok rs => ∀ vs Hk' H', Gr Hk H Hk' H' → DenAll Hk' H' σ rs vs → Q vs H'
  | .err c => ∀ Hk' H', Gr Hk H Hk' H' → W (.ref (He.ga K c)) none σ H'
  | .bad => False
def ta (φs : List (En → R Rv)) : TA := fun σ H Q => ∃ Hk0 H0 Hk ρ, Rel Hk0 H0 Hk H σ ρ ∧ PostA K W Hk H σ Q (evA φs ρ)
def tr (φs : List (En → R Rv)) : TA := fun σ H Q => ∃ Hk0 H0 Hk ρ, Rel Hk0 H0 Hk H σ ρ ∧ PostR K W Hk H σ Q (evR φs ρ)
end
theorem toVal_den {Hk H : Hp} {σ : Sl} {x : Rv} {v : V} {d : PyData} (h : Den Hk H σ x v) (n : x.isOwn = false) (e : x.toVal = .ok d) : Rp Hk v d := by
  cases x with
  | val d' => cases e; exact h
  | own ds => cases n
  | bor i ds => cases e
section
variable {X : Cx} [OK X] {W : WX} {e : Expr} {es : List Expr} {φ : En → R Rv} {φs : List (En → R Rv)}
theorem d_anil : PA X [] (ta X.K W []) := pa_imp pa_nil fun σ H Q ⟨Hk0, H0, Hk, ρ, r, p⟩ => p [] Hk H (Gr.refl r.kh) .nil
theorem d_acons (ha : PE X e (te X.K W φ)) (hr : PA X es (ta X.K W φs)) (hs : starEach (e :: es) X.env = (false, eval e X.env) :: starEach es X.env := by rfl) : PA X (e :: es) (ta X.K W (φ :: φs)) :=
  pa_imp (pa_cons ha hr hs) fun σ H Q ⟨Hk0, H0, Hk, ρ, r, p⟩ => by
    refine ⟨Hk0, H0, Hk, ρ, r, ?_⟩
    have p : PostA X.K W Hk H σ Q (φ ρ >>= fun r => (frz r).toVal >>= fun d => evA φs ρ >>= fun ds => .ok (d :: ds)) := p
    cases e1 : φ ρ with
    | err c => rw [e1] at p; exact p
    | bad => rw [e1] at p; exact p
    | ok x =>
      rw [e1] at p
      have p : PostA X.K W Hk H σ Q ((frz x).toVal >>= fun d => evA φs ρ >>= fun ds => .ok (d :: ds)) := p
      intro v Hk1 H1 g1 n1 d1
      cases e2 : (frz x).toVal with
      | err c => cases x <;> cases e2
      | bad => rw [e2] at p; exact p.elim
      | ok d =>
        rw [e2] at p
        have p : PostA X.K W Hk H σ Q (evA φs ρ >>= fun ds => .ok (d :: ds)) := p
        obtain ⟨Hk2, g2, d2⟩ : ∃ Hk2, Gr Hk H Hk2 H1 ∧ Rp Hk2 v d := by
          cases x with
          | val d' => cases e2; exact ⟨Hk1, g1, d1⟩
          | own ds =>
            cases e2
            obtain ⟨q, xs, a, b, c, f⟩ := d1
            obtain ⟨q', a', b'⟩ := n1
            subst a
            cases a'
            exact ⟨_, g1.frz b' c b, .lst (.inl (.inl upd_same)) (RpAll.up (Ex.new b) f)⟩
          | bor i ds => cases e2
        refine ⟨Hk0, H0, Hk2, ρ, r.up g2, ?_⟩
        cases e3 : evA φs ρ with
        | err c => rw [e3] at p; exact fun Hk3 H3 g3 => p Hk3 H3 (g2.trans g3)
        | bad => rw [e3] at p; exact p
        | ok ds =>
          rw [e3] at p
          exact fun vs Hk3 H3 g3 d3 => p (v :: vs) Hk3 H3 (g2.trans g3) (.cons (Rp.up g3.k d2) d3)
theorem d_rnil : PA X [] (tr X.K W []) := pa_imp pa_nil fun σ H Q ⟨Hk0, H0, Hk, ρ, r, p⟩ => p [] Hk H (Gr.refl r.kh) .nil
theorem d_rcons (ha : PE X e (te X.K W φ)) (hr : PA X es (tr X.K W φs)) (hs : starEach (e :: es) X.env = (false, eval e X.env) :: starEach es X.env := by rfl) : PA X (e :: es) (tr X.K W (φ :: φs)) :=
  pa_imp (pa_cons ha hr hs) fun σ H Q ⟨Hk0, H0, Hk, ρ, r, p⟩ => by
    refine ⟨Hk0, H0, Hk, ρ, r, ?_⟩
    have p : PostR X.K W Hk H σ Q (φ ρ >>= fun r => evR φs ρ >>= fun ds => .ok (frz r :: ds)) := p
    cases e1 : φ ρ with
    | err c => rw [e1] at p; exact p
    | bad => rw [e1] at p; exact p
    | ok x =>
      rw [e1] at p
      have p : PostR X.K W Hk H σ Q (evR φs ρ >>= fun ds => .ok (frz x :: ds)) := p
      intro v Hk1 H1 g1 n1 d1
      obtain ⟨Hk2, g2, d2⟩ : ∃ Hk2, Gr Hk H Hk2 H1 ∧ Den Hk2 H1 σ (frz x) v := by
        cases x with
        | val d' => exact ⟨Hk1, g1, d1⟩
        | own ds =>
          obtain ⟨q, xs, a, b, c, f⟩ := d1
          obtain ⟨q', a', b'⟩ := n1
          subst a
          cases a'
          exact ⟨_, g1.frz b' c b, .lst (.inl (.inl upd_same)) (RpAll.up (Ex.new b) f)⟩
        | bor i ds => exact ⟨Hk1, g1, d1⟩
      refine ⟨Hk0, H0, Hk2, ρ, r.up g2, ?_⟩
      cases e3 : evR φs ρ with
      | err c => rw [e3] at p; exact fun Hk3 H3 g3 => p Hk3 H3 (g2.trans g3)
      | bad => rw [e3] at p; exact p
      | ok ds =>
        rw [e3] at p
        exact fun vs Hk3 H3 g3 d3 => p (v :: vs) Hk3 H3 (g2.trans g3) (.cons (Den.up g3 d2) d3)
end

/-! ### displays -/
def eTup (φs : List (En → R Rv)) : En → R Rv := fun ρ => evA φs ρ >>= fun ds => .ok (.val (.tuple ds))
def eLst (φs : List (En → R Rv)) : En → R Rv := fun ρ => evA φs ρ >>= fun ds => .ok (.own ds)
theorem evA_len : ∀ {φs : List (En → R Rv)} {ρ : En} {ds : List PyData}, evA φs ρ = .ok ds → ds.length = φs.length
  | [], _, _, h => by cases h; rfl
  | φ :: φs, ρ, ds, h => by
    have h : (φ ρ >>= fun r => (frz r).toVal >>= fun d => evA φs ρ >>= fun ds => .ok (d :: ds)) = .ok ds := h
    cases e1 : φ ρ with
    | err c => rw [e1] at h; cases h
    | bad => rw [e1] at h; cases h
    | ok x =>
      rw [e1] at h
      have h : ((frz x).toVal >>= fun d => evA φs ρ >>= fun ds => .ok (d :: ds)) = .ok ds := h
      cases e2 : (frz x).toVal with
      | err c => rw [e2] at h; cases h
      | bad => rw [e2] at h; cases h
      | ok d =>
        rw [e2] at h
        have h : (evA φs ρ >>= fun ds => .ok (d :: ds)) = .ok ds := h
        cases e3 : evA φs ρ with
        | err c => rw [e3] at h; cases h
        | bad => rw [e3] at h; cases h
        | ok es =>
          rw [e3] at h
          cases h
          exact congrArg Nat.succ (evA_len e3)
section
variable {X : Cx} [OK X] {W : WX} {es : List Expr} {φs : List (En → R Rv)} {pos : Pos}
theorem ta_then {σ : Sl} {H Hk0 H0 Hk : Hp} {ρ : En} {Q : VK} {Q' : List V → Hp → Prop} {g : List PyData → R Rv} (r : Rel Hk0 H0 Hk H σ ρ) (p : PostE X.K W Hk H σ Q (evA φs ρ >>= g))
    (k : ∀ ds vs Hk' H', ds.length = φs.length → Gr Hk H Hk' H' → RpAll Hk' vs ds → Rel Hk0 H0 Hk' H' σ ρ → PostE X.K W Hk' H' σ Q (g ds) → Q' vs H') : ta X.K W φs σ H Q' := by
  refine ⟨Hk0, H0, Hk, ρ, r, ?_⟩
  cases e : evA φs ρ with
  | ok ds => rw [e] at p; exact fun vs Hk' H' gr d => k ds vs Hk' H' (evA_len e) gr d (r.up gr) (PostE.up gr p)
  | err c => rw [e] at p; exact p
  | bad => rw [e] at p; exact p
theorem tr_then {σ : Sl} {H Hk0 H0 Hk : Hp} {ρ : En} {Q : VK} {Q' : List V → Hp → Prop} {g : List Rv → R Rv} (r : Rel Hk0 H0 Hk H σ ρ) (p : PostE X.K W Hk H σ Q (evR φs ρ >>= g))
    (k : ∀ ds vs Hk' H', Gr Hk H Hk' H' → DenAll Hk' H' σ ds vs → Rel Hk0 H0 Hk' H' σ ρ → PostE X.K W Hk' H' σ Q (g ds) → Q' vs H') : tr X.K W φs σ H Q' := by
  refine ⟨Hk0, H0, Hk, ρ, r, ?_⟩
  cases e : evR φs ρ with
  | ok ds => rw [e] at p; exact fun vs Hk' H' gr d => k ds vs Hk' H' gr d (r.up gr) (PostE.up gr p)
  | err c => rw [e] at p; exact p
  | bad => rw [e] at p; exact p
theorem d_tup {x1 : Nat} (h : PA X es (ta X.K W φs)) (hl : φs.length ≤ sizeLine := by show _ ≤ 16777216; decide) : PE X (.Tuple es x1 pos) (te X.K W (eTup φs)) := pe_imp (pe_tup h) fun σ H Q ⟨Hk0, H0, Hk, ρ, r, p⟩ =>
  ta_then r p fun ds vs Hk' H' l g d r' p' => ⟨by rw [RpAll.length d, l]; exact hl, fun q hq => p' (.ref q) _ _ (Gr.new g.kh hq) trivial (.tup (.inl upd_same) (RpAll.up (Ex.new (Evl.fresh_back g.kh hq)) d))⟩
theorem d_lst (h : PA X es (ta X.K W φs)) (hl : φs.length ≤ sizeLine := by show _ ≤ 16777216; decide) : PE X (.List es pos) (te X.K W (eLst φs)) := pe_imp (pe_lst h) fun σ H Q ⟨Hk0, H0, Hk, ρ, r, p⟩ =>
  ta_then r p fun ds vs Hk' H' l g d r' p' => ⟨by rw [RpAll.length d, l]; exact hl, fun q hq => p' (.ref q) _ _ (Gr.own g.kh hq) ⟨q, rfl, hq⟩ ⟨q, vs, rfl, Evl.fresh_back g.kh hq, upd_same, d⟩⟩
end

/-! ### calls of defs -/
def Cr.rv : Cr → Rv
  | .val d => .val d
  | .own ds => .own ds
  | .tpn ds => .val (.tuple ds)
def DenC (Hk H : Hp) : Cr → V → Prop
  | .tpn ds, v => TN Hk v ds
  | .val d, v => Den Hk H [] (.val d) v
  | .own ds, v => Den Hk H [] (.own ds) v
def PostC (K : PySem.W.Frag) (Hk H : Hp) (Q : VK) (E : XK) : R Cr → Prop
  | .ok r => ∀ v Hk' H', Gr Hk H Hk' H' → New H r.rv v → DenC Hk' H' r v → Q v H'
  | .err c => ∀ Hk' H', Gr Hk H Hk' H' → E (.ref (He.ga K c)) none H'
  | .bad => False
/-- the promise: so many values, data F of them -/
def spF (K : PySem.W.Frag) (n : Nat) (F : List PyData → R Cr) : Sp := fun vs H Q E => ∃ Hk ds, Ex Hk H ∧ RpAll Hk vs ds ∧ ds.length = n ∧ PostC K Hk H Q E (F ds)
def eCall (F : List PyData → R Cr) (φs : List (En → R Rv)) : En → R Rv := fun ρ => evA φs ρ >>= fun ds => F ds >>= fun r => .ok r.rv
theorem den_cl {Hk H : Hp} {σ' : Sl} {r : Cr} {v : V} (h : DenC Hk H r v) : Den Hk H σ' r.rv v := by
  cases r with
  | val d => exact h
  | own d => exact h
  | tpn d => exact TN.rp h
section
variable {X : Cx} [OK X] {W : WX} {e : Expr} {es : List Expr} {φs : List (En → R Rv)} {x : Str} {p pos : Pos} {k n : Nat} {f : Addr} {fd : FuncData} {ps : List Str} {G : List PyData → R Cr}
theorem d_call (F : FnOk X.prog X.w X.K X.mg X.base (L2.CX X.prog X.w) k f fd ps (spF X.K n G)) (hr : Room k X.A) (hm : X.mg x = some (.ref f)) (hk : PySem.W.keepIn X.K (.ref f) = true) (hb : Binds X.K fd ps []) (tk : Takes X W)
    (ha : PA X (e :: es) (ta X.K W φs)) (hn : φs.length = n := by rfl) (hg : Gl X x := by rfl) (hdb : (x == ("__debug__" : Str)) = false := by decide) (he : starEach (e :: es) X.env = (false, eval e X.env) :: starEach es X.env := by rfl)
    (hpl : (backTo pos (starEach es X.env)).any (·.1) = false := by rfl) : PE X (.Call (.Name x p) (e :: es) [] pos) (te X.K W (eCall G φs)) :=
  pe_imp (pe_callS (E := WE W) F hr hg hm hk hb (fun σ => passAt tk σ) ha hdb he hpl) fun σ H Q ⟨Hk0, H0, Hk, ρ, r, p⟩ =>
    ta_then r p fun ds vs Hk' H' l g d r' p' => by
      refine ⟨Hk', ds, g.kh, d, l.trans hn, ?_⟩
      cases e : G ds with
      | ok r => rw [e] at p'; exact fun v Hk2 H2 g2 n2 d2 => p' v Hk2 H2 g2 n2 (den_cl d2)
      | err c => rw [e] at p'; exact p'
      | bad => rw [e] at p'; exact p'
end
end Py

set_option Elab.async false
set_option linter.all false
set_option maxRecDepth 100000
set_option autoImplicit false
set_option maxHeartbeats 1000000
/-! PyC: operators and built-ins, by values. -/
namespace Py
variable [KK]
open PySem L2
open Evl (Ex)
open PySem.SeqAt (eq_plain ne_plain in_list_data in_tuple_data notIn_list_data notIn_tuple_data)
section
variable {Hk H : Hp} {σ : Sl} {r : Rv} {v : V}
theorem Den.kInt {i : Int} (h : Den Hk H σ r v) (e : r.dat = .int i) : v = .int i := by
  cases r with
  | val d => cases e; cases (show Rp Hk v (.int i) from h); rfl
  | own _ => cases e
  | bor _ _ => cases e
theorem Den.kStr {i : Str} (h : Den Hk H σ r v) (e : r.dat = .str i) : v = .str i := by
  cases r with
  | val d => cases e; cases (show Rp Hk v (.str i) from h); rfl
  | own _ => cases e
  | bor _ _ => cases e
theorem Den.kBool {i : Bool} (h : Den Hk H σ r v) (e : r.dat = .bool i) : v = .bl i := by
  cases r with
  | val d => cases e; cases (show Rp Hk v (.bool i) from h); rfl
  | own _ => cases e
  | bor _ _ => cases e
theorem Den.kNone (h : Den Hk H σ r v) (e : r.dat = .none) : v = .non := by
  cases r with
  | val d => cases e; cases (show Rp Hk v .none from h); rfl
  | own _ => cases e
  | bor _ _ => cases e
theorem Den.kList {ds : List PyData} (x : Ex Hk H) (h : Den Hk H σ r v) (e : r.dat = .list ds) : ∃ a xs, v = .ref a ∧ Rl H a xs ∧ RpAll Hk xs ds := by
  cases r with
  | val d => cases e; cases (show Rp Hk v (.list ds) from h) with | lst s a => exact ⟨_, _, rfl, Rl.up x s, a⟩
  | own es => cases e; obtain ⟨p, xs, a, _, c, d⟩ := h; exact ⟨p, xs, a, .inl (.inl c), d⟩
  | bor i es => cases e; obtain ⟨p, xs, a, _, _, c, d⟩ := h; exact ⟨p, xs, a, .inl (.inl c), d⟩
theorem Den.kTuple {ds : List PyData} (x : Ex Hk H) (h : Den Hk H σ r v) (e : r.dat = .tuple ds) : ∃ a xs, v = .ref a ∧ Rd H a (.tup xs) ∧ RpAll Hk xs ds ∧ Rp Hk v (.tuple ds) := by
  cases r with
  | val d => cases e; cases (show Rp Hk v (.tuple ds) from h) with | tup s a => exact ⟨_, _, rfl, Evl.ex_rd x s, a, h⟩
  | own _ => cases e
  | bor _ _ => cases e
end
section
variable {X : Cx} [ok : OK X] {pins : List (Addr × Obj)} {σ : Sl} {H : Hp} {s : Shared}
theorem rd_list {l : Addr} {xs : List V} (I : Inv X pins σ H s) (h : Rl H l xs) :
    xs.length ≤ sizeLine ∧ ∃ (its : List Value) (n : Nat), Vals xs its ∧ xs.length = its.length ∧ s.heap.get? l = some { cls := .type "list", data := .seq its.toArray n } := by
  rcases h with h | ⟨its, n, h1, h2, h3⟩
  · obtain ⟨z, its, n, r, e⟩ := h.ok I.hok
    exact ⟨z, its, n, r, r.length, e⟩
  · exact ⟨by rw [h3.length]; exact h2, its, n, h3, h3.length, I.kIn l _ (by rw [ok.eq]; exact h1)⟩
end
theorem big_fits {n : Nat} (h : n ≤ 1000000) : n ≤ sizeLine := by rw [sizeLine_eq]; omega

/-! ### + - * // % ** -/
def gAdd (a b : Rv) : R Rv := match a.dat, b.dat with
  | .int i, .int j => .ok (.val (.int (i + j)))
  | .str x, .str y => if x.length + y.length ≤ 1000000 then .ok (.val (.str (x ++ y))) else .bad
  | .tuple xs, .tuple ys => if xs.length + ys.length ≤ 1000000 then .ok (.val (.tuple (xs ++ ys))) else .bad
  | .list xs, .list ys => if xs.length + ys.length ≤ 1000000 then .ok (.own (xs ++ ys)) else .bad
  | _, _ => .bad
def gInt (C : Int → Int → Bool) (f : Int → Int → Int) (a b : Rv) : R Rv := match a.dat, b.dat with
  | .int i, .int j => if C i j = true then .ok (.val (.int (f i j))) else .bad
  | _, _ => .bad
def gSub : Rv → Rv → R Rv := gInt (fun _ _ => true) fun i j => i - j
def gMod : Rv → Rv → R Rv := gInt (fun _ j => decide (0 < j)) fun i j => i % j
def gDiv : Rv → Rv → R Rv := gInt (fun _ j => decide (0 < j) && decide (j < 2 ^ 100)) fun i j => i / j
def gPow : Rv → Rv → R Rv := gInt (fun i j => decide (0 ≤ j) && (decide (j ≤ 1000) && (decide (0 ≤ i) && decide (i < 2 ^ 60)))) fun i j => i ^ j.toNat
def gMul (a b : Rv) : R Rv := match a.dat, b.dat with
  | .int i, .int j => if (decide (-(2 ^ 64) < i) && decide (i < 2 ^ 64)) || (decide (-(2 ^ 64) < j) && decide (j < 2 ^ 64)) then .ok (.val (.int (i * j))) else .bad
  | .list xs, .int k => if -(2 ^ 62) ≤ k ∧ k < 2 ^ 62 ∧ xs.length * k.toNat ≤ 1000000 then .ok (.own (List.replicate k.toNat xs).flatten) else .bad
  | .tuple xs, .int k => if 1 ≤ k ∧ k ≤ 1000 ∧ xs.isEmpty = false ∧ xs.length ≤ 1000 then .ok (.val (.tuple (List.replicate k.toNat xs).flatten)) else .bad
  | _, _ => .bad
section
variable {X : Cx} [OK X] {W : WX}
theorem cat_rd {pins : List (Addr × Obj)} {s : Shared} {σ : Sl} {H : Hp} {l b : Addr} {xs zs : List V} {Q : VK} (I : Inv X pins σ H s) (hl : Rl H l xs) (hb : Rl H b zs) (hz : xs.length + zs.length ≤ sizeLine)
    (q : ∀ p, H p = none → Q (.ref p) (upd H p (.lst (xs ++ zs)))) : wpAny (model X.prog X.w) X.A (binaryOp .Add (.ref l) (.ref b)) (EP X pins σ Q) X.xe s := by
  obtain ⟨_, its, n, r, e1, g1⟩ := rd_list I hl
  obtain ⟨_, its', n', r', e2, g2⟩ := rd_list I hb
  refine PySem.P.add_list g1 g2 ?_ (by simp only [List.size_toArray]; omega)
  have ea : its.toArray ++ its'.toArray = (its ++ its').toArray := by simp
  rw [ea]
  have hs : (xs ++ zs).length ≤ sizeLine := by simp only [List.length_append]; omega
  exact ⟨.ref _, _, I.lnew (t' := s.toks) (Vals.append r r') hs, rfl, q _ I.fresh⟩
theorem own_new {K : PySem.W.Frag} {Hk H : Hp} {σ : Sl} {Q : VK} {ds : List PyData} {xs : List V} (e : Ex Hk H) (p : PostE K W Hk H σ Q (.ok (.own ds))) (h : RpAll Hk xs ds) : ∀ q, H q = none → Q (.ref q) (upd H q (.lst xs)) := fun q hq =>
  p _ _ _ (Gr.own e hq) ⟨q, rfl, hq⟩ ⟨q, xs, rfl, Evl.fresh_back e hq, upd_same, h⟩
theorem tup_new {K : PySem.W.Frag} {Hk H : Hp} {σ : Sl} {Q : VK} {ds : List PyData} {xs : List V} (e : Ex Hk H) (p : PostE K W Hk H σ Q (.ok (.val (.tuple ds)))) (h : RpAll Hk xs ds) : ∀ q, H q = none → Q (.ref q) (upd H q (.tup xs)) := fun q hq =>
  p _ _ _ (Gr.new e hq) trivial (.tup (.inl upd_same) (RpAll.up (Ex.new (Evl.fresh_back e hq)) h))
theorem o_add : OpR X (binaryOp .Add) (rD X.K W gAdd) := by
  intro pins s σ' H x y v u Q I rx ry h
  obtain ⟨Hk, σ, a, b, e, da, db, p⟩ := h
  unfold gAdd at p
  split at p
  · rename_i i j h1 h2
    rw [da.kInt h1] at rx
    rw [db.kInt h2] at ry
    exact op_add pins s σ' H _ _ v u Q I rx ry ⟨i, j, rfl, rfl, p _ Hk H (Gr.refl e) trivial (Rp.int _)⟩
  · rename_i i j h1 h2
    split at p
    · rename_i hz
      rw [da.kStr h1] at rx
      rw [db.kStr h2] at ry
      exact op_add_str pins s σ' H _ _ v u Q I rx ry ⟨i, j, rfl, rfl, big_fits hz, p _ Hk H (Gr.refl e) trivial (Rp.str _)⟩
    · exact p.elim
  · rename_i i j h1 h2
    split at p
    · rename_i hz
      obtain ⟨a1, xs, rfl, s1, r1, q1⟩ := da.kTuple e h1
      obtain ⟨a2, ys, rfl, s2, r2, q2⟩ := db.kTuple e h2
      refine op_catA pins s σ' H _ _ v u Q I rx ry ⟨a1, a2, xs, ys, rfl, rfl, .inl s1, .inl s2, ?_, ?_, ?_, fun _ _ => tup_new e p (RpAll.append r1 r2)⟩
      · rw [RpAll.length r1, RpAll.length r2]; exact big_fits hz
      · intro z
        subst z
        have : i = [] := List.eq_nil_of_length_eq_zero (RpAll.length r1).symm
        subst this
        exact p _ Hk H (Gr.refl e) trivial q2
      · intro _ z
        subst z
        have : j = [] := List.eq_nil_of_length_eq_zero (RpAll.length r2).symm
        subst this
        rw [List.append_nil] at p
        exact p _ Hk H (Gr.refl e) trivial q1
    · exact p.elim
  · rename_i i j h1 h2
    split at p
    · rename_i hz
      obtain ⟨a1, xs, rfl, s1, r1⟩ := da.kList e h1
      obtain ⟨a2, ys, rfl, s2, r2⟩ := db.kList e h2
      cases rx
      cases ry
      exact cat_rd I s1 s2 (by rw [RpAll.length r1, RpAll.length r2]; exact big_fits hz) (own_new e p (RpAll.append r1 r2))
    · exact p.elim
  · exact p.elim
theorem o_int {op : Operator} {C : Int → Int → Bool} {C' : Int → Int → Prop} {f : Int → Int → Int} (h : OpR X (binaryOp op) (rI C' fun i j => .int (f i j))) (hC : ∀ i j, C i j = true → C' i j) : OpR X (binaryOp op) (rD X.K W (gInt C f)) := by
  intro pins s σ' H x y v u Q I rx ry h1
  obtain ⟨Hk, σ, a, b, e, da, db, p⟩ := h1
  unfold gInt at p
  split at p
  · rename_i i j h1 h2
    split at p
    · rename_i hc
      rw [da.kInt h1] at rx
      rw [db.kInt h2] at ry
      exact h pins s σ' H _ _ v u Q I rx ry ⟨i, j, rfl, rfl, hC i j hc, p _ Hk H (Gr.refl e) trivial (Rp.int _)⟩
    · exact p.elim
  · exact p.elim
theorem o_sub : OpR X (binaryOp .Sub) (rD X.K W gSub) := by
  intro pins s σ' H x y v u Q I rx ry h1
  obtain ⟨Hk, σ, a, b, e, da, db, p⟩ := h1
  unfold gSub gInt at p
  split at p
  · rename_i i j h1 h2
    rw [da.kInt h1] at rx
    rw [db.kInt h2] at ry
    rw [if_pos rfl] at p
    exact op_sub pins s σ' H _ _ v u Q I rx ry ⟨i, j, rfl, rfl, p _ Hk H (Gr.refl e) trivial (Rp.int _)⟩
  · exact p.elim
theorem o_mod : OpR X (binaryOp .Mod) (rD X.K W gMod) := o_int op_mod fun i j h => of_decide_eq_true h
theorem o_div : OpR X (binaryOp .FloorDiv) (rD X.K W gDiv) := o_int op_fdivW fun i j h => by
  obtain ⟨h1, h2⟩ := Bool.and_eq_true_iff.mp h
  have h1 := of_decide_eq_true h1
  have h2 := of_decide_eq_true h2
  exact wide_div (b := 100) h1 (by omega) (by decide) (by decide)
theorem o_pow : OpR X (binaryOp .Pow) (rD X.K W gPow) := o_int op_pow fun i j h => by
  simp only [Bool.and_eq_true, decide_eq_true_eq] at h
  obtain ⟨h1, h2, h3, h4⟩ := h
  exact ⟨h1, by omega, by omega⟩

theorem rep_rd {pins : List (Addr × Obj)} {s : Shared} {σ : Sl} {H : Hp} {l : Addr} {k : Int} {t : Tok} {xs : List V} {Q : VK} (I : Inv X pins σ H s) (hl : Rl H l xs) (h1 : -(2 ^ 62) ≤ k) (h2 : k < 2 ^ 62) (hz : xs.length * k.toNat ≤ sizeLine)
    (q : ∀ p, H p = none → Q (.ref p) (upd H p (.lst (List.replicate k.toNat xs).flatten))) : wpAny (model X.prog X.w) X.A (binaryOp .Mult (.ref l) (.int k t)) (EP X pins σ Q) X.xe s := by
  obtain ⟨_, its, n, r, e1, g⟩ := rd_list I hl
  have z1 : its.toArray.size * k.toNat ≤ sizeLine := by simp only [List.size_toArray]; rw [← e1]; exact hz
  have hs : (List.replicate k.toNat xs).flatten.length ≤ sizeLine := by
    rw [PyProof.Rows.lm_len_rep_flat, Nat.mul_comm]; exact hz
  have big : (sizeLine : Nat) ≤ (2 ^ 63 - 1) / 8 := by decide
  have eq1 : List.foldl (fun x1 x2 => x1 ++ x2) #[] (List.replicate (if its.toArray.isEmpty = true then 0 else k.toNat) its.toArray) = (List.replicate k.toNat its).flatten.toArray := by
    have f0 := foldl_rep its (if its.toArray.isEmpty = true then 0 else k.toNat) []
    rw [List.nil_append] at f0
    refine f0.trans ?_
    cases its with
    | nil => simp
    | cons a r' => rw [if_neg (by simp)]
  refine wpAny_binaryOp_repeat_ref (T := "list") (U := "int") (by decide) ⟨_, g, rfl⟩ (fun s' => typeIs_int s' k t) noFill_list_mul F.fills_int_mul F.slot_int_rmul repeat_list F.slot_int_index.lookup ?_
  refine call_meets F.slot_int_rmul (typeIs_int s k t) F.entry_int_rmul (F.args_int_rmul_2 _ _) (int___rmul___int_list k t l its.toArray n) ⟨g, rfl, ⟨_, g, rfl⟩, ?_⟩
  refine call_meets F.slot_list_mul ⟨_, g, rfl⟩ F.entry_list_mul (F.args_list_mul_2 _ _) (AutoListH.list___mul___list_int_3 l its.toArray n k t ?_ ?_ ?_) ⟨g, ?_⟩
  · rw [fitsIndex_both (by omega) (by omega)]; exact Bool.false_ne_true
  · omega
  · rw [notLongL z1]; exact Bool.false_ne_true
  · rw [eq1]
    exact ⟨.ref _, _, I.lnew (t' := s.toks) (r.rep k.toNat) hs, rfl, q _ I.fresh⟩
theorem RpAll.rep {Hk : Hp} {xs : List V} {ds : List PyData} (h : RpAll Hk xs ds) : ∀ k : Nat, RpAll Hk (List.replicate k xs).flatten (List.replicate k ds).flatten
  | 0 => .nil
  | k + 1 => RpAll.append h (RpAll.rep h k)
theorem tup_mul1 (l : Addr) (items : Array Value) (n : Nat) (dd : Option Addr) (sl : Array (Option Value)) (u : Tok) :
    Meets (Builtin.«tuple.__mul__» ⟨[.ref l, .int 1 u], []⟩) (fun _ R s => s.heap.get? l = some { cls := .type "tuple", dict := dd, data := .seq items n, slots := sl } ∧ R (.ok (.ret (Value.ref l))) s) :=
  .of_wp fun prog w A R s h => by
    obtain ⟨hp, g, d, tk, os⟩ := s; obtain ⟨hl, h⟩ := h
    have f1 := AutoSeq1.idx_int
    wp_walk using AutoSeq1.wpAny_loadPart' hl
    exact ⟨_, rfl, h⟩
theorem o_mul : OpR X (binaryOp .Mult) (rD X.K W gMul) := by
  intro pins s σ' H x y v u Q I rx ry h
  obtain ⟨Hk, σ, a, b, e, da, db, p⟩ := h
  unfold gMul at p
  split at p
  · rename_i i j h1 h2
    split at p
    · rename_i hc
      rw [da.kInt h1] at rx
      rw [db.kInt h2] at ry
      refine op_mul pins s σ' H _ _ v u Q I rx ry ⟨i, j, rfl, rfl, ?_, p _ Hk H (Gr.refl e) trivial (Rp.int _)⟩
      simp only [Bool.or_eq_true, Bool.and_eq_true, decide_eq_true_eq] at hc
      exact hc
    · exact p.elim
  · rename_i xs j h1 h2
    split at p
    · rename_i hc
      obtain ⟨c1, c2, c3⟩ := hc
      obtain ⟨a1, vs, rfl, s1, r1⟩ := da.kList e h1
      rw [db.kInt h2] at ry
      cases rx
      obtain ⟨t, rfl⟩ := ry
      exact rep_rd I s1 c1 c2 (by rw [RpAll.length r1]; exact big_fits c3) (own_new e p (RpAll.rep r1 _))
    · exact p.elim
  · rename_i xs j h1 h2
    split at p
    · rename_i hc
      obtain ⟨c1, c2, c3, c4⟩ := hc
      obtain ⟨a1, vs, rfl, s1, r1, rp⟩ := da.kTuple e h1
      rw [db.kInt h2] at ry
      have hl := RpAll.length r1
      by_cases k1 : j = 1
      · subst k1
        cases rx
        obtain ⟨t, rfl⟩ := ry
        have er : (List.replicate (1 : Int).toNat xs).flatten = xs := by simp
        rw [er] at p
        obtain ⟨its, rv, ⟨⟨cls, dd, data, sl⟩, ho, hcl, n, hd⟩, _⟩ := I.tuple (a := a1) (xs := vs) (.inl s1)
        simp only at hcl hd
        subst hcl hd
        exact wpAny_binaryOp_repeat_ref (T := "tuple") (U := "int") (by decide) ⟨_, ho, rfl⟩ (fun s' => typeIs_int s' 1 t) noFill_tuple_mul F.fills_int_mul F.slot_int_rmul repeat_tuple F.slot_int_index.lookup (call_meets F.slot_int_rmul (typeIs_int s 1 t) F.entry_int_rmul (F.args_int_rmul_2 _ _) (int_rmul_tuple 1 t a1 its.toArray n dd sl) ⟨ho, rfl, ⟨_, ho, rfl⟩, call_meets F.slot_tuple_mul ⟨_, ho, rfl⟩ F.entry_tuple_mul (F.args_tuple_mul_2 _ _) (tup_mul1 a1 its.toArray n dd sl t) ⟨ho, ⟨.ref a1, H, I, rfl, p _ Hk H (Gr.refl e) trivial rp⟩⟩⟩)
      · exact op_repT pins s σ' H _ _ v u Q I rx ry ⟨a1, j, vs, rfl, rfl, .inl s1, fun z => by rw [z] at hl; cases xs with | nil => cases c3 | cons q w => simp at hl, by omega, c2, by omega, tup_new e p (RpAll.rep r1 _)⟩
    · exact p.elim
  · exact p.elim
end

/-! ### comparisons -/
mutual
theorem Rp.plain {H : Hp} : ∀ {v : V} {d : PyData}, Rp H v d → d.plain = true
  | _, _, .non => rfl
  | _, _, .bl _ => rfl
  | _, _, .int _ => rfl
  | _, _, .str _ => rfl
  | _, _, .lst _ a => by rw [PyData.plain]; exact RpAll.plain a
  | _, _, .tup _ a => by rw [PyData.plain]; exact RpAll.plain a
theorem RpAll.plain {H : Hp} : ∀ {vs : List V} {ds : List PyData}, RpAll H vs ds → PyData.plainAll ds = true
  | _, _, .nil => rfl
  | _, _, .cons a b => by rw [PyData.plainAll, Rp.plain a, RpAll.plain b]; rfl
end
def cEq (a b : Rv) : R Bool := if min a.dat.depth b.dat.depth ≤ 60 then .ok (PyData.eqv a.dat b.dat) else .bad
def cNe (a b : Rv) : R Bool := if min a.dat.depth b.dat.depth ≤ 60 then .ok (!PyData.eqv a.dat b.dat) else .bad
def cInt (f : Int → Int → Bool) (a b : Rv) : R Bool := match a.dat, b.dat with
  | .int i, .int j => .ok (f i j)
  | _, _ => .bad
def cLt : Rv → Rv → R Bool := cInt fun i j => decide (i < j)
def cLe : Rv → Rv → R Bool := cInt fun i j => decide (i ≤ j)
def cGt : Rv → Rv → R Bool := cInt fun i j => decide (j < i)
def cGe : Rv → Rv → R Bool := cInt fun i j => decide (j ≤ i)
def cIn (a b : Rv) : R Bool := match b.dat with
  | .list ds => if min (PyData.depthAll ds) a.dat.depth ≤ 60 then .ok (ds.any fun y => PyData.eqv y a.dat) else .bad
  | .tuple ds => if min (PyData.depthAll ds) a.dat.depth ≤ 60 then .ok (ds.any fun y => PyData.eqv y a.dat) else .bad
  | .str z => match a.dat with
    | .str y => .ok (!(Builtin.Str.occurrences z y 0 z.length 1).isEmpty)
    | _ => .bad
  | _ => .bad
def cNotIn (a b : Rv) : R Bool := match b.dat with
  | .list ds => if min (PyData.depthAll ds) a.dat.depth ≤ 60 then .ok (!ds.any fun y => PyData.eqv y a.dat) else .bad
  | .tuple ds => if min (PyData.depthAll ds) a.dat.depth ≤ 60 then .ok (!ds.any fun y => PyData.eqv y a.dat) else .bad
  | _ => .bad
def isNoneD : PyData → Bool
  | .none => true
  | _ => false
def cIs (a b : Rv) : R Bool := match b.dat with
  | .none => .ok (isNoneD a.dat)
  | .bool c => match a.dat with
    | .bool e => .ok (decide (e = c))
    | _ => .bad
  | _ => .bad
def cIsNot (a b : Rv) : R Bool := match b.dat with
  | .none => .ok (!isNoneD a.dat)
  | .bool c => match a.dat with
    | .bool e => .ok (!decide (e = c))
    | _ => .bad
  | _ => .bad
section
variable {X : Cx} [ok : OK X] {W : WX}
theorem units60 {k n : Nat} (hr : Room k X.A) (h : n ≤ 60) : X.A.units + n < cLine := by have := hr.units; omega
theorem units61 {k n : Nat} (hr : Room k X.A) (h : n ≤ 60) : X.A.units + 1 + n < cLine := by have := hr.units; omega
theorem den_reads {pins : List (Addr × Obj)} {s : Shared} {σ σ' : Sl} {Hk H : Hp} {a : Rv} {x : V} {v : Value} (I : Inv X pins σ' H s) (e : Ex Hk H) (d : Den Hk H σ a x) (r : RelV x v) : ∃ as, Reads s.heap v a.dat as :=
  Dp.reads I _ _ _ (by rw [ok.eq]; exact Rp.dp (Den.dat e d)) r
theorem den_plain {σ : Sl} {Hk H : Hp} {a : Rv} {x : V} (e : Ex Hk H) (d : Den Hk H σ a x) : a.dat.plain = true := Rp.plain (Den.dat e d)
theorem PostB {K : PySem.W.Frag} {Hk H : Hp} {σ σ' : Sl} {Q : VK} {pins : List (Addr × Obj)} {s : Shared} {b : Bool} (I : Inv X pins σ' H s) (e : Ex Hk H) (p : PostE K W Hk H σ Q (.ok (.val (.bool b)))) : EP X pins σ' Q (.bool b) s :=
  ⟨.bl b, H, I, rfl, p _ Hk H (Gr.refl e) trivial (Rp.bl b)⟩
theorem o_eq {k : Nat} (hr : Room k X.A) : OpR X (compareOp .Eq) (rD X.K W (gB cEq)) := by
  intro pins s σ' H x y v u Q I rx ry h
  obtain ⟨Hk, σ, a, b, e, da, db, p⟩ := h
  obtain ⟨as, ra⟩ := den_reads I e da rx
  obtain ⟨bs, rb⟩ := den_reads I e db ry
  unfold gB cEq at p
  split at p
  · rename_i h1
    exact eq_plain ra rb (den_plain e da) (den_plain e db) (units60 hr h1) (PostB I e p)
  · exact p.elim
theorem o_ne {k : Nat} (hr : Room k X.A) : OpR X (compareOp .NotEq) (rD X.K W (gB cNe)) := by
  intro pins s σ' H x y v u Q I rx ry h
  obtain ⟨Hk, σ, a, b, e, da, db, p⟩ := h
  obtain ⟨as, ra⟩ := den_reads I e da rx
  obtain ⟨bs, rb⟩ := den_reads I e db ry
  unfold gB cNe at p
  split at p
  · rename_i h1
    exact ne_plain ra rb (den_plain e da) (den_plain e db) (units60 hr h1) (PostB I e p)
  · exact p.elim
theorem o_cmpI {op : CmpOp} {f : Int → Int → Bool} (h : OpR X (compareOp op) (rI0 fun i j => .bl (f i j))) : OpR X (compareOp op) (rD X.K W (gB (cInt f))) := by
  intro pins s σ' H x y v u Q I rx ry h1
  obtain ⟨Hk, σ, a, b, e, da, db, p⟩ := h1
  unfold gB cInt at p
  split at p
  · rename_i i j h1 h2
    rw [da.kInt h1] at rx
    rw [db.kInt h2] at ry
    exact h pins s σ' H _ _ v u Q I rx ry ⟨i, j, rfl, rfl, p _ Hk H (Gr.refl e) trivial (Rp.bl _)⟩
  · exact p.elim
theorem o_lt : OpR X (compareOp .Lt) (rD X.K W (gB cLt)) := o_cmpI op_lt
theorem o_le : OpR X (compareOp .LtE) (rD X.K W (gB cLe)) := o_cmpI op_le
theorem o_gt : OpR X (compareOp .Gt) (rD X.K W (gB cGt)) := o_cmpI op_gt
theorem o_ge : OpR X (compareOp .GtE) (rD X.K W (gB cGe)) := o_cmpI op_ge
theorem o_in {k : Nat} (hr : Room k X.A) : OpR X (compareOp .In) (rD X.K W (gB cIn)) := by
  intro pins s σ' H x y v u Q I rx ry h
  obtain ⟨Hk, σ, a, b, e, da, db, p⟩ := h
  obtain ⟨as, ra⟩ := den_reads I e da rx
  obtain ⟨bs, rb⟩ := den_reads I e db ry
  have pb := den_plain e db
  unfold gB cIn at p
  split at p
  · rename_i ds h2
    rw [h2] at rb pb
    split at p
    · rename_i h1
      exact in_list_data rb ra (by rw [PyData.plain] at pb; exact pb) (den_plain e da) (units61 hr h1) (PostB I e p)
    · exact p.elim
  · rename_i ds h2
    rw [h2] at rb pb
    split at p
    · rename_i h1
      exact in_tuple_data rb ra (by rw [PyData.plain] at pb; exact pb) (den_plain e da) (units61 hr h1) (PostB I e p)
    · exact p.elim
  · rename_i z h2
    split at p
    · rename_i y' h1
      rw [da.kStr h1] at rx
      rw [db.kStr h2] at ry
      exact op_in_str pins s σ' H _ _ v u Q I rx ry ⟨y', z, rfl, rfl, p _ Hk H (Gr.refl e) trivial (Rp.bl _)⟩
    · exact p.elim
  · exact p.elim
theorem o_notIn {k : Nat} (hr : Room k X.A) : OpR X (compareOp .NotIn) (rD X.K W (gB cNotIn)) := by
  intro pins s σ' H x y v u Q I rx ry h
  obtain ⟨Hk, σ, a, b, e, da, db, p⟩ := h
  obtain ⟨as, ra⟩ := den_reads I e da rx
  obtain ⟨bs, rb⟩ := den_reads I e db ry
  have pb := den_plain e db
  unfold gB cNotIn at p
  split at p
  · rename_i ds h2
    rw [h2] at rb pb
    split at p
    · rename_i h1
      exact notIn_list_data rb ra (by rw [PyData.plain] at pb; exact pb) (den_plain e da) (units61 hr h1) (PostB I e p)
    · exact p.elim
  · rename_i ds h2
    rw [h2] at rb pb
    split at p
    · rename_i h1
      exact notIn_tuple_data rb ra (by rw [PyData.plain] at pb; exact pb) (den_plain e da) (units61 hr h1) (PostB I e p)
    · exact p.elim
  · exact p.elim
theorem den_none {σ : Sl} {Hk H : Hp} {a : Rv} {x : V} (e : Ex Hk H) (d : Den Hk H σ a x) : decide (x = V.non) = isNoneD a.dat := by
  have h := Den.dat e d
  cases h' : a.dat <;> rw [h'] at h <;> cases h <;> rfl
theorem o_is : OpR X (compareOp .Is) (rD X.K W (gB cIs)) := by
  intro pins s σ' H x y v u Q I rx ry h
  obtain ⟨Hk, σ, a, b, e, da, db, p⟩ := h
  unfold gB cIs at p
  split at p
  · rename_i h2
    rw [db.kNone h2] at ry
    exact op_isN pins s σ' H _ _ v u Q I rx ry ⟨rfl, p _ Hk H (Gr.refl e) trivial (by rw [den_none e da]; exact Rp.bl _)⟩
  · rename_i c h2
    split at p
    · rename_i c' h1
      rw [da.kBool h1] at rx
      rw [db.kBool h2] at ry
      exact op_isBl pins s σ' H _ _ v u Q I rx ry ⟨c', c, rfl, rfl, p _ Hk H (Gr.refl e) trivial (Rp.bl _)⟩
    · exact p.elim
  · exact p.elim
theorem o_isNot : OpR X (compareOp .IsNot) (rD X.K W (gB cIsNot)) := by
  intro pins s σ' H x y v u Q I rx ry h
  obtain ⟨Hk, σ, a, b, e, da, db, p⟩ := h
  unfold gB cIsNot at p
  split at p
  · rename_i h2
    rw [db.kNone h2] at ry
    exact op_notN pins s σ' H _ _ v u Q I rx ry ⟨rfl, p _ Hk H (Gr.refl e) trivial (by rw [den_none e da]; exact Rp.bl _)⟩
  · rename_i c h2
    split at p
    · rename_i c' h1
      rw [da.kBool h1] at rx
      rw [db.kBool h2] at ry
      exact op_notBl pins s σ' H _ _ v u Q I rx ry ⟨c', c, rfl, rfl, p _ Hk H (Gr.refl e) trivial (Rp.bl _)⟩
    · exact p.elim
  · exact p.elim
end
end Py

set_option Elab.async false
set_option linter.all false
set_option maxRecDepth 100000
set_option autoImplicit false
set_option maxHeartbeats 1000000
/-! PyD: subscripts, slices, calls of built-ins. -/
namespace Py
variable [KK]
open PySem L2
open Evl (Ex)

/-! ### a[i] -/
def gIx (a b : Rv) : R Rv := match b.dat with
  | .int i => match a.dat with
    | .list ds => match atI ds i with
      | some d => .ok (.val d)
      | none => .bad
    | .tuple ds => match atI ds i with
      | some d => .ok (.val d)
      | none => .bad
    | .str z => if z.length ≤ 1000000 then (match atI z.cps.toList i with
      | some c => .ok (.val (.str ⟨#[c]⟩))
      | none => .bad) else .bad
    | _ => .bad
  | _ => .bad
theorem atI_rp {Hk : Hp} {xs : List V} {ds : List PyData} {i : Int} {d : PyData} (h : RpAll Hk xs ds) (e : atI ds i = some d) : ∃ v, atI xs i = some v ∧ Rp Hk v d := by
  unfold atI at e ⊢
  rw [RpAll.length h]
  cases q : ixN ds.length i with
  | none => rw [q] at e; cases e
  | some j =>
    rw [q] at e
    exact RpAll.get h e
section
variable {X : Cx} [ok : OK X] {W : WX}
theorem i_ix : IxR X (rD X.K W gIx) := by
  intro value slice pins s σ' H x y v u Q I rx ry h hs
  obtain ⟨Hk, σ, a, b, e, da, db, p⟩ := h
  unfold gIx at p
  split at p
  · rename_i i h2
    rw [db.kInt h2] at ry
    split at p
    · rename_i ds h1
      obtain ⟨l, xs, rfl, s1, r1⟩ := da.kList e h1
      split at p
      · rename_i d hd
        obtain ⟨w, hw, rw'⟩ := atI_rp r1 hd
        exact ix_list value slice pins s σ' H _ _ v u Q I rx ry ⟨l, xs, i, w, rfl, rfl, s1.sq, hw, p _ Hk H (Gr.refl e) trivial rw'⟩ hs
      · exact p.elim
    · rename_i ds h1
      obtain ⟨l, xs, rfl, s1, r1, _⟩ := da.kTuple e h1
      split at p
      · rename_i d hd
        obtain ⟨w, hw, rw'⟩ := atI_rp r1 hd
        exact ix_tup value slice pins s σ' H _ _ v u Q I rx ry ⟨l, xs, i, w, rfl, rfl, .inl s1, hw, p _ Hk H (Gr.refl e) trivial rw'⟩ hs
      · exact p.elim
    · rename_i z h1
      rw [da.kStr h1] at rx
      split at p
      · rename_i hz
        split at p
        · rename_i c hc
          exact ix_str value slice pins s σ' H _ _ v u Q I rx ry ⟨z, i, c, rfl, rfl, big_fits hz, hc, p _ Hk H (Gr.refl e) trivial (Rp.str _)⟩ hs
        · exact p.elim
      · exact p.elim
    · exact p.elim
  · exact p.elim
theorem d_ix {a b : Expr} {φ ψ : En → R Rv} {pos : Pos} (ha : PE X a (te X.K W φ)) (hb : PE X b (te X.K W ψ)) (hs : PlainIx b := by exact fun _ _ => rfl) : PE X (.Subscript a b pos) (te X.K W (e2 gIx φ ψ)) :=
  pe_imp (pe_ix i_ix ha hb hs) fun σ H Q ⟨Hk0, H0, Hk, ρ, r, p⟩ => te_thenF (g := fun x => ψ ρ >>= fun y => gIx x (frz y)) r p fun x v Hk1 H1 g1 d1 n1 r1 p1 =>
    te_thenF (g := fun y => gIx x y) r1 (PostE.up g1 p1) fun y u Hk2 H2 g2 d2 n2 r2 p2 => ⟨Hk2, σ, x, y, g2.kh, Den.up g2 d1, d2, PostE.up g2 p2⟩
end

/-! ### a[lo:hi] -/
def cut {α : Type} (xs : List α) (lo hi : Option Int) : List α := (xs.drop (HT.sIx xs.length 0 lo)).take (HT.sIx xs.length xs.length hi - HT.sIx xs.length 0 lo)
theorem cut_rp {Hk : Hp} {xs : List V} {ds : List PyData} (h : RpAll Hk xs ds) (lo hi : Option Int) : RpAll Hk (cutV xs lo hi) (cut ds lo hi) := by
  unfold cutV cut
  rw [RpAll.length h]
  exact RpAll.take _ (RpAll.drop _ h)
def gSl (a : Rv) (lo hi : Option Int) : R Rv := match a.dat with
  | .list ds => .ok (.own (cut ds lo hi))
  | .tuple ds => .ok (.val (.tuple (cut ds lo hi)))
  | _ => .bad
section
variable (K : PySem.W.Frag) (W : WX)
def rS (g : Rv → Option Int → Option Int → R Rv) : V → Option Int → Option Int → Hp → VK → Prop := fun x lo hi H Q => ∃ Hk σ a, Ex Hk H ∧ Den Hk H σ a x ∧ PostE K W Hk H σ Q (g a lo hi)
def PostO (Hk H : Hp) (σ : Sl) (Q : Option Int → Hp → Prop) : R (Option Int) → Prop
  | .ok o => ∀ Hk' H', Gr Hk H Hk' H' → Q o H'
  | .err c => ∀ Hk' H', Gr Hk H Hk' H' → W (.ref (He.ga K c)) none σ H'
  | .bad => False
def tp (φ : En → R (Option Int)) : TO := fun σ H Q => ∃ Hk0 H0 Hk ρ, Rel Hk0 H0 Hk H σ ρ ∧ PostO K W Hk H σ Q (φ ρ)
end
def pNo : En → R (Option Int) := fun _ => .ok none
def pSo (φ : En → R Rv) : En → R (Option Int) := fun ρ => φ ρ >>= fun r => (frz r).toInt >>= fun i => .ok (some i)
def eSl (φ : En → R Rv) (lo hi : En → R (Option Int)) : En → R Rv := fun ρ => φ ρ >>= fun x => lo ρ >>= fun l => hi ρ >>= fun h => gSl (frz x) l h
theorem cut_whole {α : Type} {xs : List α} {lo hi : Option Int} (h : HT.sIx xs.length 0 lo = 0 ∧ HT.sIx xs.length xs.length hi = xs.length) : cut xs lo hi = xs := by
  unfold cut
  rw [h.1, h.2, List.drop_zero, Nat.sub_zero, List.take_length]
section
variable {X : Cx} [ok : OK X] {W : WX} {e : Expr} {φ : En → R Rv} {lo hi : Option Expr} {plo phi : En → R (Option Int)} {p2 pos : Pos}
theorem s_sl : SlR X (rS X.K W gSl) := by
  intro pins s σ' H x v vl vu lo hi sl Q I rx hs pl pu h
  obtain ⟨Hk, σ, a, e, da, p⟩ := h
  unfold gSl at p
  split at p
  · rename_i ds h1
    obtain ⟨l, xs, rfl, s1, r1⟩ := da.kList e h1
    exact sl_list pins s σ' H _ v vl vu lo hi sl Q I rx hs pl pu ⟨l, xs, rfl, s1.sq, own_new e p (cut_rp r1 lo hi)⟩
  · rename_i ds h1
    obtain ⟨l, xs, rfl, s1, r1, q1⟩ := da.kTuple e h1
    refine sl_tupA pins s σ' H _ v vl vu lo hi sl Q I rx hs pl pu ⟨l, xs, rfl, .inl s1, fun hw => ?_, fun _ => tup_new e p (cut_rp r1 lo hi)⟩
    rw [RpAll.length r1] at hw
    rw [cut_whole hw] at p
    exact p _ Hk H (Gr.refl e) trivial q1
  · exact p.elim
theorem d_pno : PO X none (tp X.K W pNo) := ⟨fun pins s σ H Q I h => by
  obtain ⟨Hk0, H0, Hk, ρ, r, p⟩ := h
  exact po_none.run pins s σ H Q I (p Hk H (Gr.refl r.kh))⟩
theorem d_pso (he : PE X e (te X.K W φ)) : PO X (some e) (tp X.K W (pSo φ)) := ⟨fun pins s σ H Q I h => by
  obtain ⟨Hk0, H0, Hk, ρ, r, p⟩ := h
  refine (po_some he).run pins s σ H Q I ?_
  unfold pSo at p
  refine ⟨Hk0, H0, Hk, ρ, r, ?_⟩
  cases e1 : φ ρ with
  | err c => rw [e1] at p; exact p
  | bad => rw [e1] at p; exact p
  | ok x =>
    rw [e1] at p
    have p : PostO X.K W Hk H σ Q ((frz x).toInt >>= fun i => .ok (some i)) := p
    intro v Hk' H' g n d
    cases x with
    | own ds => exact p.elim
    | bor i ds => exact p.elim
    | val d' =>
      cases d' with
      | int i =>
        cases (show Rp Hk' v (.int i) from d)
        exact ⟨i, rfl, p Hk' H' g⟩
      | _ => exact p.elim⟩
theorem d_slice (he : PE X e (te X.K W φ)) (hl : PO X lo (tp X.K W plo)) (hu : PO X hi (tp X.K W phi)) : PE X (.Subscript e (.Slice lo hi none p2) pos) (te X.K W (eSl φ plo phi)) :=
  pe_imp (pe_slice s_sl he hl hu) fun σ H Q ⟨Hk0, H0, Hk, ρ, r, p⟩ => by
    refine te_thenF (g := fun x => plo ρ >>= fun l => phi ρ >>= fun h => gSl x l h) r p fun x v Hk1 H1 g1 d1 n1 r1 p1 => ?_
    have p1 := PostE.up g1 p1
    refine ⟨Hk0, H0, Hk1, ρ, r1, ?_⟩
    cases e1 : plo ρ with
    | err c => rw [e1] at p1; exact p1
    | bad => rw [e1] at p1; exact p1
    | ok l =>
      rw [e1] at p1
      have p1 : PostE X.K W Hk1 H1 σ Q (phi ρ >>= fun h => gSl x l h) := p1
      intro Hk2 H2 g2
      have p2 := PostE.up g2 p1
      refine ⟨Hk0, H0, Hk2, ρ, r1.up g2, ?_⟩
      cases e2 : phi ρ with
      | err c => rw [e2] at p2; exact p2
      | bad => rw [e2] at p2; exact p2
      | ok h =>
        rw [e2] at p2
        intro Hk3 H3 g3
        exact ⟨Hk3, σ, x, g3.kh, Den.up g3 (Den.up g2 d1), PostE.up g3 p2⟩
end

/-! ### calls of built-ins -/
def rC (K : PySem.W.Frag) (W : WX) (g : List Rv → R Rv) : List V → Hp → VK → Prop := fun vs H Q => ∃ Hk σ rs, Ex Hk H ∧ DenAll Hk H σ rs vs ∧ PostE K W Hk H σ Q (g rs)
def eB (g : List Rv → R Rv) (φs : List (En → R Rv)) : En → R Rv := fun ρ => evR φs ρ >>= g
section
variable {X : Cx} [ok : OK X] {W : WX} {e : Expr} {es : List Expr} {φs : List (En → R Rv)} {x : Str} {p pos : Pos} {id T : String} {g : List Rv → R Rv}
theorem d_callB (hc : CallR X (.builtin id) (rC X.K W g)) (hm : X.mg x = none) (hv : bootBuiltins x = some (.builtin id)) (ha : PA X (e :: es) (tr X.K W φs)) (hg : Gl X x := by rfl) (hn : x ≠ "__name__" := by decide) (hdb : (x == ("__debug__" : Str)) = false := by decide)
    (he : starEach (e :: es) X.env = (false, eval e X.env) :: starEach es X.env := by rfl) (hpl : (backTo pos (starEach es X.env)).any (·.1) = false := by rfl) : PE X (.Call (.Name x p) (e :: es) [] pos) (te X.K W (eB g φs)) :=
  pe_imp (pe_callB hc hg hm hv ha hn hdb he hpl) fun σ H Q ⟨Hk0, H0, Hk, ρ, r, p⟩ => tr_then r p fun rs vs Hk' H' g' d r' p' => ⟨Hk', σ, rs, g'.kh, d, p'⟩
theorem d_callTy (hc : CallR X (.type T) (rC X.K W g)) (hm : X.mg x = none) (hv : bootBuiltins x = some (.type T)) (ha : PA X (e :: es) (tr X.K W φs)) (hg : Gl X x := by rfl) (hn : x ≠ "__name__" := by decide) (hdb : (x == ("__debug__" : Str)) = false := by decide)
    (he : starEach (e :: es) X.env = (false, eval e X.env) :: starEach es X.env := by rfl) (hpl : (backTo pos (starEach es X.env)).any (·.1) = false := by rfl) : PE X (.Call (.Name x p) (e :: es) [] pos) (te X.K W (eB g φs)) :=
  pe_imp (pe_callTy hc hg hm hv ha hn hdb he hpl) fun σ H Q ⟨Hk0, H0, Hk, ρ, r, p⟩ => tr_then r p fun rs vs Hk' H' g' d r' p' => ⟨Hk', σ, rs, g'.kh, d, p'⟩
end
/-! len, all, any, tuple, list -/
def asInts : List PyData → Option (List Int)
  | [] => some []
  | .int i :: r => (asInts r).map (i :: ·)
  | _ :: _ => none
def asBools : List PyData → Option (List Bool)
  | [] => some []
  | .bool i :: r => (asBools r).map (i :: ·)
  | _ :: _ => none
theorem asInts_eq : ∀ {ds : List PyData} {ns : List Int}, asInts ds = some ns → ds = ns.map PyData.int
  | [], _, h => by cases h; rfl
  | .int i :: r, ns, h => by
    have h : (asInts r).map (i :: ·) = some ns := h
    cases e : asInts r with
    | none => rw [e] at h; cases h
    | some ms => rw [e] at h; cases h; rw [asInts_eq e]; rfl
  | .none :: _, _, h => by cases h
  | .bool _ :: _, _, h => by cases h
  | .str _ :: _, _, h => by cases h
  | .list _ :: _, _, h => by cases h
  | .tuple _ :: _, _, h => by cases h
  | .dict _ :: _, _, h => by cases h
theorem asBools_eq : ∀ {ds : List PyData} {ns : List Bool}, asBools ds = some ns → ds = ns.map PyData.bool
  | [], _, h => by cases h; rfl
  | .bool i :: r, ns, h => by
    have h : (asBools r).map (i :: ·) = some ns := h
    cases e : asBools r with
    | none => rw [e] at h; cases h
    | some ms => rw [e] at h; cases h; rw [asBools_eq e]; rfl
  | .none :: _, _, h => by cases h
  | .int _ :: _, _, h => by cases h
  | .str _ :: _, _, h => by cases h
  | .list _ :: _, _, h => by cases h
  | .tuple _ :: _, _, h => by cases h
  | .dict _ :: _, _, h => by cases h
@[simp] theorem asInts_map (ns : List Int) : asInts (ns.map PyData.int) = some ns := by
  induction ns with
  | nil => rfl
  | cons n ns ih => show (asInts (ns.map PyData.int)).map (n :: ·) = _; rw [ih]; rfl
@[simp] theorem asBools_map (ns : List Bool) : asBools (ns.map PyData.bool) = some ns := by
  induction ns with
  | nil => rfl
  | cons n ns ih => show (asBools (ns.map PyData.bool)).map (n :: ·) = _; rw [ih]; rfl
def gLen : List Rv → R Rv
  | [a] => match a.dat with
    | .list ds => .ok (.val (.int ds.length))
    | .tuple ds => .ok (.val (.int ds.length))
    | .str z => if z.length ≤ 1000000 then .ok (.val (.int z.length)) else .bad
    | _ => .bad
  | _ => .bad
def gAll : List Rv → R Rv
  | [a] => match a.dat with
    | .list ds => match asBools ds with
      | some bs => .ok (.val (.bool (bs.all id)))
      | none => .bad
    | _ => .bad
  | _ => .bad
def gAny : List Rv → R Rv
  | [a] => match a.dat with
    | .list ds => match asBools ds with
      | some bs => .ok (.val (.bool (bs.any id)))
      | none => .bad
    | _ => .bad
  | _ => .bad
def gTuple : List Rv → R Rv
  | [a] => match a.dat with
    | .list ds => .ok (.val (.tuple ds))
    | .tuple ds => .ok (.val (.tuple ds))
    | _ => .bad
  | _ => .bad
def gList : List Rv → R Rv
  | [a] => match a.dat with
    | .list ds => .ok (.own ds)
    | .tuple ds => .ok (.own ds)
    | _ => .bad
  | _ => .bad
def gSum : List Rv → R Rv
  | [a] => match a.dat with
    | .list ds => match asInts ds with
      | some ns => .ok (.val (.int ns.sum))
      | none => .bad
    | .tuple ds => match asInts ds with
      | some ns => .ok (.val (.int ns.sum))
      | none => .bad
    | _ => .bad
  | _ => .bad
theorem DenAll.one {Hk H : Hp} {σ : Sl} {rs : List Rv} {vs : List V} {a : Rv} (h : DenAll Hk H σ [a] vs) : ∃ v, vs = [v] ∧ Den Hk H σ a v := by
  cases h with
  | cons h t => cases t; exact ⟨_, rfl, h⟩
theorem DenAll.two {Hk H : Hp} {σ : Sl} {vs : List V} {a b : Rv} (h : DenAll Hk H σ [a, b] vs) : ∃ v u, vs = [v, u] ∧ Den Hk H σ a v ∧ Den Hk H σ b u := by
  cases h with
  | cons h t => cases t with | cons h' t' => cases t'; exact ⟨_, _, rfl, h, h'⟩
section
variable {X : Cx} [ok : OK X] {W : WX}
theorem c_len : CallR X (.builtin "len") (rC X.K W gLen) := by
  intro pins s σ' H vs us Q I rv h
  obtain ⟨Hk, σ, rs, e, d, p⟩ := h
  unfold gLen at p
  split at p
  · rename_i a
    obtain ⟨v, rfl, da⟩ := DenAll.one (rs := []) d
    split at p
    · rename_i ds h1
      obtain ⟨l, xs, rfl, s1, r1⟩ := da.kList e h1
      exact call_len_seq pins s σ' H _ us Q I rv ⟨l, xs, rfl, .inl s1.sq, by rw [RpAll.length r1]; exact p _ Hk H (Gr.refl e) trivial (Rp.int _)⟩
    · rename_i ds h1
      obtain ⟨l, xs, rfl, s1, r1, _⟩ := da.kTuple e h1
      exact call_len_seq pins s σ' H _ us Q I rv ⟨l, xs, rfl, .inr (.inl s1), by rw [RpAll.length r1]; exact p _ Hk H (Gr.refl e) trivial (Rp.int _)⟩
    · rename_i z h1
      rw [da.kStr h1] at rv
      split at p
      · rename_i hz
        exact call_len_str pins s σ' H _ us Q I rv ⟨z, rfl, big_fits hz, p _ Hk H (Gr.refl e) trivial (Rp.int _)⟩
      · exact p.elim
    · exact p.elim
  · exact p.elim
theorem c_all (hc : X.calm = true) : CallR X (.builtin "all") (rC X.K W gAll) := by
  intro pins s σ' H vs us Q I rv h
  obtain ⟨Hk, σ, rs, e, d, p⟩ := h
  unfold gAll at p
  split at p
  · rename_i a
    obtain ⟨v, rfl, da⟩ := DenAll.one (rs := []) d
    split at p
    · rename_i ds h1
      obtain ⟨l, xs, rfl, s1, r1⟩ := da.kList e h1
      split at p
      · rename_i bs hb
        rw [asBools_eq hb] at r1
        rw [RpAll.bls r1] at s1
        exact cr_all hc pins s σ' H _ us Q I rv ⟨l, bs, rfl, s1.sq, p _ Hk H (Gr.refl e) trivial (Rp.bl _)⟩
      · exact p.elim
    · exact p.elim
  · exact p.elim
theorem c_any (hc : X.calm = true) : CallR X (.builtin "any") (rC X.K W gAny) := by
  intro pins s σ' H vs us Q I rv h
  obtain ⟨Hk, σ, rs, e, d, p⟩ := h
  unfold gAny at p
  split at p
  · rename_i a
    obtain ⟨v, rfl, da⟩ := DenAll.one (rs := []) d
    split at p
    · rename_i ds h1
      obtain ⟨l, xs, rfl, s1, r1⟩ := da.kList e h1
      split at p
      · rename_i bs hb
        rw [asBools_eq hb] at r1
        rw [RpAll.bls r1] at s1
        exact cr_any hc pins s σ' H _ us Q I rv ⟨l, bs, rfl, s1.sq, p _ Hk H (Gr.refl e) trivial (Rp.bl _)⟩
      · exact p.elim
    · exact p.elim
  · exact p.elim
theorem c_tuple : CallR X (.type "tuple") (rC X.K W gTuple) := by
  intro pins s σ' H vs us Q I rv h
  obtain ⟨Hk, σ, rs, e, d, p⟩ := h
  unfold gTuple at p
  split at p
  · rename_i a
    obtain ⟨v, rfl, da⟩ := DenAll.one (rs := []) d
    split at p
    · rename_i ds h1
      obtain ⟨l, xs, rfl, s1, r1⟩ := da.kList e h1
      exact call_tuple_of pins s σ' H _ us Q I rv ⟨l, xs, rfl, .inl ⟨s1.sq, tup_new e p r1⟩⟩
    · rename_i ds h1
      obtain ⟨l, xs, rfl, s1, r1, q1⟩ := da.kTuple e h1
      exact call_tuple_of pins s σ' H _ us Q I rv ⟨l, xs, rfl, .inr ⟨.inl s1, p _ Hk H (Gr.refl e) trivial q1⟩⟩
    · exact p.elim
  · exact p.elim
theorem c_list : CallR X (.type "list") (rC X.K W gList) := by
  intro pins s σ' H vs us Q I rv h
  obtain ⟨Hk, σ, rs, e, d, p⟩ := h
  unfold gList at p
  split at p
  · rename_i a
    obtain ⟨v, rfl, da⟩ := DenAll.one (rs := []) d
    split at p
    · rename_i ds h1
      obtain ⟨l, xs, rfl, s1, r1⟩ := da.kList e h1
      exact call_list_of pins s σ' H _ us Q I rv ⟨l, xs, rfl, .inl s1.sq, own_new e p r1⟩
    · rename_i ds h1
      obtain ⟨l, xs, rfl, s1, r1, q1⟩ := da.kTuple e h1
      exact call_list_of pins s σ' H _ us Q I rv ⟨l, xs, rfl, .inr (.inl s1), own_new e p r1⟩
    · exact p.elim
  · exact p.elim
theorem sum_tup {pins : List (Addr × Obj)} {s : Shared} {σ : Sl} {H : Hp} {a : Addr} {ns : List Int} {Q : VK} (hc : X.calm = true) (I : Inv X pins σ H s) (h : Rd H a (.tup (ns.map V.int))) (q : Q (.int ns.sum) H) :
    wpAny (model X.prog X.w) X.A (call (.builtin "sum") [.ref a]) (EP X pins σ Q) X.xe s := by
  obtain ⟨its, rv, ht, hz⟩ := I.tuple (a := a) (xs := ns.map V.int) (.inl h)
  have hi := rv.ints
  obtain ⟨xs, ex⟩ := hi.allInts.items
  have hn : numsOf (intItems xs).toList = ns := by rw [← ex]; exact hi.numsOf
  rw [nums_intItems] at hn
  rw [ex] at ht
  have hh := I.ok.hd hc
  have hlt : a < s.heap.objs.size := ht.lt
  refine call_sum_walkG (wpAny_pyIter_tuple ht ?_)
  refine ⟨_, _, _, _, _, _, numAt xs, rfl, Walks.tuple (A := X.A.in1) hh _ a (Nat.ne_of_lt hlt) (intItems xs), ⟨⟨_, Heap.get?_push_size _ rfl, rfl, rfl⟩, ht.push _⟩, ?_, (fun _ _ => intItems_at), ?_⟩
  · intro b hb
    rw [Heap.size_push]
    simp only [List.mem_cons, List.not_mem_nil, or_false] at hb
    rcases hb with rfl | rfl
    · exact Nat.lt_succ_self _
    · exact Nat.lt_succ_of_lt hlt
  · intro h' tk t' hk
    have e1 : preSum (numAt xs) (intItems xs).size = ns.sum := by
      have e2 : (intItems xs).size = xs.size := by simp [intItems]
      rw [e2, preSum_eq, List.take_of_length_le (by simp), hn]
    rw [e1]
    refine ⟨.int ns.sum, H, I.kept (h' := h') (t' := tk) fun b u eb => hk b u ?_ (Heap.get?_push_of_some _ eb), ⟨_, rfl⟩, q⟩
    simp only [List.mem_cons, List.not_mem_nil, or_false]
    exact Nat.ne_of_lt (Heap.lt_size eb)
theorem c_sum (hc : X.calm = true) : CallR X (.builtin "sum") (rC X.K W gSum) := by
  intro pins s σ' H vs us Q I rv h
  obtain ⟨Hk, σ, rs, e, d, p⟩ := h
  unfold gSum at p
  split at p
  · rename_i a
    obtain ⟨v, rfl, da⟩ := DenAll.one (rs := []) d
    split at p
    · rename_i ds h1
      obtain ⟨l, xs, rfl, s1, r1⟩ := da.kList e h1
      split at p
      · rename_i bs hb
        rw [asInts_eq hb] at r1
        rw [RpAll.ints r1] at s1
        exact cr_sum hc pins s σ' H _ us Q I rv ⟨l, bs, rfl, s1.sq, p _ Hk H (Gr.refl e) trivial (Rp.int _)⟩
      · exact p.elim
    · rename_i ds h1
      obtain ⟨l, xs, rfl, s1, r1, q1⟩ := da.kTuple e h1
      split at p
      · rename_i bs hb
        rw [asInts_eq hb] at r1
        rw [RpAll.ints r1] at s1
        rw [Vals.ref1 rv]
        exact sum_tup hc I s1 (p _ Hk H (Gr.refl e) trivial (Rp.int _))
      · exact p.elim
    · exact p.elim
  · exact p.elim
end
/-! max, min -/
def alikeB (ds : List PyData) : Bool := ds.all (fun x => ds.all fun y => PySem.W.alike x y) && (ds.all fun x => !isNoneD x) && decide (PyData.depthAll ds ≤ 60)
theorem alikeB_ok {ds : List PyData} (h : alikeB ds = true) : PySem.W.AlikeAll ds ∧ PyData.depthAll ds ≤ 60 := by
  unfold alikeB at h
  simp only [Bool.and_eq_true, List.all_eq_true, decide_eq_true_eq] at h
  refine ⟨⟨fun x hx y hy => h.1.1 x hx y hy, fun x hx e => ?_⟩, h.2⟩
  have := h.1.2 x hx
  rw [e] at this
  cases this
def gBest (f : PyData → List PyData → PyData) : List Rv → R Rv
  | [a] => match a.dat with
    | .list (x :: xs) => if alikeB (x :: xs) = true then .ok (.val (f x xs)) else .bad
    | .tuple (x :: xs) => if alikeB (x :: xs) = true then .ok (.val (f x xs)) else .bad
    | _ => .bad
  | _ => .bad
def gMax1 : List Rv → R Rv := gBest PySem.W.maxD
def gMin1 : List Rv → R Rv := gBest PySem.W.minD
def gInt2 (f : Int → Int → Int) : List Rv → R Rv
  | [a, b] => match a.dat, b.dat with
    | .int i, .int j => .ok (.val (.int (f i j)))
    | _, _ => .bad
  | _ => .bad
def gMax2 : List Rv → R Rv := gInt2 fun i j => if j > i then j else i
def gMin2 : List Rv → R Rv := gInt2 fun i j => if j < i then j else i
section
variable {X : Cx} [ok : OK X] {W : WX}
/-- an item that reads as d is the value that stands for d -/
theorem best_back {pins : List (Addr × Obj)} {s : Shared} {σ : Sl} {Hk H : Hp} {xs : List V} {ds : List PyData} {its : List Value} {i : Nat} {v : Value} {d : PyData} {h' : Heap} {bs : List Addr}
    (I : Inv X pins σ H s) (e : Ex Hk H) (r : RpAll Hk xs ds) (rv : Vals xs its) (hv : its.toArray[i]? = some v) (hr : Reads h' v d bs) (k : ∀ b o, s.heap.get? b = some o → h'.get? b = some o) (hp : d.plain = true) : ∃ x, RelV x v ∧ Rp Hk x d := by
  have hv' : its[i]? = some v := by simpa using hv
  have hi : i < its.length := (List.getElem?_eq_some_iff.mp hv').1
  have hx : i < xs.length := by rw [rv.length]; exact hi
  obtain ⟨u, hu, ru⟩ := rv.get (List.getElem?_eq_getElem hx)
  rw [hv'] at hu
  cases hu
  obtain ⟨d', _, hd'⟩ := RpAll.getV r (List.getElem?_eq_getElem hx)
  obtain ⟨as, ra⟩ := Dp.reads I _ _ _ (by rw [ok.eq]; exact Rp.dp (Rp.up e hd')) ru
  have : d' = d := (PySem.SeqAt.plain_unique d d' v _ _ hp hr (PyProof.Rows.Reads.keeps k ra)).symm
  exact ⟨_, ru, this ▸ hd'⟩
theorem readsAll_of {pins : List (Addr × Obj)} {s : Shared} {σ : Sl} {Hk H : Hp} {xs : List V} {ds : List PyData} {its : List Value} (I : Inv X pins σ H s) (e : Ex Hk H) (r : RpAll Hk xs ds) (rv : Vals xs its) : ∃ as, ReadsAll s.heap its.toArray.toList ds as := by
  obtain ⟨as, h⟩ := Dp.readsAll I ds xs its (by rw [ok.eq]; exact RpAll.dp (RpAll.up e r)) rv
  exact ⟨as, by simpa using h⟩
theorem fold_mem {α : Type} (f : α → α → α) (hf : ∀ a b, f a b = a ∨ f a b = b) : ∀ (xs : List α) (x : α), xs.foldl f x = x ∨ xs.foldl f x ∈ xs
  | [], x => .inl rfl
  | y :: ys, x => by
    rw [List.foldl_cons]
    rcases fold_mem f hf ys (f x y) with h | h
    · rcases hf x y with z | z
      · rw [h, z]; exact .inl rfl
      · rw [h, z]; exact .inr List.mem_cons_self
    · exact .inr (List.mem_cons_of_mem _ h)
theorem plain_mem {ds : List PyData} {d : PyData} (h : PyData.plainAll ds = true) (m : d ∈ ds) : d.plain = true := by
  induction ds with
  | nil => cases m
  | cons x xs ih =>
    rw [PyData.plainAll, Bool.and_eq_true] at h
    rcases List.mem_cons.mp m with e | e
    · rw [e]; exact h.1
    · exact ih h.2 e
theorem maxD_plain {x : PyData} {xs : List PyData} (h : PyData.plainAll (x :: xs) = true) : (PySem.W.maxD x xs).plain = true := by
  refine plain_mem h ?_
  rcases fold_mem (fun a y => if PySem.W.dataLt a y then y else a) (fun a b => by split; exact .inr rfl; exact .inl rfl) xs x with e | e
  · unfold PySem.W.maxD; rw [e]; exact List.mem_cons_self
  · exact List.mem_cons_of_mem _ e
theorem minD_plain {x : PyData} {xs : List PyData} (h : PyData.plainAll (x :: xs) = true) : (PySem.W.minD x xs).plain = true := by
  refine plain_mem h ?_
  rcases fold_mem (fun a y => if PySem.W.dataLt y a then y else a) (fun a b => by split; exact .inr rfl; exact .inl rfl) xs x with e | e
  · unfold PySem.W.minD; rw [e]; exact List.mem_cons_self
  · exact List.mem_cons_of_mem _ e
theorem c_best {id : String} {f : PyData → List PyData → PyData} (hc : X.calm = true) {k : Nat} (hr : Room k X.A)
    (hf : ∀ x xs, PyData.plainAll (x :: xs) = true → (f x xs).plain = true)
    (hl : ∀ {s : Shared} {l : Addr} {vs : Array Value} {x : PyData} {xs : List PyData} {as : List Addr} {Q : Value → Shared → Prop}, X.A.handled = none → s.heap.IsList l vs → ReadsAll s.heap vs.toList (x :: xs) as → PySem.W.AlikeAll (x :: xs) → X.A.units + 1 + PyData.depthAll (x :: xs) < cLine →
      (∀ (i : Nat) v h' tk bs, vs[i]? = some v → Reads h' v (f x xs) bs → (∀ b o, s.heap.get? b = some o → h'.get? b = some o) → Q v { s with heap := h', toks := tk }) → wpAny (model X.prog X.w) X.A (call (.builtin id) [.ref l]) Q X.xe s)
    (ht : ∀ {s : Shared} {l : Addr} {vs : Array Value} {x : PyData} {xs : List PyData} {as : List Addr} {Q : Value → Shared → Prop}, X.A.handled = none → s.heap.IsTuple l vs → ReadsAll s.heap vs.toList (x :: xs) as → PySem.W.AlikeAll (x :: xs) → X.A.units + 1 + PyData.depthAll (x :: xs) < cLine →
      (∀ (i : Nat) v h' tk bs, vs[i]? = some v → Reads h' v (f x xs) bs → (∀ b o, s.heap.get? b = some o → h'.get? b = some o) → Q v { s with heap := h', toks := tk }) → wpAny (model X.prog X.w) X.A (call (.builtin id) [.ref l]) Q X.xe s) :
    CallR X (.builtin id) (rC X.K W (gBest f)) := by
  intro pins s σ' H vs us Q I rv h
  obtain ⟨Hk, σ, rs, e, d, p⟩ := h
  unfold gBest at p
  split at p
  · rename_i a
    obtain ⟨v, rfl, da⟩ := DenAll.one (rs := []) d
    split at p
    · rename_i x xs h1
      split at p
      · rename_i hal
        obtain ⟨l, zs, rfl, s1, r1⟩ := da.kList e h1
        obtain ⟨_, its, n, rz, _, g⟩ := rd_list I s1
        obtain ⟨as, ra⟩ := readsAll_of I e r1 rz
        obtain ⟨al, dp⟩ := alikeB_ok hal
        rw [Vals.ref1 rv]
        refine hl (I.ok.hd hc) ⟨_, g, rfl, n, rfl⟩ ra al (units61 hr dp) fun i v h' tk bs hv hrd hk => ?_
        obtain ⟨w, rw', rp⟩ := best_back I e r1 rz hv hrd hk (hf x xs (RpAll.plain r1))
        exact ⟨w, H, I.kept hk, rw', p _ Hk H (Gr.refl e) trivial rp⟩
      · exact p.elim
    · rename_i x xs h1
      split at p
      · rename_i hal
        obtain ⟨l, zs, rfl, s1, r1, _⟩ := da.kTuple e h1
        obtain ⟨its, rz, tz, _⟩ := I.tuple (a := l) (xs := zs) (.inl s1)
        obtain ⟨as, ra⟩ := readsAll_of I e r1 rz
        obtain ⟨al, dp⟩ := alikeB_ok hal
        rw [Vals.ref1 rv]
        refine ht (I.ok.hd hc) tz ra al (units61 hr dp) fun i v h' tk bs hv hrd hk => ?_
        obtain ⟨w, rw', rp⟩ := best_back I e r1 rz hv hrd hk (hf x xs (RpAll.plain r1))
        exact ⟨w, H, I.kept hk, rw', p _ Hk H (Gr.refl e) trivial rp⟩
      · exact p.elim
    · exact p.elim
  · exact p.elim
theorem c_max1 (hc : X.calm = true) {k : Nat} (hr : Room k X.A) : CallR X (.builtin "max") (rC X.K W gMax1) := c_best hc hr (fun _ _ => maxD_plain) PySem.W.max_list_data PySem.W.max_tuple_data
theorem c_min1 (hc : X.calm = true) {k : Nat} (hr : Room k X.A) : CallR X (.builtin "min") (rC X.K W gMin1) := c_best hc hr (fun _ _ => minD_plain) PySem.W.min_list_data PySem.W.min_tuple_data
theorem c_int2 {id : String} {f : Int → Int → Int} (hf : CallR X (.builtin id) (fun xs H Q => ∃ i j, xs = [.int i, .int j] ∧ Q (.int (f i j)) H)) : CallR X (.builtin id) (rC X.K W (gInt2 f)) := by
  intro pins s σ' H vs us Q I rv h
  obtain ⟨Hk, σ, rs, e, d, p⟩ := h
  unfold gInt2 at p
  split at p
  · rename_i a b
    obtain ⟨v, u, rfl, da, db⟩ := DenAll.two d
    split at p
    · rename_i i j h1 h2
      rw [da.kInt h1, db.kInt h2] at rv
      exact hf pins s σ' H _ us Q I rv ⟨i, j, rfl, p _ Hk H (Gr.refl e) trivial (Rp.int _)⟩
    · exact p.elim
  · exact p.elim
theorem c_max2 (hc : X.calm = true) : CallR X (.builtin "max") (rC X.K W gMax2) := c_int2 (call_max2 hc)
theorem c_min2 (hc : X.calm = true) : CallR X (.builtin "min") (rC X.K W gMin2) := c_int2 (call_min2 hc)
end
/-! sorted -/
def sortD (ds : List PyData) : List PyData := ds.mergeSort (PySem.W.dataLe false fun d : PyData => d)
def sortB (ds : List PyData) : Bool := ds.all (fun x => ds.all fun y => PySem.W.alike x y) && decide (PyData.depthAll ds ≤ 60) && ((ds.all fun d => match d with
  | .tuple (_ :: _) => true
  | _ => false) || (ds.all fun d => match d with
  | .tuple _ => false
  | .none => false
  | _ => true))
def gSorted : List Rv → R Rv
  | [a] => match a.dat with
    | .list ds => if sortB ds = true ∧ ds.length ≤ 1000000 then .ok (.own (sortD ds)) else .bad
    | _ => .bad
  | _ => .bad
theorem depth_mem {ds : List PyData} {d : PyData} (m : d ∈ ds) : d.depth ≤ PyData.depthAll ds := by
  induction ds with
  | nil => cases m
  | cons x xs ih =>
    rw [PyData.depthAll]
    rcases List.mem_cons.mp m with e | e
    · rw [e]; exact Nat.le_max_left _ _
    · exact Nat.le_trans (ih e) (Nat.le_max_right _ _)
theorem sortB_ok {ds : List PyData} (h : sortB ds = true) : PySem.W.AllAlike ds ∧ PyData.depthAll ds ≤ 60 ∧ PySem.W.Sortable ds := by
  unfold sortB at h
  simp only [Bool.and_eq_true, Bool.or_eq_true, List.all_eq_true, decide_eq_true_eq] at h
  refine ⟨fun x hx y hy => h.1.1 x hx y hy, h.1.2, ?_⟩
  rcases h.2 with z | z
  · refine .inl fun d hd => ?_
    have q := z d hd
    split at q
    · exact ⟨_, _, rfl⟩
    · cases q
  · refine .inr fun d hd => ?_
    have q := z d hd
    cases d with
    | none => cases q
    | tuple xs => cases q
    | _ => exact ⟨(fun e => nomatch e), (fun _ e => nomatch e)⟩
section
variable {X : Cx} [ok : OK X] {W : WX}
theorem each_of {Hk : Hp} : ∀ {xs : List V} {ds : List PyData} {its : List Value}, RpAll Hk xs ds → Vals xs its → PySem.W.EachIs (fun v d => ∃ x, RelV x v ∧ Rp Hk x d) its ds
  | _, _, _, .nil, .nil => .nil
  | _, _, _, .cons a b, .cons r t => .cons ⟨_, r, a⟩ (each_of b t)
theorem of_each {Hk : Hp} : ∀ {ds : List PyData} {its : List Value}, PySem.W.EachIs (fun v d => ∃ x, RelV x v ∧ Rp Hk x d) its ds → ∃ xs, RpAll Hk xs ds ∧ Vals xs its
  | _, _, .nil => ⟨[], .nil, .nil⟩
  | _, _, .cons ⟨x, r, a⟩ t => by
    obtain ⟨xs, h1, h2⟩ := of_each t
    exact ⟨x :: xs, .cons a h1, .cons r h2⟩
theorem c_sorted {k : Nat} (hr : Room k X.A) : CallR X (.builtin "sorted") (rC X.K W gSorted) := by
  intro pins s σ' H vs us Q I rv h
  obtain ⟨Hk, σ, rs, e, d, p⟩ := h
  unfold gSorted at p
  split at p
  · rename_i a
    obtain ⟨v, rfl, da⟩ := DenAll.one (rs := []) d
    split at p
    · rename_i ds h1
      split at p
      · rename_i hal
        obtain ⟨hal, hz⟩ := hal
        obtain ⟨l, zs, rfl, s1, r1⟩ := da.kList e h1
        obtain ⟨_, its, n, rz, _, g⟩ := rd_list I s1
        obtain ⟨al, dp, so⟩ := sortB_ok hal
        rw [Vals.ref1 rv]
        have er : PySem.W.EachIs (fun v d => ∃ as, Reads s.heap v d as) its ds := PySem.W.EachIs.mono (fun v d h => by
          obtain ⟨x, rx, hx⟩ := h
          exact Dp.reads I _ _ _ (by rw [ok.eq]; exact Rp.dp (Rp.up e hx)) rx) (each_of r1 rz)
        refine PySem.W.sorted_data (enc := fun d : PyData => d) (R := fun v d => ∃ x, RelV x v ∧ Rp Hk x d) ⟨_, g, rfl, n, rfl⟩ (each_of r1 rz) er (by rw [List.map_id']; exact al) (by rw [List.map_id']; exact so) (big_fits hz) (fun b hb => ?_) fun out hlen ho => ?_
        · have := hr.units
          have := depth_mem hb
          omega
        · obtain ⟨xs', r', rv'⟩ := of_each ho
          obtain ⟨ep, he'⟩ := PyProof.Rows.sortedAll_at s.heap its (List.toArray out)
          have hl' : xs'.length ≤ sizeLine := by
            rw [RpAll.length r', List.length_mergeSort]
            exact big_fits hz
          refine ⟨.ref _, upd H (s.heap.objs.size + 1) (.lst xs'), I.laid (t' := s.toks) (fun _ _ => PyProof.Rows.sortedAll_old) (Nat.le_succ _) ⟨hl', out, ep, rv', he'⟩, rfl, own_new e p r' _ (I.hok.fresh (Nat.le_succ _))⟩
      · exact p.elim
    · exact p.elim
  · exact p.elim
end
/-! isinstance -/
def tyN : PyData → String
  | .none => "NoneType"
  | .bool _ => "bool"
  | .int _ => "int"
  | .str _ => "str"
  | .list _ => "list"
  | .tuple _ => "tuple"
  | .dict _ => "dict"
def isiD (T : String) (d : PyData) : R Bool := match kitB (tyN d) T with
  | some b => .ok b
  | none => .bad
def eIsi (T : String) (φ : En → R Rv) : En → R Rv := fun ρ => φ ρ >>= fun x => isiD T (frz x).dat >>= fun b => .ok (.val (.bool b))
theorem rp_ty {H : Hp} {v : V} {d : PyData} (h : Rp H v d) : TyX KK.K H v (.type (tyN d)) := by
  cases h with
  | non => exact .base .non
  | bl b => exact .base (.bl b)
  | int i => exact .base (.int i)
  | str x => exact .base (.str x)
  | lst h r =>
    rcases h with (h | ⟨o, h⟩) | ⟨its, n, h, _⟩
    · exact .base (.lst h)
    · exact .base (.frz h)
    · exact .kList h rfl
  | tup h r =>
    rcases h with h | ⟨o, h⟩
    · exact .base (.tup h)
    · exact .fTuple h
section
variable {X : Cx} [ok : OK X] {W : WX} {e : Expr} {φ : En → R Rv} {x y : Str} {p p2 pos : Pos} {T : String}
theorem d_isi (he : PE X e (te X.K W φ)) (hm : X.mg "isinstance" = none) (hy : X.mg y = none) (hv : bootBuiltins y = some (.type T)) (hg : Gl X "isinstance" := by rfl) (hgy : Gl X y := by rfl) (hny : y ≠ "__name__" := by decide) (hdy : (y == ("__debug__" : Str)) = false := by decide)
    (h1 : starEach [e, .Name y p2] X.env = (false, eval e X.env) :: starEach [.Name y p2] X.env := by rfl) (h2 : starEach [.Name y p2] X.env = (false, eval (.Name y p2) X.env) :: starEach [] X.env := by rfl)
    (hpl : (backTo pos (starEach [.Name y p2] X.env)).any (·.1) = false := by rfl) : PE X (.Call (.Name "isinstance" p) [e, .Name y p2] [] pos) (te X.K W (eIsi T φ)) :=
  pe_imp (pe_callB call_isi hg hm (by decide +kernel) (pa_cons he (pa_cons (pe_bltn (v := .ty T) hgy hy hv rfl hny hdy) pa_nil h2) h1) (by decide) (by decide) h1 hpl) fun σ H Q ⟨Hk0, H0, Hk, ρ, r, p⟩ => by
    refine te_thenF (g := fun x => isiD T x.dat >>= fun b => .ok (.val (.bool b))) r p fun x v Hk1 H1 g1 d1 n1 r1 p1 => ?_
    unfold isiD at p1
    split at p1
    · rename_i b hb
      exact ⟨v, .ty T, _, _, b, rfl, .ty T, (by rw [ok.eq]; exact rp_ty (Den.dat g1.kh d1)), kit_ty hb, p1 _ Hk1 H1 g1 trivial (Rp.bl b)⟩
    · exact p1.elim
end
end Py

set_option Elab.async false
set_option linter.all false
set_option maxRecDepth 100000
set_option autoImplicit false
set_option maxHeartbeats 1000000
/-! PyE: targets, what is walked, comprehensions, statements. -/
namespace Py
variable [KK]
open PySem L2
open Evl (Ex)

/-! ### stores -/
section
variable {Hk0 H0 Hk H : Hp} {σ : Sl} {ρ : En}
theorem get_set {α : Type} {l : List α} {i j : Nat} {a : α} : (l.set i a)[j]? = if i = j then (if i < l.length then some a else none) else l[j]? := by
  by_cases h : i = j
  · subst h
    rw [if_pos rfl]
    by_cases h2 : i < l.length
    · rw [List.getElem?_set_self h2, if_pos h2]
    · rw [if_neg h2, List.getElem?_eq_none (by simpa using h2)]
  · rw [if_neg h, List.getElem?_set_ne h]
theorem Rel.setVal {v : V} {d : PyData} {i : Nat} (r : Rel Hk0 H0 Hk H σ ρ) (h : Rp Hk v d) : Rel Hk0 H0 Hk H (σ.set i (some v)) (ρ.set i (some (.val d))) where
  len := by rw [List.length_set, List.length_set]; exact r.len
  gr := r.gr
  val := fun j e q => by
    rw [get_set] at q ⊢
    split at q
    · rename_i hj
      subst hj
      rw [if_pos rfl]
      split at q
      · rename_i hl
        cases q
        exact ⟨v, by rw [r.len, if_pos hl], h⟩
      · cases q
    · rename_i hj
      rw [if_neg hj]
      exact r.val j e q
  own := fun j ds q => by
    rw [get_set] at q
    split at q
    · split at q <;> cases q
    · rename_i hj
      rw [get_set, if_neg hj]
      exact r.own j ds q
  sep := fun j k ds es p q1 q2 h1 h2 => by
    rw [get_set] at q1 q2
    split at q1
    · split at q1 <;> cases q1
    · rename_i hj
      split at q2
      · split at q2 <;> cases q2
      · rename_i hk
        rw [get_set, if_neg hj] at h1
        rw [get_set, if_neg hk] at h2
        exact r.sep j k ds es p q1 q2 h1 h2
  raw := fun j a q => by
    rw [get_set] at q ⊢
    split at q
    · split at q <;> cases q
    · rename_i hj
      rw [if_neg hj]
      exact r.raw j a q
  dct := fun j ds q => by
    rw [get_set] at q
    split at q
    · split at q <;> cases q
    · rename_i hj
      rw [get_set, if_neg hj]
      exact r.dct j ds q
  tpn := fun j ds q => by
    rw [get_set] at q
    split at q
    · split at q <;> cases q
    · rename_i hj
      rw [get_set, if_neg hj]
      exact r.tpn j ds q
  kn := fun j ds q => by
    rw [get_set] at q
    split at q
    · split at q <;> cases q
    · rename_i hj
      rw [get_set, if_neg hj]
      exact r.kn j ds q
  dsep := fun j k ds es p q1 q2 h1 h2 => by
    rw [get_set] at q1 q2
    split at q1
    · split at q1 <;> cases q1
    · rename_i hj
      split at q2
      · split at q2 <;> cases q2
      · rename_i hk
        rw [get_set, if_neg hj] at h1
        rw [get_set, if_neg hk] at h2
        exact r.dsep j k ds es p q1 q2 h1 h2
theorem Rel.setOwn {p : Addr} {xs : List V} {ds : List PyData} {i : Nat} (r : Rel Hk0 H0 Hk H σ ρ) (h0 : H0 p = none) (hk : Hk p = none) (hp : H p = some (.lst xs)) (hd : RpAll Hk xs ds)
    (hs : ∀ (j : Nat) (es : List PyData), ρ[j]? = some (some (Cl.own es)) → j ≠ i → σ[j]? ≠ some (some (.ref p))) : Rel Hk0 H0 Hk H (σ.set i (some (.ref p))) (ρ.set i (some (.own ds))) where
  len := by rw [List.length_set, List.length_set]; exact r.len
  gr := r.gr
  val := fun j e q => by
    rw [get_set] at q
    split at q
    · split at q <;> cases q
    · rename_i hj
      rw [get_set, if_neg hj]
      exact r.val j e q
  own := fun j es q => by
    rw [get_set] at q ⊢
    split at q
    · rename_i hj
      subst hj
      rw [if_pos rfl]
      split at q
      · rename_i hl
        cases q
        exact ⟨p, xs, by rw [r.len, if_pos hl], h0, hk, hp, hd⟩
      · cases q
    · rename_i hj
      rw [if_neg hj]
      exact r.own j es q
  sep := fun j k ds' es p' q1 q2 h1 h2 => by
    rw [get_set] at q1 q2 h1 h2
    by_cases hj : i = j
    · subst hj
      by_cases hk' : i = k
      · exact hk'
      · rw [if_neg hk'] at q2 h2
        rw [if_pos rfl] at h1
        split at h1
        · cases h1
          exact absurd h2 (hs k es q2 (fun z => hk' z.symm))
        · cases h1
    · rw [if_neg hj] at q1 h1
      by_cases hk' : i = k
      · subst hk'
        rw [if_pos rfl] at h2
        split at h2
        · cases h2
          exact absurd h1 (hs j ds' q1 (fun z => hj z.symm))
        · cases h2
      · rw [if_neg hk'] at q2 h2
        exact r.sep j k ds' es p' q1 q2 h1 h2
  raw := fun j a q => by
    rw [get_set] at q ⊢
    split at q
    · split at q <;> cases q
    · rename_i hj
      rw [if_neg hj]
      exact r.raw j a q
  dct := fun j ds q => by
    rw [get_set] at q
    split at q
    · split at q <;> cases q
    · rename_i hj
      rw [get_set, if_neg hj]
      exact r.dct j ds q
  tpn := fun j ds q => by
    rw [get_set] at q
    split at q
    · split at q <;> cases q
    · rename_i hj
      rw [get_set, if_neg hj]
      exact r.tpn j ds q
  kn := fun j ds q => by
    rw [get_set] at q
    split at q
    · split at q <;> cases q
    · rename_i hj
      rw [get_set, if_neg hj]
      exact r.kn j ds q
  dsep := fun j k ds es p q1 q2 h1 h2 => by
    rw [get_set] at q1 q2
    split at q1
    · split at q1 <;> cases q1
    · rename_i hj
      split at q2
      · split at q2 <;> cases q2
      · rename_i hk
        rw [get_set, if_neg hj] at h1
        rw [get_set, if_neg hk] at h2
        exact r.dsep j k ds es p q1 q2 h1 h2
/-- fewer slots are told of -/
theorem Rel.less {σ' : Sl} {ρ' : En} (r : Rel Hk0 H0 Hk H σ ρ) (hl : σ'.length = ρ'.length) (h : ∀ (i : Nat) (c : Cl), ρ'[i]? = some (some c) → ρ[i]? = some (some c) ∧ σ'[i]? = σ[i]?) : Rel Hk0 H0 Hk H σ' ρ' where
  len := hl
  gr := r.gr
  val := fun i d q => by obtain ⟨a, b⟩ := h i _ q; rw [b]; exact r.val i d a
  own := fun i d q => by obtain ⟨a, b⟩ := h i _ q; rw [b]; exact r.own i d a
  sep := fun i j ds es p q1 q2 h1 h2 => by
    obtain ⟨a, b⟩ := h i _ q1
    obtain ⟨a', b'⟩ := h j _ q2
    rw [b] at h1
    rw [b'] at h2
    exact r.sep i j ds es p a a' h1 h2
  raw := fun i a q => by obtain ⟨b, c⟩ := h i _ q; rw [c]; exact r.raw i a b
  dct := fun i d q => by obtain ⟨a, b⟩ := h i _ q; rw [b]; exact r.dct i d a
  tpn := fun i d q => by obtain ⟨a, b⟩ := h i _ q; rw [b]; exact r.tpn i d a
  kn := fun i d q => by obtain ⟨a, b⟩ := h i _ q; rw [b]; exact r.kn i d a
  dsep := fun i j ds es p q1 q2 h1 h2 => by
    obtain ⟨a, b⟩ := h i _ q1
    obtain ⟨a', b'⟩ := h j _ q2
    rw [b] at h1
    rw [b'] at h2
    exact r.dsep i j ds es p a a' h1 h2
theorem Rel.drop (r : Rel Hk0 H0 Hk H σ ρ) (j : Nat) : Rel Hk0 H0 Hk H σ (ρ.set j none) := r.less (by rw [List.length_set]; exact r.len) fun i c q => by
  rw [get_set] at q
  split at q
  · split at q <;> cases q
  · exact ⟨q, rfl⟩
end

/-! ### targets -/
inductive Pat where
  | nm (i : Nat)
  | tp (ps : List Pat)
mutual
def asg : Pat → PyData → En → R En
  | .nm i, d, ρ => .ok (ρ.set i (some (.val d)))
  | .tp ps, .tuple ds, ρ => if ds.length = ps.length then asgs ps ds ρ else .bad
  | .tp _, _, _ => .bad
def asgs : List Pat → List PyData → En → R En
  | [], [], ρ => .ok ρ
  | p :: ps, d :: ds, ρ => asg p d ρ >>= fun ρ' => asgs ps ds ρ'
  | _, _, _ => .bad
def slots : Pat → List Nat
  | .nm i => [i]
  | .tp ps => slotsAll ps
def slotsAll : List Pat → List Nat
  | [] => []
  | p :: ps => slots p ++ slotsAll ps
end
def Off (vs : List Nat) (σ σ' : Sl) : Prop := σ'.length = σ.length ∧ ∀ j, j ∉ vs → σ'[j]? = σ[j]?
theorem Off.refl (vs : List Nat) (σ : Sl) : Off vs σ σ := ⟨rfl, fun _ _ => rfl⟩
theorem Off.set {vs : List Nat} {σ : Sl} {i : Nat} {v : Option V} (h : i ∈ vs) : Off vs σ (σ.set i v) := ⟨List.length_set, fun j hj => by rw [get_set, if_neg (show ¬ i = j from fun e => hj (by rw [← e]; exact h))]⟩
theorem Off.trans {vs us : List Nat} {a b c : Sl} (h : Off vs a b) (k : Off us b c) : Off (vs ++ us) a c := ⟨k.1.trans h.1, fun j hj => by
  rw [List.mem_append, not_or] at hj
  rw [k.2 j hj.2, h.2 j hj.1]⟩
def tg (p : Pat) : TG := fun v σ H Q => ∃ Hk0 H0 Hk ρ d, Rel Hk0 H0 Hk H σ ρ ∧ Rp Hk v d ∧ ∃ ρ', asg p d ρ = .ok ρ' ∧ ∀ σ', Rel Hk0 H0 Hk H σ' ρ' → Off (slots p) σ σ' → Q σ' H
def tgs (ps : List Pat) : TGs := fun vs σ H Q => ∃ Hk0 H0 Hk ρ ds, Rel Hk0 H0 Hk H σ ρ ∧ RpAll Hk vs ds ∧ ∃ ρ', asgs ps ds ρ = .ok ρ' ∧ ∀ σ', Rel Hk0 H0 Hk H σ' ρ' → Off (slotsAll ps) σ σ' → Q σ' H
section
variable {X : Cx} [ok : OK X] {pos : Pos}
theorem pg_imp {e : Expr} {t t' : TG} (h : PG X e t) (w : ∀ v σ H Q, t' v σ H Q → t v σ H Q) : PG X e t' := ⟨fun pins s σ H v u Q I r q => h.run pins s σ H v u Q I r (w v σ H Q q)⟩
theorem pgs_imp {e : List Expr} {t t' : TGs} (h : PGs X e t) (w : ∀ v σ H Q, t' v σ H Q → t v σ H Q) : PGs X e t' := ⟨fun pins s σ H v u Q I r q => h.run pins s σ H v u Q I r (w v σ H Q q)⟩
theorem g_nm {x : Str} (i : Nat) (hN : X.N.Nodup) (hi : X.N[i]? = some x := by rfl) (hx : Loc X.env.scope x := by first | exact Or.inl rfl | exact Or.inr rfl) (hf : X.fn x = true ∨ X.env.scope.names.lookup x = some .local := by first | exact .inl rfl | exact .inr rfl) : PG X (.Name x pos) (tg (.nm i)) :=
  pg_imp (pg_name hN hi hx hf) fun v σ H Q ⟨Hk0, H0, Hk, ρ, d, r, rv, ρ', e, k⟩ => by
    cases e
    exact k _ (r.setVal rv) (Off.set (by show i ∈ [i]; simp))
theorem g_nil : PGs X [] (tgs []) := pgs_imp pgs_nil fun v σ H Q ⟨Hk0, H0, Hk, ρ, ds, r, rv, ρ', e, k⟩ => by
  cases ds with
  | nil => cases rv; cases e; exact ⟨rfl, k σ r (Off.refl _ _)⟩
  | cons d ds => cases e
theorem g_cons {e : Expr} {es : List Expr} {p : Pat} {ps : List Pat} (h1 : PG X e (tg p)) (h2 : PGs X es (tgs ps)) (hs : (assignEach (e :: es) X.env).map (·.2) = assign e X.env :: (assignEach es X.env).map (·.2) := by rfl) : PGs X (e :: es) (tgs (p :: ps)) :=
  pgs_imp (pgs_cons h1 h2 hs) fun v σ H Q ⟨Hk0, H0, Hk, ρ, ds, r, rv, ρ', q, k⟩ => by
    cases ds with
    | nil => simp [asgs] at q
    | cons d ds =>
      cases rv with
      | cons a b =>
        rw [asgs] at q
        cases e1 : asg p d ρ with
        | err c => rw [e1] at q; cases q
        | bad => rw [e1] at q; cases q
        | ok ρ1 =>
          rw [e1] at q
          refine ⟨_, _, rfl, Hk0, H0, Hk, ρ, d, r, a, ρ1, e1, fun σ1 r1 o1 => ⟨Hk0, H0, Hk, ρ1, ds, r1, b, ρ', q, fun σ2 r2 o2 => k σ2 r2 (by rw [slotsAll]; exact o1.trans o2)⟩⟩
theorem g_tp {es : List Expr} {k n : Nat} {ps : List Pat} (hc : X.calm = true) (h : PGs X es (tgs ps)) (hn : (assignEach es X.env).length = n := by rfl) (hst : (assignEach es X.env).findIdx? (·.1) = none := by rfl) (hp : ps.length = n := by rfl) : PG X (.Tuple es k pos) (tg (.tp ps)) :=
  pg_imp (pg_tup hc h hn hst) fun v σ H Q ⟨Hk0, H0, Hk, ρ, d, r, rv, ρ', e, k⟩ => by
    cases d with
    | tuple ds =>
      rw [asg] at e
      split at e
      · rename_i hl
        cases rv with
        | tup s a => exact ⟨_, _, rfl, .inl (Evl.ex_rd r.kh s), by rw [RpAll.length a, hl, hp], Hk0, H0, Hk, ρ, ds, r, a, ρ', e, fun σ' r' o => k σ' r' (by rw [slots]; exact o)⟩
      · cases e
    | _ => simp [asg] at e
end

/-! ### what is walked -/
structure ItOk (J : It) (ds : List PyData) (Hk1 : Hp) (S : Hp → Prop) : Prop where
  go : ∀ i H, S H → i < ds.length → J.go i H
  stop : ∀ i H, S H → i = ds.length → J.stop i H
  yld : ∀ i H Hk x H', S H → Ex Hk1 Hk → Ex Hk H → J.yld i H x H' → ∀ d, ds[i]? = some d → ∃ Hk', Gr Hk H Hk' H' ∧ Rp Hk' x d
  mono : ∀ H H', Ex H H' → S H → S H'
section
variable (K : PySem.W.Frag) (W : WX)
def PostI (Hk H : Hp) (σ : Sl) (Q : It → Hp → Prop) : R (Bool × List PyData) → Prop
  | .ok (kn, ds) => ∀ J Hk' H' S, Gr Hk H Hk' H' → ItOk J ds Hk' S → S H' → (kn = true → S Hk') → Q J H'
  | .err c => ∀ Hk' H', Gr Hk H Hk' H' → W (.ref (He.ga K c)) none σ H'
  | .bad => False
def ti (φ : En → R (Bool × List PyData)) : TI := fun σ H Q => ∃ Hk0 H0 Hk ρ, Rel Hk0 H0 Hk H σ ρ ∧ PostI K W Hk H σ Q (φ ρ)
end
/-- a list, a tuple -/
def seqOf (r : Rv) : R (Bool × List PyData) := match r with
  | .val (.list ds) => .ok (true, ds)
  | .val (.tuple ds) => .ok (true, ds)
  | .bor _ ds => .ok (false, ds)
  | _ => .bad
def iSeq (φ : En → R Rv) : En → R (Bool × List PyData) := fun ρ => φ ρ >>= fun x => seqOf (frz x)
def rangeD (lo : Int) (n : Nat) : List PyData := (List.range n).map fun (k : Nat) => PyData.int (lo + (k : Int))
def iRg1 (φ : En → R Rv) : En → R (Bool × List PyData) := fun ρ => φ ρ >>= fun x => (frz x).toInt >>= fun j => if -(2 ^ 60) ≤ j ∧ j < 2 ^ 60 then .ok (true, rangeD 0 j.toNat) else .bad
def iRg2 (φ ψ : En → R Rv) : En → R (Bool × List PyData) := fun ρ => φ ρ >>= fun x => ψ ρ >>= fun y => (frz x).toInt >>= fun i => (frz y).toInt >>= fun j => if -(2 ^ 60) ≤ i ∧ i < 2 ^ 60 ∧ -(2 ^ 60) ≤ j ∧ j < 2 ^ 60 then .ok (true, rangeD i (j - i).toNat) else .bad
section
variable {K : PySem.W.Frag} {W : WX} {Hk0 H0 Hk H : Hp} {σ : Sl} {ρ : En}
theorem PostI.up {Q : It → Hp → Prop} {Hk' H' : Hp} {r : R (Bool × List PyData)} (g : Gr Hk H Hk' H') (h : PostI K W Hk H σ Q r) : PostI K W Hk' H' σ Q r := by
  cases r with
  | ok r => exact fun J Hk2 H2 S g2 => h J Hk2 H2 S (g.trans g2)
  | err c => exact fun Hk2 H2 g2 => h Hk2 H2 (g.trans g2)
  | bad => exact h
/-- an expression, then what is walked -/
theorem te_thenI {φ : En → R Rv} {g : Rv → R (Bool × List PyData)} {Q : It → Hp → Prop} {Q' : VK} (r : Rel Hk0 H0 Hk H σ ρ) (p : PostI K W Hk H σ Q (φ ρ >>= fun x => g (frz x)))
    (k : ∀ x v Hk' H', Gr Hk H Hk' H' → Den Hk' H' σ x v → x.isOwn = false → Rel Hk0 H0 Hk' H' σ ρ → PostI K W Hk' H' σ Q (g x) → Q' v H') : te K W φ σ H Q' := by
  refine ⟨Hk0, H0, Hk, ρ, r, ?_⟩
  cases e : φ ρ with
  | err c => rw [e] at p; exact p
  | bad => rw [e] at p; exact p
  | ok x =>
    rw [e] at p
    have p : PostI K W Hk H σ Q (g (frz x)) := p
    intro v Hk' H' gr n d
    cases x with
    | val d' => exact k _ v Hk' H' gr d rfl (r.up gr) (PostI.up gr p)
    | own ds =>
      obtain ⟨q, xs, a, b, c, f⟩ := d
      obtain ⟨q', a', b'⟩ := n
      subst a
      cases a'
      have g2 := gr.frz b' c b
      exact k (.val (.list ds)) _ (upd Hk' q (.lst xs)) H' g2 (Rp.lst (.inl (.inl upd_same)) (RpAll.up (Ex.new b) f)) rfl (r.up g2) (PostI.up g2 p)
    | bor i ds => exact k _ v Hk' H' gr d rfl (r.up gr) (PostI.up gr p)
end
theorem rd_mono {a : Addr} {o : HO} : ∀ H H' : Hp, Ex H H' → Rd H a o → Rd H' a o := fun _ _ e h => Evl.ex_rd e h
theorem rl_mono {a : Addr} {xs : List V} : ∀ H H' : Hp, Ex H H' → Rl H a xs → Rl H' a xs := fun _ _ e h => Rl.up e h
theorem rdT_inj {H : Hp} {a : Addr} {xs ys : List V} (h : Rd H a (.tup xs)) (k : Rd H a (.tup ys)) : xs = ys := by
  rcases h with h | ⟨o, h⟩ <;> rcases k with k | ⟨o', k⟩ <;> rw [h] at k <;> cases k <;> rfl
theorem itl_ok {K : PySem.W.Frag} (hK : K = KK.K) {a : Addr} {xs : List V} {ds : List PyData} {Hk1 : Hp} (h : RpAll Hk1 xs ds) : ItOk (Itl K a) ds Hk1 (fun H => Rl H a xs) where
  go := fun i H hs hi => by
    have hx : i < xs.length := by rw [RpAll.length h]; exact hi
    exact ⟨xs, xs[i], (by rw [hK]; exact Rl.sqK hs), List.getElem?_eq_getElem hx⟩
  stop := fun i H hs hi => ⟨xs, (by rw [hK]; exact Rl.sqK hs), by rw [RpAll.length h, hi]; exact Nat.le_refl _⟩
  yld := fun i H Hk x H' hs e1 e2 y d hd => by
    obtain ⟨rfl, f⟩ := y
    obtain ⟨v, hv, rv⟩ := RpAll.get h hd
    have := f xs ((by rw [hK]; exact Rl.sqK hs))
    rw [hv] at this
    cases this
    exact ⟨Hk, Gr.refl e2, Rp.up e1 rv⟩
  mono := rl_mono
theorem itt_ok {K : PySem.W.Frag} {a : Addr} {xs : List V} {ds : List PyData} {Hk1 : Hp} (h : RpAll Hk1 xs ds) : ItOk (Itt K a) ds Hk1 (fun H => Rd H a (.tup xs)) where
  go := fun i H hs hi => by
    have hx : i < xs.length := by rw [RpAll.length h]; exact hi
    exact ⟨xs, xs[i], .inl hs, List.getElem?_eq_getElem hx⟩
  stop := fun i H hs hi => ⟨xs, .inl hs, by rw [RpAll.length h, hi]; exact Nat.le_refl _⟩
  yld := fun i H Hk x H' hs e1 e2 y d hd => by
    obtain ⟨rfl, f⟩ := y
    obtain ⟨v, hv, rv⟩ := RpAll.get h hd
    have := f xs (.inl hs)
    rw [hv] at this
    cases this
    exact ⟨Hk, Gr.refl e2, Rp.up e1 rv⟩
  mono := rd_mono
theorem rangeD_len (lo : Int) (n : Nat) : (rangeD lo n).length = n := by unfold rangeD; rw [List.length_map, List.length_range]
theorem itr_ok {lo : Int} {n : Nat} {Hk1 : Hp} : ItOk (Itr lo n) (rangeD lo n) Hk1 (fun _ => True) where
  go := fun i H _ hi => by rw [rangeD_len] at hi; exact hi
  stop := fun i H _ hi => by rw [rangeD_len] at hi; exact Nat.le_of_eq hi.symm
  yld := fun i H Hk x H' _ e1 e2 y d hd => by
    obtain ⟨rfl, rfl⟩ := y
    unfold rangeD at hd
    rw [List.getElem?_map] at hd
    cases q : (List.range n)[i]? with
    | none => rw [q] at hd; cases hd
    | some k =>
      rw [q] at hd
      cases hd
      have : k = i := by
        obtain ⟨h1, h2⟩ := List.getElem?_eq_some_iff.mp q
        rw [List.getElem_range] at h2
        exact h2.symm
      subst this
      exact ⟨Hk, Gr.refl e2, Rp.int _⟩
  mono := fun _ _ _ h => h
section
variable {X : Cx} [ok : OK X] {W : WX} {tgt e e' : Expr} {φ ψ : En → R Rv} {p pos : Pos}
theorem seqOf_ok {r : Rv} {b : Bool} {ds : List PyData} {Hk H : Hp} {σ : Sl} {v : V} (h : seqOf r = .ok (b, ds)) (x : Ex Hk H) (d : Den Hk H σ r v) :
    ∃ a xs, v = .ref a ∧ RpAll Hk xs ds ∧ ((Rl H a xs ∧ (b = true → Rl Hk a xs)) ∨ (Rd H a (.tup xs) ∧ (b = true → Rd Hk a (.tup xs)))) := by
  cases r with
  | val d' =>
    cases d' with
    | list es => cases h; cases (show Rp Hk v (.list ds) from d) with | lst s a => exact ⟨_, _, rfl, a, .inl ⟨Rl.up x s, fun _ => s⟩⟩
    | tuple es => cases h; cases (show Rp Hk v (.tuple ds) from d) with | tup s a => exact ⟨_, _, rfl, a, .inr ⟨Evl.ex_rd x s, fun _ => s⟩⟩
    | _ => cases h
  | own es => cases h
  | bor i es => cases h; obtain ⟨q, xs, a, _, _, c, d⟩ := d; exact ⟨q, xs, a, d, .inl ⟨.inl (.inl c), fun z => nomatch z⟩⟩
theorem w_seq (h : PE X e (te X.K W φ)) : PI X tgt e (ti X.K W (iSeq φ)) := ⟨fun pins s σ H Q I hw => by
  obtain ⟨Hk0, H0, Hk, ρ, r, p⟩ := hw
  unfold iSeq at p
  cases hφ : φ ρ with
  | err c =>
    rw [hφ] at p
    exact (pi_list h).run pins s σ H Q I ⟨Hk0, H0, Hk, ρ, r, by rw [hφ]; exact p⟩
  | bad => rw [hφ] at p; exact p.elim
  | ok x =>
    rw [hφ] at p
    have p : PostI X.K W Hk H σ Q (seqOf (frz x)) := p
    cases x with
    | own es =>
      refine (pi_list h).run pins s σ H Q I ⟨Hk0, H0, Hk, ρ, r, ?_⟩
      rw [hφ]
      intro v Hk' H' g n d
      obtain ⟨q, xs, a, b, c, f⟩ := d
      obtain ⟨q', a', b'⟩ := n
      subst a
      cases a'
      have g2 := g.frz b' c b
      have f2 := RpAll.up (Ex.new (o := .lst xs) b) f
      exact ⟨q, rfl, ⟨xs, .inl (.inl c)⟩, p _ _ H' _ g2 (itl_ok ok.eq f2) (.inl (.inl c)) fun _ => .inl (.inl upd_same)⟩
    | bor i es =>
      refine (pi_list h).run pins s σ H Q I ⟨Hk0, H0, Hk, ρ, r, ?_⟩
      rw [hφ]
      intro v Hk' H' g n d
      obtain ⟨q, xs, a, _, b, c, f⟩ := d
      subst a
      exact ⟨q, rfl, ⟨xs, .inl (.inl c)⟩, p _ _ H' _ g (itl_ok ok.eq f) (.inl (.inl c)) fun z => nomatch z⟩
    | val d' =>
      cases d' with
      | list es =>
        refine (pi_list h).run pins s σ H Q I ⟨Hk0, H0, Hk, ρ, r, ?_⟩
        rw [hφ]
        intro v Hk' H' g n d
        cases (show Rp Hk' v (.list es) from d) with
        | lst hs ha => exact ⟨_, rfl, ⟨_, (Rl.up g.kh hs).sq⟩, p _ _ H' _ g (itl_ok ok.eq ha) (Rl.up g.kh hs) fun _ => hs⟩
      | tuple es =>
        refine (pi_tup h).run pins s σ H Q I ⟨Hk0, H0, Hk, ρ, r, ?_⟩
        rw [hφ]
        intro v Hk' H' g n d
        cases (show Rp Hk' v (.tuple es) from d) with
        | tup hs ha => exact ⟨_, rfl, ⟨_, .inl (Evl.ex_rd g.kh hs)⟩, p _ _ H' _ g (itt_ok ha) (Evl.ex_rd g.kh hs) fun _ => hs⟩
      | _ => exact p.elim⟩
theorem toInt_no {x : Rv} {c : Str} : x.toInt ≠ .err c := by
  cases x with
  | val d => cases d <;> exact fun h => nomatch h
  | own _ => exact fun h => nomatch h
  | bor _ _ => exact fun h => nomatch h
theorem w_rg1 (h : PE X e (te X.K W φ)) (hm : X.mg "range" = none) (hg : Gl X "range" := by rfl) (hs : starEach [e] X.env = [(false, eval e X.env)] := by rfl) : PI X tgt (.Call (.Name "range" p) [e] [] pos) (ti X.K W (iRg1 φ)) :=
  pi_imp (pi_range1 hg hm (pa_cons h pa_nil hs) hs) fun σ H Q ⟨Hk0, H0, Hk, ρ, r, p⟩ => by
    refine te_thenI (g := fun x => x.toInt >>= fun j => if -(2 ^ 60) ≤ j ∧ j < 2 ^ 60 then .ok (true, rangeD 0 j.toNat) else .bad) r p fun x v Hk' H' g d n r' p' => ?_
    cases q : x.toInt with
    | err c => exact absurd q toInt_no
    | bad => rw [q] at p'; exact p'.elim
    | ok j =>
      rw [q] at p'
      have p' : PostI X.K W Hk' H' σ Q (if -(2 ^ 60) ≤ j ∧ j < 2 ^ 60 then .ok (true, rangeD 0 j.toNat) else .bad) := p'
      split at p'
      · rename_i hj
        rw [d.int q]
        exact ⟨j, rfl, by omega, by omega, p' _ _ H' _ (Gr.refl g.kh) itr_ok trivial fun _ => trivial⟩
      · exact p'.elim
theorem w_rg2 (h : PE X e (te X.K W φ)) (h' : PE X e' (te X.K W ψ)) (hm : X.mg "range" = none) (hg : Gl X "range" := by rfl) (hs : starEach [e, e'] X.env = [(false, eval e X.env), (false, eval e' X.env)] := by rfl) (hs2 : starEach [e'] X.env = [(false, eval e' X.env)] := by rfl) :
    PI X tgt (.Call (.Name "range" p) [e, e'] [] pos) (ti X.K W (iRg2 φ ψ)) :=
  pi_imp (pi_range2 hg hm (pa_cons h (pa_cons h' pa_nil hs2) (by rw [hs, hs2])) hs hs2) fun σ H Q ⟨Hk0, H0, Hk, ρ, r, p⟩ => by
    refine te_thenI (g := fun x => ψ ρ >>= fun y => x.toInt >>= fun i => (frz y).toInt >>= fun j => if -(2 ^ 60) ≤ i ∧ i < 2 ^ 60 ∧ -(2 ^ 60) ≤ j ∧ j < 2 ^ 60 then .ok (true, rangeD i (j - i).toNat) else .bad) r p fun x v Hk1 H1 g1 d1 n1 r1 p1 => ?_
    refine te_thenI (g := fun y => x.toInt >>= fun i => y.toInt >>= fun j => if -(2 ^ 60) ≤ i ∧ i < 2 ^ 60 ∧ -(2 ^ 60) ≤ j ∧ j < 2 ^ 60 then .ok (true, rangeD i (j - i).toNat) else .bad) r1 p1 fun y u Hk' H' g d n r' p' => ?_
    cases q : x.toInt with
    | err c => exact absurd q toInt_no
    | bad => rw [q] at p'; exact p'.elim
    | ok i =>
      rw [q] at p'
      cases q2 : y.toInt with
      | err c => exact absurd q2 toInt_no
      | bad => rw [q2] at p'; exact p'.elim
      | ok j =>
        rw [q2] at p'
        have p' : PostI X.K W Hk' H' σ Q (if -(2 ^ 60) ≤ i ∧ i < 2 ^ 60 ∧ -(2 ^ 60) ≤ j ∧ j < 2 ^ 60 then .ok (true, rangeD i (j - i).toNat) else .bad) := p'
        split at p'
        · rename_i hj
          rw [d1.int q, d.int q2]
          exact ⟨i, j, rfl, ⟨by omega, by omega, by omega, by omega⟩, p' _ _ H' _ (Gr.refl g.kh) itr_ok trivial fun _ => trivial⟩
        · exact p'.elim
end
/-! zip of two lists, of two tuples -/
def zipD : List PyData → List PyData → List PyData
  | a :: as, b :: bs => .tuple [a, b] :: zipD as bs
  | _, _ => []
def isTupR : Rv → Bool
  | .val (.tuple _) => true
  | _ => false
def zip2 (x y : Rv) : R (Bool × List PyData) := seqOf x >>= fun a => seqOf y >>= fun b => if isTupR x = isTupR y then .ok (a.1 && b.1, zipD a.2 b.2) else .bad
def iZip2 (φ ψ : En → R Rv) : En → R (Bool × List PyData) := fun ρ => φ ρ >>= fun x => ψ ρ >>= fun y => zip2 (frz x) (frz y)
theorem zipD_len : ∀ as bs : List PyData, (zipD as bs).length = min as.length bs.length
  | [], _ => by simp [zipD]
  | _ :: _, [] => by simp [zipD]
  | a :: as, b :: bs => by rw [zipD, List.length_cons, zipD_len as bs, List.length_cons, List.length_cons]; omega
theorem zipD_get : ∀ {as bs : List PyData} {i : Nat} {d : PyData}, (zipD as bs)[i]? = some d → ∃ a b, as[i]? = some a ∧ bs[i]? = some b ∧ d = .tuple [a, b]
  | [], _, _, _, h => by simp [zipD] at h
  | _ :: _, [], _, _, h => by simp [zipD] at h
  | a :: as, b :: bs, 0, d, h => by simp [zipD] at h; exact ⟨a, b, rfl, rfl, h.symm⟩
  | a :: as, b :: bs, i + 1, d, h => by
    obtain ⟨x, y, h1, h2, h3⟩ := zipD_get (as := as) (bs := bs) (i := i) (d := d) (by simpa [zipD] using h)
    exact ⟨x, y, by simpa using h1, by simpa using h2, h3⟩
end Py

set_option Elab.async false
set_option linter.all false
set_option maxRecDepth 100000
set_option autoImplicit false
set_option maxHeartbeats 1000000
/-! PyF: zip, comprehensions, statements, defs. -/
namespace Py
variable [KK]
open PySem L2
open Evl (Ex)
open RZ (ItzT pi_zipA)
theorem seqOf_kind {r : Rv} {b : Bool} {ds : List PyData} {Hk H : Hp} {σ : Sl} {v : V} (h : seqOf r = .ok (b, ds)) (x : Ex Hk H) (d : Den Hk H σ r v) :
    ∃ a xs, v = .ref a ∧ RpAll Hk xs ds ∧ ((isTupR r = false ∧ Rl H a xs ∧ (b = true → Rl Hk a xs)) ∨ (isTupR r = true ∧ Rd H a (.tup xs) ∧ (b = true → Rd Hk a (.tup xs)))) := by
  cases r with
  | val d' =>
    cases d' with
    | list es => cases h; cases (show Rp Hk v (.list ds) from d) with | lst s a => exact ⟨_, _, rfl, a, .inl ⟨rfl, Rl.up x s, fun _ => s⟩⟩
    | tuple es => cases h; cases (show Rp Hk v (.tuple ds) from d) with | tup s a => exact ⟨_, _, rfl, a, .inr ⟨rfl, Evl.ex_rd x s, fun _ => s⟩⟩
    | _ => cases h
  | own es => cases h
  | bor i es => cases h; obtain ⟨q, xs, a, _, _, c, d⟩ := d; exact ⟨q, xs, a, d, .inl ⟨rfl, .inl (.inl c), fun z => nomatch z⟩⟩
theorem seqOf_no {x : Rv} {c : Str} : seqOf x ≠ .err c := by
  cases x with
  | val d => cases d <;> exact fun h => nomatch h
  | own _ => exact fun h => nomatch h
  | bor _ _ => exact fun h => nomatch h
theorem itz_ok {K : PySem.W.Frag} (hK : K = KK.K) {a b : Addr} {xs ys : List V} {ds es : List PyData} {Hk1 : Hp} (h : RpAll Hk1 xs ds) (k : RpAll Hk1 ys es) : ItOk (Itz K a b) (zipD ds es) Hk1 (fun H => Rl H a xs ∧ Rl H b ys) where
  go := fun i H hs hi => by
    rw [zipD_len] at hi
    have h1 : i < xs.length := by rw [RpAll.length h]; omega
    have h2 : i < ys.length := by rw [RpAll.length k]; omega
    exact ⟨xs, ys, xs[i], ys[i], (by rw [hK]; exact hs.1.sqK), (by rw [hK]; exact hs.2.sqK), List.getElem?_eq_getElem h1, List.getElem?_eq_getElem h2⟩
  stop := fun i H hs hi => ⟨xs, ys, (by rw [hK]; exact hs.1.sqK), (by rw [hK]; exact hs.2.sqK), by rw [zipD_len] at hi; rw [RpAll.length h, RpAll.length k]; omega⟩
  yld := fun i H Hk x H' hs e1 e2 y d hd => by
    obtain ⟨T, x1, y1, rfl, hT, rfl, f1, f2⟩ := y
    obtain ⟨a', b', h1, h2, rfl⟩ := zipD_get hd
    obtain ⟨v, hv, rv⟩ := RpAll.get h h1
    obtain ⟨u, hu, ru⟩ := RpAll.get k h2
    have q1 := f1 xs ((by rw [hK]; exact hs.1.sqK))
    have q2 := f2 ys ((by rw [hK]; exact hs.2.sqK))
    rw [hv] at q1
    rw [hu] at q2
    obtain rfl := Option.some.inj q1
    obtain rfl := Option.some.inj q2
    have n := Ex.new (o := .tup [v, u]) (Evl.fresh_back e2 hT)
    exact ⟨_, Gr.new e2 hT, .tup (.inl upd_same) (.cons (Rp.up n (Rp.up e1 rv)) (.cons (Rp.up n (Rp.up e1 ru)) .nil))⟩
  mono := fun _ _ e h => ⟨Rl.up e h.1, Rl.up e h.2⟩
theorem itzT_ok {K : PySem.W.Frag} {a b : Addr} {xs ys : List V} {ds es : List PyData} {Hk1 : Hp} (h : RpAll Hk1 xs ds) (k : RpAll Hk1 ys es) : ItOk (ItzT K a b) (zipD ds es) Hk1 (fun H => Rd H a (.tup xs) ∧ Rd H b (.tup ys)) where
  go := fun i H hs hi => by
    rw [zipD_len] at hi
    have h1 : i < xs.length := by rw [RpAll.length h]; omega
    have h2 : i < ys.length := by rw [RpAll.length k]; omega
    exact ⟨xs, ys, xs[i], ys[i], .inl hs.1, .inl hs.2, List.getElem?_eq_getElem h1, List.getElem?_eq_getElem h2⟩
  stop := fun i H hs hi => ⟨xs, ys, .inl hs.1, .inl hs.2, by rw [zipD_len] at hi; rw [RpAll.length h, RpAll.length k]; omega⟩
  yld := fun i H Hk x H' hs e1 e2 y d hd => by
    obtain ⟨T, x1, y1, rfl, hT, rfl, f1, f2⟩ := y
    obtain ⟨a', b', h1, h2, rfl⟩ := zipD_get hd
    obtain ⟨v, hv, rv⟩ := RpAll.get h h1
    obtain ⟨u, hu, ru⟩ := RpAll.get k h2
    have q1 := f1 xs (.inl hs.1)
    have q2 := f2 ys (.inl hs.2)
    rw [hv] at q1
    rw [hu] at q2
    obtain rfl := Option.some.inj q1
    obtain rfl := Option.some.inj q2
    have n := Ex.new (o := .tup [v, u]) (Evl.fresh_back e2 hT)
    exact ⟨_, Gr.new e2 hT, .tup (.inl upd_same) (.cons (Rp.up n (Rp.up e1 rv)) (.cons (Rp.up n (Rp.up e1 ru)) .nil))⟩
  mono := fun _ _ e h => ⟨Evl.ex_rd e h.1, Evl.ex_rd e h.2⟩
section
variable {X : Cx} [ok : OK X] {W : WX} {e e' : Expr} {φ ψ : En → R Rv} {p pos tpos : Pos} {elts : List Expr} {kk : Nat}
theorem w_zip2 (h : PE X e (te X.K W φ)) (h' : PE X e' (te X.K W ψ)) (hm : X.mg "zip" = none) (hg : Gl X "zip" := by rfl) (hs : starEach [e, e'] X.env = (false, eval e X.env) :: starEach [e'] X.env := by rfl) (hs2 : starEach [e'] X.env = (false, eval e' X.env) :: starEach [] X.env := by rfl)
    (hpl : (backTo pos (starEach [e'] X.env)).any (·.1) = false := by rfl) : PI X (.Tuple elts kk tpos) (.Call (.Name "zip" p) [e, e'] [] pos) (ti X.K W (iZip2 φ ψ)) :=
  pi_imp (pi_zipA hg hm (pa_cons h (pa_cons h' pa_nil hs2) hs) hs hpl) fun σ H Q ⟨Hk0, H0, Hk, ρ, r, p⟩ => by
    refine te_thenI (g := fun x => ψ ρ >>= fun y => zip2 x (frz y)) r p fun x v Hk1 H1 g1 d1 n1 r1 p1 => ?_
    refine te_thenI (g := fun y => zip2 x y) r1 p1 fun y u Hk' H' g d n r' p' => ?_
    unfold zip2 at p'
    cases q : seqOf x with
    | err c => exact absurd q seqOf_no
    | bad => rw [q] at p'; exact p'.elim
    | ok a =>
      rw [q] at p'
      cases q2 : seqOf y with
      | err c => exact absurd q2 seqOf_no
      | bad => rw [q2] at p'; exact p'.elim
      | ok b =>
        rw [q2] at p'
        have p' : PostI X.K W Hk' H' σ Q (if isTupR x = isTupR y then .ok (a.1 && b.1, zipD a.2 b.2) else .bad) := p'
        split at p'
        · rename_i ht
          obtain ⟨l1, xs, rfl, ra, ca⟩ := seqOf_kind q g.kh (Den.up g d1)
          obtain ⟨l2, ys, rfl, rb, cb⟩ := seqOf_kind q2 g.kh d
          rcases ca with ⟨t1, s1, k1⟩ | ⟨t1, s1, k1⟩ <;> rcases cb with ⟨t2, s2, k2⟩ | ⟨t2, s2, k2⟩
          · exact ⟨l1, l2, xs, ys, rfl, .inl ⟨s1.sq, s2.sq, p' _ _ H' _ (Gr.refl g.kh) (itz_ok ok.eq ra rb) ⟨s1, s2⟩ fun z => by
              rw [Bool.and_eq_true] at z
              exact ⟨k1 z.1, k2 z.2⟩⟩⟩
          · rw [t1, t2] at ht; cases ht
          · rw [t1, t2] at ht; cases ht
          · exact ⟨l1, l2, xs, ys, rfl, .inr ⟨.inl s1, .inl s2, p' _ _ H' _ (Gr.refl g.kh) (itzT_ok ra rb) ⟨s1, s2⟩ fun z => by
              rw [Bool.and_eq_true] at z
              exact ⟨k1 z.1, k2 z.2⟩⟩⟩
        · exact p'.elim
end

/-! ### comprehensions -/
def nerr {α : Type} : R α → R α
  | .err _ => .bad
  | r => r
def lcR (τ : Pat) (T : En → R Bool) (φ : En → R Rv) (ρ : En) : List PyData → R (List PyData)
  | [] => .ok []
  | d :: ds => asg τ d ρ >>= fun ρ1 => nerr (T ρ1) >>= fun b => if b = true then nerr (φ ρ1) >>= fun r => (frz r).toVal >>= fun e => lcR τ T φ ρ ds >>= fun es => .ok (e :: es) else lcR τ T φ ρ ds
def wipeE (ρ : En) : List Nat → En
  | [] => ρ
  | v :: vs => (wipeE ρ vs).set v none
def tYes : En → R Bool := fun _ => .ok true
def eLc (ι : En → R (Bool × List PyData)) (τ : Pat) (T : En → R Bool) (φ : En → R Rv) (vs : List Nat) : En → R Rv := fun ρ => ι ρ >>= fun a => if a.2.length ≤ 1000000 then lcR τ T φ (wipeE ρ vs) a.2 >>= fun es => .ok (.own es) else .bad
theorem wipeE_len (ρ : En) : ∀ vs, (wipeE ρ vs).length = ρ.length
  | [] => rfl
  | v :: vs => by rw [wipeE, List.length_set, wipeE_len ρ vs]
theorem wipeE_some {ρ : En} {i : Nat} {c : Cl} : ∀ {vs : List Nat}, (wipeE ρ vs)[i]? = some (some c) → ρ[i]? = some (some c) ∧ i ∉ vs
  | [], h => ⟨h, by simp⟩
  | v :: vs, h => by
    rw [wipeE, get_set] at h
    split at h
    · split at h <;> cases h
    · rename_i hv
      obtain ⟨h1, h2⟩ := wipeE_some h
      exact ⟨h1, by rw [List.mem_cons, not_or]; exact ⟨fun e => hv e.symm, h2⟩⟩
theorem wipe_get (σ : Sl) (i : Nat) : ∀ vs : List Nat, (wipe σ vs)[i]? = if i ∈ vs then (if i < σ.length then some none else none) else σ[i]?
  | [] => by simp [wipe]
  | v :: vs => by
    rw [wipe, get_set, wipe_length, wipe_get σ i vs]
    by_cases h : v = i
    · subst h
      simp
    · rw [if_neg h]
      have : (i ∈ v :: vs) ↔ i ∈ vs := by rw [List.mem_cons]; exact ⟨fun z => z.resolve_left (fun e => h e.symm), .inr⟩
      by_cases h2 : i ∈ vs
      · rw [if_pos h2, if_pos (this.mpr h2)]
      · rw [if_neg h2, if_neg (fun z => h2 (this.mp z))]
theorem wipe_off {σ σ2 : Sl} {us vs : List Nat} (h : Off us (wipe σ vs) σ2) (hs : ∀ i ∈ us, i ∈ vs) : wipe σ2 vs = wipe σ vs := by
  refine List.ext_getElem? fun i => ?_
  have hl : σ2.length = σ.length := by rw [h.1, wipe_length]
  rw [wipe_get, wipe_get, hl]
  split
  · rfl
  · rename_i hi
    rw [h.2 i (fun z => hi (hs i z)), wipe_get, if_neg hi]
theorem Rel.wiped {Hk0 H0 Hk H : Hp} {σ : Sl} {ρ : En} (r : Rel Hk0 H0 Hk H σ ρ) (vs : List Nat) : Rel Hk0 H0 Hk H (wipe σ vs) (wipeE ρ vs) := r.less (by rw [wipe_length, wipeE_len]; exact r.len) fun i c q => by
  obtain ⟨h1, h2⟩ := wipeE_some q
  exact ⟨h1, by rw [wipe_get, if_neg h2]⟩
theorem nerr_ok {α : Type} {r : R α} {a : α} (h : nerr r = .ok a) : r = .ok a := by
  cases r with
  | ok b => exact h
  | err c => cases h
  | bad => cases h
mutual
theorem asg_no : ∀ {p : Pat} {d : PyData} {ρ : En} {c : Str}, asg p d ρ ≠ .err c
  | .nm i, d, ρ, c => by rw [asg]; exact fun h => nomatch h
  | .tp ps, d, ρ, c => by
    cases d with
    | tuple ds =>
      rw [asg]
      split
      · exact asgs_no
      · exact fun h => nomatch h
    | _ => simp [asg]
theorem asgs_no : ∀ {p : List Pat} {d : List PyData} {ρ : En} {c : Str}, asgs p d ρ ≠ .err c
  | [], [], ρ, c => by rw [asgs]; exact fun h => nomatch h
  | [], _ :: _, ρ, c => by simp [asgs]
  | _ :: _, [], ρ, c => by simp [asgs]
  | p :: ps, d :: ds, ρ, c => by
    rw [asgs]
    cases e : asg p d ρ with
    | ok a => exact asgs_no
    | err c' => exact absurd e asg_no
    | bad => exact fun h => nomatch h
end
theorem toVal_no {x : Rv} {c : Str} : x.toVal ≠ .err c := by cases x <;> exact fun h => nomatch h
theorem nerr_no {α : Type} {r : R α} {c : Str} : nerr r ≠ .err c := by cases r <;> exact fun h => nomatch h
theorem bind_no {α β : Type} {m : R α} {f : α → R β} {c : Str} (h : ∀ c, m ≠ .err c) (k : ∀ a, f a ≠ .err c) : (m >>= f) ≠ .err c := by
  cases m with
  | ok a => exact k a
  | err c' => exact absurd rfl (h c')
  | bad => exact fun h => nomatch h
theorem lcR_no {τ : Pat} {T : En → R Bool} {φ : En → R Rv} {ρ : En} {c : Str} : ∀ {ds : List PyData}, lcR τ T φ ρ ds ≠ .err c
  | [] => fun h => nomatch h
  | d :: ds => by
    rw [lcR]
    refine bind_no (fun _ => asg_no) fun ρ1 => bind_no (fun _ => nerr_no) fun b => ?_
    cases b with
    | false => exact lcR_no
    | true =>
      rw [if_pos rfl]
      exact bind_no (fun _ => nerr_no) fun x => bind_no (fun _ => toVal_no) fun y => by
        cases e : lcR τ T φ ρ ds with
        | ok zs => exact fun h => nomatch h
        | err c' => exact absurd e lcR_no
        | bad => exact fun h => nomatch h
abbrev W0 : WX := fun _ _ _ _ => False
theorem lcR_len {τ : Pat} {T : En → R Bool} {φ : En → R Rv} {ρ : En} : ∀ {ds es : List PyData}, lcR τ T φ ρ ds = .ok es → es.length ≤ ds.length
  | [], es, h => by cases h; exact Nat.le_refl _
  | d :: ds, es, h => by
    rw [lcR] at h
    cases e1 : asg τ d ρ with
    | err c => rw [e1] at h; cases h
    | bad => rw [e1] at h; cases h
    | ok ρ1 =>
      rw [e1] at h
      have h : (nerr (T ρ1) >>= fun b => if b = true then nerr (φ ρ1) >>= fun r => (frz r).toVal >>= fun e => lcR τ T φ ρ ds >>= fun es => .ok (e :: es) else lcR τ T φ ρ ds) = .ok es := h
      cases e2 : nerr (T ρ1) with
      | err c => rw [e2] at h; cases h
      | bad => rw [e2] at h; cases h
      | ok b =>
        rw [e2] at h
        cases b with
        | false =>
          have h : lcR τ T φ ρ ds = .ok es := h
          have := lcR_len h
          rw [List.length_cons]; omega
        | true =>
          have h : (nerr (φ ρ1) >>= fun r => (frz r).toVal >>= fun e => lcR τ T φ ρ ds >>= fun es => .ok (e :: es)) = .ok es := h
          cases e3 : nerr (φ ρ1) with
          | err c => rw [e3] at h; cases h
          | bad => rw [e3] at h; cases h
          | ok x =>
            rw [e3] at h
            have h : ((frz x).toVal >>= fun e => lcR τ T φ ρ ds >>= fun es => .ok (e :: es)) = .ok es := h
            cases e4 : (frz x).toVal with
            | err c => rw [e4] at h; cases h
            | bad => rw [e4] at h; cases h
            | ok y =>
              rw [e4] at h
              have h : (lcR τ T φ ρ ds >>= fun es => .ok (y :: es)) = .ok es := h
              cases e5 : lcR τ T φ ρ ds with
              | err c => rw [e5] at h; cases h
              | bad => rw [e5] at h; cases h
              | ok zs =>
                rw [e5] at h
                cases h
                have := lcR_len e5
                simp only [List.length_cons]; omega
section
variable {K : PySem.W.Frag} {W : WX} {ι : En → R (Bool × List PyData)} {τ : Pat} {T : En → R Bool} {φ : En → R Rv} {vs : List Nat}
theorem lc_read {σ : Sl} {H : Hp} {Q : VK} (hv : ∀ i ∈ slots τ, i ∈ vs) (h : te K W (eLc ι τ T φ vs) σ H Q) : tLc (ti K W ι) (tg τ) (tt K W0 T) (te K W0 φ) vs σ H Q := by
  obtain ⟨Hk0, H0, Hk, ρ, r, p⟩ := h
  refine ⟨Hk0, H0, Hk, ρ, r, ?_⟩
  unfold eLc at p
  cases e1 : ι ρ with
  | err c => rw [e1] at p; exact p
  | bad => rw [e1] at p; exact p
  | ok a =>
    obtain ⟨kn, ds⟩ := a
    rw [e1] at p
    have p : PostE K W Hk H σ Q (if ds.length ≤ 1000000 then lcR τ T φ (wipeE ρ vs) ds >>= fun es => .ok (.own es) else .bad) := p
    split at p
    · rename_i hz
      intro J Hk1 H1 S g1 ok s1 _ D hD
      cases e2 : lcR τ T φ (wipeE ρ vs) ds with
      | err c => exact absurd e2 lcR_no
      | bad => rw [e2] at p; exact p.elim
      | ok all =>
        rw [e2] at p
        have p : PostE K W Hk H σ Q (.ok (.own all)) := p
        have r1 := r.up g1
        refine ⟨fun i m Hc => m = ds.length - i ∧ i ≤ ds.length ∧ ∃ Hk2 acc es es', Gr Hk1 H1 Hk2 Hc ∧ Hk2 D = none ∧ Hc D = some (.lst acc) ∧ RpAll Hk2 acc es ∧ lcR τ T φ (wipeE ρ vs) (ds.drop i) = .ok es' ∧ es ++ es' = all ∧ es.length ≤ i,
          ⟨ds.length, by simp, Nat.zero_le _, Hk1, [], [], all, Gr.own g1.kh hD, Evl.fresh_back g1.kh hD, upd_same, .nil, by rw [List.drop_zero]; exact e2, rfl, Nat.le_refl _⟩, ?_⟩
        rintro i m Hc ⟨rfl, hi, Hk2, acc, es, es', g2, kD, cD, ra, el, ea, hel⟩
        have sc : S Hc := ok.mono _ _ g2.h s1
        by_cases hlt : i < ds.length
        · refine .inr ⟨ok.go i Hc sc hlt, fun H' => i + 1 ≤ ds.length ∧ ∃ Hk2 acc es es', Gr Hk1 H1 Hk2 H' ∧ Hk2 D = none ∧ H' D = some (.lst acc) ∧ RpAll Hk2 acc es ∧ lcR τ T φ (wipeE ρ vs) (ds.drop (i + 1)) = .ok es' ∧ es ++ es' = all ∧ es.length ≤ i + 1, fun H' n => ⟨ds.length - (i + 1), by omega, rfl, n.1, n.2⟩, fun x H' y => ?_⟩
          obtain ⟨Hk3, g3, rx⟩ := ok.yld i Hc Hk2 x H' sc g2.k g2.kh y ds[i] (List.getElem?_eq_getElem hlt)
          have hdr : ds.drop i = ds[i] :: ds.drop (i + 1) := List.drop_eq_getElem_cons hlt
          rw [hdr, lcR] at el
          cases q1 : asg τ ds[i] (wipeE ρ vs) with
          | err c => rw [q1] at el; cases el
          | bad => rw [q1] at el; cases el
          | ok ρ1 =>
            rw [q1] at el
            have el : (nerr (T ρ1) >>= fun b => if b = true then nerr (φ ρ1) >>= fun r => (frz r).toVal >>= fun e => lcR τ T φ (wipeE ρ vs) (ds.drop (i + 1)) >>= fun es => .ok (e :: es) else lcR τ T φ (wipeE ρ vs) (ds.drop (i + 1))) = .ok es' := el
            have rw2 := ((r1.up g2).up g3).wiped vs
            have dD3 : H' D = some (.lst acc) := g3.h _ _ cD
            have kD3 : Hk3 D = none := g3.fr D (by rw [cD]; exact fun z => nomatch z) kD
            refine ⟨Hk0, H0, Hk3, wipeE ρ vs, ds[i], rw2, rx, ρ1, q1, fun σ2 r2 o2 => ⟨wipe_off o2 hv, Hk0, H0, Hk3, ρ1, r2, ?_⟩⟩
            cases q2 : T ρ1 with
            | err c => rw [q2] at el; cases el
            | bad => rw [q2] at el; cases el
            | ok b =>
              rw [q2] at el
              intro Hk4 H4 g4
              have dD4 : H4 D = some (.lst acc) := g4.h _ _ dD3
              have kD4 : Hk4 D = none := g4.fr D (by rw [dD3]; exact fun z => nomatch z) kD3
              cases b with
              | false =>
                rw [if_neg Bool.false_ne_true]
                exact ⟨hlt, Hk4, acc, es, es', g2.trans (g3.trans g4), kD4, dD4, RpAll.up (g3.trans g4).k ra, el, ea, Nat.le_succ_of_le hel⟩
              | true =>
                rw [if_pos rfl]
                have el : (nerr (φ ρ1) >>= fun r => (frz r).toVal >>= fun e => lcR τ T φ (wipeE ρ vs) (ds.drop (i + 1)) >>= fun es => .ok (e :: es)) = .ok es' := el
                refine ⟨Hk0, H0, Hk4, ρ1, r2.up g4, ?_⟩
                cases q3 : φ ρ1 with
                | err c => rw [q3] at el; cases el
                | bad => rw [q3] at el; cases el
                | ok y =>
                  rw [q3] at el
                  have el : ((frz y).toVal >>= fun e => lcR τ T φ (wipeE ρ vs) (ds.drop (i + 1)) >>= fun es => .ok (e :: es)) = .ok es' := el
                  intro v Hk5 H5 g5 n5 d5
                  cases q4 : (frz y).toVal with
                  | err c => rw [q4] at el; cases el
                  | bad => rw [q4] at el; cases el
                  | ok w =>
                    rw [q4] at el
                    have el : (lcR τ T φ (wipeE ρ vs) (ds.drop (i + 1)) >>= fun es => .ok (w :: es)) = .ok es' := el
                    cases q5 : lcR τ T φ (wipeE ρ vs) (ds.drop (i + 1)) with
                    | err c => rw [q5] at el; cases el
                    | bad => rw [q5] at el; cases el
                    | ok es2 =>
                      rw [q5] at el
                      cases el
                      obtain ⟨Hk6, g6, rp⟩ : ∃ Hk6, Gr Hk4 H4 Hk6 H5 ∧ Rp Hk6 v w := by
                        cases y with
                        | val d' => cases q4; exact ⟨Hk5, g5, d5⟩
                        | own zs =>
                          cases q4
                          obtain ⟨q, xs, a, b, c, f⟩ := d5
                          obtain ⟨q', a', b'⟩ := n5
                          subst a
                          cases a'
                          exact ⟨_, g5.frz b' c b, .lst (.inl (.inl upd_same)) (RpAll.up (Ex.new b) f)⟩
                        | bor j zs => cases q4
                      have dD5 : H5 D = some (.lst acc) := g6.h _ _ dD4
                      have kD6 : Hk6 D = none := g6.fr D (by rw [dD4]; exact fun z => nomatch z) kD4
                      have G := g2.trans (g3.trans (g4.trans g6))
                      have hacc : acc.length ≤ i := by rw [RpAll.length ra]; exact hel
                      refine ⟨acc, dD5, Nat.lt_of_lt_of_le (Nat.lt_succ_of_le hacc) (big_fits (by omega)), hlt, Hk6, acc ++ [v], es ++ [w], es2, ?_, kD6, upd_same, RpAll.append (RpAll.up (g3.trans (g4.trans g6)).k ra) (.one rp), rfl, by rw [List.append_assoc]; exact ea, by rw [List.length_append, List.length_singleton]; omega⟩
                      refine ⟨G.k, Ex.mut G.h hD, fun a u q => ?_, G.fr⟩
                      have : a ≠ D := ne_of_none q kD6
                      rw [upd_ne this]
                      exact G.kh a u q
        · have e3 : i = ds.length := by omega
          rw [e3, List.drop_length] at el
          cases el
          rw [List.append_nil] at ea
          subst ea
          exact .inl ⟨ok.stop i Hc sc e3, p (.ref D) Hk2 Hc (g1.trans g2) ⟨D, rfl, Evl.fresh_back g1.h hD⟩ ⟨D, acc, rfl, kD, cD, ra⟩⟩
    · exact p.elim
end

section
variable {X : Cx} [ok : OK X] {W : WX} {elt tgt iter : Expr} {ifs : List Expr} {scope : Scope} {own : List (Str × Nat)} {pos spos py : Pos} {ι : En → R (Bool × List PyData)} {τ : Pat} {T : En → R Bool} {φ : En → R Rv}
theorem d_tsNil {Y : Cx} : PTs Y [] (tt Y.K W0 tYes) := ⟨fun pins s σ H Q I h => by
  obtain ⟨Hk0, H0, Hk, ρ, r, p⟩ := h
  exact pts_nil.run pins s σ H Q I (p Hk H (Gr.refl r.kh))⟩
theorem d_tsOne {Y : Cx} {c : Expr} {t : En → R Bool} (h : PT Y c (tt Y.K W0 t)) : PTs Y [c] (tt Y.K W0 t) := pts_one h
theorem d_lc (hc : X.calm = true) (hN : X.N.Nodup) (ok : BlkOk X.N X.env.scope scope own) (hi : PI X tgt iter (ti X.K W ι))
    (hg : ∀ (s : Shared) (H : Hp) (C : Addr) (cl : List (Str × Addr)) (fp : List Addr), PG (X.blk s H scope (compEnvC scope cl C X.env) fp) tgt (tg τ))
    (ht : ∀ (s : Shared) (H : Hp) (C : Addr) (cl : List (Str × Addr)) (fp : List Addr), PTs (X.blk s H scope (compEnvC scope cl C X.env) fp) ifs (tt X.K W0 T))
    (he : ∀ (s : Shared) (H : Hp) (C : Addr) (cl : List (Str × Addr)) (fp : List Addr), PE (X.blk s H scope (compEnvC scope cl C X.env) fp) elt (te X.K W0 φ))
    (hv : ∀ i ∈ slots τ, i ∈ own.map (·.2) := by decide) (hs : ∀ x, foldedSetIterable iter X.env x = pure x := by intro _; rfl) :
    PE X (.ListComp elt [⟨tgt, iter, ifs, 0⟩] scope pos) (te X.K W (eLc ι τ T φ (own.map (·.2)))) := pe_imp (pe_lc hc hN hi ok hg ht he hs) fun σ H Q h => lc_read hv h
end

/-! ### statements -/
inductive Out where
  | nx (ρ : En)
  | rt (r : Cr)
  | bk (ρ : En)
  | ct (ρ : En)
section
variable (K : PySem.W.Frag) (W : WX)
def PostS (Hk0 H0 Hk : Hp) (D : Ends) : R Out → Prop
  | .ok (.nx ρ') => ∀ σ' Hk' H', Ex Hk Hk' → Rel Hk0 H0 Hk' H' σ' ρ' → D.nx σ' H'
  | .ok (.bk ρ') => ∀ σ' Hk' H', Ex Hk Hk' → Rel Hk0 H0 Hk' H' σ' ρ' → D.bk σ' H'
  | .ok (.ct ρ') => ∀ σ' Hk' H', Ex Hk Hk' → Rel Hk0 H0 Hk' H' σ' ρ' → D.ct σ' H'
  | .ok (.rt r) => ∀ v Hk' H', Gr Hk0 H0 Hk' H' → New H0 r.rv v → DenC Hk' H' r v → D.rt v H'
  | .err c => ∀ σ' Hk' H', Gr Hk0 H0 Hk' H' → W (.ref (He.ga K c)) none σ' H'
  | .bad => False
def ts (Φ : En → R Out) : TS := fun D σ H => ∃ Hk0 H0 Hk ρ, Rel Hk0 H0 Hk H σ ρ ∧ PostS K W Hk0 H0 Hk D (Φ ρ)
end
def seqK (Ψ : En → R Out) : Out → R Out
  | .nx ρ' => Ψ ρ'
  | o => .ok o
def sSeq (Φ Ψ : En → R Out) : En → R Out := fun ρ => Φ ρ >>= seqK Ψ
def sNil : En → R Out := fun ρ => .ok (.nx ρ)
section
variable {K : PySem.W.Frag} {W : WX} {Hk0 H0 Hk H : Hp} {σ : Sl} {ρ : En} {D : Ends}
theorem PostS.up {Hk' : Hp} {o : R Out} (e : Ex Hk Hk') (p : PostS K W Hk0 H0 Hk D o) : PostS K W Hk0 H0 Hk' D o := by
  cases o with
  | ok o => cases o with
    | nx ρ' => exact fun σ2 Hk2 H2 e2 r2 => p σ2 Hk2 H2 (e.trans e2) r2
    | bk ρ' => exact fun σ2 Hk2 H2 e2 r2 => p σ2 Hk2 H2 (e.trans e2) r2
    | ct ρ' => exact fun σ2 Hk2 H2 e2 r2 => p σ2 Hk2 H2 (e.trans e2) r2
    | rt r => exact p
  | err c => exact p
  | bad => exact p
/-- an expression's value, then what is done with it -/
theorem s_then {φ : En → R Rv} {g : Rv → R Out} {Q' : VK} (r : Rel Hk0 H0 Hk H σ ρ) (p : PostS K W Hk0 H0 Hk D (φ ρ >>= g))
    (k : ∀ x v Hk' H', Gr Hk H Hk' H' → New H x v → Den Hk' H' σ x v → Rel Hk0 H0 Hk' H' σ ρ → PostS K W Hk0 H0 Hk' D (g x) → Q' v H') : te K W φ σ H Q' := by
  refine ⟨Hk0, H0, Hk, ρ, r, ?_⟩
  cases e : φ ρ with
  | ok x => rw [e] at p; exact fun v Hk' H' gr n d => k x v Hk' H' gr n d (r.up gr) (PostS.up gr.k p)
  | err c => rw [e] at p; exact fun Hk' H' g => p σ Hk' H' (r.gr.trans g)
  | bad => rw [e] at p; exact p
theorem s_thenF {φ : En → R Rv} {g : Rv → R Out} {Q' : VK} (r : Rel Hk0 H0 Hk H σ ρ) (p : PostS K W Hk0 H0 Hk D (φ ρ >>= fun x => g (frz x)))
    (k : ∀ x v Hk' H', Gr Hk H Hk' H' → Den Hk' H' σ x v → x.isOwn = false → Rel Hk0 H0 Hk' H' σ ρ → PostS K W Hk0 H0 Hk' D (g x) → Q' v H') : te K W φ σ H Q' :=
  s_then r p fun x v Hk' H' g n d r' p' => by
    cases x with
    | val d' => exact k _ v Hk' H' g d rfl r' p'
    | own ds =>
      obtain ⟨q, xs, a, b, c, f⟩ := d
      obtain ⟨q', a', b'⟩ := n
      subst a
      cases a'
      have g2 := g.frz b' c b
      exact k (.val (.list ds)) _ (upd Hk' q (.lst xs)) H' g2 (Rp.lst (.inl (.inl upd_same)) (RpAll.up (Ex.new b) f)) rfl (r.up g2) (PostS.up (Ex.new b) p')
    | bor i ds => exact k _ v Hk' H' g d rfl r' p'
theorem s_thenT {φ : En → R Bool} {g : Bool → R Out} {Q' : Bool → Hp → Prop} (r : Rel Hk0 H0 Hk H σ ρ) (p : PostS K W Hk0 H0 Hk D (φ ρ >>= g))
    (k : ∀ x Hk' H', Gr Hk H Hk' H' → Rel Hk0 H0 Hk' H' σ ρ → PostS K W Hk0 H0 Hk' D (g x) → Q' x H') : tt K W φ σ H Q' := by
  refine ⟨Hk0, H0, Hk, ρ, r, ?_⟩
  cases e : φ ρ with
  | ok x => rw [e] at p; exact fun Hk' H' gr => k x Hk' H' gr (r.up gr) (PostS.up gr.k p)
  | err c => rw [e] at p; exact fun Hk' H' g => p σ Hk' H' (r.gr.trans g)
  | bad => rw [e] at p; exact p
end
section
variable {X : Cx} [ok : OK X] {W : WX} {st : Stmt} {rest : List Stmt} {Φ Ψ : En → R Out} {e c : Expr} {φ ψ : En → R Rv} {t : En → R Bool} {pos : Pos}
theorem s_nil : PSs X [] (ts X.K W sNil) := pss_imp pss_nil fun D σ H ⟨Hk0, H0, Hk, ρ, r, p⟩ => p σ Hk H (Ex.refl _) r
theorem s_cons (h1 : PS X st (ts X.K W Φ)) (h2 : PSs X rest (ts X.K W Ψ)) : PSs X (st :: rest) (ts X.K W (sSeq Φ Ψ)) := pss_imp (pss_cons h1 h2) fun D σ H ⟨Hk0, H0, Hk, ρ, r, p⟩ => by
  refine ⟨Hk0, H0, Hk, ρ, r, ?_⟩
  unfold sSeq at p
  cases e : Φ ρ with
  | ok o =>
    rw [e] at p
    cases o with
    | nx ρ' => exact fun σ' Hk' H' e' r' => ⟨Hk0, H0, Hk', ρ', r', PostS.up e' p⟩
    | _ => exact p
  | err c => rw [e] at p; exact p
  | bad => rw [e] at p; exact p
theorem s_one (h1 : PS X st (ts X.K W Φ)) : PSs X [st] (ts X.K W Φ) := pss_one h1
/-! x = e -/
def put (i : Nat) (r : Rv) (ρ : En) : En := match r with
  | .val d => ρ.set i (some (.val d))
  | .own ds => ρ.set i (some (.own ds))
  | .bor j _ => match ρ[j]? with
    | some (some (.own es)) => (ρ.set j none).set i (some (.own es))
    | _ => ρ.set i none
theorem Rel.put {Hk0 H0 Hk H Hk' H' : Hp} {σ : Sl} {ρ : En} {x : Rv} {v : V} {i : Nat} (r0 : Rel Hk0 H0 Hk H σ ρ) (g : Gr Hk H Hk' H') (n : New H x v) (d : Den Hk' H' σ x v) (r : Rel Hk0 H0 Hk' H' σ ρ) : Rel Hk0 H0 Hk' H' (σ.set i (some v)) (put i x ρ) := by
  cases x with
  | val d' => exact r.setVal d
  | own ds =>
    obtain ⟨q, xs, rfl, b, c, f⟩ := d
    obtain ⟨q', a', b'⟩ := n
    cases a'
    refine r.setOwn (Evl.fresh_back r0.gr.h b') b c f fun j es hj _ hs => ?_
    obtain ⟨p, ys, h1, _, _, h2, _⟩ := r0.own j es hj
    rw [hs] at h1
    cases h1
    rw [b'] at h2
    cases h2
  | bor j ds =>
    obtain ⟨q, xs, rfl, s, b, c, f⟩ := d
    unfold Py.put
    dsimp only
    split
    · rename_i es hj
      obtain ⟨p, ys, h1, h0, h2, h3, h4⟩ := r.own j es hj
      rw [s] at h1
      cases h1
      refine (r.drop j).setOwn h0 b h3 h4 fun k es' hk hne hs => ?_
      rw [get_set] at hk
      split at hk
      · split at hk <;> cases hk
      · rename_i hjk
        exact hjk (r.sep j k es es' _ hj hk s hs)
    · refine r.less (by rw [List.length_set, List.length_set]; exact r.len) fun k c' q' => ?_
      rw [get_set] at q'
      split at q'
      · split at q' <;> cases q'
      · rename_i hk
        exact ⟨q', by rw [get_set, if_neg hk]⟩
def sSet (i : Nat) (φ : En → R Rv) : En → R Out := fun ρ => φ ρ >>= fun r => .ok (.nx (put i r ρ))
theorem set_read {D : Ends} {σ : Sl} {H : Hp} {i : Nat} (h : ts X.K W (sSet i φ) D σ H) : te X.K W φ σ H fun x H1 => gName i x σ H1 D.nx := by
  obtain ⟨Hk0, H0, Hk, ρ, r, p⟩ := h
  exact s_then r p fun x v Hk' H' g n d r' p' => p' _ Hk' H' (Ex.refl _) (r.put g n d r')
theorem s_set {x : Str} {pos' : Pos} (i : Nat) (hN : X.N.Nodup) (he : PE X e (te X.K W φ)) (hi : X.N[i]? = some x := by rfl) (hx : Loc X.env.scope x := by first | exact Or.inl rfl | exact Or.inr rfl) (hs : swapsWith e (some (.Name x pos')) pos.line X.env = pure false := by rfl)
    (hf : X.fn x = true ∨ X.env.scope.names.lookup x = some .local := by first | exact .inl rfl | exact .inr rfl) : PS X (.Assign [.Name x pos'] e pos) (ts X.K W (sSet i φ)) :=
  ps_imp (ps_set hN hi hx he hs hf) fun D σ H h => set_read h
theorem s_setLc {y : Str} {py : Pos} {elt tgt iter : Expr} {ifs : List Expr} {scope : Scope} {own : List (Str × Nat)} {spos : Pos} {ι : En → R (Bool × List PyData)} {τ : Pat} {T : En → R Bool} (i : Nat) (hc : X.calm = true) (hN : X.N.Nodup)
    (ok : BlkOk X.N X.env.scope scope own) (hi : PI X tgt iter (ti X.K W ι))
    (hg : ∀ (s : Shared) (H : Hp) (C : Addr) (cl : List (Str × Addr)) (fp : List Addr), PG (X.blk s H scope (compEnvC scope cl C X.env) fp) tgt (tg τ))
    (ht : ∀ (s : Shared) (H : Hp) (C : Addr) (cl : List (Str × Addr)) (fp : List Addr), PTs (X.blk s H scope (compEnvC scope cl C X.env) fp) ifs (tt X.K W0 T))
    (he : ∀ (s : Shared) (H : Hp) (C : Addr) (cl : List (Str × Addr)) (fp : List Addr), PE (X.blk s H scope (compEnvC scope cl C X.env) fp) elt (te X.K W0 φ))
    (hsw : swapsWith (.ListComp elt [⟨tgt, iter, ifs, 0⟩] scope pos) (some (.Name y py)) spos.line X.env = pure true)
    (hy : X.N[i]? = some y := by rfl) (hyl : X.env.scope.names.lookup y = some .local := by rfl)
    (hv : ∀ i ∈ slots τ, i ∈ own.map (·.2) := by decide) (hs : ∀ x, foldedSetIterable iter X.env x = pure x := by intro _; rfl) :
    PS X (.Assign [.Name y py] (.ListComp elt [⟨tgt, iter, ifs, 0⟩] scope pos) spos) (ts X.K W (sSet i (eLc ι τ T φ (own.map (·.2))))) :=
  ps_imp (ps_setLc hc hN hy hyl hsw hi ok hg ht he hs) fun D σ H h => lc_read hv (set_read h)
/-! a, b = e -/
def sUnp (τ : Pat) (φ : En → R Rv) : En → R Out := fun ρ => φ ρ >>= fun r => (frz r).toVal >>= fun d => asg τ d ρ >>= fun ρ' => .ok (.nx ρ')
theorem s_unp {tgt : Expr} {τ : Pat} (he : PE X e (te X.K W φ)) (hg : PG X tgt (tg τ)) (hs : swapsWithSole [tgt] e pos.line X.env = pure false := by rfl) (hw : swappedStores [tgt] e X.env = pure none := by rfl)
    (h1 : (assignEach [tgt] X.env).map (·.2) = [assign tgt X.env] := by rfl) : PS X (.Assign [tgt] e pos) (ts X.K W (sUnp τ φ)) := ps_imp (ps_asg he hg hs hw h1) fun D σ H ⟨Hk0, H0, Hk, ρ, r, p⟩ => by
  refine s_thenF (g := fun x => x.toVal >>= fun d => asg τ d ρ >>= fun ρ' => .ok (.nx ρ')) r p fun x v Hk' H' g d n r' p' => ?_
  cases e1 : x.toVal with
  | err c => exact absurd e1 toVal_no
  | bad => rw [e1] at p'; exact p'.elim
  | ok d' =>
    rw [e1] at p'
    have p' : PostS X.K W Hk0 H0 Hk' D (asg τ d' ρ >>= fun ρ' => .ok (.nx ρ')) := p'
    cases e2 : asg τ d' ρ with
    | err c => exact absurd e2 asg_no
    | bad => rw [e2] at p'; exact p'.elim
    | ok ρ' =>
      rw [e2] at p'
      exact ⟨Hk0, H0, Hk', ρ, d', r', toVal_den d n e1, ρ', e2, fun σ' r2 _ => p' σ' Hk' H' (Ex.refl _) r2⟩
/-! a, b = e1, e2 -/
def sPar (i j : Nat) (φ ψ : En → R Rv) : En → R Out := fun ρ => φ ρ >>= fun x => ψ ρ >>= fun y => if noB x && noB y then .ok (.nx (put j y (put i x ρ))) else .bad
  where noB : Rv → Bool
    | .bor _ _ => false
    | _ => true
theorem put_keep {i : Nat} {x : Rv} {ρ : En} (h : sPar.noB x = true) : ∀ {k : Nat} {c : Cl}, (put i x ρ)[k]? = some (some c) → k ≠ i → ρ[k]? = some (some c) := by
  intro k c q hk
  cases x with
  | val d =>
    have q : (ρ.set i (some (.val d)))[k]? = some (some c) := q
    rw [get_set, if_neg (fun e => hk e.symm)] at q; exact q
  | own d =>
    have q : (ρ.set i (some (.own d)))[k]? = some (some c) := q
    rw [get_set, if_neg (fun e => hk e.symm)] at q; exact q
  | bor _ _ => cases h
theorem s_par {x y : Str} {a b : Expr} {px py pt : Pos} {kt k2 : Nat} {pt2 : Pos} (i j : Nat) (hc : X.calm = true) (hN : X.N.Nodup) (ha : PE X a (te X.K W φ)) (hb : PE X b (te X.K W ψ))
    (hi : X.N[i]? = some x := by rfl) (hj : X.N[j]? = some y := by rfl) (hij : i ≠ j := by decide) (hx : X.env.scope.names.lookup x = some .local := by rfl) (hy : X.env.scope.names.lookup y = some .local := by rfl)
    (hw : swappedStores [.Tuple [.Name x px, .Name y py] kt pt] (.Tuple [a, b] k2 pt2) X.env = pure (some [x, y]) := by rfl)
    (hs : swapsWithSole [.Tuple [.Name x px, .Name y py] kt pt] (.Tuple [a, b] k2 pt2) pos.line X.env = pure false := by rfl)
    (h1 : starEach [a, b] X.env = (false, eval a X.env) :: starEach [b] X.env := by rfl) (h2 : starEach [b] X.env = (false, eval b X.env) :: starEach [] X.env := by rfl) :
    PS X (.Assign [.Tuple [.Name x px, .Name y py] kt pt] (.Tuple [a, b] k2 pt2) pos) (ts X.K W (sPar i j φ ψ)) :=
  ps_imp (ps_par hc hN hi hj hij hx hy (pa_cons ha (pa_cons hb pa_nil h2) h1) hw hs) fun D σ H ⟨Hk0, H0, Hk, ρ, r, p⟩ => by
    refine s_then r p fun x v Hk1 H1 g1 n1 d1 r1 p1 => ?_
    refine s_then r1 p1 fun y u Hk2 H2 g2 n2 d2 r2 p2 => ?_
    split at p2
    · rename_i hnb
      rw [Bool.and_eq_true] at hnb
      refine ⟨v, u, rfl, p2 _ Hk2 H2 (Ex.refl _) ?_⟩
      have ra : Rel Hk0 H0 Hk1 H1 (σ.set i (some v)) (put i x ρ) := r.put g1 n1 d1 r1
      have rb : Rel Hk0 H0 Hk2 H2 (σ.set i (some v)) (put i x ρ) := ra.up g2
      have d2' : Den Hk2 H2 (σ.set i (some v)) y u := by
        cases y with
        | val d => exact d2
        | own ds => exact d2
        | bor _ _ => exact nomatch hnb.2
      exact ra.put g2 n2 d2' rb
    · exact p2.elim
/-! return, pass, an expression alone -/
def clE (ρ : En) : Rv → R Cr
  | .val d => .ok (.val d)
  | .own ds => .ok (.own ds)
  | .bor j _ => match ρ[j]? with
    | some (some (.own es)) => .ok (.own es)
    | _ => .bad
def sRet (φ : En → R Rv) : En → R Out := fun ρ => φ ρ >>= fun r => clE ρ r >>= fun c => .ok (.rt c)
theorem s_ret (he : PE X e (te X.K W φ)) : PS X (.Return (some e) pos) (ts X.K W (sRet φ)) := ps_imp (ps_ret he) fun D σ H ⟨Hk0, H0, Hk, ρ, r, p⟩ =>
  s_then r p fun x v Hk' H' g n d r' p' => by
    cases x with
    | val d' => exact p' v Hk' H' r'.gr trivial d
    | own ds =>
      obtain ⟨q, xs, rfl, b, c, f⟩ := d
      obtain ⟨q', a', b'⟩ := n
      cases a'
      exact p' _ Hk' H' r'.gr ⟨q, rfl, Evl.fresh_back r.gr.h b'⟩ ⟨q, xs, rfl, b, c, f⟩
    | bor j ds =>
      obtain ⟨q, xs, rfl, s, b, c, f⟩ := d
      unfold clE at p'
      dsimp only at p'
      split at p'
      · rename_i es hj
        obtain ⟨q2, ys, h1, h0, h2, h3, h4⟩ := r'.own j es hj
        rw [s] at h1
        cases h1
        exact p' _ Hk' H' r'.gr ⟨q, rfl, h0⟩ ⟨q, ys, rfl, h2, h3, h4⟩
      · exact p'.elim
def sRetN : En → R Out := fun _ => .ok (.rt (.val .none))
theorem s_retN : PS X (.Return none pos) (ts X.K W sRetN) := ps_imp ps_retN fun D σ H ⟨Hk0, H0, Hk, ρ, r, p⟩ => p .non Hk H r.gr trivial Rp.non
def sDrop (φ : En → R Rv) : En → R Out := fun ρ => φ ρ >>= fun _ => .ok (.nx ρ)
theorem s_expr (he : PE X e (te X.K W φ)) (hs : swapsWith e none pos.line X.env = pure false := by rfl) : PS X (.Expr e pos) (ts X.K W (sDrop φ)) := ps_imp (ps_expr he hs) fun D σ H ⟨Hk0, H0, Hk, ρ, r, p⟩ =>
  s_then r p fun x v Hk' H' g n d r' p' => p' σ Hk' H' (Ex.refl _) r'
theorem s_pass : PS X (.Pass pos) (ts X.K W sNil) := ps_imp ps_pass fun D σ H ⟨Hk0, H0, Hk, ρ, r, p⟩ => p σ Hk H (Ex.refl _) r
/-! if, while, for -/
def sIf (t : En → R Bool) (Φ Ψ : En → R Out) : En → R Out := fun ρ => t ρ >>= fun b => if b = true then Φ ρ else Ψ ρ
theorem s_if {a b : List Stmt} (hc : PT X c (tt X.K W t)) (ha : PSs X a (ts X.K W Φ)) (hb : PSs X b (ts X.K W Ψ)) : PS X (.If c a b pos) (ts X.K W (sIf t Φ Ψ)) := ps_imp (ps_if hc ha hb) fun D σ H ⟨Hk0, H0, Hk, ρ, r, p⟩ =>
  s_thenT r p fun x Hk' H' g r' p' => by
    cases x with
    | true => rw [if_pos rfl] at p' ⊢; exact ⟨Hk0, H0, Hk', ρ, r', p'⟩
    | false => rw [if_neg Bool.false_ne_true] at p' ⊢; exact ⟨Hk0, H0, Hk', ρ, r', p'⟩
def whK (f : En → R Out) : Out → R Out
  | .nx ρ' => f ρ'
  | .ct ρ' => f ρ'
  | .bk ρ' => .ok (.nx ρ')
  | .rt r => .ok (.rt r)
def whR (t : En → R Bool) (B : En → R Out) : Nat → En → R Out
  | 0, _ => .bad
  | n + 1, ρ => t ρ >>= fun b => if b = true then B ρ >>= whK (whR t B n) else .ok (.nx ρ)
def sWhile (n : Nat) (t : En → R Bool) (B : En → R Out) : En → R Out := whR t B n
theorem s_while {body : List Stmt} (n : Nat) (hp : PassesOwn (model X.prog X.w) X.A X.env X.xe) (hc : PT X c (tt X.K W t)) (hb : PSs X body (ts X.K W Φ)) : PS X (.While c body [] pos) (ts X.K W (sWhile n t Φ)) := ps_imp (ps_while hp hc hb) fun D σ H ⟨Hk0, H0, Hk, ρ, r, p⟩ => by
  refine ⟨fun m σ H => ∃ Hk ρ, Rel Hk0 H0 Hk H σ ρ ∧ PostS X.K W Hk0 H0 Hk D (whR t Φ m ρ), ⟨n, Hk, ρ, r, p⟩, ?_⟩
  rintro m σ H ⟨Hk, ρ, r, p⟩
  cases m with
  | zero => exact p.elim
  | succ m =>
    refine s_thenT r p fun b Hk' H' g r' p' => ?_
    cases b with
    | false => rw [if_neg Bool.false_ne_true] at p' ⊢; exact p' σ Hk' H' (Ex.refl _) r'
    | true =>
      rw [if_pos rfl] at p' ⊢
      refine ⟨fun σ H => ∃ Hk ρ, Rel Hk0 H0 Hk H σ ρ ∧ PostS X.K W Hk0 H0 Hk D (whR t Φ m ρ), fun σ' H' h => ⟨m, Nat.lt_succ_self _, h⟩, Hk0, H0, Hk', ρ, r', ?_⟩
      cases e : Φ ρ with
      | err c => rw [e] at p'; exact p'
      | bad => rw [e] at p'; exact p'
      | ok o =>
        rw [e] at p'
        cases o with
        | nx ρ' => exact fun σ2 Hk2 H2 e2 r2 => ⟨Hk2, ρ', r2, PostS.up e2 p'⟩
        | ct ρ' => exact fun σ2 Hk2 H2 e2 r2 => ⟨Hk2, ρ', r2, PostS.up e2 p'⟩
        | bk ρ' => exact p'
        | rt r => exact p'
def forR (τ : Pat) (B : En → R Out) : List PyData → En → R Out
  | [], ρ => .ok (.nx ρ)
  | d :: ds, ρ => asg τ d ρ >>= fun ρ1 => B ρ1 >>= whK (forR τ B ds)
def sFor (ι : En → R (Bool × List PyData)) (τ : Pat) (B : En → R Out) : En → R Out := fun ρ => ι ρ >>= fun a => if a.1 = true then forR τ B a.2 ρ else .bad
theorem s_for {iter tgt : Expr} {body : List Stmt} {ι : En → R (Bool × List PyData)} {τ : Pat} (hp : PassesOwn (model X.prog X.w) X.A X.env X.xe) (hc : X.calm = true) (hi : PI X tgt iter (ti X.K W ι)) (hg : PG X tgt (tg τ)) (hb : PSs X body (ts X.K W Φ))
    (hs : ∀ x, foldedSetIterable iter X.env x = pure x := by intro _; rfl) : PS X (.For tgt iter body [] pos) (ts X.K W (sFor ι τ Φ)) := ps_imp (ps_for hp hc hi hg hb hs) fun D σ H ⟨Hk0, H0, Hk, ρ, r, p⟩ => by
  refine ⟨Hk0, H0, Hk, ρ, r, ?_⟩
  unfold sFor at p
  cases e1 : ι ρ with
  | err c => rw [e1] at p; exact fun Hk' H' g => p σ Hk' H' (r.gr.trans g)
  | bad => rw [e1] at p; exact p
  | ok a =>
    obtain ⟨kn, ds⟩ := a
    rw [e1] at p
    have p : PostS X.K W Hk0 H0 Hk D (if kn = true then forR τ Φ ds ρ else .bad) := p
    split at p
    · rename_i hk
      intro J Hk1 H1 S g1 ok s1 sk
      have sk := sk hk
      refine ⟨fun i m σ Hc => m = ds.length - i ∧ i ≤ ds.length ∧ ∃ Hk2 ρ2, Ex Hk1 Hk2 ∧ Rel Hk0 H0 Hk2 Hc σ ρ2 ∧ PostS X.K W Hk0 H0 Hk2 D (forR τ Φ (ds.drop i) ρ2), ⟨ds.length, by simp, Nat.zero_le _, Hk1, ρ, Ex.refl _, r.up g1, by rw [List.drop_zero]; exact PostS.up g1.k p⟩, ?_⟩
      rintro i m σ Hc ⟨rfl, hi, Hk2, ρ2, e2, r2, p2⟩
      have sc : S Hc := ok.mono _ _ r2.kh (ok.mono _ _ e2 sk)
      by_cases hlt : i < ds.length
      · refine .inr ⟨ok.go i Hc sc hlt, fun σ' H' => i + 1 ≤ ds.length ∧ ∃ Hk2 ρ2, Ex Hk1 Hk2 ∧ Rel Hk0 H0 Hk2 H' σ' ρ2 ∧ PostS X.K W Hk0 H0 Hk2 D (forR τ Φ (ds.drop (i + 1)) ρ2), fun σ' H' n => ⟨ds.length - (i + 1), by omega, rfl, n.1, n.2⟩, fun x H' y => ?_⟩
        obtain ⟨Hk3, g3, rx⟩ := ok.yld i Hc Hk2 x H' sc e2 r2.kh y ds[i] (List.getElem?_eq_getElem hlt)
        have hdr : ds.drop i = ds[i] :: ds.drop (i + 1) := List.drop_eq_getElem_cons hlt
        rw [hdr, forR] at p2
        cases q1 : asg τ ds[i] ρ2 with
        | err c => exact absurd q1 asg_no
        | bad => rw [q1] at p2; exact p2.elim
        | ok ρ3 =>
          rw [q1] at p2
          have p2 : PostS X.K W Hk0 H0 Hk2 D (Φ ρ3 >>= whK (forR τ Φ (ds.drop (i + 1)))) := p2
          refine ⟨Hk0, H0, Hk3, ρ2, ds[i], r2.up g3, rx, ρ3, q1, fun σ2 r3 o2 => ⟨Hk0, H0, Hk3, ρ3, r3, ?_⟩⟩
          cases q2 : Φ ρ3 with
          | err c => rw [q2] at p2; exact p2
          | bad => rw [q2] at p2; exact p2
          | ok o =>
            rw [q2] at p2
            cases o with
            | nx ρ' => exact fun σ4 Hk4 H4 e4 r4 => ⟨hlt, Hk4, ρ', e2.trans (g3.k.trans e4), r4, PostS.up (g3.k.trans e4) p2⟩
            | ct ρ' => exact fun σ4 Hk4 H4 e4 r4 => ⟨hlt, Hk4, ρ', e2.trans (g3.k.trans e4), r4, PostS.up (g3.k.trans e4) p2⟩
            | bk ρ' => exact fun σ4 Hk4 H4 e4 r4 => p2 σ4 Hk4 H4 (g3.k.trans e4) r4
            | rt r => exact p2
      · have e3 : i = ds.length := by omega
        rw [e3, List.drop_length] at p2
        exact .inl ⟨ok.stop i Hc sc e3, p2 σ Hk2 Hc (Ex.refl _) r2⟩
    · exact p.elim
end
end Py

set_option Elab.async false
set_option linter.all false
set_option maxRecDepth 100000
set_option autoImplicit false
set_option maxHeartbeats 1000000
/-! PyZ: zip of two or three sequences of any kinds, enumerate. -/
namespace Py
variable [KK]
open PySem L2
open Evl (Ex)
/-- a sequence: a tuple (t) or a list -/
def SR (t : Bool) (H : Hp) (a : Addr) (xs : List V) : Prop := if t = true then Rd H a (.tup xs) else Rl H a xs
def sIt (t : Bool) (h : Heap) (it a : Addr) (i : Nat) : Prop := if t = true then h.IsTupleIter it a i else h.IsListIter it a i
def sIs (t : Bool) (h : Heap) (a : Addr) (items : Array Value) : Prop := if t = true then h.IsTuple a items else h.IsList a items
def sOb (t : Bool) (a : Addr) : Obj := if t = true then { cls := .type "tuple_iterator", data := .fields #[.ref a, .int 0 0] } else { cls := .type "list_iterator", data := .fields #[.ref a, .int 0 0] }
theorem SR.up {t : Bool} {H H' : Hp} {a : Addr} {xs : List V} (e : Ex H H') (h : SR t H a xs) : SR t H' a xs := by
  cases t with
  | false => exact Rl.up e h
  | true => exact Evl.ex_rd e h
theorem draws_s {prog : Program} {w : World} {A : Around} (t : Bool) (hh : A.handled = none) (it a : Addr) (hne : a ≠ it) (items : Array Value) :
    Draws prog w A it [it, a] items.size (fun i v => items[i]? = some v) (fun i h => sIt t h it a i ∧ sIs t h a items) := by
  cases t with
  | false => exact Draws.list hh it a hne items
  | true => exact Draws.tuple hh it a hne items
theorem begins_s (t : Bool) (a : Addr) (items : Array Value) : Begins (.ref a) (sOb t a) fun h => sIs t h a items := by
  cases t with
  | false => exact begins_list a items
  | true => exact begins_tuple a items
theorem sIt_zero {t : Bool} {h : Heap} {it a : Addr} (e : h.get? it = some (sOb t a)) : sIt t h it a 0 := by
  cases t with
  | false => exact ⟨_, e, rfl, rfl⟩
  | true => exact ⟨_, e, rfl, rfl⟩
theorem sIt_at {t : Bool} {h h' : Heap} {it a : Addr} {i : Nat} (x : sIt t h it a i) (k : ∀ o, h.get? it = some o → h'.get? it = some o) : sIt t h' it a i := by
  cases t with
  | false => exact Heap.IsListIter.at x k
  | true => exact Heap.IsTupleIter.at x k
theorem sIt_obj {t : Bool} {h : Heap} {it a : Addr} {i : Nat} (x : sIt t h it a i) : ∃ o, h.get? it = some o ∧ ∀ v, o.data ≠ .cell v := by
  cases t with
  | false => obtain ⟨o, e, _, d⟩ := (show h.IsListIter it a i from x); exact ⟨o, e, fun v z => by rw [d] at z; cases z⟩
  | true => obtain ⟨o, e, _, d⟩ := (show h.IsTupleIter it a i from x); exact ⟨o, e, fun v z => by rw [d] at z; cases z⟩
section
variable {X : Cx} [ok : OK X] {pins : List (Addr × Obj)} {σ : Sl} {H : Hp} {s : Shared}
theorem SR.is {t : Bool} {a : Addr} {xs : List V} (I : Inv X pins σ H s) (h : SR t H a xs) : ∃ its : List Value, Vals xs its ∧ sIs t s.heap a its.toArray ∧ a < s.heap.objs.size := by
  cases t with
  | false =>
    obtain ⟨_, its, n, r, _, g⟩ := rd_list I (show Rl H a xs from h)
    exact ⟨its, r, ⟨_, g, rfl, n, rfl⟩, Heap.lt_size g⟩
  | true =>
    obtain ⟨its, r, p, _⟩ := I.tuple (a := a) (xs := xs) (.inl (show Rd H a (.tup xs) from h))
    exact ⟨its, r, p, p.lt⟩
end
theorem seqOf_SR {r : Rv} {b : Bool} {ds : List PyData} {Hk H : Hp} {σ : Sl} {v : V} (h : seqOf r = .ok (b, ds)) (x : Ex Hk H) (d : Den Hk H σ r v) :
    ∃ a xs, v = .ref a ∧ RpAll Hk xs ds ∧ SR (isTupR r) H a xs ∧ (b = true → SR (isTupR r) Hk a xs) := by
  obtain ⟨a, xs, e, ra, c⟩ := seqOf_kind h x d
  rcases c with ⟨t1, s1, k1⟩ | ⟨t1, s1, k1⟩
  · exact ⟨a, xs, e, ra, by rw [t1]; exact s1, by rw [t1]; exact k1⟩
  · exact ⟨a, xs, e, ra, by rw [t1]; exact s1, by rw [t1]; exact k1⟩

/-! two -/
def Jz2 (t1 t2 : Bool) (a b : Addr) (xs ys : List V) : It :=
  ⟨fun i H => SR t1 H a xs ∧ SR t2 H b ys ∧ i < min xs.length ys.length, fun i H v H' => ∃ T x y, v = .ref T ∧ H T = none ∧ H' = upd H T (.tup [x, y]) ∧ xs[i]? = some x ∧ ys[i]? = some y,
    fun i H => SR t1 H a xs ∧ SR t2 H b ys ∧ i = min xs.length ys.length⟩
theorem turn_z2 {P : Program} {w : World} {K : PySem.W.Frag} (hKK : K = KK.K) {elts : List Expr} {kk : Nat} {tpos : Pos} {t1 t2 : Bool} {a b z TI TO i1 i2 : Addr} {xs ys : List V} (S : ZipSep2 z TI TO i1 i2 [i1, a] [i2, b]) (n1 : a ≠ i1) (n2 : b ≠ i2) :
    Turn P w K (.Tuple elts kk tpos) (Jz2 t1 t2 a b xs ys) [z, TI, TO, i1, i2] z (fun i h => IsZip h z TI TO .none ∧ IsTupOf2 h TI (.ref i1) (.ref i2) ∧ (∃ u v, IsTupOf2 h TO u v) ∧ sIt t1 h i1 a i ∧ sIt t2 h i2 b i) where
  mem := List.mem_cons_self
  obj := fun i h st c hc => by
    obtain ⟨hz, hTI, ⟨u, v, hTO⟩, s1, s2⟩ := st
    simp only [List.mem_cons, List.not_mem_nil, or_false] at hc
    rcases hc with rfl | rfl | rfl | rfl | rfl
    · exact ⟨_, hz, fun v q => nomatch q⟩
    · exact ⟨_, hTI, fun v q => nomatch q⟩
    · exact ⟨_, hTO, fun v q => nomatch q⟩
    · exact sIt_obj s1
    · exact sIt_obj s2
  keep := fun i h h' st k => by
    obtain ⟨hz, hTI, ⟨u, v, hTO⟩, s1, s2⟩ := st
    exact ⟨k z (by simp) _ hz, k TI (by simp) _ hTI, ⟨u, v, k TO (by simp) _ hTO⟩, sIt_at s1 fun o q => k i1 (by simp) o q, sIt_at s2 fun o q => k i2 (by simp) o q⟩
  item := by
    intro X hP hw hK hc i pins s σ H E I hf st hg
    subst hP hw hK
    haveI : OK X := ⟨hKK⟩
    obtain ⟨hz, hTI, hTO, s1, s2⟩ := st
    obtain ⟨g1, g2, hlt⟩ := hg
    obtain ⟨its, rv, is1, _⟩ := SR.is I g1
    obtain ⟨its2, rv2, is2, _⟩ := SR.is I g2
    have hh := I.ok.hd hc
    have l1 : its.toArray.size = xs.length := by rw [List.size_toArray, rv.length]
    have l2 : its2.toArray.size = ys.length := by rw [List.size_toArray, rv2.length]
    refine (GoesN.zip2 S (draws_s (A := X.A.in1) t1 hh i1 a n1 its.toArray) (draws_s (A := X.A.in1) t2 hh i2 b n2 its2.toArray)).goes i s _ E (by rw [l1, l2]; exact hlt) ⟨hz, hTI, hTO, ⟨s1, is1⟩, ⟨s2, is2⟩⟩ fun v h' tk hY st' hk _ => ?_
    obtain ⟨T, u, u2, rfl, hnew, hu, hu2, hT⟩ := hY
    have lx : i < xs.length := by omega
    have ly : i < ys.length := by omega
    obtain ⟨u', e', ru⟩ := rv.get (List.getElem?_eq_getElem lx)
    obtain ⟨u2', e2', ru2⟩ := rv2.get (List.getElem?_eq_getElem ly)
    have q1 : its[i]? = some u := by simpa using hu
    have q2 : its2[i]? = some u2 := by simpa using hu2
    rw [q1] at e'
    rw [q2] at e2'
    cases e'
    cases e2'
    have new : ObjOk X.prog X.w (upd H T (.tup [xs[i], ys[i]])) h' T (.tup [xs[i], ys[i]]) := ⟨by show 2 ≤ sizeLine; decide, [u, u2], .cons ru (.cons ru2 .nil), hT⟩
    have I1 := I.turnedNew (t' := tk) (ch := [z, TI, TO, i1, i2]) (fun c o hb q => hk c o (fun hm => hb (by
      simp only [List.mem_cons, List.not_mem_nil, or_false] at hm ⊢
      rcases hm with r | r | r | r
      · exact .inl r
      · exact .inr (.inr (.inl r))
      · exact .inr (.inr (.inr (.inl r)))
      · exact .inr (.inr (.inr (.inr r))))) q) hf hnew new
    obtain ⟨z1, z2, z3, ⟨z4, _⟩, ⟨z5, _⟩⟩ := st'
    refine ⟨.ref T, _, I1, rfl, ⟨T, xs[i], ys[i], rfl, I.hok.fresh hnew, rfl, List.getElem?_eq_getElem lx, List.getElem?_eq_getElem ly⟩, ⟨z1, z2, z3, z4, z5⟩, fun c hcm => ?_⟩
    have hlt : c < s.heap.objs.size := by
      obtain ⟨u, v, hTO⟩ := hTO
      simp only [List.mem_cons, List.not_mem_nil, or_false] at hcm
      rcases hcm with rfl | rfl | rfl | rfl | rfl
      · exact Heap.lt_size hz
      · exact Heap.lt_size hTI
      · exact Heap.lt_size hTO
      · obtain ⟨_, e, _⟩ := sIt_obj s1; exact Heap.lt_size e
      · obtain ⟨_, e, _⟩ := sIt_obj s2; exact Heap.lt_size e
    rw [upd_ne (Nat.ne_of_lt (Nat.lt_of_lt_of_le hlt hnew))]
    exact (hf c hcm).1
  done := by
    intro X hP hw hK hc i pins s σ H E I hf st hg
    subst hP hw hK
    haveI : OK X := ⟨hKK⟩
    obtain ⟨hz, hTI, hTO, s1, s2⟩ := st
    obtain ⟨g1, g2, hlt⟩ := hg
    obtain ⟨its, rv, is1, _⟩ := SR.is I g1
    obtain ⟨its2, rv2, is2, _⟩ := SR.is I g2
    have hh := I.ok.hd hc
    have l1 : its.toArray.size = xs.length := by rw [List.size_toArray, rv.length]
    have l2 : its2.toArray.size = ys.length := by rw [List.size_toArray, rv2.length]
    rw [← l1, ← l2] at hlt
    subst hlt
    refine (GoesN.zip2 (elts := elts) (x1 := kk) (pos := tpos) S (draws_s (A := X.A.in1) t1 hh i1 a n1 its.toArray) (draws_s (A := X.A.in1) t2 hh i2 b n2 its2.toArray)).stops s _ E ⟨hz, hTI, hTO, ⟨s1, is1⟩, ⟨s2, is2⟩⟩ fun h' tk hk _ => ?_
    exact I.turnedL (t' := tk) (ch := [z, TI, TO, i1, i2]) (fun c o hb q => hk c o (fun hm => hb (by
      simp only [List.mem_cons, List.not_mem_nil, or_false] at hm ⊢
      rcases hm with r | r | r | r
      · exact .inl r
      · exact .inr (.inr (.inl r))
      · exact .inr (.inr (.inr (.inl r)))
      · exact .inr (.inr (.inr (.inr r))))) q) hf
  self := fun A i s Q E st h => wpAny_pyIter_zip st.1 h

theorem jz2_ok {t1 t2 : Bool} {a b : Addr} {xs ys : List V} {ds es : List PyData} {Hk1 : Hp} (h : RpAll Hk1 xs ds) (k : RpAll Hk1 ys es) : ItOk (Jz2 t1 t2 a b xs ys) (zipD ds es) Hk1 (fun H => SR t1 H a xs ∧ SR t2 H b ys) where
  go := fun i H hs hi => ⟨hs.1, hs.2, by rw [zipD_len, ← RpAll.length h, ← RpAll.length k] at hi; exact hi⟩
  stop := fun i H hs hi => ⟨hs.1, hs.2, by rw [zipD_len, ← RpAll.length h, ← RpAll.length k] at hi; exact hi⟩
  yld := fun i H Hk x H' hs e1 e2 y d hd => by
    obtain ⟨T, x1, y1, rfl, hT, rfl, f1, f2⟩ := y
    obtain ⟨a', b', h1, h2, rfl⟩ := zipD_get hd
    obtain ⟨v, hv, rv⟩ := RpAll.get h h1
    obtain ⟨u, hu, ru⟩ := RpAll.get k h2
    rw [hv] at f1
    rw [hu] at f2
    obtain rfl := Option.some.inj f1
    obtain rfl := Option.some.inj f2
    have n := Ex.new (o := .tup [v, u]) (Evl.fresh_back e2 hT)
    exact ⟨_, Gr.new e2 hT, .tup (.inl upd_same) (.cons (Rp.up n (Rp.up e1 rv)) (.cons (Rp.up n (Rp.up e1 ru)) .nil))⟩
  mono := fun _ _ e h => ⟨h.1.up e, h.2.up e⟩
def rZ2 (ta : TA) : TI := fun σ H R => ta σ H fun vs H1 => ∃ t1 t2 a b xs ys, vs = [.ref a, .ref b] ∧ SR t1 H1 a xs ∧ SR t2 H1 b ys ∧ R (Jz2 t1 t2 a b xs ys) H1
theorem ge_of_mem {N c : Nat} {l : List Nat} (h : c ∈ l.map (N + ·)) : N ≤ c := by
  obtain ⟨k, _, rfl⟩ := List.mem_map.mp h
  exact Nat.le_add_right _ _
theorem pi_z2 {X : Cx} [ok : OK X] {e e2 : Expr} {ta : TA} {p pos tpos : Pos} {elts : List Expr} {kk : Nat} (hg : Gl X "zip") (hm : X.mg "zip" = none) (ha : PA X [e, e2] ta)
    (hs : starEach [e, e2] X.env = (false, eval e X.env) :: starEach [e2] X.env) (hpl : (backTo pos (starEach [e2] X.env)).any (·.1) = false) : PI X (.Tuple elts kk tpos) (.Call (.Name "zip" p) [e, e2] [] pos) (rZ2 ta) := by
  refine ⟨fun pins s σ H R I h => ?_⟩
  refine PyProof.Rows.Call_ (ld_blt I hg hm PyProof.Rows.boot_zip (PyProof.Rows.callWith_type1 (thn (ha.run pos pins s σ H _ I h) fun us s1 hh => ?_) hs hpl))
  obtain ⟨vs, H1, I1, r1, t1, t2, a, b, xs, ys, ex, g1, g2, q⟩ := hh
  subst ex
  obtain ⟨v1, v2, rfl, ra, rb⟩ := vals2 r1
  cases ra
  cases rb
  obtain ⟨its, rv, is1, la⟩ := SR.is I1 g1
  obtain ⟨its2, rv2, is2, lb⟩ := SR.is I1 g2
  refine zip_begins2 (begins_s t1 a its.toArray) (begins_s t2 b its2.toArray) is1 is2 fun h' hz hTI hTO h1 h2 hsz hk => wpAny_pyIter_zip hz ?_
  have I2 : Inv X pins σ H1 { s1 with heap := h' } := I1.kept (t' := s1.toks) hk
  refine ⟨s1.heap.objs.size + 4, [s1.heap.objs.size + 4, s1.heap.objs.size + 2, s1.heap.objs.size + 3, s1.heap.objs.size, s1.heap.objs.size + 1], _, _, H1, rfl, I2, turn_z2 ok.eq (zip_sep2 (fun c hc => ?_) (fun c hc => ?_)) (Nat.ne_of_lt la) (Nat.ne_of_lt (Nat.lt_succ_of_lt lb)), ⟨hz, hTI, ⟨_, _, hTO⟩, sIt_zero h1, sIt_zero h2⟩, fun c hcm => ?_, q⟩
  · rw [List.mem_singleton.mp hc]; exact la
  · rw [List.mem_singleton.mp hc]; exact lb
  · have hle : s1.heap.objs.size ≤ c := ge_of_mem (l := [4, 2, 3, 0, 1]) hcm
    exact I1.fpOk hle (I1.hok.fresh hle)
def z2 (x y : Rv) : R (Bool × List PyData) := seqOf x >>= fun a => seqOf y >>= fun b => .ok (a.1 && b.1, zipD a.2 b.2)
def iZ2 (φ ψ : En → R Rv) : En → R (Bool × List PyData) := fun ρ => φ ρ >>= fun x => ψ ρ >>= fun y => z2 (frz x) (frz y)
section
variable {X : Cx} [ok : OK X] {W : WX} {e e' e'' : Expr} {φ ψ χ : En → R Rv} {p pos tpos : Pos} {elts : List Expr} {kk : Nat}
theorem w_z2 (h : PE X e (te X.K W φ)) (h' : PE X e' (te X.K W ψ)) (hm : X.mg "zip" = none) (hg : Gl X "zip" := by rfl) (hs : starEach [e, e'] X.env = (false, eval e X.env) :: starEach [e'] X.env := by rfl) (hs2 : starEach [e'] X.env = (false, eval e' X.env) :: starEach [] X.env := by rfl)
    (hpl : (backTo pos (starEach [e'] X.env)).any (·.1) = false := by rfl) : PI X (.Tuple elts kk tpos) (.Call (.Name "zip" p) [e, e'] [] pos) (ti X.K W (iZ2 φ ψ)) :=
  pi_imp (pi_z2 hg hm (pa_cons h (pa_cons h' pa_nil hs2) hs) hs hpl) fun σ H Q ⟨Hk0, H0, Hk, ρ, r, p⟩ => by
    refine te_thenI (g := fun x => ψ ρ >>= fun y => z2 x (frz y)) r p fun x v Hk1 H1 g1 d1 n1 r1 p1 => ?_
    refine te_thenI (g := fun y => z2 x y) r1 p1 fun y u Hk' H' g d n r' p' => ?_
    unfold z2 at p'
    cases q : seqOf x with
    | err c => exact absurd q seqOf_no
    | bad => rw [q] at p'; exact p'.elim
    | ok a =>
      rw [q] at p'
      cases q2 : seqOf y with
      | err c => exact absurd q2 seqOf_no
      | bad => rw [q2] at p'; exact p'.elim
      | ok b =>
        rw [q2] at p'
        obtain ⟨l1, xs, rfl, ra, s1, k1⟩ := seqOf_SR q g.kh (Den.up g d1)
        obtain ⟨l2, ys, rfl, rb, s2, k2⟩ := seqOf_SR q2 g.kh d
        exact ⟨_, _, l1, l2, xs, ys, rfl, s1, s2, p' _ _ H' _ (Gr.refl g.kh) (jz2_ok ra rb) ⟨s1, s2⟩ fun z => by
          rw [Bool.and_eq_true] at z
          exact ⟨k1 z.1, k2 z.2⟩⟩
end
/-! three -/
def Jz3 (t1 t2 t3 : Bool) (a b c : Addr) (xs ys zs : List V) : It :=
  ⟨fun i H => SR t1 H a xs ∧ SR t2 H b ys ∧ SR t3 H c zs ∧ i < min (min xs.length ys.length) zs.length, fun i H v H' => ∃ T x y u, v = .ref T ∧ H T = none ∧ H' = upd H T (.tup [x, y, u]) ∧ xs[i]? = some x ∧ ys[i]? = some y ∧ zs[i]? = some u,
    fun i H => SR t1 H a xs ∧ SR t2 H b ys ∧ SR t3 H c zs ∧ i = min (min xs.length ys.length) zs.length⟩
theorem turn_z3 {P : Program} {w : World} {K : PySem.W.Frag} (hKK : K = KK.K) {elts : List Expr} {kk : Nat} {tpos : Pos} {t1 t2 t3 : Bool} {a b c z TI TO i1 i2 i3 : Addr} {xs ys zs : List V} (S : ZipSep3 z TI TO i1 i2 i3 [i1, a] [i2, b] [i3, c]) (n1 : a ≠ i1) (n2 : b ≠ i2) (n3 : c ≠ i3) :
    Turn P w K (.Tuple elts kk tpos) (Jz3 t1 t2 t3 a b c xs ys zs) [z, TI, TO, i1, i2, i3] z (fun i h => IsZip h z TI TO .none ∧ IsTupOf3 h TI (.ref i1) (.ref i2) (.ref i3) ∧ (∃ u v w, IsTupOf3 h TO u v w) ∧ sIt t1 h i1 a i ∧ sIt t2 h i2 b i ∧ sIt t3 h i3 c i) where
  mem := List.mem_cons_self
  obj := fun i h st c hc => by
    obtain ⟨hz, hTI, ⟨u, v, w, hTO⟩, s1, s2, s3⟩ := st
    simp only [List.mem_cons, List.not_mem_nil, or_false] at hc
    rcases hc with rfl | rfl | rfl | rfl | rfl | rfl
    · exact ⟨_, hz, fun v q => nomatch q⟩
    · exact ⟨_, hTI, fun v q => nomatch q⟩
    · exact ⟨_, hTO, fun v q => nomatch q⟩
    · exact sIt_obj s1
    · exact sIt_obj s2
    · exact sIt_obj s3
  keep := fun i h h' st k => by
    obtain ⟨hz, hTI, ⟨u, v, w, hTO⟩, s1, s2, s3⟩ := st
    exact ⟨k z (by simp) _ hz, k TI (by simp) _ hTI, ⟨u, v, w, k TO (by simp) _ hTO⟩, sIt_at s1 fun o q => k i1 (by simp) o q, sIt_at s2 fun o q => k i2 (by simp) o q, sIt_at s3 fun o q => k i3 (by simp) o q⟩
  item := by
    intro X hP hw hK hc i pins s σ H E I hf st hg
    subst hP hw hK
    haveI : OK X := ⟨hKK⟩
    obtain ⟨hz, hTI, hTO, s1, s2, s3⟩ := st
    obtain ⟨g1, g2, g3, hlt⟩ := hg
    obtain ⟨its, rv, is1, _⟩ := SR.is I g1
    obtain ⟨its2, rv2, is2, _⟩ := SR.is I g2
    obtain ⟨its3, rv3, is3, _⟩ := SR.is I g3
    have hh := I.ok.hd hc
    have l1 : its.toArray.size = xs.length := by rw [List.size_toArray, rv.length]
    have l2 : its2.toArray.size = ys.length := by rw [List.size_toArray, rv2.length]
    have l3 : its3.toArray.size = zs.length := by rw [List.size_toArray, rv3.length]
    refine (GoesN.zip3 S (draws_s (A := X.A.in1) t1 hh i1 a n1 its.toArray) (draws_s (A := X.A.in1) t2 hh i2 b n2 its2.toArray) (draws_s (A := X.A.in1) t3 hh i3 c n3 its3.toArray)).goes i s _ E (by rw [l1, l2, l3]; exact hlt) ⟨hz, hTI, hTO, ⟨s1, is1⟩, ⟨s2, is2⟩, ⟨s3, is3⟩⟩ fun v h' tk hY st' hk _ => ?_
    obtain ⟨T, u, u2, u3, rfl, hnew, hu, hu2, hu3, hT⟩ := hY
    have lx : i < xs.length := by omega
    have ly : i < ys.length := by omega
    have lz : i < zs.length := by omega
    obtain ⟨u', e', ru⟩ := rv.get (List.getElem?_eq_getElem lx)
    obtain ⟨u2', e2', ru2⟩ := rv2.get (List.getElem?_eq_getElem ly)
    obtain ⟨u3', e3', ru3⟩ := rv3.get (List.getElem?_eq_getElem lz)
    have q1 : its[i]? = some u := by simpa using hu
    have q2 : its2[i]? = some u2 := by simpa using hu2
    have q3 : its3[i]? = some u3 := by simpa using hu3
    rw [q1] at e'
    rw [q2] at e2'
    rw [q3] at e3'
    cases e'
    cases e2'
    cases e3'
    have new : ObjOk X.prog X.w (upd H T (.tup [xs[i], ys[i], zs[i]])) h' T (.tup [xs[i], ys[i], zs[i]]) := ⟨by show 3 ≤ sizeLine; decide, [u, u2, u3], .cons ru (.cons ru2 (.cons ru3 .nil)), hT⟩
    have I1 := I.turnedNew (t' := tk) (ch := [z, TI, TO, i1, i2, i3]) (fun c o hb q => hk c o (fun hm => hb (by
      simp only [List.mem_cons, List.not_mem_nil, or_false] at hm ⊢
      rcases hm with r | r | r | r | r
      · exact .inl r
      · exact .inr (.inr (.inl r))
      · exact .inr (.inr (.inr (.inl r)))
      · exact .inr (.inr (.inr (.inr (.inl r))))
      · exact .inr (.inr (.inr (.inr (.inr r)))))) q) hf hnew new
    obtain ⟨z1, z2, z3, ⟨z4, _⟩, ⟨z5, _⟩, ⟨z6, _⟩⟩ := st'
    refine ⟨.ref T, _, I1, rfl, ⟨T, xs[i], ys[i], zs[i], rfl, I.hok.fresh hnew, rfl, List.getElem?_eq_getElem lx, List.getElem?_eq_getElem ly, List.getElem?_eq_getElem lz⟩, ⟨z1, z2, z3, z4, z5, z6⟩, fun c hcm => ?_⟩
    have hlt : c < s.heap.objs.size := by
      obtain ⟨u, v, w, hTO⟩ := hTO
      simp only [List.mem_cons, List.not_mem_nil, or_false] at hcm
      rcases hcm with rfl | rfl | rfl | rfl | rfl | rfl
      · exact Heap.lt_size hz
      · exact Heap.lt_size hTI
      · exact Heap.lt_size hTO
      · obtain ⟨_, e, _⟩ := sIt_obj s1; exact Heap.lt_size e
      · obtain ⟨_, e, _⟩ := sIt_obj s2; exact Heap.lt_size e
      · obtain ⟨_, e, _⟩ := sIt_obj s3; exact Heap.lt_size e
    rw [upd_ne (Nat.ne_of_lt (Nat.lt_of_lt_of_le hlt hnew))]
    exact (hf c hcm).1
  done := by
    intro X hP hw hK hc i pins s σ H E I hf st hg
    subst hP hw hK
    haveI : OK X := ⟨hKK⟩
    obtain ⟨hz, hTI, hTO, s1, s2, s3⟩ := st
    obtain ⟨g1, g2, g3, hlt⟩ := hg
    obtain ⟨its, rv, is1, _⟩ := SR.is I g1
    obtain ⟨its2, rv2, is2, _⟩ := SR.is I g2
    obtain ⟨its3, rv3, is3, _⟩ := SR.is I g3
    have hh := I.ok.hd hc
    have l1 : its.toArray.size = xs.length := by rw [List.size_toArray, rv.length]
    have l2 : its2.toArray.size = ys.length := by rw [List.size_toArray, rv2.length]
    have l3 : its3.toArray.size = zs.length := by rw [List.size_toArray, rv3.length]
    rw [← l1, ← l2, ← l3] at hlt
    subst hlt
    refine (GoesN.zip3 (elts := elts) (x1 := kk) (pos := tpos) S (draws_s (A := X.A.in1) t1 hh i1 a n1 its.toArray) (draws_s (A := X.A.in1) t2 hh i2 b n2 its2.toArray) (draws_s (A := X.A.in1) t3 hh i3 c n3 its3.toArray)).stops s _ E ⟨hz, hTI, hTO, ⟨s1, is1⟩, ⟨s2, is2⟩, ⟨s3, is3⟩⟩ fun h' tk hk _ => ?_
    exact I.turnedL (t' := tk) (ch := [z, TI, TO, i1, i2, i3]) (fun c o hb q => hk c o (fun hm => hb (by
      simp only [List.mem_cons, List.not_mem_nil, or_false] at hm ⊢
      rcases hm with r | r | r | r | r
      · exact .inl r
      · exact .inr (.inr (.inl r))
      · exact .inr (.inr (.inr (.inl r)))
      · exact .inr (.inr (.inr (.inr (.inl r))))
      · exact .inr (.inr (.inr (.inr (.inr r)))))) q) hf
  self := fun A i s Q E st h => wpAny_pyIter_zip st.1 h
def zipD3 : List PyData → List PyData → List PyData → List PyData
  | a :: as, b :: bs, c :: cs => .tuple [a, b, c] :: zipD3 as bs cs
  | _, _, _ => []
theorem zipD3_len : ∀ as bs cs : List PyData, (zipD3 as bs cs).length = min (min as.length bs.length) cs.length
  | [], _, _ => by simp [zipD3]
  | _ :: _, [], _ => by simp [zipD3]
  | _ :: _, _ :: _, [] => by simp [zipD3]
  | a :: as, b :: bs, c :: cs => by rw [zipD3, List.length_cons, zipD3_len as bs cs]; simp only [List.length_cons]; omega
theorem zipD3_get : ∀ {as bs cs : List PyData} {i : Nat} {d : PyData}, (zipD3 as bs cs)[i]? = some d → ∃ a b c, as[i]? = some a ∧ bs[i]? = some b ∧ cs[i]? = some c ∧ d = .tuple [a, b, c]
  | [], _, _, _, _, h => by simp [zipD3] at h
  | _ :: _, [], _, _, _, h => by simp [zipD3] at h
  | _ :: _, _ :: _, [], _, _, h => by simp [zipD3] at h
  | a :: as, b :: bs, c :: cs, 0, d, h => by simp [zipD3] at h; exact ⟨a, b, c, rfl, rfl, rfl, h.symm⟩
  | a :: as, b :: bs, c :: cs, i + 1, d, h => by
    obtain ⟨x, y, z, h1, h2, h3, h4⟩ := zipD3_get (as := as) (bs := bs) (cs := cs) (i := i) (d := d) (by simpa [zipD3] using h)
    exact ⟨x, y, z, by simpa using h1, by simpa using h2, by simpa using h3, h4⟩
theorem jz3_ok {t1 t2 t3 : Bool} {a b c : Addr} {xs ys zs : List V} {ds es fs : List PyData} {Hk1 : Hp} (h : RpAll Hk1 xs ds) (k : RpAll Hk1 ys es) (l : RpAll Hk1 zs fs) : ItOk (Jz3 t1 t2 t3 a b c xs ys zs) (zipD3 ds es fs) Hk1 (fun H => SR t1 H a xs ∧ SR t2 H b ys ∧ SR t3 H c zs) where
  go := fun i H hs hi => ⟨hs.1, hs.2.1, hs.2.2, by rw [zipD3_len, ← RpAll.length h, ← RpAll.length k, ← RpAll.length l] at hi; exact hi⟩
  stop := fun i H hs hi => ⟨hs.1, hs.2.1, hs.2.2, by rw [zipD3_len, ← RpAll.length h, ← RpAll.length k, ← RpAll.length l] at hi; exact hi⟩
  yld := fun i H Hk x H' hs e1 e2 y d hd => by
    obtain ⟨T, x1, y1, z1, rfl, hT, rfl, f1, f2, f3⟩ := y
    obtain ⟨a', b', c', h1, h2, h3, rfl⟩ := zipD3_get hd
    obtain ⟨v, hv, rv⟩ := RpAll.get h h1
    obtain ⟨u, hu, ru⟩ := RpAll.get k h2
    obtain ⟨w, hw, rw'⟩ := RpAll.get l h3
    rw [hv] at f1
    rw [hu] at f2
    rw [hw] at f3
    obtain rfl := Option.some.inj f1
    obtain rfl := Option.some.inj f2
    obtain rfl := Option.some.inj f3
    have n := Ex.new (o := .tup [v, u, w]) (Evl.fresh_back e2 hT)
    exact ⟨_, Gr.new e2 hT, .tup (.inl upd_same) (.cons (Rp.up n (Rp.up e1 rv)) (.cons (Rp.up n (Rp.up e1 ru)) (.cons (Rp.up n (Rp.up e1 rw')) .nil)))⟩
  mono := fun _ _ e h => ⟨h.1.up e, h.2.1.up e, h.2.2.up e⟩
def rZ3 (ta : TA) : TI := fun σ H R => ta σ H fun vs H1 => ∃ t1 t2 t3 a b c xs ys zs, vs = [.ref a, .ref b, .ref c] ∧ SR t1 H1 a xs ∧ SR t2 H1 b ys ∧ SR t3 H1 c zs ∧ R (Jz3 t1 t2 t3 a b c xs ys zs) H1
theorem vals3 {x y z : V} {us : List Value} (r : Vals [x, y, z] us) : ∃ u v w, us = [u, v, w] ∧ RelV x u ∧ RelV y v ∧ RelV z w := by
  cases r with
  | cons a r => cases r with
    | cons b r => cases r with
      | cons c r => cases r; exact ⟨_, _, _, rfl, a, b, c⟩
theorem pi_z3 {X : Cx} [ok : OK X] {e e2 e3 : Expr} {ta : TA} {p pos tpos : Pos} {elts : List Expr} {kk : Nat} (hg : Gl X "zip") (hm : X.mg "zip" = none) (ha : PA X [e, e2, e3] ta)
    (hs : starEach [e, e2, e3] X.env = (false, eval e X.env) :: starEach [e2, e3] X.env) (hpl : (backTo pos (starEach [e2, e3] X.env)).any (·.1) = false) : PI X (.Tuple elts kk tpos) (.Call (.Name "zip" p) [e, e2, e3] [] pos) (rZ3 ta) := by
  refine ⟨fun pins s σ H R I h => ?_⟩
  refine PyProof.Rows.Call_ (ld_blt I hg hm PyProof.Rows.boot_zip (PyProof.Rows.callWith_type1 (thn (ha.run pos pins s σ H _ I h) fun us s1 hh => ?_) hs hpl))
  obtain ⟨vs, H1, I1, r1, t1, t2, t3, a, b, c, xs, ys, zs, ex, g1, g2, g3, q⟩ := hh
  subst ex
  obtain ⟨v1, v2, v3, rfl, ra, rb, rc⟩ := vals3 r1
  cases ra
  cases rb
  cases rc
  obtain ⟨its, rv, is1, la⟩ := SR.is I1 g1
  obtain ⟨its2, rv2, is2, lb⟩ := SR.is I1 g2
  obtain ⟨its3, rv3, is3, lc⟩ := SR.is I1 g3
  refine zip_begins3 (begins_s t1 a its.toArray) (begins_s t2 b its2.toArray) (begins_s t3 c its3.toArray) is1 is2 is3 fun h' hz hTI hTO h1 h2 h3 hsz hk => wpAny_pyIter_zip hz ?_
  have I2 : Inv X pins σ H1 { s1 with heap := h' } := I1.kept (t' := s1.toks) hk
  refine ⟨s1.heap.objs.size + 5, [s1.heap.objs.size + 5, s1.heap.objs.size + 3, s1.heap.objs.size + 4, s1.heap.objs.size, s1.heap.objs.size + 1, s1.heap.objs.size + 2], _, _, H1, rfl, I2,
    turn_z3 ok.eq (zip_sep3 (fun c hc => ?_) (fun c hc => ?_) (fun c hc => ?_)) (Nat.ne_of_lt la) (Nat.ne_of_lt (Nat.lt_succ_of_lt lb)) (Nat.ne_of_lt (Nat.lt_succ_of_lt (Nat.lt_succ_of_lt lc))), ⟨hz, hTI, ⟨_, _, _, hTO⟩, sIt_zero h1, sIt_zero h2, sIt_zero h3⟩, fun c hcm => ?_, q⟩
  · rw [List.mem_singleton.mp hc]; exact la
  · rw [List.mem_singleton.mp hc]; exact lb
  · rw [List.mem_singleton.mp hc]; exact lc
  · have hle : s1.heap.objs.size ≤ c := ge_of_mem (l := [5, 3, 4, 0, 1, 2]) hcm
    exact I1.fpOk hle (I1.hok.fresh hle)
def z3 (x y z : Rv) : R (Bool × List PyData) := seqOf x >>= fun a => seqOf y >>= fun b => seqOf z >>= fun c => .ok (a.1 && (b.1 && c.1), zipD3 a.2 b.2 c.2)
def iZ3 (φ ψ χ : En → R Rv) : En → R (Bool × List PyData) := fun ρ => φ ρ >>= fun x => ψ ρ >>= fun y => χ ρ >>= fun z => z3 (frz x) (frz y) (frz z)
section
variable {X : Cx} [ok : OK X] {W : WX} {e e' e'' : Expr} {φ ψ χ : En → R Rv} {p pos tpos : Pos} {elts : List Expr} {kk : Nat}
theorem w_z3 (h : PE X e (te X.K W φ)) (h' : PE X e' (te X.K W ψ)) (h'' : PE X e'' (te X.K W χ)) (hm : X.mg "zip" = none) (hg : Gl X "zip" := by rfl) (hs : starEach [e, e', e''] X.env = (false, eval e X.env) :: starEach [e', e''] X.env := by rfl) (hs2 : starEach [e', e''] X.env = (false, eval e' X.env) :: starEach [e''] X.env := by rfl) (hs3 : starEach [e''] X.env = (false, eval e'' X.env) :: starEach [] X.env := by rfl)
    (hpl : (backTo pos (starEach [e', e''] X.env)).any (·.1) = false := by rfl) : PI X (.Tuple elts kk tpos) (.Call (.Name "zip" p) [e, e', e''] [] pos) (ti X.K W (iZ3 φ ψ χ)) :=
  pi_imp (pi_z3 hg hm (pa_cons h (pa_cons h' (pa_cons h'' pa_nil hs3) hs2) hs) hs hpl) fun σ H Q ⟨Hk0, H0, Hk, ρ, r, p⟩ => by
    refine te_thenI (g := fun x => ψ ρ >>= fun y => χ ρ >>= fun z => z3 x (frz y) (frz z)) r p fun x v Hk1 H1 g1 d1 n1 r1 p1 => ?_
    refine te_thenI (g := fun y => χ ρ >>= fun z => z3 x y (frz z)) r1 p1 fun y u Hk2 H2 g2 d2 n2 r2 p2 => ?_
    refine te_thenI (g := fun z => z3 x y z) r2 p2 fun z u' Hk' H' g d n r' p' => ?_
    unfold z3 at p'
    cases q : seqOf x with
    | err c => exact absurd q seqOf_no
    | bad => rw [q] at p'; exact p'.elim
    | ok a =>
      rw [q] at p'
      cases q2 : seqOf y with
      | err c => exact absurd q2 seqOf_no
      | bad => rw [q2] at p'; exact p'.elim
      | ok b =>
        rw [q2] at p'
        cases q3 : seqOf z with
        | err c => exact absurd q3 seqOf_no
        | bad => rw [q3] at p'; exact p'.elim
        | ok c =>
          rw [q3] at p'
          obtain ⟨l1, xs, rfl, ra, s1, k1⟩ := seqOf_SR q g.kh (Den.up g (Den.up g2 d1))
          obtain ⟨l2, ys, rfl, rb, s2, k2⟩ := seqOf_SR q2 g.kh (Den.up g d2)
          obtain ⟨l3, zs, rfl, rc, s3, k3⟩ := seqOf_SR q3 g.kh d
          exact ⟨_, _, _, l1, l2, l3, xs, ys, zs, rfl, s1, s2, s3, p' _ _ H' _ (Gr.refl g.kh) (jz3_ok ra rb rc) ⟨s1, s2, s3⟩ fun z => by
            rw [Bool.and_eq_true, Bool.and_eq_true] at z
            exact ⟨k1 z.1, k2 z.2.1, k3 z.2.2⟩⟩
end
end Py

set_option Elab.async false
set_option linter.all false
set_option maxRecDepth 100000
set_option autoImplicit false
set_option maxHeartbeats 1000000
/-! PyG: lists that are changed, raise, defs. -/
namespace Py
variable [KK]
open PySem L2
open Evl (Ex)

/-! ### a list that is changed -/
section
variable {Hk0 H0 Hk H : Hp} {σ : Sl} {ρ : En}
theorem Rel.mut {i : Nat} {ds es : List PyData} {p : Addr} {xs ys : List V} (r : Rel Hk0 H0 Hk H σ ρ) (hi : ρ[i]? = some (some (.own ds))) (hs : σ[i]? = some (some (.ref p))) (h0 : H0 p = none) (hk : Hk p = none) (hp : H p = some (.lst xs)) (hy : RpAll Hk ys es) :
    Rel Hk0 H0 Hk (upd H p (.lst ys)) σ (ρ.set i (some (.own es))) where
  len := by rw [List.length_set]; exact r.len
  gr := ⟨r.gr.k, Ex.mut r.gr.h h0, fun a u q => by rw [upd_ne (ne_of_none q hk)]; exact r.gr.kh a u q, r.gr.fr⟩
  val := fun j d q => by
    rw [get_set] at q
    split at q
    · split at q <;> cases q
    · exact r.val j d q
  own := fun j fs q => by
    rw [get_set] at q
    split at q
    · rename_i hj
      subst hj
      split at q
      · cases q
        exact ⟨p, ys, hs, h0, hk, upd_same, hy⟩
      · cases q
    · rename_i hj
      obtain ⟨p', zs, a, b, c, d, e⟩ := r.own j fs q
      have : p' ≠ p := fun w => by
        subst w
        exact hj (r.sep i j ds fs p' hi q hs a)
      exact ⟨p', zs, a, b, c, by rw [upd_ne this]; exact d, e⟩
  sep := fun j k fs gs q a b c d => by
    have back : ∀ {m : Nat} {fs : List PyData}, (ρ.set i (some (.own es)))[m]? = some (some (Cl.own fs)) → ∃ fs', ρ[m]? = some (some (Cl.own fs')) := by
      intro m fs h
      rw [get_set] at h
      split at h
      · rename_i hm
        subst hm
        exact ⟨ds, hi⟩
      · exact ⟨fs, h⟩
    obtain ⟨_, a'⟩ := back a
    obtain ⟨_, b'⟩ := back b
    exact r.sep j k _ _ q a' b' c d
  raw := fun j a q => by
    rw [get_set] at q
    split at q
    · split at q <;> cases q
    · exact r.raw j a q
  dct := fun j fs q => by
    rw [get_set] at q
    split at q
    · split at q <;> cases q
    · obtain ⟨p', zs, a, b, c, d, e⟩ := r.dct j fs q
      have : p' ≠ p := fun w => by
        subst w
        rw [hp] at d
        cases d
      exact ⟨p', zs, a, b, c, by rw [upd_ne this]; exact d, e⟩
  tpn := fun j d q => by
    rw [get_set] at q
    split at q
    · split at q <;> cases q
    · exact r.tpn j d q
  kn := fun j d q => by
    rw [get_set] at q
    split at q
    · split at q <;> cases q
    · exact r.kn j d q
  dsep := fun j k fs gs q a b c d => by
    rw [get_set] at a b
    split at a
    · split at a <;> cases a
    · split at b
      · split at b <;> cases b
      · exact r.dsep j k fs gs q a b c d
/-- an owned list is known for good from now on -/
def frzE (i : Nat) (ρ : En) : En := match ρ[i]? with
  | some (some (.own ds)) => ρ.set i (some (.val (.list ds)))
  | _ => ρ
theorem Rel.freeze (i : Nat) (r : Rel Hk0 H0 Hk H σ ρ) : ∃ Hk', Ex Hk Hk' ∧ Rel Hk0 H0 Hk' H σ (frzE i ρ) := by
  unfold frzE
  split
  · rename_i ds hi
    obtain ⟨p, xs, a, b, c, d, e⟩ := r.own i ds hi
    refine ⟨upd Hk p (.lst xs), Ex.new c, ?_⟩
    have g : Gr Hk0 H0 (upd Hk p (.lst xs)) H := r.gr.frz b d c
    refine ⟨by rw [List.length_set]; exact r.len, g, fun j d' q => ?_, fun j fs q => ?_, fun j k fs gs q x y z w => ?_, fun j a q => ?_, fun j fs q => ?_, fun j d' q => ?_, fun j k fs gs q x y z w => ?_, fun j d' q => ?_⟩
    · rw [get_set] at q
      split at q
      · rename_i hj
        subst hj
        split at q
        · cases q
          exact ⟨_, a, .lst (.inl (.inl upd_same)) (RpAll.up (Ex.new c) e)⟩
        · cases q
      · obtain ⟨v, h1, h2⟩ := r.val j d' q
        exact ⟨v, h1, Rp.up (Ex.new c) h2⟩
    · rw [get_set] at q
      split at q
      · split at q <;> cases q
      · rename_i hj
        obtain ⟨p', zs, a', b', c', d', e'⟩ := r.own j fs q
        have : p' ≠ p := fun w => by
          subst w
          exact hj (r.sep i j ds fs p' hi q a a')
        exact ⟨p', zs, a', b', by rw [upd_ne this]; exact c', d', RpAll.up (Ex.new c) e'⟩
    · rw [get_set] at x y
      split at x
      · split at x <;> cases x
      · split at y
        · split at y <;> cases y
        · exact r.sep j k fs gs q x y z w
    · rw [get_set] at q
      split at q
      · split at q <;> cases q
      · exact r.raw j a q
    · rw [get_set] at q
      split at q
      · split at q <;> cases q
      · rename_i hj
        obtain ⟨p', zs, a', b', c', d', e'⟩ := r.dct j fs q
        have : p' ≠ p := fun w => by
          subst w
          rw [d] at d'
          cases d'
        exact ⟨p', zs, a', b', by rw [upd_ne this]; exact c', d', DR.up (Ex.new c) e'⟩
    · rw [get_set] at q
      split at q
      · split at q <;> cases q
      · obtain ⟨v, h1, h2⟩ := r.tpn j d' q
        exact ⟨v, h1, TN.up (Ex.new c) h2⟩
    · rw [get_set] at x y
      split at x
      · split at x <;> cases x
      · split at y
        · split at y <;> cases y
        · exact r.dsep j k fs gs q x y z w
    · rw [get_set] at q
      split at q
      · split at q <;> cases q
      · obtain ⟨v, h1, h2⟩ := r.kn j d' q
        exact ⟨v, h1, Tg.up (Ex.new c) h2⟩
  · exact ⟨Hk, Ex.refl _, r⟩
end
def sFrz (i : Nat) (Φ : En → R Out) : En → R Out := fun ρ => Φ (frzE i ρ)
section
variable {X : Cx} {W : WX} {st : Stmt} {ss : List Stmt} {Φ : En → R Out}
theorem s_frz (i : Nat) (h : PS X st (ts X.K W Φ)) : PS X st (ts X.K W (sFrz i Φ)) := ps_imp h fun D σ H ⟨Hk0, H0, Hk, ρ, r, p⟩ => by
  obtain ⟨Hk', e, r'⟩ := r.freeze i
  exact ⟨Hk0, H0, Hk', _, r', PostS.up e p⟩
end
section
variable {K : PySem.W.Frag} {W : WX} {Hk0 H0 Hk H : Hp} {σ : Sl} {ρ : En} {D : Ends}
theorem ta_thenS {φs : List (En → R Rv)} {Q' : List V → Hp → Prop} {g : List PyData → R Out} (r : Rel Hk0 H0 Hk H σ ρ) (p : PostS K W Hk0 H0 Hk D (evA φs ρ >>= g))
    (k : ∀ ds vs Hk' H', ds.length = φs.length → Gr Hk H Hk' H' → RpAll Hk' vs ds → Rel Hk0 H0 Hk' H' σ ρ → PostS K W Hk0 H0 Hk' D (g ds) → Q' vs H') : ta K W φs σ H Q' := by
  refine ⟨Hk0, H0, Hk, ρ, r, ?_⟩
  cases e : evA φs ρ with
  | ok ds => rw [e] at p; exact fun vs Hk' H' gr d => k ds vs Hk' H' (evA_len e) gr d (r.up gr) (PostS.up gr.k p)
  | err c => rw [e] at p; exact fun Hk' H' g => p σ Hk' H' (r.gr.trans g)
  | bad => rw [e] at p; exact p
theorem tr_thenS {φs : List (En → R Rv)} {Q' : List V → Hp → Prop} {g : List Rv → R Out} (r : Rel Hk0 H0 Hk H σ ρ) (p : PostS K W Hk0 H0 Hk D (evR φs ρ >>= g))
    (k : ∀ ds vs Hk' H', Gr Hk H Hk' H' → DenAll Hk' H' σ ds vs → Rel Hk0 H0 Hk' H' σ ρ → PostS K W Hk0 H0 Hk' D (g ds) → Q' vs H') : tr K W φs σ H Q' := by
  refine ⟨Hk0, H0, Hk, ρ, r, ?_⟩
  cases e : evR φs ρ with
  | ok ds => rw [e] at p; exact fun vs Hk' H' gr d => k ds vs Hk' H' gr d (r.up gr) (PostS.up gr.k p)
  | err c => rw [e] at p; exact fun Hk' H' g => p σ Hk' H' (r.gr.trans g)
  | bad => rw [e] at p; exact p
end
def ownAt (ρ : En) (i : Nat) : R (List PyData) := match ρ[i]? with
  | some (some (.own ds)) => .ok ds
  | _ => .bad
theorem ownAt_ok {ρ : En} {i : Nat} {ds : List PyData} (h : ownAt ρ i = .ok ds) : ρ[i]? = some (some (.own ds)) := by
  unfold ownAt at h
  split at h
  · cases h; assumption
  · cases h
theorem ownAt_no {ρ : En} {i : Nat} {c : Str} : ownAt ρ i ≠ .err c := by
  unfold ownAt
  split <;> exact fun h => nomatch h
def sApp (i : Nat) (φ : En → R Rv) : En → R Out := fun ρ => ownAt ρ i >>= fun ds => evA [φ] ρ >>= fun es => if ds.length ≤ 1000000 then .ok (.nx (ρ.set i (some (.own (ds ++ es))))) else .bad
def sExt (i : Nat) (φ : En → R Rv) : En → R Out := fun ρ => ownAt ρ i >>= fun ds => evR [φ] ρ >>= fun rs => match rs with
  | [r] => match r.dat with
    | .list es => if ds.length + es.length ≤ 1000000 then .ok (.nx (ρ.set i (some (.own (ds ++ es))))) else .bad
    | _ => .bad
  | _ => .bad
section
variable {X : Cx} [ok : OK X] {W : WX} {e c : Expr} {φ ψ : En → R Rv} {pos : Pos}
/-- list.extend by any list that is read -/
def rExtR : V → List V → Hp → VK → Prop := fun x vs H Q => ∃ l b xs zs, x = .ref l ∧ vs = [.ref b] ∧ H l = some (.lst xs) ∧ Rl H b zs ∧ xs.length + zs.length ≤ sizeLine ∧ Q .non (upd H l (.lst (xs ++ zs)))
theorem mt_extR : MtM X "list.extend" rExtR := by
  intro pins s σ H x vs v us Q I rx rv h
  obtain ⟨l, b, xs, zs, rfl, rfl, hH, hB, hz, q⟩ := h
  cases rx
  obtain ⟨u, rfl, ru⟩ := rv.one
  cases ru
  obtain ⟨z, its, n, r, hl, e⟩ := I.lstM hH
  obtain ⟨z2, its2, n2, r2, hl2, e2⟩ := rd_list I hB
  have hsz : its.toArray.size + its2.toArray.size ≤ sizeLine := by rw [List.size_toArray, List.size_toArray, ← hl, ← hl2]; exact hz
  have big : (sizeLine : Nat) < 2 ^ 60 := by decide
  refine call_meets PySem.F.slot_list_extend ⟨_, e, rfl⟩ PySem.F.entry_list_extend (PySem.F.args_list_extend_2 _ _) (AutoSeq1.list_extend_list_list_0 l its.toArray n b its2.toArray n2 (by rw [notLongL hsz]; simp) (by omega) (by omega)) ⟨e, e2, ?_⟩
  exact ⟨.non, _, I.lset (its' := its ++ its2) hH e (by simp) (r.append r2) (by rw [List.length_append]; exact hz), rfl, q⟩
theorem s_app {x : Str} {p ap cp : Pos} (i : Nat) (he : PE X e (te X.K W φ)) (hN : X.N[i]? = some x := by rfl) (hv : Vis X.env.scope x := by first | exact Or.inl rfl | exact Or.inr (Or.inl rfl) | exact Or.inr (Or.inr rfl)) (hd : (x == ("__debug__" : Str)) = false := by decide)
    (hcd : (x == ("__classdict__" : Str)) = false := by decide) (hbase : attributeBase (.Name x p) "append" X.env (eval (.Name x p) X.env) = eval (.Name x p) X.env := by rfl)
    (hfew : ((backTo cp (starEach [e] X.env)).all (fun x => !x.1) && (backToKw cp (keywordEach [] X.env)).all (fun x => x.1.isSome) && decide ([e].length + ([] : List Keyword).length + (if ([] : List Keyword).isEmpty then 0 else 1) < 30)) = true := by rfl)
    (hline : (ap.endLine == cp.line) = true := by rfl) (hs : starEach [e] X.env = (false, eval e X.env) :: starEach [] X.env := by rfl) (hsw : swapsWith (.Call (.Attribute (.Name x p) "append" ap) [e] [] cp) none pos.line X.env = pure false := by rfl) :
    PS X (.Expr (.Call (.Attribute (.Name x p) "append" ap) [e] [] cp) pos) (ts X.K W (sApp i φ)) :=
  ps_imp (ps_expr (pe_bm PySem.F.plainAttrs_list PySem.F.slot_list_append PySem.F.type_list_append mt_append (pv i hN hv hd hcd) (d_acons he d_anil hs) hbase hfew hline hs) hsw) fun D σ H ⟨Hk0, H0, Hk, ρ, r, p⟩ => by
    unfold sApp at p
    cases e1 : ownAt ρ i with
    | err c => exact absurd e1 ownAt_no
    | bad => rw [e1] at p; exact p.elim
    | ok ds =>
      rw [e1] at p
      have hi := ownAt_ok e1
      obtain ⟨q, xs, h1, h2, h3, h4, h5⟩ := r.own i ds hi
      refine ⟨_, h1, .inl ⟨rfl, xs, .inl (.inl h4)⟩, ta_thenS (g := fun es => if ds.length ≤ 1000000 then .ok (.nx (ρ.set i (some (.own (ds ++ es))))) else .bad) r p fun es vs Hk' H' hl g d r' p' => ?_⟩
      split at p'
      · rename_i hz
        cases d with
        | nil => cases hl
        | cons a b =>
          cases b with
          | cons _ _ => cases hl
          | nil =>
            have k4 := g.h _ _ h4
            have k3 := g.fr q (by rw [h4]; exact fun z => nomatch z) h3
            refine ⟨q, xs, _, rfl, rfl, k4, Nat.lt_of_le_of_lt (Nat.le_of_eq (RpAll.length h5)) (Nat.lt_of_le_of_lt hz (by decide)), ?_⟩
            exact p' σ Hk' _ (Ex.refl _) (r'.mut hi h1 h2 k3 k4 (RpAll.append (RpAll.up g.k h5) (.one a)))
      · exact p'.elim
theorem s_ext {x : Str} {p ap cp : Pos} (i : Nat) (he : PE X e (te X.K W φ)) (hN : X.N[i]? = some x := by rfl) (hv : Vis X.env.scope x := by first | exact Or.inl rfl | exact Or.inr (Or.inl rfl) | exact Or.inr (Or.inr rfl)) (hd : (x == ("__debug__" : Str)) = false := by decide)
    (hcd : (x == ("__classdict__" : Str)) = false := by decide) (hbase : attributeBase (.Name x p) "extend" X.env (eval (.Name x p) X.env) = eval (.Name x p) X.env := by rfl)
    (hfew : ((backTo cp (starEach [e] X.env)).all (fun x => !x.1) && (backToKw cp (keywordEach [] X.env)).all (fun x => x.1.isSome) && decide ([e].length + ([] : List Keyword).length + (if ([] : List Keyword).isEmpty then 0 else 1) < 30)) = true := by rfl)
    (hline : (ap.endLine == cp.line) = true := by rfl) (hs : starEach [e] X.env = (false, eval e X.env) :: starEach [] X.env := by rfl) (hsw : swapsWith (.Call (.Attribute (.Name x p) "extend" ap) [e] [] cp) none pos.line X.env = pure false := by rfl) :
    PS X (.Expr (.Call (.Attribute (.Name x p) "extend" ap) [e] [] cp) pos) (ts X.K W (sExt i φ)) :=
  ps_imp (ps_expr (pe_bm PySem.F.plainAttrs_list PySem.F.slot_list_extend PySem.F.type_list_extend mt_extR (pv i hN hv hd hcd) (d_rcons he d_rnil hs) hbase hfew hline hs) hsw) fun D σ H ⟨Hk0, H0, Hk, ρ, r, p⟩ => by
    unfold sExt at p
    cases e1 : ownAt ρ i with
    | err c => exact absurd e1 ownAt_no
    | bad => rw [e1] at p; exact p.elim
    | ok ds =>
      rw [e1] at p
      have hi := ownAt_ok e1
      obtain ⟨q, xs, h1, h2, h3, h4, h5⟩ := r.own i ds hi
      refine ⟨_, h1, .inl ⟨rfl, xs, .inl (.inl h4)⟩, tr_thenS r p fun rs vs Hk' H' g d r' p' => ?_⟩
      have k4 := g.h _ _ h4
      have k3 := g.fr q (by rw [h4]; exact fun z => nomatch z) h3
      split at p'
      · rename_i a
        obtain ⟨v, rfl, da⟩ := DenAll.one (rs := [a]) d
        split at p'
        · rename_i es hd'
          split at p'
          · rename_i hz
            obtain ⟨b, zs, rfl, rl, ra⟩ := da.kList g.kh hd'
            refine ⟨q, b, xs, zs, rfl, rfl, k4, rl, by rw [RpAll.length h5, RpAll.length ra]; exact big_fits hz, ?_⟩
            exact p' σ Hk' _ (Ex.refl _) (r'.mut hi h1 h2 k3 k4 (RpAll.append (RpAll.up g.k h5) ra))
          · exact p'.elim
        · exact p'.elim
      · exact p'.elim
/-! x[i] = e -/
def sSub (i : Nat) (ψ φ : En → R Rv) : En → R Out := fun ρ => ownAt ρ i >>= fun ds => φ ρ >>= fun r => (frz r).toVal >>= fun d => ψ ρ >>= fun k => (frz k).toInt >>= fun j => match ixN ds.length j with
  | some n => .ok (.nx (ρ.set i (some (.own (ds.set n d)))))
  | none => .bad
theorem s_sub {x : Str} {b : Expr} {p sp : Pos} (i : Nat) (hb : PE X b (te X.K W ψ)) (he : PE X e (te X.K W φ)) (hN : X.N[i]? = some x := by rfl) (hv : Vis X.env.scope x := by first | exact Or.inl rfl | exact Or.inr (Or.inl rfl) | exact Or.inr (Or.inr rfl)) (hd : (x == ("__debug__" : Str)) = false := by decide)
    (hcd : (x == ("__classdict__" : Str)) = false := by decide)
    (ha : ∀ v, assign (.Subscript (.Name x p) b sp) X.env v = (do
      let ov ← holding [v] (eval (.Name x p) X.env)
      let iv ← holding [v, ov] (eval b X.env)
      standAt sp
      holding [v, ov, iv] (setItem ov iv v)
      release [v, ov, iv] []) := by intro _; rfl)
    (hs : swapsWithSole [.Subscript (.Name x p) b sp] e pos.line X.env = pure false := by rfl) (hw : swappedStores [.Subscript (.Name x p) b sp] e X.env = pure none := by rfl)
    (h1 : (assignEach [.Subscript (.Name x p) b sp] X.env).map (·.2) = [assign (.Subscript (.Name x p) b sp) X.env] := by rfl) : PS X (.Assign [.Subscript (.Name x p) b sp] e pos) (ts X.K W (sSub i ψ φ)) :=
  ps_imp (ps_asg he (pg_sub (pv i hN hv hd hcd) hb set_list ha) hs hw h1) fun D σ H ⟨Hk0, H0, Hk, ρ, r, p⟩ => by
    unfold sSub at p
    cases e1 : ownAt ρ i with
    | err c => exact absurd e1 ownAt_no
    | bad => rw [e1] at p; exact p.elim
    | ok ds =>
      rw [e1] at p
      have hi := ownAt_ok e1
      obtain ⟨q, xs, h1, h2, h3, h4, h5⟩ := r.own i ds hi
      refine s_thenF (g := fun x => x.toVal >>= fun d => ψ ρ >>= fun k => (frz k).toInt >>= fun j => match ixN ds.length j with
        | some n => .ok (.nx (ρ.set i (some (.own (ds.set n d)))))
        | none => .bad) r p fun x v Hk1 H1 g1 d1 n1 r1 p1 => ?_
      cases e2 : x.toVal with
      | err c => exact absurd e2 toVal_no
      | bad => rw [e2] at p1; exact p1.elim
      | ok d =>
        rw [e2] at p1
        refine ⟨_, h1, s_thenF (g := fun k => k.toInt >>= fun j => match ixN ds.length j with
          | some n => .ok (.nx (ρ.set i (some (.own (ds.set n d)))))
          | none => .bad) r1 p1 fun y u Hk2 H2 g2 d2 n2 r2 p2 => ?_⟩
        cases e3 : y.toInt with
        | err c => exact absurd e3 toInt_no
        | bad => rw [e3] at p2; exact p2.elim
        | ok j =>
          rw [e3] at p2
          have p2 : PostS X.K W Hk0 H0 Hk2 D (match ixN ds.length j with
            | some n => .ok (.nx (ρ.set i (some (.own (ds.set n d)))))
            | none => .bad) := p2
          split at p2
          · rename_i n hn
            have g := g1.trans g2
            have k4 := g.h _ _ h4
            have k3 := g.fr q (by rw [h4]; exact fun z => nomatch z) h3
            rw [d2.int e3]
            exact ⟨q, xs, j, n, rfl, rfl, k4, by rw [RpAll.length h5]; exact hn, p2 σ Hk2 _ (Ex.refl _) (r2.mut hi h1 h2 k3 k4 (RpAll.set (Rp.up g2.k (toVal_den d1 n1 e2)) n (RpAll.up g.k h5)))⟩
          · exact p2.elim
/-! raise -/
def sRaise (c : Str) : En → R Out := fun _ => .err c
theorem s_raise {x m : Str} {j : Nat} {p p2 pos' : Pos} (hc : X.calm = true) (tk : Takes X W) (f : (He.Fa.exc x).ok X.K = true) (g : X.mg x = some (.ref (He.ga X.K x))) (hg : Gl X x := by rfl) (hdb : (x == ("__debug__" : Str)) = false := by decide) :
    PS X (.Raise (some (.Call (.Name x p) [.Constant (.str m) j p2] [] pos')) none pos) (ts X.K W (sRaise x)) := by
  obtain ⟨f1, f2, f3, f4⟩ := He.exc_ok f
  exact ps_imp (ps_raise hc tk (pmk_own PySem.F.excBase_ValueError f1 g f2 (raises_own f3 f4) hg hdb)) fun D σ H ⟨Hk0, H0, Hk, ρ, r, p⟩ => p σ Hk H r.gr
end
/-! ### defs -/
def st0 (n : Nat) (ds : List PyData) : En := ds.map (fun d => some (Cl.val d)) ++ List.replicate (n - ds.length) none
def outV : Out → R Cr
  | .nx _ => .ok (.val .none)
  | .rt r => .ok r
  | _ => .bad
def fnR (n : Nat) (Φ : En → R Out) : List PyData → R Cr := fun ds => Φ (st0 n ds) >>= outV
theorem RpAll.mapGet {Hk : Hp} {vs : List V} {ds : List PyData} (h : RpAll Hk vs ds) {n i : Nat} {c : Cl} (q : (st0 n ds)[i]? = some (some c)) : ∃ d, ds[i]? = some d ∧ c = .val d := by
  unfold st0 at q
  rw [List.getElem?_append] at q
  split at q
  · rename_i hl
    rw [List.length_map] at hl
    rw [List.getElem?_map, List.getElem?_eq_getElem hl] at q
    cases q
    exact ⟨ds[i], List.getElem?_eq_getElem hl, rfl⟩
  · rw [List.getElem?_replicate] at q
    split at q <;> cases q
theorem rel_start {Hk H : Hp} {N : List Str} {vs : List V} {ds : List PyData} (e : Ex Hk H) (h : RpAll Hk vs ds) : Rel Hk H Hk H (L2.start N vs) (st0 N.length ds) where
  len := by unfold L2.start st0; simp only [List.length_append, List.length_map, List.length_replicate]; rw [RpAll.length h]
  gr := Gr.refl e
  val := fun i d q => by
    obtain ⟨d', h1, h2⟩ := h.mapGet q
    cases h2
    obtain ⟨v, hv, rv⟩ := RpAll.get h h1
    refine ⟨v, ?_, rv⟩
    obtain ⟨hl, he⟩ := List.getElem?_eq_some_iff.mp hv
    unfold L2.start
    rw [List.getElem?_append_left (by rw [List.length_map]; exact hl), List.getElem?_map, hv]
    rfl
  own := fun i d q => by
    obtain ⟨d', h1, h2⟩ := h.mapGet q
    cases h2
  sep := fun i j ds es p q => by
    obtain ⟨d', h1, h2⟩ := h.mapGet q
    cases h2
  raw := fun i a q => by
    obtain ⟨d', h1, h2⟩ := h.mapGet q
    cases h2
  dct := fun i d q => by
    obtain ⟨d', h1, h2⟩ := h.mapGet q
    cases h2
  tpn := fun i d q => by
    obtain ⟨d', h1, h2⟩ := h.mapGet q
    cases h2
  kn := fun i d q => by
    obtain ⟨d', h1, h2⟩ := h.mapGet q
    cases h2
  dsep := fun i j ds es p q => by
    obtain ⟨d', h1, h2⟩ := h.mapGet q
    cases h2
section
variable {P : Program} {w : World} {mg : Str → Option Value} {base : Heap} {x qual : Str} {params : Arguments} {body : List Stmt} {scope : Scope} {f : Addr} {fd : FuncData} {N ps : List Str} {k : Nat} {Φ : En → R Out}
/-- a def keeps its promise -/
theorem fn_ok (F : FunD KK.K x qual params body scope [] [] f fd) (S : FnScope N ps scope)
    (hbody : ∀ (cdv : Value) (A : Around) (outer : List Env) (s : Shared) (H : Hp) (E : XK), Room k (A.deeper (PyProof.Rows.envOfC qual scope s.heap.objs.size f cdv)) →
      PSs (cxOf (L2.CX P w) P w KK.K mg base N qual scope f cdv A outer s H E) body (ts KK.K (fun cls d _ H => E cls d H) Φ)) :
    FnOk P w KK.K mg base (L2.CX P w) (k + 1) f fd ps (spF KK.K ps.length (fnR N.length Φ)) :=
  F.ok S (fun vs H Q E h => by
    obtain ⟨Hk, ds, _, r, l, _⟩ := h
    rw [RpAll.length r, l]) fun cdv A outer s H vs Q E hr h => ⟨_, hbody cdv A outer s H E hr, by
      obtain ⟨Hk, ds, e, r, l, q⟩ := h
      refine ⟨Hk, H, Hk, st0 N.length ds, rel_start e r, ?_⟩
      unfold fnR at q
      cases e1 : Φ (st0 N.length ds) with
      | err c => rw [e1] at q; exact fun σ' Hk' H' g => q Hk' H' g
      | bad => rw [e1] at q; exact q
      | ok o =>
        rw [e1] at q
        cases o with
        | nx ρ => exact fun σ' Hk' H' e' r' => q .non Hk' H' r'.gr trivial Rp.non
        | rt r => exact q
        | bk ρ => exact q.elim
        | ct ρ => exact q.elim⟩
end
end Py

set_option Elab.async false
set_option linter.all false
set_option maxRecDepth 100000
set_option autoImplicit false
set_option maxHeartbeats 4000000
/-! PyS: sets of ints, ranges and zips as lists. -/
namespace Py
open PySem L2 PyProof.Rows
open Evl (Ex)
/-- a new set -/
abbrev eset (w : World) : Obj := { cls := .type "set", dict := none, data := .set #[] 0 (.fresh 0 0 (!w.params.followText "set-order")) }
/-- what is left of set(l) -/
def SetMade (w : World) (ns : List Int) (s s' : Shared) : Prop := ∃ h' tk c, s' = { s with heap := h', toks := tk } ∧ SetR w h' s.heap.objs.size (fun j => decide (j ∈ ns)) c ∧ c ≤ ns.length ∧ ∀ b o, s.heap.get? b = some o → h'.get? b = some o
theorem int_item {items : Array Value} {ns : List Int} (h : IntsAre items.toList ns) {i : Nat} {v : Value} (q : items[i]? = some v) : ∃ k t, ns[i]? = some k ∧ v = .int k t := by
  have hl := IntsAre.length h
  rw [Array.length_toList] at hl
  have hi : i < ns.length := hl ▸ (Array.getElem?_eq_some_iff.mp q).1
  obtain ⟨t, e⟩ := IntsAre.int_at h i v ((Array.getElem?_toList).trans q)
  exact ⟨ns[i], t, List.getElem?_eq_getElem hi, by rw [e, List.getD_eq_getElem?_getD, List.getElem?_eq_getElem hi]; rfl⟩
section
variable {P : Program} {w : World} {A : Around} {E : Value → Shared → Prop} {s : Shared} {l : Addr} {items : Array Value} {ns : List Int}
theorem set_fill (hh : A.handled = none) (hl : s.heap.IsList l items) (hi : IntsAre items.toList ns) (hb : ns.length + 1 < scanBound) :
    wpAny (model P w) A.in1 (Builtin.«set.__init__» ⟨[.ref s.heap.objs.size, .ref l], []⟩) (fun fin s' => match fin with
      | Fin.done f => wants (fun r s₂ => r = .none ∧ SetMade w ns s s₂) E (.ok f) s'
      | Fin.again c => c.quiet = true ∧ codeAny (model P w) A c (wants (fun r s₂ => r = .none ∧ SetMade w ns s s₂) E) s') (fun e s' => wants (fun r s₂ => r = .none ∧ SetMade w ns s s₂) E (.error e) s') { s with heap := s.heap.push (eset w) } := by
  have hz : items.size = ns.length := by rw [← Array.length_toList]; exact IntsAre.length hi
  have hS : (s.heap.push (eset w)).get? s.heap.objs.size = some (eset w) := Heap.get?_push_size _ rfl
  have hl1 : (s.heap.push (eset w)).IsList l items := hl.push _
  have la : l < s.heap.objs.size := by obtain ⟨o, ho, _⟩ := hl; exact Heap.lt_size ho
  have ho := hl1
  obtain ⟨⟨oc, od, dt, os⟩, hol, hc, nl, hd⟩ := ho
  have hc : oc = .type "list" := hc
  have hd : dt = .seq items nl := hd
  subst hc hd
  have f1 := F.sub_list_set
  have f2 := F.sub_list_frozenset
  have f3 : (Value.type "list" == Value.type "dict") = false := by decide
  have ne1 : l ≠ (s.heap.push (eset w)).objs.size := by rw [Heap.size_push]; exact Nat.ne_of_lt (Nat.lt_succ_of_lt la)
  have ne2 : s.heap.objs.size ∉ [(s.heap.push (eset w)).objs.size, l] := by
    rw [Heap.size_push]
    intro z
    simp only [List.mem_cons, List.not_mem_nil, or_false] at z
    rcases z with z | z
    · exact Nat.ne_of_lt (Nat.lt_succ_self _) z
    · exact Nat.ne_of_gt la z
  have h3 : A.in1.in1.handled = none := by simp [hh]
  unfold Builtin.«set.__init__» noKeywords Builtin.Frozenset.updateFrom
  generalize hPI : pyIter = PI
  wp_walk
  subst hPI
  refine wpAny_pyIter_list hl1 (wpAny_bind (wpAny_runValue ?_))
  refine set_update_ints (Walks.list h3 _ l ne1 items).toS s.heap.objs.size ne2 ns hz hb (fun i v q => int_item hi q) (items.size - 0) 0 _ (by omega) (Nat.zero_le _) ?_ ?_ ?_
  · exact ⟨⟨_, Heap.get?_push_size _ rfl, rfl, rfl⟩, hl1.push _⟩
  · exact ⟨0, Nat.le_refl 0, setR_new_at (Heap.get?_push_of_some _ hS)⟩
  rintro ⟨h', g', d', tk', os'⟩ c hm hcn hS'
  obtain rfl : g' = s.gens := hm.gens
  obtain rfl : d' = s.drawn := hm.drawn
  obtain rfl : os' = s.os := hm.os
  show wpAny _ _ _ _ _ _
  refine wpAny_pure ?_
  show wpAny _ _ (ret Value.none) _ _ _
  refine wpAny_pure ⟨rfl, h', tk', c, rfl, hS', by omega, fun b o e => hm.heap b o (fun z => ?_) (Heap.get?_push_of_some _ (Heap.get?_push_of_some _ e))⟩
  have lb := Heap.lt_size e
  rw [Heap.size_push] at z
  simp only [List.mem_cons, List.not_mem_nil, or_false] at z
  rcases z with z | z
  · exact Nat.ne_of_lt lb z
  · exact Nat.ne_of_lt (Nat.lt_succ_of_lt lb) z
theorem set_of_list {Q : Value → Shared → Prop} (hh : A.handled = none) (hl : s.heap.IsList l items) (hi : IntsAre items.toList ns) (hb : ns.length + 1 < scanBound) (h : ∀ s', SetMade w ns s s' → Q (.ref s.heap.objs.size) s') :
    wpAny (model P w) A (call (.type "set") [.ref l]) Q E s := by
  obtain ⟨_, _, hmro⟩ := F.called_set.mro
  have c1 := F.called_set.made
  have c2 := F.called_set.sub
  have c3 := F.called_set.notType
  have c4 := F.called_set.canCreate
  have c5 := F.typeCall_set_1 (.ref l)
  refine wpAny_call (codeAny_of_tree ?_)
  show wpAny _ _ (callAny (.type "set") _) _ _ _
  refine wpAny_pure ⟨Code.quiet_builtin _ (by decide +kernel), codeAny_builtin F.entry_type_call ?_⟩
  rw [Around.under_plain (weight_type_call_type "set" [.ref l] []) rfl]
  repeat any_goals first | assumption | wp_step
  refine codeAny_mono (code_set_led1 (.ref l) (E := E) (Q₁ := fun ob s₁ => ob = .ref s.heap.objs.size ∧ s₁ = { s with heap := s.heap.push (eset w) }) ⟨rfl, rfl⟩) fun r s₁ hr => ?_
  rcases r with e | fl
  · exact hr
  · cases fl with
    | ret ob =>
      obtain ⟨rfl, rfl⟩ := hr
      have hT : Shared.TypeIs { s with heap := s.heap.push (eset w) } (.ref s.heap.objs.size) "set" := ⟨_, Heap.get?_push_size _ rfl, rfl⟩
      have c6 := F.called_set.init.lookup
      have c7 := F.called_set.init.bind (.ref s.heap.objs.size)
      repeat any_goals first | assumption | wp_step
      refine codeAny_mono (codeAny_call_builtin (R := wants (fun r s₂ => r = .none ∧ SetMade w ns s s₂) E) F.called_set.init.plain F.entry_set_init (check_set_init_1 hT ?_)) fun r₂ s₂ hr₂ => ?_
      · exact set_fill (by first | exact hh | simp [hh]) hl hi hb
      · rcases r₂ with e | fl₂
        · exact hr₂
        · cases fl₂ with
          | ret r =>
            obtain ⟨rfl, hm⟩ := hr₂
            repeat any_goals first | assumption | wp_step
            exact h _ hm
          | _ => exact hr₂.elim
    | _ => exact hr.elim
end

/-! ### sorted, without doubles -/
def insU (a : Int) : List Int → List Int
  | [] => [a]
  | b :: bs => if a < b then a :: b :: bs else if a = b then b :: bs else b :: insU a bs
def sortU : List Int → List Int
  | [] => []
  | a :: as => insU a (sortU as)
theorem mem_insU {a k : Int} : ∀ {l : List Int}, k ∈ insU a l ↔ k = a ∨ k ∈ l
  | [] => by simp [insU]
  | b :: bs => by
    rw [insU]
    split
    · simp
    · split
      · rename_i h
        subst h
        simp
      · rw [List.mem_cons, mem_insU (l := bs), List.mem_cons]
        exact ⟨fun h => by rcases h with h | h | h <;> simp [h], fun h => by rcases h with h | h | h <;> simp [h]⟩
theorem insU_lt {a : Int} : ∀ {l : List Int}, l.Pairwise (· < ·) → (insU a l).Pairwise (· < ·)
  | [], _ => by simp [insU]
  | b :: bs, h => by
    obtain ⟨h1, h2⟩ := List.pairwise_cons.mp h
    rw [insU]
    split
    · rename_i hl
      refine List.pairwise_cons.mpr ⟨fun y hy => ?_, h⟩
      rcases List.mem_cons.mp hy with e | e
      · rw [e]; exact hl
      · exact Int.lt_trans hl (h1 y e)
    · split
      · exact h
      · rename_i n1 n2
        refine List.pairwise_cons.mpr ⟨fun y hy => ?_, insU_lt h2⟩
        rcases mem_insU.mp hy with e | e
        · rw [e]; omega
        · exact h1 y e
theorem mem_sortU {k : Int} : ∀ {l : List Int}, k ∈ sortU l ↔ k ∈ l
  | [] => by simp [sortU]
  | a :: as => by rw [sortU, mem_insU, mem_sortU, List.mem_cons]
theorem sortU_lt : ∀ l : List Int, (sortU l).Pairwise (· < ·)
  | [] => by simp [sortU]
  | a :: as => insU_lt (sortU_lt as)
theorem lt_unique : ∀ {l m : List Int}, l.Pairwise (· < ·) → m.Pairwise (· < ·) → (∀ k, k ∈ l ↔ k ∈ m) → l = m
  | [], [], _, _, _ => rfl
  | [], b :: bs, _, _, h => by have := (h b).mpr (by simp); simp at this
  | a :: as, [], _, _, h => by have := (h a).mp (by simp); simp at this
  | a :: as, b :: bs, p, q, h => by
    obtain ⟨p1, p2⟩ := List.pairwise_cons.mp p
    obtain ⟨q1, q2⟩ := List.pairwise_cons.mp q
    have hab : a = b := by
      rcases List.mem_cons.mp ((h a).mp (by simp)) with e | e
      · exact e
      · rcases List.mem_cons.mp ((h b).mpr (by simp)) with e' | e'
        · exact e'.symm
        · have := q1 a e
          have := p1 b e'
          omega
    subst hab
    congr 1
    refine lt_unique p2 q2 fun k => ⟨fun hk => ?_, fun hk => ?_⟩
    · rcases List.mem_cons.mp ((h k).mp (List.mem_cons_of_mem _ hk)) with e | e
      · have := p1 k hk; omega
      · exact e
    · rcases List.mem_cons.mp ((h k).mpr (List.mem_cons_of_mem _ hk)) with e | e
      · have := q1 k hk; omega
      · exact e
theorem nodup_lt {l : List Int} (h : l.Pairwise (· < ·)) : l.Nodup := h.imp fun h => by omega
theorem same_len : ∀ {l m : List Int}, l.Nodup → m.Nodup → (∀ k, k ∈ l ↔ k ∈ m) → l.length = m.length := fun h k e =>
  ((List.perm_ext_iff_of_nodup h k).mpr e).length_eq
theorem setR_count {w : World} {h : Heap} {a : Addr} {ns : List Int} {n : Nat} (R : SetR w h a (fun j => decide (j ∈ ns)) n) : n = (sortU ns).length := by
  obtain ⟨o, es, ep, t, _, _, _, _, nd, hm, _, _, hn, _⟩ := R
  have e : (es.toList.map keyOf).length = (sortU ns).length := same_len nd (nodup_lt (sortU_lt ns)) fun k => by rw [← hm k, mem_sortU, decide_eq_true_eq]
  rw [List.length_map, Array.length_toList] at e
  omega
variable [KK]
section
variable {X : Cx} [ok : OK X] {W : WX} {e : Expr} {φ ψ : En → R Rv} {p p2 pos pos2 : Pos}
def rSetI (w : World) : List V → Hp → VK → Prop := fun vs H Q => ∃ a ns, vs = [.ref a] ∧ (Rl H a (ns.map V.int) ∨ Rd H a (.tup (ns.map V.int))) ∧ ns.length ≤ 4000 ∧ ∀ q, H q = none → Q (.ref q) (upd H q (SetO w q (fun j => decide (j ∈ ns)) (sortU ns).length))
theorem c_set (hc : X.calm = true) : CallR X (.type "set") (rSetI X.w) := by
  intro pins s σ H vs us Q I r h
  obtain ⟨a, ns, rfl, hs, hz, q⟩ := h
  rw [Vals.ref1 r]
  have hb : ns.length + 1 < scanBound := by show _ < 4096; omega
  rcases hs with hs | hs
  · obtain ⟨_, its, n, rv, _, g⟩ := rd_list I hs
    refine set_of_list (ns := ns) (I.ok.hd hc) ⟨_, g, rfl, n, rfl⟩ (by simpa using ints_of_vals rv) hb fun s' hm => ?_
    obtain ⟨h', tk, c, rfl, R, _, k⟩ := hm
    obtain rfl := setR_count R
    exact ⟨.ref _, _, I.laid (t' := tk) k (Nat.le_refl _) (setO_new R), rfl, q _ (I.hok.fresh (Nat.le_refl _))⟩
  · obtain ⟨its, rv, pl, _⟩ := I.tuple (.inl hs)
    refine call_set_tupI ns (I.ok.hd hc) pl (by simpa using ints_of_vals rv) hb fun h' tk c R _ k => ?_
    obtain rfl := setR_count R
    exact ⟨.ref _, _, I.laid (t' := tk) k (Nat.le_refl _) (setO_new R), rfl, q _ (I.hok.fresh (Nat.le_refl _))⟩
theorem c_lenSet : CallR X (.builtin "len") (fun vs H Q => ∃ a S n, vs = [V.ref a] ∧ H a = some (SetO X.w a S n) ∧ Q (.int (n : Nat)) H) := by
  intro pins s σ H vs us Q I r h
  obtain ⟨a, S, n, rfl, ha, q⟩ := h
  rw [Vals.ref1 r]
  obtain ⟨o, es, ep, t, ho, hex, hd, _, _, _, hb, hf, hn, _⟩ := setO_get I ha
  refine call_len_set ho hex hd hf (by have : es.size < 4096 := hb; omega) ?_
  rw [hn]
  exact ⟨.int (n : Nat), H, I.tok _, ⟨_, rfl⟩, q⟩
def intsOf (r : Rv) : R (List Int) := match r.dat with
  | .list ds => match asInts ds with
    | some ns => .ok ns
    | none => .bad
  | .tuple ds => match asInts ds with
    | some ns => .ok ns
    | none => .bad
  | _ => .bad
theorem intsOf_no {r : Rv} {c : Str} : intsOf r ≠ .err c := by
  unfold intsOf
  split
  · split <;> exact fun h => nomatch h
  · split <;> exact fun h => nomatch h
  · exact fun h => nomatch h
theorem intsOf_ok {r : Rv} {ns : List Int} {Hk H : Hp} {σ : Sl} {v : V} (h : intsOf r = .ok ns) (x : Ex Hk H) (d : Den Hk H σ r v) : ∃ a, v = .ref a ∧ (Rl H a (ns.map V.int) ∨ Rd H a (.tup (ns.map V.int))) := by
  unfold intsOf at h
  split at h
  · rename_i ds h1
    split at h
    · rename_i ms h2
      cases h
      obtain ⟨l, xs, rfl, s1, r1⟩ := d.kList x h1
      rw [asInts_eq h2] at r1
      rw [RpAll.ints r1] at s1
      exact ⟨l, rfl, .inl s1⟩
    · cases h
  · rename_i ds h1
    split at h
    · rename_i ms h2
      cases h
      obtain ⟨l, xs, rfl, s1, r1, _⟩ := d.kTuple x h1
      rw [asInts_eq h2] at r1
      rw [RpAll.ints r1] at s1
      exact ⟨l, rfl, .inr s1⟩
    · cases h
  · cases h
def gSS (x : Rv) : R Rv := intsOf x >>= fun ns => if ns.length ≤ 4000 ∧ (sortU ns).length < 64 then .ok (.own ((sortU ns).map PyData.int)) else .bad
def gLS (x : Rv) : R Rv := intsOf x >>= fun ns => if ns.length ≤ 4000 then .ok (.val (.int ((sortU ns).length : Nat))) else .bad
theorem d_ss (hc : X.calm = true) (h : PE X e (te X.K W φ)) (hm : X.mg "sorted" = none) (hm2 : X.mg "set" = none) (hg : Gl X "sorted" := by rfl) (hg2 : Gl X "set" := by rfl) (hs : starEach [e] X.env = (false, eval e X.env) :: starEach [] X.env := by rfl)
    (hs2 : starEach [.Call (.Name "set" p2) [e] [] pos2] X.env = (false, eval (.Call (.Name "set" p2) [e] [] pos2) X.env) :: starEach [] X.env := by rfl) (hpl : (backTo pos (starEach [] X.env)).any (·.1) = false := by rfl) (hpl2 : (backTo pos2 (starEach [] X.env)).any (·.1) = false := by rfl) :
    PE X (.Call (.Name "sorted" p) [.Call (.Name "set" p2) [e] [] pos2] [] pos) (te X.K W (e1 gSS φ)) :=
  pe_imp (pe_callB (cr_sortedSet hc) hg hm boot_sorted (pa_cons (pe_callTy (c_set hc) hg2 hm2 PyProof.Rows.boot_set (pa_cons h pa_nil hs) (by decide) (by decide) hs hpl2) pa_nil hs2) (by decide) (by decide) hs2 hpl) fun σ H Q ⟨Hk0, H0, Hk, ρ, r, p⟩ =>
    te_thenF (g := gSS) r p fun x v Hk' H' g d n r' p' => by
      unfold gSS at p'
      cases q : intsOf x with
      | err c => exact absurd q intsOf_no
      | bad => rw [q] at p'; exact p'.elim
      | ok ns =>
        rw [q] at p'
        have p' : PostE X.K W Hk H σ Q (if ns.length ≤ 4000 ∧ (sortU ns).length < 64 then .ok (.own ((sortU ns).map PyData.int)) else .bad) := p'
        split at p'
        · rename_i hz
          obtain ⟨a, rfl, hs⟩ := intsOf_ok q g.kh d
          refine ⟨a, ns, rfl, hs, hz.1, fun b hb => ⟨b, _, _, rfl, upd_same, hz.2, fun ms l h1 h2 h3 h4 => ?_⟩⟩
          obtain rfl : ms = sortU ns := lt_unique h1 (sortU_lt ns) fun k => by rw [h2 k, mem_sortU, decide_eq_true_eq]
          have g2 := g.trans (Gr.own (o := SetO X.w b (fun j => decide (j ∈ ns)) (sortU ns).length) g.kh hb)
          have g3 := g2.trans (Gr.own (o := .lst ((sortU ns).map V.int)) g2.kh h4)
          exact p' _ Hk' _ g3 ⟨l, rfl, Evl.fresh_back g2.h h4⟩ ⟨l, _, rfl, Evl.fresh_back g2.kh h4, upd_same, RpAll.ofInts _⟩
        · exact p'.elim
theorem d_ls (hc : X.calm = true) (h : PE X e (te X.K W φ)) (hm : X.mg "len" = none) (hm2 : X.mg "set" = none) (hg : Gl X "len" := by rfl) (hg2 : Gl X "set" := by rfl) (hs : starEach [e] X.env = (false, eval e X.env) :: starEach [] X.env := by rfl)
    (hs2 : starEach [.Call (.Name "set" p2) [e] [] pos2] X.env = (false, eval (.Call (.Name "set" p2) [e] [] pos2) X.env) :: starEach [] X.env := by rfl) (hpl : (backTo pos (starEach [] X.env)).any (·.1) = false := by rfl) (hpl2 : (backTo pos2 (starEach [] X.env)).any (·.1) = false := by rfl) :
    PE X (.Call (.Name "len" p) [.Call (.Name "set" p2) [e] [] pos2] [] pos) (te X.K W (e1 gLS φ)) :=
  pe_imp (pe_callB c_lenSet hg hm boot_len (pa_cons (pe_callTy (c_set hc) hg2 hm2 PyProof.Rows.boot_set (pa_cons h pa_nil hs) (by decide) (by decide) hs hpl2) pa_nil hs2) (by decide) (by decide) hs2 hpl) fun σ H Q ⟨Hk0, H0, Hk, ρ, r, p⟩ =>
    te_thenF (g := gLS) r p fun x v Hk' H' g d n r' p' => by
      unfold gLS at p'
      cases q : intsOf x with
      | err c => exact absurd q intsOf_no
      | bad => rw [q] at p'; exact p'.elim
      | ok ns =>
        rw [q] at p'
        have p' : PostE X.K W Hk H σ Q (if ns.length ≤ 4000 then .ok (.val (.int ((sortU ns).length : Nat))) else .bad) := p'
        split at p'
        · rename_i hz
          obtain ⟨a, rfl, hs⟩ := intsOf_ok q g.kh d
          refine ⟨a, ns, rfl, hs, hz, fun b hb => ⟨b, _, _, rfl, upd_same, ?_⟩⟩
          have g2 := g.trans (Gr.own (o := SetO X.w b (fun j => decide (j ∈ ns)) (sortU ns).length) g.kh hb)
          exact p' _ Hk' _ g2 trivial (Rp.int _)
        · exact p'.elim
end
end Py

set_option Elab.async false
set_option linter.all false
set_option maxRecDepth 100000
set_option autoImplicit false
set_option maxHeartbeats 4000000
/-! PyY: sorted(set(..)) of pairs of ints. -/
namespace Py
open PySem L2 PyProof.Rows
open Evl (Ex)
def pLt (p q : Int × Int) : Prop := p.1 < q.1 ∨ (p.1 = q.1 ∧ p.2 < q.2)
instance pLtDec (p q : Int × Int) : Decidable (pLt p q) := inferInstanceAs (Decidable (_ ∨ _))
def insP (a : Int × Int) : List (Int × Int) → List (Int × Int)
  | [] => [a]
  | b :: bs => if pLt a b then a :: b :: bs else if a = b then b :: bs else b :: insP a bs
def sortP : List (Int × Int) → List (Int × Int)
  | [] => []
  | a :: as => insP a (sortP as)
theorem mem_insP {a k : Int × Int} : ∀ {l : List (Int × Int)}, k ∈ insP a l ↔ k = a ∨ k ∈ l
  | [] => by simp [insP]
  | b :: bs => by
    rw [insP]
    split
    · simp
    · split
      · rename_i h
        subst h
        simp
      · rw [List.mem_cons, mem_insP (l := bs), List.mem_cons]
        exact ⟨fun h => by rcases h with h | h | h <;> simp [h], fun h => by rcases h with h | h | h <;> simp [h]⟩
theorem pLt_trans {a b c : Int × Int} (h : pLt a b) (k : pLt b c) : pLt a c := by unfold pLt at *; omega
theorem pLt_irr {a : Int × Int} : ¬ pLt a a := by unfold pLt; omega
theorem pLt_tot {a b : Int × Int} (h : ¬ pLt a b) (k : a ≠ b) : pLt b a := by
  unfold pLt at *
  have : a.1 ≠ b.1 ∨ a.2 ≠ b.2 := by
    by_cases e : a.1 = b.1
    · exact .inr fun z => k (Prod.ext e z)
    · exact .inl e
  omega
theorem insP_lt {a : Int × Int} : ∀ {l : List (Int × Int)}, l.Pairwise pLt → (insP a l).Pairwise pLt
  | [], _ => by simp [insP]
  | b :: bs, h => by
    obtain ⟨h1, h2⟩ := List.pairwise_cons.mp h
    rw [insP]
    split
    · rename_i hl
      refine List.pairwise_cons.mpr ⟨fun y hy => ?_, h⟩
      rcases List.mem_cons.mp hy with e | e
      · rw [e]; exact hl
      · exact pLt_trans hl (h1 y e)
    · split
      · exact h
      · rename_i n1 n2
        refine List.pairwise_cons.mpr ⟨fun y hy => ?_, insP_lt h2⟩
        rcases mem_insP.mp hy with e | e
        · rw [e]; exact pLt_tot n1 n2
        · exact h1 y e
theorem mem_sortP {k : Int × Int} : ∀ {l : List (Int × Int)}, k ∈ sortP l ↔ k ∈ l
  | [] => by simp [sortP]
  | a :: as => by rw [sortP, mem_insP, mem_sortP, List.mem_cons]
theorem sortP_lt : ∀ l : List (Int × Int), (sortP l).Pairwise pLt
  | [] => by simp [sortP]
  | a :: as => insP_lt (sortP_lt as)
theorem ltP_unique : ∀ {l m : List (Int × Int)}, l.Pairwise pLt → m.Pairwise pLt → (∀ k, k ∈ l ↔ k ∈ m) → l = m
  | [], [], _, _, _ => rfl
  | [], b :: bs, _, _, h => by have := (h b).mpr (by simp); simp at this
  | a :: as, [], _, _, h => by have := (h a).mp (by simp); simp at this
  | a :: as, b :: bs, p, q, h => by
    obtain ⟨p1, p2⟩ := List.pairwise_cons.mp p
    obtain ⟨q1, q2⟩ := List.pairwise_cons.mp q
    have hab : a = b := by
      rcases List.mem_cons.mp ((h a).mp (by simp)) with e | e
      · exact e
      · rcases List.mem_cons.mp ((h b).mpr (by simp)) with e' | e'
        · exact e'.symm
        · exact absurd (pLt_trans (q1 a e) (p1 b e')) pLt_irr
    subst hab
    congr 1
    refine ltP_unique p2 q2 fun k => ⟨fun hk => ?_, fun hk => ?_⟩
    · rcases List.mem_cons.mp ((h k).mp (List.mem_cons_of_mem _ hk)) with e | e
      · exact absurd (e ▸ p1 k hk) pLt_irr
      · exact e
    · rcases List.mem_cons.mp ((h k).mpr (List.mem_cons_of_mem _ hk)) with e | e
      · exact absurd (e ▸ q1 k hk) pLt_irr
      · exact e
abbrev prD (p : Int × Int) : PyData := .tuple [.int p.1, .int p.2]
def asPairs : List PyData → Option (List (Int × Int))
  | [] => some []
  | .tuple [.int a, .int b] :: ds => (asPairs ds).map ((a, b) :: ·)
  | _ => none
theorem asPairs_map : ∀ ps : List (Int × Int), asPairs (ps.map prD) = some ps
  | [] => rfl
  | p :: ps => by
    rw [List.map_cons, asPairs, asPairs_map ps]
    rfl
theorem asPairs_eq : ∀ {ds : List PyData} {ps : List (Int × Int)}, asPairs ds = some ps → ds = ps.map prD
  | [], ps, h => by cases h; rfl
  | d :: ds, ps, h => by
    unfold asPairs at h
    split at h
    · rename_i e; exact absurd e (by simp)
    · rename_i a b ds' e
      cases e
      cases q : asPairs ds with
      | none => rw [q] at h; cases h
      | some qs =>
        rw [q] at h
        cases h
        rw [asPairs_eq q]
        rfl
    · cases h
def li2 (p : Int × Int) : List Int := [p.1, p.2]
def p2 (l : List Int) : Int × Int := (l.getD 0 0, l.getD 1 0)
theorem p2_li2 (p : Int × Int) : p2 (li2 p) = p := rfl
def gSP (x : Rv) : R Rv := match x.dat with
  | .list ds => match asPairs ds with
    | some ps => if ps.length < 64 ∧ (∀ p ∈ ps, (0 ≤ p.1 ∧ p.1 < 2000) ∧ 0 ≤ p.2 ∧ p.2 < 2000) then .ok (.own ((sortP ps).map prD)) else .bad
    | none => .bad
  | _ => .bad
theorem code2 (p : Int × Int) : TS.code 2000 (li2 p) = p.1 * 2000 + p.2 := by
  show p.1 * 2000 ^ 1 + (p.2 * 2000 ^ 0 + 0) = _
  omega
variable [KK]
theorem RpAll.pairs {H : Hp} : ∀ {xs : List V} {ps : List (Int × Int)}, RpAll H xs (ps.map prD) → ∃ ks : List (Addr × List Int), xs = ks.map (fun p => V.ref p.1) ∧ ks.map (·.2) = ps.map li2 ∧ ∀ p ∈ ks, Rd H p.1 (.tup (p.2.map V.int))
  | [], [], _ => ⟨[], rfl, rfl, by simp⟩
  | x :: xs, p :: ps, h => by
    cases h with
    | cons a b =>
      obtain ⟨ks, e1, e2, e3⟩ := RpAll.pairs b
      cases a with
      | tup h r =>
        rename_i t ys
        have hy : ys = [V.int p.1, V.int p.2] := RpAll.ints (ns := [p.1, p.2]) r
        subst hy
        refine ⟨(t, li2 p) :: ks, by rw [e1]; rfl, by rw [List.map_cons, e2]; rfl, fun q hq => ?_⟩
        rcases List.mem_cons.mp hq with rfl | hq
        · exact h
        · exact e3 q hq
  | [], p :: ps, h => by cases h
  | x :: xs, [], h => by cases h
theorem rpAll_refs {H : Hp} : ∀ {L : List (Addr × List Int)}, (∀ p ∈ L, Rd H p.1 (.tup (p.2.map V.int)) ∧ ∃ q, p.2 = li2 q) → RpAll H (L.map fun p => V.ref p.1) ((L.map fun p => p2 p.2).map prD)
  | [], _ => .nil
  | p :: L, h => by
    obtain ⟨h1, q, h2⟩ := h p (by simp)
    refine .cons ?_ (rpAll_refs fun r hr => h r (List.mem_cons_of_mem _ hr))
    rw [h2] at h1
    show Rp H (V.ref p.1) (prD (p2 p.2))
    rw [h2]
    exact .tup h1 (.cons (.int _) (.cons (.int _) .nil))
section
variable {X : Cx} [ok : OK X] {W : WX} {e : Expr} {φ ψ : En → R Rv} {p p2 pos pos2 : Pos}
theorem d_sp {k : Nat} (hr : Room k X.A) (hc : X.calm = true) (h : PE X e (te X.K W φ)) (hm : X.mg "sorted" = none) (hm2 : X.mg "set" = none) (hg : Gl X "sorted" := by rfl) (hg2 : Gl X "set" := by rfl) (hs : starEach [e] X.env = (false, eval e X.env) :: starEach [] X.env := by rfl)
    (hs2 : starEach [.Call (.Name "set" p2) [e] [] pos2] X.env = (false, eval (.Call (.Name "set" p2) [e] [] pos2) X.env) :: starEach [] X.env := by rfl) (hpl : (backTo pos (starEach [] X.env)).any (·.1) = false := by rfl) (hpl2 : (backTo pos2 (starEach [] X.env)).any (·.1) = false := by rfl) :
    PE X (.Call (.Name "sorted" p) [.Call (.Name "set" p2) [e] [] pos2] [] pos) (te X.K W (e1 gSP φ)) :=
  pe_imp (pe_callB (cr_sortedT hc) hg hm boot_sorted (pa_cons (pe_callTy (cr_setOfT hc (by have := hr.units; omega)) hg2 hm2 PyProof.Rows.boot_set (pa_cons h pa_nil hs) (by decide) (by decide) hs hpl2) pa_nil hs2) (by decide) (by decide) hs2 hpl) fun σ H Q ⟨Hk0, H0, Hk, ρ, r, p⟩ =>
    te_thenF (g := gSP) r p fun x v Hk' H' g d n r' p' => by
      unfold gSP at p'
      split at p'
      · rename_i ds h1
        split at p'
        · rename_i ps h2
          split at p'
          · rename_i hz
            obtain ⟨hz, hB⟩ := hz
            obtain ⟨a, xs, rfl, s1, r1⟩ := d.kList g.kh h1
            rw [asPairs_eq h2] at r1
            obtain ⟨ks, rfl, e2, e3⟩ := RpAll.pairs r1
            have hl : ks.length = ps.length := by have := congrArg List.length e2; simpa using this
            have sT : ∀ p ∈ ks, Rd H' p.1 (.tup (p.2.map V.int)) := fun p hp => Evl.ex_rd g.kh (e3 p hp)
            have mk : ∀ p ∈ ks, ∃ q ∈ ps, p.2 = li2 q := fun p hp => by
              have : p.2 ∈ ks.map (·.2) := List.mem_map.mpr ⟨p, hp, rfl⟩
              rw [e2] at this
              obtain ⟨q, hq, e⟩ := List.mem_map.mp this
              exact ⟨q, hq, e.symm⟩
            refine ⟨a, ks, rfl, by rw [ok.eq]; exact s1.sqK, fun p hp => .inl (sT p hp), by omega, fun b L hb hsub hall => ⟨b, L, 2, 2000, rfl, upd_same, fun p hp => ?_, by omega, fun p hp => ?_, fun L' l pm nd lt pw hl' => ?_⟩⟩
            · exact .inl (Evl.ex_rd (Gr.own (o := SetTO X.prog X.w b L) g.kh hb).h (sT p (hsub p hp)))
            · obtain ⟨q, hq, e⟩ := mk p (hsub p hp)
              rw [e]
              refine ⟨rfl, fun m hm => ?_⟩
              have := hB q hq
              simp only [li2, List.mem_cons, List.not_mem_nil, or_false] at hm
              omega
            · have mL : ∀ p ∈ L', ∃ q ∈ ps, p.2 = li2 q := fun p hp => mk p (hsub p (pm.mem_iff.mp hp))
              have eq : (L'.map fun p => Py.p2 p.2) = sortP ps := by
                refine ltP_unique ?_ (sortP_lt ps) fun k => ?_
                · rw [List.pairwise_map]
                  have nd' : L'.Pairwise fun q r => q.2 ≠ r.2 := List.pairwise_map.mp nd
                  refine List.Pairwise.imp_of_mem (fun {q r} hq hr h => ?_) (pw.and nd')
                  obtain ⟨q', hq', eq'⟩ := mL q hq
                  obtain ⟨r', hr', er'⟩ := mL r hr
                  obtain ⟨h1, h2⟩ := h
                  rw [eq', er'] at h1 h2
                  rw [eq', er', p2_li2, p2_li2]
                  rw [code2, code2] at h1
                  have b1 := hB q' hq'
                  have b2 := hB r' hr'
                  have ne : q'.1 ≠ r'.1 ∨ q'.2 ≠ r'.2 := by
                    by_cases e : q'.1 = r'.1
                    · exact .inr fun z => h2 (by rw [Prod.ext e z])
                    · exact .inl e
                  unfold pLt
                  omega
                · rw [mem_sortP, List.mem_map]
                  constructor
                  · rintro ⟨p, hp, rfl⟩
                    obtain ⟨q, hq, e⟩ := mL p hp
                    rw [e, p2_li2]
                    exact hq
                  · intro hk
                    have : li2 k ∈ ks.map (·.2) := by rw [e2]; exact List.mem_map.mpr ⟨k, hk, rfl⟩
                    obtain ⟨p, hp, e⟩ := List.mem_map.mp this
                    obtain ⟨q, hq, e'⟩ := List.mem_map.mp (hall p hp)
                    exact ⟨q, pm.mem_iff.mpr hq, by rw [e', e, p2_li2]⟩
              have g2 := g.trans (Gr.own (o := SetTO X.prog X.w b L) g.kh hb)
              have g3 := g2.trans (Gr.own (o := .lst (L'.map fun q => V.ref q.1)) g2.kh hl')
              refine p' _ Hk' _ g3 ⟨l, rfl, Evl.fresh_back g2.h hl'⟩ ⟨l, _, rfl, Evl.fresh_back g2.kh hl', upd_same, ?_⟩
              rw [← eq]
              exact rpAll_refs fun p hp => ⟨e3 p (hsub p (pm.mem_iff.mp hp)), by obtain ⟨q, _, e⟩ := mL p hp; exact ⟨q, e⟩⟩
          · exact p'.elim
        · exact p'.elim
      · exact p'.elim
end
end Py

set_option Elab.async false
set_option linter.all false
set_option maxRecDepth 100000
set_option autoImplicit false
set_option maxHeartbeats 1000000
/-! PyW: the rules as they are named by the printed walks. -/
namespace Py
variable [KK]
open PySem L2
open Evl (Ex)
def eF (φ : En → R Rv) : En → R Rv := fun ρ => φ ρ >>= fun r => .ok (frz r)
section
variable {X : Cx} [ok : OK X] {W : WX} {e e' : Expr} {φ ψ : En → R Rv} {p p2 pos pos2 : Pos} {φs : List (En → R Rv)} {es : List Expr}
theorem d_fz (h : PE X e (te X.K W φ)) : PE X e (te X.K W (eF φ)) := e_frz h
def eNeg (φ : En → R Rv) : En → R Rv := fun ρ => φ ρ >>= fun x => (frz x).toInt >>= fun i => .ok (.val (.int (-i)))
theorem d_neg (h : PE X e (te X.K W φ)) : PE X (.UnaryOp .USub e pos) (te X.K W (eNeg φ)) := pe_imp (pe_un un_neg h) fun σ H Q ⟨Hk0, H0, Hk, ρ, r, p⟩ =>
  te_thenF (g := fun x => x.toInt >>= fun i => .ok (.val (.int (-i)))) r p fun x v Hk' H' g d n r' p' => by
    cases q : x.toInt with
    | err c => exact absurd q toInt_no
    | bad => rw [q] at p'; exact p'.elim
    | ok i => rw [q] at p'; rw [d.int q]; exact ⟨i, rfl, p' _ Hk' H' g trivial (Rp.int _)⟩
theorem b_len : bootBuiltins "len" = some (.builtin "len") := by decide +kernel
theorem b_all : bootBuiltins "all" = some (.builtin "all") := by decide +kernel
theorem b_any : bootBuiltins "any" = some (.builtin "any") := by decide +kernel
theorem b_sum : bootBuiltins "sum" = some (.builtin "sum") := by decide +kernel
theorem b_max : bootBuiltins "max" = some (.builtin "max") := by decide +kernel
theorem b_min : bootBuiltins "min" = some (.builtin "min") := by decide +kernel
theorem b_sorted : bootBuiltins "sorted" = some (.builtin "sorted") := by decide +kernel
theorem b_tuple : bootBuiltins "tuple" = some (.type "tuple") := by decide +kernel
theorem b_list : bootBuiltins "list" = some (.type "list") := by decide +kernel
theorem b_int : bootBuiltins "int" = some (.type "int") := by decide +kernel
theorem b_bool : bootBuiltins "bool" = some (.type "bool") := by decide +kernel
theorem b_str : bootBuiltins "str" = some (.type "str") := by decide +kernel
/-! list(range(..)), tuple(range(..)) -/
def rgOk (i j : Int) : Prop := -(2 ^ 60) ≤ i ∧ i < 2 ^ 60 ∧ -(2 ^ 60) ≤ j ∧ j < 2 ^ 60 ∧ (j - i).toNat ≤ 1000000
instance (i j : Int) : Decidable (rgOk i j) := by unfold rgOk; infer_instance
def gRg (t : Bool) (i j : Int) : R Rv := if rgOk i j then (if t = true then .ok (.val (.tuple (rangeD i (j - i).toNat))) else .ok (.own (rangeD i (j - i).toNat))) else .bad
def eRg1 (t : Bool) (φ : En → R Rv) : En → R Rv := fun ρ => φ ρ >>= fun x => (frz x).toInt >>= fun j => gRg t 0 j
def eRg2 (t : Bool) (φ ψ : En → R Rv) : En → R Rv := fun ρ => φ ρ >>= fun x => ψ ρ >>= fun y => (frz x).toInt >>= fun i => (frz y).toInt >>= fun j => gRg t i j
theorem rgV_rp {Hk : Hp} (i j : Int) : RpAll Hk (rgV i j) (rangeD i (j - i).toNat) := by
  unfold rgV rangeD
  generalize (j - i).toNat = n
  induction n with
  | zero => exact .nil
  | succ n ih =>
    rw [List.range_succ, List.map_append, List.map_append]
    exact RpAll.append ih (.one (.int _))
theorem rgOk_rg {i j : Int} (h : rgOk i j) : RgOk i j := by
  obtain ⟨h1, h2, h3, h4, h5⟩ := h
  exact ⟨by omega, by omega, by omega, by omega, by omega⟩
theorem rg_list {Hk H : Hp} {σ : Sl} {Q : VK} {i j : Int} (x : Ex Hk H) (p : PostE X.K W Hk H σ Q (gRg false i j)) : RgOk i j ∧ ∀ q, H q = none → Q (.ref q) (upd H q (.lst (rgV i j))) := by
  unfold gRg at p
  split at p
  · rename_i h
    exact ⟨rgOk_rg h, own_new x p (rgV_rp i j)⟩
  · exact p.elim
theorem rg_tup {Hk H : Hp} {σ : Sl} {Q : VK} {i j : Int} (x : Ex Hk H) (p : PostE X.K W Hk H σ Q (gRg true i j)) : RgOk i j ∧ ∀ q, H q = none → Q (.ref q) (upd H q (.tup (rgV i j))) := by
  unfold gRg at p
  split at p
  · rename_i h
    exact ⟨rgOk_rg h, tup_new x p (rgV_rp i j)⟩
  · exact p.elim
theorem toInt_then {α : Type} {x : Rv} {g : Int → R α} {C : R α → Prop} (h : C (x.toInt >>= g)) (nb : ¬ C .bad) : ∃ i, x.toInt = .ok i ∧ C (g i) := by
  cases q : x.toInt with
  | err c => exact absurd q toInt_no
  | bad => rw [q] at h; exact absurd h nb
  | ok i => rw [q] at h; exact ⟨i, rfl, h⟩
theorem d_lrg1 (hc : X.calm = true) (h : PE X e (te X.K W φ)) (hm : X.mg "list" = none) (hr : X.mg "range" = none) (hg : Gl X "list" := by rfl) (hg2 : Gl X "range" := by rfl) (na : starEach [e] X.env = (false, eval e X.env) :: starEach [] X.env := by rfl)
    (nb : starEach [.Call (.Name "range" p2) [e] [] pos2] X.env = (false, eval (.Call (.Name "range" p2) [e] [] pos2) X.env) :: starEach [] X.env := by rfl) : PE X (.Call (.Name "list" p) [.Call (.Name "range" p2) [e] [] pos2] [] pos) (te X.K W (eRg1 false φ)) :=
  pe_imp (pe_listRg hc hg hm (prg_1 hg2 hr h na) nb) fun σ H Q ⟨Hk0, H0, Hk, ρ, r, p⟩ =>
    te_thenF (g := fun x => x.toInt >>= fun j => gRg false 0 j) r p fun x v Hk' H' g d n r' p' => by
      obtain ⟨j, q, p2⟩ := toInt_then (C := PostE X.K W Hk H σ Q) p' id
      rw [d.int q]
      exact ⟨j, rfl, rg_list g.kh (PostE.up g p2)⟩
theorem d_trg1 (hc : X.calm = true) (h : PE X e (te X.K W φ)) (hm : X.mg "tuple" = none) (hr : X.mg "range" = none) (hg : Gl X "tuple" := by rfl) (hg2 : Gl X "range" := by rfl) (na : starEach [e] X.env = (false, eval e X.env) :: starEach [] X.env := by rfl)
    (nb : starEach [.Call (.Name "range" p2) [e] [] pos2] X.env = (false, eval (.Call (.Name "range" p2) [e] [] pos2) X.env) :: starEach [] X.env := by rfl) : PE X (.Call (.Name "tuple" p) [.Call (.Name "range" p2) [e] [] pos2] [] pos) (te X.K W (eRg1 true φ)) :=
  pe_imp (pe_tupRg hc hg hm (prg_1 hg2 hr h na) nb) fun σ H Q ⟨Hk0, H0, Hk, ρ, r, p⟩ =>
    te_thenF (g := fun x => x.toInt >>= fun j => gRg true 0 j) r p fun x v Hk' H' g d n r' p' => by
      obtain ⟨j, q, p2⟩ := toInt_then (C := PostE X.K W Hk H σ Q) p' id
      rw [d.int q]
      exact ⟨j, rfl, rg_tup g.kh (PostE.up g p2)⟩
theorem d_lrg2 (hc : X.calm = true) (h : PE X e (te X.K W φ)) (h' : PE X e' (te X.K W ψ)) (hm : X.mg "list" = none) (hr : X.mg "range" = none) (hg : Gl X "list" := by rfl) (hg2 : Gl X "range" := by rfl) (na : starEach [e, e'] X.env = (false, eval e X.env) :: starEach [e'] X.env := by rfl)
    (na2 : starEach [e'] X.env = (false, eval e' X.env) :: starEach [] X.env := by rfl) (hp : (backTo pos2 (starEach [e'] X.env)).any (·.1) = false := by rfl)
    (nb : starEach [.Call (.Name "range" p2) [e, e'] [] pos2] X.env = (false, eval (.Call (.Name "range" p2) [e, e'] [] pos2) X.env) :: starEach [] X.env := by rfl) : PE X (.Call (.Name "list" p) [.Call (.Name "range" p2) [e, e'] [] pos2] [] pos) (te X.K W (eRg2 false φ ψ)) :=
  pe_imp (pe_listRg hc hg hm (prg_2 hg2 hr h h' na na2 hp) nb) fun σ H Q ⟨Hk0, H0, Hk, ρ, r, p⟩ =>
    te_thenF (g := fun x => ψ ρ >>= fun y => x.toInt >>= fun i => (frz y).toInt >>= fun j => gRg false i j) r p fun x v Hk1 H1 g1 d1 n1 r1 p1 =>
      te_thenF (g := fun y => x.toInt >>= fun i => y.toInt >>= fun j => gRg false i j) r1 (PostE.up g1 p1) fun y u Hk' H' g d n r' p' => by
        obtain ⟨i, q1, p2⟩ := toInt_then (C := PostE X.K W Hk1 H1 σ Q) p' id
        obtain ⟨j, q2, p3⟩ := toInt_then (C := PostE X.K W Hk1 H1 σ Q) p2 id
        rw [d1.int q1, d.int q2]
        exact ⟨i, j, rfl, rfl, rg_list g.kh (PostE.up g p3)⟩
theorem d_trg2 (hc : X.calm = true) (h : PE X e (te X.K W φ)) (h' : PE X e' (te X.K W ψ)) (hm : X.mg "tuple" = none) (hr : X.mg "range" = none) (hg : Gl X "tuple" := by rfl) (hg2 : Gl X "range" := by rfl) (na : starEach [e, e'] X.env = (false, eval e X.env) :: starEach [e'] X.env := by rfl)
    (na2 : starEach [e'] X.env = (false, eval e' X.env) :: starEach [] X.env := by rfl) (hp : (backTo pos2 (starEach [e'] X.env)).any (·.1) = false := by rfl)
    (nb : starEach [.Call (.Name "range" p2) [e, e'] [] pos2] X.env = (false, eval (.Call (.Name "range" p2) [e, e'] [] pos2) X.env) :: starEach [] X.env := by rfl) : PE X (.Call (.Name "tuple" p) [.Call (.Name "range" p2) [e, e'] [] pos2] [] pos) (te X.K W (eRg2 true φ ψ)) :=
  pe_imp (pe_tupRg hc hg hm (prg_2 hg2 hr h h' na na2 hp) nb) fun σ H Q ⟨Hk0, H0, Hk, ρ, r, p⟩ =>
    te_thenF (g := fun x => ψ ρ >>= fun y => x.toInt >>= fun i => (frz y).toInt >>= fun j => gRg true i j) r p fun x v Hk1 H1 g1 d1 n1 r1 p1 =>
      te_thenF (g := fun y => x.toInt >>= fun i => y.toInt >>= fun j => gRg true i j) r1 (PostE.up g1 p1) fun y u Hk' H' g d n r' p' => by
        obtain ⟨i, q1, p2⟩ := toInt_then (C := PostE X.K W Hk1 H1 σ Q) p' id
        obtain ⟨j, q2, p3⟩ := toInt_then (C := PostE X.K W Hk1 H1 σ Q) p2 id
        rw [d1.int q1, d.int q2]
        exact ⟨i, j, rfl, rfl, rg_tup g.kh (PostE.up g p3)⟩
end
/-! defs by name -/
def FOk (K : PySem.W.Frag) (P : Program) (w : World) (mg : Str → Option Value) (base : Heap) (k : Nat) (x : Str) (n : Nat) (G : List PyData → R Cr) : Prop :=
  ∃ (f : Addr) (fd : FuncData) (ps : List Str), mg x = some (.ref f) ∧ PySem.W.keepIn K (.ref f) = true ∧ Binds K fd ps [] ∧ FnOk P w K mg base (L2.CX P w) k f fd ps (spF K n G)
section
variable {X : Cx} [ok : OK X] {W : WX} {e : Expr} {es : List Expr} {φs : List (En → R Rv)} {x : Str} {p pos : Pos} {k j n : Nat} {G : List PyData → R Cr}
theorem d_fn (F : FOk X.K X.prog X.w X.mg X.base j x n G) (hr : Room k X.A) (hj : j ≤ k) (tk : Takes X W) (ha : PA X (e :: es) (ta X.K W φs)) (hn : φs.length = n := by rfl) (hg : Gl X x := by rfl) (hdb : (x == ("__debug__" : Str)) = false := by decide)
    (he : starEach (e :: es) X.env = (false, eval e X.env) :: starEach es X.env := by rfl) (hpl : (backTo pos (starEach es X.env)).any (·.1) = false := by rfl) : PE X (.Call (.Name x p) (e :: es) [] pos) (te X.K W (eCall G φs)) := by
  obtain ⟨f, fd, ps, hm, hk, hb, H⟩ := F
  exact d_call H (hr.mono hj) hm hk hb tk ha hn hg hdb he hpl
end
section
variable {P : Program} {w : World} {mg : Str → Option Value} {base : Heap} {x nm qual : Str} {params : Arguments} {body : List Stmt} {scope : Scope} {f : Addr} {fd : FuncData} {N ps : List Str} {k n : Nat} {Φ : En → R Out}
theorem fok (hm : mg x = some (.ref f)) (F : FunD KK.K nm qual params body scope [] [] f fd) (S : FnScope N ps scope) (hn : ps.length = n)
    (hb : ∀ (kV doc pm : Value) (an : Option Addr) (cdv ct : Value) (us : List Value), us.length = ps.length → bindArgs (PySem.W.fnOf nm qual params body scope .none kV doc pm an cdv ct) ⟨us, []⟩ = pure (ps.zip us))
    (hbody : ∀ (cdv : Value) (A : Around) (outer : List Env) (s : Shared) (H : Hp) (E : XK), Room k (A.deeper (PyProof.Rows.envOfC qual scope s.heap.objs.size f cdv)) →
      PSs (cxOf (L2.CX P w) P w KK.K mg base N qual scope f cdv A outer s H E) body (ts KK.K (fun cls d _ H => E cls d H) Φ)) :
    FOk KK.K P w mg base (k + 1) x n (fnR N.length Φ) := ⟨f, fd, ps, hm, F.kp, F.bindsN hb, by rw [← hn]; exact fn_ok F S hbody⟩
end
theorem frz_read {K : PySem.W.Frag} {W : WX} {φ : En → R Rv} {σ : Sl} {H : Hp} {Q : VK} (h : te K W (eF φ) σ H Q) : te K W φ σ H Q := by
  obtain ⟨Hk0, H0, Hk, ρ, r, p⟩ := h
  refine te_then r p fun x v Hk' H' g n d r' p' => ?_
  cases x with
  | val d' => exact p' v Hk' H' g trivial d
  | own ds =>
    obtain ⟨q, xs, a, b, c, f⟩ := d
    obtain ⟨q', a', b'⟩ := n
    subst a
    cases a'
    exact p' _ _ H' (g.frz b' c b) trivial (Rp.lst (.inl (.inl upd_same)) (RpAll.up (Ex.new b) f))
  | bor i ds => exact p' v Hk' H' g trivial d
section
variable {X : Cx} [OK X] {W : WX} {φ : En → R Rv} {pos : Pos}
theorem s_lcV {y : Str} {py : Pos} {elt tgt iter : Expr} {ifs : List Expr} {scope : Scope} {own : List (Str × Nat)} {spos : Pos} {ι : En → R (Bool × List PyData)} {τ : Pat} {T : En → R Bool} (i : Nat) (hc : X.calm = true) (hN : X.N.Nodup)
    (ok : BlkOk X.N X.env.scope scope own) (hi : PI X tgt iter (ti X.K W ι))
    (hg : ∀ (s : Shared) (H : Hp) (C : Addr) (cl : List (Str × Addr)) (fp : List Addr), PG (X.blk s H scope (compEnvC scope cl C X.env) fp) tgt (tg τ))
    (ht : ∀ (s : Shared) (H : Hp) (C : Addr) (cl : List (Str × Addr)) (fp : List Addr), PTs (X.blk s H scope (compEnvC scope cl C X.env) fp) ifs (tt X.K W0 T))
    (he : ∀ (s : Shared) (H : Hp) (C : Addr) (cl : List (Str × Addr)) (fp : List Addr), PE (X.blk s H scope (compEnvC scope cl C X.env) fp) elt (te X.K W0 φ))
    (hsw : swapsWith (.ListComp elt [⟨tgt, iter, ifs, 0⟩] scope pos) (some (.Name y py)) spos.line X.env = pure true)
    (hy : X.N[i]? = some y := by rfl) (hyl : X.env.scope.names.lookup y = some .local := by rfl)
    (hv : ∀ i ∈ slots τ, i ∈ own.map (·.2) := by decide) (hs : ∀ x, foldedSetIterable iter X.env x = pure x := by intro _; rfl) :
    PS X (.Assign [.Name y py] (.ListComp elt [⟨tgt, iter, ifs, 0⟩] scope pos) spos) (ts X.K W (sSet i (eF (eLc ι τ T φ (own.map (·.2)))))) :=
  ps_imp (ps_setLc hc hN hy hyl hsw hi ok hg ht he hs) fun D σ H h => lc_read hv (frz_read (set_read h))
end
end Py

set_option Elab.async false
set_option linter.all false
set_option maxRecDepth 100000
set_option autoImplicit false
set_option maxHeartbeats 4000000
/-! PyM: count, index, [::-1], enumerate, three at once. -/
namespace Py
variable [KK]
open PySem L2
open Evl (Ex)
def Rv.lst (r : Rv) : R (List PyData) := match r.dat with
  | .list ds => .ok ds
  | _ => .bad
theorem lst_ok {r : Rv} {ds : List PyData} (h : r.lst = .ok ds) : r.dat = .list ds := by
  unfold Rv.lst at h
  split at h
  · cases h; assumption
  · cases h
theorem lst_no {r : Rv} {c : Str} : r.lst ≠ .err c := by
  unfold Rv.lst
  split <;> exact fun h => nomatch h
/-- a method of a list with one argument -/
def eM (g : List PyData → Rv → R Rv) (φ ψ : En → R Rv) : En → R Rv := fun ρ => φ ρ >>= fun x => (frz x).lst >>= fun ds => ψ ρ >>= fun y => g ds (frz y)
def gCount (ds : List PyData) (b : Rv) : R Rv := if min (PyData.depthAll ds) b.dat.depth ≤ 60 then .ok (.val (.int (ds.countP (fun y => PyData.eqv y b.dat) : Nat))) else .bad
def gIndex (ds : List PyData) (b : Rv) : R Rv := if min (PyData.depthAll ds) b.dat.depth ≤ 60 ∧ ds.length ≤ 1000000 then (match ds.findIdx? (fun y => PyData.eqv y b.dat) with
  | some j => .ok (.val (.int (j : Nat)))
  | none => .bad) else .bad
def rM (K : PySem.W.Frag) (W : WX) (g : List PyData → Rv → R Rv) : V → List V → Hp → VK → Prop := fun x vs H Q => ∃ Hk σ a ds b v, Ex Hk H ∧ Den Hk H σ a x ∧ a.dat = .list ds ∧ vs = [v] ∧ Den Hk H σ b v ∧ PostE K W Hk H σ Q (g ds b)
section
variable {X : Cx} [ok : OK X] {W : WX} {o e : Expr} {φ ψ : En → R Rv}
theorem rl_ty {H : Hp} {a : Addr} {xs : List V} (h : Rl H a xs) : tyV X.K "list" (.ref a) H := .inl ⟨rfl, xs, h.sq⟩
theorem mt_count {k : Nat} (hr : Room k X.A) : MtM X "list.count" (rM X.K W gCount) := by
  intro pins s σ' H x vs v us Q I rx rv h
  obtain ⟨Hk, σ, a, ds, b, y, ex, da, hd, rfl, db, p⟩ := h
  obtain ⟨u, rfl, ru⟩ := rv.one
  obtain ⟨l, xs, rfl, s1, r1⟩ := da.kList ex hd
  cases rx
  obtain ⟨_, its, n, rz, _, g⟩ := rd_list I s1
  obtain ⟨as, ra⟩ := readsAll_of I ex r1 rz
  obtain ⟨bs, rb⟩ := den_reads I ex db ru
  unfold gCount at p
  split at p
  · rename_i hdp
    exact SeqAt.count_list_data ⟨_, g, rfl, n, rfl⟩ ra rb (RpAll.plain r1) (den_plain ex db) (units61 hr hdp) ⟨.int _, H, I.tok _, ⟨_, rfl⟩, p _ Hk H (Gr.refl ex) trivial (Rp.int _)⟩
  · exact p.elim
theorem mt_indexU (hu : X.A.units + 64 < cLine) : MtM X "list.index" (rM X.K W gIndex) := by
  intro pins s σ' H x vs v us Q I rx rv h
  obtain ⟨Hk, σ, a, ds, b, y, ex, da, hd, rfl, db, p⟩ := h
  obtain ⟨u, rfl, ru⟩ := rv.one
  obtain ⟨l, xs, rfl, s1, r1⟩ := da.kList ex hd
  cases rx
  obtain ⟨_, its, n, rz, _, g⟩ := rd_list I s1
  obtain ⟨as, ra⟩ := readsAll_of I ex r1 rz
  obtain ⟨bs, rb⟩ := den_reads I ex db ru
  unfold gIndex at p
  split at p
  · rename_i hdp
    split at p
    · rename_i j hj
      obtain ⟨hjl, h1, h2⟩ := SeqAt.hit_at ra (RpAll.plain r1) hj
      have hlen := SeqAt.len_at ra
      exact call_meets PySem.F.slot_list_index ⟨_, g, rfl⟩ PySem.F.entry_list_index (PySem.F.args_list_index_2 _ _) (SeqAt.list_indexAt l its.toArray n none #[] u _ j hjl (by omega) h1 h2)
        ⟨g, SeqAt.items_plain ra rb (RpAll.plain r1) (den_plain ex db) (by have := hdp.1; omega), .int _, H, I.tok _, ⟨_, rfl⟩, p _ Hk H (Gr.refl ex) trivial (Rp.int _)⟩
    · exact p.elim
  · exact p.elim
theorem mt_index {k : Nat} (hr : Room k X.A) : MtM X "list.index" (rM X.K W gIndex) := mt_indexU hr.units
theorem d_meth {name : Str} {id : String} {g : List PyData → Rv → R Rv} {ap cp : Pos} (hmt : MtM X id (rM X.K W g)) (slot : Slot "list" name id) (hty : typeOf (.builtin id) = pure (.type "method_descriptor")) (ho : PE X o (te X.K W φ)) (he : PE X e (te X.K W ψ))
    (hbase : attributeBase o name X.env (eval o X.env) = eval o X.env := by rfl)
    (hfew : ((backTo cp (starEach [e] X.env)).all (fun x => !x.1) && (backToKw cp (keywordEach [] X.env)).all (fun x => x.1.isSome) && decide ([e].length + ([] : List Keyword).length + (if ([] : List Keyword).isEmpty then 0 else 1) < 30)) = true := by rfl)
    (hline : (ap.endLine == cp.line) = true := by rfl) (hs : starEach [e] X.env = (false, eval e X.env) :: starEach [] X.env := by rfl) : PE X (.Call (.Attribute o name ap) [e] [] cp) (te X.K W (eM g φ ψ)) :=
  pe_imp (pe_bm PySem.F.plainAttrs_list slot hty hmt ho (pa_cons he pa_nil hs) hbase hfew hline hs) fun σ H Q ⟨Hk0, H0, Hk, ρ, r, p⟩ =>
    te_thenF (g := fun x => x.lst >>= fun ds => ψ ρ >>= fun y => g ds (frz y)) r p fun x v Hk1 H1 g1 d1 n1 r1 p1 => by
      cases q : x.lst with
      | err c => exact absurd q lst_no
      | bad => rw [q] at p1; exact p1.elim
      | ok ds =>
        rw [q] at p1
        have hd := lst_ok q
        obtain ⟨l, xs, rfl, s1, _⟩ := d1.kList g1.kh hd
        refine ⟨rl_ty s1, te_thenF (g := fun y => g ds y) r1 (PostE.up g1 p1) fun y u Hk2 H2 g2 d2 n2 r2 p2 => ?_⟩
        exact ⟨Hk2, σ, x, ds, y, u, g2.kh, Den.up g2 d1, hd, rfl, d2, PostE.up g2 p2⟩
theorem d_count {ap cp : Pos} {k : Nat} (hr : Room k X.A) (ho : PE X o (te X.K W φ)) (he : PE X e (te X.K W ψ)) (hbase : attributeBase o "count" X.env (eval o X.env) = eval o X.env := by rfl)
    (hfew : ((backTo cp (starEach [e] X.env)).all (fun x => !x.1) && (backToKw cp (keywordEach [] X.env)).all (fun x => x.1.isSome) && decide ([e].length + ([] : List Keyword).length + (if ([] : List Keyword).isEmpty then 0 else 1) < 30)) = true := by rfl)
    (hline : (ap.endLine == cp.line) = true := by rfl) (hs : starEach [e] X.env = (false, eval e X.env) :: starEach [] X.env := by rfl) : PE X (.Call (.Attribute o "count" ap) [e] [] cp) (te X.K W (eM gCount φ ψ)) :=
  d_meth (mt_count hr) PySem.F.slot_list_count PySem.F.type_list_count ho he hbase hfew hline hs
theorem d_index {ap cp : Pos} {k : Nat} (hr : Room k X.A) (ho : PE X o (te X.K W φ)) (he : PE X e (te X.K W ψ)) (hbase : attributeBase o "index" X.env (eval o X.env) = eval o X.env := by rfl)
    (hfew : ((backTo cp (starEach [e] X.env)).all (fun x => !x.1) && (backToKw cp (keywordEach [] X.env)).all (fun x => x.1.isSome) && decide ([e].length + ([] : List Keyword).length + (if ([] : List Keyword).isEmpty then 0 else 1) < 30)) = true := by rfl)
    (hline : (ap.endLine == cp.line) = true := by rfl) (hs : starEach [e] X.env = (false, eval e X.env) :: starEach [] X.env := by rfl) : PE X (.Call (.Attribute o "index" ap) [e] [] cp) (te X.K W (eM gIndex φ ψ)) :=
  d_meth (mt_index hr) PySem.F.slot_list_index PySem.F.type_list_index ho he hbase hfew hline hs
theorem d_indexU {ap cp : Pos} (hu : X.A.units + 64 < cLine) (ho : PE X o (te X.K W φ)) (he : PE X e (te X.K W ψ)) (hbase : attributeBase o "index" X.env (eval o X.env) = eval o X.env := by rfl)
    (hfew : ((backTo cp (starEach [e] X.env)).all (fun x => !x.1) && (backToKw cp (keywordEach [] X.env)).all (fun x => x.1.isSome) && decide ([e].length + ([] : List Keyword).length + (if ([] : List Keyword).isEmpty then 0 else 1) < 30)) = true := by rfl)
    (hline : (ap.endLine == cp.line) = true := by rfl) (hs : starEach [e] X.env = (false, eval e X.env) :: starEach [] X.env := by rfl) : PE X (.Call (.Attribute o "index" ap) [e] [] cp) (te X.K W (eM gIndex φ ψ)) :=
  d_meth (mt_indexU hu) PySem.F.slot_list_index PySem.F.type_list_index ho he hbase hfew hline hs
end
/-! enumerate -/
def enD (i : Nat) : List PyData → List PyData
  | [] => []
  | d :: ds => .tuple [.int (i : Nat), d] :: enD (i + 1) ds
theorem enD_len : ∀ (i : Nat) (ds : List PyData), (enD i ds).length = ds.length
  | _, [] => rfl
  | i, d :: ds => by rw [enD, List.length_cons, enD_len (i + 1) ds, List.length_cons]
theorem enD_get : ∀ {ds : List PyData} {i k : Nat} {d : PyData}, (enD k ds)[i]? = some d → ∃ e, ds[i]? = some e ∧ d = .tuple [.int ((k + i : Nat) : Int), e]
  | [], _, _, _, h => by simp [enD] at h
  | a :: as, 0, k, d, h => by simp [enD] at h; exact ⟨a, rfl, by rw [← h]; simp⟩
  | a :: as, i + 1, k, d, h => by
    obtain ⟨e, h1, h2⟩ := enD_get (ds := as) (i := i) (k := k + 1) (d := d) (by simpa [enD] using h)
    exact ⟨e, by simpa using h1, by rw [h2, show k + 1 + i = k + (i + 1) by omega]⟩
set_option maxHeartbeats 2000000 in
theorem meets_en1 {v : Value} {o : Obj} {H : Heap → Prop} (B : Begins v o H) :
    Meets (Builtin.«enumerate.__new__» ⟨[.type "enumerate", v], []⟩) (fun _ R s => H s.heap ∧
      R (.ok (.ret (.ref (s.heap.push o).objs.size))) { s with heap := (s.heap.push o).push { cls := .type "enumerate", data := .fields #[.none, .bool false, .ref s.heap.objs.size, rawInt 0, .none, .none] } }) :=
  .of_wp fun prog w A R s h => by
    obtain ⟨hp, g, d, tk, os⟩ := s; obtain ⟨h1, h⟩ := h
    have hsub := sub_enumerate
    have q1 : ∀ {A' : Around} {E : Value → Shared → Prop} {Q : Value → Shared → Prop}, Q (.ref hp.objs.size) ⟨hp.push o, g, d, tk, os⟩ → wpAny (model prog w) A' (pyIter v) Q E ⟨hp, g, d, tk, os⟩ :=
      fun q => B.iter prog w _ _ ⟨hp, g, d, tk, os⟩ _ h1 q
    wp_walk using q1
    refine wpAny_stack_any fun st => wpAny_pure ?_
    split
    · rename_i c _ _ _ _ _
      cases (c == Value.type "enumerate")
      · wp_walk using q1
        exact ⟨_, rfl, h⟩
      · wp_walk using q1
        exact ⟨_, rfl, h⟩
    · wp_walk using q1
      exact ⟨_, rfl, h⟩
theorem en_begins {prog : Program} {w : World} {A : Around} {E : Value → Shared → Prop} {s : Shared} {v : Value} {o : Obj} {H : Heap → Prop} {Q : Value → Shared → Prop} (B : Begins v o H) (h1 : H s.heap)
    (h : ∀ h', IsEnum h' (s.heap.objs.size + 1) s.heap.objs.size 0 .none → h'.get? s.heap.objs.size = some o → h'.objs.size = s.heap.objs.size + 2 →
      (∀ b o, s.heap.get? b = some o → h'.get? b = some o) → Q (.ref (s.heap.objs.size + 1)) { s with heap := h' }) :
    wpAny (model prog w) A (call (.type "enumerate") [v]) Q E s := by
  refine callType_new F.called_enumerate (by decide) (F.typeCall_enumerate_1 _) (F.newCall_enumerate_1 _) (fun obj => F.args_object_init_2 obj _) F.entry_enumerate_new
    (meets_en1 B) ⟨h1, ?_⟩
  have hz : (s.heap.push o).objs.size = s.heap.objs.size + 1 := Heap.size_push ..
  show _ ∧ _
  rw [hz]
  have he : IsEnum ((s.heap.push o).push { cls := .type "enumerate", data := .fields #[.none, .bool false, .ref s.heap.objs.size, rawInt 0, .none, .none] }) (s.heap.objs.size + 1) s.heap.objs.size 0 .none := by
    have := Heap.get?_push_size (s.heap.push o) (o := { cls := .type "enumerate", data := .fields #[.none, .bool false, .ref s.heap.objs.size, rawInt 0, .none, .none] }) rfl
    rw [hz] at this; exact this
  refine ⟨⟨_, he, rfl⟩, h _ he (Heap.get?_push_of_some _ (Heap.get?_push_size _ B.free)) (by rw [Heap.size_push, hz]) fun b o x => Heap.get?_push_of_some _ (Heap.get?_push_of_some _ x)⟩
def Jen (t : Bool) (a : Addr) (xs : List V) : It :=
  ⟨fun i H => SR t H a xs ∧ i < xs.length, fun i H v H' => ∃ T x, v = .ref T ∧ H T = none ∧ H' = upd H T (.tup [.int (i : Nat), x]) ∧ xs[i]? = some x, fun i H => SR t H a xs ∧ i = xs.length⟩
theorem turn_en {P : Program} {w : World} {K : PySem.W.Frag} (hKK : K = KK.K) {elts : List Expr} {kk : Nat} {tpos : Pos} {t : Bool} {a e it : Addr} {xs : List V} (hei : e ≠ it) (hea : e ≠ a) (hai : a ≠ it) :
    Turn P w K (.Tuple elts kk tpos) (Jen t a xs) [e, it] e (fun i h => (∃ old, IsEnum h e it (0 + (i : Int)) old) ∧ sIt t h it a i) where
  mem := List.mem_cons_self
  obj := fun i h st c hc => by
    obtain ⟨⟨old, he⟩, s1⟩ := st
    simp only [List.mem_cons, List.not_mem_nil, or_false] at hc
    rcases hc with rfl | rfl
    · exact ⟨_, he, fun v q => nomatch q⟩
    · exact sIt_obj s1
  keep := fun i h h' st k => by
    obtain ⟨⟨old, he⟩, s1⟩ := st
    exact ⟨⟨old, k e (by simp) _ he⟩, sIt_at s1 fun o q => k it (by simp) o q⟩
  item := by
    intro X hP hw hK hc i pins s σ H E I hf st hg
    subst hP hw hK
    haveI : OK X := ⟨hKK⟩
    obtain ⟨he, s1⟩ := st
    obtain ⟨g1, hlt⟩ := hg
    obtain ⟨its, rv, is1, _⟩ := SR.is I g1
    have hh := I.ok.hd hc
    have l1 : its.toArray.size = xs.length := by rw [List.size_toArray, rv.length]
    have hnf : e ∉ [it, a] := by simp [hei, hea]
    refine (GoesN.enumFrom 0 (draws_s (A := X.A.in1) t hh it a hai its.toArray) e hei hnf List.mem_cons_self).goes i s _ E (by rw [l1]; exact hlt) ⟨he, ⟨s1, is1⟩⟩ fun v h' tk hY st' hk _ => ?_
    obtain ⟨T, tk', u, rfl, hnew, hu, hT⟩ := hY
    obtain ⟨u', e', ru⟩ := rv.get (List.getElem?_eq_getElem hlt)
    have q1 : its[i]? = some u := by simpa using hu
    rw [q1] at e'
    cases e'
    rw [Int.zero_add] at hT
    have new : ObjOk X.prog X.w (upd H T (.tup [.int (i : Nat), xs[i]])) h' T (.tup [.int (i : Nat), xs[i]]) := ⟨by show 2 ≤ sizeLine; decide, [.int i tk', u], .cons ⟨_, rfl⟩ (.cons ru .nil), hT⟩
    have I1 := I.turnedNew (t' := tk) (ch := [e, it]) (fun c o hb q => hk c o hb q) hf hnew new
    obtain ⟨z1, z2, _⟩ := st'
    refine ⟨.ref T, _, I1, rfl, ⟨T, xs[i], rfl, I.hok.fresh hnew, rfl, List.getElem?_eq_getElem hlt⟩, ⟨z1, z2⟩, fun c hcm => ?_⟩
    have hlt : c < s.heap.objs.size := by
      obtain ⟨old, he⟩ := he
      simp only [List.mem_cons, List.not_mem_nil, or_false] at hcm
      rcases hcm with rfl | rfl
      · exact Heap.lt_size he
      · obtain ⟨_, e, _⟩ := sIt_obj s1; exact Heap.lt_size e
    rw [upd_ne (Nat.ne_of_lt (Nat.lt_of_lt_of_le hlt hnew))]
    exact (hf c hcm).1
  done := by
    intro X hP hw hK hc i pins s σ H E I hf st hg
    subst hP hw hK
    haveI : OK X := ⟨hKK⟩
    obtain ⟨he, s1⟩ := st
    obtain ⟨g1, hlt⟩ := hg
    obtain ⟨its, rv, is1, _⟩ := SR.is I g1
    have hh := I.ok.hd hc
    have l1 : its.toArray.size = xs.length := by rw [List.size_toArray, rv.length]
    rw [← l1] at hlt
    subst hlt
    have hnf : e ∉ [it, a] := by simp [hei, hea]
    refine (GoesN.enumFrom (elts := elts) (x1 := kk) (pos := tpos) 0 (draws_s (A := X.A.in1) t hh it a hai its.toArray) e hei hnf List.mem_cons_self).stops s _ E ⟨he, ⟨s1, is1⟩⟩ fun h' tk hk _ => ?_
    exact I.turnedL (t' := tk) (ch := [e, it]) (fun c o hb q => hk c o hb q) hf
  self := fun A i s Q E st h => let ⟨⟨_, he⟩, _⟩ := st; wpAny_pyIter_enum he h
theorem jen_ok {t : Bool} {a : Addr} {xs : List V} {ds : List PyData} {Hk1 : Hp} (h : RpAll Hk1 xs ds) : ItOk (Jen t a xs) (enD 0 ds) Hk1 (fun H => SR t H a xs) where
  go := fun i H hs hi => ⟨hs, by rw [enD_len, ← RpAll.length h] at hi; exact hi⟩
  stop := fun i H hs hi => ⟨hs, by rw [enD_len, ← RpAll.length h] at hi; exact hi⟩
  yld := fun i H Hk x H' hs e1 e2 y d hd => by
    obtain ⟨T, x1, rfl, hT, rfl, f1⟩ := y
    obtain ⟨e, h1, rfl⟩ := enD_get hd
    obtain ⟨v, hv, rv⟩ := RpAll.get h h1
    rw [hv] at f1
    obtain rfl := Option.some.inj f1
    have n := Ex.new (o := .tup [.int (i : Nat), v]) (Evl.fresh_back e2 hT)
    rw [Nat.zero_add]
    exact ⟨_, Gr.new e2 hT, .tup (.inl upd_same) (.cons (.int _) (.cons (Rp.up n (Rp.up e1 rv)) .nil))⟩
  mono := fun _ _ e h => h.up e
def rEn (ta : TA) : TI := fun σ H R => ta σ H fun vs H1 => ∃ t a xs, vs = [.ref a] ∧ SR t H1 a xs ∧ R (Jen t a xs) H1
theorem pi_en {X : Cx} [ok : OK X] {e : Expr} {ta : TA} {p pos tpos : Pos} {elts : List Expr} {kk : Nat} (hg : Gl X "enumerate") (hm : X.mg "enumerate" = none) (ha : PA X [e] ta)
    (hs : starEach [e] X.env = [(false, eval e X.env)]) : PI X (.Tuple elts kk tpos) (.Call (.Name "enumerate" p) [e] [] pos) (rEn ta) := by
  refine ⟨fun pins s σ H R I h => ?_⟩
  refine PyProof.Rows.Call_ (ld_blt I hg hm PyProof.Rows.boot_enumerate (PyProof.Rows.callWith_type1 (thn (ha.run pos pins s σ H _ I h) fun us s1 ⟨vs, H1, I1, r1, q1⟩ => ?_) hs rfl))
  obtain ⟨t, a, xs, ex, hq, q⟩ := q1
  subst ex
  cases r1 with
  | cons r rr =>
    cases rr
    cases r
    obtain ⟨its, rv, is1, la⟩ := SR.is I1 hq
    refine en_begins (begins_s t a its.toArray) is1 fun h' he hit hsz hk => wpAny_pyIter_enum he ?_
    have I2 : Inv X pins σ H1 { s1 with heap := h' } := I1.kept (t' := s1.toks) hk
    refine ⟨s1.heap.objs.size + 1, [s1.heap.objs.size + 1, s1.heap.objs.size], _, _, H1, rfl, I2, turn_en ok.eq (a := a) (e := s1.heap.objs.size + 1) (it := s1.heap.objs.size) (Nat.succ_ne_self _) (Nat.ne_of_gt (Nat.lt_succ_of_lt la)) (Nat.ne_of_lt la), ⟨⟨.none, he⟩, sIt_zero hit⟩, fun b hb => ?_, q⟩
    have hle : s1.heap.objs.size ≤ b := ge_of_mem (l := [1, 0]) hb
    exact I1.fpOk hle (I1.hok.fresh hle)
def enOf (x : Rv) : R (Bool × List PyData) := seqOf x >>= fun a => .ok (a.1, enD 0 a.2)
def iEn (φ : En → R Rv) : En → R (Bool × List PyData) := fun ρ => φ ρ >>= fun x => enOf (frz x)
section
variable {X : Cx} [ok : OK X] {W : WX} {e : Expr} {φ ψ χ : En → R Rv} {p pos tpos : Pos} {elts : List Expr} {kk : Nat}
theorem w_en (h : PE X e (te X.K W φ)) (hm : X.mg "enumerate" = none) (hg : Gl X "enumerate" := by rfl) (hs : starEach [e] X.env = [(false, eval e X.env)] := by rfl) : PI X (.Tuple elts kk tpos) (.Call (.Name "enumerate" p) [e] [] pos) (ti X.K W (iEn φ)) :=
  pi_imp (pi_en hg hm (pa_cons h pa_nil hs) hs) fun σ H Q ⟨Hk0, H0, Hk, ρ, r, p⟩ => by
    refine te_thenI (g := enOf) r p fun x v Hk' H' g d n r' p' => ?_
    unfold enOf at p'
    cases q : seqOf x with
    | err c => exact absurd q seqOf_no
    | bad => rw [q] at p'; exact p'.elim
    | ok a =>
      rw [q] at p'
      obtain ⟨l1, xs, rfl, ra, s1, k1⟩ := seqOf_SR q g.kh d
      exact ⟨_, l1, xs, rfl, s1, p' _ _ H' _ (Gr.refl g.kh) (jen_ok ra) s1 k1⟩
/-! a, b, c = x, y, z -/
def sPar3 (i j l : Nat) (φ ψ χ : En → R Rv) : En → R Out := fun ρ => φ ρ >>= fun x => ψ ρ >>= fun y => χ ρ >>= fun z => if sPar.noB x && (sPar.noB y && sPar.noB z) then .ok (.nx (put l z (put j y (put i x ρ)))) else .bad
theorem den_noB {Hk H : Hp} {σ σ' : Sl} {x : Rv} {v : V} (h : sPar.noB x = true) (d : Den Hk H σ x v) : Den Hk H σ' x v := by
  cases x with
  | val _ => exact d
  | own _ => exact d
  | bor _ _ => cases h
theorem s_par3 {x y z : Str} {a b c : Expr} {px py pz pt : Pos} {kt k2 : Nat} {pt2 : Pos} (i j l : Nat) (hc : X.calm = true) (hN : X.N.Nodup) (ha : PE X a (te X.K W φ)) (hb : PE X b (te X.K W ψ)) (hd : PE X c (te X.K W χ))
    (hi : X.N[i]? = some x := by rfl) (hj : X.N[j]? = some y := by rfl) (hl : X.N[l]? = some z := by rfl) (hij : i ≠ j := by decide) (hil : i ≠ l := by decide) (hjl : j ≠ l := by decide) (hx : X.env.scope.names.lookup x = some .local := by rfl) (hy : X.env.scope.names.lookup y = some .local := by rfl) (hz : X.env.scope.names.lookup z = some .local := by rfl)
    (hw : swappedStores [.Tuple [.Name x px, .Name y py, .Name z pz] kt pt] (.Tuple [a, b, c] k2 pt2) X.env = pure (some [x, y, z]) := by rfl)
    (hs : swapsWithSole [.Tuple [.Name x px, .Name y py, .Name z pz] kt pt] (.Tuple [a, b, c] k2 pt2) pos.line X.env = pure false := by rfl)
    (h1 : starEach [a, b, c] X.env = (false, eval a X.env) :: starEach [b, c] X.env := by rfl) (h2 : starEach [b, c] X.env = (false, eval b X.env) :: starEach [c] X.env := by rfl) (h3 : starEach [c] X.env = (false, eval c X.env) :: starEach [] X.env := by rfl) :
    PS X (.Assign [.Tuple [.Name x px, .Name y py, .Name z pz] kt pt] (.Tuple [a, b, c] k2 pt2) pos) (ts X.K W (sPar3 i j l φ ψ χ)) :=
  ps_imp (ps_par3 hc hN hi hj hl hij hil hjl hx hy hz (pa_cons ha (pa_cons hb (pa_cons hd pa_nil h3) h2) h1) hw hs) fun D σ H ⟨Hk0, H0, Hk, ρ, r, p⟩ => by
    refine s_then r p fun x v Hk1 H1 g1 n1 d1 r1 p1 => ?_
    refine s_then r1 p1 fun y u Hk2 H2 g2 n2 d2 r2 p2 => ?_
    refine s_then r2 p2 fun z t Hk3 H3 g3 n3 d3 r3 p3 => ?_
    split at p3
    · rename_i hnb
      rw [Bool.and_eq_true, Bool.and_eq_true] at hnb
      obtain ⟨b1, b2, b3⟩ := hnb
      refine ⟨v, u, t, rfl, p3 _ Hk3 H3 (Ex.refl _) ?_⟩
      have ra : Rel Hk0 H0 Hk1 H1 (σ.set i (some v)) (put i x ρ) := r.put g1 n1 d1 r1
      have rb : Rel Hk0 H0 Hk2 H2 ((σ.set i (some v)).set j (some u)) (put j y (put i x ρ)) := ra.put g2 n2 (den_noB b2 d2) (ra.up g2)
      exact rb.put g3 n3 (den_noB b3 d3) (rb.up g3)
    · exact p3.elim
end
/-! [::-1] -/
section
variable {prog : Program} {w : World} {A : Around} {E : Value → Shared → Prop} {s : Shared}
end
end Py

set_option Elab.async false
set_option linter.all false
set_option maxRecDepth 100000
set_option autoImplicit false
set_option maxHeartbeats 4000000
/-! PyR: [::-1] of lists and tuples. -/
namespace Py
open PySem L2 PyProof.Rows
open Evl (Ex)
section
variable {P : Program} {w : World} {A : Around} {E : Value → Shared → Prop} {s : Shared}
theorem adjust_rev (n : Nat) : Builtin.Slice.sliceAdjust none none (-1) (n : Int) = ((n : Int) - 1, -1) := by
  unfold Builtin.Slice.sliceAdjust
  have h1 : ((-1 : Int) < 0) := by omega
  simp only [h1, if_true]
theorem places_rev (n : Nat) : Builtin.Slice.slicePlaces ((n : Int) - 1) (-1) (-1) = n := by
  unfold Builtin.Slice.slicePlaces
  have h1 : ¬ ((-1 : Int) > 0) := by omega
  simp only [h1, if_false]
  split
  · have e : (- -1 : Int) = 1 := by decide
    rw [e, Int.ediv_one]
    omega
  · omega
theorem applied_rev {sl : Addr} {vl vu vs : Value} {n : Nat} {Q : Int × Int × Nat → Shared → Prop} (hs : s.heap.IsSliceOf sl vl vu vs) (pl : IsPart vl none) (pu : IsPart vu none) (ps : IsPart vs (some (-1)))
    (h : Q ((n : Int) - 1, -1, n) s) : wpAny (model P w) A (Builtin.Slice.sliceApplied (.ref sl) (pure (n : Int))) Q E s := by
  obtain ⟨os, hos, hcs, hds⟩ := id hs
  unfold Builtin.Slice.sliceApplied Builtin.Slice.sliceFields
  refine wpAny_bind (wpAny_bind (wpAny_field hos hds (x := vl) rfl (wpAny_bind (wpAny_field hos hds (x := vu) rfl (wpAny_bind (wpAny_field hos hds (x := vs) rfl (wpAny_pure ?_)))))))
  refine wpAny_bind (HT.slicePart_ ps ?_)
  show wpAny _ _ (if ((-1 : Int) == 0) = true then _ else _) _ _ s
  rw [if_neg (by decide)]
  refine wpAny_bind (HT.slicePart_ pl (wpAny_bind (HT.slicePart_ pu (wpAny_bind (wpAny_pure ?_)))))
  show wpAny _ _ (match Builtin.Slice.sliceAdjust none none (-1) (n : Int) with | (lo, hi) => pure (lo, (-1 : Int), Builtin.Slice.slicePlaces lo hi (-1))) _ _ s
  rw [adjust_rev n]
  show wpAny _ _ (pure ((n : Int) - 1, (-1 : Int), Builtin.Slice.slicePlaces ((n : Int) - 1) (-1) (-1))) _ _ s
  rw [places_rev]
  exact wpAny_pure h
theorem fm_congr {α β : Type} {f g : α → Option β} : ∀ {l : List α}, (∀ x ∈ l, f x = g x) → l.filterMap f = l.filterMap g
  | [], _ => rfl
  | a :: l, h => by rw [List.filterMap_cons, List.filterMap_cons, h a (by simp), fm_congr fun x hx => h x (List.mem_cons_of_mem _ hx)]
theorem fm_all : ∀ l : List Value, (List.range l.length).filterMap (fun m => l[m]?) = l
  | [] => rfl
  | a :: l => by
    have ih := fm_all l
    rw [List.length_cons, List.range_succ_eq_map, List.filterMap_cons]
    simp only [List.getElem?_cons_zero, List.filterMap_map]
    congr 1
theorem pick_rev (xs : Array Value) : ((List.range xs.size).filterMap fun (m : Nat) => xs[((xs.size : Int) - 1 + (m : Int) * (-1)).toNat]?).toArray = xs.toList.reverse.toArray := by
  have e : ∀ m ∈ List.range xs.size, xs[((xs.size : Int) - 1 + (m : Int) * (-1)).toNat]? = xs.toList.reverse[m]? := fun m hm => by
    have hm := List.mem_range.mp hm
    rw [List.getElem?_reverse (by rw [Array.length_toList]; exact hm), Array.getElem?_toList, Array.length_toList]
    congr 1
    omega
  rw [fm_congr e]
  have hl : xs.size = xs.toList.reverse.length := by simp
  rw [hl, fm_all]
theorem getItem_tuple_rev {t sl : Addr} {items : Array Value} {vl vu vs : Value} {Q : Value → Shared → Prop} (ht : IsTup s.heap t items) (hs : s.heap.IsSliceOf sl vl vu vs) (pl : IsPart vl none) (pu : IsPart vu none) (ps : IsPart vs (some (-1)))
    (h : Q (.ref s.heap.objs.size) { s with heap := s.heap.push { cls := .type "tuple", data := .seq items.toList.reverse.toArray } }) (hsz : items.size ≤ sizeLine) : wpAny (model P w) A (getItem (.ref t) (.ref sl)) Q E s := by
  have hz : sizeOk (.seq items.toList.reverse.toArray) := by
    show items.toList.reverse.toArray.size ≤ sizeLine
    simpa using hsz
  obtain ⟨os, hos, hcs, hds⟩ := id hs
  have hTs : s.TypeIs (.ref sl) "slice" := ⟨os, hos, hcs⟩
  unfold getItem
  try with_reducible refine wpAny_holding ?_
  first | refine wpAny_bind (wpAny_pure ?_) | skip
  refine wpAny_bind (wpAny_sequenceKey ht.typeIs (by decide) ?_)
  refine wpAny_bind (wpAny_callSpecial?_slot (name := Str.ofString "__getitem__") ht.typeIs PyProof.Rows.slot_tuple_getitem (wpAny_call_entry PyProof.Rows.slot_tuple_getitem ht.typeIs entry_tuple_getitem ?_ (args_tuple_getitem _ _)))
  show wpAny _ _ (Builtin.Tuple.tupleItemsOf (.ref t) >>= _) _ _ s
  refine wpAny_bind (tupleItemsOf_ ht (wpAny_bind (wpAny_typeOf hTs ?_)))
  rw [if_pos (by decide)]
  refine wpAny_bind (applied_rev hs pl pu ps ?_)
  show wpAny _ _ (if (((items.size : Int) - 1 == 0 && (-1 : Int) == 1 && items.size == items.size) = true) then _ else _) _ _ s
  rw [if_neg (by simp), pick_rev]
  first
    | exact wpAny_bind (m := Builtin.Tuple.tupleExact _) (wpAny_newObj_type (wpAny_pure ⟨_, rfl, wpAny_pure h⟩) hz)
    | exact wpAny_bind (wpAny_bind (m := Builtin.Tuple.tupleExact _) (wpAny_newObj_type (wpAny_pure ⟨_, rfl, wpAny_pure h⟩) hz))
    | exact wpAny_bind (wpAny_bind (m := Builtin.Tuple.tupleExact _) (wpAny_newObj_type (wpAny_pure (wpAny_pure ⟨_, rfl, wpAny_pure h⟩)) hz))
end
variable [KK]
def gRev (a : Rv) : R Rv := match a.dat with
  | .list ds => .ok (.own ds.reverse)
  | .tuple ds => .ok (.val (.tuple ds.reverse))
  | _ => .bad
def eRev (φ : En → R Rv) : En → R Rv := fun ρ => φ ρ >>= fun x => gRev (frz x)
section
variable {X : Cx} [ok : OK X] {W : WX} {e : Expr} {φ : En → R Rv}
def rRev (K : PySem.W.Frag) (te : TE) : TE := fun σ H Q => te σ H fun x H1 => ∃ a xs, x = .ref a ∧ ((SqL K H1 a xs ∧ ∀ p, H1 p = none → Q (.ref p) (upd H1 p (.lst xs.reverse))) ∨ (SqT K H1 a xs ∧ ∀ p, H1 p = none → Q (.ref p) (upd H1 p (.tup xs.reverse))))
theorem pe_rev {t : TE} {k : Nat} {p1 p2 p3 pos : Pos} (he : PE X e t) : PE X (.Subscript e (.Slice none none (some (.UnaryOp .USub (.Constant (.int 1) k p1) p2)) p3) pos) (rRev X.K t) := by
  refine ⟨fun pins s σ H Q I h => ?_⟩
  refine Subscript_ (thn (he.run pins s σ H _ I h) fun v s1 ⟨x, H1, I1, r1, a, xs, ex, q⟩ => ?_)
  subst ex
  cases r1
  have hst : PO X (some (.UnaryOp .USub (.Constant (.int 1) k p1) p2)) (tPart (tUn (rU fun i => .int (-i)) (tC (.int 1)))) := po_some (pe_un un_neg pe_int)
  refine wpAny_Slice (thn (po_none.run pins s1 σ H1 (fun o H2 => o = none ∧ H2 = H1) I1 ⟨rfl, rfl⟩) fun vl s2 ⟨l, H2, I2, pl, el, e2⟩ => ?_)
  subst el e2
  refine thn (po_none.run pins s2 σ H2 (fun o H3 => o = none ∧ H3 = H2) I2 ⟨rfl, rfl⟩) fun vu s3 ⟨u, H3, I3, pu, eu, e3⟩ => ?_
  subst eu e3
  refine thn (hst.run pins s3 σ H3 (fun o H4 => o = some (-1) ∧ H4 = H3) I3 ⟨1, rfl, -1, rfl, rfl, rfl⟩) fun vs s4 ⟨o, H4, I4, ps, eo, e4⟩ => ?_
  subst eo e4
  have I5 : Inv X pins σ H4 { s4 with heap := s4.heap.push { cls := .type "slice", data := .fields #[vl, vu, vs] } } := I4.kept (t' := s4.toks) fun b ob q => Heap.get?_push_of_some _ q
  show wpAny (model X.prog X.w) X.A (subscriptTail e (.Slice none none (some (.UnaryOp .USub (.Constant (.int 1) k p1) p2)) p3) (.ref a) (.ref s4.heap.objs.size)) (EP X pins σ Q) X.xe { s4 with heap := s4.heap.push { cls := .type "slice", data := .fields #[vl, vu, vs] } }
  rcases q with ⟨hx, q⟩ | ⟨hx, q⟩
  · obtain ⟨its, r, ht, hz⟩ := I5.list hx
    have hlen := r.length
    refine tail_any (ops := [.ref a, .ref s4.heap.objs.size]) ht.isList.typeIs (PySem.slot_list_getitem.lookup) ?_ (by with_unfolding_all rfl)
    refine wpAny_getItem_list_slice ht.isList (Heap.IsSliceOf.new _ vl vu vs) pl pu ps (by decide) ?_ (by rw [List.size_toArray]; omega)
    rw [PySem.W.krv_pick]
    exact ⟨.ref _, _, I5.laid (t' := s4.toks) (o := .lst xs.reverse) (fun b ob q => Heap.get?_push_of_some _ q) (Nat.le_refl _) ⟨by rw [List.length_reverse]; exact hz, _, 0, r.reverse, Heap.get?_push_size _ rfl⟩, rfl, q _ (I5.hok.fresh (Nat.le_refl _))⟩
  · obtain ⟨its, r, ht, hz⟩ := I5.tuple hx
    have hlen := r.length
    refine tail_any (ops := [.ref a, .ref s4.heap.objs.size]) ht.typeIs (PyProof.Rows.slot_tuple_getitem.lookup) ?_ (by with_unfolding_all rfl)
    refine getItem_tuple_rev ht (Heap.IsSliceOf.new _ vl vu vs) pl pu ps ?_ (by rw [List.size_toArray]; omega)
    exact ⟨.ref _, _, I5.laid (t' := s4.toks) (o := .tup xs.reverse) (fun b ob q => Heap.get?_push_of_some _ q) (Nat.le_refl _) ⟨by rw [List.length_reverse]; exact hz, _, r.reverse, IsTup.new _ _⟩, rfl, q _ (I5.hok.fresh (Nat.le_refl _))⟩
theorem d_rev {k : Nat} {p1 p2 p3 pos : Pos} (he : PE X e (te X.K W φ)) : PE X (.Subscript e (.Slice none none (some (.UnaryOp .USub (.Constant (.int 1) k p1) p2)) p3) pos) (te X.K W (eRev φ)) :=
  pe_imp (pe_rev he) fun σ H Q ⟨Hk0, H0, Hk, ρ, r, p⟩ =>
    te_thenF (g := gRev) r p fun x v Hk1 H1 g1 d1 n1 r1 p1 => by
      unfold gRev at p1
      split at p1
      · rename_i ds hd
        obtain ⟨l, xs, rfl, s1, r1⟩ := d1.kList g1.kh hd
        exact ⟨l, xs, rfl, .inl ⟨s1.sq, own_new g1.kh (PostE.up g1 p1) (RpAll.reverse r1)⟩⟩
      · rename_i ds hd
        obtain ⟨l, xs, rfl, s1, r1, _⟩ := d1.kTuple g1.kh hd
        exact ⟨l, xs, rfl, .inr ⟨.inl s1, tup_new g1.kh (PostE.up g1 p1) (RpAll.reverse r1)⟩⟩
      · exact p1.elim
end
end Py

set_option Elab.async false
set_option linter.all false
set_option maxRecDepth 100000
set_option autoImplicit false
set_option maxHeartbeats 4000000
/-! PyP: four at once. -/
namespace Py
variable [KK]
open PySem L2
open Evl (Ex)
section
variable {X : Cx} [ok : OK X] {W : WX} {φ ψ χ ω : En → R Rv} {pos : Pos}
def sPar4 (i j l m : Nat) (φ ψ χ ω : En → R Rv) : En → R Out := fun ρ => φ ρ >>= fun x => ψ ρ >>= fun y => χ ρ >>= fun z => ω ρ >>= fun t => if sPar.noB x && (sPar.noB y && (sPar.noB z && sPar.noB t)) then .ok (.nx (put m t (put l z (put j y (put i x ρ))))) else .bad
theorem s_par4 {x y z t : Str} {a b c d : Expr} {px py pz pw pt : Pos} {kt k2 : Nat} {pt2 : Pos} (i j l m : Nat) (hc : X.calm = true) (hN : X.N.Nodup) (ha : PE X a (te X.K W φ)) (hb : PE X b (te X.K W ψ)) (hd : PE X c (te X.K W χ)) (he : PE X d (te X.K W ω))
    (hi : X.N[i]? = some x := by rfl) (hj : X.N[j]? = some y := by rfl) (hl : X.N[l]? = some z := by rfl) (hm : X.N[m]? = some t := by rfl)
    (hx : Loc X.env.scope x := by first | exact Or.inl rfl | exact Or.inr rfl) (hy : Loc X.env.scope y := by first | exact Or.inl rfl | exact Or.inr rfl) (hz : Loc X.env.scope z := by first | exact Or.inl rfl | exact Or.inr rfl) (ht : Loc X.env.scope t := by first | exact Or.inl rfl | exact Or.inr rfl)
    (fx : X.fn x = true ∨ X.env.scope.names.lookup x = some .local := by first | exact .inl rfl | exact .inr rfl) (fy : X.fn y = true ∨ X.env.scope.names.lookup y = some .local := by first | exact .inl rfl | exact .inr rfl) (fz : X.fn z = true ∨ X.env.scope.names.lookup z = some .local := by first | exact .inl rfl | exact .inr rfl) (ft : X.fn t = true ∨ X.env.scope.names.lookup t = some .local := by first | exact .inl rfl | exact .inr rfl)
    (hw : swappedStores [.Tuple [.Name x px, .Name y py, .Name z pz, .Name t pw] kt pt] (.Tuple [a, b, c, d] k2 pt2) X.env = pure none := by rfl)
    (hs : swapsWithSole [.Tuple [.Name x px, .Name y py, .Name z pz, .Name t pw] kt pt] (.Tuple [a, b, c, d] k2 pt2) pos.line X.env = pure false := by rfl)
    (h1 : starEach [a, b, c, d] X.env = (false, eval a X.env) :: starEach [b, c, d] X.env := by rfl) (h2 : starEach [b, c, d] X.env = (false, eval b X.env) :: starEach [c, d] X.env := by rfl) (h3 : starEach [c, d] X.env = (false, eval c X.env) :: starEach [d] X.env := by rfl) (h4 : starEach [d] X.env = (false, eval d X.env) :: starEach [] X.env := by rfl)
    (g0 : (assignEach [.Tuple [.Name x px, .Name y py, .Name z pz, .Name t pw] kt pt] X.env).map (·.2) = [assign (.Tuple [.Name x px, .Name y py, .Name z pz, .Name t pw] kt pt) X.env] := by rfl)
    (gn : (assignEach [.Name x px, .Name y py, .Name z pz, .Name t pw] X.env).length = 4 := by rfl) (gf : (assignEach [.Name x px, .Name y py, .Name z pz, .Name t pw] X.env).findIdx? (·.1) = none := by rfl)
    (g1 : (assignEach [.Name x px, .Name y py, .Name z pz, .Name t pw] X.env).map (·.2) = assign (.Name x px) X.env :: (assignEach [.Name y py, .Name z pz, .Name t pw] X.env).map (·.2) := by rfl)
    (g2 : (assignEach [.Name y py, .Name z pz, .Name t pw] X.env).map (·.2) = assign (.Name y py) X.env :: (assignEach [.Name z pz, .Name t pw] X.env).map (·.2) := by rfl)
    (g3 : (assignEach [.Name z pz, .Name t pw] X.env).map (·.2) = assign (.Name z pz) X.env :: (assignEach [.Name t pw] X.env).map (·.2) := by rfl)
    (g4 : (assignEach [.Name t pw] X.env).map (·.2) = assign (.Name t pw) X.env :: (assignEach [] X.env).map (·.2) := by rfl) :
    PS X (.Assign [.Tuple [.Name x px, .Name y py, .Name z pz, .Name t pw] kt pt] (.Tuple [a, b, c, d] k2 pt2) pos) (ts X.K W (sPar4 i j l m φ ψ χ ω)) :=
  ps_imp (ps_asg (pe_tup (pa_cons ha (pa_cons hb (pa_cons hd (pa_cons he pa_nil h4) h3) h2) h1)) (pg_tup hc (pgs_cons (pg_name hN hi hx fx) (pgs_cons (pg_name hN hj hy fy) (pgs_cons (pg_name hN hl hz fz) (pgs_cons (pg_name hN hm ht ft) pgs_nil g4) g3) g2) g1) gn gf) hs hw g0) fun D σ H ⟨Hk0, H0, Hk, ρ, r, p⟩ => by
    refine s_then r p fun x v Hk1 H1 g1 n1 d1 r1 p1 => ?_
    refine s_then r1 p1 fun y u Hk2 H2 g2 n2 d2 r2 p2 => ?_
    refine s_then r2 p2 fun z t Hk3 H3 g3 n3 d3 r3 p3 => ?_
    refine s_then r3 p3 fun o q Hk4 H4 g4 n4 d4 r4 p4 => ?_
    split at p4
    · rename_i hnb
      simp only [Bool.and_eq_true] at hnb
      obtain ⟨b1, b2, b3, b4⟩ := hnb
      have ra : Rel Hk0 H0 Hk1 H1 (σ.set i (some v)) (put i x ρ) := r.put g1 n1 d1 r1
      have rb : Rel Hk0 H0 Hk2 H2 ((σ.set i (some v)).set j (some u)) (put j y (put i x ρ)) := ra.put g2 n2 (den_noB b2 d2) (ra.up g2)
      have rc : Rel Hk0 H0 Hk3 H3 (((σ.set i (some v)).set j (some u)).set l (some t)) (put l z (put j y (put i x ρ))) := rb.put g3 n3 (den_noB b3 d3) (rb.up g3)
      have rd : Rel Hk0 H0 Hk4 H4 ((((σ.set i (some v)).set j (some u)).set l (some t)).set m (some q)) (put m o (put l z (put j y (put i x ρ)))) := rc.put g4 n4 (den_noB b4 d4) (rc.up g4)
      refine ⟨by show 4 ≤ sizeLine; decide, fun w hw => ⟨w, [v, u, t, q], rfl, .inl (.inl upd_same), rfl, v, [u, t, q], rfl, u, [t, q], rfl, t, [q], rfl, q, [], rfl, rfl, ?_⟩⟩
      exact p4 _ Hk4 _ (Ex.refl _) (rd.up (Gr.own rd.kh hw))
    · exact p4.elim
end
/-! range(a, b, -1) -/
def downD (lo : Int) (n : Nat) : List PyData := (List.range n).map fun (k : Nat) => PyData.int (lo - (k : Int))
theorem downD_len (lo : Int) (n : Nat) : (downD lo n).length = n := by unfold downD; rw [List.length_map, List.length_range]
theorem itd_ok {lo : Int} {n : Nat} {Hk1 : Hp} : ItOk (Itc lo (-1) n) (downD lo n) Hk1 (fun _ => True) where
  go := fun i H _ hi => by rw [downD_len] at hi; exact hi
  stop := fun i H _ hi => by rw [downD_len] at hi; exact Nat.le_of_eq hi.symm
  yld := fun i H Hk x H' _ e1 e2 y d hd => by
    obtain ⟨rfl, rfl⟩ := y
    unfold downD at hd
    rw [List.getElem?_map] at hd
    cases q : (List.range n)[i]? with
    | none => rw [q] at hd; cases hd
    | some k =>
      rw [q] at hd
      cases hd
      obtain ⟨h1, h2⟩ := List.getElem?_eq_some_iff.mp q
      rw [List.getElem_range] at h2
      subst h2
      have e : lo + (i : Int) * (-1) = lo - (i : Int) := by omega
      rw [e]
      exact ⟨Hk, Gr.refl e2, Rp.int _⟩
  mono := fun _ _ _ h => h
def iRgD (φ ψ χ : En → R Rv) : En → R (Bool × List PyData) := fun ρ => φ ρ >>= fun x => ψ ρ >>= fun y => χ ρ >>= fun z => (frz x).toInt >>= fun i => (frz y).toInt >>= fun j => (frz z).toInt >>= fun c => if c = -1 ∧ -(2 ^ 60) ≤ i ∧ i < 2 ^ 60 ∧ -(2 ^ 60) ≤ j ∧ j < 2 ^ 60 then .ok (true, downD i (i - j).toNat) else .bad
section
variable {X : Cx} [ok : OK X] {W : WX} {tgt a b c : Expr} {φ ψ χ : En → R Rv} {p pos : Pos}
theorem w_rgD (ha : PE X a (te X.K W φ)) (hb : PE X b (te X.K W ψ)) (hc : PE X c (te X.K W χ)) (hm : X.mg "range" = none) (hg : Gl X "range" := by rfl) (h1 : starEach [a, b, c] X.env = (false, eval a X.env) :: starEach [b, c] X.env := by rfl) (h2 : starEach [b, c] X.env = (false, eval b X.env) :: starEach [c] X.env := by rfl) (h3 : starEach [c] X.env = (false, eval c X.env) :: starEach [] X.env := by rfl)
    (hpl : (backTo pos (starEach [b, c] X.env)).any (·.1) = false := by rfl) : PI X tgt (.Call (.Name "range" p) [a, b, c] [] pos) (ti X.K W (iRgD φ ψ χ)) :=
  pi_imp (pi_range3 hg hm (pa_cons ha (pa_cons hb (pa_cons hc pa_nil h3) h2) h1) h1 hpl) fun σ H Q ⟨Hk0, H0, Hk, ρ, r, p⟩ => by
    refine te_thenI (g := fun x => ψ ρ >>= fun y => χ ρ >>= fun z => x.toInt >>= fun i => (frz y).toInt >>= fun j => (frz z).toInt >>= fun c => if c = -1 ∧ -(2 ^ 60) ≤ i ∧ i < 2 ^ 60 ∧ -(2 ^ 60) ≤ j ∧ j < 2 ^ 60 then .ok (true, downD i (i - j).toNat) else .bad) r p fun x v Hk1 H1 g1 d1 n1 r1 p1 => ?_
    refine te_thenI (g := fun y => χ ρ >>= fun z => x.toInt >>= fun i => y.toInt >>= fun j => (frz z).toInt >>= fun c => if c = -1 ∧ -(2 ^ 60) ≤ i ∧ i < 2 ^ 60 ∧ -(2 ^ 60) ≤ j ∧ j < 2 ^ 60 then .ok (true, downD i (i - j).toNat) else .bad) r1 p1 fun y u Hk2 H2 g2 d2 n2 r2 p2 => ?_
    refine te_thenI (g := fun z => x.toInt >>= fun i => y.toInt >>= fun j => z.toInt >>= fun c => if c = -1 ∧ -(2 ^ 60) ≤ i ∧ i < 2 ^ 60 ∧ -(2 ^ 60) ≤ j ∧ j < 2 ^ 60 then .ok (true, downD i (i - j).toNat) else .bad) r2 p2 fun z t Hk' H' g d n r' p' => ?_
    obtain ⟨i, q1, p3⟩ := toInt_then (C := PostI X.K W Hk' H' σ Q) p' id
    obtain ⟨j, q2, p4⟩ := toInt_then (C := PostI X.K W Hk' H' σ Q) p3 id
    obtain ⟨c, q3, p5⟩ := toInt_then (C := PostI X.K W Hk' H' σ Q) p4 id
    split at p5
    · rename_i hj
      obtain ⟨rfl, h1, h2, h3, h4⟩ := hj
      rw [d1.int q1, d2.int q2, d.int q3]
      exact ⟨i, j, -1, (i - j).toNat, rfl, RgC.neg (by omega) (by omega) (by omega) (by omega), p5 _ _ H' _ (Gr.refl g.kh) itd_ok trivial fun _ => trivial⟩
    · exact p5.elim
end
end Py

set_option Elab.async false
set_option linter.all false
set_option maxRecDepth 100000
set_option autoImplicit false
set_option maxHeartbeats 4000000
/-! PyQ: list(zip(a, b)): the tuples stay. -/
namespace PySem
section
variable {prog : Program} {w : World} {A : Around} {E : Value → Shared → Prop} {s : Shared} {z TI TO T i1 i2 : Addr} {f1 f2 : List Addr} {n1 n2 i : Nat} {P1 P2 : Nat → Value → Prop} {S1 S2 : Nat → Heap → Prop} {b : Bool} {o : Obj}
theorem pq_item0 {Q : Value → Shared → Prop} (S : ZipSep2 z TI TO i1 i2 f1 f2) (D1 : Draws prog w A i1 f1 n1 P1 S1) (D2 : Draws prog w A i2 f2 n2 P2 S2)
    (hz : IsZipHeld s.heap z TI TO T b) (hT : s.heap.get? T = some o) (hI : IsTupOf2 s.heap TI (.ref i1) (.ref i2)) (t1 : S1 i s.heap) (t2 : S2 i s.heap) (l1 : i < n1) (l2 : i < n2)
    (k : ∀ x y h' tk, P1 i x → P2 i y → IsZipHeld h' z TI TO T true → S1 (i + 1) h' → S2 (i + 1) h' → IsTupOf2 h' s.heap.objs.size x y → h'.objs.size = s.heap.objs.size + 1 →
      (∀ c o, c ≠ z → c ≠ i1 → c ≠ i2 → s.heap.get? c = some o → h'.get? c = some o) → Q (.ref s.heap.objs.size) { s with heap := h', toks := tk }) :
    wpAny (model prog w) A (Builtin.«zip.__next__» ⟨[.ref z], []⟩) (fun fin s' => ∃ v, fin = .done (.ret v) ∧ Q v s') E s := by
  obtain ⟨hp, g, d, tk0, os⟩ := s
  show wpAny _ _ (field (.ref z) 2 >>= _) _ _ ⟨hp, g, d, tk0, os⟩
  refine wpAny_bind (wpAny_field hz rfl (x := .bool false) rfl (show wpAny _ _ (field (.ref z) 3 >>= _) _ _ ⟨hp, g, d, tk0, os⟩ from wpAny_bind (wpAny_field hz rfl (x := .ref TI) rfl (wpAny_bind (wpAny_seqItems hI rfl ?_)))))
  show wpAny _ _ (Builtin.SmallTypes.ownedTupleIsFree (.ref z) >>= _) _ _ ⟨hp, g, d, tk0, os⟩
  refine wpAny_bind (wpAny_tupleHeld_zip (s := ⟨hp, g, d, tk0, os⟩) hz hT fun h1 z1 q1 => ?_)
  replace q1 : Heap.SameBut z hp h1 := q1
  simp only [Bool.false_eq_true, if_false]
  refine wpAny_bind ?_
  rw [← Array.forIn_toList]
  simp only [List.forIn_cons, List.forIn_nil]
  refine wpAny_bind (wpAny_bind (wpAny_holding (show wpAny _ _ (Builtin.SmallTypes.nextOf (.ref i1) >>= _) _ _ ⟨h1, g, d, tk0, os⟩ from ?_)))
  refine wpAny_bind (D1.item i _ _ _ l1 (D1.over t1 q1 S.zf1) fun x h2 tk1 px u1 q2 => wpAny_pure (wpAny_pure ?_))
  replace q2 : Heap.SameBut i1 h1 h2 := q2
  refine wpAny_bind (wpAny_bind (wpAny_holding (show wpAny _ _ (Builtin.SmallTypes.nextOf (.ref i2) >>= _) _ _ ⟨h2, g, d, tk1, os⟩ from ?_)))
  refine wpAny_bind (D2.item i _ _ _ l2 (D2.over (D2.over t2 q1 S.zf2) q2 S.sep1_2) fun y h3 tk2 py u2 q3 => wpAny_pure (wpAny_pure (wpAny_pure ?_)))
  replace q3 : Heap.SameBut i2 h2 h3 := q3
  show wpAny _ _ (newTuple [x, y] >>= _) _ _ ⟨h3, g, d, tk2, os⟩
  refine wpAny_bind (wpAny_newTuple (wpAny_pure ⟨_, rfl, ?_⟩))
  have sz : h3.objs.size = hp.objs.size := by rw [q3.1, q2.1, q1.1]
  have z3 : IsZipHeld h3 z TI TO T true := q3.extBut _ _ S.zi2 (q2.extBut _ _ S.zi1 z1)
  have hp4 : IsTupOf2 (h3.push { cls := .type "tuple", data := .seq #[x, y] }) h3.objs.size x y := Heap.get?_push_size _ rfl
  have s4 : (h3.push { cls := .type "tuple", data := .seq #[x, y] }).objs.size = h3.objs.size + 1 := Heap.size_push ..
  have fr : ∀ c o, c ≠ z → c ≠ i1 → c ≠ i2 → hp.get? c = some o → (h3.push { cls := .type "tuple", data := .seq #[x, y] }).get? c = some o := fun c o c1 c2 c3 e => Heap.get?_push_of_some _ (q3.extBut _ _ c3 (q2.extBut _ _ c2 (q1.extBut _ _ c1 e)))
  have w1 : S1 (i + 1) (h3.push { cls := .type "tuple", data := .seq #[x, y] }) := D1.frame _ _ _ (D1.over u1 q3 S.sep2_1) fun b _ o e => Heap.get?_push_of_some _ e
  have w2 : S2 (i + 1) (h3.push { cls := .type "tuple", data := .seq #[x, y] }) := D2.frame _ _ _ u2 fun b _ o e => Heap.get?_push_of_some _ e
  have z4 : IsZipHeld (h3.push { cls := .type "tuple", data := .seq #[x, y] }) z TI TO T true := Heap.get?_push_of_some _ z3
  have r := k x y (h3.push { cls := .type "tuple", data := .seq #[x, y] }) tk2 px py z4 w1 w2 (by rw [sz] at hp4; exact hp4) (by rw [sz] at s4; exact s4) fr
  show Q (.ref h3.objs.size) _
  rw [sz]
  exact r
theorem pq_end0 {Q : Fin → Shared → Prop} (S : ZipSep2 z TI TO i1 i2 f1 f2) (D1 : Draws prog w A i1 f1 n1 P1 S1) (D2 : Draws prog w A i2 f2 n2 P2 S2)
    (hz : IsZipHeld s.heap z TI TO T b) (hT : s.heap.get? T = some o) (hI : IsTupOf2 s.heap TI (.ref i1) (.ref i2)) (t1 : S1 i s.heap) (t2 : S2 i s.heap) (l1 : i ≤ n1) (l2 : i ≤ n2) (he : i = n1 ∨ i = n2)
    (k : ∀ h' tk e, (∀ c o, c ≠ z → c ≠ i1 → c ≠ i2 → s.heap.get? c = some o → h'.get? c = some o) → (∃ o, h'.get? e = some o ∧ o.cls = .type "StopIteration") → E (.ref e) { s with heap := h', toks := tk }) :
    wpAny (model prog w) A (Builtin.«zip.__next__» ⟨[.ref z], []⟩) Q E s := by
  obtain ⟨hp, g, d, tk0, os⟩ := s
  show wpAny _ _ (field (.ref z) 2 >>= _) _ _ ⟨hp, g, d, tk0, os⟩
  refine wpAny_bind (wpAny_field hz rfl (x := .bool false) rfl (show wpAny _ _ (field (.ref z) 3 >>= _) _ _ ⟨hp, g, d, tk0, os⟩ from wpAny_bind (wpAny_field hz rfl (x := .ref TI) rfl (wpAny_bind (wpAny_seqItems hI rfl ?_)))))
  show wpAny _ _ (Builtin.SmallTypes.ownedTupleIsFree (.ref z) >>= _) _ _ ⟨hp, g, d, tk0, os⟩
  refine wpAny_bind (wpAny_tupleHeld_zip (s := ⟨hp, g, d, tk0, os⟩) hz hT fun h1 z1 q1 => ?_)
  replace q1 : Heap.SameBut z hp h1 := q1
  simp only [Bool.false_eq_true, if_false]
  refine wpAny_bind ?_
  rw [← Array.forIn_toList]
  simp only [List.forIn_cons, List.forIn_nil]
  refine wpAny_bind (wpAny_bind (wpAny_holding (show wpAny _ _ (Builtin.SmallTypes.nextOf (.ref i1) >>= _) _ _ ⟨h1, g, d, tk0, os⟩ from ?_)))
  rcases Nat.lt_or_ge i n1 with hlt | hge
  · have e2 : i = n2 := by rcases he with e | e; omega; exact e
    refine wpAny_bind (D1.item i _ _ _ hlt (D1.over t1 q1 S.zf1) fun x h2 tk1 px u1 q2 => wpAny_pure (wpAny_pure ?_))
    replace q2 : Heap.SameBut i1 h1 h2 := q2
    refine wpAny_bind (wpAny_bind (wpAny_holding (show wpAny _ _ (Builtin.SmallTypes.nextOf (.ref i2) >>= _) _ _ ⟨h2, g, d, tk1, os⟩ from ?_)))
    subst e2
    refine wpAny_bind (D2.done _ _ _ (D2.over (D2.over t2 q1 S.zf2) q2 S.sep1_2) fun h3 e q3 hs => ?_)
    exact k h3 tk1 e (fun c o c1 c2 c3 x => q3 _ _ c3 (q2.extBut _ _ c2 (q1.extBut _ _ c1 x))) hs
  · have e1 : i = n1 := by omega
    subst e1
    refine wpAny_bind (D1.done _ _ _ (D1.over t1 q1 S.zf1) fun h2 e q2 hs => ?_)
    exact k h2 tk0 e (fun c o c1 c2 c3 x => q2 _ _ c2 (q1.extBut _ _ c1 x)) hs
theorem pq_item {Q : Option Value → Shared → Prop} (S : ZipSep2 z TI TO i1 i2 f1 f2) (D1 : Draws prog w A.in1 i1 f1 n1 P1 S1) (D2 : Draws prog w A.in1 i2 f2 n2 P2 S2)
    (hz : IsZipHeld s.heap z TI TO T b) (hT : s.heap.get? T = some o) (hI : IsTupOf2 s.heap TI (.ref i1) (.ref i2)) (t1 : S1 i s.heap) (t2 : S2 i s.heap) (l1 : i < n1) (l2 : i < n2)
    (k : ∀ x y h' tk, P1 i x → P2 i y → IsZipHeld h' z TI TO T true → S1 (i + 1) h' → S2 (i + 1) h' → IsTupOf2 h' s.heap.objs.size x y → h'.objs.size = s.heap.objs.size + 1 →
      (∀ c o, c ≠ z → c ≠ i1 → c ≠ i2 → s.heap.get? c = some o → h'.get? c = some o) → Q (some (.ref s.heap.objs.size)) { s with heap := h', toks := tk }) :
    wpAny (model prog w) A (pyNext (.ref z)) Q E s := by
  have ty : s.TypeIs (.ref z) "zip" := ⟨_, hz, rfl⟩
  unfold pyNext
  exact wpAny_bind (wpAny_attempt (wpAny_callSpecial?_slot (name := Str.ofString "__next__") ty F.slot_zip_next (wpAny_call_entry F.slot_zip_next ty F.entry_zip_next (pq_item0 S D1 D2 hz hT hI t1 t2 l1 l2 fun x y h' tk a1 a2 a3 a4 a5 a6 a7 a8 => wpAny_pure (k x y h' tk a1 a2 a3 a4 a5 a6 a7 a8)) (F.args_zip_next_1 _))))
theorem pq_end {Q : Option Value → Shared → Prop} (S : ZipSep2 z TI TO i1 i2 f1 f2) (D1 : Draws prog w A.in1 i1 f1 n1 P1 S1) (D2 : Draws prog w A.in1 i2 f2 n2 P2 S2)
    (hz : IsZipHeld s.heap z TI TO T b) (hT : s.heap.get? T = some o) (hI : IsTupOf2 s.heap TI (.ref i1) (.ref i2)) (t1 : S1 i s.heap) (t2 : S2 i s.heap) (l1 : i ≤ n1) (l2 : i ≤ n2) (he : i = n1 ∨ i = n2)
    (k : ∀ h' tk, (∀ c o, c ≠ z → c ≠ i1 → c ≠ i2 → s.heap.get? c = some o → h'.get? c = some o) → Q none { s with heap := h', toks := tk }) :
    wpAny (model prog w) A (pyNext (.ref z)) Q E s := by
  have ty : s.TypeIs (.ref z) "zip" := ⟨_, hz, rfl⟩
  unfold pyNext
  refine wpAny_bind (wpAny_attempt (wpAny_callSpecial?_slot (name := Str.ofString "__next__") ty F.slot_zip_next (wpAny_call_entry F.slot_zip_next ty F.entry_zip_next (pq_end0 S D1 D2 hz hT hI t1 t2 l1 l2 he fun h' tk e hk ⟨o, ho, hc⟩ => ?_) (F.args_zip_next_1 _))))
  exact wpAny_bind (wpAny_isInstance (T := "StopIteration") (b := true) ⟨o, ho, hc⟩ isSubtype_stop (wpAny_pure (k _ _ hk)))
/-- the pairs so far -/
def PqAcc (h : Heap) (X Y : Nat → Value → Prop) (N : Nat) (acc : Array Value) (i : Nat) : Prop := ∃ ts : List Addr, acc = (ts.map Value.ref).toArray ∧ ts.length = i ∧ ts.Nodup ∧ (∀ T ∈ ts, N ≤ T) ∧ ∀ (j : Nat) (T : Addr), ts[j]? = some T → ∃ x y, IsTupOf2 h T x y ∧ X j x ∧ Y j y
theorem PqAcc.nil {h : Heap} {X Y : Nat → Value → Prop} {N : Nat} : PqAcc h X Y N #[] 0 := ⟨[], rfl, rfl, .nil, fun T h => by simp at h, fun j T e => by simp at e⟩
theorem PqAcc.size {h : Heap} {X Y : Nat → Value → Prop} {N i : Nat} {acc : Array Value} (a : PqAcc h X Y N acc i) : acc.size = i := by
  obtain ⟨ts, rfl, e, _⟩ := a
  simp [e]
theorem PqAcc.push {h h' : Heap} {X Y : Nat → Value → Prop} {N : Nat} {acc : Array Value} {i : Nat} {x y : Value} (a : PqAcc h X Y N acc i) (hN : N ≤ h.objs.size) (k : ∀ c o, N ≤ c → h.get? c = some o → h'.get? c = some o) (hT : IsTupOf2 h' h.objs.size x y) (hx : X i x) (hy : Y i y) : PqAcc h' X Y N (acc.push (.ref h.objs.size)) (i + 1) := by
  obtain ⟨ts, rfl, e, nd, big, al⟩ := a
  refine ⟨ts ++ [h.objs.size], by simp, by simp [e], ?_, fun T hm => ?_, fun j T hj => ?_⟩
  · refine List.nodup_append.mpr ⟨nd, by simp, fun a ha b hb => ?_⟩
    rw [List.mem_singleton.mp hb]
    obtain ⟨j, hj, rfl⟩ := List.getElem_of_mem ha
    obtain ⟨x', y', q, _⟩ := al j _ (List.getElem?_eq_getElem hj)
    exact Nat.ne_of_lt (Heap.lt_size q)
  · rcases List.mem_append.mp hm with q | q
    · exact big T q
    · rw [List.mem_singleton.mp q]; exact hN
  · by_cases hji : j < ts.length
    · rw [List.getElem?_append_left hji] at hj
      obtain ⟨x', y', q, r⟩ := al j T hj
      exact ⟨x', y', k T _ (big T (List.mem_of_getElem? hj)) q, r⟩
    · rw [List.getElem?_append_right (by omega)] at hj
      have hz : j - ts.length = 0 := by
        rcases Nat.eq_zero_or_pos (j - ts.length) with z | z
        · exact z
        · rw [List.getElem?_eq_none (by rw [List.length_singleton]; omega)] at hj; cases hj
      rw [hz] at hj
      cases hj
      rw [show j = i by omega]
      exact ⟨x, y, hT, hx, hy⟩
theorem PqAcc.at {h h' : Heap} {X Y : Nat → Value → Prop} {N : Nat} {acc : Array Value} {i : Nat} (a : PqAcc h X Y N acc i) (k : ∀ c o, N ≤ c → h.get? c = some o → h'.get? c = some o) : PqAcc h' X Y N acc i := by
  obtain ⟨ts, e1, e2, nd, big, al⟩ := a
  exact ⟨ts, e1, e2, nd, big, fun j T hj => let ⟨x, y, q, r⟩ := al j T hj; ⟨x, y, k T _ (big T (List.mem_of_getElem? hj)) q, r⟩⟩
end
section
variable {prog : Program} {w : World} {A : Around} {R : Result → Shared → Prop} {z TI TO i1 i2 : Addr} {f1 f2 : List Addr} {n1 n2 : Nat} {P1 P2 : Nat → Value → Prop} {S1 S2 : Nat → Heap → Prop}
/-- the list takes all pairs: from the second on -/
theorem pq_loop (S : ZipSep2 z TI TO i1 i2 f1 f2) (D1 : Draws prog w A.in1.in1 i1 f1 n1 P1 S1) (D2 : Draws prog w A.in1.in1 i2 f2 n2 P2 S2) (hn : n1 ≤ sizeLine) (L N T : Addr) (hL1 : L ∉ f1) (hL2 : L ∉ f2) (hLz : L ≠ z) (hLT : L ≠ TI) (hTz : TI ≠ z) (hTi1 : TI ≠ i1) (hTi2 : TI ≠ i2)
    (big : ∀ c, N ≤ c → c ≠ z ∧ c ≠ i1 ∧ c ≠ i2 ∧ c ≠ L) (res : Value) :
    ∀ (k i : Nat) (s : Shared) (acc : Array Value) (c : Nat) (b : Bool) (o : Obj), min n1 n2 - i = k → i ≤ min n1 n2 → IsZipHeld s.heap z TI TO T b → N ≤ T → s.heap.get? T = some o → IsTupOf2 s.heap TI (.ref i1) (.ref i2) → S1 i s.heap → S2 i s.heap → N ≤ s.heap.objs.size →
    s.heap.get? L = some { cls := .type "list", dict := none, data := .seq acc c, slots := #[] } → PqAcc s.heap P1 P2 N acc i →
    (∀ h' tk acc' c', (∀ b o, b ≠ z → b ≠ i1 → b ≠ i2 → b ≠ L → s.heap.get? b = some o → h'.get? b = some o) → h'.get? L = some { cls := .type "list", dict := none, data := .seq acc' c', slots := #[] } → PqAcc h' P1 P2 N acc' (min n1 n2) → R (.ok (.ret res)) { s with heap := h', toks := tk }) →
    codeAny (model prog w) A (.builtin "list.extend.loop" ⟨[.ref L, .ref z, res], []⟩) R s := by
  intro k
  have Li1 : L ≠ i1 := fun e => hL1 (e ▸ S.mem1)
  have Li2 : L ≠ i2 := fun e => hL2 (e ▸ S.mem2)
  induction k with
  | zero =>
    intro i s acc c b o hk hi hz hNT hT hI t1 t2 hN hL ha hR
    have e : i = n1 ∨ i = n2 := by omega
    have em : min n1 n2 = i := by omega
    refine codeAny_builtin F.entry_extend_loop ?_; rw [Around.under_plainId F.plain_extend_loop _]
    show wpAny _ A.in1 (pyNext (.ref z) >>= _) _ _ s
    refine wpAny_bind (pq_end S D1 D2 hz hT hI t1 t2 (by omega) (by omega) e fun h' tk fr => wpAny_pure ?_)
    refine hR h' tk acc c (fun b o b1 b2 b3 _ e => fr b o b1 b2 b3 e) (fr L _ hLz Li1 Li2 hL) ?_
    rw [em]
    exact ha.at fun c o hc e => fr c o (big c hc).1 (big c hc).2.1 (big c hc).2.2.1 e
  | succ k ih =>
    intro i s acc c b o hk hi hz hNT hT hI t1 t2 hN hL ha hR
    refine codeAny_builtin F.entry_extend_loop ?_; rw [Around.under_plainId F.plain_extend_loop _]
    show wpAny _ A.in1 (pyNext (.ref z) >>= _) _ _ s
    refine wpAny_bind (pq_item S D1 D2 hz hT hI t1 t2 (by omega) (by omega) fun x y h' tk px py z' u1 u2 hp sz fr => ?_)
    have hL' := fr L _ hLz Li1 Li2 hL
    show wpAny _ A.in1 (updateSeq L (·.push (.ref s.heap.objs.size)) >>= _) _ _ { s with heap := h', toks := tk }
    have up : ∀ c o, c ≠ L → h'.get? c = some o → (h'.update L (Obj.mapSeq (·.push (.ref s.heap.objs.size)))).get? c = some o := fun c o hc e => (Heap.get?_update_other _ _ (Ne.symm hc)).trans e
    have a1 : PqAcc (h'.update L (Obj.mapSeq (·.push (.ref s.heap.objs.size)))) P1 P2 N (acc.push (.ref s.heap.objs.size)) (i + 1) :=
      PqAcc.push ha hN (fun c o hc e => up c o (big c hc).2.2.2 (fr c o (big c hc).1 (big c hc).2.1 (big c hc).2.2.1 e)) (up _ _ (big _ hN).2.2.2 hp) px py
    refine wpAny_bind (wpAny_updateSeq hL' rfl (wpAny_pure ⟨plainId_quiet F.plain_extend_loop _, ih (i + 1) _ (acc.push (.ref s.heap.objs.size)) _ true _ (by omega) (by omega) (up _ _ (Ne.symm hLz) z') hNT (up T _ (big T hNT).2.2.2 (fr T _ (big T hNT).1 (big T hNT).2.1 (big T hNT).2.2.1 hT)) (up _ _ (Ne.symm hLT) (fr _ _ hTz hTi1 hTi2 hI)) (D1.frame _ _ _ u1 fun b hb o e => up b o (fun q => hL1 (q ▸ hb)) e) (D2.frame _ _ _ u2 fun b hb o e => up b o (fun q => hL2 (q ▸ hb)) e) ?_ (Heap.get?_update_self _ hL' rfl) a1 fun h2 tk2 acc2 c2 fr2 g2 p2 => ?_⟩) (by rw [ha.size]; omega) (by show (acc.push _).size ≤ sizeLine + 1; rw [Array.size_push, ha.size]; omega))
    · show N ≤ (h'.update L _).objs.size
      rw [Heap.size_update, sz]
      exact Nat.le_succ_of_le hN
    · exact hR h2 tk2 acc2 c2 (fun b o b1 b2 b3 b4 e => fr2 b o b1 b2 b3 b4 (up b o b4 (fr b o b1 b2 b3 e))) g2 p2
end
theorem zip_no_len : typeLookup (.type "zip") "__len__" = pure none := am_miss_of_fast (by decide +kernel)
theorem zip_no_hint : typeLookup (.type "zip") "__length_hint__" = pure none := am_miss_of_fast (by decide +kernel)
section
variable {prog : Program} {w : World} {A : Around} {R : Result → Shared → Prop} {s : Shared} {z TI TO i1 i2 : Addr} {f1 f2 : List Addr} {n1 n2 : Nat} {P1 P2 : Nat → Value → Prop} {S1 S2 : Nat → Heap → Prop}
/-- all that is apart -/
structure PqSep (z TI TO i1 i2 : Addr) (f1 f2 : List Addr) (L N : Addr) : Prop where
  S : ZipSep2 z TI TO i1 i2 f1 f2
  L1 : L ∉ f1
  L2 : L ∉ f2
  Lz : L ≠ z
  LT : L ≠ TI
  LO : L ≠ TO
  Tz : TI ≠ z
  Ti1 : TI ≠ i1
  Ti2 : TI ≠ i2
  TT : TI ≠ TO
  big : ∀ c, N ≤ c → c ≠ z ∧ c ≠ i1 ∧ c ≠ i2 ∧ c ≠ L ∧ c ≠ TO
theorem pq_all {L N : Addr} (Y : PqSep z TI TO i1 i2 f1 f2 L N) (D1 : Draws prog w A.in1.in1 i1 f1 n1 P1 S1) (D2 : Draws prog w A.in1.in1 i2 f2 n2 P2 S2) (hn : n1 ≤ sizeLine) {u v res : Value} {c : Nat}
    (hz : IsZip s.heap z TI TO .none) (hI : IsTupOf2 s.heap TI (.ref i1) (.ref i2)) (hO : IsTupOf2 s.heap TO u v) (t1 : S1 0 s.heap) (t2 : S2 0 s.heap) (hN : N ≤ s.heap.objs.size)
    (hL : s.heap.get? L = some { cls := .type "list", dict := none, data := .seq #[] c, slots := #[] })
    (hR : ∀ h' tk acc' c', (∀ b o, b ≠ z → b ≠ TO → b ≠ i1 → b ≠ i2 → b ≠ L → s.heap.get? b = some o → h'.get? b = some o) → h'.get? L = some { cls := .type "list", dict := none, data := .seq acc' c', slots := #[] } → PqAcc h' P1 P2 N acc' (min n1 n2) → R (.ok (.ret res)) { s with heap := h', toks := tk }) :
    codeAny (model prog w) A (.builtin "list.extend.loop" ⟨[.ref L, .ref z, res], []⟩) R s := by
  have Li1 : L ≠ i1 := fun e => Y.L1 (e ▸ Y.S.mem1)
  have Li2 : L ≠ i2 := fun e => Y.L2 (e ▸ Y.S.mem2)
  refine codeAny_builtin F.entry_extend_loop ?_; rw [Around.under_plainId F.plain_extend_loop _]
  show wpAny _ A.in1 (pyNext (.ref z) >>= _) _ _ s
  rcases Nat.eq_zero_or_pos (min n1 n2) with e0 | pos
  · refine wpAny_bind (wpAny_pyNext_zipD2_end Y.S D1 D2 hz hI hO t1 t2 (by omega) (by omega) (by omega) fun h' tk fr => wpAny_pure ?_)
    refine hR h' tk #[] c (fun b o b1 b2 b3 b4 _ e => fr b o b1 b2 b3 b4 e) (fr L _ Y.Lz Y.LO Li1 Li2 hL) ?_
    rw [e0]
    exact PqAcc.nil
  · refine wpAny_bind (wpAny_pyNext_zipD2_item Y.S D1 D2 hz hI hO t1 t2 (by omega) (by omega) fun x y h' tk px py z' _ u1 u2 hp sz fr => ?_)
    have hL' := fr L _ Y.Lz Y.LO Li1 Li2 hL
    show wpAny _ A.in1 (updateSeq L (·.push (.ref s.heap.objs.size)) >>= _) _ _ { s with heap := h', toks := tk }
    have up : ∀ c o, c ≠ L → h'.get? c = some o → (h'.update L (Obj.mapSeq (·.push (.ref s.heap.objs.size)))).get? c = some o := fun c o hc e => (Heap.get?_update_other _ _ (Ne.symm hc)).trans e
    have a1 : PqAcc (h'.update L (Obj.mapSeq (·.push (.ref s.heap.objs.size)))) P1 P2 N ((#[] : Array Value).push (.ref s.heap.objs.size)) (0 + 1) :=
      PqAcc.push (h := s.heap) PqAcc.nil hN (fun c o hc e => up c o (Y.big c hc).2.2.2.1 (fr c o (Y.big c hc).1 (Y.big c hc).2.2.2.2 (Y.big c hc).2.1 (Y.big c hc).2.2.1 e)) (up _ _ (Y.big _ hN).2.2.2.1 hp) px py
    refine wpAny_bind (wpAny_updateSeq hL' rfl (wpAny_pure ⟨plainId_quiet F.plain_extend_loop _, pq_loop Y.S D1 D2 hn L N s.heap.objs.size Y.L1 Y.L2 Y.Lz Y.LT Y.Tz Y.Ti1 Y.Ti2 (fun c hc => ⟨(Y.big c hc).1, (Y.big c hc).2.1, (Y.big c hc).2.2.1, (Y.big c hc).2.2.2.1⟩) res _ 1 _ _ _ false _ rfl (by omega) (up _ _ (Ne.symm Y.Lz) z') hN (up _ _ (Y.big _ hN).2.2.2.1 hp) (up _ _ (Ne.symm Y.LT) (fr _ _ Y.Tz Y.TT Y.Ti1 Y.Ti2 hI)) (D1.frame _ _ _ u1 fun b hb o e => up b o (fun q => Y.L1 (q ▸ hb)) e) (D2.frame _ _ _ u2 fun b hb o e => up b o (fun q => Y.L2 (q ▸ hb)) e) ?_ (Heap.get?_update_self _ hL' rfl) a1 fun h2 tk2 acc2 c2 fr2 g2 p2 => ?_⟩) (Nat.zero_le _) (by show ((#[] : Array Value).push _).size ≤ sizeLine + 1; rw [Array.size_push]; exact Nat.succ_le_succ (Nat.zero_le _)))
    · show N ≤ (h'.update L _).objs.size
      rw [Heap.size_update, sz]
      exact Nat.le_succ_of_le hN
    · exact hR h2 tk2 acc2 c2 (fun b o b1 b2 b3 b4 b5 e => fr2 b o b1 b3 b4 b5 (up b o b5 (fr b o b1 b2 b3 b4 e))) g2 p2
theorem pq_extend {L N : Addr} (Y : PqSep z TI TO i1 i2 f1 f2 L N) (D1 : Draws prog w A.in1.in1 i1 f1 n1 P1 S1) (D2 : Draws prog w A.in1.in1 i2 f2 n2 P2 S2) (hn : n1 ≤ sizeLine) {u v res : Value} {c : Nat}
    (hz : IsZip s.heap z TI TO .none) (hI : IsTupOf2 s.heap TI (.ref i1) (.ref i2)) (hO : IsTupOf2 s.heap TO u v) (t1 : S1 0 s.heap) (t2 : S2 0 s.heap) (hN : N ≤ s.heap.objs.size)
    (hL : s.heap.get? L = some { cls := .type "list", dict := none, data := .seq #[] c, slots := #[] })
    (hR : ∀ h' tk acc' c', (∀ b o, b ≠ z → b ≠ TO → b ≠ i1 → b ≠ i2 → b ≠ L → s.heap.get? b = some o → h'.get? b = some o) → h'.get? L = some { cls := .type "list", dict := none, data := .seq acc' c', slots := #[] } → PqAcc h' P1 P2 N acc' (min n1 n2) → R (.ok (.ret res)) { s with heap := h', toks := tk }) :
    wpAny (model prog w) A.in1 (Builtin.List.listExtendWith (.ref L) (.ref z) res) (fun fin s' => match fin with | .done f => R (.ok f) s' | .again c' => c'.quiet = true ∧ codeAny (model prog w) A c' R s') (fun e s' => R (.error e) s') s := by
  unfold Builtin.List.listExtendWith
  have ty : s.TypeIs (.ref z) "zip" := ⟨_, hz, rfl⟩
  refine wpAny_bind (wpAny_typeOf ty ?_)
  simp only [show Builtin.List.listSameRef (.ref L) (.ref z) = false by simp [Builtin.List.listSameRef, Y.Lz], show (Value.type "zip" == Value.type "list") = false by decide, show (Value.type "zip" == Value.type "tuple") = false by decide, Bool.or_false, Bool.false_eq_true, if_false]
  refine wpAny_bind (wpAny_pyIter_zip hz (wpAny_bind (wpAny_holding ?_)))
  unfold Builtin.List.listLengthHint
  refine wpAny_bind (wpAny_specialOf ty zip_no_len (show wpAny _ A.in1 (specialOf (Value.ref z) (Str.ofString "__length_hint__") >>= _) _ _ s from wpAny_bind (wpAny_specialOf ty zip_no_hint (wpAny_pure ?_))))
  show wpAny _ A.in1 (rule "list.extend.makes-room" >>= fun _ => Builtin.List.listTouch (.ref L) >>= fun _ => again (.builtin "list.extend.loop" ⟨[.ref L, .ref z, res], []⟩)) _ _ s
  refine wpAny_bind (wpAny_rule (wpAny_bind (show wpAny _ A.in1 (updateSeq L (·.push .none) >>= fun _ => updateSeq L (·.pop)) _ _ s from ?_)))
  have h2 := Heap.get?_update_self (Obj.mapSeq (·.push Value.none)) hL rfl
  have h3 := Heap.get?_update_self (Obj.mapSeq (·.pop)) h2 rfl
  refine wpAny_bind (wpAny_updateSeq hL rfl (wpAny_updateSeq (hz := by seq_fits) h2 rfl (wpAny_pure ⟨plainId_quiet F.plain_extend_loop _, ?_⟩)))
  have up : ∀ c o, c ≠ L → s.heap.get? c = some o → ((s.heap.update L (Obj.mapSeq (·.push Value.none))).update L (Obj.mapSeq (·.pop))).get? c = some o := fun c o hc e => (Heap.get?_update_other _ _ (Ne.symm hc)).trans ((Heap.get?_update_other _ _ (Ne.symm hc)).trans e)
  refine pq_all Y D1 D2 hn (up _ _ (Ne.symm Y.Lz) hz) (up _ _ (Ne.symm Y.LT) hI) (up _ _ (Ne.symm Y.LO) hO) (D1.frame _ _ _ t1 fun b hb o e => up b o (fun q => Y.L1 (q ▸ hb)) e) (D2.frame _ _ _ t2 fun b hb o e => up b o (fun q => Y.L2 (q ▸ hb)) e) ?_ h3 fun h' tk acc' c' fr g p => ?_
  · show N ≤ ((s.heap.update L _).update L _).objs.size
    rw [Heap.size_update, Heap.size_update]
    exact hN
  · exact hR h' tk acc' c' (fun b o b1 b2 b3 b4 b5 e => fr b o b1 b2 b3 b4 b5 (up b o b5 e)) g p
theorem pq_call {N : Addr} {E : Value → Shared → Prop} {Q : Value → Shared → Prop} (Y : PqSep z TI TO i1 i2 f1 f2 s.heap.objs.size N) (D1 : Draws prog w A.in1.in1.in1 i1 f1 n1 P1 S1) (D2 : Draws prog w A.in1.in1.in1 i2 f2 n2 P2 S2) (hn : n1 ≤ sizeLine) {u v : Value}
    (hz : IsZip s.heap z TI TO .none) (hI : IsTupOf2 s.heap TI (.ref i1) (.ref i2)) (hO : IsTupOf2 s.heap TO u v) (t1 : S1 0 s.heap) (t2 : S2 0 s.heap) (hN : N = s.heap.objs.size + 1)
    (hQ : ∀ h' tk acc' c', (∀ b o, b ≠ z → b ≠ TO → b ≠ i1 → b ≠ i2 → s.heap.get? b = some o → h'.get? b = some o) → h'.get? s.heap.objs.size = some { cls := .type "list", dict := none, data := .seq acc' c', slots := #[] } → PqAcc h' P1 P2 N acc' (min n1 n2) → Q (.ref s.heap.objs.size) { s with heap := h', toks := tk }) :
    wpAny (model prog w) A (call (.type "list") [.ref z]) Q E s := by
  refine callType_codes (Q₁ := fun obj s₁ => obj = .ref s.heap.objs.size ∧ s₁ = { s with heap := s.heap.push { cls := .type "list", data := .seq #[] } }) F.called_list (F.typeCall_list_1 _) F.entry_list_init (code_list_new _ ⟨rfl, rfl⟩) fun obj s₁ h₁ => ?_
  obtain ⟨rfl, rfl⟩ := h₁
  have hS : (s.heap.push { cls := .type "list", data := .seq #[] }).get? s.heap.objs.size = some { cls := .type "list", data := .seq #[] } := Heap.get?_push_size _ rfl
  refine ⟨⟨_, hS, rfl⟩, F.args_list_init_2 _ _, ?_⟩
  show wpAny _ _ (do let old ← Builtin.List.listItems (.ref s.heap.objs.size); Builtin.List.listUpdate (.ref s.heap.objs.size) (fun _ => #[]); letGo old.toList.reverse; Builtin.List.listExtendWith (.ref s.heap.objs.size) (.ref z) .none) _ _ _
  refine wpAny_bind ?_; unfold Builtin.List.listItems
  refine wpAny_bind (wpAny_seqItems hS rfl (wpAny_pure (show wpAny _ _ (updateSeq s.heap.objs.size (fun _ => #[]) >>= fun _ => letGo (#[] : Array Value).toList.reverse >>= fun _ => Builtin.List.listExtendWith (.ref s.heap.objs.size) (.ref z) .none) _ _ _ from ?_)))
  have h2 := Heap.get?_update_self (Obj.mapSeq (fun _ => (#[] : Array Value))) hS rfl
  refine wpAny_bind (wpAny_updateSeq hS rfl (wpAny_bind (wpAny_letGo ?_)))
  have up : ∀ c o, s.heap.get? c = some o → ((s.heap.push { cls := .type "list", data := .seq #[] }).update s.heap.objs.size (Obj.mapSeq (fun _ => (#[] : Array Value)))).get? c = some o := fun c o e => (Heap.get?_update_other _ _ (Nat.ne_of_gt (Heap.lt_size e))).trans (Heap.get?_push_of_some _ e)
  refine pq_extend (A := A.in1) Y D1 D2 hn (up _ _ hz) (up _ _ hI) (up _ _ hO) (D1.frame _ _ _ t1 fun b hb o e => up b o e) (D2.frame _ _ _ t2 fun b hb o e => up b o e) ?_ h2 fun h' tk acc' c' fr g p => ?_
  · show N ≤ ((s.heap.push _).update _ _).objs.size
    rw [Heap.size_update, Heap.size_push, hN]; exact Nat.le_refl _
  · exact ⟨rfl, hQ h' tk acc' c' (fun b o b1 b2 b3 b4 e => fr b o b1 b2 b3 b4 (Nat.ne_of_lt (Heap.lt_size e)) (up b o e)) g p⟩
end
end PySem
namespace Py
open PySem L2
open Evl (Ex)
theorem inv_many {X : Cx} {pins : List (Addr × Obj)} {σ : Sl} {H H' : Hp} {s : Shared} {h' : Heap} {t' : Nat} (I : Inv X pins σ H s) (k : ∀ b u, s.heap.get? b = some u → h'.get? b = some u) (lo : ∀ b, b < s.heap.objs.size → H' b = H b)
    (new : ∀ b o, s.heap.objs.size ≤ b → H' b = some o → ObjOk X.prog X.w H' h' b o) : Inv X pins σ H' { s with heap := h', toks := t' } := by
  have same : ∀ b o, H b = some o → H' b = some o := fun b o e => by rw [lo b (I.hok.lt e)]; exact e
  refine I.un ⟨fun b u q _ _ _ => k b u q, fun b u q _ _ _ => ⟨u.slots, k b u q⟩, fun b u q n _ => by rw [lo b (Heap.lt_size q)]; exact n, fun b u q _ => ⟨u, k b u q⟩, fun b xs q => same b _ q, fun b o u q => same b _ q, fun b ps q => ⟨#[], by rw [same b _ q]; simp⟩⟩ fun b o e => ?_
  rcases Nat.lt_or_ge b s.heap.objs.size with hb | hb
  · rw [lo b hb] at e
    exact (I.hok b o e).stay (fun c v _ q => k c v q) (fun c q => same c _ q) fun c xs q => same c _ q
  · exact new b o hb e
def pqH (H : Hp) : List (Addr × V × V) → Hp
  | [] => H
  | t :: ts => upd (pqH H ts) t.1 (.tup [t.2.1, t.2.2])
theorem pqH_out {H : Hp} {a : Addr} : ∀ {ts : List (Addr × V × V)}, a ∉ ts.map (·.1) → pqH H ts a = H a
  | [], _ => rfl
  | t :: ts, h => by
    rw [List.map_cons, List.mem_cons, not_or] at h
    rw [pqH, upd_ne h.1]
    exact pqH_out h.2
theorem pqH_in {H : Hp} : ∀ {ts : List (Addr × V × V)} {t : Addr × V × V}, (ts.map (·.1)).Nodup → t ∈ ts → pqH H ts t.1 = some (.tup [t.2.1, t.2.2])
  | [], t, _, h => by simp at h
  | u :: ts, t, nd, h => by
    rw [List.map_cons, List.nodup_cons] at nd
    rcases List.mem_cons.mp h with rfl | h
    · rw [pqH, upd_same]
    · have : t.1 ≠ u.1 := fun e => nd.1 (e ▸ List.mem_map.mpr ⟨t, h, rfl⟩)
      rw [pqH, upd_ne this]
      exact pqH_in nd.2 h
theorem pqH_gr [KK] {Hk H : Hp} (x : Ex Hk H) : ∀ {ts : List (Addr × V × V)}, (ts.map (·.1)).Nodup → (∀ t ∈ ts, H t.1 = none) → Gr Hk H (pqH Hk ts) (pqH H ts)
  | [], _, _ => Gr.refl x
  | t :: ts, nd, h => by
    rw [List.map_cons, List.nodup_cons] at nd
    have g := pqH_gr x nd.2 fun u hu => h u (List.mem_cons_of_mem _ hu)
    exact g.trans (Gr.new g.kh (by rw [pqH_out nd.1]; exact h t (by simp)))
theorem sIs_at {t : Bool} {h h' : Heap} {a : Addr} {items : Array Value} (x : sIs t h a items) (k : ∀ c o, h.get? c = some o → h'.get? c = some o) : sIs t h' a items := by
  cases t with
  | false => obtain ⟨o, e, r⟩ := (show h.IsList a items from x); exact ⟨o, k _ _ e, r⟩
  | true => exact (show h.IsTuple a items from x).at fun o e => k _ _ e
theorem nn_gt {a b : Nat} (h : b < a) : a ≠ b := Nat.ne_of_gt h
theorem pq_sep {N a b : Nat} (la : a < N) (lb : b < N) (S : ZipSep2 (N + 4) (N + 2) (N + 3) N (N + 1) [N, a] [N + 1, b]) : PqSep (N + 4) (N + 2) (N + 3) N (N + 1) [N, a] [N + 1, b] (N + 5) (N + 6) where
  S := S
  L1 := by simp only [List.mem_cons, List.not_mem_nil, or_false]; exact fun h => h.elim (fun z : N + 5 = N => by omega) (fun z : N + 5 = a => by omega)
  L2 := by simp only [List.mem_cons, List.not_mem_nil, or_false]; exact fun h => h.elim (fun z : N + 5 = N + 1 => by omega) (fun z : N + 5 = b => by omega)
  Lz := show (N + 5 : Nat) ≠ N + 4 by omega
  LT := show (N + 5 : Nat) ≠ N + 2 by omega
  LO := show (N + 5 : Nat) ≠ N + 3 by omega
  Tz := show (N + 2 : Nat) ≠ N + 4 by omega
  Ti1 := show (N + 2 : Nat) ≠ N by omega
  Ti2 := show (N + 2 : Nat) ≠ N + 1 by omega
  TT := show (N + 2 : Nat) ≠ N + 3 by omega
  big := fun c (hc : N + 6 ≤ c) => ⟨nn_gt (Nat.lt_of_lt_of_le (show N + 4 < N + 6 by omega) hc), nn_gt (Nat.lt_of_lt_of_le (show N < N + 6 by omega) hc), nn_gt (Nat.lt_of_lt_of_le (show N + 1 < N + 6 by omega) hc), nn_gt (Nat.lt_of_lt_of_le (show N + 5 < N + 6 by omega) hc), nn_gt (Nat.lt_of_lt_of_le (show N + 3 < N + 6 by omega) hc)⟩
/-- the rows of a zip as values -/
def zipV : List V → List V → List (V × V)
  | a :: as, b :: bs => (a, b) :: zipV as bs
  | _, _ => []
theorem zipV_len : ∀ a b : List V, (zipV a b).length = min a.length b.length
  | [], _ => by simp [zipV]
  | _ :: _, [] => by simp [zipV]
  | a :: as, b :: bs => by simp [zipV, zipV_len as bs]
theorem zipV_get : ∀ {a b : List V} {i : Nat} {x y : V}, a[i]? = some x → b[i]? = some y → (zipV a b)[i]? = some (x, y)
  | [], _, i, x, y, h, _ => by simp at h
  | _ :: _, [], i, x, y, _, h => by simp at h
  | a :: as, b :: bs, 0, x, y, h, k => by simp at h k; subst h k; rfl
  | a :: as, b :: bs, i + 1, x, y, h, k => by
    have := zipV_get (i := i) (by simpa using h) (by simpa using k)
    simpa [zipV] using this
section
variable [KK] {X : Cx} [ok : OK X] {W : WX} {e e' : Expr} {φ ψ : En → R Rv} {p p2 pos pos2 : Pos}
theorem sr_len {pins : List (Addr × Obj)} {σ : Sl} {H : Hp} {s : Shared} {t : Bool} {a : Addr} {xs : List V} (I : Inv X pins σ H s) (h : SR t H a xs) : xs.length ≤ sizeLine := by
  cases t with
  | false =>
    obtain ⟨l, its, n, r, _, g⟩ := rd_list I (show Rl H a xs from h)
    assumption
  | true =>
    obtain ⟨its, r, p, l⟩ := I.tuple (a := a) (xs := xs) (.inl (show Rd H a (.tup xs) from h))
    exact l
def rLz (ta : TA) : TE := fun σ H Q => ta σ H fun vs H1 => ∃ t1 t2 a b xs ys, vs = [.ref a, .ref b] ∧ SR t1 H1 a xs ∧ SR t2 H1 b ys ∧
  ∀ (L : Addr) (ts : List (Addr × V × V)), (ts.map (·.1)).Nodup → ts.map (·.2) = zipV xs ys → (∀ t ∈ ts, H1 t.1 = none) → H1 L = none → L ∉ ts.map (·.1) → Q (.ref L) (upd (pqH H1 ts) L (.lst (ts.map fun t => V.ref t.1)))
theorem pe_lz {ta : TA} (hc : X.calm = true) (hg : Gl X "list") (hm : X.mg "list" = none) (hg2 : Gl X "zip") (hm2 : X.mg "zip" = none) (ha : PA X [e, e'] ta)
    (hs : starEach [e, e'] X.env = (false, eval e X.env) :: starEach [e'] X.env) (hpl : (backTo pos2 (starEach [e'] X.env)).any (·.1) = false)
    (na : starEach [.Call (.Name "zip" p2) [e, e'] [] pos2] X.env = (false, eval (.Call (.Name "zip" p2) [e, e'] [] pos2) X.env) :: starEach [] X.env) :
    PE X (.Call (.Name "list" p) [.Call (.Name "zip" p2) [e, e'] [] pos2] [] pos) (rLz ta) := by
  refine ⟨fun pins s σ H Q I h => ?_⟩
  refine PyProof.Rows.Call_ (ld_blt I hg hm PyProof.Rows.boot_list (PyProof.Rows.callWith_type1 (PyProof.Rows.args_cons (PyProof.Rows.Call_ (ld_blt I hg2 hm2 PyProof.Rows.boot_zip (PyProof.Rows.callWith_type1 (thn (ha.run pos2 pins s σ H _ I h) fun us s1 hh => ?_) hs hpl))) na) na))
  obtain ⟨vs, H1, I1, r1, t1, t2, a, b, xs, ys, ex, g1, g2, q⟩ := hh
  have hn := sr_len I1 g1
  subst ex
  obtain ⟨v1, v2, rfl, ra, rb⟩ := vals2 r1
  cases ra
  cases rb
  obtain ⟨its, rv, is1, la⟩ := SR.is I1 g1
  obtain ⟨its2, rv2, is2, lb⟩ := SR.is I1 g2
  refine zip_begins2 (begins_s t1 a its.toArray) (begins_s t2 b its2.toArray) is1 is2 fun h' hz hTI hTO h1 h2 hsz hk => PyProof.Rows.args_nil ?_
  have hh := I1.ok.hd hc
  have k1 : its.toArray.size = xs.length := by rw [List.size_toArray, rv.length]
  have k2 : its2.toArray.size = ys.length := by rw [List.size_toArray, rv2.length]
  have S : ZipSep2 (s1.heap.objs.size + 4) (s1.heap.objs.size + 2) (s1.heap.objs.size + 3) s1.heap.objs.size (s1.heap.objs.size + 1) [s1.heap.objs.size, a] [s1.heap.objs.size + 1, b] := zip_sep2 (fun c hc => by rw [List.mem_singleton.mp hc]; exact la) (fun c hc => by rw [List.mem_singleton.mp hc]; exact lb)
  have Y : PqSep (s1.heap.objs.size + 4) (s1.heap.objs.size + 2) (s1.heap.objs.size + 3) s1.heap.objs.size (s1.heap.objs.size + 1) [s1.heap.objs.size, a] [s1.heap.objs.size + 1, b] h'.objs.size (s1.heap.objs.size + 6) := by
    rw [hsz]
    exact pq_sep la lb S
  have is1' : sIs t1 h' a its.toArray := sIs_at is1 hk
  have is2' : sIs t2 h' b its2.toArray := sIs_at is2 hk
  refine pq_call (s := { s1 with heap := h' }) Y (draws_s (A := X.A.in1.in1.in1) t1 hh s1.heap.objs.size a (Nat.ne_of_lt la) its.toArray) (draws_s (A := X.A.in1.in1.in1) t2 hh (s1.heap.objs.size + 1) b (Nat.ne_of_lt (Nat.lt_succ_of_lt lb)) its2.toArray) (by rw [k1]; exact hn) hz hTI hTO ⟨sIt_zero h1, is1'⟩ ⟨sIt_zero h2, is2'⟩ (by show _ = h'.objs.size + 1; rw [hsz]) fun h2 tk acc c fr gL ac => ?_
  obtain ⟨ts, ea, el, nd, big, al⟩ := ac
  have lz : ts.length = (zipV xs ys).length := by rw [zipV_len, el, k1, k2]
  have m1 : (ts.zip (zipV xs ys)).map (·.1) = ts := List.map_fst_zip (Nat.le_of_eq lz)
  have m2 : (ts.zip (zipV xs ys)).map (·.2) = zipV xs ys := List.map_snd_zip (Nat.le_of_eq lz.symm)
  have fre : ∀ t ∈ ts.zip (zipV xs ys), H1 t.1 = none := fun t ht => I1.hok.fresh (Nat.le_trans (by omega) (big t.1 (List.of_mem_zip ht).1))
  have kk : ∀ b u, s1.heap.get? b = some u → h2.get? b = some u := fun b u q => by
    have lt : (b : Nat) < s1.heap.objs.size := Heap.lt_size q
    exact fr b u (Nat.ne_of_lt (Nat.lt_of_lt_of_le lt (Nat.le_add_right _ 4))) (Nat.ne_of_lt (Nat.lt_of_lt_of_le lt (Nat.le_add_right _ 3))) (Nat.ne_of_lt lt) (Nat.ne_of_lt (Nat.lt_of_lt_of_le lt (Nat.le_add_right _ 1))) (hk b u q)
  have hL0 : H1 h'.objs.size = none := I1.hok.fresh (by omega)
  have hLt : h'.objs.size ∉ (ts.zip (zipV xs ys)).map (·.1) := by
    rw [m1]
    intro hm
    have := big _ hm
    omega
  refine ⟨.ref h'.objs.size, upd (pqH H1 (ts.zip (zipV xs ys))) h'.objs.size (.lst ((ts.zip (zipV xs ys)).map fun t => V.ref t.1)), inv_many (s := s1) I1 kk (fun b hb => ?_) (fun b o hb e => ?_), rfl, q h'.objs.size _ (by rw [m1]; exact nd) m2 fre hL0 hLt⟩
  · rw [upd_ne (Nat.ne_of_lt (by omega)), pqH_out]
    rw [m1]
    intro hm
    have := big _ hm
    omega
  · by_cases hbL : b = h'.objs.size
    · subst hbL
      rw [upd_same] at e
      cases e
      have em : (ts.zip (zipV xs ys)).map (fun t => V.ref t.1) = ts.map V.ref := by
        rw [show (fun t : Addr × V × V => V.ref t.1) = V.ref ∘ (·.1) from rfl, ← List.map_map, m1]
      rw [em]
      refine ⟨by rw [List.length_map, el, k1]; omega, ts.map Value.ref, c, ?_, by rw [← ea]; exact gL⟩
      clear em ea el nd big al lz m1 m2 fre hLt
      induction ts with
      | nil => exact .nil
      | cons t ts ih => exact .cons rfl ih
    · rw [upd_ne hbL] at e
      by_cases hbt : b ∈ (ts.zip (zipV xs ys)).map (·.1)
      · obtain ⟨t, ht, rfl⟩ := List.mem_map.mp hbt
        rw [pqH_in (by rw [m1]; exact nd) ht] at e
        cases e
        obtain ⟨j, hj, et⟩ := List.getElem_of_mem ht
        have hj2 : j < min xs.length ys.length := by
          rw [List.length_zip, lz, zipV_len] at hj
          omega
        have ez : (zipV xs ys)[j]? = some (xs[j]'(by omega), ys[j]'(by omega)) := zipV_get (List.getElem?_eq_getElem (by omega)) (List.getElem?_eq_getElem (by omega))
        have et1 : ts[j]? = some t.1 := by
          rw [← et, List.getElem_zip]
          exact List.getElem?_eq_getElem _
        have et2 : t.2 = (xs[j]'(by omega), ys[j]'(by omega)) := by
          have : (zipV xs ys)[j]? = some t.2 := by
            rw [← et, List.getElem_zip]
            exact List.getElem?_eq_getElem _
          rw [ez] at this
          exact (Option.some.inj this).symm
        obtain ⟨x, y, hp, px, py⟩ := al j t.1 et1
        obtain ⟨u1, e1, ru1⟩ := rv.get (List.getElem?_eq_getElem (show j < xs.length by omega))
        obtain ⟨u2, e2, ru2⟩ := rv2.get (List.getElem?_eq_getElem (show j < ys.length by omega))
        have q1 : its[j]? = some x := by simpa using px
        have q2 : its2[j]? = some y := by simpa using py
        rw [q1] at e1
        rw [q2] at e2
        cases e1
        cases e2
        rw [et2]
        exact ⟨by show 2 ≤ sizeLine; decide, [x, y], .cons ru1 (.cons ru2 .nil), ⟨_, hp, rfl, _, rfl⟩⟩
      · rw [pqH_out hbt] at e
        rw [I1.hok.fresh hb] at e
        cases e
def eLz (φ ψ : En → R Rv) : En → R Rv := fun ρ => φ ρ >>= fun x => ψ ρ >>= fun y => z2 (frz x) (frz y) >>= fun a => if a.2.length ≤ 1000000 then .ok (.own a.2) else .bad
theorem zipV_rp {Hk : Hp} {xs ys : List V} {ds es : List PyData} (h : RpAll Hk xs ds) (k : RpAll Hk ys es) : ∀ {ts : List (Addr × V × V)} {Hk' : Hp}, Ex Hk Hk' → ts.map (·.2) = zipV xs ys → (∀ t ∈ ts, Hk' t.1 = some (.tup [t.2.1, t.2.2])) → RpAll Hk' (ts.map fun t => V.ref t.1) (zipD ds es) := by
  induction xs generalizing ys ds es with
  | nil =>
    intro ts Hk' _ e _
    cases h
    have : ts = [] := by cases ts with | nil => rfl | cons t ts => simp [zipV] at e
    subst this
    rw [zipD]
    · exact .nil
    all_goals simp
  | cons x xs ih =>
    intro ts Hk' hx e al
    cases h with
    | cons h1 h2 =>
      cases k with
      | nil =>
        have : ts = [] := by cases ts with | nil => rfl | cons t ts => simp [zipV] at e
        subst this
        rw [zipD]
        · exact .nil
        all_goals simp
      | cons k1 k2 =>
        cases ts with
        | nil => simp [zipV] at e
        | cons t ts =>
          rw [zipV, List.map_cons] at e
          injection e with e1 e2
          rw [List.map_cons, zipD]
          refine .cons ?_ (ih h2 k2 hx e2 fun u hu => al u (List.mem_cons_of_mem _ hu))
          have q := al t (by simp)
          rw [e1] at q
          exact .tup (.inl q) (.cons (Rp.up hx h1) (.cons (Rp.up hx k1) .nil))
theorem d_lz (hc : X.calm = true) (h : PE X e (te X.K W φ)) (h' : PE X e' (te X.K W ψ)) (hm : X.mg "list" = none) (hm2 : X.mg "zip" = none) (hg : Gl X "list" := by rfl) (hg2 : Gl X "zip" := by rfl) (hs : starEach [e, e'] X.env = (false, eval e X.env) :: starEach [e'] X.env := by rfl) (hs2 : starEach [e'] X.env = (false, eval e' X.env) :: starEach [] X.env := by rfl)
    (hpl : (backTo pos2 (starEach [e'] X.env)).any (·.1) = false := by rfl) (na : starEach [.Call (.Name "zip" p2) [e, e'] [] pos2] X.env = (false, eval (.Call (.Name "zip" p2) [e, e'] [] pos2) X.env) :: starEach [] X.env := by rfl) :
    PE X (.Call (.Name "list" p) [.Call (.Name "zip" p2) [e, e'] [] pos2] [] pos) (te X.K W (eLz φ ψ)) :=
  pe_imp (pe_lz hc hg hm hg2 hm2 (pa_cons h (pa_cons h' pa_nil hs2) hs) hs hpl na) fun σ H Q ⟨Hk0, H0, Hk, ρ, r, p⟩ =>
    te_thenF (g := fun x => ψ ρ >>= fun y => z2 x (frz y) >>= fun a => if a.2.length ≤ 1000000 then .ok (.own a.2) else .bad) r p fun x v Hk1 H1 g1 d1 n1 r1 p1 =>
      te_thenF (g := fun y => z2 x y >>= fun a => if a.2.length ≤ 1000000 then .ok (.own a.2) else .bad) r1 (PostE.up g1 p1) fun y u Hk' H' g d n r' p' => by
        unfold z2 at p'
        cases q : seqOf x with
        | err c => exact absurd q seqOf_no
        | bad => rw [q] at p'; exact p'.elim
        | ok a =>
          rw [q] at p'
          cases q2 : seqOf y with
          | err c => exact absurd q2 seqOf_no
          | bad => rw [q2] at p'; exact p'.elim
          | ok b =>
            rw [q2] at p'
            have p' : PostE X.K W Hk1 H1 σ Q (if (zipD a.2 b.2).length ≤ 1000000 then .ok (.own (zipD a.2 b.2)) else .bad) := p'
            split at p'
            · rename_i hz
              obtain ⟨l1, xs, rfl, ra, s1, k1⟩ := seqOf_SR q g.kh (Den.up g d1)
              obtain ⟨l2, ys, rfl, rb, s2, k2⟩ := seqOf_SR q2 g.kh d
              refine ⟨_, _, l1, l2, xs, ys, rfl, s1, s2, fun L ts nd em fr hL hLt => ?_⟩
              have g2 := pqH_gr g.kh nd fr
              have hLp : pqH H' ts L = none := by rw [pqH_out hLt]; exact hL
              have g3 := g2.trans (Gr.own (o := .lst (ts.map fun t => V.ref t.1)) g2.kh hLp)
              have hkk : ∀ t ∈ ts, pqH Hk' ts t.1 = some (.tup [t.2.1, t.2.2]) := fun t ht => pqH_in nd ht
              exact p' _ _ _ (g.trans g3) ⟨L, rfl, Evl.fresh_back g.h hL⟩ ⟨L, _, rfl, by rw [pqH_out hLt]; exact Evl.fresh_back g.kh hL, upd_same, zipV_rp ra rb g2.k em hkk⟩
            · exact p'.elim
end
end Py

set_option Elab.async false
set_option linter.all false
set_option maxRecDepth 100000
set_option autoImplicit false
set_option maxHeartbeats 4000000
/-! PyT: try .. except C as e, isinstance of the caught error; the head's facts for them. -/
namespace Py
open PySem L2
open Evl (Ex)
/-! facts -/
inductive XF where
  | isx (x : Str)
  | kit (x y : Str) (b : Bool)
  | exm (x y : Str)
def XF.ok (K : PySem.W.Frag) : XF → Bool
  | .isx x => He.eqO (PySem.W.findIn K (.ref (He.ga K x)) "__getattribute__") (some (some (.builtin "BaseException.__getattribute__"))) && (He.eqO (PySem.W.findIn K (.ref (He.ga K x)) "__getattr__") (some none) && (decide (PySem.W.subIn K (.ref (He.ga K x)) (.type "BaseException") = some true) && (PySem.W.hasDictIn K (He.ga K x) &&
    (He.eqO (PySem.W.findIn K (.ref (He.ga K x)) "__class__") (some (some (.builtin "object.__class__"))) && (He.eqO (PySem.W.specialIn K (.builtin "object.__class__") "__get__") (some (some (.builtin "getset_descriptor.__get__"))) && (decide (PySem.W.takesIn K (.builtin "object.__class__") = some true) && decide (PySem.W.mroIn K (He.ga K x) (.type "object") = some true)))))))
  | .kit x y b => decide (PySem.W.kitOne K (.ref (He.ga K x)) (.ref (He.ga K y)) = some b)
  | .exm x y => decide (PySem.W.exmOne K (.ref (He.ga K x)) (.ref (He.ga K y)) = some true)
theorem exx_ok {K : PySem.W.Frag} {x y : Str} (c : (XF.exm x y).ok K = true) : PySem.W.exmOne K (.ref (He.ga K x)) (.ref (He.ga K y)) = some true := of_decide_eq_true c
theorem isx_ok {K : PySem.W.Frag} {x : Str} (c : (XF.isx x).ok K = true) : ExcC K (He.ga K x) := by
  obtain ⟨h1, c⟩ := He.ba c
  obtain ⟨h2, c⟩ := He.ba c
  obtain ⟨h3, c⟩ := He.ba c
  obtain ⟨h4, c⟩ := He.ba c
  obtain ⟨h5, c⟩ := He.ba c
  obtain ⟨h6, c⟩ := He.ba c
  obtain ⟨h7, h8⟩ := He.ba c
  exact ⟨He.eqO_ok h1, He.eqO_ok h2, of_decide_eq_true h3, h4, He.eqO_ok h5, He.eqO_ok h6, of_decide_eq_true h7, of_decide_eq_true h8⟩
theorem kit_ok {K : PySem.W.Frag} {x y : Str} {b : Bool} (c : (XF.kit x y b).ok K = true) : PySem.W.kitOne K (.ref (He.ga K x)) (.ref (He.ga K y)) = some b := of_decide_eq_true c
/-- the facts of the classes cs under base, asked for ys -/
def xfOf (cs : List Str) (base : Str) (ys : List Str) : List XF := cs.map XF.isx ++ (cs.map (fun c => XF.exm c base) ++ ys.flatMap fun y => cs.map fun c => XF.kit c y (decide (c = y)))
theorem xf_isx {cs ys : List Str} {base c : Str} (h : c ∈ cs) : XF.isx c ∈ xfOf cs base ys := List.mem_append_left _ (List.mem_map.mpr ⟨c, h, rfl⟩)
theorem xf_exm {cs ys : List Str} {base c : Str} (h : c ∈ cs) : XF.exm c base ∈ xfOf cs base ys := List.mem_append_right _ (List.mem_append_left _ (List.mem_map.mpr ⟨c, h, rfl⟩))
theorem xf_kit {cs ys : List Str} {base c y : Str} (h : c ∈ cs) (hy : y ∈ ys) : XF.kit c y (decide (c = y)) ∈ xfOf cs base ys := List.mem_append_right _ (List.mem_append_right _ (List.mem_flatMap.mpr ⟨y, hy, List.mem_map.mpr ⟨c, h, rfl⟩⟩))
abbrev AlX : Type := He.AlD × Bool
def obsX (n : Nat) (fa : List He.Fa) (fn : List He.DefD) (xf : List XF) (g : Addr → Option Obj) : AlX := (He.obsDG n fa fn g, xf.all fun f => f.ok (He.frG g (He.asD g n)))
def SaysX (fa : List He.Fa) (fn : List He.DefD) (xf : List XF) (K : PySem.W.Frag) : Prop := He.SaysD fa fn K ∧ (xf.all fun f => f.ok K) = true
def hookX (n : Nat) (fa : List He.Fa) (fn : List He.DefD) (xf : List XF) : PySem.W.Hook where
  α := AlX
  obs := fun s => obsX n fa fn xf s.heap.get?
  val := fun _ => (He.valD fn, true)
  says := fun _ h => ∃ K : PySem.W.Frag, K.In h ∧ SaysX fa fn xf K
  of := fun _ _ e => ⟨_, He.frG_in, congrArg (fun z : AlX => z.1) e, congrArg (fun z : AlX => z.2) e⟩
  keeps := fun _ _ _ ⟨K, hK, c⟩ k => ⟨K, PySem.W.Frag.In.keeps hK k, c⟩
theorem obsX_eq {n : Nat} {fa : List He.Fa} {fn : List He.DefD} {xf : List XF} {g : Addr → Option Obj} {s : Shared} (h : ∀ a, g a = s.heap.get? a) : obsX n fa fn xf g = (hookX n fa fn xf).obs s := by
  have e : g = s.heap.get? := funext h
  rw [e] <;> rfl
theorem SaysX.fact {fa : List He.Fa} {fn : List He.DefD} {xf : List XF} {K : PySem.W.Frag} (c : SaysX fa fn xf K) (i : Nat) {f : He.Fa} (h : fa[i]? = some f := by rfl) : f.ok K = true := He.SaysD.fact c.1 i h
theorem SaysX.def_ {fa : List He.Fa} {fn : List He.DefD} {xf : List XF} {K : PySem.W.Frag} (c : SaysX fa fn xf K) (i : Nat) {d : He.DefD} (h : fn[i]? = some d := by rfl) : ∃ fd, FunD K d.name d.qual d.params d.body d.scope (d.dvs K) (d.kws K) (He.fAd K d.at_) fd := He.SaysD.def_ c.1 i h
theorem SaysX.xf {fa : List He.Fa} {fn : List He.DefD} {xf : List XF} {K : PySem.W.Frag} (c : SaysX fa fn xf K) {f : XF} (h : f ∈ xf) : f.ok K = true := List.all_eq_true.mp c.2 f h
variable [KK]
/-! isinstance(e, C) in the suite -/
def eRaw (i : Nat) (a : Addr) (b : Bool) : En → R Rv := fun ρ => match ρ[i]? with
  | some (some (.raw a')) => if a' = a then .ok (.val (.bool b)) else .bad
  | _ => .bad
section
variable {X : Cx} [ok : OK X] {W : WX} {a : Addr} {oe : Obj} {pn : List (Addr × Obj)} {c x y : Str} {i : Nat} {b : Bool} {p p1 p2 pos : Pos}
theorem d_isx (i : Nat) (C : ExcC X.K (He.ga X.K c)) (hz : Zc (.ref (He.ga X.K c)) none oe) (hf : ∃ vs, oe.data = .fields vs) (hk : PySem.W.kitOne X.K (.ref (He.ga X.K c)) (.ref (He.ga X.K y)) = some b) (hm : X.mg "isinstance" = none) (hy : X.mg y = some (.ref (He.ga X.K y)))
    (hi : X.N[i]? = some x := by rfl) (hv : Vis X.env.scope x := by first | exact Or.inl rfl | exact Or.inr (Or.inl rfl) | exact Or.inr (Or.inr rfl)) (hd : (x == ("__debug__" : Str)) = false := by decide) (hcd : (x == ("__classdict__" : Str)) = false := by decide)
    (hg : Gl X "isinstance" := by rfl) (hgy : Gl X y := by rfl) (hdy : (y == ("__debug__" : Str)) = false := by decide)
    (h1 : starEach [.Name x p1, .Name y p2] X.env = (false, eval (.Name x p1) X.env) :: starEach [.Name y p2] X.env := by rfl) (h2 : starEach [.Name y p2] X.env = (false, eval (.Name y p2) X.env) :: starEach [] X.env := by rfl)
    (hpl : (backTo pos (starEach [.Name y p2] X.env)).any (·.1) = false := by rfl) : PE (X.suite a ((a, oe) :: pn)) (.Call (.Name "isinstance" p) [.Name x p1, .Name y p2] [] pos) (te X.K W (eRaw i a b)) :=
  pe_imp (pe_callB (X := X.suite a ((a, oe) :: pn)) (call_isE C hz hf) hg hm (by decide +kernel) (pa_cons (pe_var hi hv hd hcd) (pa_cons (pe_glob (v := .ref (He.ga X.K y)) hgy hy rfl hdy) pa_nil h2) h1) (by decide) (by decide) h1 hpl) fun σ H Q ⟨Hk0, H0, Hk, ρ, r, p⟩ => by
    unfold eRaw at p
    split at p
    · rename_i a' ha
      split at p
      · rename_i e
        subst e
        exact ⟨_, r.raw i _ ha, .ref (He.ga X.K y), .ref (He.ga X.K y), b, rfl, fun u ru => ru, hk, p _ Hk H (Gr.refl r.kh) trivial (Rp.bl b)⟩
      · exact p.elim
    · exact p.elim
end
/-! try -/
def rawAt (n i : Nat) (a : Addr) : En := (List.replicate n none).set i (some (.raw a))
theorem rawAt_get {n i j : Nat} {a : Addr} {c : Cl} (h : (rawAt n i a)[j]? = some (some c)) : j = i ∧ c = .raw a ∧ i < n := by
  unfold rawAt at h
  rw [get_set] at h
  split at h
  · rename_i e
    split at h
    · rename_i hl
      cases h
      exact ⟨e.symm, rfl, by simpa using hl⟩
    · cases h
  · rw [List.getElem?_replicate] at h
    split at h <;> cases h
theorem rel_raw {Hk0 H0 Hk H : Hp} {σ : Sl} {n i : Nat} {a : Addr} (g : Gr Hk0 H0 Hk H) (hl : σ.length = n) (hs : i < n → σ[i]? = some (some (.ref a))) : Rel Hk0 H0 Hk H σ (rawAt n i a) where
  len := by unfold rawAt; rw [List.length_set, List.length_replicate]; exact hl
  gr := g
  val := fun j d q => by obtain ⟨_, z, _⟩ := rawAt_get q; cases z
  own := fun j d q => by obtain ⟨_, z, _⟩ := rawAt_get q; cases z
  sep := fun j k d e p q => by obtain ⟨_, z, _⟩ := rawAt_get q; cases z
  dct := fun j d q => by obtain ⟨_, z, _⟩ := rawAt_get q; cases z
  tpn := fun j d q => by obtain ⟨_, z, _⟩ := rawAt_get q; cases z
  kn := fun j d q => by obtain ⟨_, z, _⟩ := rawAt_get q; cases z
  dsep := fun j k d e p q => by obtain ⟨_, z, _⟩ := rawAt_get q; cases z
  raw := fun j a' q => by
    obtain ⟨rfl, z, l⟩ := rawAt_get q
    cases z
    exact hs l
def sTry (n i : Nat) (cs : List Str) (Φ : En → R Out) (Ψ : Addr → Str → En → R Out) : En → R Out := fun ρ => match Φ ρ with
  | .err c => if c ∈ cs then (match Ψ 0 c (rawAt n i 0) with
    | .ok (.rt r) => .ok (.rt r)
    | _ => .bad) else .bad
  | o => o
section
variable {X : Cx} [ok : OK X] {W : WX} {x n : Str} {i : Nat} {cs : List Str} {body suite : List Stmt} {b₀ : Stmt} {np pos pos' : Pos} {Φ : En → R Out} {Ψ : Addr → Str → En → R Out}
theorem s_try (i : Nat) (hs : X.stack = X.env :: X.outer) (hf : X.env.frame = some X.env.locals) (hN : X.N.Nodup) (hc : Names X x (.ref (He.ga X.K x))) (tk : Takes X W)
    (hcs : ∀ c ∈ cs, PySem.W.exmOne X.K (.ref (He.ga X.K c)) (.ref (He.ga X.K x)) = some true) (hΨ : ∀ a c, Ψ a c (rawAt X.N.length i a) = Ψ 0 c (rawAt X.N.length i 0))
    (hb : ∀ (W : WX) (pn : List (Addr × Obj)) (xe : Value → Shared → Prop), Takes (X.tr pn xe) W → PSs (X.tr pn xe) body (ts X.K W Φ))
    (hsu : ∀ (a : Addr) (oe : Obj) (c : Str) (pn : List (Addr × Obj)), c ∈ cs → Zc (.ref (He.ga X.K c)) none oe → (∃ vs, oe.data = .fields vs) → PSs (X.suite a ((a, oe) :: pn)) (b₀ :: suite) (ts X.K (fun _ _ _ _ => False) (Ψ a c)))
    (hi : X.N[i]? = some n := by rfl) (hln : X.env.kindOf n = some .local := by rfl) :
    PS X (.Try body [.ExceptHandler (some (.Name x np)) (some n) (b₀ :: suite) pos'] [] [] pos) (ts X.K W (sTry X.N.length i cs Φ Ψ)) :=
  ps_imp (ps_try_as hs hf hN hi hln hc tk (tb := fun W' => ts X.K W' Φ) (ts := fun a cls d D σ H => ∃ c, c ∈ cs ∧ cls = .ref (He.ga X.K c) ∧ d = none ∧ (σ.length = X.N.length → Py.ts X.K (fun _ _ _ _ => False) (Ψ a c) D σ H)) (Wout := W) (fun W pn xe tk _ => hb W pn xe tk)
    (fun a oe cls d pn hz hfv => ⟨fun pins s σ H D I ⟨c, hc, e1, e2, t⟩ => by subst e1 e2; exact (hsu a oe c pn hc hz hfv).run pins s σ H D I (t I.len)⟩)) fun D σ H ⟨Hk0, H0, Hk, ρ, r, p⟩ => ⟨Hk0, H0, Hk, ρ, r, by
      unfold sTry at p
      cases e : Φ ρ with
      | ok o =>
        rw [e] at p
        cases o <;> exact p
      | bad => rw [e] at p; exact p
      | err c =>
        rw [e] at p
        dsimp only at p
        split at p
        · rename_i hcc
          split at p
          · rename_i q hq
            refine fun σ' Hk' H' g => ⟨true, hcs c hcc, fun _ a _ => ⟨c, hcc, rfl, rfl, fun hl => ?_⟩, fun z => nomatch z⟩
            refine ⟨Hk0, H0, Hk', rawAt X.N.length i a, rel_raw g hl fun hlt => ?_, ?_⟩
            · rw [get_set, if_pos rfl, if_pos (by rw [List.length_set] at hl; omega)]
            · rw [hΨ a c, hq]
              exact p
          · exact p.elim
        · exact p.elim⟩
end
end Py

set_option Elab.async false
set_option linter.all false
set_option maxRecDepth 100000
set_option autoImplicit false
set_option maxHeartbeats 4000000
/-! PyV: [f, g, ..][j](e, ..), f, g defs of the module. -/
namespace Py
variable [KK]
open PySem L2
open Evl (Ex)
def FnsOk (X : Cx) (k n : Nat) (es : List Expr) (Gs : List (List PyData → R Cr)) : Prop := ∃ fs : List Addr, PA X es (fun _ H Q => Q (fs.map V.ref) H) ∧ fs.length = Gs.length ∧
  ∀ (i : Nat) (f : Addr) (G : List PyData → R Cr), fs[i]? = some f → Gs[i]? = some G → ∃ (fd : FuncData) (ps : List Str), PySem.W.keepIn X.K (.ref f) = true ∧ Binds X.K fd ps [] ∧ FnOk X.prog X.w X.K X.mg X.base (L2.CX X.prog X.w) k f fd ps (spF X.K n G)
section
variable {X : Cx} [ok : OK X] {W : WX} {e ie : Expr} {es ns : List Expr} {φs : List (En → R Rv)} {φ : En → R Rv} {x : Str} {p lp sp pos : Pos} {k j n : Nat} {G : List PyData → R Cr} {Gs : List (List PyData → R Cr)}
theorem fns_nil : FnsOk X k n [] [] := ⟨[], ⟨fun _ _ _ _ H Q I h => Calls.spliced_nil ⟨[], H, I, .nil, h⟩⟩, rfl, fun i f G h => by simp at h⟩
theorem fns_cons (F : FOk X.K X.prog X.w X.mg X.base j x n G) (h : FnsOk X k n es Gs) (hj : j ≤ k) (hg : Gl X x := by rfl) (hdb : (x == ("__debug__" : Str)) = false := by decide) (hs : starEach (.Name x p :: es) X.env = (false, eval (.Name x p) X.env) :: starEach es X.env := by rfl) : FnsOk X k n (.Name x p :: es) (G :: Gs) := by
  obtain ⟨fs, h1, h2, h3⟩ := h
  obtain ⟨f, fd, ps, hm, hk, hb, H⟩ := F
  refine ⟨f :: fs, pa_imp (pa_cons (pe_glob (v := .ref f) hg hm rfl hdb) h1 hs) fun σ H Q q => q, by simp [h2], fun i g G' a b => ?_⟩
  cases i with
  | zero =>
    rw [List.getElem?_cons_zero] at a b
    cases a
    cases b
    exact ⟨fd, ps, hk, hb, H.mono hj⟩
  | succ i =>
    rw [List.getElem?_cons_succ] at a b
    exact h3 i g G' a b
def eCallL (Gs : List (List PyData → R Cr)) (φ : En → R Rv) (φs : List (En → R Rv)) : En → R Rv := fun ρ => φ ρ >>= fun r => (frz r).toInt >>= fun j => match (if 0 ≤ j then Gs[j.toNat]? else none) with
  | some G => evA φs ρ >>= fun ds => G ds >>= fun r => .ok r.rv
  | none => .bad
theorem d_fnL (F : FnsOk X k n ns Gs) (hr : Room k X.A) (tk : Takes X W) (hi : PE X ie (te X.K W φ)) (ha : PA X (e :: es) (ta X.K W φs)) (hn : φs.length = n := by rfl) (hl : Gs.length ≤ sizeLine := by show _ ≤ 16777216; decide)
    (hs : PlainIx ie := by exact fun _ _ => rfl) (he : starEach (e :: es) X.env = (false, eval e X.env) :: starEach es X.env := by rfl) (hpl : (backTo pos (starEach es X.env)).any (·.1) = false := by rfl) :
    PE X (.Call (.Subscript (.List ns lp) ie sp) (e :: es) [] pos) (te X.K W (eCallL Gs φ φs)) := by
  obtain ⟨fs, h1, h2, h3⟩ := F
  refine ⟨fun pins s σ H Q I ⟨Hk0, H0, Hk, ρ, r, p⟩ => ?_⟩
  have arm : eval (.Call (.Subscript (.List ns lp) ie sp) (e :: es) [] pos) X.env = (do callWith pos (← eval (.Subscript (.List ns lp) ie sp) X.env) [] (backTo pos (starEach (e :: es) X.env)) (backToKw pos (keywordEach [] X.env))) := rfl
  rw [arm]
  refine wpAny_bind (thn ((pe_ix ix_list (pe_lst h1) hi hs).run pins s σ H (fun v H2 => ∃ (f : Addr) (G : List PyData → R Cr) (Hk2 : Hp), v = .ref f ∧ Rel Hk0 H0 Hk2 H2 σ ρ ∧ (∃ i : Nat, fs[i]? = some f ∧ Gs[i]? = some G) ∧ PostE X.K W Hk2 H2 σ Q (evA φs ρ >>= fun ds => G ds >>= fun r => .ok r.rv)) I ?_) fun u s1 ⟨v, H1, I1, r1, f, G, Hk2, ev, rr, ⟨i, hf, hG⟩, p2⟩ => ?_)
  · refine ⟨by rw [List.length_map, h2]; exact hl, fun q hq => ?_⟩
    have g1 : Gr Hk H Hk (upd H q (.lst (fs.map V.ref))) := Gr.own r.kh hq
    refine te_thenF (g := fun x => x.toInt >>= fun j => match (if 0 ≤ j then Gs[j.toNat]? else none) with
      | some G => evA φs ρ >>= fun ds => G ds >>= fun r => .ok r.rv
      | none => .bad) (r.up g1) (PostE.up g1 p) fun x v Hk2 H2 g2 d2 n2 r2 p2 => ?_
    cases q1 : x.toInt with
    | err c => exact absurd q1 toInt_no
    | bad => rw [q1] at p2; exact p2.elim
    | ok j =>
      rw [q1] at p2
      have p2 : PostE X.K W Hk2 H2 σ Q (match (if 0 ≤ j then Gs[j.toNat]? else none) with
        | some G => evA φs ρ >>= fun ds => G ds >>= fun r => .ok r.rv
        | none => .bad) := PostE.up g2 p2
      split at p2
      · rename_i G hG
        split at hG
        · rename_i hj
          rw [d2.int q1]
          have hlt : j.toNat < fs.length := by rw [h2]; exact (List.getElem?_eq_some_iff.mp hG).1
          refine ⟨q, fs.map V.ref, j, .ref fs[j.toNat], rfl, rfl, .inl (.inl (g2.h _ _ upd_same)), ?_, fs[j.toNat], G, Hk2, rfl, r2, ⟨j.toNat, List.getElem?_eq_getElem hlt, hG⟩, p2⟩
          have e : ((j.toNat : Nat) : Int) = j := by omega
          have q := L2.atI_nat (xs := fs.map V.ref) (j := j.toNat) (v := .ref fs[j.toNat]) (by rw [List.getElem?_map, List.getElem?_eq_getElem hlt]; rfl)
          rw [e] at q
          exact q
        · cases hG
      · exact p2.elim
  · subst ev
    cases r1
    obtain ⟨fd, ps, hk, hb, F⟩ := h3 i f G hf hG
    refine PySem.W.callWith_K (h₀ := X.base) I.ok.mod.kin hk (thn (ha.run pos pins s1 σ H1 (fun vs H3 => spF X.K n G vs H3 Q (WE W σ)) I1 (ta_then rr p2 fun ds vs Hk' H' l g d r' p' => ?_)) fun us s2 ⟨vs, H3, I3, r3, q3⟩ => ⟨I3.kIn, ?_⟩) he hpl
    · refine ⟨Hk', ds, g.kh, d, l.trans hn, ?_⟩
      cases e : G ds with
      | ok r => rw [e] at p'; exact fun v Hk2 H2 g2 n2 d2 => p' v Hk2 H2 g2 n2 (den_cl d2)
      | err c => rw [e] at p'; exact p'
      | bad => rw [e] at p'; exact p'
    · exact run_fnS F hr hb (passAt tk σ) I3 r3 q3
end
end Py

set_option Elab.async false
set_option linter.all false
set_option maxRecDepth 100000
set_option autoImplicit false
set_option maxHeartbeats 4000000
/-! PyJ: dicts with int keys, held by a name. -/
namespace Py
open PySem L2 PyProof.Rows
open Evl (Ex)
def getI (kvs : List (Int × PyData)) (k : Int) : Option PyData := (kvs.find? fun p => decide (p.1 = k)).map (·.2)
def putI (kvs : List (Int × PyData)) (k : Int) (d : PyData) : List (Int × PyData) :=
  if (kvs.any fun p => decide (p.1 = k)) = true then kvs.map (fun p => if p.1 = k then (p.1, d) else p) else kvs ++ [(k, d)]
def dctAt (ρ : En) (i : Nat) : R (List (Int × PyData)) := match ρ[i]? with
  | some (some (.dct kvs)) => .ok kvs
  | _ => .bad
theorem dctAt_ok {ρ : En} {i : Nat} {kvs : List (Int × PyData)} (h : dctAt ρ i = .ok kvs) : ρ[i]? = some (some (.dct kvs)) := by
  unfold dctAt at h
  split at h
  · rename_i ks e
    cases h
    exact e
  · cases h
theorem dctAt_no {ρ : En} {i : Nat} {c : Str} : dctAt ρ i ≠ .err c := by
  unfold dctAt
  split <;> exact fun h => nomatch h
def eDGet (i : Nat) (ψ : En → R Rv) : En → R Rv := fun ρ => dctAt ρ i >>= fun kvs => ψ ρ >>= fun y => (frz y).toInt >>= fun k => match getI kvs k with
  | some d => .ok (.val d)
  | none => .bad
def eDGet2 (i : Nat) (ψ χ : En → R Rv) : En → R Rv := fun ρ => dctAt ρ i >>= fun kvs => ψ ρ >>= fun y => (frz y).toInt >>= fun k => χ ρ >>= fun z => (frz z).toVal >>= fun d => .ok (.val ((getI kvs k).getD d))
def sortI (l : List Int) : List Int := l.mergeSort fun a b => decide (a ≤ b)
def eDSort (i : Nat) : En → R Rv := fun ρ => dctAt ρ i >>= fun kvs => if kvs.length < 64 then .ok (.own ((sortI (kvs.map (·.1))).map PyData.int)) else .bad
def sDNew (i : Nat) : En → R Out := fun ρ => .ok (.nx (ρ.set i (some (.dct []))))
def sDSet (i : Nat) (ψ φ : En → R Rv) : En → R Out := fun ρ => φ ρ >>= fun v => (frz v).toVal >>= fun d => dctAt ρ i >>= fun kvs => ψ ρ >>= fun y => (frz y).toInt >>= fun k => if kvs.length ≤ 1000000 then .ok (.nx (ρ.set i (some (.dct (putI kvs k d))))) else .bad
theorem leI_unique : ∀ {l m : List Int}, l.Pairwise (· ≤ ·) → m.Pairwise (· ≤ ·) → l.Perm m → l = m
  | [], m, _, _, h => by rw [List.Perm.eq_nil h.symm]
  | a :: as, [], _, _, h => by have := h.length_eq; simp at this
  | a :: as, b :: bs, p, q, h => by
    obtain ⟨p1, p2⟩ := List.pairwise_cons.mp p
    obtain ⟨q1, q2⟩ := List.pairwise_cons.mp q
    have h1 := h.mem_iff.mp (show a ∈ a :: as by simp)
    have h2 := h.mem_iff.mpr (show b ∈ b :: bs by simp)
    have hab : a = b := by
      rcases List.mem_cons.mp h1 with e | e
      · exact e
      · rcases List.mem_cons.mp h2 with e' | e'
        · exact e'.symm
        · have := q1 a e
          have := p1 b e'
          omega
    subst hab
    rw [leI_unique p2 q2 (List.Perm.cons_inv h)]
theorem sortI_perm (l : List Int) : (sortI l).Perm l := List.mergeSort_perm l _
theorem sortI_le (l : List Int) : (sortI l).Pairwise (· ≤ ·) := by
  have := List.pairwise_mergeSort (le := fun a b : Int => decide (a ≤ b)) (by intro a b c; simp; omega) (by intro a b; simp; omega) l
  exact this.imp fun h => by simpa using h
variable [KK]
theorem DR.get {Hk : Hp} (k : Int) : ∀ {ks : List (Key × V)} {kvs : List (Int × PyData)}, DR Hk ks kvs → (∀ d, getI kvs k = some d → ∃ v, valV ks (Sum.inl k) = some v ∧ Rp Hk v d) ∧ (getI kvs k = none → valV ks (Sum.inl k) = none)
  | [], [], _ => ⟨fun d h => by simp [getI] at h, fun _ => rfl⟩
  | [], _ :: _, h => by have := h.1; simp at this
  | _ :: _, [], h => by have := h.1; simp at this
  | (k1, v) :: ks, (k2, d) :: kvs, h => by
    obtain ⟨h1, h2⟩ := h
    simp only [List.map_cons, List.cons.injEq] at h1
    cases h2 with
    | cons a b =>
      have ih := DR.get k (ks := ks) (kvs := kvs) ⟨h1.2, b⟩
      have e1 : k1 = Sum.inl k2 := h1.1
      subst e1
      by_cases hk : k2 = k
      · subst hk
        rw [valV_pos rfl]
        refine ⟨fun d' hd => ⟨v, rfl, ?_⟩, fun hd => ?_⟩
        · simp [getI] at hd
          rw [← hd]
          exact a
        · simp [getI] at hd
      · rw [valV_neg (fun z => hk (Sum.inl.inj z))]
        have e : getI ((k2, d) :: kvs) k = getI kvs k := by simp [getI, List.find?_cons, hk]
        rw [e]
        exact ih
theorem DR.len {Hk : Hp} {ks : List (Key × V)} {kvs : List (Int × PyData)} (h : DR Hk ks kvs) : ks.length = kvs.length := by
  have := congrArg List.length h.1
  simpa using this
theorem DR.any {Hk : Hp} {ks : List (Key × V)} {kvs : List (Int × PyData)} (k : Int) (h : DR Hk ks kvs) : (ks.any fun kv => decide (kv.1 = Sum.inl k)) = (kvs.any fun p => decide (p.1 = k)) := by
  have e1 : (ks.any fun kv => decide (kv.1 = Sum.inl k)) = (ks.map (·.1)).any fun x => decide (x = Sum.inl k) := by rw [List.any_map]; rfl
  rw [e1, h.1, List.any_map]
  refine congrArg (List.any kvs) (funext fun p => ?_)
  show decide ((Sum.inl p.1 : Key) = Sum.inl k) = decide (p.1 = k)
  by_cases e : p.1 = k
  · simp [e]
  · rw [decide_eq_false e, decide_eq_false (fun z => e (Sum.inl.inj z))]
theorem DR.repl {Hk : Hp} {k : Int} {v : V} {d : PyData} (r : Rp Hk v d) : ∀ {ks : List (Key × V)} {kvs : List (Int × PyData)}, DR Hk ks kvs → DR Hk (ks.map fun kv => if kv.1 = Sum.inl k then (kv.1, v) else kv) (kvs.map fun p => if p.1 = k then (p.1, d) else p)
  | [], [], h => h
  | [], _ :: _, h => by have := h.1; simp at this
  | _ :: _, [], h => by have := h.1; simp at this
  | (k1, v1) :: ks, (k2, d2) :: kvs, h => by
    obtain ⟨h1, h2⟩ := h
    simp only [List.map_cons, List.cons.injEq] at h1
    cases h2 with
    | cons a b =>
      have ih := DR.repl (k := k) r (ks := ks) (kvs := kvs) ⟨h1.2, b⟩
      have e1 : k1 = Sum.inl k2 := h1.1
      subst e1
      by_cases hk : k2 = k
      · subst hk
        refine ⟨?_, ?_⟩
        · simp only [List.map_cons, if_true]
          rw [ih.1]
        · simp only [List.map_cons, if_true]
          exact .cons r ih.2
      · have hk' : ¬ (Sum.inl k2 : Key) = Sum.inl k := fun z => hk (Sum.inl.inj z)
        refine ⟨?_, ?_⟩
        · simp only [List.map_cons, if_neg hk, if_neg hk']
          rw [ih.1]
        · simp only [List.map_cons, if_neg hk, if_neg hk']
          exact .cons a ih.2
theorem DR.put {Hk : Hp} {k : Int} {v : V} {d : PyData} (r : Rp Hk v d) {ks : List (Key × V)} {kvs : List (Int × PyData)} (h : DR Hk ks kvs) : DR Hk (putK ks (Sum.inl k) v) (putI kvs k d) := by
  unfold putK putI
  rw [h.any k]
  split
  · exact DR.repl r h
  · refine ⟨?_, ?_⟩
    · rw [List.map_append, List.map_append, h.1]; rfl
    · rw [List.map_append, List.map_append]; exact RpAll.append h.2 (.cons r .nil)
section
variable {Hk0 H0 Hk H : Hp} {σ : Sl} {ρ : En}
/-- a new dict in a slot -/
theorem Rel.setDct {p : Addr} {ks : List (Key × V)} {kvs : List (Int × PyData)} {i : Nat} (r : Rel Hk0 H0 Hk H σ ρ) (h0 : H0 p = none) (hk : Hk p = none) (hp : H p = some (.dK ks)) (hd : DR Hk ks kvs)
    (hs : ∀ (j : Nat) (es : List (Int × PyData)), ρ[j]? = some (some (Cl.dct es)) → j ≠ i → σ[j]? ≠ some (some (.ref p))) : Rel Hk0 H0 Hk H (σ.set i (some (.ref p))) (ρ.set i (some (.dct kvs))) where
  len := by rw [List.length_set, List.length_set]; exact r.len
  gr := r.gr
  val := fun j e q => by
    rw [get_set] at q
    split at q
    · split at q <;> cases q
    · rename_i hj
      rw [get_set, if_neg hj]
      exact r.val j e q
  own := fun j e q => by
    rw [get_set] at q
    split at q
    · split at q <;> cases q
    · rename_i hj
      rw [get_set, if_neg hj]
      exact r.own j e q
  sep := fun j k ds es p q1 q2 h1 h2 => by
    rw [get_set] at q1 q2
    split at q1
    · split at q1 <;> cases q1
    · rename_i hj
      split at q2
      · split at q2 <;> cases q2
      · rename_i hk
        rw [get_set, if_neg hj] at h1
        rw [get_set, if_neg hk] at h2
        exact r.sep j k ds es p q1 q2 h1 h2
  raw := fun j a q => by
    rw [get_set] at q ⊢
    split at q
    · split at q <;> cases q
    · rename_i hj
      rw [if_neg hj]
      exact r.raw j a q
  tpn := fun j e q => by
    rw [get_set] at q
    split at q
    · split at q <;> cases q
    · rename_i hj
      rw [get_set, if_neg hj]
      exact r.tpn j e q
  kn := fun j e q => by
    rw [get_set] at q
    split at q
    · split at q <;> cases q
    · rename_i hj
      rw [get_set, if_neg hj]
      exact r.kn j e q
  dct := fun j es q => by
    rw [get_set] at q ⊢
    split at q
    · rename_i hj
      subst hj
      rw [if_pos rfl]
      split at q
      · rename_i hl
        cases q
        exact ⟨p, ks, by rw [r.len, if_pos hl], h0, hk, hp, hd⟩
      · cases q
    · rename_i hj
      rw [if_neg hj]
      exact r.dct j es q
  dsep := fun j k ds' es p' q1 q2 h1 h2 => by
    rw [get_set] at q1 q2 h1 h2
    by_cases hj : i = j
    · subst hj
      by_cases hk' : i = k
      · exact hk'
      · rw [if_neg hk'] at q2 h2
        rw [if_pos rfl] at h1
        split at h1
        · cases h1
          exact absurd h2 (hs k es q2 (fun z => hk' z.symm))
        · cases h1
    · rw [if_neg hj] at q1 h1
      by_cases hk' : i = k
      · subst hk'
        rw [if_pos rfl] at h2
        split at h2
        · cases h2
          exact absurd h1 (hs j ds' q1 (fun z => hj z.symm))
        · cases h2
      · rw [if_neg hk'] at q2 h2
        exact r.dsep j k ds' es p' q1 q2 h1 h2
/-- a store into a dict -/
theorem Rel.mutD {i : Nat} {ds es : List (Int × PyData)} {p : Addr} {xs ys : List (Key × V)} (r : Rel Hk0 H0 Hk H σ ρ) (hi : ρ[i]? = some (some (.dct ds))) (hs : σ[i]? = some (some (.ref p))) (h0 : H0 p = none) (hk : Hk p = none) (hp : H p = some (.dK xs)) (hy : DR Hk ys es) :
    Rel Hk0 H0 Hk (upd H p (.dK ys)) σ (ρ.set i (some (.dct es))) where
  len := by rw [List.length_set]; exact r.len
  gr := ⟨r.gr.k, Ex.mut r.gr.h h0, fun a u q => by rw [upd_ne (ne_of_none q hk)]; exact r.gr.kh a u q, r.gr.fr⟩
  val := fun j d q => by
    rw [get_set] at q
    split at q
    · split at q <;> cases q
    · exact r.val j d q
  own := fun j fs q => by
    rw [get_set] at q
    split at q
    · split at q <;> cases q
    · obtain ⟨p', zs, a, b, c, d, e⟩ := r.own j fs q
      have : p' ≠ p := fun w => by
        subst w
        rw [hp] at d
        cases d
      exact ⟨p', zs, a, b, c, by rw [upd_ne this]; exact d, e⟩
  sep := fun j k fs gs q a b c d => by
    rw [get_set] at a b
    split at a
    · split at a <;> cases a
    · split at b
      · split at b <;> cases b
      · exact r.sep j k fs gs q a b c d
  raw := fun j a q => by
    rw [get_set] at q
    split at q
    · split at q <;> cases q
    · exact r.raw j a q
  tpn := fun j d q => by
    rw [get_set] at q
    split at q
    · split at q <;> cases q
    · exact r.tpn j d q
  kn := fun j d q => by
    rw [get_set] at q
    split at q
    · split at q <;> cases q
    · exact r.kn j d q
  dct := fun j fs q => by
    rw [get_set] at q
    split at q
    · rename_i hj
      subst hj
      split at q
      · cases q
        exact ⟨p, ys, hs, h0, hk, upd_same, hy⟩
      · cases q
    · rename_i hj
      obtain ⟨p', zs, a, b, c, d, e⟩ := r.dct j fs q
      have : p' ≠ p := fun w => by
        subst w
        exact hj (r.dsep i j ds fs p' hi q hs a)
      exact ⟨p', zs, a, b, c, by rw [upd_ne this]; exact d, e⟩
  dsep := fun j k fs gs q a b c d => by
    have back : ∀ {m : Nat} {fs : List (Int × PyData)}, (ρ.set i (some (.dct es)))[m]? = some (some (Cl.dct fs)) → ∃ fs', ρ[m]? = some (some (Cl.dct fs')) := by
      intro m fs h
      rw [get_set] at h
      split at h
      · rename_i hm
        subst hm
        exact ⟨ds, hi⟩
      · exact ⟨fs, h⟩
    obtain ⟨_, a'⟩ := back a
    obtain ⟨_, b'⟩ := back b
    exact r.dsep j k _ _ q a' b' c d
end
section
variable {X : Cx} [ok : OK X] {W : WX} {e f : Expr} {φ ψ χ : En → R Rv} {pos : Pos}
theorem s_dnew {x : Str} {pos' dp : Pos} (i : Nat) (hN : X.N.Nodup) (hi : X.N[i]? = some x := by rfl) (hx : Loc X.env.scope x := by first | exact Or.inl rfl | exact Or.inr rfl) (hs : swapsWith (.Dict [] [] dp) (some (.Name x pos')) pos.line X.env = pure false := by rfl)
    (hf : X.fn x = true ∨ X.env.scope.names.lookup x = some .local := by first | exact .inl rfl | exact .inr rfl) : PS X (.Assign [.Name x pos'] (.Dict [] [] dp) pos) (ts X.K W (sDNew i)) :=
  ps_imp (ps_set hN hi hx pe_dnewK hs hf) fun D σ H ⟨Hk0, H0, Hk, ρ, r, p⟩ q hq => by
    have g := Gr.own (o := .dK []) r.kh hq
    refine p _ Hk _ (Ex.refl _) (Rel.setDct (r.up g) (Evl.fresh_back r.gr.h hq) (Evl.fresh_back r.kh hq) upd_same ⟨rfl, .nil⟩ fun j es h1 h2 h3 => ?_)
    obtain ⟨p', ks, a, b, c, d, _⟩ := r.dct j es h1
    rw [a] at h3
    cases h3
    rw [d] at hq
    cases hq
theorem d_dget {k : Nat} {x : Str} {p : Pos} (i : Nat) (hr : Room k X.A) (he : PE X e (te X.K W ψ)) (hs : NoSl e := by exact fun _ _ => rfl) (hN : X.N[i]? = some x := by rfl) (hv : Vis X.env.scope x := by first | exact Or.inl rfl | exact Or.inr (Or.inl rfl) | exact Or.inr (Or.inr rfl)) (hd : (x == ("__debug__" : Str)) = false := by decide)
    (hcd : (x == ("__classdict__" : Str)) = false := by decide) : PE X (.Subscript (.Name x p) e pos) (te X.K W (eDGet i ψ)) :=
  pe_imp (pe_dget (by have := hr.units; omega) (pv i hN hv hd hcd) he hs) fun σ H Q ⟨Hk0, H0, Hk, ρ, r, p⟩ => by
    unfold eDGet at p
    cases e1 : dctAt ρ i with
    | err c => exact absurd e1 dctAt_no
    | bad => rw [e1] at p; exact p.elim
    | ok kvs =>
      rw [e1] at p
      obtain ⟨q, ks, h1, h2, h3, h4, h5⟩ := r.dct i kvs (dctAt_ok e1)
      refine ⟨_, h1, te_thenF (g := fun y => y.toInt >>= fun k => match getI kvs k with | some d => .ok (.val d) | none => .bad) r p fun y v Hk' H' g d n r' p' => ?_⟩
      cases e2 : y.toInt with
      | err c => rw [e2] at p'; cases y <;> first | (rename_i d0; cases d0 <;> cases e2) | cases e2
      | bad => rw [e2] at p'; exact p'.elim
      | ok k =>
        rw [e2] at p'
        have p' : PostE X.K W Hk H σ Q (match getI kvs k with | some d => .ok (.val d) | none => .bad) := p'
        have hv := d.int e2
        subst hv
        split at p'
        · rename_i d' hd'
          obtain ⟨w, hw, rw'⟩ := (DR.get k (DR.up g.k h5)).1 d' hd'
          refine ⟨q, w, rfl, ?_, p' _ Hk' H' g trivial rw'⟩
          have := DGet.k (k := Sum.inl k) (g.h _ _ h4)
          rw [hw] at this
          exact this
        · exact p'.elim
theorem d_dget2 {k : Nat} {x : Str} {p ap : Pos} (i : Nat) (hr : Room k X.A) (he : PE X e (te X.K W ψ)) (hf : PE X f (te X.K W χ)) (m : M2 X (.Name x p) "get" ap e f pos := by exact ⟨rfl, rfl, rfl, rfl⟩) (hN : X.N[i]? = some x := by rfl) (hv : Vis X.env.scope x := by first | exact Or.inl rfl | exact Or.inr (Or.inl rfl) | exact Or.inr (Or.inr rfl)) (hd : (x == ("__debug__" : Str)) = false := by decide)
    (hcd : (x == ("__classdict__" : Str)) = false := by decide) : PE X (.Call (.Attribute (.Name x p) "get" ap) [e, f] [] pos) (te X.K W (eDGet2 i ψ χ)) :=
  pe_imp (pe_dget2 (by have := hr.units; omega) (pv i hN hv hd hcd) he hf m) fun σ H Q ⟨Hk0, H0, Hk, ρ, r, p⟩ => by
    unfold eDGet2 at p
    cases e1 : dctAt ρ i with
    | err c => exact absurd e1 dctAt_no
    | bad => rw [e1] at p; exact p.elim
    | ok kvs =>
      rw [e1] at p
      obtain ⟨q, ks, h1, h2, h3, h4, h5⟩ := r.dct i kvs (dctAt_ok e1)
      refine ⟨_, h1, q, rfl, .inl ⟨ks, .inl h4⟩, te_thenF (g := fun y => y.toInt >>= fun k => χ ρ >>= fun z => (frz z).toVal >>= fun d => .ok (.val ((getI kvs k).getD d))) r p fun y v Hk' H' g d n r' p' => ?_⟩
      cases e2 : y.toInt with
      | err c => rw [e2] at p'; cases y <;> first | (rename_i d0; cases d0 <;> cases e2) | cases e2
      | bad => rw [e2] at p'; exact p'.elim
      | ok k =>
        rw [e2] at p'
        have p' : PostE X.K W Hk H σ Q (χ ρ >>= fun z => (frz z).toVal >>= fun d => .ok (.val ((getI kvs k).getD d))) := p'
        have hv := d.int e2
        subst hv
        refine te_thenF (g := fun z => z.toVal >>= fun d => .ok (.val ((getI kvs k).getD d))) r' (PostE.up g p') fun z u Hk2 H2 g2 d2 n2 r2 p2 => ?_
        cases e3 : z.toVal with
        | err c => exact absurd e3 toVal_no
        | bad => rw [e3] at p2; exact p2.elim
        | ok dz =>
          rw [e3] at p2
          have p2 : PostE X.K W Hk' H' σ Q (.ok (.val ((getI kvs k).getD dz))) := p2
          have hz := toVal_den d2 n2 e3
          have g3 := g.trans g2
          have dg := DGet.k (k := Sum.inl k) (g3.h _ _ h4)
          have dr := DR.get k (DR.up g3.k h5)
          refine ⟨valV ks (Sum.inl k), dg, p2 _ Hk2 H2 g2 trivial ?_⟩
          show Rp Hk2 _ _
          cases hg : getI kvs k with
          | none =>
            rw [dr.2 hg]
            exact hz
          | some d' =>
            obtain ⟨w, hw, rw'⟩ := dr.1 d' hg
            rw [hw]
            exact rw'
theorem d_dsort {x : Str} {p p2 : Pos} (i : Nat) (hc : X.calm = true) (hm : X.mg "sorted" = none) (hg : Gl X "sorted" := by rfl) (hs : starEach [.Name x p] X.env = (false, eval (.Name x p) X.env) :: starEach [] X.env := by rfl) (hpl : (backTo pos (starEach [] X.env)).any (·.1) = false := by rfl)
    (hN : X.N[i]? = some x := by rfl) (hv : Vis X.env.scope x := by first | exact Or.inl rfl | exact Or.inr (Or.inl rfl) | exact Or.inr (Or.inr rfl)) (hd : (x == ("__debug__" : Str)) = false := by decide)
    (hcd : (x == ("__classdict__" : Str)) = false := by decide) : PE X (.Call (.Name "sorted" p2) [.Name x p] [] pos) (te X.K W (eDSort i)) :=
  pe_imp (pe_callB (call_sortedDI hc) hg hm boot_sorted (pa_cons (pv i hN hv hd hcd) pa_nil hs) (by decide) (by decide) hs hpl) fun σ H Q ⟨Hk0, H0, Hk, ρ, r, p⟩ => by
    unfold eDSort at p
    cases e1 : dctAt ρ i with
    | err c => exact absurd e1 dctAt_no
    | bad => rw [e1] at p; exact p.elim
    | ok kvs =>
      rw [e1] at p
      have p : PostE X.K W Hk H σ Q (if kvs.length < 64 then .ok (.own ((sortI (kvs.map (·.1))).map PyData.int)) else .bad) := p
      split at p
      · rename_i hz
        obtain ⟨q, ks, h1, h2, h3, h4, h5⟩ := r.dct i kvs (dctAt_ok e1)
        refine ⟨_, h1, q, ks, kvs.map (·.1), rfl, .inl h4, by rw [h5.1, List.map_map]; rfl, by rw [List.length_map]; exact hz, fun ys l h6 h7 h8 => ?_⟩
        obtain rfl : ys = sortI (kvs.map (·.1)) := leI_unique h7 (sortI_le _) (h6.trans (sortI_perm _).symm)
        have g := Gr.own (o := .lst ((sortI (kvs.map (·.1))).map V.int)) r.kh h8
        exact p _ Hk _ g ⟨l, rfl, h8⟩ ⟨l, _, rfl, Evl.fresh_back r.kh h8, upd_same, RpAll.ofInts _⟩
      · exact p.elim
theorem s_dset {k : Nat} {x : Str} {p sp : Pos} (i : Nat) (hr : Room k X.A) (he : PE X e (te X.K W ψ)) (hf : PE X f (te X.K W φ)) (hs : swapsWith f (some (.Subscript (.Name x p) e sp)) pos.line X.env = pure false := by rfl)
    (hN : X.N[i]? = some x := by rfl) (hv : Vis X.env.scope x := by first | exact Or.inl rfl | exact Or.inr (Or.inl rfl) | exact Or.inr (Or.inr rfl)) (hd : (x == ("__debug__" : Str)) = false := by decide)
    (hcd : (x == ("__classdict__" : Str)) = false := by decide) : PS X (.Assign [.Subscript (.Name x p) e sp] f pos) (ts X.K W (sDSet i ψ φ)) :=
  ps_imp (ps_dput (by have := hr.units; omega) (pv i hN hv hd hcd) he hf hs) fun D σ H ⟨Hk0, H0, Hk, ρ, r, p⟩ => by
    unfold Py.sDSet at p
    refine s_thenF (g := fun v => v.toVal >>= fun d => dctAt ρ i >>= fun kvs => ψ ρ >>= fun y => (frz y).toInt >>= fun k => if kvs.length ≤ 1000000 then .ok (.nx (ρ.set i (some (.dct (putI kvs k d))))) else .bad) r p fun v w Hk' H' g d n r' p' => ?_
    cases e3 : v.toVal with
    | err c => exact absurd e3 toVal_no
    | bad => rw [e3] at p'; exact p'.elim
    | ok dv =>
      rw [e3] at p'
      have rv := toVal_den d n e3
      have p' : PostS X.K W Hk0 H0 Hk' D (dctAt ρ i >>= fun kvs => ψ ρ >>= fun y => (frz y).toInt >>= fun k => if kvs.length ≤ 1000000 then .ok (.nx (ρ.set i (some (.dct (putI kvs k dv))))) else .bad) := p'
      cases e1 : dctAt ρ i with
      | err c => exact absurd e1 dctAt_no
      | bad => rw [e1] at p'; exact p'.elim
      | ok kvs =>
        rw [e1] at p'
        have hi := dctAt_ok e1
        obtain ⟨q, ks, h1, h2, h3, h4, h5⟩ := r'.dct i kvs hi
        refine ⟨_, h1, s_thenF (g := fun y => y.toInt >>= fun k => if kvs.length ≤ 1000000 then .ok (.nx (ρ.set i (some (.dct (putI kvs k dv))))) else .bad) r' p' fun y u Hk2 H2 g2 d2 n2 r2 p2 => ?_⟩
        cases e2 : y.toInt with
        | err c => rw [e2] at p2; cases y <;> first | (rename_i d0; cases d0 <;> cases e2) | cases e2
        | bad => rw [e2] at p2; exact p2.elim
        | ok k =>
          rw [e2] at p2
          have p2 : PostS X.K W Hk0 H0 Hk2 D (if kvs.length ≤ 1000000 then .ok (.nx (ρ.set i (some (.dct (putI kvs k dv))))) else .bad) := p2
          have hv := d2.int e2
          subst hv
          split at p2
          · rename_i hz
            have k4 := g2.h _ _ h4
            have k3 := g2.fr q (by rw [h4]; exact fun z => nomatch z) h3
            have h5' := DR.up g2.k h5
            refine ⟨q, _, rfl, DPut.k (k := Sum.inl k) k4 (Nat.lt_of_le_of_lt (Nat.le_of_eq h5'.len) (Nat.lt_of_le_of_lt hz (by decide))), ?_⟩
            exact p2 _ Hk2 _ (Ex.refl _) (r2.mutD hi h1 h2 k3 k4 (DR.put (Rp.up g2.k rv) h5'))
          · exact p2.elim
end
end Py

set_option Elab.async false
set_option linter.all false
set_option maxRecDepth 100000
set_option autoImplicit false
set_option maxHeartbeats 4000000
/-! PyN: tuples that a def makes of a list: their method index. -/
namespace Py
open PySem L2 PyProof.Rows
open Evl (Ex)
def sRetT (i : Nat) : En → R Out := fun ρ => ownAt ρ i >>= fun ds => .ok (.rt (.tpn ds))
def sTpn (i : Nat) (F : List PyData → R Cr) (φs : List (En → R Rv)) : En → R Out := fun ρ => evA φs ρ >>= fun ds => F ds >>= fun r => match r with
  | .tpn es => .ok (.nx (ρ.set i (some (.tpn es))))
  | _ => .bad
def tpnAt (ρ : En) (i : Nat) : R (List PyData) := match ρ[i]? with
  | some (some (.tpn ds)) => .ok ds
  | _ => .bad
theorem tpnAt_ok {ρ : En} {i : Nat} {ds : List PyData} (h : tpnAt ρ i = .ok ds) : ρ[i]? = some (some (.tpn ds)) := by
  unfold tpnAt at h
  split at h
  · rename_i e' e
    cases h
    exact e
  · cases h
theorem tpnAt_no {ρ : En} {i : Nat} {c : Str} : tpnAt ρ i ≠ .err c := by
  unfold tpnAt
  split <;> exact fun h => nomatch h
def eTix (i : Nat) (ψ : En → R Rv) : En → R Rv := fun ρ => tpnAt ρ i >>= fun ds => ψ ρ >>= fun y => gIndex ds (frz y)
variable [KK]
section
variable {Hk0 H0 Hk H : Hp} {σ : Sl} {ρ : En}
theorem Rel.setTpn {v : V} {ds : List PyData} {i : Nat} (r : Rel Hk0 H0 Hk H σ ρ) (h : TN Hk v ds) : Rel Hk0 H0 Hk H (σ.set i (some v)) (ρ.set i (some (.tpn ds))) where
  len := by rw [List.length_set, List.length_set]; exact r.len
  gr := r.gr
  val := fun j e q => by
    rw [get_set] at q
    split at q
    · split at q <;> cases q
    · rename_i hj
      rw [get_set, if_neg hj]
      exact r.val j e q
  own := fun j e q => by
    rw [get_set] at q
    split at q
    · split at q <;> cases q
    · rename_i hj
      rw [get_set, if_neg hj]
      exact r.own j e q
  sep := fun j k ds es p q1 q2 h1 h2 => by
    rw [get_set] at q1 q2
    split at q1
    · split at q1 <;> cases q1
    · rename_i hj
      split at q2
      · split at q2 <;> cases q2
      · rename_i hk
        rw [get_set, if_neg hj] at h1
        rw [get_set, if_neg hk] at h2
        exact r.sep j k ds es p q1 q2 h1 h2
  raw := fun j a q => by
    rw [get_set] at q ⊢
    split at q
    · split at q <;> cases q
    · rename_i hj
      rw [if_neg hj]
      exact r.raw j a q
  dct := fun j e q => by
    rw [get_set] at q
    split at q
    · split at q <;> cases q
    · rename_i hj
      rw [get_set, if_neg hj]
      exact r.dct j e q
  dsep := fun j k ds es p q1 q2 h1 h2 => by
    rw [get_set] at q1 q2
    split at q1
    · split at q1 <;> cases q1
    · rename_i hj
      split at q2
      · split at q2 <;> cases q2
      · rename_i hk
        rw [get_set, if_neg hj] at h1
        rw [get_set, if_neg hk] at h2
        exact r.dsep j k ds es p q1 q2 h1 h2
  kn := fun j e q => by
    rw [get_set] at q
    split at q
    · split at q <;> cases q
    · rename_i hj
      rw [get_set, if_neg hj]
      exact r.kn j e q
  tpn := fun j e q => by
    rw [get_set] at q ⊢
    split at q
    · rename_i hj
      subst hj
      rw [if_pos rfl]
      split at q
      · rename_i hl
        cases q
        exact ⟨v, by rw [r.len, if_pos hl], h⟩
      · cases q
    · rename_i hj
      rw [if_neg hj]
      exact r.tpn j e q
end
section
variable {X : Cx} [ok : OK X] {W : WX} {e : Expr} {es : List Expr} {φ ψ : En → R Rv} {φs : List (En → R Rv)} {pos : Pos} {G : List PyData → R Cr}
theorem c_tupN : CallR X (.type "tuple") (fun vs H Q => ∃ l xs, vs = [.ref l] ∧ SqL X.K H l xs ∧ ∀ (p : Addr) (o : Obj), H p = none → o.dict = none → Q (.ref p) (upd H p (.frz o (.tup xs)))) := by
  intro pins s σ H vs us Q I rv h
  obtain ⟨l, xs, rfl, hl, q⟩ := h
  rw [Vals.ref1 rv]
  obtain ⟨its, r1, pl, hz⟩ := I.list hl
  have hsz := r1.length
  refine call_tuple_list pl.isList (fun h' kp => ?_) (by rw [List.size_toArray]; omega)
  have J : Inv X pins σ H { s with heap := h' } := I.kept (t' := s.toks) kp
  have J2 := J.laid (t' := s.toks) (o := .frz { cls := .type "tuple", data := .seq its.toArray } (.tup xs)) (h' := h'.push { cls := .type "tuple", data := .seq its.toArray }) (fun b o e => Heap.get?_push_of_some _ e) (Nat.le_refl _) ⟨Heap.get?_push_size _ rfl, hz, its, r1, IsTup.new _ _⟩
  exact ⟨.ref h'.objs.size, _, J2, rfl, q _ _ (J.hok.fresh (Nat.le_refl _)) rfl⟩
theorem s_retT {x : Str} {p p2 cp : Pos} (i : Nat) (hm : X.mg "tuple" = none) (hg : Gl X "tuple" := by rfl) (hs : starEach [.Name x p2] X.env = (false, eval (.Name x p2) X.env) :: starEach [] X.env := by rfl) (hpl : (backTo cp (starEach [] X.env)).any (·.1) = false := by rfl)
    (hN : X.N[i]? = some x := by rfl) (hv : Vis X.env.scope x := by first | exact Or.inl rfl | exact Or.inr (Or.inl rfl) | exact Or.inr (Or.inr rfl)) (hd : (x == ("__debug__" : Str)) = false := by decide)
    (hcd : (x == ("__classdict__" : Str)) = false := by decide) : PS X (.Return (some (.Call (.Name "tuple" p) [.Name x p2] [] cp)) pos) (ts X.K W (sRetT i)) :=
  ps_imp (ps_ret (pe_callTy c_tupN hg hm boot_tuple (pa_cons (pv i hN hv hd hcd) pa_nil hs) (by decide) (by decide) hs hpl)) fun D σ H ⟨Hk0, H0, Hk, ρ, r, p⟩ => by
    unfold sRetT at p
    cases e1 : ownAt ρ i with
    | err c => exact absurd e1 ownAt_no
    | bad => rw [e1] at p; exact p.elim
    | ok ds =>
      rw [e1] at p
      obtain ⟨q, xs, h1, h2, h3, h4, h5⟩ := r.own i ds (ownAt_ok e1)
      refine ⟨_, h1, q, xs, rfl, .inl (.inl h4), fun a o ha ho => ?_⟩
      exact p _ _ _ (r.gr.trans (Gr.new (o := .frz o (.tup xs)) r.kh ha)) trivial ⟨a, xs, o, rfl, upd_same, ho, RpAll.up (Ex.new (Evl.fresh_back r.kh ha)) h5⟩
theorem s_tpn {x f : Str} {pos' p cp : Pos} {k j n : Nat} (i : Nat) (F : FOk X.K X.prog X.w X.mg X.base j f n G) (hr : Room k X.A) (hj : j ≤ k) (tk : Takes X W) (hNd : X.N.Nodup) (ha : PA X (e :: es) (ta X.K W φs)) (hn : φs.length = n := by rfl) (hg : Gl X f := by rfl) (hdb : (f == ("__debug__" : Str)) = false := by decide)
    (he : starEach (e :: es) X.env = (false, eval e X.env) :: starEach es X.env := by rfl) (hpl : (backTo cp (starEach es X.env)).any (·.1) = false := by rfl)
    (hi : X.N[i]? = some x := by rfl) (hx : Loc X.env.scope x := by first | exact Or.inl rfl | exact Or.inr rfl) (hs : swapsWith (.Call (.Name f p) (e :: es) [] cp) (some (.Name x pos')) pos.line X.env = pure false := by rfl)
    (hf : X.fn x = true ∨ X.env.scope.names.lookup x = some .local := by first | exact .inl rfl | exact .inr rfl) : PS X (.Assign [.Name x pos'] (.Call (.Name f p) (e :: es) [] cp) pos) (ts X.K W (sTpn i G φs)) := by
  obtain ⟨fa, fd, ps, hm, hk, hb, FF⟩ := F
  exact ps_imp (ps_set hNd hi hx (pe_callS (E := WE W) FF (hr.mono hj) hg hm hk hb (fun σ => passAt tk σ) ha hdb he hpl) hs hf) fun D σ H ⟨Hk0, H0, Hk, ρ, r, p⟩ =>
    ta_thenS (g := fun ds => G ds >>= fun r => match r with | .tpn es => .ok (.nx (ρ.set i (some (.tpn es)))) | _ => .bad) r p fun ds vs Hk' H' hl g d r' p' => by
      refine ⟨Hk', ds, g.kh, d, hl.trans hn, ?_⟩
      cases e : G ds with
      | ok c =>
        rw [e] at p'
        cases c with
        | val _ => exact p'.elim
        | own _ => exact p'.elim
        | tpn us =>
          intro v Hk2 H2 g2 n2 d2
          exact p' _ Hk2 H2 g2.k ((r'.up g2).setTpn d2)
      | err c => rw [e] at p'; exact fun Hk2 H2 g2 => p' σ Hk2 H2 (r'.gr.trans g2)
      | bad => rw [e] at p'; exact p'
def rTI (K : PySem.W.Frag) (W : WX) : V → List V → Hp → VK → Prop := fun x vs H Q => ∃ Hk σ p xs ds b v, x = .ref p ∧ Ex Hk H ∧ Rd H p (.tup xs) ∧ RpAll Hk xs ds ∧ vs = [v] ∧ Den Hk H σ b v ∧ PostE K W Hk H σ Q (gIndex ds b)
theorem mt_tix (hu : X.A.units + 64 < cLine) : MtR X "tuple.index" (rTI X.K W) := by
  intro pins s σ' H x vs v us Q I rx rv h
  obtain ⟨Hk, σ, l, xs, ds, b, y, rfl, ex, hR, r1, rfl, db, p⟩ := h
  obtain ⟨u, rfl, ru⟩ := rv.one
  cases rx
  obtain ⟨its, rz, pl, _⟩ := I.tuple (.inl hR)
  obtain ⟨as, ra⟩ := readsAll_of I ex r1 rz
  obtain ⟨bs, rb⟩ := den_reads I ex db ru
  obtain ⟨⟨cl, dd, dt, sl⟩, ho, hc, n, hd⟩ := pl
  have hc : cl = .type "tuple" := hc
  have hd : dt = .seq its.toArray n := hd
  subst hc hd
  unfold gIndex at p
  split at p
  · rename_i hdp
    split at p
    · rename_i j hj
      obtain ⟨hjl, h1, h2⟩ := SeqAt.hit_at ra (RpAll.plain r1) hj
      exact call_meets PySem.F.slot_tuple_index ⟨_, ho, rfl⟩ PySem.F.entry_tuple_index (PySem.F.args_tuple_index_2 _ _) (TI.tuple_indexAt l its.toArray n dd sl u _ j hjl h1 h2)
        ⟨ho, SeqAt.items_plain ra rb (RpAll.plain r1) (den_plain ex db) (by have := hdp.1; omega), .int _, H, I.tok _, ⟨_, rfl⟩, p _ Hk H (Gr.refl ex) trivial (Rp.int _)⟩
    · exact p.elim
  · exact p.elim
/-- the receiver is a tuple without a dict -/
def tTM (r : V → List V → Hp → VK → Prop) (to : TE) (t : TA) : TE := fun σ H Q => to σ H fun x H1 => (∃ p xs o, x = .ref p ∧ H1 p = some (.frz o (.tup xs)) ∧ o.dict = none) ∧ t σ H1 fun vs H2 => r x vs H2 Q
theorem pe_tm {o : Expr} {name : Str} {id : String} {r : V → List V → Hp → VK → Prop} {to : TE} {t : TA} {ap cp : Pos} (slot : Slot "tuple" name id) (hty : typeOf (.builtin id) = pure (.type "method_descriptor")) (hm : MtR X id r) (ho : PE X o to) (ha : PA X [e] t)
    (hbase : attributeBase o name X.env (eval o X.env) = eval o X.env)
    (hfew : ((backTo cp (starEach [e] X.env)).all (fun x => !x.1) && (backToKw cp (keywordEach [] X.env)).all (fun x => x.1.isSome) && decide ([e].length + ([] : List Keyword).length + (if ([] : List Keyword).isEmpty then 0 else 1) < 30)) = true)
    (hline : (ap.endLine == cp.line) = true) (hs : starEach [e] X.env = (false, eval e X.env) :: starEach [] X.env) (hpl : (backTo cp (starEach [] X.env)).any (·.1) = false) : PE X (.Call (.Attribute o name ap) [e] [] cp) (tTM r to t) :=
  ⟨fun pins s σ H Q I h => wpAny_Call_method_late hbase hfew hline rfl (thn (ho.run pins s σ H _ I h) fun v s1 ⟨x, H1, I1, r1, ⟨p, xs, ob, ex, hp, hd⟩, q1⟩ => by
    subst ex
    cases r1
    obtain ⟨g1, _, its, _, oo, go, gc, _⟩ := I1.hok p _ hp
    rw [g1] at go
    cases go
    refine ⟨"tuple", id, PySem.F.plainAttrs_tuple, slot, hty, ⟨_, g1, gc⟩, fun a ea => by cases ea; exact ⟨_, g1, hd⟩, ?_⟩
    have hA := ha.run cp pins s1 σ H1 _ I1 q1
    rw [hs] at hA ⊢
    have h0 : (false || (backTo cp (starEach [] X.env)).any (·.1)) = false := by rw [hpl]; rfl
    exact Calls.callWith_builtin h0 (Calls.evalArgs_plain (thn hA fun us s2 ⟨vs, H2, I2, r2, q2⟩ => hm pins s2 σ H2 (.ref p) vs _ us Q I2 rfl r2 q2)))⟩
theorem d_tix {x : Str} {p ap cp : Pos} {k : Nat} (i : Nat) (hr : Room k X.A) (he : PE X e (te X.K W ψ)) (hbase : attributeBase (.Name x p) "index" X.env (eval (.Name x p) X.env) = eval (.Name x p) X.env := by rfl)
    (hfew : ((backTo cp (starEach [e] X.env)).all (fun x => !x.1) && (backToKw cp (keywordEach [] X.env)).all (fun x => x.1.isSome) && decide ([e].length + ([] : List Keyword).length + (if ([] : List Keyword).isEmpty then 0 else 1) < 30)) = true := by rfl)
    (hline : (ap.endLine == cp.line) = true := by rfl) (hs : starEach [e] X.env = (false, eval e X.env) :: starEach [] X.env := by rfl) (hpl : (backTo cp (starEach [] X.env)).any (·.1) = false := by rfl)
    (hN : X.N[i]? = some x := by rfl) (hv : Vis X.env.scope x := by first | exact Or.inl rfl | exact Or.inr (Or.inl rfl) | exact Or.inr (Or.inr rfl)) (hd : (x == ("__debug__" : Str)) = false := by decide)
    (hcd : (x == ("__classdict__" : Str)) = false := by decide) : PE X (.Call (.Attribute (.Name x p) "index" ap) [e] [] cp) (te X.K W (eTix i ψ)) :=
  pe_imp (pe_tm PySem.F.slot_tuple_index PySem.F.type_tuple_index (mt_tix (W := W) hr.units) (pv i hN hv hd hcd) (pa_cons he pa_nil hs) hbase hfew hline hs hpl) fun σ H Q ⟨Hk0, H0, Hk, ρ, r, p⟩ => by
    unfold eTix at p
    cases e1 : tpnAt ρ i with
    | err c => exact absurd e1 tpnAt_no
    | bad => rw [e1] at p; exact p.elim
    | ok ds =>
      rw [e1] at p
      obtain ⟨v, h1, q, xs, o, rfl, h3, h4, h5⟩ := r.tpn i ds (tpnAt_ok e1)
      have hH := r.kh _ _ h3
      refine ⟨_, h1, ⟨q, xs, o, rfl, hH, h4⟩, te_thenF (g := fun y => gIndex ds y) r p fun y u Hk2 H2 g2 d2 n2 r2 p2 => ?_⟩
      exact ⟨Hk2, σ, q, xs, ds, y, u, rfl, g2.kh, .inr ⟨o, g2.h _ _ hH⟩, RpAll.up g2.k h5, rfl, d2, PostE.up g2 p2⟩
end
end Py

set_option Elab.async false
set_option linter.all false
set_option maxRecDepth 100000
set_option autoImplicit false
set_option maxHeartbeats 4000000
/-! PyO: a dict comprehension with two fors; walks over a dict's keys; dicts written out; a dict handed on. -/
namespace Py
open PySem PySem.Spec PyProof.Rows L2
open Evl (Ex)
abbrev D2 (kx vx a0 j0 : Expr) (f0 : List Expr) (a1 j1 : Expr) (f1 : List Expr) (sc : Scope) (q : Pos) : Expr := .DictComp kx vx [⟨a0, j0, f0, 0⟩, ⟨a1, j1, f1, 0⟩] sc q
section
variable {prog : Program} {w : World} {A : Around} {R : Result → Shared → Prop} {s : Shared} {kx vx a0 j0 a1 j1 : Expr} {f0 f1 : List Expr} {sc : Scope} {q : Pos} {it : Value} {D : Addr} {env : Env}
theorem turn_out (kx vx a0 j0 a1 j1 : Expr) (f0 f1 : List Expr) (sc : Scope) (q : Pos) (it : Value) (D : Addr) (env : Env) : compTurn (D2 kx vx a0 j0 f0 a1 j1 f1 sc q) 0 it (.ref D) env = (do
      standAt j0.pos
      match ← pyNext it with
      | none => pure (.done .next)
      | some v =>
        letOwnedTupleGo a0 it v; assign a0 env v
        let mut fine := true
        for c in f0 do
          if fine then fine ← isTrue c env (eval c env)
        if fine then
          let x ← eval j1 env; standAt j1.pos
          let x ← foldedSetIterable j1 env x
          let _ ← runOwn (.compStart (D2 kx vx a0 j0 f0 a1 j1 f1 sc q) 1 (← holding [x] (pyIter x)) (.ref D) env) env
        again (.compLoop (D2 kx vx a0 j0 f0 a1 j1 f1 sc q) 0 it (.ref D) env)) := by rfl
theorem turn_in (kx vx a0 j0 a1 j1 : Expr) (f0 f1 : List Expr) (sc : Scope) (q : Pos) (it : Value) (D : Addr) (env : Env) : compTurn (D2 kx vx a0 j0 f0 a1 j1 f1 sc q) 1 it (.ref D) env = (do
      standAt j1.pos
      match ← pyNext it with
      | none => pure (.done .next)
      | some v =>
        letOwnedTupleGo a1 it v; assign a1 env v
        let mut fine := true
        for c in f1 do
          if fine then fine ← isTrue c env (eval c env)
        if fine then
          (do let kv ← eval kx env; let vv ← holding [kv] (eval vx env); standAt { kx.pos with endLine := vx.pos.endLine, endCol := vx.pos.endCol }; holding [kv, vv] (dictSet D kv vv))
        again (.compLoop (D2 kx vx a0 j0 f0 a1 j1 f1 sc q) 1 it (.ref D) env)) := by rfl
abbrev ErrN (prog : Program) (w : World) (A : Around) (env : Env) (R : Result → Shared → Prop) : Value → Shared → Prop := notedBy (model prog w) A env fun e s' => R (.error e) s'
abbrev TestsOk (l : List Expr) (env : Env) : Sem Bool := forIn l true fun c r => if r = true then do let fine ← isTrue c env (eval c env); pure (ForInStep.yield fine) else pure (ForInStep.yield r)
theorem loop_out (hs : ∀ x, foldedSetIterable j1 env x = pure x) (I : Nat → Shared → Prop)
    (turn : ∀ n s, I n s → wpAny (model prog w) A (pyNext it) (fun r t1 => match r with
      | none => R (.ok .next) t1
      | some v => wpAny (model prog w) A (letOwnedTupleGo a0 it v) (fun _ t2 => wpAny (model prog w) A (assign a0 env v) (fun _ t3 => wpAny (model prog w) A (TestsOk f0 env) (fun fine t4 =>
            if fine = true then wpAny (model prog w) A (eval j1 env) (fun x t5 => wpAny (model prog w) A (pyIter x) (fun it1 t6 =>
              codeAny (model prog w) A (.compStart (D2 kx vx a0 j0 f0 a1 j1 f1 sc q) 1 it1 (.ref D) env) (fun r s' => match r with
                | .ok _ => ∃ m, m < n ∧ I m s'
                | .error _ => False) t6) (ErrN prog w A env R) t5) (ErrN prog w A env R) t4 else ∃ m, m < n ∧ I m t4) (ErrN prog w A env R) t3) (ErrN prog w A env R) t2) (ErrN prog w A env R) t1) (ErrN prog w A env R) s)
    (n : Nat) (h : I n s) : codeAny (model prog w) A (.compLoop (D2 kx vx a0 j0 f0 a1 j1 f1 sc q) 0 it (.ref D) env) R s := by
  refine codeAny_loop rfl I (fun n u hI => ?_) n h
  show wpAny _ A ((compTurn (D2 kx vx a0 j0 f0 a1 j1 f1 sc q) 0 it (.ref D) env).onRaise (fun x => do noteFrame x env; theTreesLotGoes x)) _ _ u
  refine wpAny_noted ?_; rw [turn_out]
  refine wpAny_bind (wpAny_standAt (wpAny_bind (wpAny_mono (turn n u hI) (fun r t1 k1 => ?_) fun _ _ z => z)))
  match r, k1 with
  | none, k1 => exact wpAny_pure k1
  | some v, k1 =>
    refine wpAny_bind (wpAny_mono k1 (fun _ t2 k2 => wpAny_bind (wpAny_mono k2 (fun _ t3 k3 => wpAny_bind (wpAny_mono k3 (fun fine t4 k4 => ?_) fun _ _ z => z)) fun _ _ z => z)) fun _ _ z => z)
    match fine, k4 with
    | false, k4 => exact wpAny_pure ⟨rfl, k4⟩
    | true, k4 =>
      refine wpAny_bind (wpAny_mono k4 (fun x t5 k5 => wpAny_bind (wpAny_standAt (wpAny_bind (wpAny_of_eq (hs x) (wpAny_bind (wpAny_holding (wpAny_mono k5 (fun it1 t6 k6 => ?_) fun _ _ z => z))))))) fun _ _ z => z)
      refine wpAny_bind (wpAny_runOwn ?_); rw [Around.mark_none]
      refine codeAny_mono k6 fun r s' hr => ?_
      match r, hr with
      | .ok f, hr =>
        first
          | exact wpAny_pure ⟨rfl, hr⟩
          | exact wpAny_bind (wpAny_pure (wpAny_pure ⟨rfl, hr⟩))
      | .error e, hr => exact hr.elim
theorem loop_in (I : Nat → Shared → Prop)
    (turn : ∀ n s, I n s → wpAny (model prog w) A (pyNext it) (fun r t1 => match r with
      | none => R (.ok .next) t1
      | some v => wpAny (model prog w) A (letOwnedTupleGo a1 it v) (fun _ t2 => wpAny (model prog w) A (assign a1 env v) (fun _ t3 => wpAny (model prog w) A (TestsOk f1 env) (fun fine t4 =>
            if fine = true then wpAny (model prog w) A (eval kx env) (fun kv t5 => wpAny (model prog w) A (eval vx env) (fun vv t6 =>
              wpAny (model prog w) A (dictSet D kv vv) (fun _ t7 => ∃ m, m < n ∧ I m t7) (ErrN prog w A env R) t6) (ErrN prog w A env R) t5) (ErrN prog w A env R) t4 else ∃ m, m < n ∧ I m t4) (ErrN prog w A env R) t3) (ErrN prog w A env R) t2) (ErrN prog w A env R) t1) (ErrN prog w A env R) s)
    (n : Nat) (h : I n s) : codeAny (model prog w) A (.compLoop (D2 kx vx a0 j0 f0 a1 j1 f1 sc q) 1 it (.ref D) env) R s := by
  refine codeAny_loop rfl I (fun n u hI => ?_) n h
  show wpAny _ A ((compTurn (D2 kx vx a0 j0 f0 a1 j1 f1 sc q) 1 it (.ref D) env).onRaise (fun x => do noteFrame x env; theTreesLotGoes x)) _ _ u
  refine wpAny_noted ?_; rw [turn_in]
  refine wpAny_bind (wpAny_standAt (wpAny_bind (wpAny_mono (turn n u hI) (fun r t1 k1 => ?_) fun _ _ z => z)))
  match r, k1 with
  | none, k1 => exact wpAny_pure k1
  | some v, k1 =>
    refine wpAny_bind (wpAny_mono k1 (fun _ t2 k2 => wpAny_bind (wpAny_mono k2 (fun _ t3 k3 => wpAny_bind (wpAny_mono k3 (fun fine t4 k4 => ?_) fun _ _ z => z)) fun _ _ z => z)) fun _ _ z => z)
    match fine, k4 with
    | false, k4 => exact wpAny_pure ⟨rfl, k4⟩
    | true, k4 =>
      exact wpAny_bind (wpAny_bind (wpAny_mono k4 (fun kv t5 k5 => wpAny_bind (wpAny_holding (wpAny_mono k5 (fun vv t6 k6 => wpAny_bind (wpAny_standAt (wpAny_holding (wpAny_mono k6 (fun _ t7 k7 => wpAny_pure ⟨rfl, k7⟩) fun _ _ z => z)))) fun _ _ z => z))) fun _ _ z => z))
theorem start_in (h0 : codeAny (model prog w) A (.compLoop (D2 kx vx a0 j0 f0 a1 j1 f1 sc q) 1 it (.ref D) env) R s)
    (h : wpAny (model prog w) A (pyIter it) (fun it' s' => codeAny (model prog w) A (.compLoop (D2 kx vx a0 j0 f0 a1 j1 f1 sc q) 1 it' (.ref D) env) R s') (ErrN prog w A env R) s) :
    codeAny (model prog w) A (.compStart (D2 kx vx a0 j0 f0 a1 j1 f1 sc q) 1 it (.ref D) env) R s := by
  refine codeAny_of_tree ?_
  show wpAny _ _ ((compStart (D2 kx vx a0 j0 f0 a1 j1 f1 sc q) 1 it (.ref D) env).onRaise (fun x => do noteFrame x env; standAt theWindowsPlace)) _ _ s
  refine wpAny_notedAt ?_; unfold compStart; show wpAny _ _ (ask >>= _) _ _ s
  refine wpAny_bind (wpAny_askSetting (wpAny_ite ?_))
  split
  · first
      | exact wpAny_bind (wpAny_pure (wpAny_pure ⟨rfl, h0⟩))
      | exact wpAny_pure ⟨rfl, h0⟩
  · first
      | exact wpAny_bind (wpAny_rule (wpAny_bind (wpAny_standAt (wpAny_bind (wpAny_mono h (fun i' s' z => wpAny_pure ⟨rfl, z⟩) fun _ _ x => x)))))
      | (refine wpAny_bind (wpAny_rule ?_); show wpAny _ _ (standAt j1.pos >>= _) _ _ s; exact wpAny_bind (wpAny_standAt (wpAny_bind (wpAny_mono h (fun i' s' z => wpAny_pure ⟨rfl, z⟩) fun _ _ x => x))))
end
section
variable {X : Cx}
/-- the reading of a dict comprehension with two fors -/
def tD2 (wi : TI) (g : TG) (tt : TT) (wi1 : TI) (g1 : TG) (tt1 : TT) (tk tv : TE) (vs vs1 : List Nat) : TE := fun σ H Q => wi σ H fun J H1 => ∀ D, H1 D = none → ∃ W : Nat → Nat → Hp → Prop, (∃ m, W 0 m (upd H1 D (.dK []))) ∧ ∀ i m H, W i m H →
  (J.stop i H ∧ Q (.ref D) H) ∨ (J.go i H ∧ ∃ Nx : Hp → Prop, (∀ H', Nx H' → ∃ m', m' < m ∧ W (i + 1) m' H') ∧ ∀ x H', J.yld i H x H' → g x (wipe σ vs) H' fun σ2 H2 => wipe σ2 vs = wipe σ vs ∧ tt σ2 H2 fun b H3 =>
    if b = true then wi1 σ2 H3 fun J1 H4 => ∃ W1 : Nat → Nat → Hp → Prop, (∃ m, W1 0 m H4) ∧ ∀ j k H, W1 j k H →
      (J1.stop j H ∧ Nx H) ∨ (J1.go j H ∧ ∃ Nx1 : Hp → Prop, (∀ H', Nx1 H' → ∃ k', k' < k ∧ W1 (j + 1) k' H') ∧ ∀ x H', J1.yld j H x H' → g1 x (wipe σ2 vs1) H' fun σ3 H5 => wipe σ3 vs1 = wipe σ2 vs1 ∧ tt1 σ3 H5 fun b H6 =>
        if b = true then tk σ3 H6 fun y H7 => tv σ3 H7 fun z H8 => ∃ kvs k, y = kV k ∧ H8 D = some (.dK kvs) ∧ kvs.length < sizeLine ∧ Nx1 (upd H8 D (.dK (putK kvs k z))) else Nx1 H6)
    else Nx H3)
abbrev AllB (X : Cx) (scope : Scope) (P : Cx → Prop) : Prop := ∀ (s : Shared) (H : Hp) (C : Addr) (cl : List (Str × Addr)) (fp : List Addr), P (X.blk s H scope (compEnvC scope cl C X.env) fp)
theorem d2_core {pins : List (Addr × Obj)} {s : Shared} {σ : Sl} {H : Hp} {Q : VK} {kx vx a0 j0 a1 j1 : Expr} {f0 f1 : List Expr} {scope : Scope} {own : List (Str × Nat)} {vs1 : List Nat} {pos pos' : Pos} {wi wi1 : TI} {g g1 : TG} {tt tt1 : TT} {tk tv : TE} {use : Option (Value → Sem Unit)} {Qf : Value → Shared → Prop}
    (hc : X.calm = true) (hN : X.N.Nodup) (I : Inv X pins σ H s) (hi : PI X a0 j0 wi) (ok : BlkOk X.N X.env.scope scope own) (hv : ∀ i ∈ vs1, i ∈ own.map (·.2))
    (hg : AllB X scope fun Y => PG Y a0 g) (ht : AllB X scope fun Y => PTs Y f0 tt) (hk : AllB X scope fun Y => PE Y kx tk) (he : AllB X scope fun Y => PE Y vx tv) (hs : ∀ x, foldedSetIterable j0 X.env x = pure x)
    (hi1 : AllB X scope fun Y => PI Y a1 j1 wi1) (hg1 : AllB X scope fun Y => PG Y a1 g1) (ht1 : AllB X scope fun Y => PTs Y f1 tt1) (hs1 : ∀ env x, foldedSetIterable j1 env x = pure x)
    (h : tD2 wi g tt wi1 g1 tt1 tk tv (own.map (·.2)) vs1 σ H Q)
    (hRR : ∀ D C s' m H', Inv X pins σ H' s' → Q (.ref D) H' → s'.heap.Ns C m → FpOk X pins H' C → compPost (model X.prog X.w) X.A X.xe use Qf (.ref D) C (.ok .next) s') :
    wpAny (model X.prog X.w) X.A (comprehension (D2 kx vx a0 j0 f0 a1 j1 f1 scope pos) scope X.env pos' newDict false (eval j0 X.env) use) Qf X.xe s := by
  refine wpAny_comprehension_free (use := use) rfl hs (closure_ok fun y hy e => (ok.free y hy e).elim (fun k => I.ok.has _ (.inl k)) fun k => I.ok.has _ (.inr k)) ok.kind (fun y hy e => by rw [ok.uniq y hy, e]) (thn (hi.run pins s σ H _ I h) fun xv u1 hx => thn hx fun itv u2 h2 => ?_)
  obtain ⟨it, fp, tn, J, H2, rfl, I2, T, st2, fo, rd⟩ := h2
  refine wpAny_newObj_type (newEnv_comp ?_); generalize hD : u2.heap.objs.size = D
  have fresh : H2 D = none := I2.hok.fresh (Nat.le_of_eq hD)
  obtain ⟨W, ⟨m0, w0⟩, turn⟩ := rd D fresh
  generalize hu3 : ({ u2 with heap := u2.heap.push { cls := .type "dict", data := .dict #[] } } : Shared) = u3
  have hp3 : u3.heap = u2.heap.push { cls := .type "dict", data := .dict #[] } := by rw [← hu3]
  have I3 : Inv X pins σ (upd H2 D (.dK [])) u3 := by
    rw [← hu3]; refine I2.laid (t' := u2.toks) (fun b o e => Heap.get?_push_of_some _ e) (Nat.le_of_eq hD) ?_; rw [← hD]; exact dk_empty u2.heap I2.big
  have fo3 : ∀ b ∈ fp, FpOk X pins (upd H2 D (.dK [])) b ∧ b < u3.heap.objs.size := fun b hb => by
    obtain ⟨o, e, _⟩ := T.obj _ _ st2 b hb
    have lt := Heap.lt_size e; refine ⟨⟨?_, (fo b hb).2⟩, by rw [hp3, Heap.size_push]; exact Nat.lt_succ_of_lt lt⟩
    rw [upd_ne (by rw [← hD]; exact Nat.ne_of_lt lt)]; exact (fo b hb).1
  have st3 : tn 0 u3.heap := T.keep _ _ _ st2 fun b _ o e => by rw [hp3]; exact Heap.get?_push_of_some _ e
  have I4 := block_start I3 ok hN fo3
  let cl := cellsFrom (u3.heap.objs.size + 1) scope.names (cloFrom X.env.cells scope.names [])
  have pg := hg u3 (upd H2 D (.dK [])) u3.heap.objs.size cl fp; have pt := ht u3 (upd H2 D (.dK [])) u3.heap.objs.size cl fp
  have pk := hk u3 (upd H2 D (.dK [])) u3.heap.objs.size cl fp; have pe := he u3 (upd H2 D (.dK [])) u3.heap.objs.size cl fp
  have pi1 := hi1 u3 (upd H2 D (.dK [])) u3.heap.objs.size cl fp; have pg1 := hg1 u3 (upd H2 D (.dK [])) u3.heap.objs.size cl fp; have pt1 := ht1 u3 (upd H2 D (.dK [])) u3.heap.objs.size cl fp
  show codeAny _ _ (.compStart (D2 kx vx a0 j0 f0 a1 j1 f1 scope pos) 0 (.ref it) (.ref D) (compEnvC scope cl u3.heap.objs.size X.env)) (compPost (model X.prog X.w) X.A X.xe use Qf (.ref D) u3.heap.objs.size) { u3 with heap := pushCells (u3.heap.push { cls := .type "dict", data := .dict #[] }) scope.names }
  have nf : ∀ b ∈ fp, (upd H2 D (.dK [])) b = none := fun b hb => (fo3 b hb).1.1
  generalize hce : compEnvC scope cl u3.heap.objs.size X.env = ce at pg pt pk pe pi1 pg1 pt1 ⊢
  replace I4 : Inv (X.blk u3 (upd H2 D (.dK [])) scope ce fp) [] (wipe σ (own.map (·.2))) (upd H2 D (.dK [])) { u3 with heap := pushCells (u3.heap.push { cls := .type "dict", data := .dict #[] }) scope.names } := by rw [← hce]; exact I4
  have cL : ce.locals = u3.heap.objs.size := by rw [← hce]; rfl
  generalize hH3 : upd H2 D (.dK []) = H3 at I3 I4 pg pt pk pe pi1 pg1 pt1 w0 nf fo3
  generalize hu4 : ({ u3 with heap := pushCells (u3.heap.push { cls := .type "dict", data := .dict #[] }) scope.names } : Shared) = u4 at I4 ⊢
  have st4 : tn 0 u4.heap := T.keep _ _ _ st3 fun b _ o e => by rw [← hu4]; exact pushCells_keeps _ _ _ _ (Heap.get?_push_of_some _ e)
  let Y : Cx := X.blk u3 H3 scope ce fp
  have stat : ∀ {τ : Sl} {K' : Hp} {z : Shared}, Inv Y [] τ K' z → (∀ b ∈ fp, K' b = none) → ∀ b ∈ fp, FpOk Y [] K' b := fun {τ K' z} I' hn b hb =>
    ⟨hn b hb, (I'.ok.exf b hb).1, I'.ok.exfs b hb, .inl hb, fun x c e => (I'.ok.exf b hb).2 x c e, fun p hp => absurd (show p ∈ ([] : List (Addr × Obj)) ++ [] from hp) (by simp)⟩
  have loop : codeAny (model X.prog X.w) X.A (.compLoop (D2 kx vx a0 j0 f0 a1 j1 f1 scope pos) 0 (.ref it) (.ref D) ce) (compPost (model X.prog X.w) X.A X.xe use Qf (.ref D) u3.heap.objs.size) u4 := by
    refine loop_out (hs1 ce) (fun n z => ∃ i K', Inv Y [] (wipe σ (own.map (·.2))) K' z ∧ tn i z.heap ∧ (∀ b ∈ fp, K' b = none) ∧ W i n K') ?_ m0 ⟨0, H3, I4, st4, nf, w0⟩
    rintro n u5 ⟨i, H5, I5, st5, n5, w5⟩
    rcases turn i n H5 w5 with ⟨stop, qq⟩ | ⟨go, Nx, hNx, step⟩
    · refine thnF (T.done Y rfl rfl rfl hc i [] u5 _ H5 (fun _ _ => False) I5 (stat I5 n5) st5 stop) fun r u6 ⟨hr, I6⟩ => ?_; subst hr
      have I7 : Inv X pins σ H5 u6 := I3.call' (ch := fp) I6.os I6.base I6.hok I6.bare fun b hb => let z := (fo3 b hb).1.2; ⟨z.2.2.1, z.1, z.2.2.2.1, z.2.2.2.2⟩
      have nC : H5 u3.heap.objs.size = none := by have z : H5 ce.locals = none := I6.free; rwa [cL] at z
      obtain ⟨m, hn, _⟩ := I6.loc; have hn : u6.heap.Ns ce.locals m := hn; rw [cL] at hn
      exact hRR D u3.heap.objs.size u6 m H5 I7 qq hn (I3.fpOk (Nat.le_refl _) nC)
    · refine thnF (T.item Y rfl rfl rfl hc i [] u5 _ H5 (fun _ _ => False) I5 (stat I5 n5) st5 go) fun r u6 ⟨u, hr, h6⟩ => ?_; subst hr
      refine thnF h6 fun _ u7 ⟨x, H7, I7, r7, y7, st7, n7⟩ => ?_; have I7' := I7.pinned (stat I7 n7) (T.obj _ _ st7)
      refine thnF (pg.run _ u7 _ H7 x u _ I7' r7 (step x H7 y7)) fun _ u8 ⟨σ8, H8, I8, hw8, q8⟩ => thnF (pt.run _ u8 σ8 H8 _ I8 q8) fun b u9 ⟨H9, I9, q9⟩ => ?_
      have fin : ∀ {σ9 : Sl} {z : Shared} {K' : Hp}, Inv Y ([] ++ pinsAt fp u7.heap) σ9 K' z → (wipe σ (own.map (·.2))).length = σ9.length → (∀ (j : Nat) v, (wipe σ (own.map (·.2)))[j]? = some (some v) → σ9[j]? = some (some v)) → Nx K' →
          ∃ m, m < n ∧ ∃ i K', Inv Y [] (wipe σ (own.map (·.2))) K' z ∧ tn i z.heap ∧ (∀ b ∈ fp, K' b = none) ∧ W i m K' := fun {σ9 z K'} I' hl hk nx => by
        obtain ⟨m', hm, w'⟩ := hNx K' nx
        have pin : ∀ b ∈ fp, ∀ o, u7.heap.get? b = some o → z.heap.get? b = some o ∧ K' b = none := fun b hb o e => let t := I'.pin (b, o) (List.mem_append_right _ (List.mem_append_right _ (mem_pinsAt hb e))); ⟨t.1, t.2.1⟩
        refine ⟨m', hm, i + 1, K', (I'.unpinned (pins := [])).weak hl hk, T.keep _ _ _ st7 fun b hb o e => (pin b hb o e).1, fun b hb => ?_, w'⟩
        obtain ⟨o, e, _⟩ := T.obj _ _ st7 b hb; exact (pin b hb o e).2
      have hl8 : (wipe σ (own.map (·.2))).length = σ8.length := by rw [← hw8]; exact wipe_length _ _
      match b, q9 with
      | false, q9 =>
        rw [if_neg Bool.false_ne_true] at q9 ⊢; exact fin I9 hl8 (fun j v e => by rw [← hw8] at e; exact (wipe_some e).1) q9
      | true, q9 =>
        rw [if_pos rfl] at q9 ⊢
        refine thnF (pi1.run _ u9 σ8 H9 _ I9 q9) fun xv uA hx => thnF hx fun itv uB hB => ?_
        obtain ⟨it1, fp1, tn1, J1, HB, rfl, IB, T1, stB, foB, W1, ⟨m1, w1⟩, turn1⟩ := hB
        have stat1 : ∀ {K' : Hp}, (∀ b ∈ fp1, K' b = none) → ∀ b ∈ fp1, FpOk Y ([] ++ pinsAt fp u7.heap) K' b := fun hn b hb => ⟨hn b hb, (foB b hb).2⟩
        have inner : codeAny (model X.prog X.w) X.A (.compLoop (D2 kx vx a0 j0 f0 a1 j1 f1 scope pos) 1 (.ref it1) (.ref D) ce) (fun r z => match r with
              | .ok _ => ∃ m, m < n ∧ ∃ i K', Inv Y [] (wipe σ (own.map (·.2))) K' z ∧ tn i z.heap ∧ (∀ b ∈ fp, K' b = none) ∧ W i m K'
              | .error _ => False) uB := by
          refine loop_in (fun k z => ∃ j K', Inv Y ([] ++ pinsAt fp u7.heap) (wipe σ8 vs1) K' z ∧ tn1 j z.heap ∧ (∀ b ∈ fp1, K' b = none) ∧ W1 j k K') ?_ m1 ⟨0, HB, IB.weak (wipe_length _ _) (fun j v e => (wipe_some e).1), stB, fun b hb => (foB b hb).1, w1⟩
          rintro k uC ⟨j, HC, IC, stC, nC, wC⟩
          rcases turn1 j k HC wC with ⟨stop1, nx1⟩ | ⟨go1, Nx1, hNx1, step1⟩
          · refine thnF (T1.done Y rfl rfl rfl hc j _ uC (wipe σ8 vs1) HC (fun _ _ => False) IC (stat1 nC) stC stop1) fun r uE ⟨hr, IE⟩ => ?_; subst hr
            refine fin IE (hl8.trans (wipe_length σ8 vs1).symm) (fun j v e => ?_) nx1
            rw [← hw8] at e; obtain ⟨e1, e2⟩ := wipe_some e; rw [wipe_out fun z => e2 (hv j z)]; exact e1
          · refine thnF (T1.item Y rfl rfl rfl hc j _ uC (wipe σ8 vs1) HC (fun _ _ => False) IC (stat1 nC) stC go1) fun r uE ⟨v1, hr, hE⟩ => ?_; subst hr
            refine thnF hE fun _ uF ⟨x1, HF, IF, rF, yF, stF, nF⟩ => ?_; have IF' := IF.pinned (stat1 nF) (T1.obj _ _ stF)
            refine thnF (pg1.run _ uF (wipe σ8 vs1) HF x1 v1 _ IF' rF (step1 x1 HF yF)) fun _ uG ⟨σG, HG, IG, hwG, qG⟩ => thnF (pt1.run _ uG σG HG _ IG qG) fun b1 uH ⟨HH, IH, qH⟩ => ?_
            have fin1 : ∀ {z : Shared} {K' : Hp}, Inv Y (([] ++ pinsAt fp u7.heap) ++ pinsAt fp1 uF.heap) σG K' z → Nx1 K' → ∃ m, m < k ∧ ∃ j K', Inv Y ([] ++ pinsAt fp u7.heap) (wipe σ8 vs1) K' z ∧ tn1 j z.heap ∧ (∀ b ∈ fp1, K' b = none) ∧ W1 j m K' := fun {z K'} I' nx => by
              obtain ⟨m', hm, w'⟩ := hNx1 K' nx
              have pin : ∀ b ∈ fp1, ∀ o, uF.heap.get? b = some o → z.heap.get? b = some o ∧ K' b = none := fun b hb o e => let t := I'.pin (b, o) (List.mem_append_right _ (List.mem_append_right _ (mem_pinsAt hb e))); ⟨t.1, t.2.1⟩
              refine ⟨m', hm, j + 1, K', I'.unpinned.weak (by rw [← hwG]; exact wipe_length _ _) (fun j v e => by rw [← hwG] at e; exact (wipe_some e).1), T1.keep _ _ _ stF fun b hb o e => (pin b hb o e).1, fun b hb => ?_, w'⟩
              obtain ⟨o, e, _⟩ := T1.obj _ _ stF b hb; exact (pin b hb o e).2
            match b1, qH with
            | false, qH =>
              rw [if_neg Bool.false_ne_true] at qH ⊢; exact fin1 IH qH
            | true, qH =>
              rw [if_pos rfl] at qH ⊢
              refine thnF (pk.run _ uH σG HH _ IH qH) fun z uI ⟨yk, HI, II, rI, qI⟩ => thnF (pe.run _ uI σG HI _ II qI) fun z2 uJ ⟨yv, HJ, IJ, rJ, kvs, ky, ek, hDJ, hzJ, nx⟩ => ?_
              subst ek; exact d_dictSet (X := Y) IJ hDJ hzJ rI rJ fun uK IK => fin1 IK nx
        exact start_in inner (T1.self X.A 0 _ _ _ stB inner)
  exact codeAny_compStart_dict loop (T.self X.A 0 _ _ _ st4 loop)
theorem pe_dc2 {kx vx a0 j0 a1 j1 : Expr} {f0 f1 : List Expr} {scope : Scope} {own : List (Str × Nat)} {vs1 : List Nat} {pos : Pos} {wi wi1 : TI} {g g1 : TG} {tt tt1 : TT} {tk tv : TE} (hc : X.calm = true) (hN : X.N.Nodup) (hi : PI X a0 j0 wi) (ok : BlkOk X.N X.env.scope scope own) (hv : ∀ i ∈ vs1, i ∈ own.map (·.2))
    (hg : AllB X scope fun Y => PG Y a0 g) (ht : AllB X scope fun Y => PTs Y f0 tt) (hi1 : AllB X scope fun Y => PI Y a1 j1 wi1) (hg1 : AllB X scope fun Y => PG Y a1 g1) (ht1 : AllB X scope fun Y => PTs Y f1 tt1) (hk : AllB X scope fun Y => PE Y kx tk) (he : AllB X scope fun Y => PE Y vx tv)
    (hs : ∀ x, foldedSetIterable j0 X.env x = pure x := by intro _; rfl) (hs1 : ∀ env x, foldedSetIterable j1 env x = pure x := by intro _ _; rfl) :
    PE X (.DictComp kx vx [⟨a0, j0, f0, 0⟩, ⟨a1, j1, f1, 0⟩] scope pos) (tD2 wi g tt wi1 g1 tt1 tk tv (own.map (·.2)) vs1) := by
  refine ⟨fun pins s σ H Q I h => ?_⟩
  rw [arm_eval_DictComp]
  refine d2_core hc hN I hi ok hv hg ht hk he hs hi1 hg1 ht1 hs1 h fun D C s' m H' I' q hn f => ⟨m, hn, fun h'' sb => ?_⟩
  obtain ⟨k0, k1, _, k3, k4, k5⟩ := f
  exact ⟨.ref D, H', I'.turned (t' := s'.toks) (fun b o hb e => (sb.2 b hb).trans e) k0 k1 k3 k4 k5, rfl, q⟩
end
end Py

set_option Elab.async false
set_option linter.all false
set_option maxRecDepth 100000
set_option autoImplicit false
set_option maxHeartbeats 4000000
/-! PyU: dict comprehensions, walks over keys, dicts written out and handed on, in the layer. -/
namespace Py
open PySem L2 PyProof.Rows
open Evl (Ex)
def noDct (ρ : En) : Bool := ρ.all fun c => match c with
  | some (.dct _) => false
  | _ => true
def dIn (τ : Pat) (T : En → R Bool) (κ ν : En → R Rv) (ρ : En) : List PyData → List (Int × PyData) → R (List (Int × PyData))
  | [], acc => .ok acc
  | d :: ds, acc => asg τ d ρ >>= fun ρ1 => nerr (T ρ1) >>= fun b => if b = true then nerr (κ ρ1) >>= fun y => (frz y).toInt >>= fun k => nerr (ν ρ1) >>= fun z => (frz z).toVal >>= fun e => if acc.length ≤ 1000000 then dIn τ T κ ν ρ ds (putI acc k e) else .bad else dIn τ T κ ν ρ ds acc
def dOut (τ : Pat) (T : En → R Bool) (ι : En → R (Bool × List PyData)) (τ' : Pat) (T' : En → R Bool) (κ ν : En → R Rv) (vs : List Nat) (ρ : En) : List PyData → List (Int × PyData) → R (List (Int × PyData))
  | [], acc => .ok acc
  | d :: ds, acc => asg τ d ρ >>= fun ρ1 => nerr (T ρ1) >>= fun b => if b = true then (if noDct (wipeE ρ1 vs) = true then nerr (ι ρ1) >>= fun a => if a.1 = true then dIn τ' T' κ ν (wipeE ρ1 vs) a.2 acc >>= fun acc' => dOut τ T ι τ' T' κ ν vs ρ ds acc' else .bad else .bad) else dOut τ T ι τ' T' κ ν vs ρ ds acc
def sD2 (i : Nat) (ι : En → R (Bool × List PyData)) (τ : Pat) (T : En → R Bool) (ι' : En → R (Bool × List PyData)) (τ' : Pat) (T' : En → R Bool) (κ ν : En → R Rv) (vs vs' : List Nat) : En → R Out := fun ρ => ι ρ >>= fun a => dOut τ T ι' τ' T' κ ν vs' (wipeE ρ vs) a.2 [] >>= fun kvs => .ok (.nx (ρ.set i (some (.dct kvs))))
def sDLit (i : Nat) (κ ν : En → R Rv) : En → R Out := fun ρ => nerr (κ ρ) >>= fun y => (frz y).toInt >>= fun k => nerr (ν ρ) >>= fun z => (frz z).toVal >>= fun d => .ok (.nx (ρ.set i (some (.dct [(k, d)]))))
def sDMv (i j : Nat) : En → R Out := fun ρ => dctAt ρ j >>= fun kvs => .ok (.nx ((ρ.set j none).set i (some (.dct kvs))))
def knAt (ρ : En) (i : Nat) : R (List (Int × PyData)) := match ρ[i]? with
  | some (some (.kn (.dfz kvs))) => .ok kvs
  | _ => .bad
def iDk (i : Nat) : En → R (Bool × List PyData) := fun ρ => knAt ρ i >>= fun kvs => .ok (false, kvs.map fun p => .int p.1)
def eKGet (i : Nat) (ψ : En → R Rv) : En → R Rv := fun ρ => knAt ρ i >>= fun kvs => ψ ρ >>= fun y => (frz y).toInt >>= fun k => match getI kvs k with
  | some d => .ok (.val d)
  | none => .bad
def eLk (i : Nat) (φ : En → R Rv) : En → R Rv := fun ρ => dctAt ρ i >>= fun kvs => nerr (φ (ρ.set i (some (.kn (.dfz kvs))))) >>= fun r => match r with
  | .own ds => .ok (.own ds)
  | _ => .bad
theorem knAt_ok {ρ : En} {i : Nat} {kvs : List (Int × PyData)} (h : knAt ρ i = .ok kvs) : ρ[i]? = some (some (.kn (.dfz kvs))) := by
  unfold knAt at h
  split at h
  · rename_i ks e
    cases h
    exact e
  · cases h
theorem knAt_no {ρ : En} {i : Nat} {c : Str} : knAt ρ i ≠ .err c := by
  unfold knAt
  split <;> exact fun h => nomatch h
variable [KK]
theorem dIn_no {τ : Pat} {T : En → R Bool} {κ ν : En → R Rv} {ρ : En} {c : Str} : ∀ {ds : List PyData} {acc : List (Int × PyData)}, dIn τ T κ ν ρ ds acc ≠ .err c
  | [], _ => fun h => nomatch h
  | d :: ds, acc => by
    rw [dIn]
    refine bind_no (fun _ => asg_no) fun ρ1 => bind_no (fun _ => nerr_no) fun b => ?_
    cases b with
    | false => exact dIn_no
    | true =>
      rw [if_pos rfl]
      refine bind_no (fun _ => nerr_no) fun x => bind_no (fun c h => ?_) fun k => bind_no (fun _ => nerr_no) fun z => bind_no (fun _ => toVal_no) fun e => ?_
      · cases x with
        | val d => cases d <;> cases h
        | own _ => cases h
        | bor _ _ => cases h
      · split
        · exact dIn_no
        · exact fun h => nomatch h
theorem dOut_no {τ : Pat} {T : En → R Bool} {ι : En → R (Bool × List PyData)} {τ' : Pat} {T' : En → R Bool} {κ ν : En → R Rv} {vs : List Nat} {ρ : En} {c : Str} : ∀ {ds : List PyData} {acc : List (Int × PyData)}, dOut τ T ι τ' T' κ ν vs ρ ds acc ≠ .err c
  | [], _ => fun h => nomatch h
  | d :: ds, acc => by
    rw [dOut]
    refine bind_no (fun _ => asg_no) fun ρ1 => bind_no (fun _ => nerr_no) fun b => ?_
    cases b with
    | false => exact dOut_no
    | true =>
      rw [if_pos rfl]
      split
      · refine bind_no (fun _ => nerr_no) fun a => ?_
        split
        · exact bind_no (fun _ => dIn_no) fun _ => dOut_no
        · exact fun h => nomatch h
      · exact fun h => nomatch h
section
variable {Hk0 H0 Hk H : Hp} {σ : Sl} {ρ : En}
/-- a dict that no slot tells of is written -/
theorem Rel.mutF {D : Addr} {ks ls : List (Key × V)} (r : Rel Hk0 H0 Hk H σ ρ) (hn : noDct ρ = true) (h0 : H0 D = none) (hk : Hk D = none) (hp : H D = some (.dK ks)) : Rel Hk0 H0 Hk (upd H D (.dK ls)) σ ρ where
  len := r.len
  gr := ⟨r.gr.k, Ex.mut r.gr.h h0, fun a u q => by rw [upd_ne (ne_of_none q hk)]; exact r.gr.kh a u q, r.gr.fr⟩
  val := r.val
  own := fun j fs q => by
    obtain ⟨p', zs, a, b, c, d, e⟩ := r.own j fs q
    have : p' ≠ D := fun w => by
      subst w
      rw [hp] at d
      cases d
    exact ⟨p', zs, a, b, c, by rw [upd_ne this]; exact d, e⟩
  sep := r.sep
  raw := r.raw
  dct := fun j fs q => by
    have := List.all_eq_true.mp hn _ (List.mem_of_getElem? q)
    cases this
  tpn := r.tpn
  dsep := r.dsep
  kn := r.kn
theorem Rel.setKn {v : V} {t : Tg} {i : Nat} (r : Rel Hk0 H0 Hk H σ ρ) (hs : σ[i]? = some (some v)) (h : t.In Hk v) : Rel Hk0 H0 Hk H σ (ρ.set i (some (.kn t))) where
  len := by rw [List.length_set]; exact r.len
  gr := r.gr
  val := fun j e q => by
    rw [get_set] at q
    split at q
    · split at q <;> cases q
    · exact r.val j e q
  own := fun j e q => by
    rw [get_set] at q
    split at q
    · split at q <;> cases q
    · exact r.own j e q
  sep := fun j k ds es p q1 q2 h1 h2 => by
    rw [get_set] at q1 q2
    split at q1
    · split at q1 <;> cases q1
    · split at q2
      · split at q2 <;> cases q2
      · exact r.sep j k ds es p q1 q2 h1 h2
  raw := fun j a q => by
    rw [get_set] at q
    split at q
    · split at q <;> cases q
    · exact r.raw j a q
  dct := fun j e q => by
    rw [get_set] at q
    split at q
    · split at q <;> cases q
    · exact r.dct j e q
  tpn := fun j e q => by
    rw [get_set] at q
    split at q
    · split at q <;> cases q
    · exact r.tpn j e q
  dsep := fun j k ds es p q1 q2 h1 h2 => by
    rw [get_set] at q1 q2
    split at q1
    · split at q1 <;> cases q1
    · split at q2
      · split at q2 <;> cases q2
      · exact r.dsep j k ds es p q1 q2 h1 h2
  kn := fun j e q => by
    rw [get_set] at q
    split at q
    · rename_i hj
      subst hj
      split at q
      · cases q
        exact ⟨v, hs, h⟩
      · cases q
    · exact r.kn j e q
end
section
variable {K : PySem.W.Frag} {W : WX} {ι ι' : En → R (Bool × List PyData)} {τ τ' : Pat} {T T' : En → R Bool} {κ ν : En → R Rv} {vs vs' : List Nat}
/-- the heap behind a store into the new dict -/
theorem gr_put {Hk1 H1 Hk2 H2 : Hp} {D : Addr} {o : HO} (G : Gr Hk1 H1 Hk2 H2) (hD : H1 D = none) (kD : Hk2 D = none) : Gr Hk1 H1 Hk2 (upd H2 D o) := ⟨G.k, Ex.mut G.h hD, fun a u q => by rw [upd_ne (ne_of_none q kD)]; exact G.kh a u q, G.fr⟩
theorem val_known {Hk H Hk' H' : Hp} {σ : Sl} {y : Rv} {v : V} {w : PyData} (g : Gr Hk H Hk' H') (n : New H y v) (d : Den Hk' H' σ y v) (q : (frz y).toVal = .ok w) : ∃ Hk2, Gr Hk H Hk2 H' ∧ Rp Hk2 v w := by
  cases y with
  | val d' => cases q; exact ⟨Hk', g, d⟩
  | own zs =>
    cases q
    obtain ⟨p, xs, a, b, c, f⟩ := d
    obtain ⟨p', a', b'⟩ := n
    subst a
    cases a'
    exact ⟨_, g.frz b' c b, .lst (.inl (.inl upd_same)) (RpAll.up (Ex.new b) f)⟩
  | bor j zs => cases q
theorem d2_read {i : Nat} {σ : Sl} {H : Hp} {E : Ends} (hv : ∀ i ∈ slots τ, i ∈ vs) (hv' : ∀ i ∈ slots τ', i ∈ vs') (h : ts K W (sD2 i ι τ T ι' τ' T' κ ν vs vs') E σ H) :
    tD2 (ti K W ι) (tg τ) (tt K W0 T) (ti K W0 ι') (tg τ') (tt K W0 T') (te K W0 κ) (te K W0 ν) vs vs' σ H (fun x H1 => gName i x σ H1 E.nx) := by
  obtain ⟨Hk0, H0, Hk, ρ, r, p⟩ := h
  refine ⟨Hk0, H0, Hk, ρ, r, ?_⟩
  unfold sD2 at p
  cases e1 : ι ρ with
  | err c => rw [e1] at p; exact fun Hk' H' g => p σ Hk' H' (r.gr.trans g)
  | bad => rw [e1] at p; exact p
  | ok a =>
    obtain ⟨kn, ds⟩ := a
    rw [e1] at p
    have p : PostS K W Hk0 H0 Hk E (dOut τ T ι' τ' T' κ ν vs' (wipeE ρ vs) ds [] >>= fun kvs => .ok (.nx (ρ.set i (some (.dct kvs))))) := p
    intro J Hk1 H1 S g1 ok s1 _ D hD
    cases e2 : dOut τ T ι' τ' T' κ ν vs' (wipeE ρ vs) ds [] with
    | err c => exact absurd e2 dOut_no
    | bad => rw [e2] at p; exact p.elim
    | ok all =>
      rw [e2] at p
      have p : PostS K W Hk0 H0 Hk E (.ok (.nx (ρ.set i (some (.dct all))))) := p
      have r1 := r.up g1
      have h0D : H0 D = none := Evl.fresh_back r1.gr.h hD
      refine ⟨fun i m Hc => m = ds.length - i ∧ i ≤ ds.length ∧ ∃ Hk2 ks acc, Gr Hk1 H1 Hk2 Hc ∧ Hk2 D = none ∧ Hc D = some (.dK ks) ∧ DR Hk2 ks acc ∧ dOut τ T ι' τ' T' κ ν vs' (wipeE ρ vs) (ds.drop i) acc = .ok all,
        ⟨ds.length, by simp, Nat.zero_le _, Hk1, [], [], Gr.own g1.kh hD, Evl.fresh_back g1.kh hD, upd_same, ⟨rfl, .nil⟩, by rw [List.drop_zero]; exact e2⟩, ?_⟩
      rintro l m Hc ⟨rfl, hi, Hk2, ks, acc, g2, kD, cD, ra, el⟩
      have sc : S Hc := ok.mono _ _ g2.h s1
      by_cases hlt : l < ds.length
      · refine .inr ⟨ok.go l Hc sc hlt, fun H' => l + 1 ≤ ds.length ∧ ∃ Hk2 ks acc, Gr Hk1 H1 Hk2 H' ∧ Hk2 D = none ∧ H' D = some (.dK ks) ∧ DR Hk2 ks acc ∧ dOut τ T ι' τ' T' κ ν vs' (wipeE ρ vs) (ds.drop (l + 1)) acc = .ok all, fun H' n => ⟨ds.length - (l + 1), by omega, rfl, n.1, n.2⟩, fun x H' y => ?_⟩
        obtain ⟨Hk3, g3, rx⟩ := ok.yld l Hc Hk2 x H' sc g2.k g2.kh y ds[l] (List.getElem?_eq_getElem hlt)
        rw [List.drop_eq_getElem_cons hlt, dOut] at el
        cases q1 : asg τ ds[l] (wipeE ρ vs) with
        | err c => rw [q1] at el; cases el
        | bad => rw [q1] at el; cases el
        | ok ρ1 =>
          rw [q1] at el
          have el : (nerr (T ρ1) >>= fun b => if b = true then (if noDct (wipeE ρ1 vs') = true then nerr (ι' ρ1) >>= fun a => if a.1 = true then dIn τ' T' κ ν (wipeE ρ1 vs') a.2 acc >>= fun acc' => dOut τ T ι' τ' T' κ ν vs' (wipeE ρ vs) (ds.drop (l + 1)) acc' else .bad else .bad) else dOut τ T ι' τ' T' κ ν vs' (wipeE ρ vs) (ds.drop (l + 1)) acc) = .ok all := el
          have rw2 := ((r1.up g2).up g3).wiped vs
          have dD3 : H' D = some (.dK ks) := g3.h _ _ cD
          have kD3 : Hk3 D = none := g3.fr D (by rw [cD]; exact fun z => nomatch z) kD
          refine ⟨Hk0, H0, Hk3, wipeE ρ vs, ds[l], rw2, rx, ρ1, q1, fun σ2 r2 o2 => ⟨wipe_off o2 hv, Hk0, H0, Hk3, ρ1, r2, ?_⟩⟩
          cases q2 : T ρ1 with
          | err c => rw [q2] at el; cases el
          | bad => rw [q2] at el; cases el
          | ok b =>
            rw [q2] at el
            intro Hk4 H4 g4
            have dD4 : H4 D = some (.dK ks) := g4.h _ _ dD3
            have kD4 : Hk4 D = none := g4.fr D (by rw [dD3]; exact fun z => nomatch z) kD3
            cases b with
            | false =>
              rw [if_neg Bool.false_ne_true]
              exact ⟨hlt, Hk4, ks, acc, g2.trans (g3.trans g4), kD4, dD4, DR.up (g3.trans g4).k ra, el⟩
            | true =>
              rw [if_pos rfl]
              have el : (if noDct (wipeE ρ1 vs') = true then nerr (ι' ρ1) >>= fun a => if a.1 = true then dIn τ' T' κ ν (wipeE ρ1 vs') a.2 acc >>= fun acc' => dOut τ T ι' τ' T' κ ν vs' (wipeE ρ vs) (ds.drop (l + 1)) acc' else .bad else .bad) = .ok all := el
              split at el
              case isFalse => cases el
              rename_i hnd
              refine ⟨Hk0, H0, Hk4, ρ1, r2.up g4, ?_⟩
              cases q3 : ι' ρ1 with
              | err c => rw [q3] at el; cases el
              | bad => rw [q3] at el; cases el
              | ok a =>
                obtain ⟨kn', ds'⟩ := a
                rw [q3] at el
                have el : (if kn' = true then dIn τ' T' κ ν (wipeE ρ1 vs') ds' acc >>= fun acc' => dOut τ T ι' τ' T' κ ν vs' (wipeE ρ vs) (ds.drop (l + 1)) acc' else .bad) = .ok all := el
                split at el
                case isFalse => cases el
                rename_i hkn
                intro J' Hk5 H5 S' g5 ok' s5 sk5
                have sk5 := sk5 hkn
                cases q4 : dIn τ' T' κ ν (wipeE ρ1 vs') ds' acc with
                | err c => exact absurd q4 dIn_no
                | bad => rw [q4] at el; cases el
                | ok acc' =>
                  rw [q4] at el
                  have el : dOut τ T ι' τ' T' κ ν vs' (wipeE ρ vs) (ds.drop (l + 1)) acc' = .ok all := el
                  have dD5 : H5 D = some (.dK ks) := g5.h _ _ dD4
                  have kD5 : Hk5 D = none := g5.fr D (by rw [dD4]; exact fun z => nomatch z) kD4
                  have g15 := g2.trans (g3.trans (g4.trans g5))
                  refine ⟨fun j m Hd => m = ds'.length - j ∧ j ≤ ds'.length ∧ ∃ Hk6 ks6 acc6, Gr Hk1 H1 Hk6 Hd ∧ Ex Hk5 Hk6 ∧ Rel Hk0 H0 Hk6 Hd (wipe σ2 vs') (wipeE ρ1 vs') ∧ Hk6 D = none ∧ Hd D = some (.dK ks6) ∧ DR Hk6 ks6 acc6 ∧ dIn τ' T' κ ν (wipeE ρ1 vs') (ds'.drop j) acc6 = .ok acc',
                    ⟨ds'.length, by simp, Nat.zero_le _, Hk5, ks, acc, g15, Ex.refl _, ((r2.up g4).up g5).wiped vs', kD5, dD5, DR.up (g3.trans (g4.trans g5)).k ra, by rw [List.drop_zero]; exact q4⟩, ?_⟩
                  rintro j m' Hd ⟨rfl, hj, Hk6, ks6, acc6, g6, x6, r6, kD6, dD6, ra6, el6⟩
                  have sd : S' Hd := ok'.mono _ _ (x6.trans g6.kh) sk5
                  by_cases hlj : j < ds'.length
                  · refine .inr ⟨ok'.go j Hd sd hlj, fun H' => j + 1 ≤ ds'.length ∧ ∃ Hk6 ks6 acc6, Gr Hk1 H1 Hk6 H' ∧ Ex Hk5 Hk6 ∧ Rel Hk0 H0 Hk6 H' (wipe σ2 vs') (wipeE ρ1 vs') ∧ Hk6 D = none ∧ H' D = some (.dK ks6) ∧ DR Hk6 ks6 acc6 ∧ dIn τ' T' κ ν (wipeE ρ1 vs') (ds'.drop (j + 1)) acc6 = .ok acc', fun H' n => ⟨ds'.length - (j + 1), by omega, rfl, n.1, n.2⟩, fun x' H7 y' => ?_⟩
                    obtain ⟨Hk7, g7, rx7⟩ := ok'.yld j Hd Hk6 x' H7 sd x6 g6.kh y' ds'[j] (List.getElem?_eq_getElem hlj)
                    rw [List.drop_eq_getElem_cons hlj, dIn] at el6
                    cases t1 : asg τ' ds'[j] (wipeE ρ1 vs') with
                    | err c => rw [t1] at el6; cases el6
                    | bad => rw [t1] at el6; cases el6
                    | ok ρ2 =>
                      rw [t1] at el6
                      have el6 : (nerr (T' ρ2) >>= fun b => if b = true then nerr (κ ρ2) >>= fun y => (frz y).toInt >>= fun k => nerr (ν ρ2) >>= fun z => (frz z).toVal >>= fun e => if acc6.length ≤ 1000000 then dIn τ' T' κ ν (wipeE ρ1 vs') (ds'.drop (j + 1)) (putI acc6 k e) else .bad else dIn τ' T' κ ν (wipeE ρ1 vs') (ds'.drop (j + 1)) acc6) = .ok acc' := el6
                      have dD7 : H7 D = some (.dK ks6) := g7.h _ _ dD6
                      have kD7 : Hk7 D = none := g7.fr D (by rw [dD6]; exact fun z => nomatch z) kD6
                      have rw7 := (r6.up g7).wiped vs'
                      have ee : wipe (wipe σ2 vs') vs' = wipe σ2 vs' := by
                        refine List.ext_getElem? fun i => ?_
                        rw [wipe_get, wipe_length, wipe_get]
                        split <;> rfl
                      have r7 := r6.up g7
                      refine ⟨Hk0, H0, Hk7, wipeE ρ1 vs', ds'[j], r7, rx7, ρ2, t1, fun σ3 r3 o3 => ⟨wipe_off o3 hv', Hk0, H0, Hk7, ρ2, r3, ?_⟩⟩
                      cases t2 : T' ρ2 with
                      | err c => rw [t2] at el6; cases el6
                      | bad => rw [t2] at el6; cases el6
                      | ok b =>
                        rw [t2] at el6
                        intro Hk8 H8 g8
                        have dD8 : H8 D = some (.dK ks6) := g8.h _ _ dD7
                        have kD8 : Hk8 D = none := g8.fr D (by rw [dD7]; exact fun z => nomatch z) kD7
                        cases b with
                        | false =>
                          rw [if_neg Bool.false_ne_true]
                          exact ⟨hlj, Hk8, ks6, acc6, g6.trans (g7.trans g8), x6.trans (g7.trans g8).k, r7.up g8, kD8, dD8, DR.up (g7.trans g8).k ra6, el6⟩
                        | true =>
                          rw [if_pos rfl]
                          have el6 : (nerr (κ ρ2) >>= fun y => (frz y).toInt >>= fun k => nerr (ν ρ2) >>= fun z => (frz z).toVal >>= fun e => if acc6.length ≤ 1000000 then dIn τ' T' κ ν (wipeE ρ1 vs') (ds'.drop (j + 1)) (putI acc6 k e) else .bad) = .ok acc' := el6
                          refine ⟨Hk0, H0, Hk8, ρ2, r3.up g8, ?_⟩
                          cases t3 : κ ρ2 with
                          | err c => rw [t3] at el6; cases el6
                          | bad => rw [t3] at el6; cases el6
                          | ok yk =>
                            rw [t3] at el6
                            have el6 : ((frz yk).toInt >>= fun k => nerr (ν ρ2) >>= fun z => (frz z).toVal >>= fun e => if acc6.length ≤ 1000000 then dIn τ' T' κ ν (wipeE ρ1 vs') (ds'.drop (j + 1)) (putI acc6 k e) else .bad) = .ok acc' := el6
                            cases t4 : (frz yk).toInt with
                            | err c => rw [t4] at el6; cases el6
                            | bad => rw [t4] at el6; cases el6
                            | ok k =>
                              rw [t4] at el6
                              have el6 : (nerr (ν ρ2) >>= fun z => (frz z).toVal >>= fun e => if acc6.length ≤ 1000000 then dIn τ' T' κ ν (wipeE ρ1 vs') (ds'.drop (j + 1)) (putI acc6 k e) else .bad) = .ok acc' := el6
                              intro v9 Hk9 H9 g9 n9 d9
                              have eyk : yk = .val (.int k) := by
                                cases yk with
                                | val d' => cases d' <;> first | (cases t4; rfl) | cases t4
                                | own _ => cases t4
                                | bor _ _ => cases t4
                              subst eyk
                              cases (show Rp Hk9 v9 (.int k) from d9)
                              refine ⟨Hk0, H0, Hk9, ρ2, (r3.up g8).up g9, ?_⟩
                              cases t5 : ν ρ2 with
                              | err c => rw [t5] at el6; cases el6
                              | bad => rw [t5] at el6; cases el6
                              | ok yz =>
                                rw [t5] at el6
                                have el6 : ((frz yz).toVal >>= fun e => if acc6.length ≤ 1000000 then dIn τ' T' κ ν (wipeE ρ1 vs') (ds'.drop (j + 1)) (putI acc6 k e) else .bad) = .ok acc' := el6
                                intro vA HkA HA gA nA dA
                                cases t6 : (frz yz).toVal with
                                | err c => rw [t6] at el6; cases el6
                                | bad => rw [t6] at el6; cases el6
                                | ok e =>
                                  rw [t6] at el6
                                  have el6 : (if acc6.length ≤ 1000000 then dIn τ' T' κ ν (wipeE ρ1 vs') (ds'.drop (j + 1)) (putI acc6 k e) else .bad) = .ok acc' := el6
                                  split at el6
                                  case isFalse => cases el6
                                  rename_i hacc
                                  obtain ⟨HkB, gB, rB⟩ := val_known gA nA dA t6
                                  have dD9 : H9 D = some (.dK ks6) := g9.h _ _ dD8
                                  have kD9 : Hk9 D = none := g9.fr D (by rw [dD8]; exact fun z => nomatch z) kD8
                                  have dDA : HA D = some (.dK ks6) := gB.h _ _ dD9
                                  have kDB : HkB D = none := gB.fr D (by rw [dD9]; exact fun z => nomatch z) kD9
                                  have G := g7.trans (g8.trans (g9.trans gB))
                                  have raB := DR.up G.k ra6
                                  refine ⟨ks6, Sum.inl k, rfl, dDA, Nat.lt_of_le_of_lt (Nat.le_of_eq raB.len) (Nat.lt_of_le_of_lt hacc (by decide)), hlj, HkB, _, putI acc6 k e, gr_put (g6.trans G) hD kDB, x6.trans G.k, (r6.up G).mutF hnd h0D kDB dDA, kDB, upd_same, DR.put rB raB, el6⟩
                  · have e3 : j = ds'.length := by omega
                    rw [e3, List.drop_length] at el6
                    cases el6
                    exact .inl ⟨ok'.stop j Hd sd e3, hlt, Hk6, ks6, acc', g6, kD6, dD6, ra6, el⟩
      · have e3 : l = ds.length := by omega
        rw [e3, List.drop_length] at el
        cases el
        refine .inl ⟨ok.stop l Hc sc e3, p _ Hk2 Hc (g1.trans g2).k (Rel.setDct (r1.up g2) h0D kD cD ra fun j es h1 h2 h3 => ?_)⟩
        obtain ⟨p', ls, a, b, c, d, _⟩ := r1.dct j es h1
        rw [a] at h3
        cases h3
        rw [d] at hD
        cases hD
end
end Py

set_option Elab.async false
set_option linter.all false
set_option maxRecDepth 100000
set_option autoImplicit false
set_option maxHeartbeats 4000000
/-! PyU2: the rules for dict comprehensions, walks over keys, dicts written out and handed on. -/
namespace Py
open PySem L2 PyProof.Rows
open Evl (Ex)
theorem sw_dict {kx vx : Expr} {gs : List Comprehension} {scope : Scope} {pos py : Pos} {y : Str} {l : Nat} {env : Env} (a : env.scope.kind = .function) (b : env.scope.names.lookup y = some .local) (c : (py.line == pos.line) = true)
    (d : (scope.names.any fun (n, k) => n == y && (k == .local || k == .cell)) = false) : swapsWith (.DictComp kx vx gs scope pos) (some (.Name y py)) l env = pure true := by
  have b' : env.kindOf y = some .local := b
  have a' : env.blockKind = .function := by unfold Env.blockKind; rw [a]; rfl
  unfold swapsWith; simp only [a', b', d, Expr.pos, c]; rfl
variable [KK]
section
variable {X : Cx}
theorem ps_setD2 {i : Nat} {y : Str} {py : Pos} {kx vx a0 j0 a1 j1 : Expr} {f0 f1 : List Expr} {scope : Scope} {own : List (Str × Nat)} {vs1 : List Nat} {pos spos : Pos} {wi wi1 : TI} {g g1 : TG} {tt tt1 : TT} {tk tv : TE} (hc : X.calm = true) (hN : X.N.Nodup) (hy : X.N[i]? = some y) (hyl : X.env.scope.names.lookup y = some .local)
    (hsw : swapsWith (.DictComp kx vx [⟨a0, j0, f0, 0⟩, ⟨a1, j1, f1, 0⟩] scope pos) (some (.Name y py)) spos.line X.env = pure true) (hi : PI X a0 j0 wi) (ok : BlkOk X.N X.env.scope scope own) (hv : ∀ i ∈ vs1, i ∈ own.map (·.2))
    (hg : AllB X scope fun Y => PG Y a0 g) (ht : AllB X scope fun Y => PTs Y f0 tt) (hi1 : AllB X scope fun Y => PI Y a1 j1 wi1) (hg1 : AllB X scope fun Y => PG Y a1 g1) (ht1 : AllB X scope fun Y => PTs Y f1 tt1) (hk : AllB X scope fun Y => PE Y kx tk) (he : AllB X scope fun Y => PE Y vx tv)
    (hs : ∀ x, foldedSetIterable j0 X.env x = pure x) (hs1 : ∀ env x, foldedSetIterable j1 env x = pure x) :
    PS X (.Assign [.Name y py] (.DictComp kx vx [⟨a0, j0, f0, 0⟩, ⟨a1, j1, f1, 0⟩] scope pos) spos) (tAsg (tD2 wi g tt wi1 g1 tt1 tk tv (own.map (·.2)) vs1) (gName i)) := by
  refine ⟨fun pins s σ H D I h => ?_⟩
  rw [exec_Assign_Name_used _ _ _ _ hsw]; refine wpAny_bind (wpAny_standAt (wpAny_bind ?_))
  show wpAny _ X.A (do let _ ← comprehension (D2 kx vx a0 j0 f0 a1 j1 f1 scope pos) scope X.env (firstIterPos [⟨a0, j0, f0, 0⟩, ⟨a1, j1, f1, 0⟩] pos) newDict false (eval j0 X.env) (some (assign (.Name y py) X.env))) _ _ s
  have h : tD2 wi g tt wi1 g1 tt1 tk tv (own.map (·.2)) vs1 σ H (fun x H1 => gName i x σ H1 D.nx) := h
  refine wpAny_bind (thn (d2_core (Qf := fun _ s' => SP X pins D .next s') hc hN I hi ok hv hg ht hk he hs hi1 hg1 ht1 hs1 h fun L C u m K' I' qq hn f => ?_) fun _ s' hq => wpAny_pure (wpAny_pure hq))
  show wpAny _ _ (assign (.Name y py) X.env (.ref L)) _ _ _
  refine wpAny_assign_Name (store_ok2 (v := V.ref L) I' hN hy (.inl hyl) rfl (fun u2 I2 ⟨a, sb, ha⟩ => ?_) (.inr hyl))
  obtain ⟨k0, k1, _, k3, k4, k5⟩ := f
  have ne : C ≠ a := ha.elim (fun z => by rw [z]; exact k1) fun z e => k4 y a z e.symm
  exact ⟨m, hn.sameBut sb ne, fun h3 sb3 => ⟨_, K', I2.turned (t' := u2.toks) (fun b o hb e => (sb3.2 b hb).trans e) k0 k1 k3 k4 k5, qq⟩⟩
end
section
variable {X : Cx} [ok : OK X] {W : WX} {e f : Expr} {φ ψ χ : En → R Rv} {pos : Pos}
theorem s_dc2 {y : Str} {py : Pos} {kx vx a0 j0 a1 j1 : Expr} {f0 f1 : List Expr} {scope : Scope} {own : List (Str × Nat)} {vs' : List Nat} {spos : Pos} {ι ι' : En → R (Bool × List PyData)} {τ τ' : Pat} {T T' : En → R Bool} {κ ν : En → R Rv} (i : Nat) (hc : X.calm = true) (hN : X.N.Nodup)
    (bo : BlkOk X.N X.env.scope scope own) (hi : PI X a0 j0 (ti X.K W ι))
    (hg : AllB X scope fun Y => PG Y a0 (tg τ)) (ht : AllB X scope fun Y => PTs Y f0 (tt X.K W0 T)) (hi1 : AllB X scope fun Y => PI Y a1 j1 (ti X.K W0 ι')) (hg1 : AllB X scope fun Y => PG Y a1 (tg τ')) (ht1 : AllB X scope fun Y => PTs Y f1 (tt X.K W0 T')) (hk : AllB X scope fun Y => PE Y kx (te X.K W0 κ)) (he : AllB X scope fun Y => PE Y vx (te X.K W0 ν))
    (hsw : swapsWith (.DictComp kx vx [⟨a0, j0, f0, 0⟩, ⟨a1, j1, f1, 0⟩] scope pos) (some (.Name y py)) spos.line X.env = pure true)
    (hy : X.N[i]? = some y := by rfl) (hyl : X.env.scope.names.lookup y = some .local := by rfl) (hvv : ∀ i ∈ vs', i ∈ own.map (·.2) := by decide)
    (hv : ∀ i ∈ slots τ, i ∈ own.map (·.2) := by decide) (hv' : ∀ i ∈ slots τ', i ∈ vs' := by decide) (hs : ∀ x, foldedSetIterable j0 X.env x = pure x := by intro _; rfl) (hs1 : ∀ env x, foldedSetIterable j1 env x = pure x := by intro _ _; rfl) :
    PS X (.Assign [.Name y py] (.DictComp kx vx [⟨a0, j0, f0, 0⟩, ⟨a1, j1, f1, 0⟩] scope pos) spos) (ts X.K W (sD2 i ι τ T ι' τ' T' κ ν (own.map (·.2)) vs')) :=
  ps_imp (ps_setD2 hc hN hy hyl hsw hi bo hvv hg ht hi1 hg1 ht1 hk he hs hs1) fun D σ H h => d2_read hv hv' h
theorem s_dlit {x : Str} {pos' dp : Pos} (i : Nat) (hN : X.N.Nodup) (he : PE X e (te X.K W0 φ)) (hf : PE X f (te X.K W0 ψ)) (hi : X.N[i]? = some x := by rfl) (hx : Loc X.env.scope x := by first | exact Or.inl rfl | exact Or.inr rfl) (hs : swapsWith (.Dict [some e] [f] dp) (some (.Name x pos')) pos.line X.env = pure false := by rfl)
    (hq : X.fn x = true ∨ X.env.scope.names.lookup x = some .local := by first | exact .inl rfl | exact .inr rfl) : PS X (.Assign [.Name x pos'] (.Dict [some e] [f] dp) pos) (ts X.K W (sDLit i φ ψ)) :=
  ps_imp (ps_set hN hi hx (pe_disp (pps_cons he hf pps_nil) (by rfl) (by rfl) (fun z => by cases z) (by show 1 ≤ 15; decide)) hs hq) fun D σ H ⟨Hk0, H0, Hk, ρ, r, p⟩ => by
    intro q hq
    unfold sDLit at p
    have g := Gr.own (o := .dK []) r.kh hq
    have r1 := r.up g
    have kq : Hk q = none := Evl.fresh_back r.kh hq
    refine ⟨Hk0, H0, Hk, ρ, r1, ?_⟩
    cases t3 : φ ρ with
    | err c => rw [t3] at p; exact p.elim
    | bad => rw [t3] at p; exact p
    | ok yk =>
      rw [t3] at p
      have p : PostS X.K W Hk0 H0 Hk D ((frz yk).toInt >>= fun k => nerr (ψ ρ) >>= fun z => (frz z).toVal >>= fun d => .ok (.nx (ρ.set i (some (.dct [(k, d)]))))) := p
      cases t4 : (frz yk).toInt with
      | err c =>
        cases yk with
        | val d' => cases d' <;> cases t4
        | own _ => cases t4
        | bor _ _ => cases t4
      | bad => rw [t4] at p; exact p.elim
      | ok k =>
        rw [t4] at p
        have p : PostS X.K W Hk0 H0 Hk D (nerr (ψ ρ) >>= fun z => (frz z).toVal >>= fun d => .ok (.nx (ρ.set i (some (.dct [(k, d)]))))) := p
        intro v9 Hk9 H9 g9 n9 d9
        have eyk : yk = .val (.int k) := by
          cases yk with
          | val d' => cases d' <;> first | (cases t4; rfl) | cases t4
          | own _ => cases t4
          | bor _ _ => cases t4
        subst eyk
        cases (show Rp Hk9 v9 (.int k) from d9)
        refine ⟨Hk0, H0, Hk9, ρ, r1.up g9, ?_⟩
        cases t5 : ψ ρ with
        | err c => rw [t5] at p; exact p.elim
        | bad => rw [t5] at p; exact p
        | ok yz =>
          rw [t5] at p
          have p : PostS X.K W Hk0 H0 Hk D ((frz yz).toVal >>= fun d => .ok (.nx (ρ.set i (some (.dct [(k, d)]))))) := p
          intro vA HkA HA gA nA dA
          cases t6 : (frz yz).toVal with
          | err c => exact absurd t6 toVal_no
          | bad => rw [t6] at p; exact p.elim
          | ok d =>
            rw [t6] at p
            obtain ⟨HkB, gB, rB⟩ := val_known gA nA dA t6
            have hq9 : H9 q = some (.dK []) := g9.h _ _ upd_same
            have kq9 : Hk9 q = none := g9.fr q (by rw [upd_same]; exact fun z => nomatch z) kq
            have hqA : HA q = some (.dK []) := gB.h _ _ hq9
            have kqB : HkB q = none := gB.fr q (by rw [hq9]; exact fun z => nomatch z) kq9
            refine ⟨hqA, [(Sum.inl k, vA)], rfl, (by show 1 ≤ 15; decide), ?_⟩
            have h0 : H0 q = none := Evl.fresh_back r.gr.h hq
            have G := g9.trans gB
            have G2 : Gr Hk H HkB (upd HA q (.dK [(Sum.inl k, vA)])) := ⟨G.k, fun a u z => by
              rw [upd_ne (fun w => by subst w; rw [hq] at z; cases z)]
              exact G.h a u (by rw [upd_ne (fun w => by subst w; rw [hq] at z; cases z)]; exact z), fun a u z => by
              rw [upd_ne (ne_of_none z kqB)]
              exact G.kh a u z, fun a n z => G.fr a (fun w => by
                by_cases ha : a = q
                · subst ha; rw [upd_same] at w; cases w
                · rw [upd_ne ha] at w; exact n w) z⟩
            refine p _ HkB _ G2.k (Rel.setDct (r.up G2) h0 kqB upd_same ⟨rfl, .cons rB .nil⟩ fun j es h1 h2 h3 => ?_)
            obtain ⟨p', ks, a, b, c, d, _⟩ := r.dct j es h1
            rw [a] at h3
            cases h3
            rw [d] at hq
            cases hq
theorem s_dmv {x y : Str} {pos' p2 : Pos} (i j : Nat) (hN : X.N.Nodup) (hij : i ≠ j) (hi : X.N[i]? = some x := by rfl) (hj : X.N[j]? = some y := by rfl) (hx : Loc X.env.scope x := by first | exact Or.inl rfl | exact Or.inr rfl) (hv : Vis X.env.scope y := by first | exact Or.inl rfl | exact Or.inr (Or.inl rfl) | exact Or.inr (Or.inr rfl)) (hs : swapsWith (.Name y p2) (some (.Name x pos')) pos.line X.env = pure false := by rfl)
    (hf : X.fn x = true ∨ X.env.scope.names.lookup x = some .local := by first | exact .inl rfl | exact .inr rfl) (hd : (y == ("__debug__" : Str)) = false := by decide)
    (hcd : (y == ("__classdict__" : Str)) = false := by decide) : PS X (.Assign [.Name x pos'] (.Name y p2) pos) (ts X.K W (sDMv i j)) :=
  ps_imp (ps_set hN hi hx (pv j hj hv hd hcd) hs hf) fun D σ H ⟨Hk0, H0, Hk, ρ, r, p⟩ => by
    unfold sDMv at p
    cases e1 : dctAt ρ j with
    | err c => exact absurd e1 dctAt_no
    | bad => rw [e1] at p; exact p.elim
    | ok kvs =>
      rw [e1] at p
      have hd := dctAt_ok e1
      obtain ⟨q, ks, h1, h2, h3, h4, h5⟩ := r.dct j kvs hd
      refine ⟨_, h1, p _ Hk _ (Ex.refl _) (Rel.setDct (r.drop j) h2 h3 h4 h5 fun l es k1 k2 k3 => ?_)⟩
      rw [get_set] at k1
      split at k1
      · split at k1 <;> cases k1
      · rename_i hlj
        exact hlj (r.dsep j l kvs es q hd k1 h1 k3)
/-- keys, walked over while the dict stands still -/
theorem w_dk {x : Str} {p : Pos} {tg : Expr} (i : Nat) (hN : X.N[i]? = some x := by rfl) (hv : Vis X.env.scope x := by first | exact Or.inl rfl | exact Or.inr (Or.inl rfl) | exact Or.inr (Or.inr rfl)) (hd : (x == ("__debug__" : Str)) = false := by decide)
    (hcd : (x == ("__classdict__" : Str)) = false := by decide) : PI X tg (.Name x p) (ti X.K W (iDk i)) :=
  pi_imp (pi_keys (pv i hN hv hd hcd)) fun σ H Q ⟨Hk0, H0, Hk, ρ, r, p⟩ => by
    unfold iDk at p
    cases e1 : knAt ρ i with
    | err c => exact absurd e1 knAt_no
    | bad => rw [e1] at p; exact p.elim
    | ok kvs =>
      rw [e1] at p
      obtain ⟨v, h1, q, od, ks, rfl, h2, h3⟩ := r.kn i _ (knAt_ok e1)
      refine ⟨_, h1, q, od, rfl, .inl ⟨ks, r.kh _ _ h2, p _ Hk H (fun H' => H' q = some (.frz od (.dK ks))) (Gr.refl r.kh) ⟨?_, ?_, ?_, ?_⟩ (r.kh _ _ h2) (fun z => nomatch z)⟩⟩
      · intro l H' hs hl
        exact ⟨hs, by rw [h3.len]; simpa using hl⟩
      · intro l H' hs hl
        exact ⟨hs, by rw [h3.len]; rw [List.length_map] at hl; omega⟩
      · intro l H' Hk' v H2 hs e1 e2 y d hd
        obtain ⟨rfl, k, v0, hk, rfl⟩ := y
        refine ⟨Hk', Gr.refl e2, ?_⟩
        have hm := congrArg (fun z => z[l]?) h3.1
        simp only [List.getElem?_map] at hm hd
        rw [hk] at hm
        cases ek : kvs[l]? with
        | none => rw [ek] at hd; cases hd
        | some kv =>
          rw [ek] at hd hm
          cases hd
          simp only [Option.map_some, Option.some.injEq] at hm
          rw [hm]
          exact .int _
      · intro H' H2 e hs
        exact e _ _ hs
theorem d_kget {k : Nat} {x : Str} {p : Pos} (i : Nat) (hr : Room k X.A) (he : PE X e (te X.K W ψ)) (hs : NoSl e := by exact fun _ _ => rfl) (hN : X.N[i]? = some x := by rfl) (hv : Vis X.env.scope x := by first | exact Or.inl rfl | exact Or.inr (Or.inl rfl) | exact Or.inr (Or.inr rfl)) (hd : (x == ("__debug__" : Str)) = false := by decide)
    (hcd : (x == ("__classdict__" : Str)) = false := by decide) : PE X (.Subscript (.Name x p) e pos) (te X.K W (eKGet i ψ)) :=
  pe_imp (pe_dget (by have := hr.units; omega) (pv i hN hv hd hcd) he hs) fun σ H Q ⟨Hk0, H0, Hk, ρ, r, p⟩ => by
    unfold eKGet at p
    cases e1 : knAt ρ i with
    | err c => exact absurd e1 knAt_no
    | bad => rw [e1] at p; exact p.elim
    | ok kvs =>
      rw [e1] at p
      obtain ⟨v0, h1, q, od, ks, rfl, h2, h5⟩ := r.kn i _ (knAt_ok e1)
      refine ⟨_, h1, te_thenF (g := fun y => y.toInt >>= fun k => match getI kvs k with | some d => .ok (.val d) | none => .bad) r p fun y v Hk' H' g d n r' p' => ?_⟩
      cases e2 : y.toInt with
      | err c => rw [e2] at p'; cases y <;> first | (rename_i d0; cases d0 <;> cases e2) | cases e2
      | bad => rw [e2] at p'; exact p'.elim
      | ok k =>
        rw [e2] at p'
        have p' : PostE X.K W Hk H σ Q (match getI kvs k with | some d => .ok (.val d) | none => .bad) := p'
        have hv := d.int e2
        subst hv
        split at p'
        · rename_i d' hd'
          obtain ⟨w, hw, rw'⟩ := (DR.get k (DR.up g.k h5)).1 d' hd'
          exact ⟨q, w, rfl, .inl ⟨ks, Sum.inl k, .inr ⟨od, g.h _ _ (r.kh _ _ h2)⟩, rfl, hw.symm⟩, p' _ Hk' H' g trivial rw'⟩
        · exact p'.elim
mutual
theorem Rp.lack {H H' : Hp} {p : Addr} {od : Obj} {ks : List (Key × V)} (hp : H p = some (.frz od (.dK ks))) (hn : ∀ a, a ≠ p → H' a = H a) : ∀ {v : V} {d : PyData}, Rp H v d → Rp H' v d
  | _, _, .non => .non
  | _, _, .bl b => .bl b
  | _, _, .int i => .int i
  | _, _, .str x => .str x
  | _, _, .lst h r => .lst (match h with
    | .inl (.inl z) => .inl (.inl (by rw [hn _ (fun w => by subst w; rw [hp] at z; cases z)]; exact z))
    | .inl (.inr ⟨o, z⟩) => .inl (.inr ⟨o, by rw [hn _ (fun w => by subst w; rw [hp] at z; cases z)]; exact z⟩)
    | .inr z => .inr z) (RpAll.lack hp hn r)
  | _, _, .tup h r => .tup (match h with
    | .inl z => .inl (by rw [hn _ (fun w => by subst w; rw [hp] at z; cases z)]; exact z)
    | .inr ⟨o, z⟩ => .inr ⟨o, by rw [hn _ (fun w => by subst w; rw [hp] at z; cases z)]; exact z⟩) (RpAll.lack hp hn r)
theorem RpAll.lack {H H' : Hp} {p : Addr} {od : Obj} {ks : List (Key × V)} (hp : H p = some (.frz od (.dK ks))) (hn : ∀ a, a ≠ p → H' a = H a) : ∀ {vs : List V} {ds : List PyData}, RpAll H vs ds → RpAll H' vs ds
  | _, _, .nil => .nil
  | _, _, .cons a b => .cons (Rp.lack hp hn a) (RpAll.lack hp hn b)
end
theorem lock_read {σ : Sl} {H : Hp} {Q : VK} {j : Nat} (h : te X.K W (eLk j φ) σ H Q) : ∃ p ks, H p = some (.dK ks) ∧ ∀ od, te X.K W0 φ σ (upd H p (.frz od (.dK ks))) fun v H' => H' p = some (.frz od (.dK ks)) ∧ Q v (upd H' p (.dK ks)) := by
  obtain ⟨Hk0, H0, Hk, ρ, r, p⟩ := h
  unfold eLk at p
  cases e1 : dctAt ρ j with
  | err c => exact absurd e1 dctAt_no
  | bad => rw [e1] at p; exact p.elim
  | ok kvs =>
    rw [e1] at p
    have p : PostE X.K W Hk H σ Q (nerr (φ (ρ.set j (some (.kn (.dfz kvs))))) >>= fun r => match r with | .own ds => .ok (.own ds) | _ => .bad) := p
    have hd := dctAt_ok e1
    obtain ⟨q, ks, h1, h2, h3, h4, h5⟩ := r.dct j kvs hd
    refine ⟨q, ks, h4, fun od => ?_⟩
    have k0 : Hk0 q = none := Evl.fresh_back r.gr.k h3
    have r2 : Rel Hk0 H0 (upd Hk q (.frz od (.dK ks))) (upd H q (.frz od (.dK ks))) σ (ρ.set j none) := by
      refine ⟨by rw [List.length_set]; exact r.len, ⟨Ex.mut r.gr.k k0, Ex.mut r.gr.h h2, fun a u z => ?_, fun a n z => ?_⟩, fun l d z => ?_, fun l d z => ?_, fun l m ds es t z1 z2 => ?_, fun l a z => ?_, fun l d z => ?_, fun l d z => ?_, fun l m ds es t z1 z2 => ?_, fun l d z => ?_⟩
      · by_cases ha : a = q
        · subst ha; rw [upd_same] at z ⊢; exact z
        · rw [upd_ne ha] at z ⊢; exact r.kh a u z
      · rw [upd_ne (fun w => n (by rw [w]; exact h2))]
        exact r.gr.fr a n z
      · rw [get_set] at z
        split at z
        · split at z <;> cases z
        · obtain ⟨v, a, b⟩ := r.val l d z
          exact ⟨v, a, Rp.up (Ex.new h3) b⟩
      · rw [get_set] at z
        split at z
        · split at z <;> cases z
        · obtain ⟨t, xs, a, b, c, d', f⟩ := r.own l d z
          have : t ≠ q := fun w => by subst w; rw [h4] at d'; cases d'
          exact ⟨t, xs, a, b, by rw [upd_ne this]; exact c, by rw [upd_ne this]; exact d', RpAll.up (Ex.new h3) f⟩
      · rw [get_set] at z1 z2
        split at z1
        · split at z1 <;> cases z1
        · split at z2
          · split at z2 <;> cases z2
          · exact r.sep l m ds es t z1 z2
      · rw [get_set] at z
        split at z
        · split at z <;> cases z
        · exact r.raw l a z
      · rw [get_set] at z
        split at z
        · split at z <;> cases z
        · rename_i hlj
          obtain ⟨t, xs, a, b, c, d', f⟩ := r.dct l d z
          have : t ≠ q := fun w => by subst w; exact hlj (r.dsep j l kvs d t hd z h1 a)
          exact ⟨t, xs, a, b, by rw [upd_ne this]; exact c, by rw [upd_ne this]; exact d', DR.up (Ex.new h3) f⟩
      · rw [get_set] at z
        split at z
        · split at z <;> cases z
        · obtain ⟨v, a, b⟩ := r.tpn l d z
          exact ⟨v, a, TN.up (Ex.new h3) b⟩
      · rw [get_set] at z1 z2
        split at z1
        · split at z1 <;> cases z1
        · split at z2
          · split at z2 <;> cases z2
          · exact r.dsep l m ds es t z1 z2
      · rw [get_set] at z
        split at z
        · split at z <;> cases z
        · obtain ⟨v, a, b⟩ := r.kn l d z
          exact ⟨v, a, Tg.up (Ex.new h3) b⟩
    have r3 : Rel Hk0 H0 (upd Hk q (.frz od (.dK ks))) (upd H q (.frz od (.dK ks))) σ (ρ.set j (some (.kn (.dfz kvs)))) := by
      have := r2.setKn (t := .dfz kvs) h1 ⟨q, od, ks, rfl, upd_same, DR.up (Ex.new h3) h5⟩
      rwa [List.set_set] at this
    refine ⟨Hk0, H0, _, _, r3, ?_⟩
    cases e2 : φ (ρ.set j (some (.kn (.dfz kvs)))) with
    | err c => rw [e2] at p; exact p.elim
    | bad => rw [e2] at p; exact p.elim
    | ok x =>
      rw [e2] at p
      cases x with
      | val d => exact p.elim
      | bor _ _ => exact p.elim
      | own ds =>
        have p : PostE X.K W Hk H σ Q (.ok (.own ds)) := p
        intro v Hk2 H2 g2 n2 d2
        have hq2 : Hk2 q = some (.frz od (.dK ks)) := g2.k _ _ upd_same
        have hH2 : H2 q = some (.frz od (.dK ks)) := g2.kh _ _ hq2
        refine ⟨hH2, ?_⟩
        have lk : ∀ a, a ≠ q → (if a = q then none else Hk2 a) = Hk2 a := fun a ha => if_neg ha
        refine p v (fun a => if a = q then none else Hk2 a) _ ⟨fun a u z => ?_, fun a u z => ?_, fun a u z => ?_, fun a n z => ?_⟩ ?_ ?_
        · have ha : a ≠ q := fun w => by subst w; rw [h3] at z; cases z
          show (if a = q then none else Hk2 a) = some u
          rw [lk a ha]
          exact g2.k a u (by rw [upd_ne ha]; exact z)
        · by_cases ha : a = q
          · subst ha; rw [upd_same]; rw [h4] at z; exact z
          · rw [upd_ne ha]; exact g2.h a u (by rw [upd_ne ha]; exact z)
        · by_cases ha : a = q
          · subst ha
            have z : (if a = a then none else Hk2 a) = some u := z
            rw [if_pos rfl] at z; cases z
          · have z : (if a = q then none else Hk2 a) = some u := z
            rw [lk a ha] at z
            rw [upd_ne ha]; exact g2.kh a u z
        · by_cases ha : a = q
          · exact if_pos ha
          · show (if a = q then none else Hk2 a) = none
            rw [lk a ha]; exact g2.fr a (by rw [upd_ne ha]; exact n) (by rw [upd_ne ha]; exact z)
        · obtain ⟨t, rfl, ht⟩ := n2
          exact ⟨t, rfl, by
            have hne : t ≠ q := fun w => by subst w; rw [upd_same] at ht; cases ht
            rwa [upd_ne hne] at ht⟩
        · obtain ⟨t, xs, rfl, k1, k2, k3⟩ := d2
          have hne : t ≠ q := fun w => by subst w; rw [hH2] at k2; cases k2
          exact ⟨t, xs, rfl, by show (if t = q then none else Hk2 t) = none; rw [if_neg hne]; exact k1, by rw [upd_ne hne]; exact k2, RpAll.lack hq2 lk k3⟩
section
variable {elt tgt iter : Expr} {ifs : List Expr} {scope : Scope} {own : List (Str × Nat)} {spos py : Pos} {ι : En → R (Bool × List PyData)} {τ : Pat} {T : En → R Bool}
theorem d_lk (j : Nat) (h : PE X e (te X.K W0 φ)) : PE X e (te X.K W (eLk j φ)) := pe_imp (pe_lock h) fun σ H Q h => let ⟨p, ks, hp, k⟩ := lock_read h; ⟨p, _, hp, trivial, k⟩
theorem s_lkV {y : Str} (i j : Nat) (hc : X.calm = true) (hN : X.N.Nodup)
    (bo : BlkOk X.N X.env.scope scope own) (hi : PI X tgt iter (ti X.K W0 ι)) (hg : AllB X scope fun Y => PG Y tgt (tg τ)) (ht : AllB X scope fun Y => PTs Y ifs (tt X.K W0 T)) (he : AllB X scope fun Y => PE Y elt (te X.K W0 φ))
    (hsw : swapsWith (.ListComp elt [⟨tgt, iter, ifs, 0⟩] scope pos) (some (.Name y py)) spos.line X.env = pure true)
    (hy : X.N[i]? = some y := by rfl) (hyl : X.env.scope.names.lookup y = some .local := by rfl)
    (hv : ∀ i ∈ slots τ, i ∈ own.map (·.2) := by decide) (hs : ∀ x, foldedSetIterable iter X.env x = pure x := by intro _; rfl) :
    PS X (.Assign [.Name y py] (.ListComp elt [⟨tgt, iter, ifs, 0⟩] scope pos) spos) (ts X.K W (sSet i (eF (eLk j (eLc ι τ T φ (own.map (·.2))))))) :=
  ps_imp (ps_lock (ps_setLc hc hN hy hyl hsw hi bo hg ht he hs)) fun D σ H h => let ⟨p, ks, hp, k⟩ := lock_read (frz_read (set_read h)); ⟨p, _, hp, trivial, fun od => lc_read hv (k od)⟩
end
end
end Py

set_option Elab.async false
set_option linter.all false
set_option maxRecDepth 100000
set_option autoImplicit false
set_option maxHeartbeats 4000000
/-! PyK: texts: str, int, split, join, slices, signs; [::2] and [1::2] of lists. -/
namespace Py
open PySem L2 PyProof.Rows
open Evl (Ex)
def every2 {α : Type} : List α → List α
  | [] => []
  | [x] => [x]
  | x :: _ :: r => x :: every2 r
theorem pick2 {α : Type} : ∀ l : List α, (List.range ((l.length + 1) / 2)).filterMap (fun k => l[2 * k]?) = every2 l
  | [] => by simp [every2]
  | [x] => by simp [every2, List.range_succ]
  | x :: y :: r => by
    have ih := pick2 r
    have e : ((x :: y :: r).length + 1) / 2 = (r.length + 1) / 2 + 1 := by simp only [List.length_cons]; omega
    rw [e, List.range_succ_eq_map, List.filterMap_cons, every2, ← ih]
    simp only [Nat.mul_zero, List.getElem?_cons_zero, List.filterMap_map]
    congr 1
theorem pick_ev (items : Array Value) : slicePick items none none (some 2) = (every2 items.toList).toArray := by
  unfold slicePick
  have b : sliceBounds none none (some 2) items.size = (0, (items.size : Int), 2) := rfl
  rw [b, ← pick2]
  congr 1
  show (sliceRange 0 (items.size : Int) 2).filterMap (items[·]?) = _
  have e : sliceRange 0 (items.size : Int) 2 = (List.range ((items.toList.length + 1) / 2)).map fun k => 2 * k := by
    unfold sliceRange
    have h2 : ((2 : Int) > 0) := by decide
    rw [if_pos h2]
    have c : (if (0 : Int) < (items.size : Int) then ((items.size : Int) - 0 + 2 - 1) / 2 else 0).toNat = (items.toList.length + 1) / 2 := by
      rw [Array.length_toList]
      split <;> omega
    dsimp only
    rw [c]
    refine List.map_congr_left fun k _ => ?_
    omega
  rw [e, List.filterMap_map]
  refine fm_congr fun k _ => ?_
  simp
theorem pick_od (items : Array Value) : slicePick items (some 1) none (some 2) = (every2 items.toList.tail).toArray := by
  unfold slicePick
  have b : sliceBounds (some 1) none (some 2) items.size = (max 0 (min 1 (items.size : Int)), (items.size : Int), 2) := rfl
  rw [b, ← pick2]
  congr 1
  show (sliceRange (max 0 (min 1 (items.size : Int))) (items.size : Int) 2).filterMap (items[·]?) = _
  have hl : items.toList.tail.length = items.size - 1 := by rw [List.length_tail, Array.length_toList]
  have e : sliceRange (max 0 (min 1 (items.size : Int))) (items.size : Int) 2 = (List.range ((items.toList.tail.length + 1) / 2)).map fun k => 2 * k + 1 := by
    unfold sliceRange
    have h2 : ((2 : Int) > 0) := by decide
    rw [if_pos h2]
    have c : (if max 0 (min 1 (items.size : Int)) < (items.size : Int) then ((items.size : Int) - max 0 (min 1 (items.size : Int)) + 2 - 1) / 2 else 0).toNat = (items.toList.tail.length + 1) / 2 := by
      rw [hl]
      split <;> omega
    dsimp only
    rw [c]
    refine List.map_congr_left fun k hk => ?_
    have := List.mem_range.mp hk
    omega
  rw [e, List.filterMap_map]
  refine fm_congr fun k _ => ?_
  show items[2 * k + 1]? = items.toList.tail[2 * k]?
  rw [List.getElem?_tail]
  simp
def asStrs : List PyData → Option (List Str)
  | [] => some []
  | .str x :: r => (asStrs r).map (x :: ·)
  | _ :: _ => none
theorem asStrs_eq : ∀ {ds : List PyData} {ys : List Str}, asStrs ds = some ys → ds = ys.map PyData.str
  | [], _, h => by cases h; rfl
  | .str x :: r, ys, h => by
    have h : (asStrs r).map (x :: ·) = some ys := h
    cases e : asStrs r with
    | none => rw [e] at h; cases h
    | some zs => rw [e] at h; cases h; rw [asStrs_eq e]; rfl
  | .none :: _, _, h => by cases h
  | .bool _ :: _, _, h => by cases h
  | .int _ :: _, _, h => by cases h
  | .list _ :: _, _, h => by cases h
  | .tuple _ :: _, _, h => by cases h
  | .dict _ :: _, _, h => by cases h
@[simp] theorem asStrs_map : ∀ ys : List Str, asStrs (ys.map PyData.str) = some ys
  | [] => rfl
  | y :: ys => by show (asStrs (ys.map PyData.str)).map (y :: ·) = _; rw [asStrs_map ys]; rfl
def gStr : List Rv → R Rv
  | [a] => a.toInt >>= fun i => if i.natAbs.log2 < 1920 then .ok (.val (.str (toString i))) else .bad
  | _ => .bad
def gInt1 : List Rv → R Rv
  | [a] => a.toStr >>= fun x => match PySem.intText? x with
    | some n => if x.length ≤ 640 then .ok (.val (.int n)) else .bad
    | none => .bad
  | _ => .bad
def eS1 (g : Str → Rv → R Rv) (φ ψ : En → R Rv) : En → R Rv := fun ρ => φ ρ >>= fun x => (frz x).toStr >>= fun a => ψ ρ >>= fun y => g a (frz y)
def gSplit (x : Str) (b : Rv) : R Rv := b.toStr >>= fun y => if (y.length == 0) = false ∧ x.length ≤ 1000000 then .ok (.own ((Txt.split x y).map PyData.str)) else .bad
def gJoin (x : Str) (b : Rv) : R Rv := match b.dat with
  | .list ds => match asStrs ds with
    | some ys => if (ys.map (·.length)).sum + ys.length * x.length ≤ 1000000 then .ok (.val (.str (Txt.join x ys))) else .bad
    | none => .bad
  | _ => .bad
def gSlS (a : Rv) (lo hi : Option Int) : R Rv := a.toStr >>= fun x => if x.length ≤ 1000000 then .ok (.val (.str (cutS x lo hi))) else .bad
def eSlS (φ : En → R Rv) (lo hi : En → R (Option Int)) : En → R Rv := fun ρ => φ ρ >>= fun x => lo ρ >>= fun l => hi ρ >>= fun h => gSlS (frz x) l h
def gEv (a : Rv) : R Rv := match a.dat with
  | .list ds => .ok (.own (every2 ds))
  | _ => .bad
def gOd (a : Rv) : R Rv := match a.dat with
  | .list ds => .ok (.own (every2 ds.tail))
  | _ => .bad
/-- f(), f raises nothing -/
def eCall0 (G : List PyData → R Cr) : En → R Rv := fun _ => nerr (G []) >>= fun r => .ok r.rv
def chrD (x : Str) : List PyData := x.cps.toList.map fun c => .str ⟨#[c]⟩
def iStrI (φ : En → R Rv) : En → R (Bool × List PyData) := fun ρ => φ ρ >>= fun x => (frz x).toStr >>= fun z => .ok (true, chrD z)
theorem toStr_no {x : Rv} {c : Str} : x.toStr ≠ .err c := by
  cases x with
  | val d => cases d <;> exact fun h => nomatch h
  | own _ => exact fun h => nomatch h
  | bor _ _ => exact fun h => nomatch h
variable [KK]
theorem RpAll.strs {H : Hp} : ∀ {vs : List V} {ys : List Str}, RpAll H vs (ys.map PyData.str) → vs = ys.map V.str
  | _, [], .nil => rfl
  | _, y :: ys, .cons a b => by
    cases a
    rw [RpAll.strs b]
    rfl
theorem RpAll.ofStrs {H : Hp} : ∀ (ys : List Str), RpAll H (ys.map V.str) (ys.map PyData.str)
  | [] => .nil
  | y :: ys => .cons (.str y) (RpAll.ofStrs ys)
theorem RpAll.ev2 {H : Hp} : ∀ {vs : List V} {ds : List PyData}, RpAll H vs ds → RpAll H (every2 vs) (every2 ds)
  | _, _, .nil => .nil
  | _, _, .cons a .nil => .cons a .nil
  | _, _, .cons a (.cons _ r) => .cons a (RpAll.ev2 r)
theorem Vals.ev2 : ∀ {vs : List V} {us : List Value}, Vals vs us → Vals (every2 vs) (every2 us)
  | _, _, .nil => .nil
  | _, _, .cons a .nil => .cons a .nil
  | _, _, .cons a (.cons _ r) => .cons a (Vals.ev2 r)
theorem Vals.tl : ∀ {vs : List V} {us : List Value}, Vals vs us → Vals vs.tail us.tail
  | _, _, .nil => .nil
  | _, _, .cons _ r => r
theorem ev2_len {α : Type} : ∀ l : List α, (every2 l).length ≤ l.length
  | [] => Nat.le_refl _
  | [x] => Nat.le_refl _
  | x :: y :: r => by have := ev2_len r; simp only [every2, List.length_cons]; omega
section
variable {X : Cx} [ok : OK X] {W : WX} {e f : Expr} {φ ψ : En → R Rv} {pos : Pos}
theorem c_str : CallR X (.type "str") (rC X.K W gStr) := by
  intro pins s σ' H vs us Q I rv h
  obtain ⟨Hk, σ, rs, e, d, p⟩ := h
  unfold gStr at p
  split at p
  · obtain ⟨v, rfl, da⟩ := DenAll.one (rs := []) d
    rename_i a
    cases e1 : a.toInt with
    | err c => exact absurd e1 toInt_no
    | bad => rw [e1] at p; exact p.elim
    | ok i =>
      rw [e1] at p
      have p : PostE X.K W Hk H σ Q (if i.natAbs.log2 < 1920 then .ok (.val (.str (toString i))) else .bad) := p
      split at p
      · rename_i hz
        have := da.int e1
        subst this
        exact call_str_int pins s σ' H _ us Q I rv ⟨i, rfl, hz, p _ Hk H (Gr.refl e) trivial (Rp.str _)⟩
      · exact p.elim
  · exact p.elim
theorem c_int : CallR X (.type "int") (rC X.K W gInt1) := by
  intro pins s σ' H vs us Q I rv h
  obtain ⟨Hk, σ, rs, e, d, p⟩ := h
  unfold gInt1 at p
  split at p
  · obtain ⟨v, rfl, da⟩ := DenAll.one (rs := []) d
    rename_i a
    cases e1 : a.toStr with
    | err c => exact absurd e1 toStr_no
    | bad => rw [e1] at p; exact p.elim
    | ok x =>
      rw [e1] at p
      have p : PostE X.K W Hk H σ Q (match PySem.intText? x with | some n => if x.length ≤ 640 then .ok (.val (.int n)) else .bad | none => .bad) := p
      split at p
      · rename_i n hn
        split at p
        · rename_i hz
          have := da.str e1
          subst this
          exact call_int_str pins s σ' H _ us Q I rv ⟨x, n, rfl, hn, hz, p _ Hk H (Gr.refl e) trivial (Rp.int _)⟩
        · exact p.elim
      · exact p.elim
  · exact p.elim
/-- o.m(e), o a text -/
theorem s1_read {σ : Sl} {H : Hp} {Q : VK} {g : Str → Rv → R Rv} {r : V → List V → Hp → VK → Prop} (hr : ∀ a y v Hk' H', Ex Hk' H' → Den Hk' H' σ y v → y.isOwn = false → PostE X.K W Hk' H' σ Q (g a y) → r (.str a) [v] H' Q) (h : te X.K W (eS1 g φ ψ) σ H Q) : tM1 r (te X.K W φ) (te X.K W ψ) σ H Q := by
  obtain ⟨Hk0, H0, Hk, ρ, rl, p⟩ := h
  refine te_thenF (g := fun x => x.toStr >>= fun a => ψ ρ >>= fun y => g a (frz y)) rl p fun x v Hk1 H1 g1 d1 n1 r1 p1 => ?_
  cases e1 : x.toStr with
  | err c => exact absurd e1 toStr_no
  | bad => rw [e1] at p1; exact p1.elim
  | ok z =>
    rw [e1] at p1
    have hv := d1.str e1
    subst hv
    refine ⟨⟨z, rfl⟩, te_thenF (g := fun y => g z y) r1 (PostE.up g1 p1) fun y u Hk2 H2 g2 d2 n2 r2 p2 => ?_⟩
    exact hr z y u Hk2 H2 g2.kh d2 n2 (PostE.up g2 p2)
theorem d_split {apos : Pos} (ho : PE X e (te X.K W φ)) (he : PE X f (te X.K W ψ)) (hs : starEach [f] X.env = [(false, eval f X.env)] := by rfl) (hbase : attributeBase e "split" X.env (eval e X.env) = eval e X.env := by rfl) (hline : (apos.endLine == pos.line) = true := by rfl) :
    PE X (.Call (.Attribute e "split" apos) [f] [] pos) (te X.K W (eS1 gSplit φ ψ)) :=
  pe_imp (pe_split ho he hs hbase hline) fun σ H Q h => s1_read (fun a y v Hk' H' x d n p => by
    unfold gSplit at p
    cases e2 : y.toStr with
    | err c => exact absurd e2 toStr_no
    | bad => rw [e2] at p; exact p.elim
    | ok b =>
      rw [e2] at p
      have p : PostE X.K W Hk' H' σ Q (if (b.length == 0) = false ∧ a.length ≤ 1000000 then .ok (.own ((Txt.split a b).map PyData.str)) else .bad) := p
      split at p
      · rename_i hz
        have hv := d.str e2
        subst hv
        exact ⟨a, b, rfl, rfl, hz.1, Nat.le_trans (Nat.add_le_add_right hz.2 2) (by decide), own_new x p (RpAll.ofStrs _)⟩
      · exact p.elim) h
theorem d_join {apos : Pos} (ho : PE X e (te X.K W φ)) (he : PE X f (te X.K W ψ)) (hs : starEach [f] X.env = [(false, eval f X.env)] := by rfl) (hbase : attributeBase e "join" X.env (eval e X.env) = eval e X.env := by rfl) (hline : (apos.endLine == pos.line) = true := by rfl) :
    PE X (.Call (.Attribute e "join" apos) [f] [] pos) (te X.K W (eS1 gJoin φ ψ)) :=
  pe_imp (pe_join ho he hs hbase hline) fun σ H Q h => s1_read (fun a y v Hk' H' x d n p => by
    unfold gJoin at p
    split at p
    · rename_i ds hd
      split at p
      · rename_i ys hy
        split at p
        · rename_i hz
          obtain ⟨l, xs, rfl, s1, r1⟩ := d.kList x hd
          rw [asStrs_eq hy] at r1
          rw [RpAll.strs r1] at s1
          exact ⟨a, l, ys, rfl, rfl, .inl s1.sq, Nat.le_trans hz (by decide), p _ Hk' H' (Gr.refl x) trivial (Rp.str _)⟩
        · exact p.elim
      · exact p.elim
    · exact p.elim) h
theorem s_slS : SlR X (rS X.K W gSlS) := by
  intro pins s σ' H x v vl vu lo hi sl Q I rx hs pl pu h
  obtain ⟨Hk, σ, a, e, da, p⟩ := h
  unfold gSlS at p
  cases e1 : a.toStr with
  | err c => exact absurd e1 toStr_no
  | bad => rw [e1] at p; exact p.elim
  | ok z =>
    rw [e1] at p
    have p : PostE X.K W Hk H σ Q (if z.length ≤ 1000000 then .ok (.val (.str (cutS z lo hi))) else .bad) := p
    split at p
    · rename_i hz
      have := da.str e1
      subst this
      exact sl_str pins s σ' H _ v vl vu lo hi sl Q I rx hs pl pu ⟨z, rfl, Nat.le_trans hz (by decide), p _ Hk H (Gr.refl e) trivial (Rp.str _)⟩
    · exact p.elim
theorem d_sliceS {lo hi : Option Expr} {plo phi : En → R (Option Int)} {p2 : Pos} (he : PE X e (te X.K W φ)) (hl : PO X lo (tp X.K W plo)) (hu : PO X hi (tp X.K W phi)) : PE X (.Subscript e (.Slice lo hi none p2) pos) (te X.K W (eSlS φ plo phi)) :=
  pe_imp (pe_slice s_slS he hl hu) fun σ H Q ⟨Hk0, H0, Hk, ρ, r, p⟩ => by
    refine te_thenF (g := fun x => plo ρ >>= fun l => phi ρ >>= fun h => gSlS x l h) r p fun x v Hk1 H1 g1 d1 n1 r1 p1 => ?_
    have p1 := PostE.up g1 p1
    refine ⟨Hk0, H0, Hk1, ρ, r1, ?_⟩
    cases e1 : plo ρ with
    | err c => rw [e1] at p1; exact p1
    | bad => rw [e1] at p1; exact p1
    | ok l =>
      rw [e1] at p1
      have p1 : PostE X.K W Hk1 H1 σ Q (phi ρ >>= fun h => gSlS x l h) := p1
      intro Hk2 H2 g2
      have p2 := PostE.up g2 p1
      refine ⟨Hk0, H0, Hk2, ρ, r1.up g2, ?_⟩
      cases e2 : phi ρ with
      | err c => rw [e2] at p2; exact p2
      | bad => rw [e2] at p2; exact p2
      | ok h =>
        rw [e2] at p2
        intro Hk3 H3 g3
        exact ⟨Hk3, σ, x, g3.kh, Den.up g3 (Den.up g2 d1), PostE.up g3 p2⟩
theorem w_str {tgt : Expr} (h : PE X e (te X.K W φ)) : PI X tgt e (ti X.K W (iStrI φ)) :=
  pi_imp (pi_str h) fun σ H Q ⟨Hk0, H0, Hk, ρ, r, p⟩ => by
    refine te_thenI (g := fun x => x.toStr >>= fun z => .ok (true, chrD z)) r p fun x v Hk' H' g d n r' p' => ?_
    cases e1 : x.toStr with
    | err c => exact absurd e1 toStr_no
    | bad => rw [e1] at p'; exact p'.elim
    | ok z =>
      rw [e1] at p'
      have hv := d.str e1
      subst hv
      refine ⟨z, rfl, p' (Its z) Hk' H' (fun _ => True) (Gr.refl g.kh) ⟨fun i H _ hi => ?_, fun i H _ hi => ?_, fun i H Hk x H' _ e1 e2 y d hd => ?_, fun _ _ _ h => h⟩ trivial fun _ => trivial⟩
      · show i < z.cps.size
        unfold chrD at hi
        rwa [List.length_map, Array.length_toList] at hi
      · show z.cps.size ≤ i
        unfold chrD at hi
        rw [List.length_map, Array.length_toList] at hi
        omega
      · obtain ⟨rfl, c, hc, rfl⟩ := y
        refine ⟨Hk, Gr.refl e2, ?_⟩
        unfold chrD at hd
        rw [List.getElem?_map, Array.getElem?_toList, hc] at hd
        cases hd
        exact .str _
def rStep (K : PySem.W.Frag) (g : List V → List V) (te : TE) : TE := fun σ H Q => te σ H fun x H1 => ∃ a xs, x = .ref a ∧ SqL K H1 a xs ∧ ∀ p, H1 p = none → Q (.ref p) (upd H1 p (.lst (g xs)))
theorem pe_ev {t : TE} {k : Nat} {p1 p3 : Pos} (he : PE X e t) : PE X (.Subscript e (.Slice none none (some (.Constant (.int 2) k p1)) p3) pos) (rStep X.K every2 t) := by
  refine ⟨fun pins s σ H Q I h => ?_⟩
  refine Subscript_ (thn (he.run pins s σ H _ I h) fun v s1 ⟨x, H1, I1, r1, a, xs, ex, hx, q⟩ => ?_)
  subst ex; cases r1
  have hst : PO X (some (.Constant (.int 2) k p1)) (tPart (tC (.int 2))) := po_some pe_int
  refine wpAny_Slice (thn (po_none.run pins s1 σ H1 (fun o H2 => o = none ∧ H2 = H1) I1 ⟨rfl, rfl⟩) fun vl s2 ⟨l, H2, I2, pl, el, e2⟩ => ?_)
  subst el e2
  refine thn (po_none.run pins s2 σ H2 (fun o H3 => o = none ∧ H3 = H2) I2 ⟨rfl, rfl⟩) fun vu s3 ⟨u, H3, I3, pu, eu, e3⟩ => ?_
  subst eu e3
  refine thn (hst.run pins s3 σ H3 (fun o H4 => o = some 2 ∧ H4 = H3) I3 ⟨2, rfl, rfl, rfl⟩) fun vs s4 ⟨o, H4, I4, ps, eo, e4⟩ => ?_
  subst eo e4
  have I5 : Inv X pins σ H4 { s4 with heap := s4.heap.push { cls := .type "slice", data := .fields #[vl, vu, vs] } } := I4.kept (t' := s4.toks) fun b ob z => Heap.get?_push_of_some _ z
  show wpAny (model X.prog X.w) X.A (subscriptTail e (.Slice none none (some (.Constant (.int 2) k p1)) p3) (.ref a) (.ref s4.heap.objs.size)) (EP X pins σ Q) X.xe { s4 with heap := s4.heap.push { cls := .type "slice", data := .fields #[vl, vu, vs] } }
  obtain ⟨its, r, ht, hz⟩ := I5.list hx
  have hlen := r.length
  refine tail_any (ops := [.ref a, .ref s4.heap.objs.size]) ht.isList.typeIs (PySem.slot_list_getitem.lookup) ?_ (by with_unfolding_all rfl)
  refine wpAny_getItem_list_slice ht.isList (Heap.IsSliceOf.new _ vl vu vs) pl pu ps (by decide) ?_ (by rw [List.size_toArray]; omega)
  rw [pick_ev]
  exact ⟨.ref _, _, I5.laid (t' := s4.toks) (o := .lst (every2 xs)) (fun b ob z => Heap.get?_push_of_some _ z) (Nat.le_refl _) ⟨Nat.le_trans (ev2_len xs) hz, _, 0, Vals.ev2 r, Heap.get?_push_size _ rfl⟩, rfl, q _ (I5.hok.fresh (Nat.le_refl _))⟩
theorem pe_od {t : TE} {k k' : Nat} {p1 p2 p3 : Pos} (he : PE X e t) : PE X (.Subscript e (.Slice (some (.Constant (.int 1) k' p2)) none (some (.Constant (.int 2) k p1)) p3) pos) (rStep X.K (fun l => every2 l.tail) t) := by
  refine ⟨fun pins s σ H Q I h => ?_⟩
  refine Subscript_ (thn (he.run pins s σ H _ I h) fun v s1 ⟨x, H1, I1, r1, a, xs, ex, hx, q⟩ => ?_)
  subst ex; cases r1
  have hst : PO X (some (.Constant (.int 2) k p1)) (tPart (tC (.int 2))) := po_some pe_int
  have hlo : PO X (some (.Constant (.int 1) k' p2)) (tPart (tC (.int 1))) := po_some pe_int
  refine wpAny_Slice (thn (hlo.run pins s1 σ H1 (fun o H2 => o = some 1 ∧ H2 = H1) I1 ⟨1, rfl, rfl, rfl⟩) fun vl s2 ⟨l, H2, I2, pl, el, e2⟩ => ?_)
  subst el e2
  refine thn (po_none.run pins s2 σ H2 (fun o H3 => o = none ∧ H3 = H2) I2 ⟨rfl, rfl⟩) fun vu s3 ⟨u, H3, I3, pu, eu, e3⟩ => ?_
  subst eu e3
  refine thn (hst.run pins s3 σ H3 (fun o H4 => o = some 2 ∧ H4 = H3) I3 ⟨2, rfl, rfl, rfl⟩) fun vs s4 ⟨o, H4, I4, ps, eo, e4⟩ => ?_
  subst eo e4
  have I5 : Inv X pins σ H4 { s4 with heap := s4.heap.push { cls := .type "slice", data := .fields #[vl, vu, vs] } } := I4.kept (t' := s4.toks) fun b ob z => Heap.get?_push_of_some _ z
  show wpAny (model X.prog X.w) X.A (subscriptTail e (.Slice (some (.Constant (.int 1) k' p2)) none (some (.Constant (.int 2) k p1)) p3) (.ref a) (.ref s4.heap.objs.size)) (EP X pins σ Q) X.xe { s4 with heap := s4.heap.push { cls := .type "slice", data := .fields #[vl, vu, vs] } }
  obtain ⟨its, r, ht, hz⟩ := I5.list hx
  have hlen := r.length
  refine tail_any (ops := [.ref a, .ref s4.heap.objs.size]) ht.isList.typeIs (PySem.slot_list_getitem.lookup) ?_ (by with_unfolding_all rfl)
  refine wpAny_getItem_list_slice ht.isList (Heap.IsSliceOf.new _ vl vu vs) pl pu ps (by decide) ?_ (by rw [List.size_toArray]; omega)
  rw [pick_od]
  have hl2 : (every2 xs.tail).length ≤ sizeLine := by have := ev2_len xs.tail; rw [List.length_tail] at this; omega
  exact ⟨.ref _, _, I5.laid (t' := s4.toks) (o := .lst (every2 xs.tail)) (fun b ob z => Heap.get?_push_of_some _ z) (Nat.le_refl _) ⟨hl2, _, 0, Vals.ev2 (Vals.tl r), Heap.get?_push_size _ rfl⟩, rfl, q _ (I5.hok.fresh (Nat.le_refl _))⟩
theorem RpAll.tl {H : Hp} : ∀ {vs : List V} {ds : List PyData}, RpAll H vs ds → RpAll H vs.tail ds.tail
  | _, _, .nil => .nil
  | _, _, .cons _ r => r
theorem d_ev {k : Nat} {p1 p3 : Pos} (he : PE X e (te X.K W φ)) : PE X (.Subscript e (.Slice none none (some (.Constant (.int 2) k p1)) p3) pos) (te X.K W (e1 gEv φ)) :=
  pe_imp (pe_ev he) fun σ H Q ⟨Hk0, H0, Hk, ρ, r, p⟩ =>
    te_thenF (g := gEv) r p fun x v Hk1 H1 g1 d1 n1 r1 p1 => by
      unfold gEv at p1
      split at p1
      · rename_i ds hd
        obtain ⟨l, xs, rfl, s1, r1⟩ := d1.kList g1.kh hd
        exact ⟨l, xs, rfl, s1.sq, own_new g1.kh (PostE.up g1 p1) (RpAll.ev2 r1)⟩
      · exact p1.elim
theorem d_od {k k' : Nat} {p1 p2 p3 : Pos} (he : PE X e (te X.K W φ)) : PE X (.Subscript e (.Slice (some (.Constant (.int 1) k' p2)) none (some (.Constant (.int 2) k p1)) p3) pos) (te X.K W (e1 gOd φ)) :=
  pe_imp (pe_od he) fun σ H Q ⟨Hk0, H0, Hk, ρ, r, p⟩ =>
    te_thenF (g := gOd) r p fun x v Hk1 H1 g1 d1 n1 r1 p1 => by
      unfold gOd at p1
      split at p1
      · rename_i ds hd
        obtain ⟨l, xs, rfl, s1, r1⟩ := d1.kList g1.kh hd
        exact ⟨l, xs, rfl, s1.sq, own_new g1.kh (PostE.up g1 p1) (RpAll.ev2 (RpAll.tl r1))⟩
      · exact p1.elim
theorem d_fn0 {x : Str} {p : Pos} {k j : Nat} {G : List PyData → R Cr} (F : FOk X.K X.prog X.w X.mg X.base j x 0 G) (hr : Room k X.A) (hj : j ≤ k) (tk : Takes X W) (hg : Gl X x := by rfl) (hdb : (x == ("__debug__" : Str)) = false := by decide) : PE X (.Call (.Name x p) [] [] pos) (te X.K W (eCall0 G)) := by
  obtain ⟨f, fd, ps, hm, hk, hb, F⟩ := F
  refine pe_imp (pe_call0 (E := fun _ _ _ => False) F (hr.mono hj) hg hm hk hb .nil (passes_call tk fun _ _ _ _ z => z.elim) hdb) fun σ H Q ⟨Hk0, H0, Hk, ρ, r, p⟩ => ?_
  unfold eCall0 at p
  refine ⟨Hk, [], r.kh, .nil, rfl, ?_⟩
  cases e1 : G [] with
  | err c => rw [e1] at p; exact p.elim
  | bad => rw [e1] at p; exact p.elim
  | ok c => rw [e1] at p; exact fun v Hk2 H2 g2 n2 d2 => p v Hk2 H2 g2 n2 (den_cl d2)
end
end Py

set_option Elab.async false
set_option linter.all false
set_option maxRecDepth 100000
set_option autoImplicit false
set_option maxHeartbeats 1000000
/-! PyX: a law's end. -/
namespace Py
open PySem L2 PyProof.Rows
open Evl (Ex)
theorem walk_py {l : PySem.W.OpenLaw} {n k : Nat} {q : Program} {loose : List Str} {XP : (Str → Option Value) → Heap → Prop} {YP : World → Heap → Prop} {d : DefRec} {x : Str} {G : List PyData → R Cr}
    (hn : l.most = some n) (hn2 : n ≤ sizeLine) (hdf : d.params.defaults = []) (hr : Room k callerA)
    (F : ∀ (w : World) (mg : Str → Option Value) (fa : Addr) (h : Heap), YP w h → h.Ns mainGlobals mg → mg d.name = some (.ref fa) →
      ∃ (K : PySem.W.Frag) (fd : FuncData), K.In h ∧ (∀ (s : Shared) (u : Value), BindsTo s fd ⟨[u], []⟩ [(x, u)]) ∧
        ∀ base : Heap, K.In base → base.Ns mainGlobals mg → FnOk l.prog w K mg base (L2.CX l.prog w) k fa fd [x] (@spF ⟨K⟩ K 1 G))
    (hG : ∀ ns : List Int, ns.length ≤ n → G [.list (ns.map PyData.int)] = .ok (.val (.bool true))) :
    PySem.W.WalkO q loose XP YP l.row.toRowW d [] (fun f vs => PySem.call f vs) := by
  refine Att.attach_call hn hdf fun w s₀ s₁ mg mb fa o pm cd doc a vs ns Gd Y ho hd hcd hmg hobj hints hlen hg => ?_
  obtain ⟨K, fd, KX, hb, hF⟩ := F w mg fa _ Y Gd.T.g hmg
  letI : KK := ⟨K⟩
  have rv := vals_ints hints
  refine law_call KX Gd.T.g Gd.T.b Gd.T.builtins Gd.T.nolimit hg hobj hints (Nat.le_trans hlen hn2) hr hF hb (fun H _ hS => ?_) fun H e s' h => ?_
  · have rl : Rl H a (ns.map V.int) := by
      rcases hS with hS | ⟨ob, its, m, hk, _⟩
      · exact .inl hS
      · have e := KX a ob hk
        rw [hobj] at e
        cases e
        exact .inr ⟨vs, _, hk, by rw [← rv.length, List.length_map]; exact Nat.le_trans hlen hn2, rv⟩
    refine ⟨H, [.list (ns.map PyData.int)], Ex.refl _, .cons (.lst rl (RpAll.ofInts ns)) .nil, rfl, ?_⟩
    rw [hG ns hlen]
    intro v Hk' H' _ _ dn
    cases (show Rp Hk' v (.bool true) from dn)
    rfl
  · obtain ⟨_, _, _, _, _, _, _, _, _, _, _, _, z⟩ := h
    exact z.elim
end Py

set_option Elab.async false
set_option linter.all false
set_option maxRecDepth 100000
set_option autoImplicit false
set_option maxHeartbeats 4000000
/-! PyL: plain tools: what the readings compute. -/
namespace Py
open PySem L2
@[simp] theorem r_pure {α : Type} (a : α) : (pure a : R α) = .ok a := id rfl
@[simp] theorem r_ok {α β : Type} (a : α) (f : α → R β) : (R.ok a >>= f) = f a := id rfl
@[simp] theorem r_err {α β : Type} (c : Str) (f : α → R β) : ((R.err c : R α) >>= f) = .err c := id rfl
@[simp] theorem r_bad {α β : Type} (f : α → R β) : ((R.bad : R α) >>= f) = .bad := id rfl
/-! data -/
abbrev Li (l : List Int) : PyData := .list (l.map PyData.int)
abbrev Tu (l : List Int) : PyData := .tuple (l.map PyData.int)
@[simp] theorem eqv_ints : ∀ a b : List Int, PyData.eqvAll (a.map PyData.int) (b.map PyData.int) = decide (a = b)
  | [], [] => by simp [PyData.eqvAll]
  | [], b :: bs => by simp [PyData.eqvAll]
  | a :: as, [] => by simp [PyData.eqvAll]
  | a :: as, b :: bs => by
    rw [List.map_cons, List.map_cons, PyData.eqvAll, eqv_ints as bs, PyData.eqv]
    by_cases h : a = b <;> by_cases k : as = bs <;> simp [h, k]
@[simp] theorem depth_ints : ∀ a : List Int, PyData.depthAll (a.map PyData.int) = 0
  | [] => rfl
  | a :: as => by rw [List.map_cons, PyData.depthAll, depth_ints as]; rfl
theorem depth_bools : ∀ a : List Bool, PyData.depthAll (a.map PyData.bool) = 0
  | [] => rfl
  | a :: as => by rw [List.map_cons, PyData.depthAll, depth_bools as]; rfl
@[simp] theorem eqv_list (a b : List PyData) : PyData.eqv (.list a) (.list b) = PyData.eqvAll a b := by rw [PyData.eqv]
@[simp] theorem eqv_tuple (a b : List PyData) : PyData.eqv (.tuple a) (.tuple b) = PyData.eqvAll a b := by rw [PyData.eqv]
@[simp] theorem eqv_int (a b : Int) : PyData.eqv (.int a) (.int b) = decide (a = b) := by
  rw [PyData.eqv]
  by_cases h : a = b <;> simp [h]
@[simp] theorem eqvAll_nil : PyData.eqvAll [] [] = true := id rfl
@[simp] theorem eqvAll_cons (a b : PyData) (as bs : List PyData) : PyData.eqvAll (a :: as) (b :: bs) = (PyData.eqv a b && PyData.eqvAll as bs) := by rw [PyData.eqvAll]
@[simp] theorem eqvAll_cn (a : PyData) (as : List PyData) : PyData.eqvAll (a :: as) [] = false := by rw [PyData.eqvAll]
@[simp] theorem eqvAll_nc (a : PyData) (as : List PyData) : PyData.eqvAll [] (a :: as) = false := by rw [PyData.eqvAll]
@[simp] theorem depth_int (a : Int) : PyData.depth (.int a) = 0 := id rfl
@[simp] theorem depth_list (a : List PyData) : PyData.depth (.list a) = PyData.depthAll a + 1 := by rw [PyData.depth]
@[simp] theorem depth_tuple (a : List PyData) : PyData.depth (.tuple a) = PyData.depthAll a + 1 := by rw [PyData.depth]
@[simp] theorem depthAll_nil : PyData.depthAll [] = 0 := id rfl
@[simp] theorem depthAll_cons (a : PyData) (as : List PyData) : PyData.depthAll (a :: as) = max a.depth (PyData.depthAll as) := by rw [PyData.depthAll]
abbrev kk0 : KK := ⟨[]⟩
@[simp] theorem ints_map (ns : List Int) : asInts (ns.map PyData.int) = some ns := @asInts_map kk0 ns
@[simp] theorem bools_map (ns : List Bool) : asBools (ns.map PyData.bool) = some ns := @asBools_map kk0 ns
@[simp] theorem zip_len (a b : List PyData) : (zipD a b).length = min a.length b.length := @zipD_len kk0 a b
@[simp] theorem rg_len (i : Int) (n : Nat) : (rangeD i n).length = n := @rangeD_len kk0 i n
/-- a bound of a range, small -/
def okR (j : Int) : Prop := -(2 ^ 60) ≤ j ∧ j < 2 ^ 60
noncomputable instance (j : Int) : Decidable (okR j) := Classical.propDecidable _
theorem okR_of {j : Int} (h0 : -1000000 ≤ j) (h1 : j ≤ 1000000) : okR j := by unfold okR; omega
theorem okR_nat {n : Nat} (h1 : n ≤ 1000000) : okR (n : Int) := okR_of (by omega) (by omega)
def okM (i j : Int) : Prop := (-(2 ^ 64) < i ∧ i < 2 ^ 64) ∨ (-(2 ^ 64) < j ∧ j < 2 ^ 64)
noncomputable instance (i j : Int) : Decidable (okM i j) := Classical.propDecidable _
@[simp] theorem okM_r {i j : Int} (h0 : -1000000000000 ≤ j) (h1 : j ≤ 1000000000000) : okM i j := by unfold okM; omega
@[simp] theorem okM_l {i j : Int} (h0 : -1000000000000 ≤ i) (h1 : i ≤ 1000000000000) : okM i j := by unfold okM; omega
def okK (k : Int) : Prop := -(2 ^ 62) ≤ k ∧ k < 2 ^ 62 ∧ k.toNat ≤ 1000000
noncomputable instance (j : Int) : Decidable (okK j) := Classical.propDecidable _
theorem ite_same {α : Type} {p q : Prop} [Decidable p] [Decidable q] (h : p ↔ q) (a b : α) : (if p then a else b) = if q then a else b := by
  by_cases k : p
  · rw [if_pos k, if_pos (h.mp k)]
  · rw [if_neg k, if_neg (fun z => k (h.mpr z))]
theorem okK_of {j : Int} (h0 : -1000000 ≤ j) (h1 : j ≤ 1000000) : okK j := by unfold okK; omega
/-! readings -/
section
variable (ρ : En) (φ ψ χ : En → R Rv) (s t : En → R Bool) (Φ Ψ : En → R Out)
@[simp] theorem x_K (d : PyData) : eK d ρ = .ok (.val d) := id rfl
theorem x_var (i : Nat) : eVar i ρ = match ρ[i]? with
  | some (some (.val d)) => .ok (.val d)
  | some (some (.own ds)) => .ok (.bor i ds)
  | some (some (.tpn ds)) => .ok (.val (.tuple ds))
  | _ => .bad := id rfl
@[simp] theorem x_e2 (g : Rv → Rv → R Rv) : e2 g φ ψ ρ = (φ ρ >>= fun x => ψ ρ >>= fun y => g (frz x) (frz y)) := id rfl
@[simp] theorem x_t2 (g : Rv → Rv → R Bool) : t2 g φ ψ ρ = (φ ρ >>= fun x => ψ ρ >>= fun y => g (frz x) (frz y)) := id rfl
@[simp] theorem x_e1 (g : Rv → R Rv) : e1 g φ ρ = (φ ρ >>= fun x => g (frz x)) := id rfl
@[simp] theorem x_eT : eT s ρ = (s ρ >>= fun b => .ok (.val (.bool b))) := id rfl
@[simp] theorem x_tE : tE φ ρ = (φ ρ >>= fun x => (frz x).toBool) := id rfl
@[simp] theorem x_chain (c c' : Rv → Rv → R Bool) : eChain c c' φ ψ χ ρ = (φ ρ >>= fun x => ψ ρ >>= fun y => c (frz x) (frz y) >>= fun b => if b = true then χ ρ >>= fun z => c' (frz y) (frz z) else .ok false) := id rfl
@[simp] theorem x_tAnd : tAnd s t ρ = (s ρ >>= fun b => if b = true then t ρ else .ok false) := id rfl
@[simp] theorem x_tOr : tOr s t ρ = (s ρ >>= fun b => if b = true then .ok true else t ρ) := id rfl
@[simp] theorem x_tNot : tNot s ρ = (s ρ >>= fun b => .ok (!b)) := id rfl
@[simp] theorem x_eAnd : eAnd φ ψ ρ = (tE φ ρ >>= fun b => if b = true then ψ ρ else .ok (.val (.bool false))) := id rfl
@[simp] theorem x_eOr : eOr φ ψ ρ = (tE φ ρ >>= fun b => if b = true then .ok (.val (.bool true)) else ψ ρ) := id rfl
@[simp] theorem x_eNot : eNot φ ρ = (tE φ ρ >>= fun b => .ok (.val (.bool (!b)))) := by
  show ((tE φ ρ >>= fun b => R.ok (!b)) >>= fun b => R.ok (Rv.val (.bool b))) = _
  cases tE φ ρ <;> rfl
@[simp] theorem x_eIf : eIf s φ ψ ρ = (s ρ >>= fun b => if b = true then φ ρ else ψ ρ) := id rfl
@[simp] theorem x_evA0 : evA [] ρ = .ok [] := id rfl
@[simp] theorem x_evA (φs : List (En → R Rv)) : evA (φ :: φs) ρ = (φ ρ >>= fun r => (frz r).toVal >>= fun d => evA φs ρ >>= fun ds => .ok (d :: ds)) := id rfl
@[simp] theorem x_evR0 : evR [] ρ = .ok [] := id rfl
@[simp] theorem x_evR (φs : List (En → R Rv)) : evR (φ :: φs) ρ = (φ ρ >>= fun r => evR φs ρ >>= fun ds => .ok (frz r :: ds)) := id rfl
@[simp] theorem x_eTup (φs : List (En → R Rv)) : eTup φs ρ = (evA φs ρ >>= fun ds => .ok (.val (.tuple ds))) := id rfl
@[simp] theorem x_eLst (φs : List (En → R Rv)) : eLst φs ρ = (evA φs ρ >>= fun ds => .ok (.own ds)) := id rfl
@[simp] theorem x_eCall (F : List PyData → R Cr) (φs : List (En → R Rv)) : eCall F φs ρ = (evA φs ρ >>= fun ds => F ds >>= fun r => .ok r.rv) := id rfl
@[simp] theorem x_eB (g : List Rv → R Rv) (φs : List (En → R Rv)) : eB g φs ρ = (evR φs ρ >>= g) := id rfl
@[simp] theorem x_eF : eF φ ρ = (φ ρ >>= fun r => .ok (frz r)) := id rfl
@[simp] theorem x_eNeg : eNeg φ ρ = (φ ρ >>= fun x => (frz x).toInt >>= fun i => .ok (.val (.int (-i)))) := id rfl
@[simp] theorem x_pNo : pNo ρ = .ok none := id rfl
@[simp] theorem x_pSo : pSo φ ρ = (φ ρ >>= fun r => (frz r).toInt >>= fun i => .ok (some i)) := id rfl
@[simp] theorem x_eSl (lo hi : En → R (Option Int)) : eSl φ lo hi ρ = (φ ρ >>= fun x => lo ρ >>= fun l => hi ρ >>= fun h => gSl (frz x) l h) := id rfl
@[simp] theorem x_eIsi (T : String) : eIsi T φ ρ = (φ ρ >>= fun x => isiD T (frz x).dat >>= fun b => .ok (.val (.bool b))) := id rfl
@[simp] theorem x_iSeq : iSeq φ ρ = (φ ρ >>= fun x => seqOf (frz x)) := id rfl
@[simp] theorem x_iRg1 : iRg1 φ ρ = (φ ρ >>= fun x => (frz x).toInt >>= fun j => if okR j then .ok (true, rangeD 0 j.toNat) else .bad) := by
  unfold iRg1
  congr 1; funext x; congr 1; funext j
  exact ite_same (show (-(2 ^ 60) ≤ j ∧ j < 2 ^ 60) ↔ okR j by unfold okR; exact Iff.rfl) _ _
@[simp] theorem x_iRg2 : iRg2 φ ψ ρ = (φ ρ >>= fun x => ψ ρ >>= fun y => (frz x).toInt >>= fun i => (frz y).toInt >>= fun j => if okR i ∧ okR j then .ok (true, rangeD i (j - i).toNat) else .bad) := by
  unfold iRg2
  congr 1; funext x; congr 1; funext y; congr 1; funext i; congr 1; funext j
  exact ite_same (by unfold okR; rw [and_assoc]) _ _
@[simp] theorem x_iZ2 : iZ2 φ ψ ρ = (φ ρ >>= fun x => ψ ρ >>= fun y => z2 (frz x) (frz y)) := id rfl
@[simp] theorem x_iZ3 : iZ3 φ ψ χ ρ = (φ ρ >>= fun x => ψ ρ >>= fun y => χ ρ >>= fun z => z3 (frz x) (frz y) (frz z)) := id rfl
@[simp] theorem x_eLc (ι : En → R (Bool × List PyData)) (τ : Pat) (vs : List Nat) : eLc ι τ t φ vs ρ = (ι ρ >>= fun a => if a.2.length ≤ 1000000 then lcR τ t φ (wipeE ρ vs) a.2 >>= fun es => .ok (.own es) else .bad) := id rfl
@[simp] theorem x_seq : sSeq Φ Ψ ρ = (Φ ρ >>= seqK Ψ) := id rfl
@[simp] theorem x_seqK (ρ' : En) : seqK Ψ (.nx ρ') = Ψ ρ' := id rfl
@[simp] theorem x_seqR (r : Cr) : seqK Ψ (.rt r) = .ok (.rt r) := id rfl
@[simp] theorem x_nil : sNil ρ = .ok (.nx ρ) := id rfl
@[simp] theorem x_set (i : Nat) : sSet i φ ρ = (φ ρ >>= fun r => .ok (.nx (put i r ρ))) := id rfl
@[simp] theorem x_putV (i : Nat) (d : PyData) : put i (.val d) ρ = ρ.set i (some (.val d)) := id rfl
@[simp] theorem x_putO (i : Nat) (d : List PyData) : put i (.own d) ρ = ρ.set i (some (.own d)) := id rfl
@[simp] theorem x_unp (τ : Pat) : sUnp τ φ ρ = (φ ρ >>= fun r => (frz r).toVal >>= fun d => asg τ d ρ >>= fun ρ' => .ok (.nx ρ')) := id rfl
@[simp] theorem x_par (i j : Nat) : sPar i j φ ψ ρ = (φ ρ >>= fun x => ψ ρ >>= fun y => if sPar.noB x && sPar.noB y then .ok (.nx (put j y (put i x ρ))) else .bad) := id rfl
@[simp] theorem x_ret : sRet φ ρ = (φ ρ >>= fun r => clE ρ r >>= fun c => .ok (.rt c)) := id rfl
@[simp] theorem x_retN : sRetN ρ = .ok (.rt (.val .none)) := id rfl
@[simp] theorem x_drop : sDrop φ ρ = (φ ρ >>= fun _ => .ok (.nx ρ)) := id rfl
@[simp] theorem x_if : sIf s Φ Ψ ρ = (s ρ >>= fun b => if b = true then Φ ρ else Ψ ρ) := id rfl
@[simp] theorem x_for (ι : En → R (Bool × List PyData)) (τ : Pat) : sFor ι τ Φ ρ = (ι ρ >>= fun a => if a.1 = true then forR τ Φ a.2 ρ else .bad) := id rfl
@[simp] theorem x_raise (c : Str) : sRaise c ρ = .err c := id rfl
@[simp] theorem x_app (i : Nat) : sApp i φ ρ = (ownAt ρ i >>= fun ds => evA [φ] ρ >>= fun es => if ds.length ≤ 1000000 then .ok (.nx (ρ.set i (some (.own (ds ++ es))))) else .bad) := id rfl
@[simp] theorem x_frz (i : Nat) : sFrz i Φ ρ = Φ (frzE i ρ) := id rfl
@[simp] theorem x_clV (d : PyData) : clE ρ (.val d) = .ok (.val d) := id rfl
@[simp] theorem x_clO (d : List PyData) : clE ρ (.own d) = .ok (.own d) := id rfl
end
@[simp] theorem x_frzV (d : PyData) : frz (.val d) = .val d := id rfl
@[simp] theorem x_frzO (d : List PyData) : frz (.own d) = .val (.list d) := id rfl
@[simp] theorem x_frzB (i : Nat) (d : List PyData) : frz (.bor i d) = .bor i d := id rfl
@[simp] theorem x_toVal (d : PyData) : (Rv.val d).toVal = .ok d := id rfl
@[simp] theorem x_toInt (d : Int) : (Rv.val (.int d)).toInt = .ok d := id rfl
@[simp] theorem x_toBool (d : Bool) : (Rv.val (.bool d)).toBool = .ok d := id rfl
@[simp] theorem x_datV (d : PyData) : (Rv.val d).dat = d := id rfl
@[simp] theorem x_datO (d : List PyData) : (Rv.own d).dat = .list d := id rfl
@[simp] theorem x_datB (i : Nat) (d : List PyData) : (Rv.bor i d).dat = .list d := id rfl
@[simp] theorem x_rvV (d : PyData) : (Cr.val d).rv = .val d := id rfl
@[simp] theorem x_rvT (d : List PyData) : (Cr.tpn d).rv = .val (.tuple d) := id rfl
@[simp] theorem x_rvO (d : List PyData) : (Cr.own d).rv = .own d := id rfl
@[simp] theorem x_outN (ρ : En) : outV (.nx ρ) = .ok (.val .none) := id rfl
@[simp] theorem x_outR (r : Cr) : outV (.rt r) = .ok r := id rfl
@[simp] theorem x_noV (d : PyData) : sPar.noB (.val d) = true := id rfl
@[simp] theorem x_noO (d : List PyData) : sPar.noB (.own d) = true := id rfl
@[simp] theorem x_seqL (d : List PyData) : seqOf (.val (.list d)) = .ok (true, d) := id rfl
@[simp] theorem x_seqT (d : List PyData) : seqOf (.val (.tuple d)) = .ok (true, d) := id rfl
@[simp] theorem x_seqB (i : Nat) (d : List PyData) : seqOf (.bor i d) = .ok (false, d) := id rfl
@[simp] theorem x_z2 (x y : Rv) : z2 x y = (seqOf x >>= fun a => seqOf y >>= fun b => .ok (a.1 && b.1, zipD a.2 b.2)) := id rfl
@[simp] theorem x_z3 (x y z : Rv) : z3 x y z = (seqOf x >>= fun a => seqOf y >>= fun b => seqOf z >>= fun c => .ok (a.1 && (b.1 && c.1), zipD3 a.2 b.2 c.2)) := id rfl
@[simp] theorem x_gB (c : Rv → Rv → R Bool) (a b : Rv) : gB c a b = (c a b >>= fun k => .ok (.val (.bool k))) := id rfl
@[simp] theorem x_asg (i : Nat) (d : PyData) (ρ : En) : asg (.nm i) d ρ = .ok (ρ.set i (some (.val d))) := by rw [asg]
@[simp] theorem x_asgT (ps : List Pat) (ds : List PyData) (ρ : En) : asg (.tp ps) (.tuple ds) ρ = if ds.length = ps.length then asgs ps ds ρ else .bad := by rw [asg]
@[simp] theorem x_asg0 (ρ : En) : asgs [] [] ρ = .ok ρ := by rw [asgs]
@[simp] theorem x_asgC (p : Pat) (ps : List Pat) (d : PyData) (ds : List PyData) (ρ : En) : asgs (p :: ps) (d :: ds) ρ = (asg p d ρ >>= fun ρ' => asgs ps ds ρ') := by rw [asgs]
/-! operators on ints -/
@[simp] theorem x_add (i j : Int) : gAdd (.val (.int i)) (.val (.int j)) = .ok (.val (.int (i + j))) := id rfl
@[simp] theorem x_sub (i j : Int) : gSub (.val (.int i)) (.val (.int j)) = .ok (.val (.int (i - j))) := id rfl
@[simp] theorem x_mod (i j : Int) : gMod (.val (.int i)) (.val (.int j)) = if 0 < j then .ok (.val (.int (i % j))) else .bad := by simp [gMod, gInt]
@[simp] theorem x_div (i j : Int) : gDiv (.val (.int i)) (.val (.int j)) = if 0 < j ∧ j < 2 ^ 100 then .ok (.val (.int (i / j))) else .bad := by simp [gDiv, gInt]
@[simp] theorem x_mul (i j : Int) : gMul (.val (.int i)) (.val (.int j)) = if okM i j then .ok (.val (.int (i * j))) else .bad := by
  show (if ((decide (-(2 ^ 64) < i) && decide (i < 2 ^ 64)) || (decide (-(2 ^ 64) < j) && decide (j < 2 ^ 64))) = true then R.ok (Rv.val (.int (i * j))) else .bad) = _
  exact ite_same (by unfold okM; simp only [Bool.or_eq_true, Bool.and_eq_true, decide_eq_true_eq]) _ _
@[simp] theorem x_rep (a : PyData) (k : Int) : gMul (.val (.list [a])) (.val (.int k)) = if okK k then .ok (.own (List.replicate k.toNat a)) else .bad := by
  have e : (List.replicate k.toNat [a]).flatten = List.replicate k.toNat a := by
    induction k.toNat with
    | zero => rfl
    | succ n ih => rw [List.replicate_succ, List.flatten_cons, ih]; rfl
  show (if -(2 ^ 62) ≤ k ∧ k < 2 ^ 62 ∧ [a].length * k.toNat ≤ 1000000 then R.ok (Rv.own (List.replicate k.toNat [a]).flatten) else .bad) = _
  rw [e, List.length_singleton, Nat.one_mul]
  exact ite_same (show (-(2 ^ 62) ≤ k ∧ k < 2 ^ 62 ∧ k.toNat ≤ 1000000) ↔ okK k by unfold okK; exact Iff.rfl) _ _
@[simp] theorem x_repT (a : PyData) (k : Int) : gMul (.val (.tuple [a])) (.val (.int k)) = if 1 ≤ k ∧ k ≤ 1000 then .ok (.val (.tuple (List.replicate k.toNat a))) else .bad := by
  have e : (List.replicate k.toNat [a]).flatten = List.replicate k.toNat a := by
    induction k.toNat with
    | zero => rfl
    | succ n ih => rw [List.replicate_succ, List.flatten_cons, ih]; rfl
  show (if 1 ≤ k ∧ k ≤ 1000 ∧ [a].isEmpty = false ∧ [a].length ≤ 1000 then R.ok (Rv.val (.tuple (List.replicate k.toNat [a]).flatten)) else .bad) = _
  rw [e]
  exact ite_same (by simp) _ _
@[simp] theorem x_addL (a b : List PyData) : gAdd (.val (.list a)) (.val (.list b)) = if a.length + b.length ≤ 1000000 then .ok (.own (a ++ b)) else .bad := id rfl
@[simp] theorem x_addT (a b : List PyData) : gAdd (.val (.tuple a)) (.val (.tuple b)) = if a.length + b.length ≤ 1000000 then .ok (.val (.tuple (a ++ b))) else .bad := id rfl
@[simp] theorem x_rg1 (ρ : En) (φ : En → R Rv) (t : Bool) : eRg1 t φ ρ = (φ ρ >>= fun x => (frz x).toInt >>= fun j => gRg t 0 j) := id rfl
@[simp] theorem x_rg2 (ρ : En) (φ ψ : En → R Rv) (t : Bool) : eRg2 t φ ψ ρ = (φ ρ >>= fun x => ψ ρ >>= fun y => (frz x).toInt >>= fun i => (frz y).toInt >>= fun j => gRg t i j) := id rfl
theorem x_gRg (i j : Int) (h1 : -1000000 ≤ i) (h2 : i ≤ 1000000) (h3 : -1000000 ≤ j) (h4 : j ≤ 1000000) (h5 : j - i ≤ 1000000) : gRg false i j = .ok (.own (rangeD i (j - i).toNat)) := by
  unfold gRg
  rw [if_pos (show rgOk i j by unfold rgOk; omega)]
  rfl
theorem x_gRgT (i j : Int) (h1 : -1000000 ≤ i) (h2 : i ≤ 1000000) (h3 : -1000000 ≤ j) (h4 : j ≤ 1000000) (h5 : j - i ≤ 1000000) : gRg true i j = .ok (.val (.tuple (rangeD i (j - i).toNat))) := by
  unfold gRg
  rw [if_pos (show rgOk i j by unfold rgOk; omega)]
  rfl
theorem alike_ints (l : List Int) : alikeB (l.map PyData.int) = true := by
  unfold alikeB
  have : PyData.depthAll (l.map PyData.int) = 0 := by
    induction l with
    | nil => rfl
    | cons a as ih => rw [List.map_cons, PyData.depthAll, ih]; rfl
  rw [this]
  simp [List.all_map, PySem.W.alike, isNoneD]
theorem foldl_min : ∀ (l : List Int) (a : Int), l.foldl min a ∈ a :: l ∧ ∀ x ∈ a :: l, l.foldl min a ≤ x
  | [], a => by simp
  | b :: l, a => by
    obtain ⟨h1, h2⟩ := foldl_min l (min a b)
    rw [List.foldl_cons]
    refine ⟨?_, fun x hx => ?_⟩
    · rcases List.mem_cons.mp h1 with e | e
      · rw [e]
        by_cases h : a ≤ b
        · rw [Int.min_eq_left h]; simp
        · rw [Int.min_eq_right (by omega)]; simp
      · exact List.mem_cons_of_mem _ (List.mem_cons_of_mem _ e)
    · have h0 := h2 (min a b) (by simp)
      rcases List.mem_cons.mp hx with e | e
      · rw [e]; omega
      · rcases List.mem_cons.mp e with e | e
        · rw [e]; omega
        · exact h2 x (List.mem_cons_of_mem _ e)
theorem foldl_max : ∀ (l : List Int) (a : Int), l.foldl max a ∈ a :: l ∧ ∀ x ∈ a :: l, x ≤ l.foldl max a
  | [], a => by simp
  | b :: l, a => by
    obtain ⟨h1, h2⟩ := foldl_max l (max a b)
    rw [List.foldl_cons]
    refine ⟨?_, fun x hx => ?_⟩
    · rcases List.mem_cons.mp h1 with e | e
      · rw [e]
        by_cases h : a ≤ b
        · rw [Int.max_eq_right h]; simp
        · rw [Int.max_eq_left (by omega)]; simp
      · exact List.mem_cons_of_mem _ (List.mem_cons_of_mem _ e)
    · have h0 := h2 (max a b) (by simp)
      rcases List.mem_cons.mp hx with e | e
      · rw [e]; omega
      · rcases List.mem_cons.mp e with e | e
        · rw [e]; omega
        · exact h2 x (List.mem_cons_of_mem _ e)
theorem x_min {l : List Int} (h : l ≠ []) : ∃ m, gMin1 [.val (.list (l.map PyData.int))] = .ok (.val (.int m)) ∧ gMin1 [.val (.tuple (l.map PyData.int))] = .ok (.val (.int m)) ∧ m ∈ l ∧ ∀ x ∈ l, m ≤ x := by
  cases l with
  | nil => exact absurd rfl h
  | cons a l =>
    have e : alikeB (PyData.int a :: l.map PyData.int) = true := alike_ints (a :: l)
    obtain ⟨h1, h2⟩ := foldl_min l a
    refine ⟨l.foldl min a, ?_, ?_, h1, h2⟩
    · show (if alikeB (PyData.int a :: l.map PyData.int) = true then R.ok (Rv.val (PySem.W.minD (.int a) (l.map PyData.int))) else .bad) = _
      rw [if_pos e, PySem.W.minD_ints]
    · show (if alikeB (PyData.int a :: l.map PyData.int) = true then R.ok (Rv.val (PySem.W.minD (.int a) (l.map PyData.int))) else .bad) = _
      rw [if_pos e, PySem.W.minD_ints]
theorem x_max {l : List Int} (h : l ≠ []) : ∃ m, gMax1 [.val (.list (l.map PyData.int))] = .ok (.val (.int m)) ∧ gMax1 [.val (.tuple (l.map PyData.int))] = .ok (.val (.int m)) ∧ m ∈ l ∧ ∀ x ∈ l, x ≤ m := by
  cases l with
  | nil => exact absurd rfl h
  | cons a l =>
    have e : alikeB (PyData.int a :: l.map PyData.int) = true := alike_ints (a :: l)
    obtain ⟨h1, h2⟩ := foldl_max l a
    refine ⟨l.foldl max a, ?_, ?_, h1, h2⟩
    · show (if alikeB (PyData.int a :: l.map PyData.int) = true then R.ok (Rv.val (PySem.W.maxD (.int a) (l.map PyData.int))) else .bad) = _
      rw [if_pos e, PySem.W.maxD_ints]
    · show (if alikeB (PyData.int a :: l.map PyData.int) = true then R.ok (Rv.val (PySem.W.maxD (.int a) (l.map PyData.int))) else .bad) = _
      rw [if_pos e, PySem.W.maxD_ints]
@[simp] theorem x_lt (i j : Int) : cLt (.val (.int i)) (.val (.int j)) = .ok (decide (i < j)) := id rfl
@[simp] theorem x_le (i j : Int) : cLe (.val (.int i)) (.val (.int j)) = .ok (decide (i ≤ j)) := id rfl
@[simp] theorem x_gt (i j : Int) : cGt (.val (.int i)) (.val (.int j)) = .ok (decide (j < i)) := id rfl
@[simp] theorem x_ge (i j : Int) : cGe (.val (.int i)) (.val (.int j)) = .ok (decide (j ≤ i)) := id rfl
theorem x_eq (a b : Rv) : cEq a b = if min a.dat.depth b.dat.depth ≤ 60 then .ok (PyData.eqv a.dat b.dat) else .bad := rfl
theorem x_ne (a b : Rv) : cNe a b = if min a.dat.depth b.dat.depth ≤ 60 then .ok (!PyData.eqv a.dat b.dat) else .bad := rfl
@[simp] theorem x_lenL (d : List PyData) : gLen [.val (.list d)] = .ok (.val (.int d.length)) := id rfl
@[simp] theorem x_lenT (d : List PyData) : gLen [.val (.tuple d)] = .ok (.val (.int d.length)) := id rfl
@[simp] theorem x_lenB (i : Nat) (d : List PyData) : gLen [.bor i d] = .ok (.val (.int d.length)) := id rfl
@[simp] theorem x_sumL (d : List Int) : gSum [.val (.list (d.map PyData.int))] = .ok (.val (.int d.sum)) := by simp [gSum]
@[simp] theorem x_sumT (d : List Int) : gSum [.val (.tuple (d.map PyData.int))] = .ok (.val (.int d.sum)) := by simp [gSum]
@[simp] theorem x_tupL (d : List PyData) : gTuple [.val (.list d)] = .ok (.val (.tuple d)) := id rfl
@[simp] theorem x_tupT (d : List PyData) : gTuple [.val (.tuple d)] = .ok (.val (.tuple d)) := id rfl
@[simp] theorem x_tupB (i : Nat) (d : List PyData) : gTuple [.bor i d] = .ok (.val (.tuple d)) := id rfl
@[simp] theorem x_lisL (d : List PyData) : gList [.val (.list d)] = .ok (.own d) := id rfl
@[simp] theorem x_lisT (d : List PyData) : gList [.val (.tuple d)] = .ok (.own d) := id rfl
@[simp] theorem x_max2 (i j : Int) : gMax2 [.val (.int i), .val (.int j)] = .ok (.val (.int (max i j))) := by
  show R.ok (Rv.val (.int (if j > i then j else i))) = _
  have : (if j > i then j else i) = max i j := by split <;> omega
  rw [this]
@[simp] theorem x_min2 (i j : Int) : gMin2 [.val (.int i), .val (.int j)] = .ok (.val (.int (min i j))) := by
  show R.ok (Rv.val (.int (if j < i then j else i))) = _
  have : (if j < i then j else i) = min i j := by split <;> omega
  rw [this]
@[simp] theorem x_all (bs : List Bool) : gAll [.val (.list (bs.map PyData.bool))] = .ok (.val (.bool (bs.all id))) := by simp [gAll]
@[simp] theorem x_any (bs : List Bool) : gAny [.val (.list (bs.map PyData.bool))] = .ok (.val (.bool (bs.any id))) := by simp [gAny]
@[simp] theorem x_allP {α : Type} (l : List α) (p : α → Bool) : gAll [.val (.list (l.map fun x => PyData.bool (p x)))] = .ok (.val (.bool (l.all p))) := by
  have e : (l.map fun x => PyData.bool (p x)) = (l.map p).map PyData.bool := by rw [List.map_map]; rfl
  rw [e, x_all, List.all_map]
  rfl
@[simp] theorem x_anyP {α : Type} (l : List α) (p : α → Bool) : gAny [.val (.list (l.map fun x => PyData.bool (p x)))] = .ok (.val (.bool (l.any p))) := by
  have e : (l.map fun x => PyData.bool (p x)) = (l.map p).map PyData.bool := by rw [List.map_map]; rfl
  rw [e, x_any, List.any_map]
  rfl
theorem kit_int : kitB "int" "int" = some true := by decide +kernel
theorem kit_bi : kitB "int" "bool" = some false := by decide +kernel
theorem kit_tt : kitB "tuple" "tuple" = some true := by decide +kernel
theorem kit_ll : kitB "list" "list" = some true := by decide +kernel
@[simp] theorem x_isiI (i : Int) : isiD "int" (.int i) = .ok true := by simp [isiD, tyN, kit_int]
@[simp] theorem x_isiB (i : Int) : isiD "bool" (.int i) = .ok false := by simp [isiD, tyN, kit_bi]
@[simp] theorem x_isiT (d : List PyData) : isiD "tuple" (.tuple d) = .ok true := by simp [isiD, tyN, kit_tt]
@[simp] theorem x_isiL (d : List PyData) : isiD "list" (.list d) = .ok true := by simp [isiD, tyN, kit_ll]
/-! a[i] -/
theorem atI_nat {α : Type} (l : List α) (i : Nat) : atI l (i : Int) = l[i]? := by
  unfold atI ixN
  by_cases h : (i : Nat) < l.length
  · simp [h, List.getElem?_eq_getElem h]
  · simp [h, List.getElem?_eq_none (Nat.le_of_not_lt h)]
def nth (l : List Int) (i : Int) : Int := (l[i.toNat]?).getD 0
theorem atI_nth (l : List Int) (i : Int) (h0 : 0 ≤ i) (h1 : i < l.length) : atI (l.map PyData.int) i = some (.int (nth l i)) := by
  have h : i.toNat < l.length := by omega
  have e : ixN (l.map PyData.int).length i = some i.toNat := by
    unfold ixN
    rw [if_pos h0, if_pos (by rw [List.length_map]; exact h1)]
  unfold atI nth
  rw [e, List.getElem?_eq_getElem h]
  simp [h]
theorem nth_nat (l : List Int) (i : Nat) : nth l (i : Int) = (l[i]?).getD 0 := by unfold nth; simp
theorem x_ixL (l : List Int) (i : Int) (h0 : 0 ≤ i) (h1 : i < l.length) : gIx (.val (.list (l.map PyData.int))) (.val (.int i)) = .ok (.val (.int (nth l i))) := by simp [gIx, atI_nth l i h0 h1]
theorem x_ixT (l : List Int) (i : Int) (h0 : 0 ≤ i) (h1 : i < l.length) : gIx (.val (.tuple (l.map PyData.int))) (.val (.int i)) = .ok (.val (.int (nth l i))) := by simp [gIx, atI_nth l i h0 h1]
theorem x_ixB (j : Nat) (l : List Int) (i : Int) (h0 : 0 ≤ i) (h1 : i < l.length) : gIx (.bor j (l.map PyData.int)) (.val (.int i)) = .ok (.val (.int (nth l i))) := by simp [gIx, atI_nth l i h0 h1]
@[simp] theorem eqv_ints_nil (a : List Int) : PyData.eqvAll (a.map PyData.int) [] = decide (a = []) := eqv_ints a []
/-! loops -/
theorem forR_nil (τ : Pat) (B : En → R Out) (ρ : En) : forR τ B [] ρ = .ok (.nx ρ) := rfl
theorem for_ok {τ : Pat} {B : En → R Out} (I : Nat → En → Prop) : ∀ (ds : List PyData) (k : Nat) (ρ : En), I k ρ → (∀ i ρ d, ds[i]? = some d → I (k + i) ρ → ∃ ρ1, asg τ d ρ = .ok ρ1 ∧ ∃ ρ', B ρ1 = .ok (.nx ρ') ∧ I (k + i + 1) ρ') → ∃ ρ', forR τ B ds ρ = .ok (.nx ρ') ∧ I (k + ds.length) ρ'
  | [], k, ρ, h0, _ => ⟨ρ, rfl, h0⟩
  | d :: ds, k, ρ, h0, st => by
    obtain ⟨ρ1, h1, ρ', h2, h3⟩ := st 0 ρ d rfl h0
    obtain ⟨ρ2, h4, h5⟩ := for_ok I ds (k + 1) ρ' h3 fun i σ e he hI => by
      have := st (i + 1) σ e (by simpa using he) (by rw [show k + (i + 1) = k + 1 + i by omega]; exact hI)
      rw [show k + (i + 1) + 1 = k + 1 + i + 1 by omega] at this
      exact this
    refine ⟨ρ2, ?_, by rw [List.length_cons, show k + (ds.length + 1) = k + 1 + ds.length by omega]; exact h5⟩
    rw [forR, h1]
    show B ρ1 >>= whK (forR τ B ds) = _
    rw [h2]
    exact h4
theorem seq_nx {Φ Ψ : En → R Out} {ρ ρ1 : En} {o : R Out} (h1 : Φ ρ = .ok (.nx ρ1)) (h2 : Ψ ρ1 = o) : sSeq Φ Ψ ρ = o := by rw [x_seq, h1]; exact h2
theorem fn_rt {n : Nat} {Φ : En → R Out} {ds : List PyData} {r : Cr} (h : Φ (st0 n ds) = .ok (.rt r)) : fnR n Φ ds = .ok r := by unfold fnR; rw [h]; rfl
theorem fn_nx {n : Nat} {Φ : En → R Out} {ds : List PyData} {ρ : En} (h : Φ (st0 n ds) = .ok (.nx ρ)) : fnR n Φ ds = .ok (.val .none) := by unfold fnR; rw [h]; rfl
/-- a statement goes on, and then P -/
def Nx (Φ : En → R Out) (ρ : En) (P : En → Prop) : Prop := ∃ ρ', Φ ρ = .ok (.nx ρ') ∧ P ρ'
theorem Nx.of {Φ : En → R Out} {ρ ρ' : En} {P : En → Prop} (h : Φ ρ = .ok (.nx ρ')) (p : P ρ') : Nx Φ ρ P := ⟨ρ', h, p⟩
theorem Nx.seq {Φ Ψ : En → R Out} {ρ : En} {P Q : En → Prop} (h : Nx Φ ρ P) (k : ∀ ρ', P ρ' → Nx Ψ ρ' Q) : Nx (sSeq Φ Ψ) ρ Q := by
  obtain ⟨ρ1, h1, p⟩ := h
  obtain ⟨ρ2, h2, q⟩ := k ρ1 p
  exact ⟨ρ2, seq_nx h1 h2, q⟩
theorem Nx.step {Φ Ψ : En → R Out} {ρ ρ1 : En} {Q : En → Prop} (h : Φ ρ = .ok (.nx ρ1)) (k : Nx Ψ ρ1 Q) : Nx (sSeq Φ Ψ) ρ Q := by
  obtain ⟨ρ2, h2, q⟩ := k
  exact ⟨ρ2, seq_nx h h2, q⟩
theorem Nx.no {t : En → R Bool} {Φ Ψ : En → R Out} {ρ : En} {Q : En → Prop} (h : t ρ = .ok false) (k : Nx Ψ ρ Q) : Nx (sIf t Φ Ψ) ρ Q := by
  obtain ⟨ρ2, h2, q⟩ := k
  exact ⟨ρ2, by rw [x_if, h]; exact h2, q⟩
theorem if_no {t : En → R Bool} {Φ Ψ : En → R Out} {ρ : En} {o : R Out} (h : t ρ = .ok false) (k : Ψ ρ = o) : sIf t Φ Ψ ρ = o := by rw [x_if, h]; exact k
theorem if_yes {t : En → R Bool} {Φ Ψ : En → R Out} {ρ : En} {o : R Out} (h : t ρ = .ok true) (k : Φ ρ = o) : sIf t Φ Ψ ρ = o := by rw [x_if, h]; exact k
theorem for_nx {ι : En → R (Bool × List PyData)} {τ : Pat} {B : En → R Out} {ρ : En} {ds : List PyData} {o : R Out} (h : ι ρ = .ok (true, ds)) (k : forR τ B ds ρ = o) : sFor ι τ B ρ = o := by rw [x_for, h]; exact k
theorem Nx.for_ {ι : En → R (Bool × List PyData)} {τ : Pat} {B : En → R Out} {ρ : En} (ds : List PyData) (I : Nat → En → Prop) {Q : En → Prop} (h : ι ρ = .ok (true, ds)) (h0 : I 0 ρ) (st : ∀ i ρ d, ds[i]? = some d → I i ρ → ∃ ρ1, asg τ d ρ = .ok ρ1 ∧ Nx B ρ1 (I (i + 1))) (k : ∀ ρ', I ds.length ρ' → Q ρ') : Nx (sFor ι τ B) ρ Q := by
  obtain ⟨ρ', h1, h2⟩ := for_ok (τ := τ) (B := B) I ds 0 ρ h0 fun i ρ d hd hI => by
    rw [Nat.zero_add] at hI ⊢
    exact st i ρ d hd hI
  rw [Nat.zero_add] at h2
  exact ⟨ρ', for_nx h h1, k ρ' h2⟩
theorem lc_map {α : Type} {τ : Pat} {φ : En → R Rv} {ρ : En} (f g : α → PyData) : ∀ (xs : List α), (∀ x ∈ xs, ∃ ρ1, asg τ (f x) ρ = .ok ρ1 ∧ ∃ r, φ ρ1 = .ok r ∧ (frz r).toVal = .ok (g x)) → lcR τ tYes φ ρ (xs.map f) = .ok (xs.map g)
  | [], _ => rfl
  | x :: xs, h => by
    obtain ⟨ρ1, h1, r, h2, h3⟩ := h x (by simp)
    rw [List.map_cons, lcR, h1]
    show (nerr (φ ρ1) >>= fun r => (frz r).toVal >>= fun e => lcR τ tYes φ ρ (xs.map f) >>= fun es => .ok (e :: es)) = _
    rw [h2, lc_map f g xs fun y hy => h y (List.mem_cons_of_mem _ hy)]
    show ((frz r).toVal >>= fun e => (R.ok (xs.map g)) >>= fun es => .ok (e :: es)) = _
    rw [h3]
    rfl
theorem lc_filter {α : Type} {τ : Pat} {T : En → R Bool} {φ : En → R Rv} {ρ : En} (f g : α → PyData) (p : α → Bool) : ∀ (xs : List α), (∀ x ∈ xs, ∃ ρ1, asg τ (f x) ρ = .ok ρ1 ∧ T ρ1 = .ok (p x) ∧ (p x = true → ∃ r, φ ρ1 = .ok r ∧ (frz r).toVal = .ok (g x))) → lcR τ T φ ρ (xs.map f) = .ok ((xs.filter p).map g)
  | [], _ => rfl
  | x :: xs, h => by
    obtain ⟨ρ1, h1, h2, h3⟩ := h x (by simp)
    have ih := lc_filter (T := T) f g p xs fun y hy => h y (List.mem_cons_of_mem _ hy)
    rw [List.map_cons, lcR, h1]
    show (nerr (T ρ1) >>= fun b => if b = true then nerr (φ ρ1) >>= fun r => (frz r).toVal >>= fun e => lcR τ T φ ρ (xs.map f) >>= fun es => .ok (e :: es) else lcR τ T φ ρ (xs.map f)) = _
    rw [h2]
    cases hp : p x with
    | false =>
      rw [List.filter_cons_of_neg (by simp [hp])]
      exact ih
    | true =>
      obtain ⟨r, h4, h5⟩ := h3 hp
      rw [List.filter_cons_of_pos hp]
      show (nerr (φ ρ1) >>= fun r => (frz r).toVal >>= fun e => lcR τ T φ ρ (xs.map f) >>= fun es => .ok (e :: es)) = _
      rw [h4, ih]
      show ((frz r).toVal >>= fun e => (R.ok ((xs.filter p).map g)) >>= fun es => .ok (e :: es)) = _
      rw [h5]
      rfl
end Py

set_option Elab.async false
set_option linter.all false
set_option maxRecDepth 100000
set_option autoImplicit false
set_option maxHeartbeats 4000000
namespace Py
open PySem L2
def excs : List Str := ["InvalidData", "InvalidHistogram", "ParseError"]
def m_is_int : En → R Out := sRet (eAnd (eIsi "int" (eVar 0)) (eAnd (eNot (eIsi "bool" (eVar 0))) (eT (eChain cLe cLe (eVar 1) (eVar 0) (eVar 2)))))
def F_is_int : List PyData → R Cr := fnR 3 m_is_int
def m_are_data : En → R Out := sSeq (sIf (tOr (tNot (tE (eIsi "list" (eVar 0)))) (t2 cGt (eB gLen [eVar 0]) (eK (.int 200)))) (sRet (eK (.bool false))) (sNil))
  (sSeq (sIf (tNot (tE (eB gAll [eLc (iSeq (eVar 0)) (.nm 1) (tYes) (eCall F_is_int [eVar 1, eK (.int 0), eK (.int 999)]) [1]]))) (sRet (eK (.bool false))) (sNil))
  (sRet (eB gAll [eLc (iZ2 (eVar 0) (eSl (eVar 0) (pSo (eK (.int 1))) (pNo))) (.tp [.nm 2, .nm 3]) (tYes) (eT (t2 cLe (eVar 2) (eVar 3))) [2, 3]])))
def F_are_data : List PyData → R Cr := fnR 4 m_are_data
def m_are_borders : En → R Out := sSeq (sIf (tOr (tNot (tE (eIsi "tuple" (eVar 0)))) (tNot (eChain cLe cLe (eK (.int 2)) (eB gLen [eVar 0]) (eK (.int 12))))) (sRet (eK (.bool false))) (sNil))
  (sSeq (sIf (tNot (tE (eB gAll [eLc (iSeq (eVar 0)) (.nm 1) (tYes) (eCall F_is_int [eVar 1, eK (.int 0), eK (.int 1000)]) [1]]))) (sRet (eK (.bool false))) (sNil))
  (sRet (eB gAll [eLc (iZ2 (eVar 0) (eSl (eVar 0) (pSo (eK (.int 1))) (pNo))) (.tp [.nm 2, .nm 3]) (tYes) (eT (t2 cLt (eVar 2) (eVar 3))) [2, 3]])))
def F_are_borders : List PyData → R Cr := fnR 4 m_are_borders
def m_is_histogram : En → R Out := sSeq (sIf (tOr (tNot (tE (eIsi "tuple" (eVar 0)))) (tOr (t2 cNe (eB gLen [eVar 0]) (eK (.int 2))) (tNot (tE (eCall F_are_borders [e2 gIx (eVar 0) (eK (.int 0))]))))) (sRet (eK (.bool false))) (sNil))
  (sSeq (sUnp (.tp [.nm 1, .nm 2]) (eVar 0))
  (sSeq (sIf (tOr (tNot (tE (eIsi "tuple" (eVar 2)))) (t2 cNe (eB gLen [eVar 2]) (e2 gSub (eB gLen [eVar 1]) (eK (.int 1))))) (sRet (eK (.bool false))) (sNil))
  (sRet (eAnd (eB gAll [eLc (iSeq (eVar 2)) (.nm 3) (tYes) (eCall F_is_int [eVar 3, eK (.int 0), eK (.int 60)]) [3]]) (eT (t2 cLe (eB gSum [eVar 2]) (eK (.int 200))))))))
def F_is_histogram : List PyData → R Cr := fnR 4 m_is_histogram
def m_check_data : En → R Out := sIf (tNot (tE (eCall F_are_data [eVar 0]))) (sRaise "InvalidData") (sNil)
def F_check_data : List PyData → R Cr := fnR 1 m_check_data
def m_check_histogram : En → R Out := sIf (tNot (tE (eCall F_is_histogram [eVar 0]))) (sRaise "InvalidHistogram") (sNil)
def F_check_histogram : List PyData → R Cr := fnR 1 m_check_histogram
def m_join_histogram : En → R Out := sSeq (sUnp (.tp [.nm 2, .nm 3]) (eVar 0))
  (sSeq (sSet 1 (eF (eLc (iZ2 (eVar 2) (eVar 3)) (.tp [.nm 4, .nm 5]) (tYes) (e2 gAdd (e2 gAdd (e2 gAdd (eB gStr [eVar 4]) (eK (.str " ["))) (eB gStr [eVar 5])) (eK (.str "]"))) [4, 5])))
  (sRet (eS1 gJoin (eK (.str " ")) (e2 gAdd (eVar 1) (eLst [eB gStr [e2 gIx (eVar 2) (eNeg (eK (.int 1)))]])))))
def F_join_histogram : List PyData → R Cr := fnR 6 m_join_histogram
def m_format_histogram : En → R Out := sSeq (sDrop (eCall F_check_histogram [eVar 0]))
  (sRet (eCall F_join_histogram [eVar 0]))
def F_format_histogram : List PyData → R Cr := fnR 1 m_format_histogram
def m_read_number : En → R Out := sSeq (sIf (tOr (tNot (eChain cLe cLe (eK (.int 1)) (eB gLen [eVar 0]) (eK (.int 4)))) (tNot (tE (eB gAll [eLc (iStrI (eVar 0)) (.nm 1) (tYes) (eT (t2 cIn (eVar 1) (eK (.str "0123456789")))) [1]])))) (sRet (eK .none)) (sNil))
  (sRet (eB gInt1 [eVar 0]))
def F_read_number : List PyData → R Cr := fnR 2 m_read_number
def m_parse_histogram : En → R Out := sSeq (sIf (tNot (tE (eIsi "str" (eVar 0)))) (sRaise "ParseError") (sNil))
  (sSeq (sSet 1 (eF (eS1 gSplit (eVar 0) (eK (.str " ")))))
  (sSeq (sSet 2 (eB gTuple [eLc (iSeq (e1 gEv (eVar 1))) (.nm 4) (tYes) (eCall F_read_number [eVar 4]) [4]]))
  (sSeq (sSet 3 (eTup [eVar 2, eB gTuple [eLc (iSeq (e1 gOd (eVar 1))) (.nm 4) (tYes) (eCall F_read_number [eSlS (eVar 4) (pSo (eK (.int 1))) (pSo (eNeg (eK (.int 1))))]) [4]]]))
  (sSeq (sIf (tOr (tNot (tE (eCall F_is_histogram [eVar 3]))) (t2 cNe (eCall F_join_histogram [eVar 3]) (eVar 0))) (sRaise "ParseError") (sNil))
  (sRet (eVar 3))))))
def F_parse_histogram : List PyData → R Cr := fnR 5 m_parse_histogram
abbrev b_join_data_0 : En → R Out := sSeq (sSet 3 (eM gCount (eVar 0) (eVar 2)))
  (sApp 1 (e2 gAdd (eB gStr [eVar 2]) (eIf (t2 cGt (eVar 3) (eK (.int 1))) (e2 gAdd (eK (.str "*")) (eB gStr [eVar 3])) (eK (.str "")))))
def m_join_data : En → R Out := sSeq (sSet 1 (eLst []))
  (sSeq (sFor (iSeq (e1 gSS (eVar 0))) (.nm 2) (b_join_data_0))
  (sRet (eS1 gJoin (eK (.str " ")) (eVar 1))))
def F_join_data : List PyData → R Cr := fnR 4 m_join_data
def m_format_data : En → R Out := sSeq (sDrop (eCall F_check_data [eVar 0]))
  (sRet (eCall F_join_data [eVar 0]))
def F_format_data : List PyData → R Cr := fnR 1 m_format_data
def m_read_group : En → R Out := sSeq (sSet 1 (eF (eLc (iSeq (eS1 gSplit (eVar 0) (eK (.str "*")))) (.nm 2) (tYes) (eCall F_read_number [eVar 2]) [2])))
  (sSeq (sIf (tAnd (t2 cEq (eB gLen [eVar 1]) (eK (.int 2))) (t2 cIsNot (e2 gIx (eVar 1) (eK (.int 1))) (eK .none))) (sRet (e2 gMul (eSl (eVar 1) (pNo) (pSo (eK (.int 1)))) (e2 gIx (eVar 1) (eK (.int 1))))) (sNil))
  (sRet (eIf (t2 cEq (eB gLen [eVar 1]) (eK (.int 1))) (eSl (eVar 1) (pNo) (pSo (eK (.int 1)))) (eLst [eK .none]))))
def F_read_group : List PyData → R Cr := fnR 3 m_read_group
abbrev b_parse_data_0 : En → R Out := sSet 1 (eF (e2 gAdd (eVar 1) (eCall F_read_group [eVar 2])))
def m_parse_data : En → R Out := sSeq (sIf (tNot (tE (eIsi "str" (eVar 0)))) (sRaise "ParseError") (sNil))
  (sSeq (sSet 1 (eF (eLst [])))
  (sSeq (sFor (iSeq (eIf (t2 cNe (eVar 0) (eK (.str ""))) (eS1 gSplit (eVar 0) (eK (.str " "))) (eLst []))) (.nm 2) (b_parse_data_0))
  (sSeq (sIf (tOr (tNot (tE (eCall F_are_data [eVar 1]))) (t2 cNe (eCall F_join_data [eVar 1]) (eVar 0))) (sRaise "ParseError") (sNil))
  (sRet (eVar 1)))))
def F_parse_data : List PyData → R Cr := fnR 3 m_parse_data
abbrev b__law_drawn_0 : En → R Out := sSeq (sSet 5 (e2 gDiv (eVar 5) (eK (.int 1000000))))
  (sSet 4 (e2 gSub (eVar 4) (eK (.int 1))))
def m__law_drawn : En → R Out := sSeq (sSet 3 (e2 gMul (eK (.int 7)) (eVar 1)))
  (sSeq (sIf (t2 cNe (eVar 0) (eLst [])) (sSeq (sSet 3 (e2 gIx (eVar 0) (e2 gMod (eVar 1) (eB gLen [eVar 0]))))
  (sSeq (sSet 4 (e2 gDiv (eVar 1) (eB gLen [eVar 0])))
  (sSeq (sIf (tAnd (t2 cGe (eVar 3) (e2 gPow (eK (.int 10)) (eK (.int 18)))) (t2 cLt (eVar 4) (eK (.int 60)))) (sSeq (sSet 5 (e2 gDiv (eVar 3) (e2 gPow (eK (.int 10)) (eK (.int 18)))))
  (sSeq (sWhile 5000 (tAnd (t2 cGt (eVar 5) (eK (.int 0))) (t2 cGt (eVar 4) (eK (.int 0)))) (b__law_drawn_0))
  (sIf (t2 cGt (eVar 5) (eK (.int 0))) (sRet (e2 gMod (e2 gMod (eVar 5) (eK (.int 1000000))) (eVar 2))) (sNil)))) (sNil))
  (sSet 3 (e2 gAdd (eVar 3) (e2 gMul (eK (.int 6553)) (e2 gDiv (eVar 1) (eB gLen [eVar 0])))))))) (sNil))
  (sSeq (sSet 3 (e2 gMod (e2 gAdd (e2 gMul (e2 gMod (eVar 3) (eK (.int 2147483563))) (eK (.int 69069))) (e2 gMul (eK (.int 104723)) (e2 gAdd (eVar 1) (eK (.int 1))))) (eK (.int 2147483563))))
  (sSeq (sSet 3 (e2 gMod (e2 gAdd (e2 gMul (eVar 3) (eVar 3)) (e2 gDiv (eVar 3) (eK (.int 3)))) (eK (.int 2147483399))))
  (sRet (e2 gMod (e2 gDiv (e2 gMod (e2 gAdd (e2 gMul (eVar 3) (eVar 3)) (e2 gDiv (eVar 3) (eK (.int 7)))) (eK (.int 2147483647))) (eK (.int 11))) (eVar 2))))))
def F__law_drawn : List PyData → R Cr := fnR 6 m__law_drawn
abbrev b__law_borders_0 : En → R Out := sSeq (sSet 6 (eF (e2 gAdd (e2 gAdd (e2 gIx (eVar 4) (eNeg (eK (.int 1)))) (eK (.int 1))) (eCall F__law_drawn [eVar 0, e2 gAdd (e2 gAdd (eVar 1) (eK (.int 1))) (eVar 5), eK (.int 8)]))))
  (sIf (t2 cLt (eVar 6) (eVar 3)) (sApp 4 (eVar 6)) (sNil))
def m__law_borders : En → R Out := sSeq (sSet 4 (eLst [eVar 2]))
  (sSeq (sFor (iRg1 (eCall F__law_drawn [eVar 0, eVar 1, eK (.int 4)])) (.nm 5) (b__law_borders_0))
  (sRet (eB gTuple [e2 gAdd (eVar 4) (eLst [eVar 3])])))
def F__law_borders : List PyData → R Cr := fnR 7 m__law_borders
def m__law_values : En → R Out := sRet (eB gSorted [eLc (iRg1 (eCall F__law_drawn [eVar 0, eVar 1, e2 gAdd (eVar 2) (eK (.int 1))])) (.nm 4) (tYes) (eCall F__law_drawn [eVar 0, e2 gAdd (e2 gAdd (eVar 1) (eK (.int 1))) (eVar 4), eVar 3]) [4]])
def F__law_values : List PyData → R Cr := fnR 5 m__law_values
def m__law_histogram : En → R Out := sSeq (sSet 2 (eCall F__law_borders [eVar 0, eVar 1, eCall F__law_drawn [eVar 0, e2 gAdd (eVar 1) (eK (.int 6)), eK (.int 3)], eK (.int 30)]))
  (sRet (eTup [eVar 2, eB gTuple [eLc (iRg1 (e2 gSub (eB gLen [eVar 2]) (eK (.int 1)))) (.nm 3) (tYes) (eCall F__law_drawn [eVar 0, e2 gAdd (e2 gAdd (eVar 1) (eK (.int 7))) (eVar 3), eK (.int 4)]) [3]]]))
def F__law_histogram : List PyData → R Cr := fnR 4 m__law_histogram
def m__law_badhist : En → R Out := sSeq (sSet 2 (eF (eLst [eK .none, eTup [], eTup [eTup [eK (.int 0), eK (.int 1)], eTup [eK (.int 1), eK (.int 2)]], eTup [eTup [eK (.int 0), eK (.int 1)], eTup [eK (.int 61)]], eTup [eTup [eK (.int 0), eK (.int 1)], eTup [eNeg (eK (.int 1))]], eTup [eTup [eK (.int 0)], eTup []], eTup [eTup [eK (.int 1), eK (.int 0)], eTup [eK (.int 1)]], eTup [eTup [eK (.int 0), eK (.int 1001)], eTup [eK (.int 1)]]])))
  (sSeq (sSet 2 (eF (e2 gAdd (eVar 2) (eLst [eLst [eTup [eK (.int 0), eK (.int 1)], eTup [eK (.int 1)]], eTup [eTup [eK (.int 0), eK (.int 1)], eLst [eK (.int 1)]], eTup [eTup [eK (.int 0), eK (.int 1)], eTup [eK (.bool true)]], eTup [eTup [eK (.int 0), eK (.int 1), eK (.int 2), eK (.int 3), eK (.int 4), eK (.int 5)], e2 gMul (eTup [eK (.int 50)]) (eK (.int 5))]]))))
  (sRet (e2 gIx (eVar 2) (eCall F__law_drawn [eVar 0, eVar 1, eK (.int 12)]))))
def F__law_badhist : List PyData → R Cr := fnR 3 m__law_badhist
def m__law_baddata : En → R Out := sRet (e2 gIx (eLst [eK .none, eTup [], eLst [eK (.int 1), eK (.int 0)], eLst [eNeg (eK (.int 1))], eLst [eK (.int 1000)], eLst [eK (.bool true)], eTup [eK (.int 1)], e2 gMul (eLst [eK (.int 0)]) (eK (.int 201)), eK (.str "1")]) (eCall F__law_drawn [eVar 0, eVar 1, eK (.int 9)]))
def F__law_baddata : List PyData → R Cr := fnR 2 m__law_baddata
abbrev b__law_text_0 : En → R Out := sSet 1 (e2 gAdd (e2 gAdd (e2 gAdd (e2 gAdd (eVar 1) (eK (.str " ["))) (eB gStr [eVar 3])) (eK (.str "] "))) (eB gStr [e2 gIx (e2 gIx (eVar 0) (eK (.int 0))) (e2 gAdd (eVar 2) (eK (.int 1)))]))
def m__law_text : En → R Out := sSeq (sSet 1 (eB gStr [e2 gIx (e2 gIx (eVar 0) (eK (.int 0))) (eK (.int 0))]))
  (sSeq (sFor (iEn (e2 gIx (eVar 0) (eK (.int 1)))) (.tp [.nm 2, .nm 3]) (b__law_text_0))
  (sRet (eVar 1)))
def F__law_text : List PyData → R Cr := fnR 4 m__law_text
abbrev b__law_groups_0 : En → R Out := sIf (tOr (t2 cEq (eVar 2) (eK (.int 0))) (t2 cNe (e2 gIx (eVar 0) (e2 gSub (eVar 2) (eK (.int 1)))) (eVar 3))) (sSeq (sSet 4 (eB gLen [eLc (iSeq (eVar 0)) (.nm 5) (t2 cEq (eVar 5) (eVar 3)) (eVar 5) [5]]))
  (sApp 1 (e2 gAdd (eB gStr [eVar 3]) (eIf (t2 cGt (eVar 4) (eK (.int 1))) (e2 gAdd (eK (.str "*")) (eB gStr [eVar 4])) (eK (.str "")))))) (sNil)
def m__law_groups : En → R Out := sSeq (sSet 1 (eLst []))
  (sSeq (sFor (iEn (eVar 0)) (.tp [.nm 2, .nm 3]) (b__law_groups_0))
  (sRet (eS1 gJoin (eK (.str " ")) (eVar 1))))
def F__law_groups : List PyData → R Cr := fnR 6 m__law_groups
def h__law_again : Addr → Str → En → R Out := fun a c => sRet (eIf (tE (eRaw 2 a (decide (c = ("ParseError" : Str))))) (eK .none) (eK (.str "another exception")))
def m__law_again : En → R Out := sTry 3 2 excs (sRet (eIf (t2 cEq (eVar 0) (eK (.int 0))) (eCall F__law_text [eCall F_parse_histogram [eVar 1]]) (eCall F__law_groups [eCall F_parse_data [eVar 1]]))) h__law_again
def F__law_again : List PyData → R Cr := fnR 3 m__law_again
def h__law_error : Addr → Str → En → R Out := fun a c => sRet (eM gIndex (eLst [eRaw 2 a (decide (c = ("InvalidHistogram" : Str))), eRaw 2 a (decide (c = ("InvalidData" : Str)))]) (eK (.bool true)))
def m__law_error : En → R Out := sSeq (sTry 3 2 excs (sDrop (eCallL [F_format_histogram, F_format_data] (eVar 0) [eVar 1])) h__law_error)
  (sRet (eK .none))
def F__law_error : List PyData → R Cr := fnR 3 m__law_error
def m__law_rejected : En → R Out := sSeq (sSet 0 (eF (eLst [eK .none, eK (.int 7), eK (.str ""), eK (.str "0"), eK (.str "0 [1]"), eK (.str "[1] 0"), eK (.str "0 [1] 0"), eK (.str "1 [1] 0"), eK (.str "0 [61] 9"), eK (.str "0 [01] 9")])))
  (sSeq (sSet 0 (eF (e2 gAdd (eVar 0) (eLst [eK (.str "00 [1] 9"), eK (.str "0 [1] 1001"), eK (.str "0 [1]  9")]))))
  (sSeq (sSet 0 (eF (e2 gAdd (eVar 0) (eLst [eK (.str "0 [1] 9 "), eK (.str " 0 [1] 9"), eK (.str "0 [-1] 9"), eK (.str "0 (1) 9"), eK (.str "0 [1 9"), eK (.str "0 [] 9"), eK (.str "0 1 9")]))))
  (sSeq (sSet 0 (eF (e2 gAdd (eVar 0) (eLst [eK (.str "0 [1] 9 [1]"), eTup [eK (.str "0 [1] 9")], eK (.str "0[1]9")]))))
  (sSeq (sIf (t2 cNe (eLc (iSeq (eVar 0)) (.nm 1) (t2 cIsNot (eCall F__law_again [eK (.int 0), eVar 1]) (eK .none)) (eVar 1) [1]) (eLst [])) (sRet (eK (.bool false))) (sNil))
  (sSeq (sSet 0 (eF (eLst [eK .none, eK (.int 7), eK (.str " "), eK (.str "3 3"), eK (.str "3*1"), eK (.str "3*0"), eK (.str "3*02"), eK (.str "03"), eK (.str "3 2"), eK (.str "1000"), eK (.str "-1"), eK (.str "3*"), eK (.str "*3")])))
  (sSeq (sSet 0 (eF (e2 gAdd (eVar 0) (eLst [eK (.str "3**2"), eK (.str "3*2*2"), eK (.str "3  4"), eK (.str "3 "), eK (.str " 3"), eK (.str "a")]))))
  (sSeq (sIf (t2 cNe (eLc (iSeq (e2 gAdd (eVar 0) (eLst [eK (.str "3*201"), eTup [eK (.str "3")], eK (.str "3,4")]))) (.nm 1) (t2 cIsNot (eCall F__law_again [eK (.int 1), eVar 1]) (eK .none)) (eVar 1) [1]) (eLst [])) (sRet (eK (.bool false))) (sNil))
  (sSeq (sIf (tNot (tAnd (t2 cEq (eCall F_parse_data [eK (.str "")]) (eLst [])) (t2 cEq (eCall F_parse_data [eK (.str "999*200")]) (e2 gMul (eLst [eK (.int 999)]) (eK (.int 200)))))) (sRet (eK (.bool false))) (sNil))
  (sRet (eT (t2 cEq (eCall F_parse_histogram [eK (.str "0 [60] 1000")]) (eTup [eTup [eK (.int 0), eK (.int 1000)], eTup [eK (.int 60)]]))))))))))))
def F__law_rejected : List PyData → R Cr := fnR 2 m__law_rejected
abbrev b_law_0 : En → R Out := sSeq (sSet 7 (e2 gAdd (eK (.int 60)) (e2 gMul (eK (.int 5)) (eVar 1))))
  (sSeq (sSet 8 (eCall F__law_drawn [eVar 0, eVar 7, eK (.int 2)]))
  (sSeq (sSet 9 (e2 gIx (eLst [eVar 5, eVar 6]) (eVar 8)))
  (sSeq (sPar 12 13 (eCall F__law_drawn [eVar 0, e2 gAdd (eVar 7) (eK (.int 1)), e2 gAdd (eB gLen [eVar 9]) (eK (.int 1))]) (e2 gIx (eK (.str " 0129[]*-")) (eCall F__law_drawn [eVar 0, e2 gAdd (eVar 7) (eK (.int 2)), eK (.int 9)])))
  (sSeq (sSet 10 (eIf (t2 cEq (eCall F__law_drawn [eVar 0, e2 gAdd (eVar 7) (eK (.int 3)), eK (.int 3)]) (eK (.int 0))) (eK (.str "")) (eVar 13)))
  (sSeq (sSet 11 (eF (e2 gAdd (e2 gAdd (eSlS (eVar 9) (pNo) (pSo (eVar 12))) (eVar 10)) (eSlS (eVar 9) (pSo (e2 gAdd (eVar 12) (eCall F__law_drawn [eVar 0, e2 gAdd (eVar 7) (eK (.int 4)), eK (.int 2)]))) (pNo)))))
  (sIf (t2 cNotIn (eCall F__law_again [eVar 8, eVar 11]) (eTup [eK .none, eVar 11])) (sRet (eK (.bool false))) (sNil)))))))
def m_law : En → R Out := sSeq (sPar 3 4 (eCall F__law_histogram [eVar 0, eK (.int 10)]) (eF (eCall F__law_values [eVar 0, eK (.int 30), eK (.int 8), eK (.int 12)])))
  (sSeq (sPar 5 6 (eCall F__law_text [eVar 3]) (eCall F__law_groups [eVar 4]))
  (sSeq (sIf (tOr (t2 cNe (eCall F_format_histogram [eVar 3]) (eVar 5)) (t2 cNe (eCall F_parse_histogram [eVar 5]) (eVar 3))) (sRet (eK (.bool false))) (sNil))
  (sSeq (sIf (tNot (tE (eCall0 F__law_rejected))) (sRet (eK (.bool false))) (sNil))
  (sSeq (sIf (tOr (t2 cNe (eCall F_format_data [eVar 4]) (eVar 6)) (t2 cNe (eCall F_parse_data [eVar 6]) (eVar 4))) (sRet (eK (.bool false))) (sNil))
  (sSeq (sFor (iRg1 (eK (.int 14))) (.nm 1) (b_law_0))
  (sSeq (sSet 2 (eF (eLst [eCall F__law_error [eK (.int 0), eCall F__law_badhist [eVar 0, eK (.int 1)]]])))
  (sSeq (sSet 2 (eF (e2 gAdd (eVar 2) (eLst [eCall F__law_error [eK (.int 1), eCall F__law_baddata [eVar 0, eK (.int 2)]]]))))
  (sRet (eT (t2 cEq (eVar 2) (eLst [eK (.int 0), eK (.int 1)])))))))))))
def F_law : List PyData → R Cr := fnR 14 m_law
theorem psi__law_again : ∀ (a : Addr) (c : Str), h__law_again a c (rawAt 3 2 a) = h__law_again 0 c (rawAt 3 2 0) := fun a c => by
  simp [h__law_again, rawAt, eRaw, x_var, eM, Rv.lst]
  first
    | (unfold gIndex
       split
       · split <;> rfl
       · rfl)
    | (split <;> rfl)
theorem psi__law_error : ∀ (a : Addr) (c : Str), h__law_error a c (rawAt 3 2 a) = h__law_error 0 c (rawAt 3 2 0) := fun a c => by
  simp [h__law_error, rawAt, eRaw, x_var, eM, Rv.lst]
  first
    | (unfold gIndex
       split
       · split <;> rfl
       · rfl)
    | (split <;> rfl)
end Py

set_option Elab.async false
set_option linter.all false
set_option maxRecDepth 100000
set_option maxHeartbeats 0
namespace Hd
open PySem PySem.Spec PyProof.Rows L2
def top (i : Nat) : Stmt := PySem.Challenge.pw_bucketdata_k68_formats.main.body.getD i (.Pass ⟨0, 0, 0, 0⟩)
abbrev s_is_int : Stmt := top 11
abbrev s_are_data : Stmt := top 12
abbrev s_are_borders : Stmt := top 13
abbrev s_is_histogram : Stmt := top 14
abbrev s_check_data : Stmt := top 15
abbrev s_check_histogram : Stmt := top 16
abbrev s_join_histogram : Stmt := top 21
abbrev s_format_histogram : Stmt := top 22
abbrev s_read_number : Stmt := top 23
abbrev s_parse_histogram : Stmt := top 24
abbrev s_join_data : Stmt := top 25
abbrev s_format_data : Stmt := top 26
abbrev s_read_group : Stmt := top 27
abbrev s_parse_data : Stmt := top 28
abbrev s__law_drawn : Stmt := top 30
abbrev s__law_borders : Stmt := top 31
abbrev s__law_values : Stmt := top 32
abbrev s__law_histogram : Stmt := top 33
abbrev s__law_badhist : Stmt := top 34
abbrev s__law_baddata : Stmt := top 35
abbrev s__law_text : Stmt := top 36
abbrev s__law_groups : Stmt := top 37
abbrev s__law_again : Stmt := top 38
abbrev s__law_error : Stmt := top 39
abbrev s__law_rejected : Stmt := top 40
abbrev s_law : Stmt := top 41
def d_is_int : He.DefD := ⟨("is_int", none), "is_int", "is_int", defArgs s_is_int, defBody s_is_int, defScope s_is_int, [], []⟩
def d_are_data : He.DefD := ⟨("are_data", none), "are_data", "are_data", defArgs s_are_data, defBody s_are_data, defScope s_are_data, [], []⟩
def d_are_borders : He.DefD := ⟨("are_borders", none), "are_borders", "are_borders", defArgs s_are_borders, defBody s_are_borders, defScope s_are_borders, [], []⟩
def d_is_histogram : He.DefD := ⟨("is_histogram", none), "is_histogram", "is_histogram", defArgs s_is_histogram, defBody s_is_histogram, defScope s_is_histogram, [], []⟩
def d_check_data : He.DefD := ⟨("check_data", none), "check_data", "check_data", defArgs s_check_data, defBody s_check_data, defScope s_check_data, [], []⟩
def d_check_histogram : He.DefD := ⟨("check_histogram", none), "check_histogram", "check_histogram", defArgs s_check_histogram, defBody s_check_histogram, defScope s_check_histogram, [], []⟩
def d_join_histogram : He.DefD := ⟨("join_histogram", none), "join_histogram", "join_histogram", defArgs s_join_histogram, defBody s_join_histogram, defScope s_join_histogram, [], []⟩
def d_format_histogram : He.DefD := ⟨("format_histogram", none), "format_histogram", "format_histogram", defArgs s_format_histogram, defBody s_format_histogram, defScope s_format_histogram, [], []⟩
def d_read_number : He.DefD := ⟨("read_number", none), "read_number", "read_number", defArgs s_read_number, defBody s_read_number, defScope s_read_number, [], []⟩
def d_parse_histogram : He.DefD := ⟨("parse_histogram", none), "parse_histogram", "parse_histogram", defArgs s_parse_histogram, defBody s_parse_histogram, defScope s_parse_histogram, [], []⟩
def d_join_data : He.DefD := ⟨("join_data", none), "join_data", "join_data", defArgs s_join_data, defBody s_join_data, defScope s_join_data, [], []⟩
def d_format_data : He.DefD := ⟨("format_data", none), "format_data", "format_data", defArgs s_format_data, defBody s_format_data, defScope s_format_data, [], []⟩
def d_read_group : He.DefD := ⟨("read_group", none), "read_group", "read_group", defArgs s_read_group, defBody s_read_group, defScope s_read_group, [], []⟩
def d_parse_data : He.DefD := ⟨("parse_data", none), "parse_data", "parse_data", defArgs s_parse_data, defBody s_parse_data, defScope s_parse_data, [], []⟩
def d__law_drawn : He.DefD := ⟨("_law_drawn", none), "_law_drawn", "_law_drawn", defArgs s__law_drawn, defBody s__law_drawn, defScope s__law_drawn, [], []⟩
def d__law_borders : He.DefD := ⟨("_law_borders", none), "_law_borders", "_law_borders", defArgs s__law_borders, defBody s__law_borders, defScope s__law_borders, [], []⟩
def d__law_values : He.DefD := ⟨("_law_values", none), "_law_values", "_law_values", defArgs s__law_values, defBody s__law_values, defScope s__law_values, [], []⟩
def d__law_histogram : He.DefD := ⟨("_law_histogram", none), "_law_histogram", "_law_histogram", defArgs s__law_histogram, defBody s__law_histogram, defScope s__law_histogram, [], []⟩
def d__law_badhist : He.DefD := ⟨("_law_badhist", none), "_law_badhist", "_law_badhist", defArgs s__law_badhist, defBody s__law_badhist, defScope s__law_badhist, [], []⟩
def d__law_baddata : He.DefD := ⟨("_law_baddata", none), "_law_baddata", "_law_baddata", defArgs s__law_baddata, defBody s__law_baddata, defScope s__law_baddata, [], []⟩
def d__law_text : He.DefD := ⟨("_law_text", none), "_law_text", "_law_text", defArgs s__law_text, defBody s__law_text, defScope s__law_text, [], []⟩
def d__law_groups : He.DefD := ⟨("_law_groups", none), "_law_groups", "_law_groups", defArgs s__law_groups, defBody s__law_groups, defScope s__law_groups, [], []⟩
def d__law_again : He.DefD := ⟨("_law_again", none), "_law_again", "_law_again", defArgs s__law_again, defBody s__law_again, defScope s__law_again, [], []⟩
def d__law_error : He.DefD := ⟨("_law_error", none), "_law_error", "_law_error", defArgs s__law_error, defBody s__law_error, defScope s__law_error, [], []⟩
def d__law_rejected : He.DefD := ⟨("_law_rejected", none), "_law_rejected", "_law_rejected", defArgs s__law_rejected, defBody s__law_rejected, defScope s__law_rejected, [], []⟩
def d_law : He.DefD := ⟨("law", none), "law", "law", defArgs s_law, defBody s_law, defScope s_law, [], []⟩
def fn : List He.DefD := ([d_is_int, d_are_data, d_are_borders, d_is_histogram, d_check_data, d_check_histogram, d_join_histogram, d_format_histogram, d_read_number, d_parse_histogram, d_join_data, d_format_data, d_read_group, d_parse_data, d__law_drawn, d__law_borders, d__law_values, d__law_histogram, d__law_badhist, d__law_baddata] : List He.DefD) ++ ([d__law_text, d__law_groups, d__law_again, d__law_error, d__law_rejected, d_law] : List He.DefD)
def fa : List He.Fa := ([.glo "is_int", .glo "are_data", .glo "are_borders", .glo "is_histogram", .glo "check_data", .glo "check_histogram", .glo "join_histogram", .glo "format_histogram", .glo "read_number", .glo "parse_histogram", .glo "join_data", .glo "format_data", .glo "read_group", .glo "parse_data", .glo "_law_drawn", .glo "_law_borders", .glo "_law_values", .glo "_law_histogram", .glo "_law_badhist", .glo "_law_baddata"] : List He.Fa) ++ ([.glo "_law_text", .glo "_law_groups", .glo "_law_again", .glo "_law_error", .glo "_law_rejected", .glo "law", .int "MAX_VALUE" 999, .int "MAX_DATA" 200, .int "MAX_BORDERS" 12, .int "MAX_BORDER" 1000, .int "MAX_COUNT" 60, .str "DIGITS" "0123456789", .int "MAX_DIGITS" 4, .str "TIMES" "*", .free "all", .free "bool", .free "enumerate", .free "int", .free "isinstance", .free "len"] : List He.Fa) ++ ([.free "list", .free "range", .free "set", .free "sorted", .free "str", .free "sum", .free "tuple", .free "zip", .glo "BucketError", .exc "BucketError", .glo "InvalidData", .exc "InvalidData", .glo "InvalidHistogram", .exc "InvalidHistogram", .glo "ParseError", .exc "ParseError"] : List He.Fa)
abbrev excs : List Str := Py.excs
abbrev asked : List Str := ["ParseError", "InvalidHistogram", "InvalidData"]
abbrev R : PySem.W.OpenRow := PySem.W.OpenLaw.row PySem.Challenge.rw_bucketdata_k68_formats
abbrev hk : PySem.W.Hook := Py.hookX 4 fa fn (Py.xfOf excs "BucketError" asked)
def ob (s : PySem.W.SharedT) : Py.AlX := Py.obsX 4 fa fn (Py.xfOf excs "BucketError" asked) (HandSHeadRun.getT s)
theorem ob_eq (s : PySem.W.SharedT) : ob s = hk.obs s.abs := Py.obsX_eq (HandSHeadRun.getT_eq s)
def loose : List Str := (["BucketError", "InvalidData", "InvalidHistogram", "ParseError", "MAX_VALUE", "MAX_DATA", "MAX_BORDERS", "MAX_BORDER", "MAX_COUNT", "is_int", "are_data", "are_borders", "is_histogram", "check_data", "check_histogram", "DIGITS", "MAX_DIGITS", "TIMES", "join_histogram", "format_histogram"] : List Str) ++ (["read_number", "parse_histogram", "join_data", "format_data", "read_group", "parse_data", "_law_drawn", "_law_borders", "_law_values", "_law_histogram", "_law_badhist", "_law_baddata", "_law_text", "_law_groups", "_law_again", "_law_error", "_law_rejected"] : List Str)
theorem run (w : World) : HandSHeadRun.RunEq R (PySem.W.view R.prog [41]) hk ob 6000 loose w := by
  intro os
  kernel_rfl
end Hd

set_option Elab.async false
set_option linter.all false
set_option maxRecDepth 100000
set_option autoImplicit false
set_option maxHeartbeats 4000000
/-! LibHist: borders and histograms. -/
namespace Py
open PySem L2
theorem cut_tail {α : Type} (l : List α) : cut l (some 1) none = l.tail := by
  cases l with
  | nil => rfl
  | cons a l =>
    have h : HT.sIx (a :: l).length 0 (some 1) = 1 := by simp [HT.sIx]
    unfold cut
    rw [h, HT.sIx_none]
    simp
theorem cut_init {α : Type} (l : List α) : cut l none (some (-1)) = l.dropLast := by
  have h : HT.sIx l.length l.length (some (-1)) = l.length - 1 := by
    show (if (-1 : Int) < 0 then ((-1 : Int) + (l.length : Int)).toNat else min (-1 : Int).toNat l.length) = _
    rw [if_pos (by decide)]
    omega
  unfold cut
  rw [h, HT.sIx_none, List.drop_zero, Nat.sub_zero, List.dropLast_eq_take]
theorem zipD_ints : ∀ a b : List Int, zipD (a.map PyData.int) (b.map PyData.int) = (a.zip b).map fun p => PyData.tuple [.int p.1, .int p.2]
  | [], _ => by simp [zipD]
  | _ :: _, [] => by simp [zipD]
  | a :: as, b :: bs => by simp [zipD, zipD_ints as bs]
structure VB (b : List Int) : Prop where
  lo : 2 ≤ b.length
  hi : b.length ≤ 12
  rg : ∀ x ∈ b, 0 ≤ x ∧ x ≤ 1000
  inc : b.Pairwise (· < ·)
theorem pw_zip {α : Type} {r : α → α → Prop} : ∀ {l : List α}, l.Pairwise r → ∀ p ∈ l.zip l.tail, r p.1 p.2
  | [], _, p, hp => by simp at hp
  | [a], _, p, hp => by simp at hp
  | a :: b :: l, h, p, hp => by
    obtain ⟨h1, h2⟩ := List.pairwise_cons.mp h
    rw [List.tail_cons, List.zip_cons_cons, List.mem_cons] at hp
    rcases hp with rfl | hp
    · exact h1 b (by simp)
    · exact pw_zip h2 p hp
structure VH (b c : List Int) : Prop where
  vb : VB b
  len : c.length + 1 = b.length
  rg : ∀ x ∈ c, 0 ≤ x ∧ x ≤ 60
  sum : c.sum ≤ 200
abbrev Hi (b c : List Int) : PyData := .tuple [Tu b, Tu c]
theorem is_int_eq (v l m : Int) : F_is_int [.int v, .int l, .int m] = .ok (.val (.bool (decide (l ≤ v ∧ v ≤ m)))) := by
  by_cases h : l ≤ v <;> simp [F_is_int, fnR, m_is_int, st0, x_var, h]
theorem borders_eq {b : List Int} (h : VB b) : F_are_borders [Tu b] = .ok (.val (.bool true)) := by
  have h1 : (2 : Int) ≤ (b.length : Int) := by have := h.lo; omega
  have h2 : (b.length : Int) ≤ 12 := by have := h.hi; omega
  have l1 : b.length ≤ 1000000 := by have := h.hi; omega
  have e1 : lcR (.nm 1) tYes (eCall F_is_int [eVar 1, eK (.int 0), eK (.int 1000)]) [some (.val (Tu b)), none, none, none] (b.map PyData.int) = .ok (b.map fun _ => PyData.bool true) := by
    refine lc_map _ _ b fun x hx => ⟨_, rfl, .val (.bool true), ?_, rfl⟩
    obtain ⟨r1, r2⟩ := h.rg x hx
    simp [x_var, is_int_eq, r1, r2]
  have e2 : lcR (.tp [.nm 2, .nm 3]) tYes (eT (t2 cLt (eVar 2) (eVar 3))) [some (.val (Tu b)), none, none, none] ((b.zip b.tail).map fun p => PyData.tuple [.int p.1, .int p.2]) = .ok ((b.zip b.tail).map fun _ => PyData.bool true) := by
    refine lc_map _ _ _ fun p hp => ⟨_, rfl, .val (.bool true), ?_, rfl⟩
    have := pw_zip h.inc p hp
    simp [x_var, this]
  have l2 : b.length ≤ 1000001 := by omega
  simp [F_are_borders, fnR, m_are_borders, st0, x_var, h1, h2, l1, wipeE, e1, gSl, cut_tail, ← List.map_tail, zipD_ints, e2, l2]
theorem VH.l {b c : List Int} (h : VH b c) : c.length ≤ 11 := by have := h.len; have := h.vb.hi; omega
theorem hist_eq {b c : List Int} (h : VH b c) : F_is_histogram [Hi b c] = .ok (.val (.bool true)) := by
  have l1 : c.length ≤ 1000000 := by have := h.l; omega
  have l2 : (c.length : Int) = (b.length : Int) - 1 := by have := h.len; omega
  have e1 : lcR (.nm 3) tYes (eCall F_is_int [eVar 3, eK (.int 0), eK (.int 60)]) [some (.val (Hi b c)), some (.val (Tu b)), some (.val (Tu c)), none] (c.map PyData.int) = .ok (c.map fun _ => PyData.bool true) := by
    refine lc_map _ _ c fun x hx => ⟨_, rfl, .val (.bool true), ?_, rfl⟩
    obtain ⟨r1, r2⟩ := h.rg x hx
    simp [x_var, is_int_eq, r1, r2]
  have hs := h.sum
  simp [F_is_histogram, fnR, m_is_histogram, st0, x_var, l1, l2, wipeE, e1, gIx, atI, ixN, x_ne, borders_eq h.vb, hs]
theorem check_eq {b c : List Int} (h : VH b c) : F_check_histogram [Hi b c] = .ok (.val .none) := by
  simp [F_check_histogram, fnR, m_check_histogram, st0, x_var, hist_eq h]
end Py

set_option Elab.async false
set_option linter.all false
set_option maxRecDepth 100000
set_option autoImplicit false
set_option maxHeartbeats 4000000
/-! LibRank: least and greatest data. -/
namespace Py
open PySem L2
def fill (ps : List (Int × Int)) : List Int := ps.flatMap fun p => List.replicate p.2.toNat p.1
def low (b c : List Int) : List Int := fill (b.dropLast.zip c)
def high (b c : List Int) : List Int := fill ((b.tail.map (· - 1)).zip c)
theorem fill_cons (p : Int × Int) (ps : List (Int × Int)) : fill (p :: ps) = List.replicate p.2.toNat p.1 ++ fill ps := by simp [fill]
theorem fill_loop {h v : Option Cl} : ∀ (ps : List (Int × Int)) (acc : List Int) (x y : Option Cl), (∀ p ∈ ps, 0 ≤ p.2 ∧ p.2 ≤ 60) → acc.length + 60 * ps.length ≤ 1000000 →
    ∃ x' y', forR (.tp [.nm 3, .nm 4]) (sExt 2 (e2 gMul (eLst [eVar 3]) (eVar 4))) (ps.map fun p => PyData.tuple [.int p.1, .int p.2]) [h, v, some (.own (acc.map PyData.int)), x, y] = .ok (.nx [h, v, some (.own ((acc ++ fill ps).map PyData.int)), x', y'])
  | [], acc, x, y, _, _ => ⟨x, y, by simp [forR, fill]⟩
  | p :: ps, acc, x, y, hp, hl => by
    obtain ⟨h1, h2⟩ := hp p (by simp)
    rw [List.length_cons] at hl
    have hr : p.2.toNat ≤ 60 := by omega
    obtain ⟨x', y', ih⟩ := fill_loop (h := h) (v := v) ps (acc ++ List.replicate p.2.toNat p.1) (some (.val (.int p.1))) (some (.val (.int p.2))) (fun q hq => hp q (List.mem_cons_of_mem _ hq)) (by rw [List.length_append, List.length_replicate]; omega)
    refine ⟨x', y', ?_⟩
    rw [fill_cons, ← List.append_assoc, ← ih]
    have c1 : okK p.2 := okK_of (by omega) (by omega)
    have c2 : acc.length + p.2.toNat ≤ 1000000 := by omega
    rw [List.map_cons, forR]
    simp [sExt, ownAt, x_var, c1, c2, whK]
theorem fill_len : ∀ {ps : List (Int × Int)}, (∀ p ∈ ps, 0 ≤ p.2) → ((fill ps).length : Int) = (ps.map (·.2)).sum
  | [], _ => by simp [fill]
  | p :: ps, h => by
    have h1 := h p (by simp)
    have h2 := fill_len (ps := ps) fun q hq => h q (List.mem_cons_of_mem _ hq)
    rw [fill_cons, List.length_append, List.length_replicate, List.map_cons, List.sum_cons, Int.natCast_add, h2]
    omega
theorem zip_snd {l c : List Int} (h : c.length ≤ l.length) : (l.zip c).map (·.2) = c := by
  rw [← List.unzip_snd, List.unzip_zip_right h]
theorem low_len {b c : List Int} (h : VH b c) : ((low b c).length : Int) = c.sum := by
  unfold low
  rw [fill_len (fun p hp => (h.rg p.2 (List.of_mem_zip hp).2).1), zip_snd (by rw [List.length_dropLast]; have := h.len; omega)]
theorem high_len {b c : List Int} (h : VH b c) : ((high b c).length : Int) = c.sum := by
  unfold high
  rw [fill_len (fun p hp => (h.rg p.2 (List.of_mem_zip hp).2).1), zip_snd (by rw [List.length_map, List.length_tail]; have := h.len; omega)]
theorem filter_lc {T : En → R Bool} {φ : En → R Rv} {ρ : En} {i : Nat} (p : Int → Bool) (l : List Int) (hT : ∀ x, T (ρ.set i (some (.val (.int x)))) = .ok (p x)) (hφ : ∀ x, φ (ρ.set i (some (.val (.int x)))) = .ok (.val (.int x))) : lcR (.nm i) T φ ρ (l.map PyData.int) = .ok ((l.filter p).map PyData.int) :=
  lc_filter _ _ p l fun x _ => ⟨_, rfl, hT x, fun _ => ⟨_, hφ x, rfl⟩⟩
def below (l : List Int) (v : Int) : Int := ((l.filter fun x => decide (x < v)).length : Nat)
end Py

set_option Elab.async false
set_option linter.all false
set_option maxRecDepth 100000
set_option autoImplicit false
set_option maxHeartbeats 4000000
/-! LibBlock: data by buckets; sorted lists. -/
namespace Py
open PySem L2
def Blocks : List Int → List Int → List (List Int) → Prop
  | [_], [], [] => True
  | x :: y :: b, k :: c, l :: ls => ((l.length : Int) = k ∧ ∀ v ∈ l, x ≤ v ∧ v < y) ∧ Blocks (y :: b) c ls
  | _, _, _ => False
def lowB : List Int → List Int → List (List Int)
  | x :: y :: b, k :: c => List.replicate k.toNat x :: lowB (y :: b) c
  | _, _ => []
def highB : List Int → List Int → List (List Int)
  | x :: y :: b, k :: c => List.replicate k.toNat (y - 1) :: highB (y :: b) c
  | _, _ => []
theorem low_cons (x y k : Int) (b c : List Int) : low (x :: y :: b) (k :: c) = List.replicate k.toNat x ++ low (y :: b) c := by
  unfold low
  rw [List.dropLast_cons₂, List.zip_cons_cons, fill_cons]
theorem high_cons (x y k : Int) (b c : List Int) : high (x :: y :: b) (k :: c) = List.replicate k.toNat (y - 1) ++ high (y :: b) c := by
  unfold high
  rw [List.tail_cons, List.map_cons, List.zip_cons_cons, fill_cons]
  rfl
theorem low_nil (b : List Int) : low b [] = [] := by simp [low, fill]
theorem high_nil (b : List Int) : high b [] = [] := by simp [high, fill]
theorem low_flat : ∀ (b c : List Int), c.length + 1 = b.length → low b c = (lowB b c).flatten
  | [], c, h => by simp at h
  | [x], c, h => by
    have : c = [] := List.eq_nil_of_length_eq_zero (by simpa using h)
    subst this
    simp [low_nil, lowB]
  | x :: y :: b, [], h => by simp at h
  | x :: y :: b, k :: c, h => by rw [low_cons, lowB, List.flatten_cons, low_flat (y :: b) c (by simpa using h)]
theorem high_flat : ∀ (b c : List Int), c.length + 1 = b.length → high b c = (highB b c).flatten
  | [], c, h => by simp at h
  | [x], c, h => by
    have : c = [] := List.eq_nil_of_length_eq_zero (by simpa using h)
    subst this
    simp [high_nil, highB]
  | x :: y :: b, [], h => by simp at h
  | x :: y :: b, k :: c, h => by rw [high_cons, highB, List.flatten_cons, high_flat (y :: b) c (by simpa using h)]
theorem low_blocks : ∀ {b c : List Int}, c.length + 1 = b.length → b.Pairwise (· < ·) → (∀ x ∈ c, 0 ≤ x) → Blocks b c (lowB b c)
  | [], c, h, _, _ => by simp at h
  | [x], c, h, _, _ => by
    have : c = [] := List.eq_nil_of_length_eq_zero (by simpa using h)
    subst this
    simp [Blocks, lowB]
  | x :: y :: b, [], h, _, _ => by simp at h
  | x :: y :: b, k :: c, h, p, q => by
    obtain ⟨p1, p2⟩ := List.pairwise_cons.mp p
    have := p1 y (by simp)
    have := q k (by simp)
    refine ⟨⟨by rw [List.length_replicate]; omega, fun v hv => ?_⟩, low_blocks (by simpa using h) p2 fun z hz => q z (List.mem_cons_of_mem _ hz)⟩
    rw [(List.mem_replicate.mp hv).2]
    omega
theorem high_blocks : ∀ {b c : List Int}, c.length + 1 = b.length → b.Pairwise (· < ·) → (∀ x ∈ c, 0 ≤ x) → Blocks b c (highB b c)
  | [], c, h, _, _ => by simp at h
  | [x], c, h, _, _ => by
    have : c = [] := List.eq_nil_of_length_eq_zero (by simpa using h)
    subst this
    simp [Blocks, highB]
  | x :: y :: b, [], h, _, _ => by simp at h
  | x :: y :: b, k :: c, h, p, q => by
    obtain ⟨p1, p2⟩ := List.pairwise_cons.mp p
    have := p1 y (by simp)
    have := q k (by simp)
    refine ⟨⟨by rw [List.length_replicate]; omega, fun v hv => ?_⟩, high_blocks (by simpa using h) p2 fun z hz => q z (List.mem_cons_of_mem _ hz)⟩
    rw [(List.mem_replicate.mp hv).2]
    omega
theorem Blocks.ge : ∀ {b c : List Int} {ls : List (List Int)} {x : Int}, Blocks (x :: b) c ls → (x :: b).Pairwise (· < ·) → ∀ v ∈ ls.flatten, x ≤ v
  | [], [], [], x, _, _, v, hv => by simp at hv
  | y :: b, k :: c, l :: ls, x, h, p, v, hv => by
    rw [List.flatten_cons] at hv
    obtain ⟨p1, p2⟩ := List.pairwise_cons.mp p
    rcases List.mem_append.mp hv with hv | hv
    · exact (h.1.2 v hv).1
    · have := Blocks.ge h.2 p2 v hv
      have := p1 y (by simp)
      omega
  | [], _ :: _, _, x, h, _, _, _ => by simp [Blocks] at h
  | [], [], _ :: _, x, h, _, _, _ => by simp [Blocks] at h
  | _ :: _, [], _, x, h, _, _, _ => by simp [Blocks] at h
  | _ :: _, _ :: _, [], x, h, _, _, _ => by simp [Blocks] at h
def inside (l : List Int) (p : Int × Int) : Int := ((l.filter fun v => decide (p.1 ≤ v) && decide (v < p.2)).length : Nat)
theorem Blocks.counts : ∀ {b c : List Int} {ls : List (List Int)} (pre : List Int) {x : Int}, Blocks (x :: b) c ls → (x :: b).Pairwise (· < ·) → (∀ v ∈ pre, v < x) → ((x :: b).zip b).map (inside (pre ++ ls.flatten)) = c
  | [], [], [], pre, x, _, _, _ => by simp
  | y :: b, k :: c, l :: ls, pre, x, h, p, hp => by
    obtain ⟨p1, p2⟩ := List.pairwise_cons.mp p
    have hxy := p1 y (by simp)
    obtain ⟨⟨hl, hv⟩, hr⟩ := h
    have ih := Blocks.counts (pre ++ l) hr p2 fun v hv' => by
      rcases List.mem_append.mp hv' with h | h
      · have := hp v h; omega
      · exact (hv v h).2
    rw [List.append_assoc] at ih
    rw [List.zip_cons_cons, List.map_cons, List.flatten_cons, ih]
    congr 1
    unfold inside
    have e1 : pre.filter (fun v => decide (x ≤ v) && decide (v < y)) = [] := List.filter_eq_nil_iff.mpr fun v hv' => by
      have := hp v hv'
      simp
      omega
    have e2 : l.filter (fun v => decide (x ≤ v) && decide (v < y)) = l := List.filter_eq_self.mpr fun v hv' => by
      have := hv v hv'
      simp [this]
    have e3 : ls.flatten.filter (fun v => decide (x ≤ v) && decide (v < y)) = [] := List.filter_eq_nil_iff.mpr fun v hv' => by
      have := Blocks.ge hr p2 v hv'
      simp
      omega
    rw [List.filter_append, List.filter_append, e1, e2, e3]
    simpa using hl
  | [], _ :: _, _, pre, x, h, _, _ => by simp [Blocks] at h
  | [], [], _ :: _, pre, x, h, _, _ => by simp [Blocks] at h
  | _ :: _, [], _, pre, x, h, _, _ => by simp [Blocks] at h
  | _ :: _, _ :: _, [], pre, x, h, _, _ => by simp [Blocks] at h
def cnts (b data : List Int) : List Int := (b.zip b.tail).map (inside data)
theorem inside_perm {l m : List Int} (h : l.Perm m) (p : Int × Int) : inside l p = inside m p := by
  unfold inside
  rw [(h.filter _).length_eq]
theorem cnts_perm {b l m : List Int} (h : l.Perm m) : cnts b l = cnts b m := List.map_congr_left fun p _ => inside_perm h p
theorem Blocks.cnts {b c : List Int} {ls : List (List Int)} (h : Blocks b c ls) (p : b.Pairwise (· < ·)) : Py.cnts b ls.flatten = c := by
  cases b with
  | nil => cases c <;> cases ls <;> simp [Blocks] at h
  | cons x b => exact Blocks.counts [] h p (by simp)
theorem Blocks.len : ∀ {b c : List Int} {ls : List (List Int)}, Blocks b c ls → (ls.flatten.length : Int) = c.sum
  | [_], [], [], _ => by simp
  | x :: y :: b, k :: c, l :: ls, h => by
    have := Blocks.len h.2
    have := h.1.1
    rw [List.flatten_cons, List.length_append, List.sum_cons, Int.natCast_add]
    omega
  | [], _, _, h => by simp [Blocks] at h
  | [_], _ :: _, _, h => by simp [Blocks] at h
  | [_], [], _ :: _, h => by simp [Blocks] at h
  | _ :: _ :: _, [], _, h => by simp [Blocks] at h
  | _ :: _ :: _, _ :: _, [], h => by simp [Blocks] at h
/-! sorted -/
def srt (l : List Int) : List Int := l.mergeSort fun a b => decide (a ≤ b)
theorem srt_perm (l : List Int) : (srt l).Perm l := List.mergeSort_perm l _
theorem srt_le (l : List Int) : (srt l).Pairwise (· ≤ ·) := by
  have := List.pairwise_mergeSort (le := fun a b : Int => decide (a ≤ b)) (fun a b c h1 h2 => by simp at h1 h2 ⊢; omega) (fun a b => by simp; omega) l
  exact this.imp fun h => by simpa using h
theorem srt_self {l : List Int} (h : l.Pairwise (· ≤ ·)) : srt l = l := List.mergeSort_of_pairwise (h.imp fun h => by simpa using h)
theorem le_unique : ∀ {l m : List Int}, l.Pairwise (· ≤ ·) → m.Pairwise (· ≤ ·) → l.Perm m → l = m
  | [], m, _, _, h => (List.nil_perm.mp h).symm
  | a :: l, [], _, _, h => by simp at h
  | a :: l, b :: m, p, q, h => by
    obtain ⟨p1, p2⟩ := List.pairwise_cons.mp p
    obtain ⟨q1, q2⟩ := List.pairwise_cons.mp q
    have hab : a = b := by
      have h1 : a ∈ b :: m := h.mem_iff.mp (by simp)
      have h2 : b ∈ a :: l := h.mem_iff.mpr (by simp)
      rcases List.mem_cons.mp h1 with e | e
      · exact e
      · rcases List.mem_cons.mp h2 with e' | e'
        · exact e'.symm
        · have := q1 a e
          have := p1 b e'
          omega
    subst hab
    rw [le_unique p2 q2 (List.Perm.cons_inv h)]
theorem sortD_ints (l : List Int) : sortD (l.map PyData.int) = (srt l).map PyData.int := by
  unfold sortD srt
  rw [List.map_mergeSort]
  intro a _ b _
  have := congrFun (congrFun (PySem.W.dataLe_int (fun d : Int => d)) a) b
  exact this.symm
theorem sortB_ints (l : List Int) : sortB (l.map PyData.int) = true := by
  unfold sortB
  simp [List.all_map, PySem.W.alike]
theorem x_sortL (l : List Int) (h : l.length ≤ 1000000) : gSorted [.val (.list (l.map PyData.int))] = .ok (.own ((srt l).map PyData.int)) := by simp [gSorted, sortB_ints, sortD_ints, h]
theorem x_sortBr (i : Nat) (l : List Int) (h : l.length ≤ 1000000) : gSorted [.bor i (l.map PyData.int)] = .ok (.own ((srt l).map PyData.int)) := by simp [gSorted, sortB_ints, sortD_ints, h]
theorem Blocks.sorted : ∀ {b c : List Int} {ls : List (List Int)}, Blocks b c ls → b.Pairwise (· < ·) → (∀ l ∈ ls, l.Pairwise (· ≤ ·)) → ls.flatten.Pairwise (· ≤ ·)
  | [_], [], [], _, _, _ => by simp
  | x :: y :: b, k :: c, l :: ls, h, p, q => by
    obtain ⟨p1, p2⟩ := List.pairwise_cons.mp p
    rw [List.flatten_cons]
    refine List.pairwise_append.mpr ⟨q l (by simp), Blocks.sorted h.2 p2 fun m hm => q m (List.mem_cons_of_mem _ hm), fun u hu v hv => ?_⟩
    have := (h.1.2 u hu).2
    have := Blocks.ge h.2 p2 v hv
    omega
  | [], _, _, h, _, _ => by simp [Blocks] at h
  | [_], _ :: _, _, h, _, _ => by simp [Blocks] at h
  | [_], [], _ :: _, h, _, _ => by simp [Blocks] at h
  | _ :: _ :: _, [], _, h, _, _ => by simp [Blocks] at h
  | _ :: _ :: _, _ :: _, [], h, _, _ => by simp [Blocks] at h
theorem Blocks.srt : ∀ {b c : List Int} {ls : List (List Int)}, Blocks b c ls → Blocks b c (ls.map Py.srt)
  | [_], [], [], _ => by simp [Blocks]
  | x :: y :: b, k :: c, l :: ls, h => by
    refine ⟨⟨by rw [(srt_perm l).length_eq]; exact h.1.1, fun v hv => h.1.2 v ((srt_perm l).mem_iff.mp hv)⟩, Blocks.srt h.2⟩
  | [], _, _, h => by simp [Blocks] at h
  | [_], _ :: _, _, h => by simp [Blocks] at h
  | [_], [], _ :: _, h => by simp [Blocks] at h
  | _ :: _ :: _, [], _, h => by simp [Blocks] at h
  | _ :: _ :: _, _ :: _, [], h => by simp [Blocks] at h
theorem flat_perm : ∀ ls : List (List Int), (ls.map srt).flatten.Perm ls.flatten
  | [] => by simp
  | l :: ls => by
    rw [List.map_cons, List.flatten_cons, List.flatten_cons]
    exact List.Perm.append (srt_perm l) (flat_perm ls)
theorem Blocks.srt_flat {b c : List Int} {ls : List (List Int)} (h : Blocks b c ls) (p : b.Pairwise (· < ·)) : Py.srt ls.flatten = (ls.map Py.srt).flatten := by
  refine le_unique (srt_le _) (h.srt.sorted p fun l hl => ?_) ((srt_perm _).trans (flat_perm ls).symm)
  obtain ⟨m, _, rfl⟩ := List.mem_map.mp hl
  exact srt_le m
theorem rep_sorted (n : Nat) (x : Int) : (List.replicate n x).Pairwise (· ≤ ·) := List.pairwise_replicate.mpr (.inr (Int.le_refl x))
theorem lowB_mem : ∀ {b c : List Int} {l : List Int}, l ∈ lowB b c → l.Pairwise (· ≤ ·)
  | [], _, _, h => by simp [lowB] at h
  | [_], _, _, h => by simp [lowB] at h
  | _ :: _ :: _, [], _, h => by simp [lowB] at h
  | x :: y :: b, k :: c, l, h => by
    rw [lowB, List.mem_cons] at h
    rcases h with rfl | h
    · exact rep_sorted _ _
    · exact lowB_mem h
theorem highB_mem : ∀ {b c : List Int} {l : List Int}, l ∈ highB b c → l.Pairwise (· ≤ ·)
  | [], _, _, h => by simp [highB] at h
  | [_], _, _, h => by simp [highB] at h
  | _ :: _ :: _, [], _, h => by simp [highB] at h
  | x :: y :: b, k :: c, l, h => by
    rw [highB, List.mem_cons] at h
    rcases h with rfl | h
    · exact rep_sorted _ _
    · exact highB_mem h
section
variable {b c : List Int} (h : VH b c)
include h
theorem VH.lowB : Blocks b c (lowB b c) := low_blocks h.len h.vb.inc fun x hx => (h.rg x hx).1
theorem VH.highB : Blocks b c (highB b c) := high_blocks h.len h.vb.inc fun x hx => (h.rg x hx).1
theorem low_sorted : (low b c).Pairwise (· ≤ ·) := by
  rw [low_flat b c h.len]
  exact h.lowB.sorted h.vb.inc fun l hl => lowB_mem hl
theorem high_sorted : (high b c).Pairwise (· ≤ ·) := by
  rw [high_flat b c h.len]
  exact h.highB.sorted h.vb.inc fun l hl => highB_mem hl
theorem low_cnts : cnts b (low b c) = c := by
  rw [low_flat b c h.len]
  exact h.lowB.cnts h.vb.inc
theorem high_cnts : cnts b (high b c) = c := by
  rw [high_flat b c h.len]
  exact h.highB.cnts h.vb.inc
end
theorem Blocks.between : ∀ {b c : List Int} {ls : List (List Int)}, Blocks b c ls → ∀ t ∈ (ls.flatten.zip ((Py.lowB b c).flatten.zip (Py.highB b c).flatten)), t.2.1 ≤ t.1 ∧ t.1 ≤ t.2.2
  | [_], [], [], _, t, ht => by simp at ht
  | x :: y :: b, k :: c, l :: ls, h, t, ht => by
    have hk : l.length = k.toNat := by have := h.1.1; omega
    rw [Py.lowB, Py.highB, List.flatten_cons, List.flatten_cons, List.flatten_cons, List.zip_append (by simp), List.zip_append (by simp [hk])] at ht
    rcases List.mem_append.mp ht with ht | ht
    · obtain ⟨h1, h2⟩ := List.of_mem_zip (a := t.1) (b := t.2) ht
      obtain ⟨h3, h4⟩ := List.of_mem_zip (a := t.2.1) (b := t.2.2) h2
      have := h.1.2 _ h1
      rw [(List.mem_replicate.mp h3).2, (List.mem_replicate.mp h4).2]
      omega
    · exact Blocks.between h.2 t ht
  | [], _, _, h, _, _ => by simp [Blocks] at h
  | [_], _ :: _, _, h, _, _ => by simp [Blocks] at h
  | [_], [], _ :: _, h, _, _ => by simp [Blocks] at h
  | _ :: _ :: _, [], _, h, _, _ => by simp [Blocks] at h
  | _ :: _ :: _, _ :: _, [], h, _, _ => by simp [Blocks] at h
theorem below_app (l m : List Int) (v : Int) : below (l ++ m) v = below l v + below m v := by simp [below]
theorem below_rep (n : Nat) (x v : Int) : below (List.replicate n x) v = if x < v then (n : Int) else 0 := by
  unfold below
  split <;> simp [List.filter_replicate, *]
theorem below_le (l : List Int) (v : Int) : 0 ≤ below l v ∧ below l v ≤ l.length := by
  unfold below
  have := List.length_filter_le (fun x : Int => decide (x < v)) l
  omega
theorem below_none {l : List Int} {v : Int} (h : ∀ x ∈ l, ¬ x < v) : below l v = 0 := by
  unfold below
  rw [List.filter_eq_nil_iff.mpr fun x hx => by simpa using h x hx]
  rfl
theorem below_all {l : List Int} {v : Int} (h : ∀ x ∈ l, x < v) : below l v = l.length := by
  unfold below
  rw [List.filter_eq_self.mpr fun x hx => by simpa using h x hx]
theorem below_perm {l m : List Int} (h : l.Perm m) (v : Int) : below l v = below m v := by
  unfold below
  rw [(h.filter _).length_eq]
theorem Blocks.below : ∀ {b c : List Int} {ls : List (List Int)}, Blocks b c ls → ∀ v, below (Py.highB b c).flatten v ≤ Py.below ls.flatten v ∧ Py.below ls.flatten v ≤ Py.below (Py.lowB b c).flatten v
  | [_], [], [], _, v => by simp [Py.lowB, Py.highB]
  | x :: y :: b, k :: c, l :: ls, h, v => by
    have ih := Blocks.below h.2 v
    have hk := h.1.1
    rw [Py.lowB, Py.highB, List.flatten_cons, List.flatten_cons, List.flatten_cons, below_app, below_app, below_app, below_rep, below_rep]
    have hl := below_le l v
    constructor
    · split
      · rename_i hy
        rw [below_all (l := l) fun z hz => by have := h.1.2 z hz; omega]
        omega
      · omega
    · split
      · omega
      · rename_i hx
        rw [below_none (l := l) fun z hz => by have := h.1.2 z hz; omega]
        omega
  | [], _, _, h, _ => by simp [Blocks] at h
  | [_], _ :: _, _, h, _ => by simp [Blocks] at h
  | [_], [], _ :: _, h, _ => by simp [Blocks] at h
  | _ :: _ :: _, [], _, h, _ => by simp [Blocks] at h
  | _ :: _ :: _, _ :: _, [], h, _ => by simp [Blocks] at h
end Py

set_option Elab.async false
set_option linter.all false
set_option maxRecDepth 100000
set_option autoImplicit false
set_option maxHeartbeats 4000000
/-! LibPick: what is drawn of a script. -/
namespace Py
open PySem L2
abbrev tPick : En → R Bool := tAnd (t2 cGt (eVar 5) (eK (.int 0))) (t2 cGt (eVar 6) (eK (.int 0)))
abbrev bPick : En → R Out := sPar 5 6 (e2 gDiv (eVar 5) (eK (.int 840))) (e2 gSub (eVar 6) (eK (.int 1)))
theorem pick_loop {a b c d e : Option Cl} : ∀ (n : Nat) (rest again : Int), again ≤ n → ∃ rest' again', whR tPick bPick (n + 1) [a, b, c, d, e, some (.val (.int rest)), some (.val (.int again))] = .ok (.nx [a, b, c, d, e, some (.val (.int rest')), some (.val (.int again'))])
  | n, rest, again, h => by
    by_cases h1 : 0 < rest
    · by_cases h2 : 0 < again
      · cases n with
        | zero => omega
        | succ n =>
          obtain ⟨r', g', ih⟩ := pick_loop (a := a) (b := b) (c := c) (d := d) (e := e) n (rest / 840) (again - 1) (by omega)
          refine ⟨r', g', ?_⟩
          rw [whR]
          simp [x_var, h1, h2, whK, ih]
      · refine ⟨rest, again, ?_⟩
        rw [whR]
        simp [x_var, h1, h2]
    · refine ⟨rest, again, ?_⟩
      rw [whR]
      simp [x_var, h1]
def cellOf (ns : List Int) (k : Int) : Int := if ns = [] then 0 else nth ns (k % ns.length)
theorem cell_eq (ns : List Int) (k : Int) (ρ : En) : eIf (t2 cNe (eVar 0) (eLst [])) (e2 gIx (eVar 0) (e2 gMod (eVar 1) (eB gLen [eVar 0]))) (eK (.int 0)) (some (.val (Li ns)) :: some (.val (.int k)) :: ρ) = .ok (.val (.int (cellOf ns k))) := by
  unfold cellOf
  by_cases h : ns = []
  · subst h
    simp [x_var, x_ne]
  · have h0 : 0 < ns.length := List.length_pos_iff.mpr h
    have h1 : 0 ≤ k % (ns.length : Int) := Int.emod_nonneg _ (by omega)
    have h2 : k % (ns.length : Int) < (ns.length : Int) := Int.emod_lt_of_pos _ (by omega)
    simp [x_var, x_ne, h0, h, x_ixL _ _ h1 h2]
theorem rg_get {lo : Int} {n i : Nat} {d : PyData} (h : (rangeD lo n)[i]? = some d) : d = .int (lo + i) ∧ i < n := by
  unfold rangeD at h
  rw [List.getElem?_map] at h
  cases q : (List.range n)[i]? with
  | none => rw [q] at h; cases h
  | some k =>
    rw [q] at h
    obtain ⟨h1, h2⟩ := List.getElem?_eq_some_iff.mp q
    rw [List.getElem_range] at h2
    cases h
    subst h2
    exact ⟨rfl, by simpa using h1⟩
theorem rg0_get {n i : Nat} {d : PyData} (h : (rangeD 0 n)[i]? = some d) : d = .int i ∧ i < n := by
  have := rg_get h
  rwa [Int.zero_add] at this
theorem rangeD0 (n : Nat) : rangeD 0 n = (List.range n).map fun k : Nat => PyData.int (k : Int) := by simp [rangeD]
theorem x_nth {l : List Int} {i : Int} (h0 : 0 ≤ i) (h1 : i < l.length) : nth l i ∈ l := by
  unfold nth
  rw [List.getElem?_eq_getElem (show i.toNat < l.length by omega)]
  exact List.getElem_mem _
theorem len_two {l : List Int} {a b : Int} (h1 : a ∈ l) (h2 : b ∈ l) (h : a ≠ b) : 2 ≤ l.length := by
  match l with
  | [] => cases h1
  | [c] => simp at h1 h2; omega
  | c :: d :: l => simp
theorem insU_len (a : Int) : ∀ l, (insU a l).length ≤ l.length + 1
  | [] => by simp [insU]
  | b :: bs => by
    rw [insU]
    split
    · simp
    · split
      · simp
      · have := insU_len a bs
        simp only [List.length_cons]
        omega
theorem sortU_len : ∀ l, (sortU l).length ≤ l.length
  | [] => by simp [sortU]
  | a :: as => by
    have := sortU_len as
    have := insU_len a (sortU as)
    rw [sortU, List.length_cons]
    omega
theorem ix_tup (l : List PyData) (m : List Int) (h : l = m.map PyData.int) (i : Int) (h0 : 0 ≤ i) (h1 : i < m.length) : gIx (.val (.tuple l)) (.val (.int i)) = .ok (.val (.int (nth m i))) := by subst h; exact x_ixT m i h0 h1
theorem sum_le {m : Int} : ∀ {c : List Int}, (∀ x ∈ c, 0 ≤ x ∧ x ≤ m) → 0 ≤ c.sum ∧ c.sum ≤ m * c.length
  | [], _ => by simp
  | a :: c, h => by
    have h1 := h a (by simp)
    have h2 := sum_le (c := c) fun x hx => h x (List.mem_cons_of_mem _ hx)
    rw [List.sum_cons, List.length_cons]
    have : m * ((c.length + 1 : Nat) : Int) = m * c.length + m := by rw [Int.natCast_add, Int.mul_add]; simp
    omega
end Py

set_option Elab.async false
set_option linter.all false
set_option maxRecDepth 100000
set_option autoImplicit false
set_option maxHeartbeats 4000000
/-! LibLawA: the laws' own helpers. -/
namespace Py
open PySem L2
theorem fill_app (a b : List (Int × Int)) : fill (a ++ b) = fill a ++ fill b := by simp [fill]
theorem fill_take {ps : List (Int × Int)} {i : Nat} {p : Int × Int} (h : ps[i]? = some p) : fill (ps.take (i + 1)) = fill (ps.take i) ++ List.replicate p.2.toNat p.1 := by
  rw [List.take_add_one, h, fill_app]
  simp [fill]
theorem nth_get {l : List Int} {i : Nat} (h : i < l.length) : l[i]? = some (nth l (i : Int)) := by
  rw [nth_nat, List.getElem?_eq_getElem h]
  rfl
theorem nth_mem {l : List Int} {i : Nat} (h : i < l.length) : nth l (i : Int) ∈ l := List.mem_of_getElem? (nth_get h)
theorem low_pair {b c : List Int} {i : Nat} (h : i < c.length) (hb : c.length + 1 = b.length) : (b.dropLast.zip c)[i]? = some (nth b i, nth c i) := by
  rw [List.getElem?_zip_eq_some, List.getElem?_dropLast, if_pos (by omega)]
  exact ⟨nth_get (by omega), nth_get h⟩
theorem high_pair {b c : List Int} {i : Nat} (h : i < c.length) (hb : c.length + 1 = b.length) : ((b.tail.map (· - 1)).zip c)[i]? = some (nth b ((i : Int) + 1) - 1, nth c i) := by
  rw [List.getElem?_zip_eq_some, List.getElem?_map, List.getElem?_tail]
  have e : b[i + 1]? = some (nth b ((i : Int) + 1)) := by
    have := nth_get (l := b) (i := i + 1) (by omega)
    simpa using this
  rw [e]
  exact ⟨rfl, nth_get h⟩
abbrev bEnds : En → R Out := sSeq (sExt 4 (e2 gMul (eLst [e2 gIx (eVar 2) (eVar 1)]) (e2 gIx (eVar 3) (eVar 1))))
  (sExt 5 (e2 gMul (eLst [e2 gSub (e2 gIx (eVar 2) (e2 gAdd (eVar 1) (eK (.int 1)))) (eK (.int 1))]) (e2 gIx (eVar 3) (eVar 1))))
theorem ends_step {b c : List Int} {i : Int} {z : Option Cl} {A B : List Int} (h0 : 0 ≤ i) (h1 : i < c.length) (h2 : i + 1 < b.length) (r1 : 0 ≤ nth c i) (r2 : nth c i ≤ 60) (ha : A.length ≤ 10000) (hb : B.length ≤ 10000) :
    bEnds [z, some (.val (.int i)), some (.val (Tu b)), some (.val (Tu c)), some (.own (A.map PyData.int)), some (.own (B.map PyData.int))] = .ok (.nx [z, some (.val (.int i)), some (.val (Tu b)), some (.val (Tu c)), some (.own ((A ++ List.replicate (nth c i).toNat (nth b i)).map PyData.int)), some (.own ((B ++ List.replicate (nth c i).toNat (nth b (i + 1) - 1)).map PyData.int))]) := by
  have e1 := x_ixT b i h0 (by omega)
  have e2 := x_ixT c i h0 h1
  have e3 := x_ixT b (i + 1) (by omega) h2
  have c1 : okK (nth c i) := okK_of (by omega) (by omega)
  have c2 : A.length + (nth c i).toNat ≤ 1000000 := by omega
  have c3 : B.length + (nth c i).toNat ≤ 1000000 := by omega
  simp [x_var, sExt, ownAt, e1, e2, e3, c1, c2, c3]
theorem counts_loop {h v : Option Cl} {data : List Int} (hd : data.length ≤ 1000000) : ∀ (ps : List (Int × Int)) (acc : List Int) (x y z : Option Cl), acc.length + ps.length ≤ 1000 →
    ∃ x' y', forR (.tp [.nm 3, .nm 4]) (sApp 2 (eB gLen [eLc (iSeq (eVar 1)) (.nm 5) (tAnd (t2 cLe (eVar 3) (eVar 5)) (t2 cLt (eVar 5) (eVar 4))) (eVar 5) [5]])) (ps.map fun p => PyData.tuple [.int p.1, .int p.2])
      [h, some (.val (Li data)), some (.own (acc.map PyData.int)), x, y, none] = .ok (.nx [h, some (.val (Li data)), some (.own ((acc ++ ps.map (inside data)).map PyData.int)), x', y', none])
  | [], acc, x, y, z, _ => ⟨x, y, by simp [forR]⟩
  | p :: ps, acc, x, y, z, hl => by
    rw [List.length_cons] at hl
    obtain ⟨x', y', ih⟩ := counts_loop (h := h) (v := v) hd ps (acc ++ [inside data p]) (some (.val (.int p.1))) (some (.val (.int p.2))) none (by rw [List.length_append, List.length_singleton]; omega)
    refine ⟨x', y', ?_⟩
    have e1 : lcR (.nm 5) (tAnd (t2 cLe (eVar 3) (eVar 5)) (t2 cLt (eVar 5) (eVar 4))) (eVar 5) [h, some (.val (Li data)), some (.own (acc.map PyData.int)), some (.val (.int p.1)), some (.val (.int p.2)), none] (data.map PyData.int) = .ok ((data.filter fun v => decide (p.1 ≤ v) && decide (v < p.2)).map PyData.int) :=
      filter_lc _ data (fun y => by by_cases hy : p.1 ≤ y <;> simp [x_var, hy]) (fun y => by simp [x_var])
    have ha : acc.length ≤ 1000000 := by omega
    have hi : inside data p = ((data.filter fun v => decide (p.1 ≤ v) && decide (v < p.2)).length : Nat) := rfl
    rw [List.map_cons, List.map_cons, show acc ++ inside data p :: ps.map (inside data) = acc ++ [inside data p] ++ ps.map (inside data) by simp, ← ih, forR, hi]
    simp [ownAt, x_var, whK, wipeE, hd, e1, ha]
theorem Blocks.snoc : ∀ {b c : List Int} {ls : List (List Int)} {x y k : Int} {l : List Int}, Blocks (b ++ [x]) c ls → (l.length : Int) = k → (∀ v ∈ l, x ≤ v ∧ v < y) → Blocks (b ++ [x, y]) (c ++ [k]) (ls ++ [l])
  | [], [], [], x, y, k, l, _, h1, h2 => ⟨⟨h1, h2⟩, trivial⟩
  | [], _ :: _, _, x, y, k, l, h, _, _ => by simp [Blocks] at h
  | [], [], _ :: _, x, y, k, l, h, _, _ => by simp [Blocks] at h
  | [z], k' :: c, m :: ls, x, y, k, l, h, h1, h2 => ⟨h.1, Blocks.snoc (b := []) h.2 h1 h2⟩
  | [z], [], _, x, y, k, l, h, _, _ => by simp [Blocks] at h
  | [z], _ :: _, [], x, y, k, l, h, _, _ => by simp [Blocks] at h
  | z :: z' :: b, k' :: c, m :: ls, x, y, k, l, h, h1, h2 => ⟨h.1, Blocks.snoc (b := z' :: b) h.2 h1 h2⟩
  | z :: z' :: b, [], _, x, y, k, l, h, _, _ => by simp [Blocks] at h
  | z :: z' :: b, _ :: _, [], x, y, k, l, h, _, _ => by simp [Blocks] at h
end Py

set_option Elab.async false
set_option linter.all false
set_option maxRecDepth 100000
set_option autoImplicit false
set_option maxHeartbeats 4000000
/-! LibSum: sums, means, data with a sum. -/
namespace Py
open PySem L2
theorem wh_step {t : En → R Bool} {B : En → R Out} {n : Nat} {ρ ρ' : En} (h1 : t ρ = .ok true) (h2 : B ρ = .ok (.nx ρ')) : whR t B (n + 1) ρ = whR t B n ρ' := by
  rw [whR, h1, r_ok, if_pos rfl, h2]
  rfl
theorem wh_stop {t : En → R Bool} {B : En → R Out} {n : Nat} {ρ : En} (h1 : t ρ = .ok false) : whR t B (n + 1) ρ = .ok (.nx ρ) := by
  rw [whR, h1, r_ok, if_neg Bool.false_ne_true]
theorem div_test (A B : Int) (h : B ≠ 0) : t2 cNe (eVar 1) (eK (.int 0)) [some (.val (.int A)), some (.val (.int B))] = .ok true := by simp [x_var, x_ne, h]
theorem div_stop (A : Int) : t2 cNe (eVar 1) (eK (.int 0)) [some (.val (.int A)), some (.val (.int 0))] = .ok false := by simp [x_var, x_ne]
end Py
namespace Py
open PySem L2
structure VD (d : List Int) : Prop where
  len : d.length ≤ 200
  rg : ∀ x ∈ d, 0 ≤ x ∧ x ≤ 999
  le : d.Pairwise (· ≤ ·)
theorem data_eq {d : List Int} (h : VD d) : F_are_data [Li d] = .ok (.val (.bool true)) := by
  have h0 := h.len
  have h2 : ¬ (200 : Int) < (d.length : Int) := by omega
  have h2' : ¬ 200 < d.length := by omega
  have l1 : d.length ≤ 1000000 := by omega
  have e1 : lcR (.nm 1) tYes (eCall F_is_int [eVar 1, eK (.int 0), eK (.int 999)]) [some (.val (Li d)), none, none, none] (d.map PyData.int) = .ok (d.map fun _ => PyData.bool true) := by
    refine lc_map _ _ d fun x hx => ⟨_, rfl, .val (.bool true), ?_, rfl⟩
    obtain ⟨r1, r2⟩ := h.rg x hx
    simp [x_var, is_int_eq, r1, r2]
  have e2 : lcR (.tp [.nm 2, .nm 3]) tYes (eT (t2 cLe (eVar 2) (eVar 3))) [some (.val (Li d)), none, none, none] ((d.zip d.tail).map fun p => PyData.tuple [.int p.1, .int p.2]) = .ok ((d.zip d.tail).map fun _ => PyData.bool true) := by
    refine lc_map _ _ _ fun p hp => ⟨_, rfl, .val (.bool true), ?_, rfl⟩
    have := pw_zip h.le p hp
    simp [x_var, this]
  have l2 : d.length ≤ 1000001 := by omega
  simp [F_are_data, fnR, m_are_data, st0, x_var, h2, h2', l1, wipeE, e1, gSl, cut_tail, ← List.map_tail, zipD_ints, e2, l2]
end Py

set_option Elab.async false
set_option linter.all false
set_option maxRecDepth 100000
set_option autoImplicit false
set_option maxHeartbeats 4000000
/-! LibHave: buckets, count_data, do_have. -/
namespace Py
open PySem L2
theorem cnt_le {v : Int} : ∀ {b : List Int}, b.Pairwise (· < ·) → ∀ (i : Nat) (hi : i < b.length), b[i] ≤ v ↔ i < (b.filter fun x => decide (x ≤ v)).length
  | [], _, i, hi => by simp at hi
  | a :: b, h, i, hi => by
    obtain ⟨h1, h2⟩ := List.pairwise_cons.mp h
    by_cases ha : a ≤ v
    · rw [List.filter_cons_of_pos (by simpa using ha), List.length_cons]
      cases i with
      | zero => simp [ha]
      | succ i =>
        rw [List.getElem_cons_succ, cnt_le h2 i (by simpa using hi)]
        omega
    · have e : (a :: b).filter (fun x => decide (x ≤ v)) = [] := List.filter_eq_nil_iff.mpr fun x hx => by
        rcases List.mem_cons.mp hx with rfl | hx
        · simpa using ha
        · have := h1 x hx
          simp
          omega
      rw [e]
      cases i with
      | zero => simp [ha]
      | succ i =>
        have := h1 _ (List.getElem_mem (show i < b.length by simpa using hi))
        rw [List.getElem_cons_succ]
        simp
        omega
theorem nth_elem {l : List Int} {i : Nat} (h : i < l.length) : nth l (i : Int) = l[i] := by
  have := nth_get h
  rw [List.getElem?_eq_getElem h] at this
  exact (Option.some.inj this).symm
def upTo (b : List Int) (v : Int) : Nat := (b.filter fun x => decide (x ≤ v)).length
theorem bucket_iff {b : List Int} (h : b.Pairwise (· < ·)) {i : Nat} (hi : i + 1 < b.length) (v : Int) : (upTo b v = i + 1) ↔ (nth b i ≤ v ∧ v < nth b ((i : Int) + 1)) := by
  have e1 := cnt_le (v := v) h i (by omega)
  have e2 := cnt_le (v := v) h (i + 1) hi
  rw [← nth_elem] at e1 e2
  have e3 : ((i + 1 : Nat) : Int) = (i : Int) + 1 := by omega
  rw [e3] at e2
  unfold upTo
  omega
theorem x_ixLast {l : List Int} (h : l ≠ []) : gIx (.val (.tuple (l.map PyData.int))) (.val (.int (-1))) = .ok (.val (.int (nth l ((l.length : Int) - 1)))) := by
  have hl : 0 < l.length := List.length_pos_iff.mpr h
  have e : atI (l.map PyData.int) (-1) = some (.int (nth l ((l.length : Int) - 1))) := by
    have q : ixN (l.map PyData.int).length (-1) = some (l.length - 1) := by
      unfold ixN
      rw [if_neg (by decide), List.length_map, if_pos (by omega)]
      congr 1
      omega
    unfold atI
    rw [q]
    have g := nth_get (l := l) (i := l.length - 1) (by omega)
    have c : ((l.length - 1 : Nat) : Int) = (l.length : Int) - 1 := by omega
    rw [c] at g
    simp [g]
  simp [gIx, e]
def bkt (b : List Int) (v : Int) : PyData := if nth b 0 ≤ v ∧ v < nth b ((b.length : Int) - 1) then .int ((upTo b v : Int) - 1) else .none
theorem nth_mono {b : List Int} (h : b.Pairwise (· < ·)) {i j : Nat} (hij : i ≤ j) (hj : j < b.length) : nth b i ≤ nth b j := by
  rcases Nat.lt_or_eq_of_le hij with hlt | rfl
  · have := List.pairwise_iff_getElem.mp h i j (by omega) hj hlt
    rw [nth_elem (by omega), nth_elem hj]
    omega
  · exact Int.le_refl _
theorem bkt_is {b : List Int} (h : b.Pairwise (· < ·)) {i : Nat} (hi : i + 1 < b.length) (v : Int) : PyData.eqv (bkt b v) (.int i) = (decide (nth b i ≤ v) && decide (v < nth b ((i : Int) + 1))) := by
  have hb := bucket_iff h hi v
  have m1 := nth_mono h (Nat.zero_le i) (by omega)
  have m2 := nth_mono h (show i + 1 ≤ b.length - 1 by omega) (by omega)
  have c1 : ((i + 1 : Nat) : Int) = (i : Int) + 1 := by omega
  have c2 : ((b.length - 1 : Nat) : Int) = (b.length : Int) - 1 := by omega
  rw [c1, c2] at m2
  have m1 : nth b 0 ≤ nth b i := m1
  unfold bkt
  split
  · rw [eqv_int, ← Bool.decide_and]
    congr 1
    refine propext ⟨fun hh => hb.mp (by omega), fun hh => ?_⟩
    have := hb.mpr hh
    omega
  · rename_i hn
    have : ¬ (nth b i ≤ v ∧ v < nth b ((i : Int) + 1)) := fun hh => hn ⟨by omega, by omega⟩
    rw [← Bool.decide_and, decide_eq_false this]
    rfl
theorem bkt_depth (b : List Int) : ∀ d : List Int, PyData.depthAll (d.map (bkt b)) = 0
  | [] => rfl
  | v :: d => by
    rw [List.map_cons, depthAll_cons, bkt_depth b d]
    unfold bkt
    split <;> rfl
theorem cnts_range {b d : List Int} : cnts b d = (List.range (b.length - 1)).map fun i : Nat => inside d (nth b (i : Int), nth b ((i : Int) + 1)) := by
  unfold cnts
  apply List.ext_getElem
  · simp
  · intro i h1 h2
    have hi : i < b.length - 1 := by simpa using h2
    have g2 : b.tail[i]'(by simp; omega) = nth b ((i : Int) + 1) := by
      have := nth_elem (l := b) (i := i + 1) (by omega)
      rw [show ((i + 1 : Nat) : Int) = (i : Int) + 1 by omega] at this
      rw [this]
      simp
    simp only [List.getElem_map, List.getElem_zip, List.getElem_range]
    rw [g2, nth_elem (l := b) (i := i) (by omega)]
end Py

set_option Elab.async false
set_option linter.all false
set_option maxRecDepth 100000
set_option autoImplicit false
set_option maxHeartbeats 4000000
/-! LibRaise: data between the least and the greatest are by buckets. -/
namespace Py
open PySem L2
inductive Btw : List Int → List Int → List Int → Prop
  | nil : Btw [] [] []
  | cons {x a y : Int} {l m h : List Int} (h1 : x ≤ a) (h2 : a ≤ y) (t : Btw l m h) : Btw (x :: l) (a :: m) (y :: h)
theorem Btw.split : ∀ {n : Nat} {x y : Int} {l m h : List Int}, Btw (List.replicate n x ++ l) m (List.replicate n y ++ h) → ∃ m1 m2, m = m1 ++ m2 ∧ m1.length = n ∧ (∀ v ∈ m1, x ≤ v ∧ v ≤ y) ∧ Btw l m2 h
  | 0, x, y, l, m, h, t => ⟨[], m, rfl, rfl, by simp, by simpa using t⟩
  | n + 1, x, y, l, m, h, t => by
    rw [List.replicate_succ, List.replicate_succ, List.cons_append, List.cons_append] at t
    cases t with
    | cons h1 h2 t =>
      obtain ⟨m1, m2, rfl, e, q, r⟩ := Btw.split t
      refine ⟨_ :: m1, m2, rfl, by rw [List.length_cons, e], fun v hv => ?_, r⟩
      rcases List.mem_cons.mp hv with rfl | hv
      · exact ⟨h1, h2⟩
      · exact q v hv
theorem Btw.blocks : ∀ {b c : List Int} {m : List Int}, c.length + 1 = b.length → (∀ x ∈ c, 0 ≤ x) → Btw (lowB b c).flatten m (highB b c).flatten → ∃ ls, m = ls.flatten ∧ Blocks b c ls
  | [], c, m, h, _, _ => by simp at h
  | [x], c, m, h, _, t => by
    have : c = [] := List.eq_nil_of_length_eq_zero (by simpa using h)
    subst this
    simp [lowB, highB] at t
    cases t
    exact ⟨[], rfl, trivial⟩
  | x :: y :: b, [], m, h, _, _ => by simp at h
  | x :: y :: b, k :: c, m, h, hc, t => by
    rw [lowB, highB, List.flatten_cons, List.flatten_cons] at t
    obtain ⟨m1, m2, rfl, e, q, r⟩ := Btw.split t
    obtain ⟨ls, rfl, bl⟩ := Btw.blocks (b := y :: b) (by simpa using h) (fun z hz => hc z (List.mem_cons_of_mem _ hz)) r
    have hk := hc k (by simp)
    exact ⟨m1 :: ls, by rw [List.flatten_cons], ⟨by omega, fun v hv => by have := q v hv; omega⟩, bl⟩
end Py
namespace Py
open PySem L2
theorem Btw.len : ∀ {l m h : List Int}, Btw l m h → l.length = m.length ∧ m.length = h.length
  | _, _, _, .nil => ⟨rfl, rfl⟩
  | _, _, _, .cons _ _ t => by
    have := Btw.len t
    simp only [List.length_cons]
    omega
theorem Btw.app : ∀ {l m h l' m' h' : List Int}, Btw l m h → Btw l' m' h' → Btw (l ++ l') (m ++ m') (h ++ h')
  | _, _, _, _, _, _, .nil, t => t
  | _, _, _, _, _, _, .cons a b s, t => .cons a b (Btw.app s t)
theorem Btw.rep {x y : Int} : ∀ {m : List Int}, (∀ v ∈ m, x ≤ v ∧ v ≤ y) → Btw (List.replicate m.length x) m (List.replicate m.length y)
  | [], _ => .nil
  | v :: m, h => by
    rw [List.length_cons, List.replicate_succ, List.replicate_succ]
    exact .cons (h v (by simp)).1 (h v (by simp)).2 (Btw.rep fun w hw => h w (List.mem_cons_of_mem _ hw))
theorem Blocks.btw : ∀ {b c : List Int} {ls : List (List Int)}, Blocks b c ls → Btw (Py.lowB b c).flatten ls.flatten (Py.highB b c).flatten
  | [_], [], [], _ => by simp [Py.lowB, Py.highB]; exact .nil
  | x :: y :: b, k :: c, l :: ls, h => by
    obtain ⟨⟨h1, h2⟩, h3⟩ := h
    rw [Py.lowB, Py.highB, List.flatten_cons, List.flatten_cons, List.flatten_cons]
    have e : k.toNat = l.length := by omega
    rw [e]
    exact Btw.app (Btw.rep fun v hv => by have := h2 v hv; omega) (Blocks.btw h3)
  | [], _, _, h => by simp [Blocks] at h
  | [_], _ :: _, _, h => by simp [Blocks] at h
  | [_], [], _ :: _, h => by simp [Blocks] at h
  | _ :: _ :: _, [], _, h => by simp [Blocks] at h
  | _ :: _ :: _, _ :: _, [], h => by simp [Blocks] at h
theorem VH.btw {b c : List Int} (h : VH b c) {ls : List (List Int)} (bl : Blocks b c ls) : Btw (low b c) ls.flatten (high b c) := by
  rw [low_flat b c h.len, high_flat b c h.len]
  exact bl.btw
theorem VH.bl {b c m : List Int} (h : VH b c) (t : Btw (low b c) m (high b c)) : ∃ ls, m = ls.flatten ∧ Blocks b c ls := by
  rw [low_flat b c h.len, high_flat b c h.len] at t
  exact t.blocks h.len fun x hx => (h.rg x hx).1
theorem VH.lowBtw {b c : List Int} (h : VH b c) : Btw (low b c) (low b c) (high b c) := by
  have := h.btw h.lowB
  rwa [← low_flat b c h.len] at this
theorem VH.highBtw {b c : List Int} (h : VH b c) : Btw (low b c) (high b c) (high b c) := by
  have := h.btw h.highB
  rwa [← high_flat b c h.len] at this
theorem Btw.sum : ∀ {l m h : List Int}, Btw l m h → l.sum ≤ m.sum ∧ m.sum ≤ h.sum
  | _, _, _, .nil => ⟨Int.le_refl _, Int.le_refl _⟩
  | _, _, _, .cons a b t => by
    have := Btw.sum t
    simp only [List.sum_cons]
    omega
theorem nth_cons_succ (a : Int) (l : List Int) (i : Nat) : nth (a :: l) ((i + 1 : Nat) : Int) = nth l (i : Int) := by rw [nth_nat, nth_nat]; rfl
theorem nth_cons_zero (a : Int) (l : List Int) : nth (a :: l) ((0 : Nat) : Int) = a := rfl
theorem Btw.at : ∀ {l m h : List Int} (i : Nat), Btw l m h → i < m.length → nth l i ≤ nth m i ∧ nth m i ≤ nth h i
  | _, _, _, i, .nil, hi => by simp at hi
  | _, _, _, 0, .cons a b t, hi => ⟨a, b⟩
  | _, _, _, i + 1, .cons a b t, hi => by
    rw [nth_cons_succ, nth_cons_succ, nth_cons_succ]
    exact Btw.at i t (by simpa using hi)
theorem Btw.set : ∀ {l m h : List Int} (i : Nat) (v : Int), Btw l m h → i < m.length → nth l i ≤ v → v ≤ nth h i → Btw l (m.set i v) h
  | _, _, _, i, v, .nil, hi, _, _ => by simp at hi
  | _, _, _, 0, v, .cons a b t, hi, h1, h2 => .cons h1 h2 t
  | _, _, _, i + 1, v, .cons a b t, hi, h1, h2 => by
    rw [nth_cons_succ] at h1 h2
    exact .cons a b (Btw.set i v t (by simpa using hi) h1 h2)
theorem sum_set : ∀ (m : List Int) (i : Nat) (v : Int), i < m.length → (m.set i v).sum = m.sum - nth m i + v
  | [], i, v, h => by simp at h
  | a :: m, 0, v, h => by rw [nth_cons_zero, List.set_cons_zero, List.sum_cons, List.sum_cons]; omega
  | a :: m, i + 1, v, h => by
    rw [nth_cons_succ, List.set_cons_succ, List.sum_cons, List.sum_cons, sum_set m i v (by simpa using h)]
    omega
theorem sum_perm {l m : List Int} (h : l.Perm m) : l.sum = m.sum := by
  induction h with
  | nil => rfl
  | cons x _ ih => rw [List.sum_cons, List.sum_cons, ih]
  | swap x y l => rw [List.sum_cons, List.sum_cons, List.sum_cons, List.sum_cons]; omega
  | trans _ _ h1 h2 => rw [h1, h2]
theorem x_down (i j : Int) (ρ : En) (φ ψ χ : En → R Rv) (h1 : φ ρ = .ok (.val (.int i))) (h2 : ψ ρ = .ok (.val (.int j))) (h3 : χ ρ = .ok (.val (.int (-1)))) (r1 : -1000000 ≤ i) (r2 : i ≤ 1000000) (r3 : -1000000 ≤ j) (r4 : j ≤ 1000000) : iRgD φ ψ χ ρ = .ok (true, downD i (i - j).toNat) := by
  unfold iRgD
  rw [h1, h2, h3]
  show (if (-1 : Int) = -1 ∧ -(2 ^ 60) ≤ i ∧ i < 2 ^ 60 ∧ -(2 ^ 60) ≤ j ∧ j < 2 ^ 60 then R.ok (true, downD i (i - j).toNat) else .bad) = _
  rw [if_pos ⟨rfl, by omega, by omega, by omega, by omega⟩]
theorem down_get {lo : Int} {n i : Nat} {d : PyData} (h : (downD lo n)[i]? = some d) : d = .int (lo - i) ∧ i < n := by
  unfold downD at h
  rw [List.getElem?_map] at h
  by_cases hi : i < n
  · rw [List.getElem?_range hi] at h
    cases h
    exact ⟨rfl, hi⟩
  · rw [List.getElem?_eq_none (by simpa using hi)] at h
    cases h
theorem down_len (lo : Int) (n : Nat) : (downD lo n).length = n := by simp [downD]
theorem x_subset (ρ : En) (i : Nat) (ψ φ : En → R Rv) (ds : List PyData) (d : PyData) (k : Nat) (h0 : ownAt ρ i = .ok ds) (h1 : φ ρ = .ok (.val d)) (h2 : ψ ρ = .ok (.val (.int k))) (hk : k < ds.length) : sSub i ψ φ ρ = .ok (.nx (ρ.set i (some (.own (ds.set k d))))) := by
  unfold sSub
  rw [h0, h1, h2]
  have e : ixN ds.length (k : Int) = some k := by
    unfold ixN
    rw [if_pos (by omega), if_pos (by omega)]
    simp
  show (match ixN ds.length (k : Int) with | some j => R.ok (Out.nx (ρ.set i (some (.own (ds.set j d))))) | none => .bad) = _
  rw [e]
end Py

set_option Elab.async false
set_option linter.all false
set_option maxRecDepth 100000
set_option autoImplicit false
set_option maxHeartbeats 4000000
/-! LibData: are_data of anything. -/
namespace Py
open PySem L2
theorem kb_int_NoneType : kitB "NoneType" "int" = some false := by decide +kernel
@[simp] theorem x_isi_int_NoneType  : isiD "int" .none = .ok false := by simp [isiD, tyN, kb_int_NoneType]
theorem kb_int_bool : kitB "bool" "int" = some true := by decide +kernel
@[simp] theorem x_isi_int_bool (x : Bool) : isiD "int" (.bool x) = .ok true := by simp [isiD, tyN, kb_int_bool]
theorem kb_int_str : kitB "str" "int" = some false := by decide +kernel
@[simp] theorem x_isi_int_str (x : Str) : isiD "int" (.str x) = .ok false := by simp [isiD, tyN, kb_int_str]
theorem kb_int_list : kitB "list" "int" = some false := by decide +kernel
@[simp] theorem x_isi_int_list (x : List PyData) : isiD "int" (.list x) = .ok false := by simp [isiD, tyN, kb_int_list]
theorem kb_int_tuple : kitB "tuple" "int" = some false := by decide +kernel
@[simp] theorem x_isi_int_tuple (x : List PyData) : isiD "int" (.tuple x) = .ok false := by simp [isiD, tyN, kb_int_tuple]
theorem kb_bool_NoneType : kitB "NoneType" "bool" = some false := by decide +kernel
@[simp] theorem x_isi_bool_NoneType  : isiD "bool" .none = .ok false := by simp [isiD, tyN, kb_bool_NoneType]
theorem kb_bool_bool : kitB "bool" "bool" = some true := by decide +kernel
@[simp] theorem x_isi_bool_bool (x : Bool) : isiD "bool" (.bool x) = .ok true := by simp [isiD, tyN, kb_bool_bool]
theorem kb_bool_str : kitB "str" "bool" = some false := by decide +kernel
@[simp] theorem x_isi_bool_str (x : Str) : isiD "bool" (.str x) = .ok false := by simp [isiD, tyN, kb_bool_str]
theorem kb_bool_list : kitB "list" "bool" = some false := by decide +kernel
@[simp] theorem x_isi_bool_list (x : List PyData) : isiD "bool" (.list x) = .ok false := by simp [isiD, tyN, kb_bool_list]
theorem kb_bool_tuple : kitB "tuple" "bool" = some false := by decide +kernel
@[simp] theorem x_isi_bool_tuple (x : List PyData) : isiD "bool" (.tuple x) = .ok false := by simp [isiD, tyN, kb_bool_tuple]
theorem kb_tuple_NoneType : kitB "NoneType" "tuple" = some false := by decide +kernel
@[simp] theorem x_isi_tuple_NoneType  : isiD "tuple" .none = .ok false := by simp [isiD, tyN, kb_tuple_NoneType]
theorem kb_tuple_bool : kitB "bool" "tuple" = some false := by decide +kernel
@[simp] theorem x_isi_tuple_bool (x : Bool) : isiD "tuple" (.bool x) = .ok false := by simp [isiD, tyN, kb_tuple_bool]
theorem kb_tuple_int : kitB "int" "tuple" = some false := by decide +kernel
@[simp] theorem x_isi_tuple_int (x : Int) : isiD "tuple" (.int x) = .ok false := by simp [isiD, tyN, kb_tuple_int]
theorem kb_tuple_str : kitB "str" "tuple" = some false := by decide +kernel
@[simp] theorem x_isi_tuple_str (x : Str) : isiD "tuple" (.str x) = .ok false := by simp [isiD, tyN, kb_tuple_str]
theorem kb_tuple_list : kitB "list" "tuple" = some false := by decide +kernel
@[simp] theorem x_isi_tuple_list (x : List PyData) : isiD "tuple" (.list x) = .ok false := by simp [isiD, tyN, kb_tuple_list]
theorem kb_list_NoneType : kitB "NoneType" "list" = some false := by decide +kernel
@[simp] theorem x_isi_list_NoneType  : isiD "list" .none = .ok false := by simp [isiD, tyN, kb_list_NoneType]
theorem kb_list_bool : kitB "bool" "list" = some false := by decide +kernel
@[simp] theorem x_isi_list_bool (x : Bool) : isiD "list" (.bool x) = .ok false := by simp [isiD, tyN, kb_list_bool]
theorem kb_list_int : kitB "int" "list" = some false := by decide +kernel
@[simp] theorem x_isi_list_int (x : Int) : isiD "list" (.int x) = .ok false := by simp [isiD, tyN, kb_list_int]
theorem kb_list_str : kitB "str" "list" = some false := by decide +kernel
@[simp] theorem x_isi_list_str (x : Str) : isiD "list" (.str x) = .ok false := by simp [isiD, tyN, kb_list_str]
theorem kb_list_tuple : kitB "tuple" "list" = some false := by decide +kernel
@[simp] theorem x_isi_list_tuple (x : List PyData) : isiD "list" (.tuple x) = .ok false := by simp [isiD, tyN, kb_list_tuple]
theorem kb_str_NoneType : kitB "NoneType" "str" = some false := by decide +kernel
@[simp] theorem x_isi_str_NoneType  : isiD "str" .none = .ok false := by simp [isiD, tyN, kb_str_NoneType]
theorem kb_str_bool : kitB "bool" "str" = some false := by decide +kernel
@[simp] theorem x_isi_str_bool (x : Bool) : isiD "str" (.bool x) = .ok false := by simp [isiD, tyN, kb_str_bool]
theorem kb_str_int : kitB "int" "str" = some false := by decide +kernel
@[simp] theorem x_isi_str_int (x : Int) : isiD "str" (.int x) = .ok false := by simp [isiD, tyN, kb_str_int]
theorem kb_str_str : kitB "str" "str" = some true := by decide +kernel
@[simp] theorem x_isi_str_str (x : Str) : isiD "str" (.str x) = .ok true := by simp [isiD, tyN, kb_str_str]
theorem kb_str_list : kitB "list" "str" = some false := by decide +kernel
@[simp] theorem x_isi_str_list (x : List PyData) : isiD "str" (.list x) = .ok false := by simp [isiD, tyN, kb_str_list]
theorem kb_str_tuple : kitB "tuple" "str" = some false := by decide +kernel
@[simp] theorem x_isi_str_tuple (x : List PyData) : isiD "str" (.tuple x) = .ok false := by simp [isiD, tyN, kb_str_tuple]
@[simp] theorem eqv_bool (a b : Bool) : PyData.eqv (.bool a) (.bool b) = (a == b) := by rw [PyData.eqv]
@[simp] theorem depth_bool (a : Bool) : PyData.depth (.bool a) = 0 := id rfl
@[simp] theorem depth_none : PyData.depth .none = 0 := id rfl
@[simp] theorem depth_str (a : Str) : PyData.depth (.str a) = 0 := id rfl
noncomputable instance (d : List Int) : Decidable (VD d) := Classical.propDecidable _
theorem zip_pw {l : List Int} (h : ∀ p ∈ l.zip l.tail, p.1 ≤ p.2) : l.Pairwise (· ≤ ·) := by
  induction l with
  | nil => exact .nil
  | cons a l ih =>
    cases l with
    | nil => simp
    | cons b l =>
      have h1 := h (a, b) (by simp)
      have h2 := ih fun p hp => h p (by rw [List.tail_cons] at hp ⊢; exact List.mem_cons_of_mem _ hp)
      refine List.pairwise_cons.mpr ⟨fun x hx => ?_, h2⟩
      rcases List.mem_cons.mp hx with rfl | hx
      · exact h1
      · have := (List.pairwise_cons.mp h2).1 x hx
        simp at h1
        omega
theorem is_int_lc {ρ : En} {i : Nat} (l : List Int) (lo hi : Int) (hi' : ρ.length = i + 1 + (ρ.length - i - 1)) (hp : ∀ x, eCall F_is_int [eVar i, eK (.int lo), eK (.int hi)] (ρ.set i (some (.val (.int x)))) = .ok (.val (.bool (decide (lo ≤ x ∧ x ≤ hi))))) : lcR (.nm i) tYes (eCall F_is_int [eVar i, eK (.int lo), eK (.int hi)]) ρ (l.map PyData.int) = .ok (l.map fun x => PyData.bool (decide (lo ≤ x ∧ x ≤ hi))) :=
  lc_map _ _ l fun x _ => ⟨_, rfl, _, hp x, rfl⟩
theorem data_dec (d : List Int) : F_are_data [Li d] = .ok (.val (.bool (decide (VD d)))) := by
  by_cases h : VD d
  · rw [decide_eq_true h]; exact data_eq h
  rw [decide_eq_false h]
  by_cases h0 : d.length ≤ 200
  · have h2 : ¬ (200 : Int) < (d.length : Int) := by omega
    have h2' : ¬ 200 < d.length := by omega
    have l1 : d.length ≤ 1000000 := by omega
    have l2 : d.length ≤ 1000001 := by omega
    have e1 : lcR (.nm 1) tYes (eCall F_is_int [eVar 1, eK (.int 0), eK (.int 999)]) [some (.val (Li d)), none, none, none] (d.map PyData.int) = .ok (d.map fun x => PyData.bool (decide (0 ≤ x ∧ x ≤ 999))) :=
      lc_map _ _ d fun x hx => ⟨_, rfl, .val (.bool (decide (0 ≤ x ∧ x ≤ 999))), by simp [x_var, is_int_eq], rfl⟩
    have e2 : lcR (.tp [.nm 2, .nm 3]) tYes (eT (t2 cLe (eVar 2) (eVar 3))) [some (.val (Li d)), none, none, none] ((d.zip d.tail).map fun p => PyData.tuple [.int p.1, .int p.2]) = .ok ((d.zip d.tail).map fun p => PyData.bool (decide (p.1 ≤ p.2))) :=
      lc_map _ _ _ fun p hp => ⟨_, rfl, .val (.bool (decide (p.1 ≤ p.2))), by simp [x_var], rfl⟩
    by_cases h3 : ∀ x ∈ d, 0 ≤ x ∧ x ≤ 999
    · have a1 : gAll [.val (.list (d.map fun x => PyData.bool (decide (0 ≤ x ∧ x ≤ 999))))] = .ok (.val (.bool true)) := by
        rw [x_allP]
        congr 3
        exact List.all_eq_true.mpr fun x hx => by simpa using h3 x hx
      have a2 : gAll [.val (.list ((d.zip d.tail).map fun p => PyData.bool (decide (p.1 ≤ p.2))))] = .ok (.val (.bool false)) := by
        rw [x_allP]
        congr 3
        rw [← Bool.not_eq_true]
        intro hall
        exact h ⟨h0, h3, zip_pw fun p hp => by simpa using List.all_eq_true.mp hall p hp⟩
      generalize (d.map fun x => PyData.bool (decide (0 ≤ x ∧ x ≤ 999))) = A at e1 a1
      generalize ((d.zip d.tail).map fun p => PyData.bool (decide (p.1 ≤ p.2))) = B at e2 a2
      simp [F_are_data, fnR, m_are_data, st0, x_var, h2, h2', l1, wipeE, e1, a1, gSl, cut_tail, ← List.map_tail, zipD_ints, e2, a2, l2]
    · have a1 : gAll [.val (.list (d.map fun x => PyData.bool (decide (0 ≤ x ∧ x ≤ 999))))] = .ok (.val (.bool false)) := by
        rw [x_allP]
        congr 3
        rw [← Bool.not_eq_true]
        intro hall
        exact h3 fun x hx => by simpa using List.all_eq_true.mp hall x hx
      generalize (d.map fun x => PyData.bool (decide (0 ≤ x ∧ x ≤ 999))) = A at e1 a1
      simp [F_are_data, fnR, m_are_data, st0, x_var, h2, h2', l1, wipeE, e1, a1]
  · have h2 : (200 : Int) < (d.length : Int) := by omega
    have h2' : 200 < d.length := by omega
    simp [F_are_data, fnR, m_are_data, st0, x_var, h2, h2']
theorem data_none : F_are_data [.none] = .ok (.val (.bool false)) := by simp [F_are_data, fnR, m_are_data, st0, x_var]
theorem data_tup (l : List PyData) : F_are_data [.tuple l] = .ok (.val (.bool false)) := by simp [F_are_data, fnR, m_are_data, st0, x_var]
theorem data_str (x : Str) : F_are_data [.str x] = .ok (.val (.bool false)) := by simp [F_are_data, fnR, m_are_data, st0, x_var]
theorem data_int (x : Int) : F_are_data [.int x] = .ok (.val (.bool false)) := by simp [F_are_data, fnR, m_are_data, st0, x_var]
theorem is_int_list (l : List PyData) (a b : Int) : F_is_int [.list l, .int a, .int b] = .ok (.val (.bool false)) := by simp [F_is_int, fnR, m_is_int, st0, x_var]
theorem is_int_none (a b : Int) : F_is_int [.none, .int a, .int b] = .ok (.val (.bool false)) := by simp [F_is_int, fnR, m_is_int, st0, x_var]
theorem data_nest (l : List PyData) : F_are_data [.list [.list l]] = .ok (.val (.bool false)) := by
  have a : gAll [.val (.list [.bool false])] = .ok (.val (.bool false)) := by simp [gAll, asBools]
  simp [F_are_data, fnR, m_are_data, st0, x_var, lcR, tYes, nerr, wipeE, is_int_list, a]
theorem data_noneL : F_are_data [.list [.none]] = .ok (.val (.bool false)) := by
  have a : gAll [.val (.list [.bool false])] = .ok (.val (.bool false)) := by simp [gAll, asBools]
  simp [F_are_data, fnR, m_are_data, st0, x_var, lcR, tYes, nerr, wipeE, is_int_none, a]
end Py

set_option Elab.async false
set_option linter.all false
set_option maxRecDepth 100000
set_option autoImplicit false
set_option maxHeartbeats 4000000
/-! LibTools: small tools for the laws' own texts. -/
namespace Py
open PySem L2
@[simp] theorem x_isNotB (a c : Bool) : cIsNot (.val (.bool a)) (.val (.bool c)) = .ok (!(a == c)) := by cases a <;> cases c <;> rfl
@[simp] theorem x_isB (a c : Bool) : cIs (.val (.bool a)) (.val (.bool c)) = .ok (a == c) := by cases a <;> cases c <;> rfl
@[simp] theorem x_isN (d : PyData) : cIs (.val d) (.val .none) = .ok (isNoneD d) := id rfl
@[simp] theorem x_isNotN (d : PyData) : cIsNot (.val d) (.val .none) = .ok (!isNoneD d) := id rfl
@[simp] theorem x_revL (d : List PyData) : gRev (.val (.list d)) = .ok (.own d.reverse) := id rfl
@[simp] theorem x_revT (d : List PyData) : gRev (.val (.tuple d)) = .ok (.val (.tuple d.reverse)) := id rfl
@[simp] theorem x_eRev (φ : En → R Rv) (ρ : En) : eRev φ ρ = (φ ρ >>= fun x => gRev (frz x)) := id rfl
@[simp] theorem x_slL (d : List PyData) (lo hi : Option Int) : gSl (.val (.list d)) lo hi = .ok (.own (cut d lo hi)) := id rfl
@[simp] theorem x_slT (d : List PyData) (lo hi : Option Int) : gSl (.val (.tuple d)) lo hi = .ok (.val (.tuple (cut d lo hi))) := id rfl
theorem Nx.yes {t : En → R Bool} {Φ Ψ : En → R Out} {ρ : En} {Q : En → Prop} (h : t ρ = .ok true) (k : Nx Φ ρ Q) : Nx (sIf t Φ Ψ) ρ Q := by
  obtain ⟨ρ2, h2, q⟩ := k
  exact ⟨ρ2, by rw [x_if, h]; exact h2, q⟩
theorem Blocks.rg : ∀ {b c : List Int} {ls : List (List Int)}, Blocks b c ls → (∀ x ∈ b, 0 ≤ x ∧ x ≤ 1000) → ∀ v ∈ ls.flatten, 0 ≤ v ∧ v ≤ 999
  | [_], [], [], _, _, v, hv => by simp at hv
  | x :: y :: b, k :: c, l :: ls, h, r, v, hv => by
    rw [List.flatten_cons] at hv
    rcases List.mem_append.mp hv with hv | hv
    · have := h.1.2 v hv
      have h1 := r x (by simp)
      have h2 := r y (by simp)
      omega
    · exact Blocks.rg h.2 (fun z hz => r z (List.mem_cons_of_mem _ hz)) v hv
  | [], _, _, h, _, _, _ => by simp [Blocks] at h
  | [_], _ :: _, _, h, _, _, _ => by simp [Blocks] at h
  | [_], [], _ :: _, h, _, _, _ => by simp [Blocks] at h
  | _ :: _ :: _, [], _, h, _, _, _ => by simp [Blocks] at h
  | _ :: _ :: _, _ :: _, [], h, _, _, _ => by simp [Blocks] at h
theorem VD.of_blocks {b c : List Int} {ls : List (List Int)} (h : VH b c) (bl : Blocks b c ls) : VD (srt ls.flatten) where
  len := by
    have := bl.len
    have := h.sum
    have := (srt_perm ls.flatten).length_eq
    omega
  rg := fun x hx => bl.rg h.vb.rg x ((srt_perm ls.flatten).mem_iff.mp hx)
  le := srt_le _
theorem VD.low {b c : List Int} (h : VH b c) : VD (low b c) := by
  have := VD.of_blocks h h.lowB
  rwa [← low_flat b c h.len, srt_self (low_sorted h)] at this
theorem VD.high {b c : List Int} (h : VH b c) : VD (high b c) := by
  have := VD.of_blocks h h.highB
  rwa [← high_flat b c h.len, srt_self (high_sorted h)] at this
theorem blk_sum {b c : List Int} {ls : List (List Int)} (h : VH b c) (bl : Blocks b c ls) : (Py.low b c).sum ≤ ls.flatten.sum ∧ ls.flatten.sum ≤ (Py.high b c).sum := (h.btw bl).sum
theorem blk_fit {b c : List Int} {ls : List (List Int)} (h : VH b c) (bl : Blocks b c ls) : cnts b (srt ls.flatten) = c ∧ ((srt ls.flatten).length : Int) = c.sum := by
  refine ⟨by rw [cnts_perm (srt_perm ls.flatten)]; exact bl.cnts h.vb.inc, ?_⟩
  rw [(srt_perm ls.flatten).length_eq]
  exact bl.len
theorem sum_nonneg {l : List Int} (h : ∀ x ∈ l, 0 ≤ x) : 0 ≤ l.sum := by
  induction l with
  | nil => simp
  | cons a l ih =>
    have := h a (by simp)
    have := ih fun x hx => h x (List.mem_cons_of_mem _ hx)
    rw [List.sum_cons]
    omega
end Py

set_option Elab.async false
set_option linter.all false
set_option maxRecDepth 100000
set_option autoImplicit false
set_option maxHeartbeats 4000000
/-! LibEvery: small histograms and all data with them. -/
namespace Py
open PySem L2
theorem nth_app_l {l m : List Int} {i : Nat} (h : i < l.length) : nth (l ++ m) (i : Int) = nth l (i : Int) := by
  rw [nth_nat, nth_nat, List.getElem?_append_left h]
theorem nth_app_r (l : List Int) (v : Int) : nth (l ++ [v]) (l.length : Int) = v := by
  rw [nth_nat, List.getElem?_append_right (Nat.le_refl _)]
  simp
structure Sm (b c : List Int) : Prop where
  vh : VH b c
  wid : ∀ i : Nat, i + 1 < b.length → nth b ((i : Int) + 1) ≤ nth b i + 4
  few : c.sum ≤ 5
  top : ∀ x ∈ b, x ≤ 14
theorem pw_snoc {l : List Int} {v : Int} (h : l.Pairwise (· < ·)) (k : ∀ x ∈ l, x < v) : (l ++ [v]).Pairwise (· < ·) := by
  rw [List.pairwise_append]
  exact ⟨h, by simp, fun x hx y hy => by simp at hy; subst hy; exact k x hx⟩
/-! all data -/
def lastD (d : List Int) : Int := if d = [] then 0 else nth d ((d.length : Int) - 1)
def rng (lo hi : Int) : List Int := (List.range (hi - lo).toNat).map fun k : Nat => lo + (k : Int)
theorem mem_rng {lo hi v : Int} : v ∈ rng lo hi ↔ lo ≤ v ∧ v < hi := by
  unfold rng
  rw [List.mem_map]
  refine ⟨fun ⟨k, hk, e⟩ => ?_, fun h => ⟨(v - lo).toNat, ?_, ?_⟩⟩
  · rw [List.mem_range] at hk; omega
  · rw [List.mem_range]; omega
  · omega
theorem rng_len (lo hi : Int) : (rng lo hi).length = (hi - lo).toNat := by simp [rng]
theorem rangeD_rng (lo hi : Int) : rangeD lo (hi - lo).toNat = (rng lo hi).map PyData.int := by unfold rng; rw [List.map_map]; rfl
def ext (x y : Int) (d : List Int) : List (List Int) := (rng (max x (lastD d)) y).map fun v => d ++ [v]
theorem x_ixLastL {l : List Int} (h : l ≠ []) : gIx (.val (.list (l.map PyData.int))) (.val (.int (-1))) = .ok (.val (.int (nth l ((l.length : Int) - 1)))) := by
  have hl : 0 < l.length := List.length_pos_iff.mpr h
  have e : atI (l.map PyData.int) (-1) = some (.int (nth l ((l.length : Int) - 1))) := by
    have q : ixN (l.map PyData.int).length (-1) = some (l.length - 1) := by
      unfold ixN
      rw [if_neg (by decide), List.length_map, if_pos (by omega)]
      congr 1
      omega
    unfold atI
    rw [q]
    have g := nth_get (l := l) (i := l.length - 1) (by omega)
    have c : ((l.length - 1 : Nat) : Int) = (l.length : Int) - 1 := by omega
    rw [c] at g
    simp [g]
  simp [gIx, e]
theorem Btw.snoc_iff : ∀ {L H D : List Int} {x y : Int}, Btw (L ++ [x]) D (H ++ [y]) ↔ ∃ d v, D = d ++ [v] ∧ Btw L d H ∧ x ≤ v ∧ v ≤ y := by
  intro L H D x y
  constructor
  · intro t
    induction L generalizing D H with
    | nil =>
      cases H with
      | nil => cases t with | cons h1 h2 t => cases t; exact ⟨[], _, rfl, .nil, h1, h2⟩
      | cons a H => cases t with | cons h1 h2 t => exfalso; have h3 := t.len; simp only [List.append_eq, List.length_append, List.length_cons, List.length_nil] at h3; omega
    | cons a L ih =>
      cases H with
      | nil => cases t with | cons h1 h2 t => exfalso; have h3 := t.len; simp only [List.append_eq, List.length_append, List.length_cons, List.length_nil] at h3; omega
      | cons c H =>
        cases t with
        | cons h1 h2 t =>
          obtain ⟨d, v, rfl, k1, k2, k3⟩ := ih t
          exact ⟨_ :: d, v, rfl, .cons h1 h2 k1, k2, k3⟩
  · rintro ⟨d, v, rfl, k1, k2, k3⟩
    exact Btw.app k1 (.cons k2 k3 .nil)
theorem le_snoc {d : List Int} {v : Int} : (d ++ [v]).Pairwise (· ≤ ·) ↔ d.Pairwise (· ≤ ·) ∧ ∀ u ∈ d, u ≤ v := by
  rw [List.pairwise_append]
  simp
theorem last_le {d : List Int} {v : Int} (h : d.Pairwise (· ≤ ·)) (hv : 0 ≤ v) : lastD d ≤ v ↔ ∀ u ∈ d, u ≤ v := by
  unfold lastD
  split
  · rename_i hz; subst hz; simp [hv]
  · rename_i hz
    have hp : 0 < d.length := List.length_pos_iff.mpr hz
    rw [show (d.length : Int) - 1 = ((d.length - 1 : Nat) : Int) by omega, nth_elem (by omega)]
    refine ⟨fun hl u hu => ?_, fun hu => hu _ (List.getElem_mem _)⟩
    obtain ⟨i, hi, rfl⟩ := List.getElem_of_mem hu
    by_cases he : i = d.length - 1
    · subst he; exact hl
    · have := List.pairwise_iff_getElem.mp h i (d.length - 1) hi (by omega) (by omega)
      omega
theorem ext_mem {E : List (List Int)} {L H : List Int} {x y : Int} (h0 : 0 ≤ x) (hE : ∀ d, d ∈ E ↔ d.Pairwise (· ≤ ·) ∧ Btw L d H) (D : List Int) : D ∈ E.flatMap (ext x y) ↔ D.Pairwise (· ≤ ·) ∧ Btw (L ++ [x]) D (H ++ [y - 1]) := by
  rw [List.mem_flatMap]
  constructor
  · rintro ⟨d, hd, hD⟩
    unfold ext at hD
    obtain ⟨v, hv, rfl⟩ := List.mem_map.mp hD
    rw [mem_rng] at hv
    obtain ⟨p1, p2⟩ := (hE d).mp hd
    refine ⟨le_snoc.mpr ⟨p1, (last_le p1 (by omega)).mp (by omega)⟩, Btw.snoc_iff.mpr ⟨d, v, rfl, p2, by omega, by omega⟩⟩
  · rintro ⟨p1, p2⟩
    obtain ⟨d, v, rfl, k1, k2, k3⟩ := Btw.snoc_iff.mp p2
    obtain ⟨q1, q2⟩ := le_snoc.mp p1
    have := (last_le q1 (show 0 ≤ v by omega)).mpr q2
    refine ⟨d, (hE d).mpr ⟨q1, k1⟩, ?_⟩
    unfold ext
    exact List.mem_map.mpr ⟨v, mem_rng.mpr ⟨by omega, by omega⟩, rfl⟩
theorem ext_len {x y : Int} (h : y ≤ x + 4) : ∀ E : List (List Int), (E.flatMap (ext x y)).length ≤ 4 * E.length
  | [] => by simp
  | d :: E => by
    have := ext_len h E
    rw [List.flatMap_cons, List.length_append, List.length_cons]
    have : (ext x y d).length ≤ 4 := by unfold ext; rw [List.length_map, rng_len]; omega
    omega
theorem Btw.rg2 : ∀ {L d H : List Int} {a z : Int}, Btw L d H → (∀ x ∈ L, a ≤ x) → (∀ x ∈ H, x ≤ z) → ∀ v ∈ d, a ≤ v ∧ v ≤ z
  | _, _, _, a, z, .nil, _, _, v, hv => by simp at hv
  | _, _, _, a, z, .cons h1 h2 t, hL, hH, v, hv => by
    rcases List.mem_cons.mp hv with rfl | hv
    · have := hL _ (List.mem_cons_self ..)
      have := hH _ (List.mem_cons_self ..)
      omega
    · exact Btw.rg2 t (fun x hx => hL x (List.mem_cons_of_mem _ hx)) (fun x hx => hH x (List.mem_cons_of_mem _ hx)) v hv
theorem mem_fill {ps : List (Int × Int)} {v : Int} (h : v ∈ fill ps) : ∃ p ∈ ps, v = p.1 := by
  unfold fill at h
  obtain ⟨p, hp, hv⟩ := List.mem_flatMap.mp h
  exact ⟨p, hp, List.eq_of_mem_replicate hv⟩
theorem fill_take_len (ps : List (Int × Int)) (i : Nat) : (fill (ps.take i)).length ≤ (fill ps).length := by
  have := fill_app (ps.take i) (ps.drop i)
  rw [List.take_append_drop] at this
  rw [this, List.length_append]
  omega
theorem rep_snoc (n : Nat) (x : Int) : List.replicate (n + 1) x = List.replicate n x ++ [x] := by rw [List.replicate_succ']
def All (b c : List Int) (E : List (List Int)) : Prop := ∀ d, d ∈ E ↔ d.Pairwise (· ≤ ·) ∧ Btw (low b c) d (high b c)
end Py

set_option Elab.async false
set_option linter.all false
set_option maxRecDepth 100000
set_option autoImplicit false
set_option maxHeartbeats 4000000
/-! LibMany: spreads, multiplicities, sums of all data. -/
namespace Py
open PySem L2
theorem min_is {l : List Int} {m : Int} (hm : m ∈ l) (h : ∀ x ∈ l, m ≤ x) : gMin1 [.val (.list (l.map PyData.int))] = .ok (.val (.int m)) := by
  obtain ⟨m', e, _, h1, h2⟩ := x_min (List.ne_nil_of_mem hm)
  have := h2 m hm
  have := h m' h1
  rw [e, show m' = m by omega]
theorem max_is {l : List Int} {m : Int} (hm : m ∈ l) (h : ∀ x ∈ l, x ≤ m) : gMax1 [.val (.list (l.map PyData.int))] = .ok (.val (.int m)) := by
  obtain ⟨m', e, _, h1, h2⟩ := x_max (List.ne_nil_of_mem hm)
  have := h2 m hm
  have := h m' h1
  rw [e, show m' = m by omega]
theorem Btw.blw : ∀ {l m h : List Int}, Btw l m h → ∀ v, Py.below h v ≤ Py.below m v ∧ Py.below m v ≤ Py.below l v
  | _, _, _, .nil, v => ⟨Int.le_refl _, Int.le_refl _⟩
  | _, _, _, .cons (x := x) (a := a) (y := y) (l := l) (m := m) (h := h) h1 h2 t, v => by
    have ih := Btw.blw t v
    have e : ∀ (z : Int) (l : List Int), Py.below (z :: l) v = (if z < v then 1 else 0) + Py.below l v := fun z l => by
      have := below_app [z] l v
      rw [List.singleton_append] at this
      rw [this]
      have := below_rep 1 z v
      simp only [List.replicate_one] at this
      rw [this]
      simp
    rw [e, e, e]
    split <;> split <;> split <;> omega
theorem Btw.sums : ∀ {l m h : List Int}, Btw l m h → ∀ t, l.sum ≤ t → t ≤ h.sum → ∃ m', Btw l m' h ∧ m'.sum = t
  | _, _, _, .nil, t, h1, h2 => ⟨[], .nil, by simp at h1 h2 ⊢; omega⟩
  | _, _, _, .cons (x := x) (a := a) (y := y) (l := l) (m := m) (h := h) k1 k2 s, t, h1, h2 => by
    rw [List.sum_cons] at h1 h2
    have hs := Btw.sum s
    obtain ⟨m', b1, b2⟩ := Btw.sums s (t - min y (t - l.sum)) (by omega) (by omega)
    exact ⟨min y (t - l.sum) :: m', .cons (by omega) (by omega) b1, by rw [List.sum_cons]; omega⟩
theorem btw_srt {b c m : List Int} (h : VH b c) (t : Btw (low b c) m (high b c)) : Btw (low b c) (srt m) (high b c) := by
  obtain ⟨ls, rfl, bl⟩ := h.bl t
  rw [bl.srt_flat h.vb.inc]
  exact h.btw bl.srt
theorem btw_cnts {b c m : List Int} (h : VH b c) (t : Btw (low b c) m (high b c)) : cnts b m = c := by
  obtain ⟨ls, rfl, bl⟩ := h.bl t
  exact bl.cnts h.vb.inc
theorem btw_len {b c m : List Int} (h : VH b c) (t : Btw (low b c) m (high b c)) : (m.length : Int) = c.sum := by
  rw [← t.len.1]; exact low_len h
section
variable {b c : List Int} {E : List (List Int)} (h : VH b c) (hE : All b c E)
include h hE
theorem All.low : Py.low b c ∈ E := (hE _).mpr ⟨low_sorted h, h.lowBtw⟩
theorem All.high : Py.high b c ∈ E := (hE _).mpr ⟨high_sorted h, h.highBtw⟩
theorem All.len {d : List Int} (hd : d ∈ E) : (d.length : Int) = c.sum := btw_len h ((hE d).mp hd).2
theorem All.sum {t : Int} (h1 : (Py.low b c).sum ≤ t) (h2 : t ≤ (Py.high b c).sum) : ∃ d ∈ E, d.sum = t := by
  obtain ⟨m, k1, k2⟩ := h.lowBtw.sums t h1 h2
  exact ⟨srt m, (hE _).mpr ⟨srt_le m, btw_srt h k1⟩, by rw [sum_perm (srt_perm m)]; exact k2⟩
theorem All.vd {d : List Int} (hd : d ∈ E) : VD d := by
  obtain ⟨k1, k2⟩ := (hE d).mp hd
  obtain ⟨ls, rfl, bl⟩ := h.bl k2
  have := VD.of_blocks h bl
  rwa [srt_self k1] at this
end
theorem lt_uniq : ∀ {l m : List Int}, l.Pairwise (· < ·) → m.Pairwise (· < ·) → (∀ x, x ∈ l ↔ x ∈ m) → l = m
  | [], [], _, _, _ => rfl
  | [], b :: m, _, _, h => by have := (h b).mpr (by simp); simp at this
  | a :: l, [], _, _, h => by have := (h a).mp (by simp); simp at this
  | a :: l, b :: m, p, q, h => by
    obtain ⟨p1, p2⟩ := List.pairwise_cons.mp p
    obtain ⟨q1, q2⟩ := List.pairwise_cons.mp q
    have e : a = b := by
      rcases List.mem_cons.mp ((h a).mp (by simp)) with e | e
      · exact e
      · rcases List.mem_cons.mp ((h b).mpr (by simp)) with e' | e'
        · exact e'.symm
        · have := q1 a e
          have := p1 b e'
          omega
    subst e
    refine congrArg (a :: ·) (lt_uniq p2 q2 fun x => ⟨fun hx => ?_, fun hx => ?_⟩)
    · rcases List.mem_cons.mp ((h x).mp (List.mem_cons_of_mem _ hx)) with e | e
      · have := p1 x hx; omega
      · exact e
    · rcases List.mem_cons.mp ((h x).mpr (List.mem_cons_of_mem _ hx)) with e | e
      · have := q1 x hx; omega
      · exact e
theorem rng_lt (lo hi : Int) : (rng lo hi).Pairwise (· < ·) := by
  unfold rng
  rw [List.pairwise_map]
  exact List.pairwise_lt_range.imp fun h => by omega
theorem Sm.zip {b c : List Int} (h : Sm b c) : ∀ p ∈ b.zip b.tail, p.2 ≤ p.1 + 4 := by
  intro p hp
  obtain ⟨i, hi, rfl⟩ := List.getElem_of_mem hp
  rw [List.length_zip, List.length_tail] at hi
  have := h.wid i (by omega)
  rw [show (i : Int) + 1 = ((i + 1 : Nat) : Int) by omega, nth_elem (by omega), nth_elem (by omega)] at this
  simpa using this
theorem wide3 : ∀ {b c : List Int}, (∀ p ∈ b.zip b.tail, p.1 < p.2 ∧ p.2 ≤ p.1 + 4) → c.length + 1 = b.length → Btw (low b c) (high b c) ((low b c).map (· + 3))
  | [], c, _, h => by simp at h
  | [x], c, _, h => by
    have : c = [] := List.eq_nil_of_length_eq_zero (by simpa using h)
    subst this
    rw [low_nil, high_nil]
    exact .nil
  | x :: y :: b, [], _, h => by simp at h
  | x :: y :: b, k :: c, hw, h => by
    rw [low_cons, high_cons, List.map_append, List.map_replicate]
    have h1 := hw (x, y) (by simp)
    have ih := wide3 (b := y :: b) (c := c) (fun p hp => hw p (by rw [List.tail_cons] at hp ⊢; exact List.mem_cons_of_mem _ hp)) (by simpa using h)
    have r := Btw.rep (x := x) (y := x + 3) (m := List.replicate k.toNat (y - 1)) fun v hv => by
      rw [List.eq_of_mem_replicate hv]
      simp at h1
      omega
    rw [List.length_replicate] at r
    exact Btw.app r ih
theorem sum_add3 : ∀ l : List Int, (l.map (· + 3)).sum = l.sum + 3 * l.length
  | [] => by simp
  | a :: l => by
    have := sum_add3 l
    rw [List.map_cons, List.sum_cons, List.sum_cons, List.length_cons]
    omega
theorem Sm.span {b c : List Int} (h : Sm b c) : (high b c).sum ≤ (low b c).sum + 15 := by
  have w := wide3 (b := b) (c := c) (fun p hp => ⟨pw_zip h.vh.vb.inc p hp, h.zip p hp⟩) h.vh.len
  have s := w.sum.2
  rw [sum_add3, low_len h.vh] at s
  have := h.few
  omega
theorem sums_set {b c : List Int} {E : List (List Int)} (h : VH b c) (hE : All b c E) : sortU (E.map List.sum) = rng (low b c).sum ((high b c).sum + 1) := by
  refine lt_uniq (sortU_lt _) (rng_lt _ _) fun x => ?_
  rw [mem_sortU, mem_rng, List.mem_map]
  constructor
  · rintro ⟨d, hd, rfl⟩
    have := ((hE d).mp hd).2.sum
    omega
  · rintro ⟨h1, h2⟩
    obtain ⟨d, hd, e⟩ := All.sum h hE h1 (by omega)
    exact ⟨d, hd, e⟩
/-! spreads -/
def spr (d : List Int) : Int := nth d ((d.length : Int) - 1) - nth d 0
theorem sorted_nth {d : List Int} (h : d.Pairwise (· ≤ ·)) {i j : Nat} (hij : i ≤ j) (hj : j < d.length) : nth d i ≤ nth d j := by
  rcases Nat.lt_or_eq_of_le hij with hlt | rfl
  · have := List.pairwise_iff_getElem.mp h i j (by omega) hj hlt
    rw [nth_elem (by omega), nth_elem hj]
    exact this
  · exact Int.le_refl _
theorem nth_map {f : Int → Int} {l : List Int} {i : Nat} (h : i < l.length) : nth (l.map f) (i : Int) = f (nth l i) := by
  rw [nth_elem (by simpa using h), nth_elem h]
  simp
section
variable {b c : List Int} {E : List (List Int)} (h : VH b c) (hE : All b c E) (hs : 0 < c.sum)
include h hE hs
theorem spr_one {d : List Int} (hd : d ∈ E) (h1 : c.sum = 1) : spr d = 0 := by
  have := All.len h hE hd
  unfold spr
  rw [this, h1]
  show nth d 0 - nth d 0 = 0
  omega
theorem spr_ge {d : List Int} (hd : d ∈ E) : max 0 (nth (low b c) (c.sum - 1) - nth (high b c) 0) ≤ spr d ∧ spr d ≤ nth (high b c) (c.sum - 1) - nth (low b c) 0 := by
  have hl := All.len h hE hd
  obtain ⟨k1, k2⟩ := (hE d).mp hd
  have a0 := k2.at 0 (by omega)
  have a1 := k2.at (d.length - 1) (by omega)
  have a2 := sorted_nth k1 (Nat.zero_le (d.length - 1)) (by omega)
  have e1 : ((d.length - 1 : Nat) : Int) = c.sum - 1 := by omega
  rw [e1] at a1 a2
  unfold spr
  rw [hl]
  have e0 : ((0 : Nat) : Int) = 0 := rfl
  rw [e0] at a0 a2
  omega
theorem spr_min : ∃ d ∈ E, spr d = max 0 (nth (low b c) (c.sum - 1) - nth (high b c) 0) := by
  have l1 := low_len h
  have l2 := high_len h
  have hb := h.lowBtw
  have e1 : (((low b c).length - 1 : Nat) : Int) = c.sum - 1 := by omega
  have mono : ∀ {l H : List Int} (p : Int), Btw l l H → (∀ y ∈ H, p ≤ y) → Btw l (l.map (max p)) H := by
    intro l
    induction l with
    | nil => intro H p t _; cases t; exact .nil
    | cons a l ih =>
      intro H p t hH
      cases t with
      | cons q1 q2 t =>
        have := hH _ (List.mem_cons_self ..)
        exact .cons (by omega) (by omega) (ih p t fun y hy => hH y (List.mem_cons_of_mem _ hy))
  have hp : ∀ y ∈ high b c, nth (high b c) 0 ≤ y := fun y hy => by
    obtain ⟨i, hi, rfl⟩ := List.getElem_of_mem hy
    have := sorted_nth (high_sorted h) (Nat.zero_le i) hi
    rwa [nth_elem hi] at this
  have bt := mono _ hb hp
  have so : ((low b c).map (max (nth (high b c) 0))).Pairwise (· ≤ ·) := by
    rw [List.pairwise_map]
    exact (low_sorted h).imp fun hh => by omega
  refine ⟨_, (hE _).mpr ⟨so, bt⟩, ?_⟩
  unfold spr
  rw [List.length_map, l1]
  have n0 := nth_map (f := max (nth (high b c) 0)) (l := low b c) (i := 0) (by omega)
  have n1 := nth_map (f := max (nth (high b c) 0)) (l := low b c) (i := (low b c).length - 1) (by omega)
  rw [e1] at n1
  have e0 : ((0 : Nat) : Int) = 0 := rfl
  rw [e0] at n0
  rw [n0, n1]
  have a0 := hb.at 0 (by omega)
  rw [e0] at a0
  omega
theorem spr_max (h2 : 2 ≤ c.sum) : ∃ d ∈ E, spr d = nth (high b c) (c.sum - 1) - nth (low b c) 0 := by
  have l1 := low_len h
  have l2 := high_len h
  have hb := h.lowBtw
  have e1 : (((low b c).length - 1 : Nat) : Int) = c.sum - 1 := by omega
  have a1 := hb.at ((low b c).length - 1) (by omega)
  rw [e1] at a1
  have bt := Btw.set ((low b c).length - 1) (nth (high b c) (c.sum - 1)) hb (by omega) (by rw [e1]; exact a1.2) (by rw [e1]; omega)
  have so : ((low b c).set ((low b c).length - 1) (nth (high b c) (c.sum - 1))).Pairwise (· ≤ ·) := by
    rw [List.pairwise_iff_getElem]
    intro i j hi hj hij
    rw [List.length_set] at hi hj
    have q := List.pairwise_iff_getElem.mp (low_sorted h) i j (by omega) (by omega) hij
    rw [List.getElem_set_ne (by omega)]
    by_cases hz : j = (low b c).length - 1
    · subst hz
      rw [List.getElem_set_self]
      rw [← nth_elem (by omega), ← nth_elem (by omega), e1] at q
      rw [← nth_elem (by omega)]
      omega
    · rw [List.getElem_set_ne (by omega)]
      exact q
  refine ⟨_, (hE _).mpr ⟨so, bt⟩, ?_⟩
  unfold spr
  rw [List.length_set, l1, ← e1, nth_elem (by rw [List.length_set]; omega), List.getElem_set_self]
  have : nth ((low b c).set ((low b c).length - 1) (nth (high b c) (((low b c).length - 1 : Nat) : Int))) 0 = nth (low b c) 0 := by
    rw [show (0 : Int) = ((0 : Nat) : Int) from rfl, nth_nat, List.getElem?_set_ne (by omega)]
    rfl
  rw [this]
end
/-! multiplicities -/
theorem inside_cnt (l : List Int) (p : Int × Int) : inside l p = ((l.countP fun v => decide (p.1 ≤ v) && decide (v < p.2) : Nat) : Int) := by unfold inside; rw [List.countP_eq_length_filter]
theorem inside_step (l : List Int) (x : Int) (n : Nat) : inside l (x, x + n + 1) = inside l (x, x + n) + ((l.count (x + n) : Nat) : Int) := by
  induction l with
  | nil => rfl
  | cons a l ih =>
    rw [inside_cnt, inside_cnt] at ih ⊢
    rw [List.countP_cons, List.countP_cons, List.count_cons]
    simp only at ih ⊢
    generalize (l.countP fun v => decide (x ≤ v) && decide (v < x + n + 1)) = A at ih ⊢
    generalize (l.countP fun v => decide (x ≤ v) && decide (v < x + n)) = B at ih ⊢
    generalize l.count (x + n) = C at ih ⊢
    by_cases h1 : x ≤ a
    · by_cases h2 : a < x + n
      · have h3 : a < x + n + 1 := by omega
        have h4 : ¬ a = x + n := by omega
        simp [h1, h2, h3, h4]
        omega
      · by_cases h4 : a = x + n
        · have t1 : (decide (x ≤ a) && decide (a < x + n + 1)) = true := by simp [h1]; omega
          have t2 : (decide (x ≤ a) && decide (a < x + n)) = false := by simp; omega
          have t3 : (a == x + (n : Int)) = true := by simp [h4]
          rw [t1, t2, t3]
          simp
          omega
        · have h3 : ¬ a < x + n + 1 := by omega
          simp [h1, h2, h3, h4]
          omega
    · have h4 : ¬ a = x + n := by omega
      simp [h1, h4]
      omega
theorem pigeon (l : List Int) (m : Nat) (h : ∀ v ∈ l, l.count v ≤ m) (x : Int) : ∀ n : Nat, inside l (x, x + n) ≤ m * n
  | 0 => by
    have : inside l (x, x + (0 : Nat)) = 0 := by
      rw [inside_cnt]
      have : (l.countP fun v => decide (x ≤ v) && decide (v < x + (0 : Nat))) = 0 := List.countP_eq_zero.mpr fun v _ => by simp
      simp only
      rw [this]
      rfl
    rw [this]
    simp
  | n + 1 => by
    have ih := pigeon l m h x n
    have st := inside_step l x n
    rw [show x + ((n + 1 : Nat) : Int) = x + n + 1 by omega, st]
    have hc : l.count (x + n) ≤ m := by
      by_cases hm : (x + (n : Int)) ∈ l
      · exact h _ hm
      · rw [List.count_eq_zero_of_not_mem hm]; omega
    rw [show (m : Int) * ((n + 1 : Nat) : Int) = (m : Int) * n + m by rw [Int.natCast_add]; simp [Int.mul_add]]
    omega
def mult (d : List Int) : Int := (d.map fun v => ((d.count v : Nat) : Int)).foldl max 0
theorem mult_is {d : List Int} (h : d ≠ []) : mult d ∈ (d.map fun v => ((d.count v : Nat) : Int)) ∧ ∀ v ∈ d, ((d.count v : Nat) : Int) ≤ mult d := by
  obtain ⟨h1, h2⟩ := foldl_max (d.map fun v => ((d.count v : Nat) : Int)) 0
  change mult d ∈ _ at h1
  refine ⟨?_, fun v hv => h2 _ (List.mem_cons_of_mem _ (List.mem_map.mpr ⟨v, hv, rfl⟩))⟩
  rcases List.mem_cons.mp h1 with e | e
  · cases d with
    | nil => exact absurd rfl h
    | cons a d =>
      have := h2 _ (List.mem_cons_of_mem _ (List.mem_map.mpr ⟨a, by simp, rfl⟩))
      change _ ≤ mult (a :: d) at this
      have hz : (((a :: d).count a : Nat) : Int) = mult (a :: d) := by omega
      exact List.mem_map.mpr ⟨a, by simp, hz⟩
  · exact e
theorem mult_max {d : List Int} (h : d ≠ []) : gMax1 [.val (.list ((d.map fun v => ((d.count v : Nat) : Int)).map PyData.int))] = .ok (.val (.int (mult d))) :=
  max_is (mult_is h).1 fun x hx => by
    obtain ⟨v, hv, rfl⟩ := List.mem_map.mp hx
    exact (mult_is h).2 v hv
theorem mult_le {d : List Int} (h : d ≠ []) {m : Int} (hm : ∀ v ∈ d, ((d.count v : Nat) : Int) ≤ m) : mult d ≤ m := by
  obtain ⟨v, hv, e⟩ := List.mem_map.mp (mult_is h).1
  rw [← e]
  exact hm v hv
theorem Blocks.bucket : ∀ {b c : List Int} {ls : List (List Int)}, Blocks b c ls → ∀ v ∈ ls.flatten, ∃ p ∈ b.zip b.tail, p.1 ≤ v ∧ v < p.2
  | [_], [], [], _, v, hv => by simp at hv
  | x :: y :: b, k :: c, l :: ls, h, v, hv => by
    rw [List.flatten_cons] at hv
    rcases List.mem_append.mp hv with hv | hv
    · exact ⟨(x, y), by simp, h.1.2 v hv⟩
    · obtain ⟨p, hp, q⟩ := Blocks.bucket h.2 v hv
      exact ⟨p, by rw [List.tail_cons] at hp ⊢; exact List.mem_cons_of_mem _ hp, q⟩
  | [], _, _, h, _, _ => by simp [Blocks] at h
  | [_], _ :: _, _, h, _, _ => by simp [Blocks] at h
  | [_], [], _ :: _, h, _, _ => by simp [Blocks] at h
  | _ :: _ :: _, [], _, h, _, _ => by simp [Blocks] at h
  | _ :: _ :: _, _ :: _, [], h, _, _ => by simp [Blocks] at h
theorem count_inside {d : List Int} {v : Int} {p : Int × Int} (h1 : p.1 ≤ v) (h2 : v < p.2) : ((d.count v : Nat) : Int) ≤ inside d p := by
  rw [inside_cnt, List.count_eq_countP]
  have : d.countP (fun x => x == v) ≤ d.countP fun w => decide (p.1 ≤ w) && decide (w < p.2) := List.countP_mono_left fun x _ hx => by
    have : x = v := by simpa using hx
    subst this
    simp [h1, h2]
  omega
theorem count_cnt {b c d : List Int} (h : VH b c) (t : Btw (low b c) d (high b c)) {m : Int} (hm : ∀ k ∈ c, k ≤ m) {v : Int} (hv : v ∈ d) : ((d.count v : Nat) : Int) ≤ m := by
  have hc := btw_cnts h t
  obtain ⟨ls, rfl, bl⟩ := h.bl t
  obtain ⟨p, hp, h1, h2⟩ := bl.bucket v hv
  refine Int.le_trans (count_inside h1 h2) (hm _ ?_)
  rw [← hc]
  exact List.mem_map.mpr ⟨p, hp, rfl⟩
theorem low_count {b c : List Int} (h : VH b c) {k : Int} (hk : k ∈ c) : ∃ x, k ≤ (((low b c).count x : Nat) : Int) ∧ (0 < k → x ∈ low b c) := by
  obtain ⟨i, hi, rfl⟩ := List.getElem_of_mem hk
  have hp := low_pair hi h.len
  obtain ⟨s, t, e⟩ := List.append_of_mem (List.mem_of_getElem? hp)
  have e2 : low b c = fill s ++ (List.replicate (nth c i).toNat (nth b i) ++ fill t) := by
    unfold low
    rw [e, fill_app, fill_cons]
  refine ⟨nth b i, ?_, fun hpos => ?_⟩
  · rw [e2, List.count_append, List.count_append, List.count_replicate_self, nth_elem hi]
    omega
  · rw [e2]
    refine List.mem_append.mpr (.inr (List.mem_append.mpr (.inl ?_)))
    rw [List.mem_replicate, nth_elem hi]
    exact ⟨by omega, rfl⟩
def evB (x k q : Int) : List Int := (List.range k.toNat).map fun i : Nat => x + ((i / q.toNat : Nat) : Int)
def ceil (k w : Int) : Int := (k + w - 1) / w
def evD : List Int → List Int → List (List Int)
  | x :: y :: b, k :: c => evB x k (ceil k (y - x)) :: evD (y :: b) c
  | _, _ => []
theorem ceil_ge {k w m : Int} (hw : 0 < w) (h : k ≤ m * w) : ceil k w ≤ m := by
  unfold ceil
  rw [← Int.lt_add_one_iff, Int.ediv_lt_iff_lt_mul hw, Int.add_mul]
  omega
theorem ceil_mul {k w : Int} (hw : 0 < w) : k ≤ ceil k w * w := by
  have h := Int.emod_def (k + w - 1) w
  rw [Int.mul_comm] at h
  have h2 := Int.emod_lt_of_pos (k + w - 1) hw
  unfold ceil
  omega
theorem evB_rg {x y k : Int} (hw : x < y) (hk : 0 ≤ k) : ∀ v ∈ evB x k (ceil k (y - x)), x ≤ v ∧ v < y := by
  intro v hv
  unfold evB at hv
  obtain ⟨i, hi, rfl⟩ := List.mem_map.mp hv
  rw [List.mem_range] at hi
  have hm := ceil_mul (k := k) (show 0 < y - x by omega)
  generalize ceil k (y - x) = q at *
  have hq : 0 < q := by
    rcases Int.lt_or_le 0 q with z | z
    · exact z
    · have := Int.mul_nonpos_of_nonpos_of_nonneg z (show 0 ≤ y - x by omega)
      omega
  have hd : i / q.toNat < (y - x).toNat := by
    rw [Nat.div_lt_iff_lt_mul (by omega)]
    have : (((y - x).toNat * q.toNat : Nat) : Int) = q * (y - x) := by
      rw [Int.natCast_mul, Int.toNat_of_nonneg (by omega), Int.toNat_of_nonneg (by omega), Int.mul_comm]
    omega
  generalize i / q.toNat = n at hd ⊢
  omega
theorem evB_le (x k q : Int) : (evB x k q).Pairwise (· ≤ ·) := by
  unfold evB
  rw [List.pairwise_map]
  refine List.pairwise_lt_range.imp fun {a b} h => ?_
  have := Nat.div_le_div_right (c := q.toNat) (Nat.le_of_lt h)
  omega
theorem cnt_div (q r : Nat) (hq : 0 < q) : ∀ k : Nat, (List.range k).countP (fun i => decide (i / q = r)) = min q (k - r * q)
  | 0 => by simp
  | k + 1 => by
    rw [List.range_succ, List.countP_append, cnt_div q r hq k]
    have e : k / q = r ↔ r * q ≤ k ∧ k < r * q + q := by
      rw [← Nat.le_div_iff_mul_le hq]
      have : k < r * q + q ↔ k / q < r + 1 := by rw [Nat.div_lt_iff_lt_mul hq, Nat.add_mul, Nat.one_mul]
      rw [this]
      omega
    generalize r * q = t at *
    by_cases h : k / q = r
    · simp [h]
      have := e.mp h
      omega
    · simp [h]
      have : ¬ (t ≤ k ∧ k < t + q) := fun z => h (e.mpr z)
      omega
theorem evB_count (x k q v : Int) (hq : 0 < q) : (((evB x k q).count v : Nat) : Int) ≤ q := by
  unfold evB
  rw [List.count_eq_countP, List.countP_map]
  by_cases hv : x ≤ v
  · have e : (List.range k.toNat).countP ((fun w => w == v) ∘ fun i : Nat => x + ((i / q.toNat : Nat) : Int)) = (List.range k.toNat).countP fun i => decide (i / q.toNat = (v - x).toNat) := by
      refine List.countP_congr fun i _ => ?_
      simp only [Function.comp, beq_iff_eq, decide_eq_true_eq]
      generalize i / q.toNat = n
      omega
    rw [e, cnt_div _ _ (by omega)]
    omega
  · have e : (List.range k.toNat).countP ((fun w => w == v) ∘ fun i : Nat => x + ((i / q.toNat : Nat) : Int)) = 0 := List.countP_eq_zero.mpr fun i _ => by
      simp only [Function.comp, beq_iff_eq]
      generalize i / q.toNat = n
      omega
    rw [e]
    omega
theorem evD_blocks : ∀ {b c : List Int}, c.length + 1 = b.length → b.Pairwise (· < ·) → (∀ x ∈ c, 0 ≤ x) → Blocks b c (evD b c) ∧ ∀ l ∈ evD b c, l.Pairwise (· ≤ ·)
  | [], c, h, _, _ => by simp at h
  | [x], c, h, _, _ => by
    have : c = [] := List.eq_nil_of_length_eq_zero (by simpa using h)
    subst this
    exact ⟨trivial, by simp [evD]⟩
  | x :: y :: b, [], h, _, _ => by simp at h
  | x :: y :: b, k :: c, h, p, hc => by
    obtain ⟨p1, p2⟩ := List.pairwise_cons.mp p
    obtain ⟨i1, i2⟩ := evD_blocks (b := y :: b) (c := c) (by simpa using h) p2 fun z hz => hc z (List.mem_cons_of_mem _ hz)
    have hk := hc k (by simp)
    have hxy := p1 y (by simp)
    refine ⟨⟨⟨?_, evB_rg hxy hk⟩, i1⟩, fun l hl => ?_⟩
    · unfold evB
      simp
      omega
    · rcases List.mem_cons.mp hl with rfl | hl
      · exact evB_le _ _ _
      · exact i2 l hl
theorem evD_count : ∀ {b c : List Int} {m : Int}, c.length + 1 = b.length → b.Pairwise (· < ·) → (∀ x ∈ c, 0 ≤ x) → 0 ≤ m → (∀ t ∈ c.zip (b.zip b.tail), ceil t.1 (t.2.2 - t.2.1) ≤ m) → ∀ v, (((evD b c).flatten.count v : Nat) : Int) ≤ m
  | [], c, m, h, _, _, _, _, v => by simp at h
  | [x], c, m, h, _, _, h0, _, v => by
    simp [evD]
    exact h0
  | x :: y :: b, [], m, h, _, _, _, _, v => by simp at h
  | x :: y :: b, k :: c, m, h, p, hc, h0, hm, v => by
    obtain ⟨p1, p2⟩ := List.pairwise_cons.mp p
    have hk := hc k (by simp)
    have hxy := p1 y (by simp)
    have hc' : ∀ z ∈ c, 0 ≤ z := fun z hz => hc z (List.mem_cons_of_mem _ hz)
    have hlen : c.length + 1 = (y :: b).length := by simpa using h
    rw [evD, List.flatten_cons, List.count_append]
    by_cases hv : v < y
    · have e : (evD (y :: b) c).flatten.count v = 0 := List.count_eq_zero_of_not_mem fun hm' => by
        have := Blocks.ge (evD_blocks hlen p2 hc').1 p2 v hm'
        omega
      rw [e]
      have hq := hm (k, (x, y)) (by simp)
      simp only at hq
      by_cases hz : 0 < k
      · have hqp : 0 < ceil k (y - x) := by
          have := ceil_mul (k := k) (show 0 < y - x by omega)
          rcases Int.lt_or_le 0 (ceil k (y - x)) with z | z
          · exact z
          · have := Int.mul_nonpos_of_nonpos_of_nonneg z (show 0 ≤ y - x by omega)
            omega
        have := evB_count x k (ceil k (y - x)) v hqp
        omega
      · have e2 : evB x k (ceil k (y - x)) = [] := by
          unfold evB
          rw [show k.toNat = 0 by omega]
          rfl
        rw [e2]
        simp
        exact h0
    · have e : (evB x k (ceil k (y - x))).count v = 0 := List.count_eq_zero_of_not_mem fun hm' => by
        have := evB_rg hxy hk v hm'
        omega
      rw [e, Nat.zero_add]
      exact evD_count hlen p2 hc' h0 (fun t ht => hm t (by rw [List.tail_cons, List.zip_cons_cons, List.zip_cons_cons]; exact List.mem_cons_of_mem _ ht)) v
end Py

set_option Elab.async false
set_option linter.all false
set_option maxRecDepth 100000
set_option autoImplicit false
set_option maxHeartbeats 4000000
/-! LibStat: statements. -/
namespace Py
open PySem L2
inductive Stm where
  | rank (r lo hi : Int)
  | less (v lo hi : Int)
  | sum (lo hi : Int)
abbrev sR : PyData := .str "rank"
abbrev sL : PyData := .str "less"
abbrev sS : PyData := .str "sum"
def Stm.dat : Stm → PyData
  | .rank r lo hi => .tuple [sR, .int r, .int lo, .int hi]
  | .less v lo hi => .tuple [sL, .int v, .int lo, .int hi]
  | .sum lo hi => .tuple [sS, .int lo, .int hi]
def Stm.lo : Stm → Int
  | .rank _ lo _ => lo
  | .less _ lo _ => lo
  | .sum lo _ => lo
def Stm.hi : Stm → Int
  | .rank _ _ hi => hi
  | .less _ _ hi => hi
  | .sum _ hi => hi
def Stm.ok (n : Int) : Stm → Prop
  | .rank r lo hi => (1 ≤ r ∧ r ≤ n) ∧ (0 ≤ lo ∧ lo ≤ 999) ∧ (0 ≤ hi ∧ hi ≤ 999)
  | .less v lo hi => (0 ≤ v ∧ v ≤ 1000) ∧ (0 ≤ lo ∧ lo ≤ 200) ∧ (0 ≤ hi ∧ hi ≤ 200)
  | .sum lo hi => 0 ≤ lo ∧ 0 ≤ hi
def Stm.num : Stm → List Int → Int
  | .rank r _ _, d => nth d (r - 1)
  | .less v _ _, d => below d v
  | .sum _ _, d => d.sum
def Stm.bl (b c : List Int) : Stm → Int
  | .rank r _ _ => nth (low b c) (r - 1)
  | .less v _ _ => below (high b c) v
  | .sum _ _ => (low b c).sum
def Stm.bh (b c : List Int) : Stm → Int
  | .rank r _ _ => nth (high b c) (r - 1)
  | .less v _ _ => below (low b c) v
  | .sum _ _ => (high b c).sum
def Stm.hd (s : Stm) (d : List Int) : Bool := decide (s.lo ≤ s.num d) && decide (s.num d ≤ s.hi)
theorem qv_rr : PyData.eqv sR sR = true := by decide +kernel
theorem qv_rl : PyData.eqv sR sL = false := by decide +kernel
theorem qv_rs : PyData.eqv sR sS = false := by decide +kernel
theorem qv_lr : PyData.eqv sL sR = false := by decide +kernel
theorem qv_ll : PyData.eqv sL sL = true := by decide +kernel
theorem qv_ls : PyData.eqv sL sS = false := by decide +kernel
theorem qv_sr : PyData.eqv sS sR = false := by decide +kernel
theorem qv_sl : PyData.eqv sS sL = false := by decide +kernel
theorem qv_ss : PyData.eqv sS sS = true := by decide +kernel
theorem x_ix0 (a : PyData) (l : List PyData) : gIx (.val (.tuple (a :: l))) (.val (.int 0)) = .ok (.val a) := by simp [gIx, atI, ixN]
theorem x_ix1 (a b : PyData) (l : List PyData) : gIx (.val (.tuple (a :: b :: l))) (.val (.int 1)) = .ok (.val b) := by
  have : atI (a :: b :: l) ((1 : Nat) : Int) = some b := by rw [atI_nat]; rfl
  simp only [gIx, x_datV]
  rw [show (1 : Int) = ((1 : Nat) : Int) from rfl, this]
theorem and_ends {lo hi x y : Int} (h : x ≤ y) : ((decide (lo ≤ x) && decide (x ≤ hi)) && (decide (lo ≤ y) && decide (y ≤ hi))) = (decide (lo ≤ x) && decide (y ≤ hi)) := by
  by_cases h1 : lo ≤ x
  · by_cases h2 : y ≤ hi
    · have h3 : x ≤ hi := by omega
      have h4 : lo ≤ y := by omega
      simp [h1, h2, h3, h4]
    · simp [h2]
  · simp [h1]
theorem and_ends' {lo hi x y : Int} (h : y ≤ x) : ((decide (lo ≤ x) && decide (x ≤ hi)) && (decide (lo ≤ y) && decide (y ≤ hi))) = (decide (lo ≤ y) && decide (x ≤ hi)) := by
  rw [Bool.and_comm]
  exact and_ends h
theorem cut31 (a b c d : PyData) : cut [a, b, c, d] (some 1) none = [b, c, d] := rfl
theorem cut21 (a b c : PyData) : cut [a, b, c] (some 1) none = [b, c] := rfl
def Stm.at (s : Stm) (d : List Int) : Prop := d.length ≤ 1000000 ∧ ∀ r lo hi, s = .rank r lo hi → 1 ≤ r ∧ r ≤ d.length
theorem Stm.ok.at {n : Int} {s : Stm} {d : List Int} (h : s.ok n) (hn : (d.length : Int) = n) (hl : d.length ≤ 1000000) : s.at d := ⟨hl, fun r lo hi e => by subst e; have := h.1; omega⟩
theorem stm_m2 (s : Stm) : gIx (.val s.dat) (.val (.int (-2))) = .ok (.val (.int s.lo)) := by cases s <;> rfl
theorem stm_m1 (s : Stm) : gIx (.val s.dat) (.val (.int (-1))) = .ok (.val (.int s.hi)) := by cases s <;> rfl
section
variable {b c : List Int} {s : Stm} (h : VH b c) (hs : s.ok c.sum)
include h hs
theorem low_at : s.at (low b c) := by
  have := low_len h
  have := h.sum
  exact hs.at (low_len h) (by omega)
theorem high_at : s.at (high b c) := by
  have := high_len h
  have := h.sum
  exact hs.at (high_len h) (by omega)
end
theorem check_data_eq {d : List Int} (h : VD d) : F_check_data [Li d] = .ok (.val .none) := by
  simp [F_check_data, fnR, m_check_data, st0, x_var, data_eq h]
theorem hd_ends {b c : List Int} (h : VH b c) (s : Stm) (hs : s.ok c.sum) : s.bl b c ≤ s.bh b c ∧ (s.hd (low b c) && s.hd (high b c)) = (decide (s.lo ≤ s.bl b c) && decide (s.bh b c ≤ s.hi)) := by
  have hb := h.lowBtw
  have l1 := low_len h
  cases s with
  | rank r lo hi =>
    have := hb.at (r - 1).toNat (by have := hs.1; omega)
    rw [show (((r - 1).toNat : Nat) : Int) = r - 1 by have := hs.1; omega] at this
    refine ⟨this.2, ?_⟩
    exact and_ends this.2
  | less v lo hi =>
    have := hb.blw v
    refine ⟨this.1, ?_⟩
    exact and_ends' this.1
  | sum lo hi =>
    have := hb.sum
    refine ⟨this.2, ?_⟩
    exact and_ends this.2
theorem num_btw {b c d : List Int} (h : VH b c) {s : Stm} (hs : s.ok c.sum) (t : Btw (low b c) d (high b c)) : s.bl b c ≤ s.num d ∧ s.num d ≤ s.bh b c := by
  have hl := btw_len h t
  cases s with
  | rank r lo hi =>
    have := t.at (r - 1).toNat (by have := hs.1; omega)
    rw [show (((r - 1).toNat : Nat) : Int) = r - 1 by have := hs.1; omega] at this
    exact this
  | less v lo hi => exact t.blw v
  | sum lo hi => exact t.sum
theorem below_iff {v : Int} : ∀ {l : List Int}, l.Pairwise (· ≤ ·) → ∀ i : Nat, i < l.length → (nth l i < v ↔ (i : Int) < below l v)
  | [], _, i, hi => by simp at hi
  | a :: l, h, i, hi => by
    obtain ⟨h1, h2⟩ := List.pairwise_cons.mp h
    have e : below (a :: l) v = (if a < v then 1 else 0) + below l v := by
      have := below_app [a] l v
      rw [List.singleton_append] at this
      rw [this]
      have := below_rep 1 a v
      simp only [List.replicate_one] at this
      rw [this]
      simp
    have hp := below_le l v
    rw [e]
    cases i with
    | zero =>
      rw [nth_cons_zero]
      split
      · rename_i ha
        simp [ha]
        omega
      · rename_i ha
        have : below l v = 0 := below_none fun x hx => by have := h1 x hx; omega
        rw [this]
        simp [ha]
    | succ i =>
      have hi' : i < l.length := by simpa using hi
      rw [nth_cons_succ, below_iff h2 i hi']
      split
      · omega
      · rename_i ha
        have : below l v = 0 := below_none fun x hx => by have := h1 x hx; omega
        rw [this]
        omega
theorem btw_nth : ∀ {l d h : List Int}, d.length = l.length → h.length = l.length → (∀ i : Nat, i < l.length → nth l i ≤ nth d i ∧ nth d i ≤ nth h i) → Btw l d h
  | [], [], [], _, _, _ => .nil
  | a :: l, x :: d, z :: h, h1, h2, h3 => by
    refine .cons (h3 0 (by simp)).1 (h3 0 (by simp)).2 (btw_nth (by simpa using h1) (by simpa using h2) fun i hi => ?_)
    have := h3 (i + 1) (by simpa using hi)
    rwa [nth_cons_succ, nth_cons_succ, nth_cons_succ] at this
  | [], _ :: _, _, h1, _, _ => by simp at h1
  | [], [], _ :: _, _, h2, _ => by simp at h2
  | _ :: _, [], _, h1, _, _ => by simp at h1
  | _ :: _, _ :: _, [], _, h2, _ => by simp at h2
theorem num_all {b c : List Int} {E : List (List Int)} (h : VH b c) (hE : All b c E) {s : Stm} (hs : s.ok c.sum) {t : Int} (h1 : s.bl b c ≤ t) (h2 : t ≤ s.bh b c) : ∃ d ∈ E, s.num d = t := by
  have hb := h.lowBtw
  have l1 := low_len h
  have l2 := high_len h
  have so1 := low_sorted h
  have so2 := high_sorted h
  cases s with
  | rank r lo hi =>
    have hr := hs.1
    have h1 : nth (low b c) (r - 1) ≤ t := h1
    have h2 : t ≤ nth (high b c) (r - 1) := h2
    let d : List Int := (List.range (low b c).length).map fun i : Nat => max (nth (low b c) i) (min (nth (high b c) i) t)
    have dl : d.length = (low b c).length := by simp [d]
    have dn : ∀ i : Nat, i < (low b c).length → nth d i = max (nth (low b c) i) (min (nth (high b c) i) t) := fun i hi => by
      rw [nth_elem (by rw [dl]; exact hi)]
      simp [d]
    have so : d.Pairwise (· ≤ ·) := by
      rw [List.pairwise_iff_getElem]
      intro i j hi hj hij
      rw [← nth_elem hi, ← nth_elem hj, dn i (by omega), dn j (by omega)]
      have a1 := sorted_nth so1 (Nat.le_of_lt hij) (by omega)
      have a2 := sorted_nth so2 (Nat.le_of_lt hij) (by omega)
      omega
    have bt : Btw (low b c) d (high b c) := btw_nth dl (by omega) fun i hi => by
      rw [dn i hi]
      have := hb.at i hi
      omega
    refine ⟨d, (hE d).mpr ⟨so, bt⟩, ?_⟩
    show nth d (r - 1) = t
    have := dn (r - 1).toNat (by omega)
    rw [show (((r - 1).toNat : Nat) : Int) = r - 1 by omega] at this
    rw [this]
    omega
  | less v lo hi =>
    have h1 : below (high b c) v ≤ t := h1
    have h2 : t ≤ below (low b c) v := h2
    have p1 := below_le (low b c) v
    have p2 := below_le (high b c) v
    let d : List Int := (List.range (low b c).length).map fun i : Nat => if (i : Int) < t then nth (low b c) i else nth (high b c) i
    have dl : d.length = (low b c).length := by simp [d]
    have dn : ∀ i : Nat, i < (low b c).length → nth d i = if (i : Int) < t then nth (low b c) i else nth (high b c) i := fun i hi => by
      rw [nth_elem (by rw [dl]; exact hi)]
      simp [d]
    have so : d.Pairwise (· ≤ ·) := by
      rw [List.pairwise_iff_getElem]
      intro i j hi hj hij
      rw [← nth_elem hi, ← nth_elem hj, dn i (by omega), dn j (by omega)]
      have a1 := sorted_nth so1 (Nat.le_of_lt hij) (by omega)
      have a2 := sorted_nth so2 (Nat.le_of_lt hij) (by omega)
      have a3 := hb.at j (by omega)
      split <;> split <;> omega
    have bt : Btw (low b c) d (high b c) := btw_nth dl (by omega) fun i hi => by
      rw [dn i hi]
      have := hb.at i hi
      split <;> omega
    refine ⟨d, (hE d).mpr ⟨so, bt⟩, ?_⟩
    show below d v = t
    have p3 := below_le d v
    have hlow : ∀ i : Nat, (i : Int) < t → (i : Int) < below d v := fun i hi => by
      have q := (below_iff so1 (v := v) i (by omega)).mpr (by omega)
      refine (below_iff so i (by omega)).mp ?_
      rw [dn i (by omega), if_pos hi]
      exact q
    have hhigh : ∀ i : Nat, i < d.length → t ≤ (i : Int) → ¬ (i : Int) < below d v := fun i hi hti z => by
      have q := (below_iff so (v := v) i hi).mpr z
      rw [dn i (by omega), if_neg (by omega)] at q
      have := (below_iff so2 (v := v) i (by omega)).mp q
      omega
    have b1 : t ≤ below d v := by
      rcases Int.lt_or_le 0 t with z | z
      · have := hlow (t - 1).toNat (by omega)
        omega
      · omega
    have b2 : below d v ≤ t := by
      rcases Int.lt_or_le (below d v) (t + 1) with z | z
      · omega
      · have := hhigh t.toNat (by omega) (by omega)
        omega
    omega
  | sum lo hi => exact All.sum h hE h1 h2
end Py

set_option Elab.async false
set_option linter.all false
set_option maxRecDepth 100000
set_option autoImplicit false
set_option maxHeartbeats 4000000
/-! LibStat2: drawn statements. -/
namespace Py
open PySem L2
def Stm.with (s : Stm) (lo hi : Int) : Stm := match s with
  | .rank r _ _ => .rank r lo hi
  | .less v _ _ => .less v lo hi
  | .sum _ _ => .sum lo hi
theorem Stm.with_num (s : Stm) (lo hi : Int) (d : List Int) : (s.with lo hi).num d = s.num d := by cases s <;> rfl
theorem cut_map {α β : Type} (f : α → β) (l : List α) (lo hi : Option Int) : cut (l.map f) lo hi = (cut l lo hi).map f := by
  unfold cut
  rw [List.length_map, List.map_take, List.map_drop]
theorem mem_cut {α : Type} {l : List α} {lo hi : Option Int} {x : α} (h : x ∈ cut l lo hi) : x ∈ l := List.mem_of_mem_drop (List.mem_of_mem_take h)
theorem cut_len {α : Type} (l : List α) (lo hi : Option Int) : (cut l lo hi).length ≤ l.length := by
  unfold cut
  rw [List.length_take, List.length_drop]
  omega
theorem cut4m (a b c d : PyData) : cut [a, b, c, d] none (some (-2)) = [a, b] := rfl
theorem cut3m (a b c : PyData) : cut [a, b, c] none (some (-2)) = [a] := rfl
theorem stm_with (s : Stm) (lo hi : Int) : (gSl (.val s.dat) none (some (-2)) >>= fun x => gAdd (frz x) (.val (.tuple [.int lo, .int hi]))) = .ok (.val (s.with lo hi).dat) := by cases s <;> rfl
end Py

set_option Elab.async false
set_option linter.all false
set_option maxRecDepth 100000
set_option autoImplicit false
set_option maxHeartbeats 4000000
/-! LibPair: two histograms. -/
namespace Py
open PySem L2
theorem below_mono (l : List Int) {u v : Int} (h : u ≤ v) : below l u ≤ below l v := by
  unfold below
  rw [← List.countP_eq_length_filter, ← List.countP_eq_length_filter]
  have : l.countP (fun x => decide (x < u)) ≤ l.countP fun x => decide (x < v) := List.countP_mono_left fun x _ hx => by
    simp at hx ⊢
    omega
  omega
theorem lo_hi : ∀ {b c : List Int}, c.length + 1 = b.length → b.Pairwise (· < ·) → (∀ x ∈ c, 0 ≤ x) → ∀ v ∈ b, below (low b c) v = below (high b c) v
  | [], c, h, _, _, v, hv => by simp at hv
  | [x], c, h, _, _, v, hv => by
    have : c = [] := List.eq_nil_of_length_eq_zero (by simpa using h)
    subst this
    rw [low_nil, high_nil]
  | x :: y :: b, [], h, _, _, v, hv => by simp at h
  | x :: y :: b, k :: c, h, p, hc, v, hv => by
    obtain ⟨p1, p2⟩ := List.pairwise_cons.mp p
    have hxy := p1 y (by simp)
    have hc' : ∀ z ∈ c, 0 ≤ z := fun z hz => hc z (List.mem_cons_of_mem _ hz)
    have hl : c.length + 1 = (y :: b).length := by simpa using h
    rw [low_cons, high_cons, below_app, below_app, below_rep, below_rep]
    by_cases hvx : v = x
    · subst hvx
      rw [if_neg (by omega), if_neg (by omega)]
      have e1 : below (low (y :: b) c) v = 0 := below_none fun z hz => by
        rw [low_flat _ _ hl] at hz
        have := Blocks.ge (low_blocks hl p2 hc') p2 z hz
        omega
      have e2 : below (high (y :: b) c) v = 0 := below_none fun z hz => by
        rw [high_flat _ _ hl] at hz
        have := Blocks.ge (high_blocks hl p2 hc') p2 z hz
        omega
      rw [e1, e2]
    · have hv' : v ∈ y :: b := (List.mem_cons.mp hv).resolve_left hvx
      have hyv : y ≤ v := by
        rcases List.mem_cons.mp hv' with e | e
        · omega
        · have := (List.pairwise_cons.mp p2).1 v e
          omega
      rw [if_pos (by omega), if_pos (by omega), lo_hi hl p2 hc' v hv']
theorem exact_at {b c d : List Int} (h : VH b c) {v : Int} (hv : v ∈ b) (t : Btw (low b c) d (high b c)) : below (low b c) v = below d v ∧ below (high b c) v = below d v := by
  have e := lo_hi h.len h.vb.inc (fun x hx => (h.rg x hx).1) v hv
  have q := t.blw v
  omega
theorem low_in {b c : List Int} {k : Nat} (hk : k < (low b c).length) : nth (low b c) k ∈ b := by
  obtain ⟨p, hp, e⟩ := mem_fill (ps := b.dropLast.zip c) (nth_mem (l := low b c) hk)
  rw [e]
  exact (List.dropLast_sublist b).subset (List.of_mem_zip hp).1
theorem high_in {b c : List Int} {k : Nat} (hk : k < (high b c).length) : nth (high b c) k + 1 ∈ b := by
  obtain ⟨p, hp, e⟩ := mem_fill (ps := (b.tail.map (· - 1)).zip c) (nth_mem (l := high b c) hk)
  rw [e]
  obtain ⟨q, hq, e'⟩ := List.mem_map.mp (List.of_mem_zip hp).1
  rw [← e', show q - 1 + 1 = q by omega]
  exact List.mem_of_mem_tail hq
theorem low_rank {b c d : List Int} (h : VH b c) (t : Btw (low b c) d (high b c)) {r : Int} (r1 : 1 ≤ r) (r2 : r ≤ c.sum) {v : Int} (hv : v ∈ b) : below d v < r ↔ v ≤ nth (low b c) (r - 1) := by
  have l1 := low_len h
  have q := below_iff (v := v) (low_sorted h) (r - 1).toNat (by omega)
  rw [show (((r - 1).toNat : Nat) : Int) = r - 1 by omega, (exact_at h hv t).1] at q
  omega
theorem high_rank {b c d : List Int} (h : VH b c) (t : Btw (low b c) d (high b c)) {r : Int} (r1 : 1 ≤ r) (r2 : r ≤ c.sum) {v : Int} (hv : v ∈ b) : r ≤ below d v ↔ nth (high b c) (r - 1) + 1 ≤ v := by
  have l1 := high_len h
  have q := below_iff (v := v) (high_sorted h) (r - 1).toNat (by omega)
  rw [show (((r - 1).toNat : Nat) : Int) = r - 1 by omega, (exact_at h hv t).2] at q
  omega
def conf (b c b' c' : List Int) (v : Int) : Bool := decide (below (low b c) v < below (high b' c') v) || decide (below (low b' c') v < below (high b c) v)
section
variable {b c b' c' : List Int} (h : VH b c) (h' : VH b' c')
include h h'
def compat (b c b' c' : List Int) : Bool := decide (c.sum = c'.sum) && !((b ++ b').any (conf b c b' c'))
theorem conf_border {v : Int} (hv : conf b c b' c' v = true) : ∃ u ∈ b ++ b', conf b c b' c' u = true := by
  have key : ∀ {b c b' c' : List Int}, VH b c → VH b' c' → below (low b c) v < below (high b' c') v → ∃ u ∈ b', below (low b c) u < below (high b' c') u := by
    intro b c b' c' h h' q
    have p1 := below_le (low b c) v
    have p2 := below_le (high b' c') v
    have q2 := (below_iff (v := v) (high_sorted h') (below (high b' c') v - 1).toNat (by omega)).mpr (by omega)
    have hin := high_in (b := b') (c := c') (k := (below (high b' c') v - 1).toNat) (by omega)
    have q3 := (below_iff (v := nth (high b' c') ((below (high b' c') v - 1).toNat : Nat) + 1) (high_sorted h') (below (high b' c') v - 1).toNat (by omega)).mp (by omega)
    have m := below_mono (low b c) (u := nth (high b' c') ((below (high b' c') v - 1).toNat : Nat) + 1) (v := v) (by omega)
    exact ⟨_, hin, by omega⟩
  unfold conf at hv ⊢
  rw [Bool.or_eq_true, decide_eq_true_eq, decide_eq_true_eq] at hv
  rcases hv with q | q
  · obtain ⟨u, hu, r⟩ := key h h' q
    exact ⟨u, List.mem_append.mpr (.inr hu), by rw [decide_eq_true r]; rfl⟩
  · obtain ⟨u, hu, r⟩ := key h' h q
    exact ⟨u, List.mem_append.mpr (.inl hu), by rw [decide_eq_true r, Bool.or_true]⟩
theorem compat_none (hs : c.sum = c'.sum) : compat b c b' c' = decide ((rng 0 1001).filter (conf b c b' c') = []) := by
  unfold compat
  rw [decide_eq_true hs, Bool.true_and, Bool.eq_iff_iff, Bool.not_eq_true', decide_eq_true_eq, List.any_eq_false, List.filter_eq_nil_iff]
  constructor
  · intro z v _ hv
    obtain ⟨u, hu, r⟩ := conf_border h h' hv
    exact z u hu r
  · intro z v hv r
    refine z v (mem_rng.mpr ?_) r
    rcases List.mem_append.mp hv with q | q
    · have := h.vb.rg v q; omega
    · have := h'.vb.rg v q; omega
theorem conf_common {d : List Int} (t : Btw (low b c) d (high b c)) (t' : Btw (low b' c') d (high b' c')) (v : Int) : conf b c b' c' v = false := by
  have q := t.blw v
  have q' := t'.blw v
  unfold conf
  rw [Bool.or_eq_false_iff, decide_eq_false_iff_not, decide_eq_false_iff_not]
  omega
theorem compat_common {d : List Int} (t : Btw (low b c) d (high b c)) (t' : Btw (low b' c') d (high b' c')) : compat b c b' c' = true := by
  have e : c.sum = c'.sum := by rw [← btw_len h t, ← btw_len h' t']
  unfold compat
  rw [decide_eq_true e, Bool.true_and, Bool.not_eq_true', List.any_eq_false]
  intro u _
  rw [conf_common h h' t t' u]
  decide
def both (b c b' c' : List Int) : List Int := (List.range (low b c).length).map fun i : Nat => max (nth (low b c) i) (nth (low b' c') i)
theorem both_len : (both b c b' c').length = (low b c).length := by simp [both]
theorem both_nth {i : Nat} (hi : i < (low b c).length) : nth (both b c b' c') i = max (nth (low b c) i) (nth (low b' c') i) := by
  rw [nth_elem (by rw [both_len h h']; exact hi)]
  simp [both]
theorem both_ok (hs : c.sum = c'.sum) (hh : ∀ i : Nat, i < (low b c).length → nth (low b c) i ≤ nth (high b' c') i ∧ nth (low b' c') i ≤ nth (high b c) i) :
    (both b c b' c').Pairwise (· ≤ ·) ∧ Btw (low b c) (both b c b' c') (high b c) ∧ Btw (low b' c') (both b c b' c') (high b' c') := by
  have l1 := low_len h
  have l2 := high_len h
  have l3 := low_len h'
  have l4 := high_len h'
  have bl := both_len h h'
  refine ⟨?_, btw_nth bl (by omega) fun i hi => ?_, btw_nth (by omega) (by omega) fun i hi => ?_⟩
  · rw [List.pairwise_iff_getElem]
    intro i j hi hj hij
    rw [← nth_elem hi, ← nth_elem hj, both_nth h h' (by omega), both_nth h h' (by omega)]
    have a1 := sorted_nth (low_sorted h) (Nat.le_of_lt hij) (by omega)
    have a2 := sorted_nth (low_sorted h') (Nat.le_of_lt hij) (by omega)
    omega
  · rw [both_nth h h' hi]
    have := h.lowBtw.at i hi
    have := hh i hi
    omega
  · rw [both_nth h h' (by omega)]
    have := h'.lowBtw.at i hi
    have := hh i (by omega)
    omega
theorem both_common {d : List Int} (t : Btw (low b c) d (high b c)) (t' : Btw (low b' c') d (high b' c')) : (both b c b' c').Pairwise (· ≤ ·) ∧ Btw (low b c) (both b c b' c') (high b c) ∧ Btw (low b' c') (both b c b' c') (high b' c') := by
  have e : c.sum = c'.sum := by rw [← btw_len h t, ← btw_len h' t']
  refine both_ok h h' e fun i hi => ?_
  have a := t.at i (by rw [← t.len.1]; exact hi)
  have a' := t'.at i (by rw [← t.len.1]; exact hi)
  omega
theorem compat_both (hc : compat b c b' c' = true) : c.sum = c'.sum ∧ (both b c b' c').Pairwise (· ≤ ·) ∧ Btw (low b c) (both b c b' c') (high b c) ∧ Btw (low b' c') (both b c b' c') (high b' c') := by
  have key : ∀ {b c b' c' : List Int}, VH b c → VH b' c' → c.sum = c'.sum → (∀ u ∈ b ++ b', conf b c b' c' u = false) → ∀ i : Nat, i < (low b c).length → nth (low b c) i ≤ nth (high b' c') i := by
    intro b c b' c' h h' hs hn i hi
    have l1 := low_len h
    have l4 := high_len h'
    rcases Int.lt_or_le (nth (high b' c') i) (nth (low b c) i) with z | z
    · have hin := high_in (b := b') (c := c') (k := i) (by omega)
      have q := hn _ (List.mem_append.mpr (.inr hin))
      unfold conf at q
      rw [Bool.or_eq_false_iff, decide_eq_false_iff_not, decide_eq_false_iff_not] at q
      have q1 := (below_iff (v := nth (high b' c') i + 1) (high_sorted h') i (by omega)).mp (by omega)
      have q2 : ¬ (i : Int) < below (low b c) (nth (high b' c') i + 1) := fun w => by
        have := (below_iff (low_sorted h) i hi).mpr w
        omega
      omega
    · exact z
  unfold compat at hc
  rw [Bool.and_eq_true, decide_eq_true_eq, Bool.not_eq_true', List.any_eq_false] at hc
  obtain ⟨hs, hn⟩ := hc
  have hn : ∀ u ∈ b ++ b', conf b c b' c' u = false := fun u hu => by simpa using hn u hu
  have hn' : ∀ u ∈ b' ++ b, conf b' c' b c u = false := fun u hu => by
    have := hn u (by simpa [or_comm] using hu)
    unfold conf at this ⊢
    rw [Bool.or_comm]
    exact this
  have l1 := low_len h
  have l3 := low_len h'
  exact ⟨hs, both_ok h h' hs fun i hi => ⟨key h h' hs hn i hi, key h' h hs.symm hn' i (by omega)⟩⟩
end
section
variable {b c b' c' d : List Int} (h : VH b c) (h' : VH b' c') (t : Btw (low b c) d (high b c)) (t' : Btw (low b' c') d (high b' c'))
include h h' t t'
end
theorem blocks_of : ∀ {b d : List Int}, b.Pairwise (· < ·) → 2 ≤ b.length → d.Pairwise (· ≤ ·) → (∀ v ∈ d, nth b 0 ≤ v ∧ v < nth b ((b.length : Int) - 1)) → ∃ ls, Blocks b (cnts b d) ls ∧ d = ls.flatten
  | [], _, _, h, _, _ => by simp at h
  | [x], _, _, h, _, _ => by simp at h
  | [x, y], d, p, _, _, hr => by
    refine ⟨[d], ⟨⟨?_, fun v hv => hr v hv⟩, trivial⟩, by simp⟩
    have : inside d (x, y) = d.length := by
      unfold inside
      rw [List.filter_eq_self.mpr fun v hv => by have := hr v hv; simp; exact this]
    exact this.symm
  | x :: y :: z :: b, d, p, _, so, hr => by
    obtain ⟨p1, p2⟩ := List.pairwise_cons.mp p
    have hxy := p1 y (by simp)
    have hd : d = d.filter (fun v => decide (v < y)) ++ d.filter (fun v => !decide (v < y)) := by
      refine le_unique so ?_ (List.filter_append_perm _ d).symm
      rw [List.pairwise_append]
      refine ⟨so.filter _, so.filter _, fun a ha b hb => ?_⟩
      have h1 := (List.mem_filter.mp ha).2
      have h2 := (List.mem_filter.mp hb).2
      simp at h1 h2
      omega
    have hlast : nth (x :: y :: z :: b) (((x :: y :: z :: b).length : Int) - 1) = nth (y :: z :: b) (((y :: z :: b).length : Int) - 1) := by
      have := nth_cons_succ x (y :: z :: b) (b.length + 1)
      simp only [List.length_cons]
      rw [show ((b.length + 1 + 1 + 1 : Nat) : Int) - 1 = ((b.length + 1 + 1 : Nat) : Int) by omega, this, show ((b.length + 1 + 1 : Nat) : Int) - 1 = ((b.length + 1 : Nat) : Int) by omega]
    obtain ⟨ls, bl, e⟩ := blocks_of (b := y :: z :: b) (d := d.filter fun v => !decide (v < y)) p2 (by simp) (so.filter _) fun v hv => by
      obtain ⟨h1, h2⟩ := List.mem_filter.mp hv
      have := hr v h1
      rw [hlast] at this
      simp at h2
      exact ⟨h2, this.2⟩
    have ec : cnts (y :: z :: b) (d.filter fun v => !decide (v < y)) = cnts (y :: z :: b) d := by
      unfold cnts
      refine List.map_congr_left fun q hq => ?_
      unfold inside
      rw [List.filter_filter]
      congr 2
      refine List.filter_congr fun v _ => ?_
      have hy : y ≤ q.1 := by
        rcases List.mem_cons.mp (List.of_mem_zip hq).1 with w | w
        · omega
        · have := (List.pairwise_cons.mp p2).1 q.1 w
          omega
      by_cases hv : q.1 ≤ v
      · have : ¬ v < y := by omega
        simp [hv, this]
      · simp [hv]
    rw [ec] at bl
    have ei : inside d (x, y) = ((d.filter fun v => decide (v < y)).length : Nat) := by
      unfold inside
      congr 2
      refine List.filter_congr fun v hv => ?_
      have := (hr v hv).1
      have : x ≤ v := this
      simp [this]
    refine ⟨(d.filter fun v => decide (v < y)) :: ls, ⟨⟨ei.symm, fun v hv => ?_⟩, bl⟩, ?_⟩
    · obtain ⟨h1, h2⟩ := List.mem_filter.mp hv
      have := (hr v h1).1
      exact ⟨this, by simpa using h2⟩
    · rw [List.flatten_cons, ← e]
      exact hd
end Py

set_option Elab.async false
set_option linter.all false
set_option maxRecDepth 100000
set_option autoImplicit false
set_option maxHeartbeats 4000000
/-! LibCoarse: coarser borders. -/
namespace Py
open PySem L2
theorem inside_fill (p : Int × Int) : ∀ {ps : List (Int × Int)}, (∀ q ∈ ps, 0 ≤ q.2) → inside (fill ps) p = ((ps.filter fun q => decide (p.1 ≤ q.1) && decide (q.1 < p.2)).map (·.2)).sum
  | [], _ => by simp [fill, inside]
  | q :: ps, h => by
    have ih := inside_fill p (ps := ps) fun r hr => h r (List.mem_cons_of_mem _ hr)
    have hq := h q (by simp)
    rw [fill_cons]
    have e : inside (List.replicate q.2.toNat q.1 ++ fill ps) p = inside (List.replicate q.2.toNat q.1) p + inside (fill ps) p := by
      unfold inside
      rw [List.filter_append, List.length_append]
      omega
    rw [e, ih, List.filter_cons]
    have e2 : inside (List.replicate q.2.toNat q.1) p = if (decide (p.1 ≤ q.1) && decide (q.1 < p.2)) = true then q.2 else 0 := by
      unfold inside
      rw [List.filter_replicate]
      split
      · rw [List.length_replicate]; omega
      · rfl
    rw [e2]
    split
    · rw [List.map_cons, List.sum_cons]
    · rw [Int.zero_add]
theorem zip_drop {b c : List Int} (h : c.length + 1 = b.length) : b.dropLast.zip c = b.zip c := by
  apply List.ext_getElem
  · rw [List.length_zip, List.length_zip, List.length_dropLast]
    omega
  · intro i h1 h2
    simp
def mrg (b c a : List Int) : List Int := (a.zip a.tail).map fun p => (((b.zip c).filter fun q => decide (p.1 ≤ q.1) && decide (q.1 < p.2)).map (·.2)).sum
theorem mrg_low {b c : List Int} (h : VH b c) (a : List Int) : mrg b c a = cnts a (low b c) := by
  unfold mrg cnts low
  refine List.map_congr_left fun p _ => ?_
  rw [zip_drop h.len, inside_fill p fun q hq => (h.rg _ (List.of_mem_zip hq).2).1]
theorem inside_below (d : List Int) {x y : Int} (h : x ≤ y) : inside d (x, y) = below d y - below d x := by
  induction d with
  | nil => rfl
  | cons v d ih =>
    have e : ∀ z, below (v :: d) z = (if v < z then 1 else 0) + below d z := fun z => by
      have := below_app [v] d z
      rw [List.singleton_append] at this
      rw [this]
      have := below_rep 1 v z
      simp only [List.replicate_one] at this
      rw [this]
      simp
    have e2 : inside (v :: d) (x, y) = (if x ≤ v ∧ v < y then 1 else 0) + inside d (x, y) := by
      unfold inside
      rw [List.filter_cons]
      by_cases q1 : x ≤ v
      · by_cases q2 : v < y
        · simp [q1, q2]; omega
        · simp [q1, q2]
      · simp [q1]
    rw [e, e, e2, ih]
    split <;> split <;> split <;> omega
structure Csr (a b : List Int) : Prop where
  vb : VB a
  sub : ∀ x ∈ a, x ∈ b
  first : nth a 0 = nth b 0
  last : nth a ((a.length : Int) - 1) = nth b ((b.length : Int) - 1)
theorem ends_of {b : List Int} (h : b.Pairwise (· < ·)) {x : Int} (hx : x ∈ b) : nth b 0 ≤ x ∧ x ≤ nth b ((b.length : Int) - 1) := by
  obtain ⟨i, hi, rfl⟩ := List.getElem_of_mem hx
  have a := nth_mono h (Nat.zero_le i) hi
  have c := nth_mono h (show i ≤ b.length - 1 by omega) (by omega)
  rw [show ((b.length - 1 : Nat) : Int) = (b.length : Int) - 1 by omega] at c
  rw [← nth_elem hi]
  exact ⟨a, c⟩
theorem btw_ends {b c d : List Int} (h : VH b c) (t : Btw (low b c) d (high b c)) {v : Int} (hv : v ∈ d) : nth b 0 ≤ v ∧ v < nth b ((b.length : Int) - 1) := by
  obtain ⟨ls, rfl, bl⟩ := h.bl t
  obtain ⟨p, hp, q1, q2⟩ := bl.bucket v hv
  have a := ends_of h.vb.inc (List.of_mem_zip hp).1
  have c := ends_of h.vb.inc (List.mem_of_mem_tail (List.of_mem_zip hp).2)
  exact ⟨Int.le_trans a.1 q1, Int.lt_of_lt_of_le q2 c.2⟩
theorem cnts_same {a b c d : List Int} (h : VH b c) (hc : Csr a b) (t : Btw (low b c) d (high b c)) : cnts a d = cnts a (low b c) := by
  unfold cnts
  refine List.map_congr_left fun p hp => ?_
  have hp1 := hc.sub _ (List.of_mem_zip hp).1
  have hp2 := hc.sub _ (List.mem_of_mem_tail (List.of_mem_zip hp).2)
  have hlt := pw_zip hc.vb.inc p hp
  have e1 := exact_at h hp1 t
  have e2 := exact_at h hp2 t
  have i1 := inside_below d (x := p.1) (y := p.2) (by omega)
  have i2 := inside_below (low b c) (x := p.1) (y := p.2) (by omega)
  have i1 : inside d p = below d p.2 - below d p.1 := i1
  have i2 : inside (low b c) p = below (low b c) p.2 - below (low b c) p.1 := i2
  rw [i1, i2, e1.1, e2.1]
theorem cnts_len {a d : List Int} (h : 2 ≤ a.length) : (cnts a d).length + 1 = a.length := by
  unfold cnts
  rw [List.length_map, List.length_zip, List.length_tail]
  omega
theorem cnts_pos (a d : List Int) : ∀ x ∈ cnts a d, 0 ≤ x ∧ x ≤ d.length := fun x hx => by
  obtain ⟨p, hp, rfl⟩ := List.mem_map.mp hx
  rw [inside_cnt]
  have := List.countP_le_length (p := fun v => decide (p.1 ≤ v) && decide (v < p.2)) (l := d)
  omega
theorem coarse_ok {a b c : List Int} (h : VH b c) (hc : Csr a b) (h60 : ∀ x ∈ cnts a (low b c), x ≤ 60) : VH a (cnts a (low b c)) ∧ ∀ d, d.Pairwise (· ≤ ·) → Btw (low b c) d (high b c) → Btw (low a (cnts a (low b c))) d (high a (cnts a (low b c))) := by
  have key : ∀ d, d.Pairwise (· ≤ ·) → Btw (low b c) d (high b c) → ∃ ls, Blocks a (cnts a (low b c)) ls ∧ d = ls.flatten := fun d so t => by
    obtain ⟨ls, bl, e⟩ := blocks_of hc.vb.inc hc.vb.lo so fun v hv => by
      rw [hc.first, hc.last]
      exact btw_ends h t hv
    rw [cnts_same h hc t] at bl
    exact ⟨ls, bl, e⟩
  obtain ⟨ls, bl, e⟩ := key _ (low_sorted h) h.lowBtw
  have hl := bl.len
  rw [← e, low_len h] at hl
  have hs := h.sum
  have vh : VH a (cnts a (low b c)) := ⟨hc.vb, cnts_len hc.vb.lo, fun x hx => ⟨(cnts_pos _ _ x hx).1, h60 x hx⟩, by omega⟩
  refine ⟨vh, fun d so t => ?_⟩
  obtain ⟨ls, bl, rfl⟩ := key d so t
  exact vh.btw bl
theorem zipD_pairs (b c : List Int) : zipD (b.map PyData.int) (c.map PyData.int) = (b.zip c).map fun p => PyData.tuple [.int p.1, .int p.2] := zipD_ints b c
theorem any_int (b : List Int) (x : Int) : (b.map PyData.int).any (fun y => PyData.eqv y (.int x)) = decide (x ∈ b) := by
  rw [List.any_map, Bool.eq_iff_iff, List.any_eq_true, decide_eq_true_eq]
  constructor
  · rintro ⟨y, hy, e⟩
    simp at e
    rw [← e]; exact hy
  · intro hx
    exact ⟨x, hx, by simp⟩
theorem cIn_tup (x : Int) (b : List Int) : cIn (.val (.int x)) (.val (.tuple (b.map PyData.int))) = .ok (decide (x ∈ b)) := by
  show (if min (PyData.depthAll (b.map PyData.int)) (PyData.depth (.int x)) ≤ 60 then R.ok ((b.map PyData.int).any fun y => PyData.eqv y (.int x)) else .bad) = _
  rw [any_int, if_pos (by simp)]
/-! slices -/
theorem cut_one {α : Type} (l : List α) : cut l none (some 1) = l.take 1 := by
  cases l with
  | nil => rfl
  | cons a l =>
    have e : HT.sIx (a :: l).length (a :: l).length (some 1) = 1 := by
      unfold HT.sIx
      simp
    unfold cut
    rw [e]
    rfl
theorem cut_end {l : List Int} (h : l ≠ []) : cut l (some (-1)) none = [nth l ((l.length : Int) - 1)] := by
  have hp : 0 < l.length := List.length_pos_iff.mpr h
  have e : HT.sIx l.length 0 (some (-1)) = l.length - 1 := by
    show (if (-1 : Int) < 0 then ((-1 : Int) + (l.length : Int)).toNat else min (-1 : Int).toNat l.length) = _
    rw [if_pos (by decide)]
    omega
  unfold cut
  rw [e, HT.sIx_none, List.drop_eq_getElem_cons (by omega), show l.length - 1 + 1 = l.length by omega, List.drop_length, List.take_of_length_le (by simp; omega), show (l.length : Int) - 1 = ((l.length - 1 : Nat) : Int) by omega, nth_elem (by omega)]
theorem cut_mid {α : Type} (l : List α) : cut l (some 1) (some (-1)) = l.tail.dropLast := by
  have e : HT.sIx l.length l.length (some (-1)) = l.length - 1 := by
    show (if (-1 : Int) < 0 then ((-1 : Int) + (l.length : Int)).toNat else min (-1 : Int).toNat l.length) = _
    rw [if_pos (by decide)]
    omega
  cases l with
  | nil => rfl
  | cons a l =>
    have e1 : HT.sIx (a :: l).length 0 (some 1) = 1 := by simp [HT.sIx]
    unfold cut
    rw [e, e1, List.drop_one, List.dropLast_eq_take, List.tail_cons, List.length_cons]
    rfl
theorem split_ends {b : List Int} (h : 2 ≤ b.length) : ∃ x m z, b = x :: (m ++ [z]) := by
  match b, h with
  | x :: y :: b, _ => exact ⟨x, (y :: b).dropLast, (y :: b).getLast (by simp), by rw [List.dropLast_concat_getLast]⟩
theorem ends_nth (x z : Int) (m : List Int) : nth (x :: (m ++ [z])) 0 = x ∧ nth (x :: (m ++ [z])) (((x :: (m ++ [z])).length : Int) - 1) = z := by
  refine ⟨rfl, ?_⟩
  have e : ((x :: (m ++ [z])).length : Int) - 1 = ((m.length + 1 : Nat) : Int) := by simp
  rw [e, nth_cons_succ, nth_app_r]
theorem csr_sub {x z : Int} {m m' : List Int} (h : VB (x :: (m ++ [z]))) (s : m'.Sublist m) : Csr (x :: (m' ++ [z])) (x :: (m ++ [z])) := by
  have s2 : (x :: (m' ++ [z])).Sublist (x :: (m ++ [z])) := (s.append_right [z]).cons₂ x
  have hl := s2.length_le
  have hh := h.hi
  refine ⟨⟨by simp, by omega, fun y hy => h.rg y (s2.subset hy), h.inc.sublist s2⟩, fun y hy => s2.subset hy, ?_, ?_⟩
  · rw [(ends_nth x z m).1, (ends_nth x z m').1]
  · rw [(ends_nth x z m).2, (ends_nth x z m').2]
theorem stm_wider {a m b c : List Int} (h : VH b c) (ha : VH a m) (es : m.sum = c.sum) {s : Stm} (hs : s.ok c.sum) (t1 : Btw (low a m) (low b c) (high a m)) (t2 : Btw (low a m) (high b c) (high a m)) : s.bl a m ≤ s.bl b c ∧ s.bh b c ≤ s.bh a m := by
  have n1 := num_btw ha (s := s) (by rw [es]; exact hs) t1
  have n2 := num_btw ha (s := s) (by rw [es]; exact hs) t2
  cases s with
  | rank r lo hi => exact ⟨n1.1, n2.2⟩
  | less v lo hi => exact ⟨n2.1, n1.2⟩
  | sum lo hi => exact ⟨n1.1, n2.2⟩
end Py

set_option Elab.async false
set_option linter.all false
set_option maxRecDepth 100000
set_option autoImplicit false
set_option maxHeartbeats 4000000
/-! LibLoss: least_loss. -/
namespace Py
open PySem L2
abbrev Pr (t : Int × Int) : PyData := .tuple [.int t.1, .int t.2]
def lexL (s t : Int × Int) : Bool := decide (s.1 < t.1 ∨ (s.1 = t.1 ∧ s.2 < t.2))
def lmin (t : Int × Int) (ts : List (Int × Int)) : Int × Int := ts.foldl (fun a y => if lexL y a = true then y else a) t
theorem minD_pr : ∀ (ts : List (Int × Int)) (t : Int × Int), PySem.W.minD (Pr t) (ts.map Pr) = Pr (lmin t ts)
  | [], t => rfl
  | u :: ts, t => by
    have ih := minD_pr ts (if lexL u t = true then u else t)
    unfold PySem.W.minD lmin at ih ⊢
    rw [List.map_cons, List.foldl_cons, List.foldl_cons, ← ih, PySem.W.dataLt_ii]
    congr 1
    unfold lexL
    split <;> rfl
theorem alike_pr (ts : List (Int × Int)) : alikeB (ts.map Pr) = true := by
  unfold alikeB
  have d : PyData.depthAll (ts.map Pr) ≤ 60 := by
    induction ts with
    | nil => simp
    | cons t ts ih =>
      rw [List.map_cons, depthAll_cons]
      have : PyData.depth (Pr t) = 1 := by simp
      omega
  simp [List.all_map, PySem.W.alike, PySem.W.alikeAll, isNoneD, d]
theorem lmin_spec : ∀ (ts : List (Int × Int)) (t : Int × Int), lmin t ts ∈ t :: ts ∧ ∀ s ∈ t :: ts, lexL s (lmin t ts) = false
  | [], t => ⟨by simp [lmin], fun s hs => by simp at hs; subst hs; simp [lmin, lexL]⟩
  | u :: ts, t => by
    obtain ⟨h1, h2⟩ := lmin_spec ts (if lexL u t = true then u else t)
    have e : lmin t (u :: ts) = lmin (if lexL u t = true then u else t) ts := rfl
    rw [e]
    generalize lmin (if lexL u t = true then u else t) ts = m at h1 h2 ⊢
    refine ⟨?_, fun s hs => ?_⟩
    · rcases List.mem_cons.mp h1 with q | q
      · rw [q]
        split
        · simp
        · simp
      · exact List.mem_cons_of_mem _ (List.mem_cons_of_mem _ q)
    · have h3 := h2 _ (List.mem_cons_self ..)
      rcases List.mem_cons.mp hs with q | q
      · subst q
        by_cases w : lexL u s = true
        · rw [if_pos w] at h3
          unfold lexL at *
          simp at *
          omega
        · rw [if_neg w] at h3
          exact h3
      · rcases List.mem_cons.mp q with q | q
        · subst q
          by_cases w : lexL s t = true
          · rw [if_pos w] at h3
            exact h3
          · rw [if_neg w] at h3
            unfold lexL at *
            simp at *
            omega
        · exact h2 s (List.mem_cons_of_mem _ q)
theorem min_pr (t : Int × Int) (ts : List (Int × Int)) : gMin1 [.val (.list (Pr t :: ts.map Pr))] = .ok (.val (Pr (lmin t ts))) ∧ ∀ i, gMin1 [.bor i (Pr t :: ts.map Pr)] = .ok (.val (Pr (lmin t ts))) := by
  have e : alikeB (Pr t :: ts.map Pr) = true := alike_pr (t :: ts)
  refine ⟨?_, fun i => ?_⟩
  · show (if alikeB (Pr t :: ts.map Pr) = true then R.ok (Rv.val (PySem.W.minD (Pr t) (ts.map Pr))) else .bad) = _
    rw [if_pos e, minD_pr]
  · show (if alikeB (Pr t :: ts.map Pr) = true then R.ok (Rv.val (PySem.W.minD (Pr t) (ts.map Pr))) else .bad) = _
    rw [if_pos e, minD_pr]
def lack (b : List Int) (i : Nat) : List Int := b.take i ++ b.drop (i + 1)
theorem cut_to {α : Type} (l : List α) (i : Nat) : cut l none (some (i : Int)) = l.take i := by
  unfold cut
  rw [HT.sIx_none, HT.sIx_nat, List.drop_zero, Nat.sub_zero]
  by_cases h : i ≤ l.length
  · rw [Nat.min_eq_left h]
  · rw [Nat.min_eq_right (by omega), List.take_of_length_le (Nat.le_refl _), List.take_of_length_le (by omega)]
theorem cut_from {α : Type} (l : List α) (i : Nat) : cut l (some (i : Int)) none = l.drop i := by
  unfold cut
  rw [HT.sIx_none, HT.sIx_nat]
  by_cases h : i ≤ l.length
  · rw [Nat.min_eq_left h, List.take_of_length_le (by rw [List.length_drop]; omega)]
  · rw [Nat.min_eq_right (by omega), List.drop_of_length_le (Nat.le_refl _), List.drop_of_length_le (by omega)]
    simp
theorem lack_csr {b : List Int} (h : VB b) {i : Nat} (h1 : 1 ≤ i) (h2 : i + 1 < b.length) : Csr (lack b i) b := by
  obtain ⟨x, m, z, rfl⟩ := split_ends h.lo
  have hl : (x :: (m ++ [z])).length = m.length + 2 := by simp
  obtain ⟨k, rfl⟩ : ∃ k, i = k + 1 := ⟨i - 1, by omega⟩
  have e : lack (x :: (m ++ [z])) (k + 1) = x :: ((m.take k ++ m.drop (k + 1)) ++ [z]) := by
    unfold lack
    rw [List.take_succ_cons, List.drop_succ_cons, List.take_append_of_le_length (by omega), List.drop_append_of_le_length (by omega)]
    simp
  rw [e]
  refine csr_sub h ?_
  have : (m.take k ++ m.drop (k + 1)).Sublist (m.take k ++ m.drop k) := by
    refine List.Sublist.append_left ?_ _
    rw [← List.drop_drop, show (m.drop k).drop 1 = (m.drop k).tail from List.drop_one]
    exact List.tail_sublist _
  rwa [List.take_append_drop] at this
def losses (b c : List Int) : List (Int × Int) := ((List.range (b.length - 2)).map (· + 1)).map fun i : Nat => ((high (lack b i) (cnts (lack b i) (low b c))).sum - (low (lack b i) (cnts (lack b i) (low b c))).sum - ((high b c).sum - (low b c).sum), (i : Int))
def LL (ts : List (Int × Int)) : PyData := match ts with
  | [] => .none
  | t :: ts => .tuple [.int (lmin t ts).2, .int (lmin t ts).1]
end Py

set_option Elab.async false
set_option linter.all false
set_option maxRecDepth 100000
set_option autoImplicit false
set_option maxHeartbeats 4000000
/-! LibDraw: the draws of the later laws. -/
namespace Py
open PySem L2
theorem seq_rt {Φ Ψ : En → R Out} {ρ : En} {r : Cr} (h1 : Φ ρ = .ok (.rt r)) : sSeq Φ Ψ ρ = .ok (.rt r) := by rw [x_seq, h1]; rfl
theorem draw_loop {a b c d : Option Cl} : ∀ (n : Nat) (rest turn : Int), turn ≤ n → ∃ rest' turn', whR (tAnd (t2 cGt (eVar 5) (eK (.int 0))) (t2 cGt (eVar 4) (eK (.int 0)))) b__law_drawn_0 (n + 1) [a, b, c, d, some (.val (.int turn)), some (.val (.int rest))] = .ok (.nx [a, b, c, d, some (.val (.int turn')), some (.val (.int rest'))])
  | n, rest, turn, h => by
    by_cases h1 : 0 < rest
    · by_cases h2 : 0 < turn
      · cases n with
        | zero => omega
        | succ n =>
          obtain ⟨r, t, e⟩ := draw_loop (a := a) (b := b) (c := c) (d := d) n (rest / 1000000) (turn - 1) (by omega)
          refine ⟨r, t, ?_⟩
          rw [whR, ← e]
          simp [x_var, h1, h2, whK]
      · exact ⟨rest, turn, by rw [whR]; simp [x_var, h1, h2]⟩
    · exact ⟨rest, turn, by rw [whR]; simp [x_var, h1]⟩
theorem drawn_ok (ns : List Int) (k many : Int) (h1 : 0 ≤ k) (h2 : k ≤ 4000) (h3 : 0 < many) (hn : ns.length ≤ 1000) : ∃ v, 0 ≤ v ∧ v < many ∧ F__law_drawn [Li ns, .int k, .int many] = .ok (.val (.int v)) := by
  have tail : ∀ (cell : Int) (x4 x5 : Option Cl), ∃ v, 0 ≤ v ∧ v < many ∧ (sSeq (sSet 3 (e2 gMod (e2 gAdd (e2 gMul (e2 gMod (eVar 3) (eK (.int 2147483563))) (eK (.int 69069))) (e2 gMul (eK (.int 104723)) (e2 gAdd (eVar 1) (eK (.int 1))))) (eK (.int 2147483563))))
      (sSeq (sSet 3 (e2 gMod (e2 gAdd (e2 gMul (eVar 3) (eVar 3)) (e2 gDiv (eVar 3) (eK (.int 3)))) (eK (.int 2147483399))))
      (sRet (e2 gMod (e2 gDiv (e2 gMod (e2 gAdd (e2 gMul (eVar 3) (eVar 3)) (e2 gDiv (eVar 3) (eK (.int 7)))) (eK (.int 2147483647))) (eK (.int 11))) (eVar 2))))) [some (.val (Li ns)), some (.val (.int k)), some (.val (.int many)), some (.val (.int cell)), x4, x5] = .ok (.rt (.val (.int v))) := by
    intro cell x4 x5
    have a1 := Int.emod_nonneg cell (show (2147483563 : Int) ≠ 0 by decide)
    have a2 := Int.emod_lt_of_pos cell (show (0 : Int) < 2147483563 by decide)
    obtain ⟨c1, hc1⟩ : ∃ c1, c1 = (cell % 2147483563 * 69069 + 104723 * (k + 1)) % 2147483563 := ⟨_, rfl⟩
    have b1 : 0 ≤ c1 := by rw [hc1]; exact Int.emod_nonneg _ (by decide)
    have b2 : c1 < 2147483563 := by rw [hc1]; exact Int.emod_lt_of_pos _ (by decide)
    obtain ⟨c2, hc2⟩ : ∃ c2, c2 = (c1 * c1 + c1 / 3) % 2147483399 := ⟨_, rfl⟩
    have d1 : 0 ≤ c2 := by rw [hc2]; exact Int.emod_nonneg _ (by decide)
    have d2 : c2 < 2147483399 := by rw [hc2]; exact Int.emod_lt_of_pos _ (by decide)
    have m1 : okM (cell % 2147483563) 69069 := okM_r (by decide) (by decide)
    have m2 : okM 104723 (k + 1) := okM_l (by decide) (by decide)
    have m3 : okM c1 c1 := okM_r (by omega) (by omega)
    have m4 : okM c2 c2 := okM_r (by omega) (by omega)
    refine ⟨(c2 * c2 + c2 / 7) % 2147483647 / 11 % many, Int.emod_nonneg _ (by omega), Int.emod_lt_of_pos _ h3, ?_⟩
    refine seq_nx (ρ1 := [some (.val (Li ns)), some (.val (.int k)), some (.val (.int many)), some (.val (.int c1)), x4, x5]) (by simp [x_var, m1, m2, hc1]) (seq_nx (ρ1 := [some (.val (Li ns)), some (.val (.int k)), some (.val (.int many)), some (.val (.int c2)), x4, x5]) (by simp [x_var, m3, hc2]) (by simp [x_var, m4, h3]))
  have p1 : gPow (.val (.int 10)) (.val (.int 18)) = .ok (.val (.int 1000000000000000000)) := by simp [gPow, gInt]
  have m0 : okM 7 k := okM_l (by decide) (by decide)
  by_cases hz : ns = []
  · obtain ⟨v, v1, v2, v3⟩ := tail (7 * k) none none
    refine ⟨v, v1, v2, fn_rt (seq_nx (ρ1 := [some (.val (Li ns)), some (.val (.int k)), some (.val (.int many)), some (.val (.int (7 * k))), none, none]) (by simp [st0, x_var, m0]) (seq_nx (if_no (by simp [x_var, x_ne, hz]) rfl) v3))⟩
  · have hl : 0 < ns.length := List.length_pos_iff.mpr hz
    have hl1 : (0 : Int) < (ns.length : Int) := by omega
    have hl2 : (0 : Int) < (ns.length : Int) ∧ (ns.length : Int) < 2 ^ 100 := by
      have : (4000 : Int) < 2 ^ 100 := by decide
      omega
    have r1 := Int.emod_nonneg k (show (ns.length : Int) ≠ 0 by omega)
    have r2 := Int.emod_lt_of_pos k hl1
    have ix := x_ixL ns (k % ns.length) r1 r2
    have gd : gDiv (.val (.int k)) (.val (.int (ns.length : Int))) = .ok (.val (.int (k / ns.length))) := by rw [x_div, if_pos hl2]
    have t1 : 0 ≤ k / (ns.length : Int) := Int.ediv_nonneg h1 (by omega)
    have t2' : k / (ns.length : Int) ≤ k := Int.ediv_le_self _ h1
    generalize nth ns (k % ns.length) = cell at ix
    generalize hT : k / (ns.length : Int) = T at gd t1 t2'
    have gb : (1000000000000000000 : Int) < 2 ^ 100 := by decide
    have gc : gDiv (.val (.int cell)) (.val (.int 1000000000000000000)) = .ok (.val (.int (cell / 1000000000000000000))) := by rw [x_div, if_pos ⟨by decide, gb⟩]
    have m6 : okM 6553 T := okM_l (by decide) (by decide)
    have pre : ∀ o : R Out, (sSeq (sIf (tAnd (t2 cGe (eVar 3) (e2 gPow (eK (.int 10)) (eK (.int 18)))) (t2 cLt (eVar 4) (eK (.int 60)))) (sSeq (sSet 5 (e2 gDiv (eVar 3) (e2 gPow (eK (.int 10)) (eK (.int 18)))))
        (sSeq (sWhile 5000 (tAnd (t2 cGt (eVar 5) (eK (.int 0))) (t2 cGt (eVar 4) (eK (.int 0)))) (b__law_drawn_0))
        (sIf (t2 cGt (eVar 5) (eK (.int 0))) (sRet (e2 gMod (e2 gMod (eVar 5) (eK (.int 1000000))) (eVar 2))) (sNil)))) (sNil))
        (sSet 3 (e2 gAdd (eVar 3) (e2 gMul (eK (.int 6553)) (e2 gDiv (eVar 1) (eB gLen [eVar 0])))))) [some (.val (Li ns)), some (.val (.int k)), some (.val (.int many)), some (.val (.int cell)), some (.val (.int T)), none] = o →
        m__law_drawn (st0 6 [Li ns, .int k, .int many]) = (o >>= seqK (sSeq (sSet 3 (e2 gMod (e2 gAdd (e2 gMul (e2 gMod (eVar 3) (eK (.int 2147483563))) (eK (.int 69069))) (e2 gMul (eK (.int 104723)) (e2 gAdd (eVar 1) (eK (.int 1))))) (eK (.int 2147483563))))
      (sSeq (sSet 3 (e2 gMod (e2 gAdd (e2 gMul (eVar 3) (eVar 3)) (e2 gDiv (eVar 3) (eK (.int 3)))) (eK (.int 2147483399))))
      (sRet (e2 gMod (e2 gDiv (e2 gMod (e2 gAdd (e2 gMul (eVar 3) (eVar 3)) (e2 gDiv (eVar 3) (eK (.int 7)))) (eK (.int 2147483647))) (eK (.int 11))) (eVar 2)))))) := fun o ho => by
      refine seq_nx (ρ1 := [some (.val (Li ns)), some (.val (.int k)), some (.val (.int many)), some (.val (.int (7 * k))), none, none]) (by simp [st0, x_var, m0]) ?_
      rw [x_seq]
      congr 1
      refine if_yes (by simp [x_var, x_ne, hz]) (seq_nx (ρ1 := [some (.val (Li ns)), some (.val (.int k)), some (.val (.int many)), some (.val (.int cell)), none, none]) (by simp [x_var, hl1, hl, ix]) (seq_nx (ρ1 := [some (.val (Li ns)), some (.val (.int k)), some (.val (.int many)), some (.val (.int cell)), some (.val (.int T)), none]) ?_ ho))
      simp [-x_div, x_var, gd]
    have last : ∀ x4 x5 : Option Cl, sSet 3 (e2 gAdd (eVar 3) (e2 gMul (eK (.int 6553)) (e2 gDiv (eVar 1) (eB gLen [eVar 0])))) [some (.val (Li ns)), some (.val (.int k)), some (.val (.int many)), some (.val (.int cell)), x4, x5] = .ok (.nx [some (.val (Li ns)), some (.val (.int k)), some (.val (.int many)), some (.val (.int (cell + 6553 * T))), x4, x5]) := fun x4 x5 => by simp [-x_div, x_var, gd, m6]
    by_cases hb : 1000000000000000000 ≤ cell ∧ T < 60
    · obtain ⟨rest, turn, e⟩ := draw_loop (a := some (.val (Li ns))) (b := some (.val (.int k))) (c := some (.val (.int many))) (d := some (.val (.int cell))) 4999 (cell / 1000000000000000000) T (by omega)
      have cond : tAnd (t2 cGe (eVar 3) (e2 gPow (eK (.int 10)) (eK (.int 18)))) (t2 cLt (eVar 4) (eK (.int 60))) [some (.val (Li ns)), some (.val (.int k)), some (.val (.int many)), some (.val (.int cell)), some (.val (.int T)), none] = .ok true := by simp [x_var, p1, hb.1, hb.2]
      have s5 : sSet 5 (e2 gDiv (eVar 3) (e2 gPow (eK (.int 10)) (eK (.int 18)))) [some (.val (Li ns)), some (.val (.int k)), some (.val (.int many)), some (.val (.int cell)), some (.val (.int T)), none] = .ok (.nx [some (.val (Li ns)), some (.val (.int k)), some (.val (.int many)), some (.val (.int cell)), some (.val (.int T)), some (.val (.int (cell / 1000000000000000000)))]) := by simp [-x_div, x_var, p1, gc]
      by_cases hr : 0 < rest
      · refine ⟨rest % 1000000 % many, Int.emod_nonneg _ (by omega), Int.emod_lt_of_pos _ h3, ?_⟩
        unfold F__law_drawn fnR
        rw [pre (.ok (.rt (.val (.int (rest % 1000000 % many)))))]
        · rfl
        · exact seq_rt (if_yes cond (seq_nx s5 (seq_nx e (if_yes (by simp [x_var, hr]) (by simp [x_var, h3])))))
      · obtain ⟨v, v1, v2, v3⟩ := tail (cell + 6553 * T) (some (.val (.int turn))) (some (.val (.int rest)))
        refine ⟨v, v1, v2, ?_⟩
        unfold F__law_drawn fnR
        rw [pre _ (seq_nx (if_yes cond (seq_nx s5 (seq_nx e (if_no (by simp [x_var, hr]) rfl)))) (last _ _))]
        show (sSeq _ _ _ >>= outV) = _
        rw [v3]
        rfl
    · obtain ⟨v, v1, v2, v3⟩ := tail (cell + 6553 * T) (some (.val (.int T))) none
      refine ⟨v, v1, v2, ?_⟩
      unfold F__law_drawn fnR
      rw [pre _ (seq_nx (if_no ?_ rfl) (last _ _))]
      · show (sSeq _ _ _ >>= outV) = _
        rw [v3]
        rfl
      · by_cases hc : 1000000000000000000 ≤ cell
        · have : ¬ T < 60 := fun z => hb ⟨hc, z⟩
          simp [x_var, p1, hc, this]
        · simp [x_var, p1, hc]
def drw (ns : List Int) (k many : Int) : Int := match F__law_drawn [Li ns, .int k, .int many] with
  | .ok (.val (.int v)) => v
  | _ => 0
theorem drw_eq (ns : List Int) (k many : Int) (h1 : 0 ≤ k) (h2 : k ≤ 4000) (h3 : 0 < many) (hn : ns.length ≤ 1000) : F__law_drawn [Li ns, .int k, .int many] = .ok (.val (.int (drw ns k many))) := by
  obtain ⟨v, _, _, e⟩ := drawn_ok ns k many h1 h2 h3 hn
  unfold drw
  rw [e]
theorem drw_rg (ns : List Int) (k many : Int) (h1 : 0 ≤ k) (h2 : k ≤ 4000) (h3 : 0 < many) (hn : ns.length ≤ 1000) : 0 ≤ drw ns k many ∧ drw ns k many < many := by
  obtain ⟨v, v1, v2, e⟩ := drawn_ok ns k many h1 h2 h3 hn
  unfold drw
  rw [e]
  exact ⟨v1, v2⟩
end Py

set_option Elab.async false
set_option linter.all false
set_option maxRecDepth 100000
set_option autoImplicit false
set_option maxHeartbeats 4000000
/-! LibDrawH: drawn borders, histograms, data within. -/
namespace Py
open PySem L2
theorem last_bor (j : Nat) {l : List Int} (h : l ≠ []) : gIx (.bor j (l.map PyData.int)) (.val (.int (-1))) = .ok (.val (.int (nth l ((l.length : Int) - 1)))) := x_ixLastL h
theorem bordersB (ns : List Int) (hn : ns.length ≤ 1000) {at_ first last : Int} (a0 : 0 ≤ at_) (a1 : at_ ≤ 3000) (f0 : 0 ≤ first) (f1 : first < last) (l1 : last ≤ 1000) :
    ∃ m, F__law_borders [Li ns, .int at_, .int first, .int last] = .ok (.val (Tu (first :: (m ++ [last])))) ∧ VB (first :: (m ++ [last])) ∧ m.length ≤ 3 := by
  have q0 := drw_eq ns at_ 4 a0 (by omega) (by omega) hn
  have p0 := drw_rg ns at_ 4 a0 (by omega) (by omega) hn
  generalize drw ns at_ 4 = N at q0 p0
  obtain ⟨ρ', g1, x5, x6, m, g0, g2, g3, g4⟩ := for_ok (τ := .nm 5) (B := b__law_borders_0) (fun i ρ => ∃ (x5 x6 : Option Cl) (m : List Int), ρ = [some (.val (Li ns)), some (.val (.int at_)), some (.val (.int first)), some (.val (.int last)), some (.own ((first :: m).map PyData.int)), x5, x6] ∧ m.length ≤ i ∧ (first :: m).Pairwise (· < ·) ∧ ∀ x ∈ m, x < last) (rangeD 0 N.toNat) 0
    [some (.val (Li ns)), some (.val (.int at_)), some (.val (.int first)), some (.val (.int last)), some (.own [.int first]), none, none] ⟨none, none, [], rfl, by simp, by simp, by simp⟩ (by
    rintro i ρ d hd ⟨x5, x6, m, rfl, h1, h2, h3⟩
    rw [Nat.zero_add] at h1 ⊢
    obtain ⟨rfl, hi⟩ := rg0_get hd
    have q := drw_eq ns (at_ + 1 + (i : Int)) 8 (by omega) (by omega) (by omega) hn
    have p := drw_rg ns (at_ + 1 + (i : Int)) 8 (by omega) (by omega) (by omega) hn
    have lb := last_bor 4 (l := first :: m) (by simp)
    have hmem := nth_mem (l := first :: m) (i := m.length) (by simp)
    have ec : ((first :: m).length : Int) - 1 = (m.length : Int) := by simp
    rw [ec] at lb
    generalize hL : nth (first :: m) (m.length : Int) = L at lb hmem
    generalize drw ns (at_ + 1 + (i : Int)) 8 = D at q p
    have z : m.length ≤ 999999 := by omega
    have hle : ∀ x ∈ first :: m, x ≤ L := fun x hx => by
      obtain ⟨j, hj, rfl⟩ := List.getElem_of_mem hx
      have := nth_mono h2 (show j ≤ m.length by simp at hj; omega) (by simp)
      rw [nth_elem hj, hL] at this
      exact this
    simp only [List.map_cons] at lb
    have s1 : sSet 6 (eF (e2 gAdd (e2 gAdd (e2 gIx (eVar 4) (eNeg (eK (.int 1)))) (eK (.int 1))) (eCall F__law_drawn [eVar 0, e2 gAdd (e2 gAdd (eVar 1) (eK (.int 1))) (eVar 5), eK (.int 8)]))) [some (.val (Li ns)), some (.val (.int at_)), some (.val (.int first)), some (.val (.int last)), some (.own ((first :: m).map PyData.int)), some (.val (.int i)), x6] = .ok (.nx [some (.val (Li ns)), some (.val (.int at_)), some (.val (.int first)), some (.val (.int last)), some (.own ((first :: m).map PyData.int)), some (.val (.int i)), some (.val (.int (L + 1 + D)))]) := by simp [x_var, lb, q]
    by_cases hlt : L + 1 + D < last
    · refine ⟨_, rfl, [some (.val (Li ns)), some (.val (.int at_)), some (.val (.int first)), some (.val (.int last)), some (.own ((first :: (m ++ [L + 1 + D])).map PyData.int)), some (.val (.int i)), some (.val (.int (L + 1 + D)))], seq_nx s1 (if_yes (by simp [x_var, hlt]) ?_), _, _, m ++ [L + 1 + D], rfl, by rw [List.length_append, List.length_singleton]; omega, ?_, fun x hx => ?_⟩
      · rw [x_app]
        simp [ownAt, x_var, z]
      · rw [← List.cons_append, List.pairwise_append]
        exact ⟨h2, by simp, fun x hx y hy => by simp at hy; subst hy; have := hle x hx; omega⟩
      · rcases List.mem_append.mp hx with w | w
        · exact h3 x w
        · simp at w; omega
    · exact ⟨_, rfl, _, seq_nx s1 (if_no (by simp [x_var, hlt]) rfl), _, _, m, rfl, by omega, h2, h3⟩)
  rw [Nat.zero_add, rg_len] at g2
  rw [g0] at g1
  have r1 : okR N := okR_of (by omega) (by omega)
  have z : m.length + 1 + 1 ≤ 1000000 := by omega
  refine ⟨m, ?_, ⟨by simp, by simp; omega, fun x hx => ?_, ?_⟩, by omega⟩
  · refine fn_rt (seq_nx (ρ1 := [some (.val (Li ns)), some (.val (.int at_)), some (.val (.int first)), some (.val (.int last)), some (.own [.int first]), none, none]) (by simp [st0, x_var]) (seq_nx (for_nx (by simp [x_var, q0, r1]) g1) ?_))
    have eg : ∀ j : Nat, gAdd (.bor j ((first :: m).map PyData.int)) (.val (.list [.int last])) = .ok (.own ((first :: (m ++ [last])).map PyData.int)) := fun j => by
      show (if ((first :: m).map PyData.int).length + [PyData.int last].length ≤ 1000000 then R.ok (Rv.own ((first :: m).map PyData.int ++ [.int last])) else .bad) = _
      rw [if_pos (by simp; omega)]
      simp
    have eg := eg 4
    generalize hA : (first :: m).map PyData.int = A at eg
    generalize hB : first :: (m ++ [last]) = B at eg
    simp [x_var, eg]
  · have hh := (List.pairwise_cons.mp g3).1
    rcases List.mem_cons.mp hx with rfl | w
    · omega
    · rcases List.mem_append.mp w with w | w
      · have := hh x w
        have := g4 x w
        omega
      · simp at w; omega
  · rw [← List.cons_append, List.pairwise_append]
    refine ⟨g3, by simp, fun x hx y hy => ?_⟩
    simp at hy
    subst hy
    rcases List.mem_cons.mp hx with rfl | w
    · omega
    · exact g4 x w
theorem histB (ns : List Int) (hn : ns.length ≤ 1000) {at_ : Int} (a0 : 0 ≤ at_) (a1 : at_ ≤ 2900) : ∃ x m c, F__law_histogram [Li ns, .int at_] = .ok (.val (Hi (x :: (m ++ [30])) c)) ∧ VH (x :: (m ++ [30])) c ∧ (0 ≤ x ∧ x < 3) ∧ m.length ≤ 3 ∧ ∀ k ∈ c, k ≤ 3 := by
  have q := drw_eq ns (at_ + 6) 3 (by omega) (by omega) (by omega) hn
  have p := drw_rg ns (at_ + 6) 3 (by omega) (by omega) (by omega) hn
  generalize drw ns (at_ + 6) 3 = x at q p
  obtain ⟨m, e, vb, hm⟩ := bordersB ns hn (at_ := at_) (first := x) (last := 30) a0 (by omega) p.1 (by omega) (by omega)
  generalize hb : x :: (m ++ [30]) = b at e vb
  have hl : b.length = m.length + 2 := by rw [← hb]; simp
  have c1 : okR ((b.length : Int) - 1) := okR_of (by omega) (by omega)
  have c2 : ((b.length : Int) - 1).toNat = b.length - 1 := by omega
  have el : lcR (.nm 3) tYes (eCall F__law_drawn [eVar 0, e2 gAdd (e2 gAdd (eVar 1) (eK (.int 7))) (eVar 3), eK (.int 4)]) [some (.val (Li ns)), some (.val (.int at_)), some (.val (Tu b)), none] (rangeD 0 (b.length - 1)) = .ok (((List.range (b.length - 1)).map fun k : Nat => drw ns (at_ + 7 + (k : Int)) 4).map PyData.int) := by
    rw [rangeD0, List.map_map]
    refine lc_map _ _ _ fun k hk => ⟨_, rfl, .val (.int (drw ns (at_ + 7 + (k : Int)) 4)), ?_, rfl⟩
    rw [List.mem_range] at hk
    simp [x_var, drw_eq ns (at_ + 7 + (k : Int)) 4 (by omega) (by omega) (by omega) hn]
  have hc : ∀ y ∈ (List.range (b.length - 1)).map (fun k : Nat => drw ns (at_ + 7 + (k : Int)) 4), 0 ≤ y ∧ y ≤ 3 := fun y hy => by
    obtain ⟨k, hk, rfl⟩ := List.mem_map.mp hy
    rw [List.mem_range] at hk
    have := drw_rg ns (at_ + 7 + (k : Int)) 4 (by omega) (by omega) (by omega) hn
    omega
  have hcl : ((List.range (b.length - 1)).map fun k : Nat => drw ns (at_ + 7 + (k : Int)) 4).length = b.length - 1 := by simp
  generalize ((List.range (b.length - 1)).map fun k : Nat => drw ns (at_ + 7 + (k : Int)) 4) = c at el hc hcl
  have hs := (sum_le hc).2
  have z : b.length ≤ 1000001 := by omega
  refine ⟨x, m, c, ?_, by rw [hb]; exact ⟨vb, by omega, fun y hy => by have := hc y hy; omega, by omega⟩, p, hm, fun y hy => (hc y hy).2⟩
  rw [hb]
  refine fn_rt (seq_nx (ρ1 := [some (.val (Li ns)), some (.val (.int at_)), some (.val (Tu b)), none]) (by simp [st0, x_var, q, e]) ?_)
  simp [x_var, c1, c2, wipeE, z, el]
end Py

set_option Elab.async false
set_option linter.all false
set_option maxRecDepth 100000
set_option autoImplicit false
set_option maxHeartbeats 4000000
/-! LibUnion: unions of data and of histograms. -/
namespace Py
open PySem L2
theorem VD.union {d e : List Int} (hd : VD d) (he : VD e) (hl : d.length + e.length ≤ 200) : VD (srt (d ++ e)) := by
  refine ⟨by rw [(srt_perm _).length_eq, List.length_append]; exact hl, fun x hx => ?_, srt_le _⟩
  rcases List.mem_append.mp ((srt_perm _).mem_iff.mp hx) with q | q
  · exact hd.rg x q
  · exact he.rg x q
def addL (c c' : List Int) : List Int := (c.zip c').map fun p => p.1 + p.2
theorem sum_addL : ∀ {c c' : List Int}, c.length = c'.length → (addL c c').sum = c.sum + c'.sum
  | [], [], _ => rfl
  | a :: c, b :: c', h => by
    have ih := sum_addL (c := c) (c' := c') (by simpa using h)
    unfold addL at ih ⊢
    rw [List.zip_cons_cons, List.map_cons, List.sum_cons, ih, List.sum_cons, List.sum_cons]
    omega
  | [], _ :: _, h => by simp at h
  | _ :: _, [], h => by simp at h
theorem cnts_app {a d e : List Int} : cnts a (d ++ e) = addL (cnts a d) (cnts a e) := by
  unfold cnts addL
  rw [List.zip_map', List.map_map]
  refine List.map_congr_left fun p _ => ?_
  unfold inside
  simp only [Function.comp]
  rw [List.filter_append, List.length_append]
  omega
def inter (b b' : List Int) : List Int := b.filter fun x => decide (x ∈ b')
theorem inter_csr {b b' : List Int} (h : VB b) (h' : VB b') (hf : nth b 0 = nth b' 0) (hl : nth b ((b.length : Int) - 1) = nth b' ((b'.length : Int) - 1)) : Csr (inter b b') b ∧ Csr (inter b b') b' := by
  have lo := h.lo
  have lo' := h'.lo
  have m0 := nth_mem (l := b) (i := 0) (by omega)
  have m1 := nth_mem (l := b) (i := b.length - 1) (by omega)
  have m2 := nth_mem (l := b') (i := 0) (by omega)
  have m3 := nth_mem (l := b') (i := b'.length - 1) (by omega)
  rw [show ((b.length - 1 : Nat) : Int) = (b.length : Int) - 1 by omega] at m1
  rw [show ((b'.length - 1 : Nat) : Int) = (b'.length : Int) - 1 by omega] at m3
  have e0 : ((0 : Nat) : Int) = 0 := rfl
  rw [e0] at m0 m2
  have hlt : nth b 0 < nth b ((b.length : Int) - 1) := by
    have := List.pairwise_iff_getElem.mp h.inc 0 (b.length - 1) (by omega) (by omega) (by omega)
    rw [← nth_elem, ← nth_elem, show ((b.length - 1 : Nat) : Int) = (b.length : Int) - 1 by omega] at this
    exact this
  have i0 : nth b 0 ∈ inter b b' := List.mem_filter.mpr ⟨m0, by simpa [hf] using m2⟩
  have i1 : nth b ((b.length : Int) - 1) ∈ inter b b' := List.mem_filter.mpr ⟨m1, by simpa [hl] using m3⟩
  have inc : (inter b b').Pairwise (· < ·) := h.inc.sublist List.filter_sublist
  have vb : VB (inter b b') := ⟨len_two i0 i1 (by omega), by have := List.length_filter_le (fun x => decide (x ∈ b')) b; have := h.hi; show (b.filter _).length ≤ 12; omega, fun x hx => h.rg x (List.mem_filter.mp hx).1, inc⟩
  have a0 := ends_of inc i0
  have a1 := ends_of inc i1
  have lv := vb.lo
  have b0 := nth_mem (l := inter b b') (i := 0) (by omega)
  have b1 := nth_mem (l := inter b b') (i := (inter b b').length - 1) (by omega)
  rw [show (((inter b b').length - 1 : Nat) : Int) = ((inter b b').length : Int) - 1 by omega] at b1
  rw [e0] at b0
  have c0 := ends_of h.inc (List.mem_filter.mp b0).1
  have c1 := ends_of h.inc (List.mem_filter.mp b1).1
  have f1 : nth (inter b b') 0 = nth b 0 := by omega
  have f2 : nth (inter b b') (((inter b b').length : Int) - 1) = nth b ((b.length : Int) - 1) := by omega
  exact ⟨⟨vb, fun x hx => (List.mem_filter.mp hx).1, f1, f2⟩, ⟨vb, fun x hx => by simpa using (List.mem_filter.mp hx).2, by rw [f1, hf], by rw [f2, hl]⟩⟩
theorem inter_comm {b b' : List Int} (h : VB b) (h' : VB b') : inter b b' = inter b' b :=
  lt_unique (h.inc.sublist List.filter_sublist) (h'.inc.sublist List.filter_sublist) fun x => by
    unfold inter
    rw [List.mem_filter, List.mem_filter, decide_eq_true_eq, decide_eq_true_eq, and_comm]
theorem inter_self {b : List Int} : inter b b = b := List.filter_eq_self.mpr fun x hx => by simpa using hx
end Py

set_option Elab.async false
set_option linter.all false
set_option maxRecDepth 100000
set_option autoImplicit false
set_option maxHeartbeats 4000000
/-! LibWithin: data drawn within a histogram. -/
namespace Py
open PySem L2
theorem x_iEn (φ : En → R Rv) (ρ : En) : iEn φ ρ = (φ ρ >>= fun x => enOf (frz x)) := id rfl
theorem x_enOf (x : Rv) : enOf x = (seqOf x >>= fun a => .ok (a.1, enD 0 a.2)) := id rfl
theorem en_len : ∀ (k : Nat) (ds : List PyData), (enD k ds).length = ds.length
  | _, [] => rfl
  | k, d :: ds => by rw [enD, List.length_cons, en_len (k + 1) ds, List.length_cons]
theorem en_ints : ∀ {c : List Int} {i k : Nat} {d : PyData}, (enD k (c.map PyData.int))[i]? = some d → i < c.length ∧ d = .tuple [.int ((k + i : Nat) : Int), .int (nth c (i : Int))]
  | [], i, k, d, h => by simp [enD] at h
  | a :: as, 0, k, d, h => by
    simp only [List.map_cons, enD, List.getElem?_cons_zero, Option.some.injEq] at h
    exact ⟨by simp, by rw [← h]; simp [nth]⟩
  | a :: as, i + 1, k, d, h => by
    rw [List.map_cons, enD, List.getElem?_cons_succ] at h
    obtain ⟨h1, h2⟩ := en_ints h
    refine ⟨by simpa using h1, ?_⟩
    rw [h2, nth_cons_succ, show k + 1 + i = k + (i + 1) by omega]
end Py

set_option Elab.async false
set_option linter.all false
set_option maxRecDepth 100000
set_option autoImplicit false
set_option maxHeartbeats 4000000
/-! LibUnion2: laws of unions. -/
namespace Py
open PySem L2
theorem nil_vd : VD [] := ⟨by simp, by simp, by simp⟩
theorem srt_comm (d e : List Int) : srt (d ++ e) = srt (e ++ d) :=
  le_unique (srt_le _) (srt_le _) ((srt_perm _).trans (List.perm_append_comm.trans (srt_perm _).symm))
theorem eq_of_lt {x y : Int} (h : ∀ v, x < v ↔ y < v) : x = y := by
  have h1 := (h (x + 1)).mp (by omega)
  have h2 := (h (y + 1)).mpr (by omega)
  omega
theorem srt_len (l : List Int) : (srt l).length = l.length := (srt_perm l).length_eq
theorem srt_mono {l m h : List Int} (t : Btw l m h) {i : Nat} (hi : i < m.length) : nth (srt l) i ≤ nth (srt m) i ∧ nth (srt m) i ≤ nth (srt h) i := by
  obtain ⟨e1, e2'⟩ := t.len
  have b := t.blw
  constructor
  · by_cases hc : nth (srt l) i ≤ nth (srt m) i
    · exact hc
    · have q := (below_iff (srt_le m) i (by rw [srt_len]; omega) (v := nth (srt l) i)).mp (by omega)
      have := b (nth (srt l) i)
      rw [below_perm (srt_perm m)] at q
      have q2 := (below_iff (srt_le l) i (by rw [srt_len]; omega) (v := nth (srt l) i)).mpr (by rw [below_perm (srt_perm l)]; omega)
      omega
  · by_cases hc : nth (srt m) i ≤ nth (srt h) i
    · exact hc
    · have q := (below_iff (srt_le h) i (by rw [srt_len]; omega) (v := nth (srt m) i)).mp (by omega)
      have := b (nth (srt m) i)
      rw [below_perm (srt_perm h)] at q
      have q2 := (below_iff (srt_le m) i (by rw [srt_len]; omega) (v := nth (srt m) i)).mpr (by rw [below_perm (srt_perm m)]; omega)
      omega
theorem srt_twice {l : List Int} (h : l.Pairwise (· ≤ ·)) {r : Int} (r1 : 1 ≤ r) (r2 : r ≤ l.length) : nth (srt (l ++ l)) (2 * r - 1) = nth l (r - 1) := by
  refine eq_of_lt fun v => ?_
  have a := below_iff (srt_le (l ++ l)) (2 * r - 1).toNat (by rw [srt_len, List.length_append]; omega) (v := v)
  have b := below_iff h (r - 1).toNat (by omega) (v := v)
  rw [below_perm (srt_perm _), below_app] at a
  rw [show (((2 * r - 1).toNat : Nat) : Int) = 2 * r - 1 by omega] at a
  rw [show (((r - 1).toNat : Nat) : Int) = r - 1 by omega] at b
  rw [a, b]
  omega
theorem addL_comm : ∀ (c c' : List Int), addL c c' = addL c' c
  | [], [] => rfl
  | [], _ :: _ => rfl
  | _ :: _, [] => rfl
  | a :: c, b :: c' => by
    have ih := addL_comm c c'
    unfold addL at ih ⊢
    rw [List.zip_cons_cons, List.zip_cons_cons, List.map_cons, List.map_cons, ih, Int.add_comm]
theorem addL_len {c c' : List Int} (h : c.length = c'.length) : (addL c c').length = c.length := by
  unfold addL
  rw [List.length_map, List.length_zip, h, Nat.min_self]
theorem addL_rg {c c' : List Int} {m m' : Int} (h : ∀ x ∈ c, 0 ≤ x ∧ x ≤ m) (h' : ∀ x ∈ c', 0 ≤ x ∧ x ≤ m') : ∀ x ∈ addL c c', 0 ≤ x ∧ x ≤ m + m' := fun x hx => by
  obtain ⟨p, hp, rfl⟩ := List.mem_map.mp hx
  have := h _ (List.of_mem_zip hp).1
  have := h' _ (List.of_mem_zip hp).2
  omega
theorem vh_add {b c c' : List Int} (h : VH b c) (h' : VH b c') (h60 : ∀ x ∈ addL c c', x ≤ 60) (hs : c.sum + c'.sum ≤ 200) : VH b (addL c c') ∧ (addL c c').sum = c.sum + c'.sum ∧ addL c c' ≠ [] := by
  have e : c.length = c'.length := by have := h.len; have := h'.len; omega
  have l := addL_len e
  have lo := h.vb.lo
  have hl := h.len
  refine ⟨⟨h.vb, by rw [l]; exact hl, fun x hx => ⟨(addL_rg h.rg h'.rg x hx).1, h60 x hx⟩, by rw [sum_addL e]; exact hs⟩, sum_addL e, List.length_pos_iff.mp (by omega)⟩
theorem bkt_some {b : List Int} {v : Int} (h1 : nth b 0 ≤ v) (h2 : v < nth b ((b.length : Int) - 1)) : bkt b v = .int ((upTo b v : Int) - 1) := if_pos ⟨h1, h2⟩
theorem zero_low : ∀ (b : List Int) (n : Nat), low b (List.replicate n 0) = [] ∧ high b (List.replicate n 0) = [] := fun b n => by
  have hz : ∀ l : List Int, fill (l.zip (List.replicate n 0)) = [] := fun l => by
    unfold fill
    rw [List.flatMap_eq_nil_iff]
    intro p hp
    have := List.eq_of_mem_replicate (List.of_mem_zip hp).2
    rw [this]
    rfl
  exact ⟨hz _, hz _⟩
theorem zero_vh {b c : List Int} (h : VH b c) : VH b (List.replicate c.length 0) ∧ (List.replicate c.length (0 : Int)).sum = 0 := by
  have e : (List.replicate c.length (0 : Int)).sum = 0 := by
    induction c.length with
    | zero => rfl
    | succ n ih => rw [List.replicate_succ, List.sum_cons, ih]; rfl
  exact ⟨⟨h.vb, by rw [List.length_replicate]; exact h.len, fun x hx => by have := List.eq_of_mem_replicate hx; omega, by omega⟩, e⟩
theorem vh_zero {x : Int} {t c : List Int} (h : VH (x :: t) c) (hx : 0 ≤ x) : VH (0 :: t) c := by
  have i := List.pairwise_cons.mp h.vb.inc
  refine ⟨⟨h.vb.lo, h.vb.hi, fun y hy => ?_, List.pairwise_cons.mpr ⟨fun y hy => by have := i.1 y hy; omega, i.2⟩⟩, h.len, h.rg, h.sum⟩
  rcases List.mem_cons.mp hy with rfl | q
  · omega
  · exact h.vb.rg y (List.mem_cons_of_mem _ q)
end Py

set_option Elab.async false
set_option linter.all false
set_option maxRecDepth 100000
set_option autoImplicit false
set_option maxHeartbeats 4000000
/-! LibValues: drawn data. -/
namespace Py
open PySem L2
theorem values_gen (ns : List Int) (hn : ns.length ≤ 1000) {a m l : Int} (a0 : 0 ≤ a) (a1 : a ≤ 3000) (m0 : 0 ≤ m) (m1 : m ≤ 60) (l0 : 1 ≤ l) (l1 : l ≤ 1000) : ∃ d, F__law_values [Li ns, .int a, .int m, .int l] = .ok (.own (d.map PyData.int)) ∧ VD d ∧ (∀ v ∈ d, v < l) ∧ (d.length : Int) ≤ m := by
  have q := drw_eq ns a (m + 1) (by omega) (by omega) (by omega) hn
  have p := drw_rg ns a (m + 1) (by omega) (by omega) (by omega) hn
  generalize drw ns a (m + 1) = k at q p
  have el : lcR (.nm 4) tYes (eCall F__law_drawn [eVar 0, e2 gAdd (e2 gAdd (eVar 1) (eK (.int 1))) (eVar 4), eVar 3]) [some (.val (Li ns)), some (.val (.int a)), some (.val (.int m)), some (.val (.int l)), none] (rangeD 0 k.toNat) = .ok (((List.range k.toNat).map fun j : Nat => drw ns (a + 1 + (j : Int)) l).map PyData.int) := by
    rw [rangeD0, List.map_map]
    refine lc_map _ _ _ fun j hj => ⟨_, rfl, .val (.int (drw ns (a + 1 + (j : Int)) l)), ?_, rfl⟩
    rw [List.mem_range] at hj
    simp [x_var, drw_eq ns (a + 1 + (j : Int)) l (by omega) (by omega) (by omega) hn]
  have hd : ∀ y ∈ (List.range k.toNat).map (fun j : Nat => drw ns (a + 1 + (j : Int)) l), 0 ≤ y ∧ y < l := fun y hy => by
    obtain ⟨j, hj, rfl⟩ := List.mem_map.mp hy
    rw [List.mem_range] at hj
    exact drw_rg ns (a + 1 + (j : Int)) l (by omega) (by omega) (by omega) hn
  have hl : ((List.range k.toNat).map fun j : Nat => drw ns (a + 1 + (j : Int)) l).length = k.toNat := by simp
  generalize (List.range k.toNat).map (fun j : Nat => drw ns (a + 1 + (j : Int)) l) = L at *
  have sl : (srt L).length = L.length := (srt_perm L).length_eq
  have sm : ∀ y ∈ srt L, 0 ≤ y ∧ y < l := fun y hy => hd y ((srt_perm L).mem_iff.mp hy)
  refine ⟨srt L, ?_, ⟨by omega, fun x hx => by have := sm x hx; omega, srt_le L⟩, fun x hx => (sm x hx).2, by omega⟩
  have c1 : okR k := okR_of (by omega) (by omega)
  have mz : k.toNat ≤ 1000000 := by omega
  have so := x_sortL L (by omega)
  generalize srt L = S at so ⊢
  generalize L.map PyData.int = LL at so el
  refine fn_rt ?_
  simp [m__law_values, st0, x_var, q, c1, mz, wipeE, el, so]
end Py

set_option Elab.async false
set_option linter.all false
set_option maxRecDepth 100000
set_option autoImplicit false
set_option maxHeartbeats 4000000
/-! LibBad: values that are no histograms, no data. -/
namespace Py
open PySem L2
def oddH : List PyData := [.none, .tuple [], .tuple [.tuple [.int 0, .int 1], .tuple [.int 1, .int 2]], .tuple [.tuple [.int 0, .int 1], .tuple [.int 61]], .tuple [.tuple [.int 0, .int 1], .tuple [.int (-1)]], .tuple [.tuple [.int 0], .tuple []], .tuple [.tuple [.int 1, .int 0], .tuple [.int 1]], .tuple [.tuple [.int 0, .int 1001], .tuple [.int 1]],
  .list [.tuple [.int 0, .int 1], .tuple [.int 1]], .tuple [.tuple [.int 0, .int 1], .list [.int 1]], .tuple [.tuple [.int 0, .int 1], .tuple [.bool true]], .tuple [.tuple [.int 0, .int 1, .int 2, .int 3, .int 4, .int 5], .tuple [.int 50, .int 50, .int 50, .int 50, .int 50]]]
theorem fx_oddH : (oddH.map fun o => F_is_histogram [o]) = List.replicate 12 (.ok (.val (.bool false))) := by kernel_rfl
theorem oddH_no {o : PyData} (ho : o ∈ oddH) : F_is_histogram [o] = .ok (.val (.bool false)) := by
  have m : F_is_histogram [o] ∈ List.replicate 12 (R.ok (Cr.val (.bool false))) := by rw [← fx_oddH]; exact List.mem_map.mpr ⟨o, ho, rfl⟩
  exact List.eq_of_mem_replicate m
theorem badhist_eq (ns : List Int) (hn : ns.length ≤ 1000) {p : Int} (p0 : 0 ≤ p) (p1 : p ≤ 3000) : ∃ o ∈ oddH, F__law_badhist [Li ns, .int p] = .ok (.val o) := by
  have q := drw_eq ns p 12 (by omega) (by omega) (by omega) hn
  have r := drw_rg ns p 12 (by omega) (by omega) (by omega) hn
  generalize drw ns p 12 = k at q r
  obtain ⟨j, rfl⟩ := Int.eq_ofNat_of_zero_le r.1
  have hj : j < oddH.length := by show j < 12; omega
  refine ⟨oddH[j], List.getElem_mem hj, ?_⟩
  have ix : gIx (.val (.list oddH)) (.val (.int (j : Int))) = .ok (.val oddH[j]) := by
    have : atI oddH (j : Int) = some oddH[j] := by rw [atI_nat, List.getElem?_eq_getElem hj]
    simp [gIx, this]
  generalize oddH[j] = z at ix ⊢
  refine fn_rt (seq_nx (ρ1 := [some (.val (Li ns)), some (.val (.int p)), some (.val (.list (oddH.take 8)))]) (by simp [st0, x_var, oddH]) (seq_nx (ρ1 := [some (.val (Li ns)), some (.val (.int p)), some (.val (.list oddH))]) (by simp [x_var, oddH, List.replicate]) ?_))
  generalize oddH = O at ix ⊢
  simp [x_var, q, ix]
end Py

set_option Elab.async false
set_option linter.all false
set_option maxRecDepth 100000
set_option autoImplicit false
set_option maxHeartbeats 4000000
/-! LibText: numbers and words as texts. -/
namespace Py
open PySem L2
open SX (S)
open TL (joinL spl numL)
abbrev Nu (n : Int) : List Nat := numL n.toNat
theorem k_sp : Str.ofString " " = S [32] := by kernel_rfl
theorem k_sb : Str.ofString " [" = S [32, 91] := by kernel_rfl
theorem k_rb : Str.ofString "]" = S [93] := by kernel_rfl
theorem k_rs : Str.ofString "] " = S [93, 32] := by kernel_rfl
theorem k_st : Str.ofString "*" = S [42] := by kernel_rfl
theorem k_em : Str.ofString "" = S [] := by kernel_rfl
theorem k_dg : Str.ofString "0123456789" = S [48, 49, 50, 51, 52, 53, 54, 55, 56, 57] := by kernel_rfl
theorem Nu_len {n : Int} (h1 : n ≤ 9999) : (Nu n).length ≤ 4 := TL.numL_len (by decide) (by omega)
theorem Nu_len2 {n : Int} (h1 : n ≤ 99) : (Nu n).length ≤ 2 := TL.numL_len (by decide) (by omega)
theorem Nu_len1 {n : Int} (h1 : n ≤ 9) : (Nu n).length ≤ 1 := TL.numL_len (by decide) (by omega)
theorem Nu_ne (n : Int) : Nu n ≠ [] := TL.numL_ne _
theorem Nu_free {n : Int} {s : Nat} (h : s < 48 ∨ 57 < s) : s ∉ Nu n := TL.numL_free h
theorem str_eq {n : Int} (h0 : 0 ≤ n) (h1 : n ≤ 100000) : gStr [.val (.int n)] = .ok (.val (.str (S (Nu n)))) := by
  obtain ⟨m, rfl⟩ := Int.eq_ofNat_of_zero_le h0
  have hz : (m : Int).natAbs.log2 < 1920 := by
    show m.log2 < 1920
    by_cases hm : m = 0
    · subst hm; decide
    · rw [Nat.log2_lt hm]
      exact Nat.lt_of_lt_of_le (show m < 2 ^ 17 by omega) (Nat.pow_le_pow_right (by decide) (by decide))
  show (if (m : Int).natAbs.log2 < 1920 then R.ok (Rv.val (.str (Str.ofString (toString (m : Int))))) else .bad) = _
  rw [if_pos hz, SX.num_S]
  rfl
theorem addS (a b : List Nat) (h : a.length + b.length ≤ 1000000) : gAdd (.val (.str (S a))) (.val (.str (S b))) = .ok (.val (.str (S (a ++ b)))) := by
  show (if (S a).length + (S b).length ≤ 1000000 then R.ok (Rv.val (.str (S a ++ S b))) else .bad) = _
  rw [SX.S_len, SX.S_len, if_pos h, SX.S_cat]
theorem joinS (ws : List (List Nat)) (h : (ws.map (·.length)).sum + ws.length ≤ 1000000) : gJoin (S [32]) (.val (.list (ws.map fun w => PyData.str (S w)))) = .ok (.val (.str (S (joinL [32] ws)))) := by
  have e : (ws.map fun w => PyData.str (S w)) = (ws.map S).map PyData.str := by rw [List.map_map]; rfl
  unfold gJoin
  rw [x_datV, e]
  show (match asStrs ((ws.map S).map PyData.str) with | some ys => if (ys.map fun y : Str => y.length).sum + ys.length * (S [32]).length ≤ 1000000 then R.ok (Rv.val (.str (Txt.join (S [32]) ys))) else .bad | none => .bad) = _
  rw [asStrs_map]
  show (if ((ws.map S).map (·.length)).sum + (ws.map S).length * (S [32]).length ≤ 1000000 then R.ok (Rv.val (.str (Txt.join (S [32]) (ws.map S)))) else .bad) = _
  rw [SX.lens, SX.join_S, List.length_map, if_pos (by rw [SX.S_len]; simpa using h)]
theorem splitS {s : Nat} (hs : s < 256) (t : List Nat) (h : t.length ≤ 1000000) : gSplit (S t) (.val (.str (S [s]))) = .ok (.own ((spl [s] 0 [] t).map fun w => PyData.str (S w))) := by
  have e := SX.split_S (a := t) (b := [s]) (by simp) (by simp [hs])
  show (if ((S [s]).length == 0) = false ∧ (S t).length ≤ 1000000 then R.ok (Rv.own ((Txt.split (S t) (S [s])).map PyData.str)) else .bad) = _
  rw [e, SX.S_len, SX.S_len, if_pos ⟨rfl, h⟩, List.map_map]
  rfl
theorem spl_ok (s : Nat) : ∀ (l acc : List Nat), (spl [s] 0 acc l).length ≤ l.length + 1 ∧ spl [s] 0 acc l ≠ [] ∧ ∀ w ∈ spl [s] 0 acc l, w.length ≤ acc.length + l.length
  | [], acc => ⟨by simp [spl], by simp [spl], fun w hw => by simp [spl] at hw; subst hw; simp⟩
  | c :: l, acc => by
    unfold spl
    by_cases h : TL.pre [s] (c :: l) = true
    · rw [if_pos h]
      obtain ⟨a, b, d⟩ := spl_ok s l []
      show (acc :: spl [s] 0 [] l).length ≤ _ ∧ _
      refine ⟨by simp only [List.length_cons]; omega, by simp, fun w hw => ?_⟩
      rcases List.mem_cons.mp hw with e | e
      · subst e; omega
      · have := d w e
        simp only [List.length_cons, List.length_nil] at *
        omega
    · rw [if_neg h]
      obtain ⟨a, b, d⟩ := spl_ok s l (acc ++ [c])
      refine ⟨by simp only [List.length_cons]; omega, b, fun w hw => ?_⟩
      have := d w hw
      simp only [List.length_append, List.length_cons, List.length_nil] at *
      omega
theorem joinL_cons (s p : List Nat) {l : List (List Nat)} (h : l ≠ []) : joinL s (p :: l) = p ++ (s ++ joinL s l) := by
  match l, h with
  | q :: r, _ => rfl
theorem joinL_snoc (s q : List Nat) : ∀ {l : List (List Nat)}, l ≠ [] → joinL s (l ++ [q]) = joinL s l ++ (s ++ q)
  | [], h => absurd rfl h
  | [p], _ => rfl
  | p :: r :: l, _ => by
    rw [List.cons_append, joinL_cons s p (by simp), joinL_snoc s q (by simp), joinL_cons s p (by simp)]
    simp [List.append_assoc]
theorem joinL_len {m : Nat} : ∀ {l : List (List Nat)}, (∀ w ∈ l, w.length ≤ m) → (joinL [32] l).length ≤ (m + 1) * l.length
  | [], _ => by simp [joinL]
  | [p], h => by
    have := h p (by simp)
    simp [joinL]
    omega
  | p :: q :: r, h => by
    have h1 := h p (by simp)
    have ih := joinL_len (l := q :: r) fun w hw => h w (List.mem_cons_of_mem _ hw)
    rw [joinL_cons _ _ (by simp)]
    simp only [List.length_append, List.length_cons, List.length_nil] at *
    rw [Nat.mul_add, Nat.mul_add] at *
    omega
/-! numbers read -/
def rdN (a : List Nat) : PyData := if (1 ≤ a.length ∧ a.length ≤ 4) ∧ (∀ c ∈ a, 48 ≤ c ∧ c ≤ 57) then .int (NumText.digitsVal a : Nat) else .none
theorem in_dig (c : Nat) : cIn (.val (.str ⟨#[c]⟩)) (.val (.str (Str.ofString "0123456789"))) = .ok (decide (48 ≤ c ∧ c ≤ 57)) := by
  rw [k_dg]
  show R.ok (!(Builtin.Str.occurrences (S [48, 49, 50, 51, 52, 53, 54, 55, 56, 57]) (S [c]) 0 (S [48, 49, 50, 51, 52, 53, 54, 55, 56, 57]).length 1).isEmpty) = _
  rw [SX.in_one]
  congr 1
  refine decide_eq_decide.mpr ?_
  simp only [List.mem_cons, List.not_mem_nil, or_false]
  omega
theorem read_eq (a : List Nat) (h : a.length ≤ 1000000) : F_read_number [.str (S a)] = .ok (.val (rdN a)) := by
  have gl : gLen [.val (.str (S a))] = .ok (.val (.int a.length)) := by
    show (if (S a).length ≤ 1000000 then R.ok (Rv.val (.int ((S a).length : Nat))) else .bad) = _
    rw [SX.S_len, if_pos h]
  have el : lcR (.nm 1) tYes (eT (t2 cIn (eVar 1) (eK (.str "0123456789")))) [some (.val (.str (S a))), none] (chrD (S a)) = .ok (a.map fun c => PyData.bool (decide (48 ≤ c ∧ c ≤ 57))) := by
    refine lc_map (fun c : Nat => PyData.str ⟨#[c]⟩) _ a fun c hc => ⟨_, rfl, .val (.bool (decide (48 ≤ c ∧ c ≤ 57))), ?_, rfl⟩
    have := in_dig c
    simp [x_var, this]
  have cl : (chrD (S a)).length ≤ 1000000 := by unfold chrD; simpa using h
  have ga : gAll [.val (.list (a.map fun c => PyData.bool (decide (48 ≤ c ∧ c ≤ 57))))] = .ok (.val (.bool (a.all fun c => decide (48 ≤ c ∧ c ≤ 57)))) := x_allP a _
  have ei : iStrI (eVar 0) [some (.val (.str (S a))), none] = .ok (true, chrD (S a)) := rfl
  by_cases hl : 1 ≤ a.length ∧ a.length ≤ 4
  · obtain ⟨l1, l2⟩ := hl
    have l1' : (1 : Int) ≤ (a.length : Int) := by omega
    have l2' : (a.length : Int) ≤ 4 := by omega
    by_cases hd : ∀ c ∈ a, 48 ≤ c ∧ c ≤ 57
    · have hall : (a.all fun c => decide (48 ≤ c ∧ c ≤ 57)) = true := by simpa using hd
      rw [hall] at ga
      have gi : gInt1 [.val (.str (S a))] = .ok (.val (.int (NumText.digitsVal a : Nat))) := by
        have e := SX.int_S (a := a) (by simpa using hd) (List.ne_nil_of_length_pos (by omega)) (by omega)
        show (match PySem.intText? (S a) with | some n => if (S a).length ≤ 640 then R.ok (Rv.val (.int n)) else .bad | none => .bad) = _
        rw [e]
        show (if (S a).length ≤ 640 then _ else _) = _
        rw [SX.S_len, if_pos (by omega)]
      have er : rdN a = .int (NumText.digitsVal a : Nat) := if_pos ⟨⟨l1, l2⟩, hd⟩
      rw [er]
      generalize (a.map fun c => PyData.bool (decide (48 ≤ c ∧ c ≤ 57))) = M at *
      generalize chrD (S a) = CC at *
      refine fn_rt (seq_nx (if_no ?_ rfl) ?_)
      · simp [st0, x_var, gl, l1', l2', ei, cl, wipeE, el, ga]
      · simp [st0, x_var, gi]
    · have hall : (a.all fun c => decide (48 ≤ c ∧ c ≤ 57)) = false := by
        rw [Bool.eq_false_iff]
        intro z
        exact hd (by simpa using z)
      rw [hall] at ga
      have er : rdN a = .none := if_neg fun z => hd z.2
      rw [er]
      generalize (a.map fun c => PyData.bool (decide (48 ≤ c ∧ c ≤ 57))) = M at *
      generalize chrD (S a) = CC at *
      refine fn_rt (seq_rt (if_yes ?_ (by simp)))
      simp [st0, x_var, gl, l1', l2', ei, cl, wipeE, el, ga]
  · have er : rdN a = .none := if_neg fun z => hl z.1
    rw [er]
    refine fn_rt (seq_rt (if_yes ?_ (by simp)))
    by_cases l1 : (1 : Int) ≤ (a.length : Int)
    · have l2 : ¬ (a.length : Int) ≤ 4 := by omega
      simp [st0, x_var, gl, l1, l2]
    · simp [st0, x_var, gl, l1]
theorem rd_kind (a : List Nat) : rdN a = .none ∨ ∃ n : Int, rdN a = .int n ∧ 0 ≤ n ∧ n ≤ 9999 := by
  unfold rdN
  split
  · rename_i h
    refine .inr ⟨_, rfl, by omega, ?_⟩
    have : ∀ (l : List Nat) (acc k : Nat), (∀ c ∈ l, 48 ≤ c ∧ c ≤ 57) → acc < 10 ^ k → l.foldl (fun acc c => acc * 10 + (c - 48)) acc < 10 ^ (k + l.length) := by
      intro l
      induction l with
      | nil => intro acc k _ h; simpa using h
      | cons c l ih =>
        intro acc k hc h
        have hc0 := hc c (by simp)
        rw [List.foldl_cons, List.length_cons, show k + (l.length + 1) = (k + 1) + l.length by omega]
        refine ih _ _ (fun d hd => hc d (List.mem_cons_of_mem _ hd)) ?_
        rw [Nat.pow_succ]
        omega
    have q := this a 0 0 h.2 (by decide)
    have : (10 : Nat) ^ (0 + a.length) ≤ 10 ^ 4 := Nat.pow_le_pow_right (by decide) (by omega)
    have e : NumText.digitsVal a = a.foldl (fun acc c => acc * 10 + (c - 48)) 0 := rfl
    rw [← e] at q
    have : (10 : Nat) ^ 4 = 10000 := by decide
    omega
  · exact .inl rfl
theorem rd_num {n : Int} (h0 : 0 ≤ n) (h1 : n ≤ 9999) : rdN (Nu n) = .int n := by
  have l1 := List.length_pos_iff.mpr (Nu_ne n)
  have l2 := Nu_len h1
  unfold rdN
  rw [if_pos ⟨⟨l1, l2⟩, TL.numL_digits n.toNat⟩, TL.numL_val]
  rw [Int.toNat_of_nonneg h0]
theorem lt_ext : ∀ {a b : List Int}, a.Pairwise (· < ·) → b.Pairwise (· < ·) → (∀ x, x ∈ a ↔ x ∈ b) → a = b
  | [], [], _, _, _ => rfl
  | [], y :: b, _, _, h => by have := (h y).mpr (by simp); simp at this
  | x :: a, [], _, _, h => by have := (h x).mp (by simp); simp at this
  | x :: a, y :: b, p, q, h => by
    obtain ⟨p1, p2⟩ := List.pairwise_cons.mp p
    obtain ⟨q1, q2⟩ := List.pairwise_cons.mp q
    have e : x = y := by
      rcases List.mem_cons.mp ((h x).mp (by simp)) with z | z
      · exact z
      · rcases List.mem_cons.mp ((h y).mpr (by simp)) with w | w
        · exact w.symm
        · have := q1 x z
          have := p1 y w
          omega
    subst e
    rw [lt_ext p2 q2 fun z => ?_]
    constructor
    · intro hz
      rcases List.mem_cons.mp ((h z).mp (List.mem_cons_of_mem _ hz)) with w | w
      · have := p1 z hz
        omega
      · exact w
    · intro hz
      rcases List.mem_cons.mp ((h z).mpr (List.mem_cons_of_mem _ hz)) with w | w
      · have := q1 z hz
        omega
      · exact w
/-! histograms as texts -/
abbrev brk (k : Int) : List Nat := 91 :: (Nu k ++ [93])
def hws (ps : List (Int × Int)) (z : Int) : List (List Nat) := ps.flatMap (fun p => [Nu p.1, brk p.2]) ++ [Nu z]
def txP (ps : List (Int × Int)) (z : Int) : List Nat := joinL [32] (hws ps z)
def txH (b c : List Int) : List Nat := txP (b.zip c) (nth b ((b.length : Int) - 1))
theorem hws_cons (p : Int × Int) (ps : List (Int × Int)) (z : Int) : hws (p :: ps) z = Nu p.1 :: brk p.2 :: hws ps z := by simp [hws]
theorem hws_ne (ps : List (Int × Int)) (z : Int) : hws ps z ≠ [] := by simp [hws]
theorem jw_eq (z : Int) : ∀ ps : List (Int × Int), joinL [32] ((ps.map fun p => Nu p.1 ++ [32, 91] ++ Nu p.2 ++ [93]) ++ [Nu z]) = txP ps z
  | [] => rfl
  | p :: ps => by
    have ih := jw_eq z ps
    unfold txP at *
    rw [List.map_cons, List.cons_append, joinL_cons _ _ (by simp), ih, hws_cons, joinL_cons _ _ (by simp), joinL_cons _ _ (hws_ne ps z)]
    simp [List.append_assoc]
theorem hws_len (ps : List (Int × Int)) (z : Int) : (hws ps z).length = 2 * ps.length + 1 := by
  unfold hws
  induction ps with
  | nil => rfl
  | cons p ps ih => simp only [List.flatMap_cons, List.length_append, List.length_cons, List.length_nil] at *; omega
theorem mem_hws {ps : List (Int × Int)} {z : Int} {w : List Nat} (h : w ∈ hws ps z) : (∃ p ∈ ps, w = Nu p.1 ∨ w = brk p.2) ∨ w = Nu z := by
  unfold hws at h
  rcases List.mem_append.mp h with h | h
  · obtain ⟨p, hp, hw⟩ := List.mem_flatMap.mp h
    simp at hw
    exact .inl ⟨p, hp, hw⟩
  · simp at h
    exact .inr h
section
variable {b c : List Int} (h : VH b c)
include h
theorem VH.last : nth b ((b.length : Int) - 1) ∈ b := by
  have := h.vb.lo
  have m := nth_mem (l := b) (i := b.length - 1) (by omega)
  rwa [show ((b.length - 1 : Nat) : Int) = (b.length : Int) - 1 by omega] at m
theorem zip_rg {p : Int × Int} (hp : p ∈ b.zip c) : (0 ≤ p.1 ∧ p.1 ≤ 1000) ∧ (0 ≤ p.2 ∧ p.2 ≤ 60) := ⟨h.vb.rg _ (List.of_mem_zip hp).1, h.rg _ (List.of_mem_zip hp).2⟩
theorem joinH_eq : F_join_histogram [Hi b c] = .ok (.val (.str (S (txH b c)))) := by
  have hl := h.vb.lo
  have hi := h.vb.hi
  have cl := h.l
  have el : lcR (.tp [.nm 4, .nm 5]) tYes (e2 gAdd (e2 gAdd (e2 gAdd (eB gStr [eVar 4]) (eK (.str " ["))) (eB gStr [eVar 5])) (eK (.str "]"))) [some (.val (Hi b c)), none, some (.val (Tu b)), some (.val (Tu c)), none, none] ((b.zip c).map fun p : Int × Int => PyData.tuple [.int p.1, .int p.2]) = .ok ((b.zip c).map fun p : Int × Int => PyData.str (S (Nu p.1 ++ [32, 91] ++ Nu p.2 ++ [93]))) := by
    refine lc_map (α := Int × Int) _ _ _ fun p hp => ⟨_, rfl, .val (.str (S (Nu p.1 ++ [32, 91] ++ Nu p.2 ++ [93]))), ?_, rfl⟩
    obtain ⟨⟨a1, a2⟩, a3, a4⟩ := zip_rg h hp
    have s1 := str_eq a1 (by omega)
    have s2 := str_eq a3 (by omega)
    have n1 := Nu_len (n := p.1) (by omega)
    have n2 := Nu_len (n := p.2) (by omega)
    have g1 := addS (Nu p.1) [32, 91] (by simp; omega)
    have g2 := addS (Nu p.1 ++ [32, 91]) (Nu p.2) (by simp; omega)
    have g3 := addS (Nu p.1 ++ [32, 91] ++ Nu p.2) [93] (by simp; omega)
    generalize Nu p.1 = A at *
    generalize Nu p.2 = B at *
    simp only [x_e2, x_eB, x_evR, x_evR0, x_K, k_sb, k_rb]
    simp only [x_var]
    simp [-List.append_assoc, s1, s2, g1, g2, g3]
  have zl : (b.zip c).length ≤ 11 := by rw [List.length_zip]; omega
  have wl : ∀ w ∈ (b.zip c).map (fun p : Int × Int => Nu p.1 ++ [32, 91] ++ Nu p.2 ++ [93]) ++ [Nu (nth b ((b.length : Int) - 1))], w.length ≤ 11 := fun w hw => by
    rcases List.mem_append.mp hw with q | q
    · obtain ⟨p, hp, rfl⟩ := List.mem_map.mp q
      obtain ⟨⟨a1, a2⟩, a3, a4⟩ := zip_rg h hp
      have n1 := Nu_len (n := p.1) (by omega)
      have n2 := Nu_len (n := p.2) (by omega)
      simp
      omega
    · simp at q
      have := h.vb.rg _ h.last
      have n1 := Nu_len (n := nth b ((b.length : Int) - 1)) (by omega)
      subst q
      omega
  have sm : ∀ l : List (List Nat), (∀ w ∈ l, w.length ≤ 11) → (l.map (·.length)).sum ≤ 11 * l.length := by
    intro l
    induction l with
    | nil => simp
    | cons x l ih =>
      intro hw
      have := hw x (by simp)
      have := ih fun w z => hw w (List.mem_cons_of_mem _ z)
      rw [List.map_cons, List.sum_cons, List.length_cons]
      omega
  have s3 := str_eq (n := nth b ((b.length : Int) - 1)) (h.vb.rg _ h.last).1 (by have := (h.vb.rg _ h.last).2; omega)
  have iz := x_ixLast (l := b) (List.ne_nil_of_length_pos (by omega))
  have js := joinS ((b.zip c).map (fun p : Int × Int => Nu p.1 ++ [32, 91] ++ Nu p.2 ++ [93]) ++ [Nu (nth b ((b.length : Int) - 1))]) (by
    have := sm _ wl
    simp only [List.length_append, List.length_map, List.length_cons, List.length_nil] at *
    omega)
  rw [jw_eq] at js
  have e4 : (((b.zip c).map (fun p : Int × Int => Nu p.1 ++ [32, 91] ++ Nu p.2 ++ [93]) ++ [Nu (nth b ((b.length : Int) - 1))]).map fun w => PyData.str (S w)) = ((b.zip c).map fun p : Int × Int => PyData.str (S (Nu p.1 ++ [32, 91] ++ Nu p.2 ++ [93]))) ++ [PyData.str (S (Nu (nth b ((b.length : Int) - 1))))] := by
    rw [List.map_append, List.map_map]
    rfl
  rw [e4] at js
  have z1 : (b.zip c).length ≤ 1000000 := by omega
  have ml : ((b.zip c).map fun p : Int × Int => PyData.str (S (Nu p.1 ++ [32, 91] ++ Nu p.2 ++ [93]))).length + 1 ≤ 1000000 := by rw [List.length_map]; omega
  have js : gJoin (S [32]) (.val (.list (((b.zip c).map fun p : Int × Int => PyData.str (S (Nu p.1 ++ [32, 91] ++ Nu p.2 ++ [93]))) ++ [PyData.str (S (Nu (nth b ((b.length : Int) - 1))))]))) = .ok (.val (.str (S (txH b c)))) := js
  generalize ((b.zip c).map fun p : Int × Int => PyData.str (S (Nu p.1 ++ [32, 91] ++ Nu p.2 ++ [93]))) = M at *
  generalize txH b c = T at *
  generalize nth b ((b.length : Int) - 1) = Z at *
  have zz : zipD (b.map PyData.int) (c.map PyData.int) = (b.zip c).map fun p => PyData.tuple [.int p.1, .int p.2] := zipD_ints b c
  have zlen : ((b.zip c).map fun p : Int × Int => PyData.tuple [.int p.1, .int p.2]).length ≤ 1000000 := by rw [List.length_map]; exact z1
  generalize ((b.zip c).map fun p : Int × Int => PyData.tuple [.int p.1, .int p.2]) = ZP at *
  refine fn_rt (seq_nx (ρ1 := [some (.val (Hi b c)), none, some (.val (Tu b)), some (.val (Tu c)), none, none]) (by simp [st0, x_var]) (seq_nx (ρ1 := [some (.val (Hi b c)), some (.val (.list M)), some (.val (Tu b)), some (.val (Tu c)), none, none]) (by simp [-zip_len, x_var, zz, zlen, wipeE, el]) ?_))
  have s3' : Str.ofString " " = S [32] := k_sp
  simp only [x_ret, eS1, x_K, k_sp]
  have iz : gIx (.val (.tuple (b.map PyData.int))) (.val (.int (-1))) = .ok (.val (.int Z)) := iz
  simp [x_var, iz, s3, ml, js, Rv.toStr]
end
end Py

set_option Elab.async false
set_option linter.all false
set_option maxRecDepth 100000
set_option autoImplicit false
set_option maxHeartbeats 4000000
/-! LibText2: histograms written and read. -/
namespace Py
open PySem L2
open SX (S)
open TL (joinL spl numL)
section
variable {b c : List Int} (h : VH b c)
include h
theorem lawtext_eq : F__law_text [Hi b c] = .ok (.val (.str (S (txH b c)))) := by
  have hl := h.vb.lo
  have hi := h.vb.hi
  have cl := h.len
  have i0 : ∀ x y : PyData, gIx (.val (.tuple [x, y])) (.val (.int 0)) = .ok (.val x) := fun x y => rfl
  have i1 : ∀ x y : PyData, gIx (.val (.tuple [x, y])) (.val (.int 1)) = .ok (.val y) := fun x y => rfl
  have b0 := x_ixT b 0 (by omega) (by omega)
  have r0 := h.vb.rg _ (nth_mem (l := b) (i := 0) (by omega))
  have r0 : 0 ≤ nth b 0 ∧ nth b 0 ≤ 1000 := r0
  have s0 := str_eq (n := nth b 0) r0.1 (by omega)
  have n0 := Nu_len (n := nth b 0) (by omega)
  obtain ⟨ρ', e, x2, x3, T, hρ, hT, _⟩ := Nx.for_ (ι := iEn (e2 gIx (eVar 0) (eK (.int 1)))) (τ := .tp [.nm 2, .nm 3]) (B := b__law_text_0) (ρ := [some (.val (Hi b c)), some (.val (.str (S (Nu (nth b 0))))), none, none]) (enD 0 (c.map PyData.int))
    (fun i (ρ : En) => ∃ (x2 x3 : Option Cl) (T : List Nat), ρ = [some (.val (Hi b c)), some (.val (.str (S T))), x2, x3] ∧ T = txP ((b.zip c).take i) (nth b i) ∧ T.length ≤ 20 * (i + 1)) (Q := fun ρ => ∃ (x2 x3 : Option Cl) (T : List Nat), ρ = [some (.val (Hi b c)), some (.val (.str (S T))), x2, x3] ∧ T = txH b c ∧ True) (by simp [x_iEn, x_enOf, x_var, i1])
    ⟨none, none, Nu (nth b 0), rfl, rfl, by omega⟩ (by
      rintro i ρ u hu ⟨x2, x3, T, rfl, hT, hTl⟩
      obtain ⟨a, h1, rfl⟩ := @enD_get kk0 _ _ _ _ hu
      rw [List.getElem?_map] at h1
      cases hcc : c[i]? with
      | none => rw [hcc] at h1; cases h1
      | some k =>
        rw [hcc] at h1
        cases h1
        have hi' : i < c.length := (List.getElem?_eq_some_iff.mp hcc).1
        have en := nth_get hi'
        rw [hcc] at en
        have en : k = nth c i := Option.some.inj en
        have kr := h.rg k (List.mem_of_getElem? hcc)
        have a2 := x_ixT b ((i : Int) + 1) (by omega) (by omega)
        have br := h.vb.rg _ (nth_mem (l := b) (i := i + 1) (by omega))
        rw [show ((i + 1 : Nat) : Int) = (i : Int) + 1 by omega] at br
        have s1 := str_eq (n := k) kr.1 (by omega)
        have s2 := str_eq (n := nth b ((i : Int) + 1)) br.1 (by omega)
        have n1 := Nu_len (n := k) (by omega)
        have n2 := Nu_len (n := nth b ((i : Int) + 1)) (by omega)
        have g1 := addS T [32, 91] (by simp; omega)
        have g2 := addS (T ++ [32, 91]) (Nu k) (by simp; omega)
        have g3 := addS (T ++ [32, 91] ++ Nu k) [93, 32] (by simp; omega)
        have g4 := addS (T ++ [32, 91] ++ Nu k ++ [93, 32]) (Nu (nth b ((i : Int) + 1))) (by simp; omega)
        have zg : (b.zip c)[i]? = some (nth b i, k) := by
          rw [List.getElem?_zip_eq_some]
          exact ⟨nth_get (by omega), hcc⟩
        have nx : T ++ [32, 91] ++ Nu k ++ [93, 32] ++ Nu (nth b ((i : Int) + 1)) = txP ((b.zip c).take (i + 1)) (nth b ((i + 1 : Nat) : Int)) := by
          rw [hT, List.take_add_one, zg, show ((i + 1 : Nat) : Int) = (i : Int) + 1 by omega]
          unfold txP hws
          have e3 : (((b.zip c).take i ++ (some (nth b i, k)).toList).flatMap (fun p => [Nu p.1, brk p.2]) ++ [Nu (nth b ((i : Int) + 1))]) = (((b.zip c).take i).flatMap (fun p => [Nu p.1, brk p.2]) ++ [Nu (nth b i)]) ++ [brk k] ++ [Nu (nth b ((i : Int) + 1))] := by
            rw [List.flatMap_append]
            simp
          have nel : (((b.zip c).take i).flatMap (fun p => [Nu p.1, brk p.2]) ++ [Nu (nth b i)]) ≠ [] := by simp
          rw [e3]
          generalize (((b.zip c).take i).flatMap (fun p => [Nu p.1, brk p.2]) ++ [Nu (nth b i)]) = L0 at nel ⊢
          have q1 := joinL_snoc [32] (Nu (nth b ((i : Int) + 1))) (l := L0 ++ [brk k]) (by simp)
          have q2 := joinL_snoc [32] (brk k) nel
          rw [q1, q2]
          simp [brk, List.append_assoc]
        have ln : (T ++ [32, 91] ++ Nu k ++ [93, 32] ++ Nu (nth b ((i : Int) + 1))).length ≤ 20 * (i + 1 + 1) := by
          simp only [List.length_append, List.length_cons, List.length_nil]
          omega
        refine ⟨_, by simp; rfl, [some (.val (Hi b c)), some (.val (.str (S (T ++ [32, 91] ++ Nu k ++ [93, 32] ++ Nu (nth b ((i : Int) + 1)))))), some (.val (.int i)), some (.val (.int k))], ?_, _, _, _, rfl, nx, ln⟩
        generalize Nu k = NK at *
        generalize hZ : nth b ((i : Int) + 1) = Z at *
        generalize Nu Z = NZ at *
        simp only [x_set, x_e2, x_eB, x_evR, x_evR0, x_K, k_sb, k_rs]
        simp [-List.append_assoc, x_var, i0, a2, s1, s2, g1, g2, g3, g4]) (fun ρ hI => by
      obtain ⟨x2, x3, T, rfl, hT, _⟩ := hI
      rw [@enD_len kk0, List.length_map] at hT
      refine ⟨_, _, _, rfl, ?_, trivial⟩
      rw [hT, List.take_of_length_le (by rw [List.length_zip]; omega)]
      unfold txH
      rw [show ((b.length : Int) - 1) = (c.length : Int) by omega])
  subst hρ
  subst hT
  generalize txH b c = T at *
  have st : sSet 1 (eB gStr [e2 gIx (e2 gIx (eVar 0) (eK (.int 0))) (eK (.int 0))]) (st0 4 [Hi b c]) = .ok (.nx [some (.val (Hi b c)), some (.val (.str (S (Nu (nth b 0))))), none, none]) := by
    simp [st0, x_var, i0, b0, s0]
  exact fn_rt (seq_nx st (seq_nx e (by simp [x_var])))
end
/-! values that are numbers or None -/
def Nk (x : PyData) : Prop := x = .none ∨ ∃ n : Int, x = .int n
def okI (lo hi : Int) : PyData → Bool
  | .int n => decide (lo ≤ n ∧ n ≤ hi)
  | _ => false
theorem isint_nk {x : PyData} (h : Nk x) (lo hi : Int) : F_is_int [x, .int lo, .int hi] = .ok (.val (.bool (okI lo hi x))) := by
  rcases h with rfl | ⟨n, rfl⟩
  · exact is_int_none lo hi
  · exact is_int_eq n lo hi
theorem ints_nk : ∀ {ds : List PyData} {lo hi : Int}, (∀ x ∈ ds, Nk x) → ds.all (okI lo hi) = true → ∃ b : List Int, ds = b.map PyData.int ∧ ∀ n ∈ b, lo ≤ n ∧ n ≤ hi
  | [], _, _, _, _ => ⟨[], rfl, by simp⟩
  | x :: ds, lo, hi, h, ha => by
    rw [List.all_cons, Bool.and_eq_true] at ha
    obtain ⟨b, rfl, hb⟩ := ints_nk (fun y hy => h y (List.mem_cons_of_mem _ hy)) ha.2
    rcases h x (by simp) with rfl | ⟨n, rfl⟩
    · exact absurd ha.1 (by simp [okI])
    · have := ha.1
      simp [okI] at this
      exact ⟨n :: b, rfl, fun m hm => by
        rcases List.mem_cons.mp hm with e | e
        · rw [e]; exact this
        · exact hb m e⟩
theorem isint_lc {ds : List PyData} (h : ∀ x ∈ ds, Nk x) (lo hi : Int) {ρ : En} {i : Nat} (hr : ∀ x, eVar i (ρ.set i (some (.val x))) = .ok (.val x)) : lcR (.nm i) tYes (eCall F_is_int [eVar i, eK (.int lo), eK (.int hi)]) ρ ds = .ok (ds.map fun x => PyData.bool (okI lo hi x)) := by
  have := lc_map (τ := .nm i) (φ := eCall F_is_int [eVar i, eK (.int lo), eK (.int hi)]) (ρ := ρ) (fun x : PyData => x) (fun x => PyData.bool (okI lo hi x)) ds fun x hx => ⟨_, rfl, .val (.bool (okI lo hi x)), by simp [hr, isint_nk (h x hx)], rfl⟩
  rwa [List.map_id'] at this
theorem zip_lt : ∀ {l : List Int}, (∀ p ∈ l.zip l.tail, p.1 < p.2) → l.Pairwise (· < ·)
  | [], _ => List.Pairwise.nil
  | [x], _ => by simp
  | x :: y :: l, h => by
    have ih := zip_lt (l := y :: l) fun p hp => h p (List.mem_cons_of_mem _ hp)
    have hxy := h (x, y) (by simp)
    refine List.pairwise_cons.mpr ⟨fun z hz => ?_, ih⟩
    rcases List.mem_cons.mp hz with e | e
    · subst e; exact hxy
    · have := (List.pairwise_cons.mp ih).1 z e
      have hxy : x < y := hxy
      omega
theorem borders_nk {ds : List PyData} (h : ∀ x ∈ ds, Nk x) (hl : ds.length ≤ 1000) : F_are_borders [.tuple ds] = .ok (.val (.bool false)) ∨ ∃ b : List Int, ds = b.map PyData.int ∧ VB b := by
  have dz : ds.length ≤ 1000000 := by omega
  have el : ∀ x2 x3, lcR (.nm 1) tYes (eCall F_is_int [eVar 1, eK (.int 0), eK (.int 1000)]) [some (.val (.tuple ds)), none, x2, x3] ds = .ok (ds.map fun x => PyData.bool (okI 0 1000 x)) := fun x2 x3 => isint_lc h 0 1000 fun x => rfl
  have ga : gAll [.val (.list (ds.map fun x => PyData.bool (okI 0 1000 x)))] = .ok (.val (.bool (ds.all (okI 0 1000)))) := x_allP ds _
  by_cases l1 : (2 : Int) ≤ (ds.length : Int)
  · by_cases l2 : (ds.length : Int) ≤ 12
    · cases hall : ds.all (okI 0 1000) with
      | false =>
        rw [hall] at ga
        refine .inl ?_
        generalize (ds.map fun x => PyData.bool (okI 0 1000 x)) = M at *
        refine fn_rt (seq_nx (if_no (by simp [st0, x_var, l1, l2]) rfl) (seq_rt (if_yes (by simp [st0, x_var, dz, wipeE, el, ga]) (by simp))))
      | true =>
        rw [hall] at ga
        obtain ⟨b, rfl, rg⟩ := ints_nk h hall
        by_cases pw : ∀ p ∈ b.zip b.tail, p.1 < p.2
        · exact .inr ⟨b, rfl, ⟨by simp at l1; omega, by simp at l2; omega, rg, zip_lt pw⟩⟩
        · refine .inl ?_
          generalize ((b.map PyData.int).map fun x => PyData.bool (okI 0 1000 x)) = M at *
          rw [List.length_map] at dz l1 l2
          have e2' : lcR (.tp [.nm 2, .nm 3]) tYes (eT (t2 cLt (eVar 2) (eVar 3))) [some (.val (Tu b)), none, none, none] ((b.zip b.tail).map fun p => PyData.tuple [.int p.1, .int p.2]) = .ok ((b.zip b.tail).map fun p => PyData.bool (decide (p.1 < p.2))) := by
            refine lc_map (α := Int × Int) _ _ _ fun p hp => ⟨_, rfl, .val (.bool (decide (p.1 < p.2))), ?_, rfl⟩
            simp [x_var]
          have gb : gAll [.val (.list ((b.zip b.tail).map fun p => PyData.bool (decide (p.1 < p.2))))] = .ok (.val (.bool ((b.zip b.tail).all fun p => decide (p.1 < p.2)))) := x_allP _ _
          have gf : ((b.zip b.tail).all fun p => decide (p.1 < p.2)) = false := by
            rw [Bool.eq_false_iff]
            intro z
            exact pw (by simpa using z)
          rw [gf] at gb
          have zl : ((b.zip b.tail).map fun p : Int × Int => PyData.tuple [.int p.1, .int p.2]).length ≤ 1000000 := by rw [List.length_map, List.length_zip]; omega
          have zz : zipD (b.map PyData.int) (b.tail.map PyData.int) = (b.zip b.tail).map fun p : Int × Int => PyData.tuple [.int p.1, .int p.2] := zipD_ints b b.tail
          generalize ((b.zip b.tail).map fun p : Int × Int => PyData.bool (decide (p.1 < p.2))) = M2 at *
          generalize ((b.zip b.tail).map fun p : Int × Int => PyData.tuple [.int p.1, .int p.2]) = ZP at *
          refine fn_rt (seq_nx (if_no (by simp [st0, x_var, l1, l2]) rfl) (seq_nx (if_no (by simp [st0, x_var, dz, wipeE, el, ga]) rfl) ?_))
          simp [-zip_len, st0, x_var, cut_tail, ← List.map_tail, zz, zl, wipeE, e2', gb]
    · refine .inl (fn_rt (seq_rt (if_yes ?_ (by simp))))
      simp [st0, x_var, l1, l2]
  · refine .inl (fn_rt (seq_rt (if_yes ?_ (by simp))))
    simp [st0, x_var, l1]
theorem hist_nk {ds es : List PyData} (hd : ∀ x ∈ ds, Nk x) (he : ∀ x ∈ es, Nk x) (dl : ds.length ≤ 1000) (el' : es.length ≤ 1000) : F_is_histogram [.tuple [.tuple ds, .tuple es]] = .ok (.val (.bool false)) ∨ ∃ b c : List Int, ds = b.map PyData.int ∧ es = c.map PyData.int ∧ VH b c := by
  have i0 : ∀ x y : PyData, gIx (.val (.tuple [x, y])) (.val (.int 0)) = .ok (.val x) := fun x y => rfl
  rcases borders_nk hd dl with kf | ⟨b, rfl, vb⟩
  · refine .inl (fn_rt (seq_rt (if_yes ?_ (by simp))))
    simp [st0, x_var, x_ne, i0, kf]
  · have kb := borders_eq vb
    have ez : es.length ≤ 1000000 := by omega
    by_cases l1 : (es.length : Int) = (b.length : Int) - 1
    · have el : lcR (.nm 3) tYes (eCall F_is_int [eVar 3, eK (.int 0), eK (.int 60)]) [some (.val (.tuple [Tu b, .tuple es])), some (.val (Tu b)), some (.val (.tuple es)), none] es = .ok (es.map fun x => PyData.bool (okI 0 60 x)) := isint_lc he 0 60 fun x => rfl
      have ga : gAll [.val (.list (es.map fun x => PyData.bool (okI 0 60 x)))] = .ok (.val (.bool (es.all (okI 0 60)))) := x_allP es _
      cases hall : es.all (okI 0 60) with
      | false =>
        rw [hall] at ga
        refine .inl ?_
        generalize (es.map fun x => PyData.bool (okI 0 60 x)) = M at *
        refine fn_rt (seq_nx (if_no (by simp [st0, x_var, x_ne, i0, kb]) rfl) (seq_nx (ρ1 := [some (.val (.tuple [Tu b, .tuple es])), some (.val (Tu b)), some (.val (.tuple es)), none]) (by simp [st0, x_var]) (seq_nx (if_no (by simp [x_var, x_ne, l1]) rfl) (by simp [x_var, ez, wipeE, el, ga]))))
      | true =>
        rw [hall] at ga
        obtain ⟨c, rfl, rg⟩ := ints_nk he hall
        rw [List.length_map] at l1
        have := vb.lo
        by_cases hs : c.sum ≤ 200
        · exact .inr ⟨b, c, rfl, rfl, ⟨vb, by omega, rg, hs⟩⟩
        · refine .inl ?_
          generalize ((c.map PyData.int).map fun x => PyData.bool (okI 0 60 x)) = M at *
          rw [List.length_map] at ez
          refine fn_rt (seq_nx (if_no (by simp [st0, x_var, x_ne, i0, kb]) rfl) (seq_nx (ρ1 := [some (.val (.tuple [Tu b, Tu c])), some (.val (Tu b)), some (.val (Tu c)), none]) (by simp [st0, x_var]) (seq_nx (if_no (by simp [x_var, x_ne, l1]) rfl) (by simp [x_var, ez, wipeE, el, ga, hs]))))
    · refine .inl (fn_rt (seq_nx (if_no (by simp [st0, x_var, x_ne, i0, kb]) rfl) (seq_nx (ρ1 := [some (.val (.tuple [Tu b, .tuple es])), some (.val (Tu b)), some (.val (.tuple es)), none]) (by simp [st0, x_var]) (seq_rt (if_yes ?_ (by simp))))))
      simp [x_var, x_ne, l1]
theorem rd_nk (a : List Nat) : Nk (rdN a) := by
  rcases rd_kind a with e | ⟨n, e, _⟩
  · exact .inl e
  · exact .inr ⟨n, e⟩
theorem ev2_map {α β : Type} (f : α → β) : ∀ l : List α, every2 (l.map f) = (every2 l).map f
  | [] => rfl
  | [x] => rfl
  | x :: y :: r => by
    simp only [List.map_cons, every2]
    rw [ev2_map f r]
theorem ev2_mem {α : Type} : ∀ {l : List α} {x : α}, x ∈ every2 l → x ∈ l
  | [], _, h => h
  | [_], _, h => h
  | a :: b :: r, x, h => by
    rcases List.mem_cons.mp h with e | e
    · rw [e]; simp
    · exact List.mem_cons_of_mem _ (List.mem_cons_of_mem _ (ev2_mem e))
theorem cutS_S (a : List Nat) (lo hi : Option Int) : cutS (S a) lo hi = S (cut a lo hi) := by
  unfold cutS cut
  rw [SX.S_len]
def rdH (ws : List (List Nat)) : PyData := .tuple [.tuple ((every2 ws).map rdN), .tuple ((every2 ws.tail).map fun w => rdN (cut w (some 1) (some (-1))))]
theorem cut_len' {α : Type} (l : List α) (lo hi : Option Int) : (cut l lo hi).length ≤ l.length := by
  unfold cut
  rw [List.length_take, List.length_drop]
  omega
theorem parse_core {t : List Nat} (ht : t.length ≤ 900) : ∃ H, H = rdH (spl [32] 0 [] t) ∧ (F_is_histogram [H] = .ok (.val (.bool false)) → F_parse_histogram [.str (S t)] = .err "ParseError") ∧
    (∀ J : List Nat, F_is_histogram [H] = .ok (.val (.bool true)) → F_join_histogram [H] = .ok (.val (.str (S J))) → F_parse_histogram [.str (S t)] = if J = t then .ok (.val H) else .err "ParseError") := by
  refine ⟨_, rfl, ?_⟩
  obtain ⟨w1, w2, w3⟩ := spl_ok 32 t []
  have sp := splitS (s := 32) (by decide) t (by omega)
  unfold rdH
  generalize spl [32] 0 [] t = ws at *
  have wl : ∀ w ∈ ws, w.length ≤ 900 := fun w hw => by have := w3 w hw; simp at this; omega
  have e1' : ∀ y1 y2 y3 : Option Cl, lcR (.nm 4) tYes (eCall F_read_number [eVar 4]) [some (.val (.str (S t))), y1, y2, y3, none] ((every2 ws).map fun w => PyData.str (S w)) = .ok ((every2 ws).map rdN) := fun y1 y2 y3 => by
    refine lc_map _ _ _ fun w hw => ⟨_, rfl, .val (rdN w), ?_, rfl⟩
    have := read_eq w (by have := wl w (ev2_mem hw); omega)
    simp [x_var, this]
  have e2' : ∀ y1 y2 y3 : Option Cl, lcR (.nm 4) tYes (eCall F_read_number [eSlS (eVar 4) (pSo (eK (.int 1))) (pSo (eNeg (eK (.int 1))))]) [some (.val (.str (S t))), y1, y2, y3, none] ((every2 ws.tail).map fun w => PyData.str (S w)) = .ok ((every2 ws.tail).map fun w => rdN (cut w (some 1) (some (-1)))) := fun y1 y2 y3 => by
    refine lc_map _ _ _ fun w hw => ⟨_, rfl, .val (rdN (cut w (some 1) (some (-1)))), ?_, rfl⟩
    have hwl := wl w (List.mem_of_mem_tail (ev2_mem hw))
    have cl := cut_len' w (some 1) (some (-1))
    have := read_eq (cut w (some 1) (some (-1))) (by omega)
    have gs : gSlS (.val (.str (S w))) (some 1) (some (-1)) = .ok (.val (.str (S (cut w (some 1) (some (-1)))))) := by
      show (if (S w).length ≤ 1000000 then R.ok (Rv.val (.str (cutS (S w) (some 1) (some (-1))))) else .bad) = _
      rw [SX.S_len, if_pos (by omega), cutS_S]
    generalize rdN (cut w (some 1) (some (-1))) = RR at *
    generalize cut w (some 1) (some (-1)) = CW at *
    simp [eSlS, x_var, gs, this]
  have v1 : gEv (.val (.list (ws.map fun w => PyData.str (S w)))) = .ok (.own ((every2 ws).map fun w => PyData.str (S w))) := by
    show R.ok (Rv.own (every2 (ws.map fun w => PyData.str (S w)))) = _
    rw [ev2_map]
  have v2 : gOd (.val (.list (ws.map fun w => PyData.str (S w)))) = .ok (.own ((every2 ws.tail).map fun w => PyData.str (S w))) := by
    show R.ok (Rv.own (every2 (ws.map fun w => PyData.str (S w)).tail)) = _
    rw [← List.map_tail, ev2_map]
  have z1 : ((every2 ws).map fun w => PyData.str (S w)).length ≤ 1000000 := by rw [List.length_map]; have := @ev2_len kk0 _ ws; omega
  have z2 : ((every2 ws.tail).map fun w => PyData.str (S w)).length ≤ 1000000 := by rw [List.length_map]; have := @ev2_len kk0 _ ws.tail; rw [List.length_tail] at this; omega
  generalize (ws.map fun w => PyData.str (S w)) = WS at *
  generalize ((every2 ws).map fun w => PyData.str (S w)) = WE at *
  generalize ((every2 ws.tail).map fun w => PyData.str (S w)) = WO at *
  generalize (every2 ws).map rdN = DS at *
  generalize ((every2 ws.tail).map fun w => rdN (cut w (some 1) (some (-1)))) = ES at *
  have go : ∀ o, (sSeq (sIf (tOr (tNot (tE (eCall F_is_histogram [eVar 3]))) (t2 cNe (eCall F_join_histogram [eVar 3]) (eVar 0))) (sRaise "ParseError") (sNil)) (sRet (eVar 3))) [some (.val (.str (S t))), some (.val (.list WS)), some (.val (.tuple DS)), some (.val (.tuple [.tuple DS, .tuple ES])), none] = o → m_parse_histogram (st0 5 [.str (S t)]) = o := fun o ho => by
    refine seq_nx (if_no (by simp [st0, x_var]) rfl) ?_
    refine seq_nx (ρ1 := [some (.val (.str (S t))), some (.val (.list WS)), none, none, none]) (by simp [st0, eS1, x_var, Rv.toStr, k_sp, sp]) ?_
    refine seq_nx (ρ1 := [some (.val (.str (S t))), some (.val (.list WS)), some (.val (.tuple DS)), none, none]) (by simp [x_var, v1, z1, wipeE, e1']) ?_
    refine seq_nx (ρ1 := [some (.val (.str (S t))), some (.val (.list WS)), some (.val (.tuple DS)), some (.val (.tuple [.tuple DS, .tuple ES])), none]) (by simp [x_var, v2, z2, wipeE, e2']) ho
  refine ⟨fun hf => ?_, fun J hf hj => ?_⟩
  · have := go (.err "ParseError") (by rw [x_seq, if_yes (by simp [x_var, hf]) rfl]; rfl)
    unfold F_parse_histogram fnR
    rw [this]
    rfl
  · by_cases e : J = t
    · subst e
      rw [if_pos rfl]
      refine fn_rt (go _ (seq_nx (if_no ?_ rfl) (by simp [x_var])))
      have q : PyData.eqv (.str (S J)) (.str (S J)) = true := by rw [PyData.eqv]; simp
      generalize S J = SJ at *
      simp [x_var, hf, hj, x_ne, q]
    · rw [if_neg e]
      have := go (.err "ParseError") (by
        rw [x_seq, if_yes ?_ rfl]
        · rfl
        · have q : PyData.eqv (.str (S J)) (.str (S t)) = false := by
            rw [PyData.eqv]
            exact (SX.S_beq_eq (a := J) (b := t)).trans (decide_eq_false e)
          generalize S J = SJ at *
          generalize S t = ST at *
          simp [x_var, hf, hj, x_ne, q])
      unfold F_parse_histogram fnR
      rw [this]
      rfl
theorem parse_any {t : List Nat} (ht : t.length ≤ 900) : F_parse_histogram [.str (S t)] = .err "ParseError" ∨ ∃ b c, VH b c ∧ txH b c = t ∧ F_parse_histogram [.str (S t)] = .ok (.val (Hi b c)) := by
  obtain ⟨H, hH, p1, p2⟩ := parse_core ht
  obtain ⟨w1, w2, w3⟩ := spl_ok 32 t []
  have l1 := @ev2_len kk0 _ (spl [32] 0 [] t)
  have l2 := @ev2_len kk0 _ (spl [32] 0 [] t).tail
  rw [List.length_tail] at l2
  rcases hist_nk (ds := (every2 (spl [32] 0 [] t)).map rdN) (es := (every2 (spl [32] 0 [] t).tail).map fun w => rdN (cut w (some 1) (some (-1)))) (fun x hx => by
      obtain ⟨w, _, rfl⟩ := List.mem_map.mp hx
      exact rd_nk w) (fun x hx => by
      obtain ⟨w, _, rfl⟩ := List.mem_map.mp hx
      exact rd_nk _) (by rw [List.length_map]; omega) (by rw [List.length_map]; omega) with kf | ⟨b, c, eb, ec, vh⟩
  · refine .inl (p1 ?_)
    rw [hH]
    exact kf
  · have hH' : H = Hi b c := by rw [hH, rdH, eb, ec]
    rw [hH'] at p2
    have q := p2 (txH b c) (hist_eq vh) (joinH_eq vh)
    by_cases e : txH b c = t
    · rw [if_pos e] at q
      exact .inr ⟨b, c, vh, e, q⟩
    · rw [if_neg e] at q
      exact .inl q
theorem hws_ev (z : Int) : ∀ ps : List (Int × Int), every2 (hws ps z) = ps.map (fun p => Nu p.1) ++ [Nu z] ∧ every2 (hws ps z).tail = ps.map fun p => brk p.2
  | [] => ⟨rfl, rfl⟩
  | p :: ps => by
    obtain ⟨a, b⟩ := hws_ev z ps
    rw [hws_cons]
    refine ⟨?_, ?_⟩
    · show Nu p.1 :: every2 (hws ps z) = _
      rw [a]
      rfl
    · show every2 (brk p.2 :: hws ps z) = _
      cases hq : hws ps z with
      | nil => exact absurd hq (hws_ne ps z)
      | cons x r =>
        rw [hq] at b
        show brk p.2 :: every2 r = _
        rw [show r = (x :: r).tail from rfl, b]
        rfl
theorem cut_brk (k : Int) : cut (brk k) (some 1) (some (-1)) = Nu k := by
  have e1 : HT.sIx (brk k).length 0 (some 1) = 1 := by simp [HT.sIx]
  have e2' : HT.sIx (brk k).length (brk k).length (some (-1)) = (Nu k).length + 1 := by
    show (if (-1 : Int) < 0 then ((-1 : Int) + ((brk k).length : Int)).toNat else min (-1 : Int).toNat (brk k).length) = _
    rw [if_pos (by decide)]
    simp
    omega
  unfold cut
  rw [e1, e2']
  simp
theorem zip_fst {b c : List Int} (h : c.length + 1 = b.length) : (b.zip c).map (fun p => p.1) ++ [nth b ((b.length : Int) - 1)] = b := by
  apply List.ext_getElem
  · simp
    omega
  · intro i h1 h2
    by_cases hi : i < c.length
    · rw [List.getElem_append_left (by simp; omega)]
      simp
    · have e : i = c.length := by omega
      subst e
      rw [List.getElem_append_right (by simp; omega)]
      have := nth_elem (l := b) (i := c.length) (by omega)
      rw [show ((c.length : Nat) : Int) = (b.length : Int) - 1 by omega] at this
      simp [this]
theorem parse_back {b c : List Int} (h : VH b c) (ht : (txH b c).length ≤ 900) : F_parse_histogram [.str (S (txH b c))] = .ok (.val (Hi b c)) := by
  obtain ⟨H, hH, p1, p2⟩ := parse_core ht
  have e : spl [32] 0 [] (txH b c) = hws (b.zip c) (nth b ((b.length : Int) - 1)) := by
    refine TL.spl_join (hws_ne _ _) fun w hw => ?_
    rcases mem_hws hw with ⟨p, hp, e | e⟩ | e
    · rw [e]; exact Nu_free (.inl (by decide))
    · rw [e]
      intro z
      rcases List.mem_cons.mp z with z | z
      · exact absurd z (by decide)
      · rcases List.mem_append.mp z with z | z
        · exact Nu_free (.inl (by decide)) z
        · simp at z
    · rw [e]; exact Nu_free (.inl (by decide))
  obtain ⟨v1, v2⟩ := hws_ev (nth b ((b.length : Int) - 1)) (b.zip c)
  have hH' : H = Hi b c := by
    rw [hH, e, rdH, v1, v2]
    have a1 : ((b.zip c).map (fun p => Nu p.1) ++ [Nu (nth b ((b.length : Int) - 1))]).map rdN = b.map PyData.int := by
      have : ((b.zip c).map (fun p => Nu p.1) ++ [Nu (nth b ((b.length : Int) - 1))]) = b.map Nu := by
        conv => rhs; rw [← zip_fst h.len]
        rw [List.map_append, List.map_map]
        rfl
      rw [this, List.map_map]
      refine List.map_congr_left fun x hx => ?_
      have := h.vb.rg x hx
      exact rd_num this.1 (by omega)
    have a2 : (((b.zip c).map fun p => brk p.2).map fun w => rdN (cut w (some 1) (some (-1)))) = c.map PyData.int := by
      rw [List.map_map]
      have : (b.zip c).map ((fun w => rdN (cut w (some 1) (some (-1)))) ∘ fun p => brk p.2) = ((b.zip c).map (·.2)).map PyData.int := by
        rw [List.map_map]
        refine List.map_congr_left fun p hp => ?_
        have := zip_rg h hp
        show rdN (cut (brk p.2) (some 1) (some (-1))) = _
        rw [cut_brk]
        exact rd_num this.2.1 (by omega)
      rw [this, zip_snd (by have := h.len; omega)]
    rw [a1, a2]
  rw [hH'] at p2
  have q := p2 (txH b c) (hist_eq h) (joinH_eq h)
  rwa [if_pos rfl] at q
end Py

set_option Elab.async false
set_option linter.all false
set_option maxRecDepth 100000
set_option autoImplicit false
set_option maxHeartbeats 4000000
/-! LibText3: data written and read. -/
namespace Py
open PySem L2
open SX (S)
open TL (joinL spl numL)
def wdk (v : Int) (k : Nat) : List Nat := Nu v ++ (if 1 < k then 42 :: Nu (k : Int) else [])
def wd (d : List Int) (v : Int) : List Nat := wdk v (d.count v)
def txD (d : List Int) : List Nat := joinL [32] ((sortU d).map (wd d))
theorem wdk_len {v : Int} {k : Nat} (h : v ≤ 999) (hk : k ≤ 200) : (wdk v k).length ≤ 9 := by
  have n1 := Nu_len (n := v) (by omega)
  have n2 := Nu_len (n := (k : Int)) (by omega)
  unfold wdk
  split
  · simp
    omega
  · simp
    omega
theorem wdk_len4 {v : Int} {k : Nat} (h : v ≤ 99) (hk : k ≤ 9) : (wdk v k).length ≤ 4 := by
  have n1 := Nu_len2 (n := v) (by omega)
  have n2 := Nu_len1 (n := (k : Int)) (by omega)
  unfold wdk
  split
  · simp
    omega
  · simp
    omega
theorem sortU_congr {a b : List Int} (h : ∀ x, x ∈ a ↔ x ∈ b) : sortU a = sortU b := lt_ext (sortU_lt _) (sortU_lt _) fun x => by rw [mem_sortU, mem_sortU]; exact h x
theorem sum_le_mul {m : Nat} : ∀ {l : List (List Nat)}, (∀ w ∈ l, w.length ≤ m) → (l.map (·.length)).sum ≤ m * l.length
  | [], _ => by simp
  | x :: l, h => by
    have h1 := h x (by simp)
    have ih := sum_le_mul (l := l) fun w hw => h w (List.mem_cons_of_mem _ hw)
    rw [List.map_cons, List.sum_cons, List.length_cons, Nat.mul_add]
    omega
theorem word_ev {ρ : En} {i j : Nat} {v : Int} {k : Nat} (hv : eVar i ρ = .ok (.val (.int v))) (hk : eVar j ρ = .ok (.val (.int (k : Int)))) (h0 : 0 ≤ v) (h1 : v ≤ 999) (h2 : k ≤ 200) :
    e2 gAdd (eB gStr [eVar i]) (eIf (t2 cGt (eVar j) (eK (.int 1))) (e2 gAdd (eK (.str "*")) (eB gStr [eVar j])) (eK (.str ""))) ρ = .ok (.val (.str (S (wdk v k)))) := by
  have s1 := str_eq (n := v) h0 (by omega)
  have s2 := str_eq (n := (k : Int)) (by omega) (by omega)
  have n1 := Nu_len (n := v) (by omega)
  have n2 := Nu_len (n := (k : Int)) (by omega)
  have g1 := addS [42] (Nu (k : Int)) (by simp; omega)
  have g2 := addS (Nu v) (42 :: Nu (k : Int)) (by simp; omega)
  have g3 := addS (Nu v) [] (by simp; omega)
  unfold wdk
  simp only [x_e2, x_eB, x_evR, x_evR0, x_K, k_st, k_em]
  by_cases hk1 : 1 < k
  · have hk1' : (1 : Int) < (k : Int) := by omega
    rw [if_pos hk1]
    generalize Nu (k : Int) = NK at *
    generalize Nu v = NV at *
    simp [hv, hk, s1, s2, hk1', g1, g2]
  · have hk1' : ¬ (1 : Int) < (k : Int) := by omega
    rw [if_neg hk1]
    generalize Nu (k : Int) = NK at *
    generalize Nu v = NV at *
    rw [List.append_nil] at g3
    simp [hv, hk, s1, s2, hk1', g3]
theorem count_eqv (d : List Int) (v : Int) : (d.map PyData.int).countP (fun y => PyData.eqv y (.int v)) = d.count v := by
  rw [List.countP_map, List.count]
  congr 1
theorem dep_ints : ∀ d : List Int, PyData.depthAll (d.map PyData.int) = 0
  | [] => rfl
  | x :: d => by
    rw [List.map_cons, PyData.depthAll, dep_ints d]
    rfl
section
variable {d : List Int} (h : VD d)
include h
theorem count_le (v : Int) : d.count v ≤ 200 := Nat.le_trans List.count_le_length h.len
theorem joinD_eq (hs : (sortU d).length < 64) : F_join_data [Li d] = .ok (.val (.str (S (txD d)))) := by
  have hl := h.len
  have eg : gSS (.val (Li d)) = .ok (.own ((sortU d).map PyData.int)) := by
    simp only [gSS, intsOf, x_datV, ints_map, r_ok]
    rw [if_pos ⟨by omega, hs⟩]
  have gc : ∀ v, gCount (d.map PyData.int) (.val (.int v)) = .ok (.val (.int (d.count v : Nat))) := fun v => by
    unfold gCount
    rw [x_datV, count_eqv, dep_ints, if_pos (by simp)]
  obtain ⟨ρ', e, x2, x3, hρ⟩ := Nx.for_ (ι := iSeq (e1 gSS (eVar 0))) (τ := .nm 2) (B := b_join_data_0) (ρ := [some (.val (Li d)), some (.own []), none, none]) ((sortU d).map PyData.int)
    (fun i (ρ : En) => ∃ x2 x3 : Option Cl, ρ = [some (.val (Li d)), some (.own ((((sortU d).take i).map (wd d)).map fun w => PyData.str (S w))), x2, x3]) (Q := fun ρ => ∃ x2 x3 : Option Cl, ρ = [some (.val (Li d)), some (.own (((sortU d).map (wd d)).map fun w => PyData.str (S w))), x2, x3]) (by simp [x_var, eg])
    ⟨none, none, by simp⟩ (by
      rintro i ρ u hu ⟨x2, x3, rfl⟩
      rw [List.getElem?_map] at hu
      cases hcc : (sortU d)[i]? with
      | none => rw [hcc] at hu; cases hu
      | some v =>
        rw [hcc] at hu
        cases hu
        have hm : v ∈ d := mem_sortU.mp (List.mem_of_getElem? hcc)
        have vr := h.rg v hm
        have ck := count_le h v
        refine ⟨_, rfl, [some (.val (Li d)), some (.own ((((sortU d).take (i + 1)).map (wd d)).map fun w => PyData.str (S w))), some (.val (.int v)), some (.val (.int (d.count v : Nat)))], ?_, _, _, rfl⟩
        have z : ((((sortU d).take i).map (wd d)).map fun w => PyData.str (S w)).length ≤ 1000000 := by
          rw [List.length_map, List.length_map, List.length_take]
          omega
        have nx : ((((sortU d).take (i + 1)).map (wd d)).map fun w => PyData.str (S w)) = ((((sortU d).take i).map (wd d)).map fun w => PyData.str (S w)) ++ [PyData.str (S (wdk v (d.count v)))] := by
          rw [List.take_add_one, hcc]
          simp [wd]
        rw [nx]
        generalize ((((sortU d).take i).map (wd d)).map fun w => PyData.str (S w)) = A at *
        have w := word_ev (ρ := [some (.val (Li d)), some (.own A), some (.val (.int v)), some (.val (.int (d.count v : Nat)))]) (i := 2) (j := 3) (v := v) (k := d.count v) rfl rfl vr.1 vr.2 ck
        refine seq_nx (ρ1 := [some (.val (Li d)), some (.own A), some (.val (.int v)), some (.val (.int (d.count v : Nat)))]) (by simp [eM, Rv.lst, x_var, gc]) ?_
        rw [x_app, x_evA, w]
        simp [ownAt, z]) (fun ρ hI => by
      obtain ⟨x2, x3, rfl⟩ := hI
      rw [List.length_map, List.take_length]
      exact ⟨_, _, rfl⟩)
  subst hρ
  have js := joinS ((sortU d).map (wd d)) (by
    have := sum_le_mul (m := 9) (l := (sortU d).map (wd d)) fun w hw => by
      obtain ⟨v, hv, rfl⟩ := List.mem_map.mp hw
      exact wdk_len (h.rg v (mem_sortU.mp hv)).2 (count_le h v)
    rw [List.length_map] at *
    omega)
  have js : gJoin (S [32]) (.val (.list (((sortU d).map (wd d)).map fun w => PyData.str (S w)))) = .ok (.val (.str (S (txD d)))) := js
  generalize (((sortU d).map (wd d)).map fun w => PyData.str (S w)) = A at *
  refine fn_rt (seq_nx (ρ1 := [some (.val (Li d)), some (.own []), none, none]) (by simp [st0]) (seq_nx e ?_))
  simp only [x_ret, eS1, x_K, k_sp]
  have jb : gJoin (S [32]) (.bor 1 A) = .ok (.val (.str (S (txD d)))) := js
  simp [x_var, js, jb, Rv.toStr]
theorem groups_eq : F__law_groups [Li d] = .ok (.val (.str (S (txD d)))) := by
  have hl := h.len
  have sl := sortU_len d
  have step : ∀ {i : Nat} (hi : i < d.length), ((i = 0 ∨ nth d ((i : Int) - 1) ≠ nth d i) → sortU (d.take (i + 1)) = sortU (d.take i) ++ [nth d i]) ∧ (¬ (i = 0 ∨ nth d ((i : Int) - 1) ≠ nth d i) → sortU (d.take (i + 1)) = sortU (d.take i)) := by
    intro i hi
    have gi := nth_get hi
    have tk : d.take (i + 1) = d.take i ++ [nth d i] := by rw [List.take_add_one, gi]; rfl
    have pw : (d.take i ++ [nth d i]).Pairwise (· ≤ ·) := by rw [← tk]; exact h.le.sublist (List.take_sublist _ _)
    have ple := (List.pairwise_append.mp pw)
    rw [tk]
    constructor
    · intro hc
      refine lt_ext (sortU_lt _) ?_ fun x => ?_
      · refine List.pairwise_append.mpr ⟨sortU_lt _, by simp, fun x hx y hy => ?_⟩
        simp at hy
        subst hy
        have hx := mem_sortU.mp hx
        have h1 := ple.2.2 x hx (nth d i) (by simp)
        rcases hc with e | e
        · subst e; simp at hx
        · by_cases i0 : i = 0
          · subst i0; simp at hx
          · have tk2 : d.take i = d.take (i - 1) ++ [nth d ((i : Int) - 1)] := by
              have g2 := nth_get (l := d) (i := i - 1) (by omega)
              rw [show ((i - 1 : Nat) : Int) = (i : Int) - 1 by omega] at g2
              have : d.take (i - 1 + 1) = _ := List.take_add_one
              rw [show i - 1 + 1 = i by omega, g2] at this
              exact this
            have hlast : x ≤ nth d ((i : Int) - 1) := by
              rw [tk2] at hx
              have p2 := ple.1
              rw [tk2] at p2
              rcases List.mem_append.mp hx with q | q
              · exact (List.pairwise_append.mp p2).2.2 x q _ (by simp)
              · simp at q; omega
            have := ple.2.2 (nth d ((i : Int) - 1)) (by rw [tk2]; simp) (nth d i) (by simp)
            omega
      · rw [mem_sortU, List.mem_append, List.mem_append, mem_sortU]
    · intro hc
      refine sortU_congr fun x => ?_
      have i0 : i ≠ 0 := fun z => hc (.inl z)
      have e : nth d ((i : Int) - 1) = nth d i := Decidable.byContradiction fun z => hc (.inr z)
      rw [List.mem_append]
      constructor
      · rintro (q | q)
        · exact q
        · simp at q
          have g2 := nth_get (l := d) (i := i - 1) (by omega)
          rw [show ((i - 1 : Nat) : Int) = (i : Int) - 1 by omega, e] at g2
          subst q
          refine List.mem_of_getElem? (i := i - 1) ?_
          rw [List.getElem?_take, if_pos (by omega)]
          exact g2
      · exact .inl
  obtain ⟨ρ', e, x2, x3, x4, x5, hρ⟩ := Nx.for_ (ι := iEn (eVar 0)) (τ := .tp [.nm 2, .nm 3]) (B := b__law_groups_0) (ρ := [some (.val (Li d)), some (.own []), none, none, none, none]) (enD 0 (d.map PyData.int))
    (fun i (ρ : En) => ∃ x2 x3 x4 x5 : Option Cl, ρ = [some (.val (Li d)), some (.own (((sortU (d.take i)).map (wd d)).map fun w => PyData.str (S w))), x2, x3, x4, x5]) (Q := fun ρ => ∃ x2 x3 x4 x5 : Option Cl, ρ = [some (.val (Li d)), some (.own (((sortU d).map (wd d)).map fun w => PyData.str (S w))), x2, x3, x4, x5]) (by simp [x_iEn, x_enOf, x_var])
    ⟨none, none, none, none, by simp [sortU]⟩ (by
      rintro i ρ u hu ⟨x2, x3, x4, x5, rfl⟩
      obtain ⟨a, h1, h2⟩ := @enD_get kk0 _ _ _ _ hu
      rw [Nat.zero_add] at h2
      subst h2
      rw [List.getElem?_map] at h1
      cases hcc : d[i]? with
      | none => rw [hcc] at h1; cases h1
      | some v =>
        rw [hcc] at h1
        cases h1
        have hi' : i < d.length := (List.getElem?_eq_some_iff.mp hcc).1
        have en := nth_get hi'
        rw [hcc] at en
        have en : v = nth d i := Option.some.inj en
        have vr := h.rg v (List.mem_of_getElem? hcc)
        have ck := count_le h v
        obtain ⟨st1, st2⟩ := step hi'
        rw [← en] at st1 st2
        have sl' := sortU_len (d.take i)
        rw [List.length_take] at sl'
        have z : (((sortU (d.take i)).map (wd d)).map fun w => PyData.str (S w)).length ≤ 1000000 := by
          rw [List.length_map, List.length_map]
          omega
        have ts : (tOr (t2 cEq (eVar 2) (eK (.int 0))) (t2 cNe (e2 gIx (eVar 0) (e2 gSub (eVar 2) (eK (.int 1)))) (eVar 3))) [some (.val (Li d)), some (.own (((sortU (d.take i)).map (wd d)).map fun w => PyData.str (S w))), some (.val (.int (i : Int))), some (.val (.int v)), x4, x5] = .ok (decide (i = 0 ∨ nth d ((i : Int) - 1) ≠ v)) := by
          generalize (((sortU (d.take i)).map (wd d)).map fun w => PyData.str (S w)) = A at *
          by_cases i0 : i = 0
          · subst i0
            simp [x_var, x_eq]
          · have g := x_ixL d ((i : Int) - 1) (by omega) (by omega)
            have i0' : ¬ (i : Int) = 0 := by omega
            by_cases q : nth d ((i : Int) - 1) = v
            · simp [x_var, x_eq, x_ne, i0, g, q]
            · simp [x_var, x_eq, x_ne, i0, g, q]
        refine ⟨[some (.val (Li d)), some (.own (((sortU (d.take i)).map (wd d)).map fun w => PyData.str (S w))), some (.val (.int (i : Int))), some (.val (.int v)), x4, x5], rfl, ?_⟩
        by_cases hc : i = 0 ∨ nth d ((i : Int) - 1) ≠ v
        · rw [decide_eq_true hc] at ts
          refine ⟨[some (.val (Li d)), some (.own (((sortU (d.take (i + 1))).map (wd d)).map fun w => PyData.str (S w))), some (.val (.int (i : Int))), some (.val (.int v)), some (.val (.int (d.count v : Nat))), x5], ?_, _, _, _, _, rfl⟩
          have nx : (((sortU (d.take (i + 1))).map (wd d)).map fun w => PyData.str (S w)) = (((sortU (d.take i)).map (wd d)).map fun w => PyData.str (S w)) ++ [PyData.str (S (wdk v (d.count v)))] := by
            rw [st1 hc]
            simp [wd]
          rw [nx]
          have el : lcR (.nm 5) (t2 cEq (eVar 5) (eVar 3)) (eVar 5) [some (.val (Li d)), some (.own (((sortU (d.take i)).map (wd d)).map fun w => PyData.str (S w))), some (.val (.int (i : Int))), some (.val (.int v)), x4, none] (d.map PyData.int) = .ok ((d.filter (· == v)).map PyData.int) := filter_lc _ d (fun x => by simp [x_var, x_eq]; rfl) (fun x => by simp [x_var])
          have fl : (d.filter (· == v)).length = d.count v := by rw [List.count, List.countP_eq_length_filter]
          generalize (((sortU (d.take i)).map (wd d)).map fun w => PyData.str (S w)) = A at *
          have w := word_ev (ρ := [some (.val (Li d)), some (.own A), some (.val (.int (i : Int))), some (.val (.int v)), some (.val (.int (d.count v : Nat))), x5]) (i := 3) (j := 4) (v := v) (k := d.count v) rfl rfl vr.1 vr.2 ck
          have dz : d.length ≤ 1000000 := by omega
          refine if_yes ts (seq_nx (ρ1 := [some (.val (Li d)), some (.own A), some (.val (.int (i : Int))), some (.val (.int v)), some (.val (.int (d.count v : Nat))), x5]) ?_ ?_)
          · have cz : d.count v ≤ 1000000 := by omega
            generalize (d.filter (· == v)) = FV at *
            simp [-x_t2, x_var, dz, wipeE, el, fl, cz]
          · rw [x_app, x_evA, w]
            simp [ownAt, z]
        · rw [decide_eq_false hc] at ts
          refine ⟨[some (.val (Li d)), some (.own (((sortU (d.take (i + 1))).map (wd d)).map fun w => PyData.str (S w))), some (.val (.int (i : Int))), some (.val (.int v)), x4, x5], ?_, _, _, _, _, rfl⟩
          rw [st2 hc]
          exact if_no ts rfl) (fun ρ hI => by
      obtain ⟨x2, x3, x4, x5, rfl⟩ := hI
      rw [@enD_len kk0, List.length_map, List.take_length]
      exact ⟨_, _, _, _, rfl⟩)
  subst hρ
  have js := joinS ((sortU d).map (wd d)) (by
    have := sum_le_mul (m := 9) (l := (sortU d).map (wd d)) fun w hw => by
      obtain ⟨v, hv, rfl⟩ := List.mem_map.mp hw
      exact wdk_len (h.rg v (mem_sortU.mp hv)).2 (count_le h v)
    rw [List.length_map] at *
    omega)
  have js : gJoin (S [32]) (.val (.list (((sortU d).map (wd d)).map fun w => PyData.str (S w)))) = .ok (.val (.str (S (txD d)))) := js
  generalize (((sortU d).map (wd d)).map fun w => PyData.str (S w)) = A at *
  refine fn_rt (seq_nx (ρ1 := [some (.val (Li d)), some (.own []), none, none, none, none]) (by simp [st0]) (seq_nx e ?_))
  simp only [x_ret, eS1, x_K, k_sp]
  have jb : gJoin (S [32]) (.bor 1 A) = .ok (.val (.str (S (txD d)))) := js
  simp [x_var, js, jb, Rv.toStr]
theorem txD_len (h9 : ∀ v ∈ d, v ≤ 99) (h8 : d.length ≤ 8) : (txD d).length ≤ 40 := by
  have sl := sortU_len d
  have := joinL_len (m := 4) (l := (sortU d).map (wd d)) fun w hw => by
    obtain ⟨v, hv, rfl⟩ := List.mem_map.mp hw
    exact wdk_len4 (h9 v (mem_sortU.mp hv)) (by have := List.count_le_length (a := v) (l := d); omega)
  rw [List.length_map] at this
  unfold txD
  omega
end
def rdP : List PyData → List PyData
  | [p] => [p]
  | [p, .int n] => List.replicate n.toNat p
  | _ => [.none]
theorem rdP_long (p q r : PyData) (s : List PyData) : rdP (p :: q :: r :: s) = [.none] := by cases q <;> rfl
def rdG (w : List Nat) : List PyData := rdP ((spl [42] 0 [] w).map rdN)
theorem rep_flat {α : Type} (x : α) : ∀ n : Nat, (List.replicate n [x]).flatten = List.replicate n x
  | 0 => rfl
  | n + 1 => by
    rw [List.replicate_succ, List.flatten_cons, rep_flat x n]
    rfl
theorem group_eq (w : List Nat) (hw : w.length ≤ 900) : F_read_group [.str (S w)] = .ok (.own (rdG w)) ∧ (rdG w).length ≤ 9999 ∧ ∀ x ∈ rdG w, Nk x := by
  obtain ⟨w1, w2, w3⟩ := spl_ok 42 w []
  have sp := splitS (s := 42) (by decide) w (by omega)
  unfold rdG
  generalize spl [42] 0 [] w = ws at *
  have wl : ∀ v ∈ ws, v.length ≤ 900 := fun v hv => by have := w3 v hv; simp at this; omega
  have el : lcR (.nm 2) tYes (eCall F_read_number [eVar 2]) [some (.val (.str (S w))), none, none] (ws.map fun w => PyData.str (S w)) = .ok (ws.map rdN) := by
    refine lc_map _ _ _ fun v hv => ⟨_, rfl, .val (rdN v), ?_, rfl⟩
    have := read_eq v (by have := wl v hv; omega)
    simp [x_var, this]
  have nk : ∀ x ∈ ws.map rdN, x = .none ∨ ∃ n : Int, x = .int n ∧ 0 ≤ n ∧ n ≤ 9999 := fun x hx => by
    obtain ⟨v, _, rfl⟩ := List.mem_map.mp hx
    exact rd_kind v
  have z1 : (ws.map fun w => PyData.str (S w)).length ≤ 1000000 := by rw [List.length_map]; omega
  have pl : (ws.map rdN).length ≤ 1000 := by rw [List.length_map]; omega
  have pn : ws.map rdN ≠ [] := by simpa using w2
  generalize (ws.map fun w => PyData.str (S w)) = WS at *
  generalize ws.map rdN = P at *
  have go : ∀ o, (sSeq (sIf (tAnd (t2 cEq (eB gLen [eVar 1]) (eK (.int 2))) (t2 cIsNot (e2 gIx (eVar 1) (eK (.int 1))) (eK .none))) (sRet (e2 gMul (eSl (eVar 1) (pNo) (pSo (eK (.int 1)))) (e2 gIx (eVar 1) (eK (.int 1))))) (sNil))
  (sRet (eIf (t2 cEq (eB gLen [eVar 1]) (eK (.int 1))) (eSl (eVar 1) (pNo) (pSo (eK (.int 1)))) (eLst [eK .none])))) [some (.val (.str (S w))), some (.val (.list P)), none] = o → m_read_group (st0 3 [.str (S w)]) = o := fun o ho => by
    refine seq_nx (ρ1 := [some (.val (.str (S w))), some (.val (.list P)), none]) ?_ ho
    simp only [x_set, eS1, x_K, k_st]
    simp [st0, eS1, x_var, Rv.toStr, k_st, sp, z1, wipeE, el]
  have c1 : ∀ (p : PyData) (r : List PyData), cut (p :: r) none (some 1) = [p] := fun p r => by
    unfold cut
    simp [HT.sIx]
  have ix1 : ∀ (p q : PyData), gIx (.val (.list [p, q])) (.val (.int 1)) = .ok (.val q) := fun p q => rfl
  match P, pn, pl, nk, go with
  | [p], _, _, nk, go =>
    rw [show rdP [p] = [p] from rfl]
    refine ⟨fn_rt (go _ ?_), by simp, ?_⟩
    · refine seq_nx (if_no (by simp [x_var, x_eq]) rfl) ?_
      simp [x_var, x_eq, eSl, gSl, pNo, pSo, c1, Rv.toInt]
    · intro x hx
      simp at hx
      subst hx
      rcases nk x (by simp) with e | ⟨n, e, _⟩
      · exact .inl e
      · exact .inr ⟨n, e⟩
  | [p, q], _, _, nk, go =>
    rcases nk q (by simp) with rfl | ⟨n, rfl, n0, n1⟩
    · rw [show rdP [p, .none] = [.none] from rfl]
      refine ⟨fn_rt (go _ ?_), by simp, fun x hx => by simp at hx; exact .inl hx⟩
      refine seq_nx (if_no (by simp [x_var, x_eq, ix1, cIsNot, isNoneD]) rfl) ?_
      simp [x_var, x_eq]
    · rw [show rdP [p, .int n] = List.replicate n.toNat p from rfl]
      refine ⟨fn_rt (go _ ?_), by simp; omega, fun x hx => ?_⟩
      · refine seq_rt (if_yes (by simp [x_var, x_eq, ix1, cIsNot, isNoneD]) ?_)
        have gm : gMul (.val (.list [p])) (.val (.int n)) = .ok (.own (List.replicate n.toNat p)) := by
          show (if -(2 ^ 62) ≤ n ∧ n < 2 ^ 62 ∧ [p].length * n.toNat ≤ 1000000 then R.ok (Rv.own (List.replicate n.toNat [p]).flatten) else .bad) = _
          rw [if_pos ⟨by omega, by omega, by simp; omega⟩, rep_flat]
        simp [x_var, eSl, gSl, pNo, pSo, c1, Rv.toInt, ix1, gm]
      · have hx := (List.mem_replicate.mp hx).2
        subst hx
        rcases nk x (by simp) with e | ⟨n, e, _⟩
        · exact .inl e
        · exact .inr ⟨n, e⟩
  | p :: q :: r :: s, _, pl, nk, go =>
    rw [rdP_long]
    refine ⟨fn_rt (go _ ?_), by simp, fun x hx => by simp at hx; exact .inl hx⟩
    have l2 : ¬ (((p :: q :: r :: s).length : Nat) : Int) = 2 := by simp only [List.length_cons]; omega
    have l1 : ¬ (((p :: q :: r :: s).length : Nat) : Int) = 1 := by simp only [List.length_cons]; omega
    have pl : (p :: q :: r :: s).length ≤ 1000000 := by omega
    generalize (p :: q :: r :: s) = P at *
    refine seq_nx (if_no (by simp [x_var, x_eq, l2]) rfl) ?_
    simp [x_var, x_eq, l1]
theorem data_nk {ds : List PyData} (h : ∀ x ∈ ds, Nk x) (hz : ds.length ≤ 1000000) : F_are_data [.list ds] = .ok (.val (.bool false)) ∨ ∃ d : List Int, ds = d.map PyData.int ∧ VD d := by
  by_cases l1 : (200 : Int) < (ds.length : Int)
  · refine .inl (fn_rt (seq_rt (if_yes ?_ (by simp))))
    simp [st0, x_var, l1]
  · have el : lcR (.nm 1) tYes (eCall F_is_int [eVar 1, eK (.int 0), eK (.int 999)]) [some (.val (.list ds)), none, none, none] ds = .ok (ds.map fun x => PyData.bool (okI 0 999 x)) := isint_lc h 0 999 fun x => rfl
    have ga : gAll [.val (.list (ds.map fun x => PyData.bool (okI 0 999 x)))] = .ok (.val (.bool (ds.all (okI 0 999)))) := x_allP ds _
    cases hall : ds.all (okI 0 999) with
    | false =>
      rw [hall] at ga
      refine .inl ?_
      generalize (ds.map fun x => PyData.bool (okI 0 999 x)) = M at *
      refine fn_rt (seq_nx (if_no (by simp [st0, x_var, l1]) rfl) (seq_rt (if_yes (by simp [st0, x_var, hz, wipeE, el, ga]) (by simp))))
    | true =>
      obtain ⟨d, rfl, rg⟩ := ints_nk h hall
      have k := data_dec d
      by_cases v : VD d
      · exact .inr ⟨d, rfl, v⟩
      · rw [decide_eq_false v] at k
        exact .inl k
def wsD (t : List Nat) : List (List Nat) := if t = [] then [] else spl [32] 0 [] t
theorem flat_len {ws : List (List Nat)} (h : ∀ w ∈ ws, (rdG w).length ≤ 9999) : (ws.flatMap rdG).length ≤ 9999 * ws.length := by
  induction ws with
  | nil => simp
  | cons w ws ih =>
    have h1 := h w (by simp)
    have := ih fun v hv => h v (List.mem_cons_of_mem _ hv)
    rw [List.flatMap_cons, List.length_append, List.length_cons, Nat.mul_add]
    omega
theorem parseD_core {t : List Nat} (ht : t.length ≤ 61) : ∃ D, D = (wsD t).flatMap rdG ∧ D.length ≤ 1000000 ∧ (∀ x ∈ D, Nk x) ∧ (F_are_data [.list D] = .ok (.val (.bool false)) → F_parse_data [.str (S t)] = .err "ParseError") ∧
    (∀ J : List Nat, F_are_data [.list D] = .ok (.val (.bool true)) → F_join_data [.list D] = .ok (.val (.str (S J))) → F_parse_data [.str (S t)] = if J = t then .ok (.val (.list D)) else .err "ParseError") := by
  refine ⟨_, rfl, ?_⟩
  obtain ⟨w1, w2, w3⟩ := spl_ok 32 t []
  have sp := splitS (s := 32) (by decide) t (by omega)
  have wl : ∀ w ∈ wsD t, w.length ≤ 900 := fun w hw => by
    unfold wsD at hw
    split at hw
    · simp at hw
    · have := w3 w hw; simp at this; omega
  have wz : (wsD t).length ≤ 62 := by
    unfold wsD
    split
    · simp
    · omega
  have ei : iSeq (eIf (t2 cNe (eVar 0) (eK (.str ""))) (eS1 gSplit (eVar 0) (eK (.str " "))) (eLst [])) [some (.val (.str (S t))), some (.val (.list [])), none] = .ok (true, (wsD t).map fun w => PyData.str (S w)) := by
    unfold wsD
    have q : PyData.eqv (.str (S t)) (.str (S [])) = decide (t = []) := by
      rw [PyData.eqv]
      exact SX.S_beq_eq
    by_cases e : t = []
    · subst e
      rw [if_pos rfl]
      rfl
    · rw [if_neg e]
      rw [decide_eq_false e] at q
      generalize (spl [32] 0 [] t).map (fun w => PyData.str (S w)) = WS at *
      generalize S t = ST at *
      have k1 : cNe (.val (.str ST)) (.val (.str (Str.ofString ""))) = .ok true := by
        rw [k_em, x_ne, if_pos (by simp)]
        show R.ok (!PyData.eqv (.str ST) (.str (S []))) = _
        rw [q]
        rfl
      simp only [eS1, k_sp]
      simp [x_var, k1, Rv.toStr, sp, eS1, k_sp]
  have fl : ∀ i, (((wsD t).take i).flatMap rdG).length ≤ 619938 := fun i => by
    have := flat_len (ws := (wsD t).take i) fun w hw => (group_eq w (wl w (List.mem_of_mem_take hw))).2.1
    rw [List.length_take] at this
    omega
  have fw : ((wsD t).flatMap rdG).length ≤ 619938 := by
    have := flat_len (ws := wsD t) fun w hw => (group_eq w (wl w hw)).2.1
    omega
  obtain ⟨ρ', e, x2, hρ⟩ := Nx.for_ (ι := iSeq (eIf (t2 cNe (eVar 0) (eK (.str ""))) (eS1 gSplit (eVar 0) (eK (.str " "))) (eLst []))) (τ := .nm 2) (B := b_parse_data_0) (ρ := [some (.val (.str (S t))), some (.val (.list [])), none]) ((wsD t).map fun w => PyData.str (S w))
    (fun i (ρ : En) => ∃ x2 : Option Cl, ρ = [some (.val (.str (S t))), some (.val (.list (((wsD t).take i).flatMap rdG))), x2]) (Q := fun ρ => ∃ x2 : Option Cl, ρ = [some (.val (.str (S t))), some (.val (.list ((wsD t).flatMap rdG))), x2]) ei
    ⟨none, by simp⟩ (by
      rintro i ρ u hu ⟨x2, rfl⟩
      rw [List.getElem?_map] at hu
      cases hcc : (wsD t)[i]? with
      | none => rw [hcc] at hu; cases hu
      | some w =>
        rw [hcc] at hu
        cases hu
        have hw := wl w (List.mem_of_getElem? hcc)
        obtain ⟨g1, g2, g3⟩ := group_eq w hw
        refine ⟨_, rfl, [some (.val (.str (S t))), some (.val (.list (((wsD t).take (i + 1)).flatMap rdG))), some (.val (.str (S w)))], ?_, _, rfl⟩
        have nx : ((wsD t).take (i + 1)).flatMap rdG = ((wsD t).take i).flatMap rdG ++ rdG w := by
          rw [List.take_add_one, hcc]
          simp
        have l1 := fl i
        have z : (((wsD t).take i).flatMap rdG).length + (rdG w).length ≤ 1000000 := by omega
        rw [nx]
        generalize ((wsD t).take i).flatMap rdG = A at *
        generalize rdG w = G at *
        simp [x_var, g1, z]) (fun ρ hI => by
      obtain ⟨x2, rfl⟩ := hI
      rw [List.length_map, List.take_length]
      exact ⟨_, rfl⟩)
  subst hρ
  refine ⟨by omega, fun x hx => ?_, ?_⟩
  · obtain ⟨w, hw, hx⟩ := List.mem_flatMap.mp hx
    exact (group_eq w (wl w hw)).2.2 x hx
  generalize (wsD t).flatMap rdG = D at *
  have go : ∀ o, (sSeq (sIf (tOr (tNot (tE (eCall F_are_data [eVar 1]))) (t2 cNe (eCall F_join_data [eVar 1]) (eVar 0))) (sRaise "ParseError") (sNil)) (sRet (eVar 1))) [some (.val (.str (S t))), some (.val (.list D)), x2] = o → m_parse_data (st0 3 [.str (S t)]) = o := fun o ho => by
    refine seq_nx (if_no (by simp [st0, x_var]) rfl) ?_
    refine seq_nx (ρ1 := [some (.val (.str (S t))), some (.val (.list [])), none]) (by simp [st0]) ?_
    exact seq_nx e ho
  refine ⟨fun hf => ?_, fun J hf hj => ?_⟩
  · have := go (.err "ParseError") (by rw [x_seq, if_yes (by simp [x_var, hf]) rfl]; rfl)
    unfold F_parse_data fnR
    rw [this]
    rfl
  · by_cases e : J = t
    · subst e
      rw [if_pos rfl]
      refine fn_rt (go _ (seq_nx (if_no ?_ rfl) (by simp [x_var])))
      have q : PyData.eqv (.str (S J)) (.str (S J)) = true := by rw [PyData.eqv]; simp
      generalize S J = SJ at *
      simp [x_var, hf, hj, x_ne, q]
    · rw [if_neg e]
      have := go (.err "ParseError") (by
        rw [x_seq, if_yes ?_ rfl]
        · rfl
        · have q : PyData.eqv (.str (S J)) (.str (S t)) = false := by
            rw [PyData.eqv]
            exact (SX.S_beq_eq (a := J) (b := t)).trans (decide_eq_false e)
          generalize S J = SJ at *
          generalize S t = ST at *
          simp [x_var, hf, hj, x_ne, q])
      unfold F_parse_data fnR
      rw [this]
      rfl
theorem rdG_one (w : List Nat) : ∃ p, ∀ x ∈ rdG w, x = p := by
  unfold rdG rdP
  split
  · exact ⟨_, fun x hx => by simpa using hx⟩
  · exact ⟨_, fun x hx => (List.mem_replicate.mp hx).2⟩
  · exact ⟨_, fun x hx => by simpa using hx⟩
theorem dist_le : ∀ {ws : List (List Nat)} {d : List Int}, ws.flatMap rdG = d.map PyData.int → (sortU d).length ≤ ws.length
  | [], d, h => by
    have : d = [] := by
      have h := h.symm
      simpa using h
    subst this
    simp [sortU]
  | w :: ws, d, h => by
    rw [List.flatMap_cons] at h
    obtain ⟨a, b, rfl, ha, hb⟩ : ∃ a b : List Int, d = a ++ b ∧ rdG w = a.map PyData.int ∧ ws.flatMap rdG = b.map PyData.int := by
      obtain ⟨a, b, e1, e2, e3⟩ := List.append_eq_map_iff.mp h
      exact ⟨a, b, e1, e2.symm, e3.symm⟩
    have ih := dist_le hb
    obtain ⟨p, hp⟩ := rdG_one w
    rw [List.length_cons]
    cases a with
    | nil =>
      rw [List.nil_append]
      omega
    | cons x a =>
      have hx : ∀ y ∈ a, y = x := fun y hy => by
        have h1 := hp (.int x) (by rw [ha]; simp)
        have h2 := hp (.int y) (by rw [ha]; exact List.mem_map.mpr ⟨y, List.mem_cons_of_mem _ hy, rfl⟩)
        rw [← h1] at h2
        exact PyData.int.inj h2
      have e : sortU (x :: a ++ b) = sortU (x :: b) := sortU_congr fun y => by
        constructor
        · intro hy
          rcases List.mem_append.mp hy with q | q
          · rcases List.mem_cons.mp q with q | q
            · rw [q]; simp
            · rw [hx y q]; simp
          · exact List.mem_cons_of_mem _ q
        · intro hy
          rcases List.mem_cons.mp hy with q | q
          · rw [q]; simp
          · exact List.mem_append_right _ q
      rw [e, sortU]
      have := insU_len x (sortU b)
      omega
theorem wsD_len (t : List Nat) : (wsD t).length ≤ t.length + 1 := by
  obtain ⟨w1, w2, w3⟩ := spl_ok 32 t []
  unfold wsD
  split
  · simp
  · exact w1
theorem parseD_any {t : List Nat} (ht : t.length ≤ 61) : F_parse_data [.str (S t)] = .err "ParseError" ∨ ∃ d, VD d ∧ txD d = t ∧ F_parse_data [.str (S t)] = .ok (.val (Li d)) := by
  obtain ⟨D, hD, z, nk, p1, p2⟩ := parseD_core ht
  rcases data_nk nk z with kf | ⟨d, rfl, vd⟩
  · exact .inl (p1 kf)
  · have ds := dist_le hD.symm
    have wz := wsD_len t
    have q := p2 (txD d) (data_eq vd) (joinD_eq vd (by omega))
    by_cases e : txD d = t
    · rw [if_pos e] at q
      exact .inr ⟨d, vd, e, q⟩
    · rw [if_neg e] at q
      exact .inl q
theorem groupN {v : Int} {k : Nat} (h0 : 0 ≤ v) (h1 : v ≤ 999) (k0 : 1 ≤ k) (k1 : k ≤ 200) : rdG (wdk v k) = List.replicate k (.int v) := by
  unfold rdG wdk
  have nv := rd_num (n := v) h0 (by omega)
  by_cases hk : 1 < k
  · rw [if_pos hk]
    have e : spl [42] 0 [] (Nu v ++ 42 :: Nu (k : Int)) = [Nu v, Nu (k : Int)] := by
      have := TL.spl_join (s := 42) (S := []) (parts := [Nu v, Nu (k : Int)]) (by simp) (fun p hp => by
        simp at hp
        rcases hp with rfl | rfl
        · exact Nu_free (.inl (by decide))
        · exact Nu_free (.inl (by decide)))
      exact this
    have nk := rd_num (n := (k : Int)) (by omega) (by omega)
    rw [e, List.map_cons, List.map_cons, List.map_nil, nv, nk]
    show List.replicate (k : Int).toNat _ = _
    rfl
  · rw [if_neg hk, List.append_nil]
    have e : spl [42] 0 [] (Nu v) = [Nu v] := TL.spl_join (s := 42) (S := []) (parts := [Nu v]) (by simp) (fun p hp => by
        simp at hp
        rw [hp]
        exact Nu_free (.inl (by decide)))
    rw [e, List.map_cons, List.map_nil, nv]
    have : k = 1 := by omega
    subst this
    rfl
theorem flat_sorted : ∀ {d : List Int}, d.Pairwise (· ≤ ·) → (sortU d).flatMap (fun v => List.replicate (d.count v) v) = d
  | [], _ => rfl
  | x :: r, h => by
    obtain ⟨h1, h2⟩ := List.pairwise_cons.mp h
    have ih := flat_sorted h2
    have sm : ∀ y ∈ sortU r, x ≤ y := fun y hy => h1 y (mem_sortU.mp hy)
    have sp := sortU_lt r
    rw [sortU]
    generalize hs : sortU r = s at *
    have cg : ∀ (l : List Int), (∀ y ∈ l, x < y) → l.flatMap (fun v => List.replicate ((x :: r).count v) v) = l.flatMap (fun v => List.replicate (r.count v) v) := by
      intro l
      induction l with
      | nil => intro _; rfl
      | cons y l ihl =>
        intro hy
        have := hy y (by simp)
        rw [List.flatMap_cons, List.flatMap_cons, ihl fun z hz => hy z (List.mem_cons_of_mem _ hz), List.count_cons_of_ne (by omega)]
    match s, hs, sm, sp, ih with
    | [], hs, _, _, ih =>
      have ih : [] = r := ih
      subst ih
      simp [insU]
    | b :: bs, hs, sm, sp, ih =>
      have xb := sm b (by simp)
      obtain ⟨p1, p2⟩ := List.pairwise_cons.mp sp
      rw [insU]
      by_cases q : x < b
      · rw [if_pos q, List.flatMap_cons, cg (b :: bs) (fun y hy => by
          rcases List.mem_cons.mp hy with e | e
          · rw [e]; exact q
          · have := p1 y e; omega), ih]
        have nx : x ∉ r := fun z => by
          have := mem_sortU.mpr z
          rw [hs] at this
          rcases List.mem_cons.mp this with e | e
          · omega
          · have := p1 x e; omega
        rw [List.count_cons_self, List.count_eq_zero_of_not_mem nx]
        rfl
      · have e : x = b := by omega
        subst e
        rw [if_neg q, if_pos rfl, List.flatMap_cons, cg bs (fun y hy => p1 y hy), List.count_cons_self, List.replicate_succ, List.cons_append]
        rw [List.flatMap_cons] at ih
        rw [ih]
theorem parseD_back {d : List Int} (h : VD d) (ht : (txD d).length ≤ 61) : F_parse_data [.str (S (txD d))] = .ok (.val (Li d)) := by
  obtain ⟨D, hD, z, nk, p1, p2⟩ := parseD_core ht
  have ew : wsD (txD d) = (sortU d).map (wd d) := by
    cases hs : sortU d with
    | nil =>
      unfold wsD txD
      rw [hs]
      rfl
    | cons v s =>
      have ne : ((sortU d).map (wd d)) ≠ [] := by rw [hs]; simp
      have sj : spl [32] 0 [] (txD d) = (sortU d).map (wd d) := TL.spl_join ne fun w hw => by
        obtain ⟨u, _, rfl⟩ := List.mem_map.mp hw
        unfold wd wdk
        intro q
        rcases List.mem_append.mp q with q | q
        · exact Nu_free (.inl (by decide)) q
        · split at q
          · rcases List.mem_cons.mp q with q | q
            · exact absurd q (by decide)
            · exact Nu_free (.inl (by decide)) q
          · simp at q
      have tn : txD d ≠ [] := fun q => by
        rw [q] at sj
        have sj : [[]] = (sortU d).map (wd d) := sj
        rw [hs, List.map_cons] at sj
        have := (List.cons.inj sj).1
        unfold wd wdk at this
        have := List.append_eq_nil_iff.mp this.symm
        exact Nu_ne v this.1
      unfold wsD
      rw [if_neg tn, sj, hs]
  have eD : D = d.map PyData.int := by
    rw [hD, ew, List.flatMap_map]
    have : ∀ l : List Int, (∀ v ∈ l, v ∈ d) → l.flatMap (fun v => rdG (wd d v)) = (l.flatMap (fun v => List.replicate (d.count v) v)).map PyData.int := by
      intro l
      induction l with
      | nil => intro _; rfl
      | cons v l ih =>
        intro hv
        have vr := h.rg v (hv v (by simp))
        rw [List.flatMap_cons, List.flatMap_cons, List.map_append, ih fun u hu => hv u (List.mem_cons_of_mem _ hu), List.map_replicate]
        rw [show rdG (wd d v) = _ from groupN vr.1 vr.2 (List.count_pos_iff.mpr (hv v (by simp))) (count_le h v)]
    rw [this _ fun v hv => mem_sortU.mp hv, flat_sorted h.le]
  have ds := dist_le (hD.symm.trans eD)
  have wz := wsD_len (txD d)
  rw [eD] at p2
  have q := p2 (txD d) (data_eq h) (joinD_eq h (by omega))
  rwa [if_pos rfl] at q
end Py

set_option Elab.async false
set_option linter.all false
set_option maxRecDepth 100000
set_option autoImplicit false
set_option maxHeartbeats 4000000
namespace Py
open PySem L2
variable [KK]
def Facts (mg : Str → Option Value) : Prop := (∃ h : Heap, KK.K.In h ∧ h.Ns mainGlobals mg) ∧ SaysX Hd.fa Hd.fn (xfOf Hd.excs "BucketError" Hd.asked) KK.K
section
variable {mg : Str → Option Value}
theorem Z_glo_is_int (Z : Facts mg) : mg "is_int" = some (.ref (He.ga KK.K "is_int")) := let ⟨⟨_, X, G⟩, c⟩ := Z; He.glo_ok X G (c.fact 0 (f := .glo "is_int") rfl)
theorem Z_glo_are_data (Z : Facts mg) : mg "are_data" = some (.ref (He.ga KK.K "are_data")) := let ⟨⟨_, X, G⟩, c⟩ := Z; He.glo_ok X G (c.fact 1 (f := .glo "are_data") rfl)
theorem Z_glo_are_borders (Z : Facts mg) : mg "are_borders" = some (.ref (He.ga KK.K "are_borders")) := let ⟨⟨_, X, G⟩, c⟩ := Z; He.glo_ok X G (c.fact 2 (f := .glo "are_borders") rfl)
theorem Z_glo_is_histogram (Z : Facts mg) : mg "is_histogram" = some (.ref (He.ga KK.K "is_histogram")) := let ⟨⟨_, X, G⟩, c⟩ := Z; He.glo_ok X G (c.fact 3 (f := .glo "is_histogram") rfl)
theorem Z_glo_check_data (Z : Facts mg) : mg "check_data" = some (.ref (He.ga KK.K "check_data")) := let ⟨⟨_, X, G⟩, c⟩ := Z; He.glo_ok X G (c.fact 4 (f := .glo "check_data") rfl)
theorem Z_glo_check_histogram (Z : Facts mg) : mg "check_histogram" = some (.ref (He.ga KK.K "check_histogram")) := let ⟨⟨_, X, G⟩, c⟩ := Z; He.glo_ok X G (c.fact 5 (f := .glo "check_histogram") rfl)
theorem Z_glo_join_histogram (Z : Facts mg) : mg "join_histogram" = some (.ref (He.ga KK.K "join_histogram")) := let ⟨⟨_, X, G⟩, c⟩ := Z; He.glo_ok X G (c.fact 6 (f := .glo "join_histogram") rfl)
theorem Z_glo_format_histogram (Z : Facts mg) : mg "format_histogram" = some (.ref (He.ga KK.K "format_histogram")) := let ⟨⟨_, X, G⟩, c⟩ := Z; He.glo_ok X G (c.fact 7 (f := .glo "format_histogram") rfl)
theorem Z_glo_read_number (Z : Facts mg) : mg "read_number" = some (.ref (He.ga KK.K "read_number")) := let ⟨⟨_, X, G⟩, c⟩ := Z; He.glo_ok X G (c.fact 8 (f := .glo "read_number") rfl)
theorem Z_glo_parse_histogram (Z : Facts mg) : mg "parse_histogram" = some (.ref (He.ga KK.K "parse_histogram")) := let ⟨⟨_, X, G⟩, c⟩ := Z; He.glo_ok X G (c.fact 9 (f := .glo "parse_histogram") rfl)
theorem Z_glo_join_data (Z : Facts mg) : mg "join_data" = some (.ref (He.ga KK.K "join_data")) := let ⟨⟨_, X, G⟩, c⟩ := Z; He.glo_ok X G (c.fact 10 (f := .glo "join_data") rfl)
theorem Z_glo_format_data (Z : Facts mg) : mg "format_data" = some (.ref (He.ga KK.K "format_data")) := let ⟨⟨_, X, G⟩, c⟩ := Z; He.glo_ok X G (c.fact 11 (f := .glo "format_data") rfl)
theorem Z_glo_read_group (Z : Facts mg) : mg "read_group" = some (.ref (He.ga KK.K "read_group")) := let ⟨⟨_, X, G⟩, c⟩ := Z; He.glo_ok X G (c.fact 12 (f := .glo "read_group") rfl)
theorem Z_glo_parse_data (Z : Facts mg) : mg "parse_data" = some (.ref (He.ga KK.K "parse_data")) := let ⟨⟨_, X, G⟩, c⟩ := Z; He.glo_ok X G (c.fact 13 (f := .glo "parse_data") rfl)
theorem Z_glo__law_drawn (Z : Facts mg) : mg "_law_drawn" = some (.ref (He.ga KK.K "_law_drawn")) := let ⟨⟨_, X, G⟩, c⟩ := Z; He.glo_ok X G (c.fact 14 (f := .glo "_law_drawn") rfl)
theorem Z_glo__law_borders (Z : Facts mg) : mg "_law_borders" = some (.ref (He.ga KK.K "_law_borders")) := let ⟨⟨_, X, G⟩, c⟩ := Z; He.glo_ok X G (c.fact 15 (f := .glo "_law_borders") rfl)
theorem Z_glo__law_values (Z : Facts mg) : mg "_law_values" = some (.ref (He.ga KK.K "_law_values")) := let ⟨⟨_, X, G⟩, c⟩ := Z; He.glo_ok X G (c.fact 16 (f := .glo "_law_values") rfl)
theorem Z_glo__law_histogram (Z : Facts mg) : mg "_law_histogram" = some (.ref (He.ga KK.K "_law_histogram")) := let ⟨⟨_, X, G⟩, c⟩ := Z; He.glo_ok X G (c.fact 17 (f := .glo "_law_histogram") rfl)
theorem Z_glo__law_badhist (Z : Facts mg) : mg "_law_badhist" = some (.ref (He.ga KK.K "_law_badhist")) := let ⟨⟨_, X, G⟩, c⟩ := Z; He.glo_ok X G (c.fact 18 (f := .glo "_law_badhist") rfl)
theorem Z_glo__law_baddata (Z : Facts mg) : mg "_law_baddata" = some (.ref (He.ga KK.K "_law_baddata")) := let ⟨⟨_, X, G⟩, c⟩ := Z; He.glo_ok X G (c.fact 19 (f := .glo "_law_baddata") rfl)
theorem Z_glo__law_text (Z : Facts mg) : mg "_law_text" = some (.ref (He.ga KK.K "_law_text")) := let ⟨⟨_, X, G⟩, c⟩ := Z; He.glo_ok X G (c.fact 20 (f := .glo "_law_text") rfl)
theorem Z_glo__law_groups (Z : Facts mg) : mg "_law_groups" = some (.ref (He.ga KK.K "_law_groups")) := let ⟨⟨_, X, G⟩, c⟩ := Z; He.glo_ok X G (c.fact 21 (f := .glo "_law_groups") rfl)
theorem Z_glo__law_again (Z : Facts mg) : mg "_law_again" = some (.ref (He.ga KK.K "_law_again")) := let ⟨⟨_, X, G⟩, c⟩ := Z; He.glo_ok X G (c.fact 22 (f := .glo "_law_again") rfl)
theorem Z_glo__law_error (Z : Facts mg) : mg "_law_error" = some (.ref (He.ga KK.K "_law_error")) := let ⟨⟨_, X, G⟩, c⟩ := Z; He.glo_ok X G (c.fact 23 (f := .glo "_law_error") rfl)
theorem Z_glo__law_rejected (Z : Facts mg) : mg "_law_rejected" = some (.ref (He.ga KK.K "_law_rejected")) := let ⟨⟨_, X, G⟩, c⟩ := Z; He.glo_ok X G (c.fact 24 (f := .glo "_law_rejected") rfl)
theorem Z_glo_law (Z : Facts mg) : mg "law" = some (.ref (He.ga KK.K "law")) := let ⟨⟨_, X, G⟩, c⟩ := Z; He.glo_ok X G (c.fact 25 (f := .glo "law") rfl)
theorem Z_int_MAX_VALUE (Z : Facts mg) : ∃ t, mg "MAX_VALUE" = some (.int 999 t) := let ⟨⟨_, X, G⟩, c⟩ := Z; He.int_ok X G (c.fact 26 (f := .int "MAX_VALUE" 999) rfl)
theorem Z_int_MAX_DATA (Z : Facts mg) : ∃ t, mg "MAX_DATA" = some (.int 200 t) := let ⟨⟨_, X, G⟩, c⟩ := Z; He.int_ok X G (c.fact 27 (f := .int "MAX_DATA" 200) rfl)
theorem Z_int_MAX_BORDERS (Z : Facts mg) : ∃ t, mg "MAX_BORDERS" = some (.int 12 t) := let ⟨⟨_, X, G⟩, c⟩ := Z; He.int_ok X G (c.fact 28 (f := .int "MAX_BORDERS" 12) rfl)
theorem Z_int_MAX_BORDER (Z : Facts mg) : ∃ t, mg "MAX_BORDER" = some (.int 1000 t) := let ⟨⟨_, X, G⟩, c⟩ := Z; He.int_ok X G (c.fact 29 (f := .int "MAX_BORDER" 1000) rfl)
theorem Z_int_MAX_COUNT (Z : Facts mg) : ∃ t, mg "MAX_COUNT" = some (.int 60 t) := let ⟨⟨_, X, G⟩, c⟩ := Z; He.int_ok X G (c.fact 30 (f := .int "MAX_COUNT" 60) rfl)
theorem Z_str_DIGITS (Z : Facts mg) : ∃ t, mg "DIGITS" = some (.str "0123456789" t) := let ⟨⟨_, X, G⟩, c⟩ := Z; He.str_ok X G (c.fact 31 (f := .str "DIGITS" "0123456789") rfl)
theorem Z_int_MAX_DIGITS (Z : Facts mg) : ∃ t, mg "MAX_DIGITS" = some (.int 4 t) := let ⟨⟨_, X, G⟩, c⟩ := Z; He.int_ok X G (c.fact 32 (f := .int "MAX_DIGITS" 4) rfl)
theorem Z_str_TIMES (Z : Facts mg) : ∃ t, mg "TIMES" = some (.str "*" t) := let ⟨⟨_, X, G⟩, c⟩ := Z; He.str_ok X G (c.fact 33 (f := .str "TIMES" "*") rfl)
theorem Z_free_all (Z : Facts mg) : mg "all" = none := let ⟨⟨_, X, G⟩, c⟩ := Z; He.free_ok X G (c.fact 34 (f := .free "all") rfl)
theorem Z_free_bool (Z : Facts mg) : mg "bool" = none := let ⟨⟨_, X, G⟩, c⟩ := Z; He.free_ok X G (c.fact 35 (f := .free "bool") rfl)
theorem Z_free_enumerate (Z : Facts mg) : mg "enumerate" = none := let ⟨⟨_, X, G⟩, c⟩ := Z; He.free_ok X G (c.fact 36 (f := .free "enumerate") rfl)
theorem Z_free_int (Z : Facts mg) : mg "int" = none := let ⟨⟨_, X, G⟩, c⟩ := Z; He.free_ok X G (c.fact 37 (f := .free "int") rfl)
theorem Z_free_isinstance (Z : Facts mg) : mg "isinstance" = none := let ⟨⟨_, X, G⟩, c⟩ := Z; He.free_ok X G (c.fact 38 (f := .free "isinstance") rfl)
theorem Z_free_len (Z : Facts mg) : mg "len" = none := let ⟨⟨_, X, G⟩, c⟩ := Z; He.free_ok X G (c.fact 39 (f := .free "len") rfl)
theorem Z_free_list (Z : Facts mg) : mg "list" = none := let ⟨⟨_, X, G⟩, c⟩ := Z; He.free_ok X G (c.fact 40 (f := .free "list") rfl)
theorem Z_free_range (Z : Facts mg) : mg "range" = none := let ⟨⟨_, X, G⟩, c⟩ := Z; He.free_ok X G (c.fact 41 (f := .free "range") rfl)
theorem Z_free_set (Z : Facts mg) : mg "set" = none := let ⟨⟨_, X, G⟩, c⟩ := Z; He.free_ok X G (c.fact 42 (f := .free "set") rfl)
theorem Z_free_sorted (Z : Facts mg) : mg "sorted" = none := let ⟨⟨_, X, G⟩, c⟩ := Z; He.free_ok X G (c.fact 43 (f := .free "sorted") rfl)
theorem Z_free_str (Z : Facts mg) : mg "str" = none := let ⟨⟨_, X, G⟩, c⟩ := Z; He.free_ok X G (c.fact 44 (f := .free "str") rfl)
theorem Z_free_sum (Z : Facts mg) : mg "sum" = none := let ⟨⟨_, X, G⟩, c⟩ := Z; He.free_ok X G (c.fact 45 (f := .free "sum") rfl)
theorem Z_free_tuple (Z : Facts mg) : mg "tuple" = none := let ⟨⟨_, X, G⟩, c⟩ := Z; He.free_ok X G (c.fact 46 (f := .free "tuple") rfl)
theorem Z_free_zip (Z : Facts mg) : mg "zip" = none := let ⟨⟨_, X, G⟩, c⟩ := Z; He.free_ok X G (c.fact 47 (f := .free "zip") rfl)
theorem Z_glo_BucketError (Z : Facts mg) : mg "BucketError" = some (.ref (He.ga KK.K "BucketError")) := let ⟨⟨_, X, G⟩, c⟩ := Z; He.glo_ok X G (c.fact 48 (f := .glo "BucketError") rfl)
theorem Z_exc_BucketError {mg : Str → Option Value} (Z : Facts mg) : (He.Fa.exc "BucketError").ok KK.K = true := Z.2.fact 49 (f := .exc "BucketError") rfl
theorem Z_glo_InvalidData (Z : Facts mg) : mg "InvalidData" = some (.ref (He.ga KK.K "InvalidData")) := let ⟨⟨_, X, G⟩, c⟩ := Z; He.glo_ok X G (c.fact 50 (f := .glo "InvalidData") rfl)
theorem Z_exc_InvalidData {mg : Str → Option Value} (Z : Facts mg) : (He.Fa.exc "InvalidData").ok KK.K = true := Z.2.fact 51 (f := .exc "InvalidData") rfl
theorem Z_glo_InvalidHistogram (Z : Facts mg) : mg "InvalidHistogram" = some (.ref (He.ga KK.K "InvalidHistogram")) := let ⟨⟨_, X, G⟩, c⟩ := Z; He.glo_ok X G (c.fact 52 (f := .glo "InvalidHistogram") rfl)
theorem Z_exc_InvalidHistogram {mg : Str → Option Value} (Z : Facts mg) : (He.Fa.exc "InvalidHistogram").ok KK.K = true := Z.2.fact 53 (f := .exc "InvalidHistogram") rfl
theorem Z_glo_ParseError (Z : Facts mg) : mg "ParseError" = some (.ref (He.ga KK.K "ParseError")) := let ⟨⟨_, X, G⟩, c⟩ := Z; He.glo_ok X G (c.fact 54 (f := .glo "ParseError") rfl)
theorem Z_exc_ParseError {mg : Str → Option Value} (Z : Facts mg) : (He.Fa.exc "ParseError").ok KK.K = true := Z.2.fact 55 (f := .exc "ParseError") rfl
theorem Z_isx {c : Str} (Z : Facts mg) (hc : c ∈ Hd.excs) : ExcC KK.K (He.ga KK.K c) := isx_ok (Z.2.xf (xf_isx hc))
theorem Z_exm {c : Str} (Z : Facts mg) (hc : c ∈ Hd.excs) : PySem.W.exmOne KK.K (.ref (He.ga KK.K c)) (.ref (He.ga KK.K "BucketError")) = some true := exx_ok (Z.2.xf (xf_exm hc))
theorem Z_kit_ParseError {c : Str} (Z : Facts mg) (hc : c ∈ Hd.excs) : PySem.W.kitOne KK.K (.ref (He.ga KK.K c)) (.ref (He.ga KK.K "ParseError")) = some (decide (c = ("ParseError" : Str))) := kit_ok (Z.2.xf (xf_kit hc (by decide)))
theorem Z_kit_InvalidHistogram {c : Str} (Z : Facts mg) (hc : c ∈ Hd.excs) : PySem.W.kitOne KK.K (.ref (He.ga KK.K c)) (.ref (He.ga KK.K "InvalidHistogram")) = some (decide (c = ("InvalidHistogram" : Str))) := kit_ok (Z.2.xf (xf_kit hc (by decide)))
theorem Z_kit_InvalidData {c : Str} (Z : Facts mg) (hc : c ∈ Hd.excs) : PySem.W.kitOne KK.K (.ref (He.ga KK.K c)) (.ref (He.ga KK.K "InvalidData")) = some (decide (c = ("InvalidData" : Str))) := kit_ok (Z.2.xf (xf_kit hc (by decide)))
end
section
variable {P : Program} {w : World} {mg : Str → Option Value} {base : Heap}
theorem sc_is_int : FnScope ["value", "least", "most"] ["value", "least", "most"] (defScope Hd.s_is_int) := ⟨rfl, rfl, rfl, by decide +kernel, rfl, by decide +kernel, by decide +kernel⟩
theorem ok_is_int (Z : Facts mg) : FOk KK.K P w mg base 1 "is_int" 3 F_is_int := by
  obtain ⟨fd, F⟩ := Z.2.def_ 0 (d := Hd.d_is_int) rfl
  exact fok (k := 0) (Z_glo_is_int Z) F sc_is_int rfl (fun _ _ _ _ _ _ us hl => match us, hl with | [_, _, _], _ => rfl) fun cdv A outer s H E hr =>
    s_one (s_ret (d_and (d_isi (d_var 0) (Z_free_isinstance Z) (Z_free_int Z) b_int) (d_and (d_not (d_isi (d_var 0) (Z_free_isinstance Z) (Z_free_bool Z) b_bool)) (d_one (d_chain o_le o_le (d_var 1) (d_var 0) (d_var 2))))))
theorem sc_are_data : FnScope ["candidate", "value", "one", "other"] ["candidate"] (defScope Hd.s_are_data) := ⟨rfl, rfl, rfl, by decide +kernel, rfl, by decide +kernel, by decide +kernel⟩
theorem ok_are_data (Z : Facts mg) : FOk KK.K P w mg base 2 "are_data" 1 F_are_data := by
  obtain ⟨fd, F⟩ := Z.2.def_ 1 (d := Hd.d_are_data) rfl
  exact fok (k := 1) (Z_glo_are_data Z) F sc_are_data rfl (fun _ _ _ _ _ _ us hl => match us, hl with | [_], _ => rfl) fun cdv A outer s H E hr =>
    s_cons (s_if ((d_orC (d_notT (d_val (d_isi (d_var 0) (Z_free_isinstance Z) (Z_free_list Z) b_list))) (d_or1 (d_cmpT o_gt (d_callB c_len (Z_free_len Z) b_len (d_rcons (d_var 0) d_rnil)) (d_gint (Z_int_MAX_DATA Z))))).pt) (s_one (s_ret (d_bl))) (s_nil))
    (s_cons (s_if (d_notT (d_val (d_callB (c_all rfl) (Z_free_all Z) b_all (d_rcons (d_lc (own := [("value", 1)]) rfl sc_are_data.nd (blkOk_by (by kernel_rfl)) (w_seq (d_var 0)) (fun _ _ _ _ _ => g_nm 1 sc_are_data.nd) (fun _ _ _ _ _ => d_tsNil) (fun _ _ _ _ _ => d_fn (ok_is_int Z) hr (by decide) takes0 (d_acons (d_var 1) (d_acons (d_int) (d_acons (d_gint (Z_int_MAX_VALUE Z)) d_anil))))) d_rnil)))) (s_one (s_ret (d_bl))) (s_nil))
    (s_one (s_ret (d_callB (c_all rfl) (Z_free_all Z) b_all (d_rcons (d_lc (own := [("one", 2), ("other", 3)]) rfl sc_are_data.nd (blkOk_by (by kernel_rfl)) (w_z2 (d_var 0) (d_slice (d_var 0) (d_pso (d_int)) (d_pno)) (Z_free_zip Z)) (fun _ _ _ _ _ => g_tp rfl (g_cons (g_nm 2 sc_are_data.nd) (g_cons (g_nm 3 sc_are_data.nd) g_nil))) (fun _ _ _ _ _ => d_tsNil) (fun _ _ _ _ _ => d_cmp o_le (d_var 2) (d_var 3))) d_rnil)))))
theorem sc_are_borders : FnScope ["candidate", "border", "one", "other"] ["candidate"] (defScope Hd.s_are_borders) := ⟨rfl, rfl, rfl, by decide +kernel, rfl, by decide +kernel, by decide +kernel⟩
theorem ok_are_borders (Z : Facts mg) : FOk KK.K P w mg base 2 "are_borders" 1 F_are_borders := by
  obtain ⟨fd, F⟩ := Z.2.def_ 2 (d := Hd.d_are_borders) rfl
  exact fok (k := 1) (Z_glo_are_borders Z) F sc_are_borders rfl (fun _ _ _ _ _ _ us hl => match us, hl with | [_], _ => rfl) fun cdv A outer s H E hr =>
    s_cons (s_if ((d_orC (d_notT (d_val (d_isi (d_var 0) (Z_free_isinstance Z) (Z_free_tuple Z) b_tuple))) (d_or1 (d_notT (d_chainT o_le o_le (d_int) (d_callB c_len (Z_free_len Z) b_len (d_rcons (d_var 0) d_rnil)) (d_gint (Z_int_MAX_BORDERS Z)))))).pt) (s_one (s_ret (d_bl))) (s_nil))
    (s_cons (s_if (d_notT (d_val (d_callB (c_all rfl) (Z_free_all Z) b_all (d_rcons (d_lc (own := [("border", 1)]) rfl sc_are_borders.nd (blkOk_by (by kernel_rfl)) (w_seq (d_var 0)) (fun _ _ _ _ _ => g_nm 1 sc_are_borders.nd) (fun _ _ _ _ _ => d_tsNil) (fun _ _ _ _ _ => d_fn (ok_is_int Z) hr (by decide) takes0 (d_acons (d_var 1) (d_acons (d_int) (d_acons (d_gint (Z_int_MAX_BORDER Z)) d_anil))))) d_rnil)))) (s_one (s_ret (d_bl))) (s_nil))
    (s_one (s_ret (d_callB (c_all rfl) (Z_free_all Z) b_all (d_rcons (d_lc (own := [("one", 2), ("other", 3)]) rfl sc_are_borders.nd (blkOk_by (by kernel_rfl)) (w_z2 (d_var 0) (d_slice (d_var 0) (d_pso (d_int)) (d_pno)) (Z_free_zip Z)) (fun _ _ _ _ _ => g_tp rfl (g_cons (g_nm 2 sc_are_borders.nd) (g_cons (g_nm 3 sc_are_borders.nd) g_nil))) (fun _ _ _ _ _ => d_tsNil) (fun _ _ _ _ _ => d_cmp o_lt (d_var 2) (d_var 3))) d_rnil)))))
theorem sc_is_histogram : FnScope ["candidate", "borders", "counts", "count"] ["candidate"] (defScope Hd.s_is_histogram) := ⟨rfl, rfl, rfl, by decide +kernel, rfl, by decide +kernel, by decide +kernel⟩
theorem ok_is_histogram (Z : Facts mg) : FOk KK.K P w mg base 3 "is_histogram" 1 F_is_histogram := by
  obtain ⟨fd, F⟩ := Z.2.def_ 3 (d := Hd.d_is_histogram) rfl
  exact fok (k := 2) (Z_glo_is_histogram Z) F sc_is_histogram rfl (fun _ _ _ _ _ _ us hl => match us, hl with | [_], _ => rfl) fun cdv A outer s H E hr =>
    s_cons (s_if ((d_orC (d_notT (d_val (d_isi (d_var 0) (Z_free_isinstance Z) (Z_free_tuple Z) b_tuple))) (d_orC (d_cmpT (o_ne hr) (d_callB c_len (Z_free_len Z) b_len (d_rcons (d_var 0) d_rnil)) (d_int)) (d_or1 (d_notT (d_val (d_fn (ok_are_borders Z) hr (by decide) (takes_of rfl rfl rfl rfl) (d_acons (d_ix (d_var 0) (d_int)) d_anil))))))).pt) (s_one (s_ret (d_bl))) (s_nil))
    (s_cons (s_unp (d_var 0) (g_tp rfl (g_cons (g_nm 1 sc_is_histogram.nd) (g_cons (g_nm 2 sc_is_histogram.nd) g_nil))))
    (s_cons (s_if ((d_orC (d_notT (d_val (d_isi (d_var 2) (Z_free_isinstance Z) (Z_free_tuple Z) b_tuple))) (d_or1 (d_cmpT (o_ne hr) (d_callB c_len (Z_free_len Z) b_len (d_rcons (d_var 2) d_rnil)) (d_bin o_sub (d_callB c_len (Z_free_len Z) b_len (d_rcons (d_var 1) d_rnil)) (d_int))))).pt) (s_one (s_ret (d_bl))) (s_nil))
    (s_one (s_ret (d_and (d_callB (c_all rfl) (Z_free_all Z) b_all (d_rcons (d_lc (own := [("count", 3)]) rfl sc_is_histogram.nd (blkOk_by (by kernel_rfl)) (w_seq (d_var 2)) (fun _ _ _ _ _ => g_nm 3 sc_is_histogram.nd) (fun _ _ _ _ _ => d_tsNil) (fun _ _ _ _ _ => d_fn (ok_is_int Z) hr (by decide) takes0 (d_acons (d_var 3) (d_acons (d_int) (d_acons (d_gint (Z_int_MAX_COUNT Z)) d_anil))))) d_rnil)) (d_one (d_cmp o_le (d_callB (c_sum rfl) (Z_free_sum Z) b_sum (d_rcons (d_var 2) d_rnil)) (d_gint (Z_int_MAX_DATA Z)))))))))
theorem sc_check_data : FnScope ["value"] ["value"] (defScope Hd.s_check_data) := ⟨rfl, rfl, rfl, by decide +kernel, rfl, by decide +kernel, by decide +kernel⟩
theorem ok_check_data (Z : Facts mg) : FOk KK.K P w mg base 3 "check_data" 1 F_check_data := by
  obtain ⟨fd, F⟩ := Z.2.def_ 4 (d := Hd.d_check_data) rfl
  exact fok (k := 2) (Z_glo_check_data Z) F sc_check_data rfl (fun _ _ _ _ _ _ us hl => match us, hl with | [_], _ => rfl) fun cdv A outer s H E hr =>
    s_one (s_if (d_notT (d_val (d_fn (ok_are_data Z) hr (by decide) (takes_of rfl rfl rfl rfl) (d_acons (d_var 0) d_anil)))) (s_one (s_raise rfl (takes_of rfl rfl rfl rfl) (Z_exc_InvalidData Z) (Z_glo_InvalidData Z))) (s_nil))
theorem sc_check_histogram : FnScope ["value"] ["value"] (defScope Hd.s_check_histogram) := ⟨rfl, rfl, rfl, by decide +kernel, rfl, by decide +kernel, by decide +kernel⟩
theorem ok_check_histogram (Z : Facts mg) : FOk KK.K P w mg base 4 "check_histogram" 1 F_check_histogram := by
  obtain ⟨fd, F⟩ := Z.2.def_ 5 (d := Hd.d_check_histogram) rfl
  exact fok (k := 3) (Z_glo_check_histogram Z) F sc_check_histogram rfl (fun _ _ _ _ _ _ us hl => match us, hl with | [_], _ => rfl) fun cdv A outer s H E hr =>
    s_one (s_if (d_notT (d_val (d_fn (ok_is_histogram Z) hr (by decide) (takes_of rfl rfl rfl rfl) (d_acons (d_var 0) d_anil)))) (s_one (s_raise rfl (takes_of rfl rfl rfl rfl) (Z_exc_InvalidHistogram Z) (Z_glo_InvalidHistogram Z))) (s_nil))
theorem sc_join_histogram : FnScope ["histogram", "words", "borders", "counts", "border", "count"] ["histogram"] (defScope Hd.s_join_histogram) := ⟨rfl, rfl, rfl, by decide +kernel, rfl, by decide +kernel, by decide +kernel⟩
theorem ok_join_histogram (Z : Facts mg) : FOk KK.K P w mg base 1 "join_histogram" 1 F_join_histogram := by
  obtain ⟨fd, F⟩ := Z.2.def_ 6 (d := Hd.d_join_histogram) rfl
  exact fok (k := 0) (Z_glo_join_histogram Z) F sc_join_histogram rfl (fun _ _ _ _ _ _ us hl => match us, hl with | [_], _ => rfl) fun cdv A outer s H E hr =>
    s_cons (s_unp (d_var 0) (g_tp rfl (g_cons (g_nm 2 sc_join_histogram.nd) (g_cons (g_nm 3 sc_join_histogram.nd) g_nil))))
    (s_cons (s_lcV 1 (own := [("border", 4), ("count", 5)]) rfl sc_join_histogram.nd (blkOk_by (by kernel_rfl)) (w_z2 (d_var 2) (d_var 3) (Z_free_zip Z)) (fun _ _ _ _ _ => g_tp rfl (g_cons (g_nm 4 sc_join_histogram.nd) (g_cons (g_nm 5 sc_join_histogram.nd) g_nil))) (fun _ _ _ _ _ => d_tsNil) (fun _ _ _ _ _ => d_bin o_add (d_bin o_add (d_bin o_add (d_callTy c_str (Z_free_str Z) b_str (d_rcons (d_var 4) d_rnil)) (d_str)) (d_callTy c_str (Z_free_str Z) b_str (d_rcons (d_var 5) d_rnil))) (d_str)) (sw_true rfl rfl rfl rfl))
    (s_one (s_ret (d_join (d_str) (d_bin o_add (d_var 1) (d_lst (d_acons (d_callTy c_str (Z_free_str Z) b_str (d_rcons (d_ix (d_var 2) (d_neg (d_int))) d_rnil)) d_anil)))))))
theorem sc_format_histogram : FnScope ["histogram"] ["histogram"] (defScope Hd.s_format_histogram) := ⟨rfl, rfl, rfl, by decide +kernel, rfl, by decide +kernel, by decide +kernel⟩
theorem ok_format_histogram (Z : Facts mg) : FOk KK.K P w mg base 5 "format_histogram" 1 F_format_histogram := by
  obtain ⟨fd, F⟩ := Z.2.def_ 7 (d := Hd.d_format_histogram) rfl
  exact fok (k := 4) (Z_glo_format_histogram Z) F sc_format_histogram rfl (fun _ _ _ _ _ _ us hl => match us, hl with | [_], _ => rfl) fun cdv A outer s H E hr =>
    s_cons (s_expr (d_fn (ok_check_histogram Z) hr (by decide) (takes_of rfl rfl rfl rfl) (d_acons (d_var 0) d_anil)))
    (s_one (s_ret (d_fn (ok_join_histogram Z) hr (by decide) (takes_of rfl rfl rfl rfl) (d_acons (d_var 0) d_anil))))
theorem sc_read_number : FnScope ["word", "sign"] ["word"] (defScope Hd.s_read_number) := ⟨rfl, rfl, rfl, by decide +kernel, rfl, by decide +kernel, by decide +kernel⟩
theorem ok_read_number (Z : Facts mg) : FOk KK.K P w mg base 1 "read_number" 1 F_read_number := by
  obtain ⟨fd, F⟩ := Z.2.def_ 8 (d := Hd.d_read_number) rfl
  exact fok (k := 0) (Z_glo_read_number Z) F sc_read_number rfl (fun _ _ _ _ _ _ us hl => match us, hl with | [_], _ => rfl) fun cdv A outer s H E hr =>
    s_cons (s_if ((d_orC (d_notT (d_chainT o_le o_le (d_int) (d_callB c_len (Z_free_len Z) b_len (d_rcons (d_var 0) d_rnil)) (d_gint (Z_int_MAX_DIGITS Z)))) (d_or1 (d_notT (d_val (d_callB (c_all rfl) (Z_free_all Z) b_all (d_rcons (d_lc (own := [("sign", 1)]) rfl sc_read_number.nd (blkOk_by (by kernel_rfl)) (w_str (d_var 0)) (fun _ _ _ _ _ => g_nm 1 sc_read_number.nd) (fun _ _ _ _ _ => d_tsNil) (fun _ _ _ _ _ => d_cmp (o_in hr) (d_var 1) (d_gstr (Z_str_DIGITS Z)))) d_rnil)))))).pt) (s_one (s_ret (d_non))) (s_nil))
    (s_one (s_ret (d_callTy c_int (Z_free_int Z) b_int (d_rcons (d_var 0) d_rnil))))
theorem sc_parse_histogram : FnScope ["text", "words", "borders", "histogram", "word"] ["text"] (defScope Hd.s_parse_histogram) := ⟨rfl, rfl, rfl, by decide +kernel, rfl, by decide +kernel, by decide +kernel⟩
theorem ok_parse_histogram (Z : Facts mg) : FOk KK.K P w mg base 4 "parse_histogram" 1 F_parse_histogram := by
  obtain ⟨fd, F⟩ := Z.2.def_ 9 (d := Hd.d_parse_histogram) rfl
  exact fok (k := 3) (Z_glo_parse_histogram Z) F sc_parse_histogram rfl (fun _ _ _ _ _ _ us hl => match us, hl with | [_], _ => rfl) fun cdv A outer s H E hr =>
    s_cons (s_if (d_notT (d_val (d_isi (d_var 0) (Z_free_isinstance Z) (Z_free_str Z) b_str))) (s_one (s_raise rfl (takes_of rfl rfl rfl rfl) (Z_exc_ParseError Z) (Z_glo_ParseError Z))) (s_nil))
    (s_cons (s_set 1 sc_parse_histogram.nd (d_fz (d_split (d_var 0) (d_str))))
    (s_cons (s_set 2 sc_parse_histogram.nd (d_callTy c_tuple (Z_free_tuple Z) b_tuple (d_rcons (d_lc (own := [("word", 4)]) rfl sc_parse_histogram.nd (blkOk_by (by kernel_rfl)) (w_seq (d_ev (d_var 1))) (fun _ _ _ _ _ => g_nm 4 sc_parse_histogram.nd) (fun _ _ _ _ _ => d_tsNil) (fun _ _ _ _ _ => d_fn (ok_read_number Z) hr (by decide) takes0 (d_acons (d_var 4) d_anil))) d_rnil)))
    (s_cons (s_set 3 sc_parse_histogram.nd (d_tup (d_acons (d_var 2) (d_acons (d_callTy c_tuple (Z_free_tuple Z) b_tuple (d_rcons (d_lc (own := [("word", 4)]) rfl sc_parse_histogram.nd (blkOk_by (by kernel_rfl)) (w_seq (d_od (d_var 1))) (fun _ _ _ _ _ => g_nm 4 sc_parse_histogram.nd) (fun _ _ _ _ _ => d_tsNil) (fun _ _ _ _ _ => d_fn (ok_read_number Z) hr (by decide) takes0 (d_acons (d_sliceS (d_var 4) (d_pso (d_int)) (d_pso (d_neg (d_int)))) d_anil))) d_rnil)) d_anil))))
    (s_cons (s_if ((d_orC (d_notT (d_val (d_fn (ok_is_histogram Z) hr (by decide) (takes_of rfl rfl rfl rfl) (d_acons (d_var 3) d_anil)))) (d_or1 (d_cmpT (o_ne hr) (d_fn (ok_join_histogram Z) hr (by decide) (takes_of rfl rfl rfl rfl) (d_acons (d_var 3) d_anil)) (d_var 0)))).pt) (s_one (s_raise rfl (takes_of rfl rfl rfl rfl) (Z_exc_ParseError Z) (Z_glo_ParseError Z))) (s_nil))
    (s_one (s_ret (d_var 3)))))))
theorem sc_join_data : FnScope ["data", "words", "value", "count"] ["data"] (defScope Hd.s_join_data) := ⟨rfl, rfl, rfl, by decide +kernel, rfl, by decide +kernel, by decide +kernel⟩
theorem ok_join_data (Z : Facts mg) : FOk KK.K P w mg base 1 "join_data" 1 F_join_data := by
  obtain ⟨fd, F⟩ := Z.2.def_ 10 (d := Hd.d_join_data) rfl
  exact fok (k := 0) (Z_glo_join_data Z) F sc_join_data rfl (fun _ _ _ _ _ _ us hl => match us, hl with | [_], _ => rfl) fun cdv A outer s H E hr =>
    s_cons (s_set 1 sc_join_data.nd (d_lst d_anil))
    (s_cons (s_for (passes_of rfl) rfl (w_seq (d_ss rfl (d_var 0) (Z_free_sorted Z) (Z_free_set Z))) (g_nm 2 sc_join_data.nd) (s_cons (s_set 3 sc_join_data.nd (d_count hr (d_var 0) (d_var 2)))
    (s_one (s_app 1 (d_bin o_add (d_callTy c_str (Z_free_str Z) b_str (d_rcons (d_var 2) d_rnil)) (d_if (d_cmpT o_gt (d_var 3) (d_int)) (d_bin o_add (d_gstr (Z_str_TIMES Z)) (d_callTy c_str (Z_free_str Z) b_str (d_rcons (d_var 3) d_rnil))) (d_str)))))))
    (s_one (s_ret (d_join (d_str) (d_var 1)))))
theorem sc_format_data : FnScope ["data"] ["data"] (defScope Hd.s_format_data) := ⟨rfl, rfl, rfl, by decide +kernel, rfl, by decide +kernel, by decide +kernel⟩
theorem ok_format_data (Z : Facts mg) : FOk KK.K P w mg base 4 "format_data" 1 F_format_data := by
  obtain ⟨fd, F⟩ := Z.2.def_ 11 (d := Hd.d_format_data) rfl
  exact fok (k := 3) (Z_glo_format_data Z) F sc_format_data rfl (fun _ _ _ _ _ _ us hl => match us, hl with | [_], _ => rfl) fun cdv A outer s H E hr =>
    s_cons (s_expr (d_fn (ok_check_data Z) hr (by decide) (takes_of rfl rfl rfl rfl) (d_acons (d_var 0) d_anil)))
    (s_one (s_ret (d_fn (ok_join_data Z) hr (by decide) (takes_of rfl rfl rfl rfl) (d_acons (d_var 0) d_anil))))
theorem sc_read_group : FnScope ["word", "parts", "part"] ["word"] (defScope Hd.s_read_group) := ⟨rfl, rfl, rfl, by decide +kernel, rfl, by decide +kernel, by decide +kernel⟩
theorem ok_read_group (Z : Facts mg) : FOk KK.K P w mg base 2 "read_group" 1 F_read_group := by
  obtain ⟨fd, F⟩ := Z.2.def_ 12 (d := Hd.d_read_group) rfl
  exact fok (k := 1) (Z_glo_read_group Z) F sc_read_group rfl (fun _ _ _ _ _ _ us hl => match us, hl with | [_], _ => rfl) fun cdv A outer s H E hr =>
    s_cons (s_lcV 1 (own := [("part", 2)]) rfl sc_read_group.nd (blkOk_by (by kernel_rfl)) (w_seq (d_split (d_var 0) (d_gstr (Z_str_TIMES Z)))) (fun _ _ _ _ _ => g_nm 2 sc_read_group.nd) (fun _ _ _ _ _ => d_tsNil) (fun _ _ _ _ _ => d_fn (ok_read_number Z) hr (by decide) takes0 (d_acons (d_var 2) d_anil)) (sw_true rfl rfl rfl rfl))
    (s_cons (s_if ((d_andC (d_cmpT (o_eq hr) (d_callB c_len (Z_free_len Z) b_len (d_rcons (d_var 1) d_rnil)) (d_int)) (d_and1 (d_cmpT o_isNot (d_ix (d_var 1) (d_int)) (d_non)))).pt) (s_one (s_ret (d_bin o_mul (d_slice (d_var 1) (d_pno) (d_pso (d_int))) (d_ix (d_var 1) (d_int))))) (s_nil))
    (s_one (s_ret (d_if (d_cmpT (o_eq hr) (d_callB c_len (Z_free_len Z) b_len (d_rcons (d_var 1) d_rnil)) (d_int)) (d_slice (d_var 1) (d_pno) (d_pso (d_int))) (d_lst (d_acons (d_non) d_anil))))))
theorem sc_parse_data : FnScope ["text", "data", "word"] ["text"] (defScope Hd.s_parse_data) := ⟨rfl, rfl, rfl, by decide +kernel, rfl, by decide +kernel, by decide +kernel⟩
theorem ok_parse_data (Z : Facts mg) : FOk KK.K P w mg base 3 "parse_data" 1 F_parse_data := by
  obtain ⟨fd, F⟩ := Z.2.def_ 13 (d := Hd.d_parse_data) rfl
  exact fok (k := 2) (Z_glo_parse_data Z) F sc_parse_data rfl (fun _ _ _ _ _ _ us hl => match us, hl with | [_], _ => rfl) fun cdv A outer s H E hr =>
    s_cons (s_if (d_notT (d_val (d_isi (d_var 0) (Z_free_isinstance Z) (Z_free_str Z) b_str))) (s_one (s_raise rfl (takes_of rfl rfl rfl rfl) (Z_exc_ParseError Z) (Z_glo_ParseError Z))) (s_nil))
    (s_cons (s_set 1 sc_parse_data.nd (d_fz (d_lst d_anil)))
    (s_cons (s_for (passes_of rfl) rfl (w_seq (d_if (d_cmpT (o_ne hr) (d_var 0) (d_str)) (d_split (d_var 0) (d_str)) (d_lst d_anil))) (g_nm 2 sc_parse_data.nd) (s_one (s_set 1 sc_parse_data.nd (d_fz (d_bin o_add (d_var 1) (d_fn (ok_read_group Z) hr (by decide) (takes_of rfl rfl rfl rfl) (d_acons (d_var 2) d_anil)))))))
    (s_cons (s_if ((d_orC (d_notT (d_val (d_fn (ok_are_data Z) hr (by decide) (takes_of rfl rfl rfl rfl) (d_acons (d_var 1) d_anil)))) (d_or1 (d_cmpT (o_ne hr) (d_fn (ok_join_data Z) hr (by decide) (takes_of rfl rfl rfl rfl) (d_acons (d_var 1) d_anil)) (d_var 0)))).pt) (s_one (s_raise rfl (takes_of rfl rfl rfl rfl) (Z_exc_ParseError Z) (Z_glo_ParseError Z))) (s_nil))
    (s_one (s_ret (d_var 1))))))
theorem sc__law_drawn : FnScope ["script", "k", "many", "cell", "turn", "rest"] ["script", "k", "many"] (defScope Hd.s__law_drawn) := ⟨rfl, rfl, rfl, by decide +kernel, rfl, by decide +kernel, by decide +kernel⟩
theorem ok__law_drawn (Z : Facts mg) : FOk KK.K P w mg base 1 "_law_drawn" 3 F__law_drawn := by
  obtain ⟨fd, F⟩ := Z.2.def_ 14 (d := Hd.d__law_drawn) rfl
  exact fok (k := 0) (Z_glo__law_drawn Z) F sc__law_drawn rfl (fun _ _ _ _ _ _ us hl => match us, hl with | [_, _, _], _ => rfl) fun cdv A outer s H E hr =>
    s_cons (s_set 3 sc__law_drawn.nd (d_bin o_mul (d_int) (d_var 1)))
    (s_cons (s_if (d_cmpT (o_ne hr) (d_var 0) (d_lst d_anil)) (s_cons (s_set 3 sc__law_drawn.nd (d_ix (d_var 0) (d_bin o_mod (d_var 1) (d_callB c_len (Z_free_len Z) b_len (d_rcons (d_var 0) d_rnil)))))
    (s_cons (s_set 4 sc__law_drawn.nd (d_bin o_div (d_var 1) (d_callB c_len (Z_free_len Z) b_len (d_rcons (d_var 0) d_rnil))))
    (s_cons (s_if ((d_andC (d_cmpT o_ge (d_var 3) (d_bin o_pow (d_int) (d_int))) (d_and1 (d_cmpT o_lt (d_var 4) (d_int)))).pt) (s_cons (s_set 5 sc__law_drawn.nd (d_bin o_div (d_var 3) (d_bin o_pow (d_int) (d_int))))
    (s_cons (s_while 5000 (passes_of rfl) ((d_andC (d_cmpT o_gt (d_var 5) (d_int)) (d_and1 (d_cmpT o_gt (d_var 4) (d_int)))).pt) (s_cons (s_set 5 sc__law_drawn.nd (d_bin o_div (d_var 5) (d_int)))
    (s_one (s_set 4 sc__law_drawn.nd (d_bin o_sub (d_var 4) (d_int))))))
    (s_one (s_if (d_cmpT o_gt (d_var 5) (d_int)) (s_one (s_ret (d_bin o_mod (d_bin o_mod (d_var 5) (d_int)) (d_var 2)))) (s_nil))))) (s_nil))
    (s_one (s_set 3 sc__law_drawn.nd (d_bin o_add (d_var 3) (d_bin o_mul (d_int) (d_bin o_div (d_var 1) (d_callB c_len (Z_free_len Z) b_len (d_rcons (d_var 0) d_rnil)))))))))) (s_nil))
    (s_cons (s_set 3 sc__law_drawn.nd (d_bin o_mod (d_bin o_add (d_bin o_mul (d_bin o_mod (d_var 3) (d_int)) (d_int)) (d_bin o_mul (d_int) (d_bin o_add (d_var 1) (d_int)))) (d_int)))
    (s_cons (s_set 3 sc__law_drawn.nd (d_bin o_mod (d_bin o_add (d_bin o_mul (d_var 3) (d_var 3)) (d_bin o_div (d_var 3) (d_int))) (d_int)))
    (s_one (s_ret (d_bin o_mod (d_bin o_div (d_bin o_mod (d_bin o_add (d_bin o_mul (d_var 3) (d_var 3)) (d_bin o_div (d_var 3) (d_int))) (d_int)) (d_int)) (d_var 2)))))))
theorem sc__law_borders : FnScope ["script", "at", "first", "last", "found", "k", "place"] ["script", "at", "first", "last"] (defScope Hd.s__law_borders) := ⟨rfl, rfl, rfl, by decide +kernel, rfl, by decide +kernel, by decide +kernel⟩
theorem ok__law_borders (Z : Facts mg) : FOk KK.K P w mg base 2 "_law_borders" 4 F__law_borders := by
  obtain ⟨fd, F⟩ := Z.2.def_ 15 (d := Hd.d__law_borders) rfl
  exact fok (k := 1) (Z_glo__law_borders Z) F sc__law_borders rfl (fun _ _ _ _ _ _ us hl => match us, hl with | [_, _, _, _], _ => rfl) fun cdv A outer s H E hr =>
    s_cons (s_set 4 sc__law_borders.nd (d_lst (d_acons (d_var 2) d_anil)))
    (s_cons (s_for (passes_of rfl) rfl (w_rg1 (d_fn (ok__law_drawn Z) hr (by decide) (takes_of rfl rfl rfl rfl) (d_acons (d_var 0) (d_acons (d_var 1) (d_acons (d_int) d_anil)))) (Z_free_range Z)) (g_nm 5 sc__law_borders.nd) (s_cons (s_set 6 sc__law_borders.nd (d_fz (d_bin o_add (d_bin o_add (d_ix (d_var 4) (d_neg (d_int))) (d_int)) (d_fn (ok__law_drawn Z) hr (by decide) (takes_of rfl rfl rfl rfl) (d_acons (d_var 0) (d_acons (d_bin o_add (d_bin o_add (d_var 1) (d_int)) (d_var 5)) (d_acons (d_int) d_anil)))))))
    (s_one (s_if (d_cmpT o_lt (d_var 6) (d_var 3)) (s_one (s_app 4 (d_var 6))) (s_nil)))))
    (s_one (s_ret (d_callTy c_tuple (Z_free_tuple Z) b_tuple (d_rcons (d_bin o_add (d_var 4) (d_lst (d_acons (d_var 3) d_anil))) d_rnil)))))
theorem sc__law_values : FnScope ["script", "at", "most", "last", "k"] ["script", "at", "most", "last"] (defScope Hd.s__law_values) := ⟨rfl, rfl, rfl, by decide +kernel, rfl, by decide +kernel, by decide +kernel⟩
theorem ok__law_values (Z : Facts mg) : FOk KK.K P w mg base 2 "_law_values" 4 F__law_values := by
  obtain ⟨fd, F⟩ := Z.2.def_ 16 (d := Hd.d__law_values) rfl
  exact fok (k := 1) (Z_glo__law_values Z) F sc__law_values rfl (fun _ _ _ _ _ _ us hl => match us, hl with | [_, _, _, _], _ => rfl) fun cdv A outer s H E hr =>
    s_one (s_ret (d_callB (c_sorted hr) (Z_free_sorted Z) b_sorted (d_rcons (d_lc (own := [("k", 4)]) rfl sc__law_values.nd (blkOk_by (by kernel_rfl)) (w_rg1 (d_fn (ok__law_drawn Z) hr (by decide) (takes_of rfl rfl rfl rfl) (d_acons (d_var 0) (d_acons (d_var 1) (d_acons (d_bin o_add (d_var 2) (d_int)) d_anil)))) (Z_free_range Z)) (fun _ _ _ _ _ => g_nm 4 sc__law_values.nd) (fun _ _ _ _ _ => d_tsNil) (fun _ _ _ _ _ => d_fn (ok__law_drawn Z) hr (by decide) takes0 (d_acons (d_var 0) (d_acons (d_bin o_add (d_bin o_add (d_var 1) (d_int)) (d_var 4)) (d_acons (d_var 3) d_anil))))) d_rnil)))
theorem sc__law_histogram : FnScope ["script", "at", "borders", "k"] ["script", "at"] (defScope Hd.s__law_histogram) := ⟨rfl, rfl, rfl, by decide +kernel, rfl, by decide +kernel, by decide +kernel⟩
theorem ok__law_histogram (Z : Facts mg) : FOk KK.K P w mg base 3 "_law_histogram" 2 F__law_histogram := by
  obtain ⟨fd, F⟩ := Z.2.def_ 17 (d := Hd.d__law_histogram) rfl
  exact fok (k := 2) (Z_glo__law_histogram Z) F sc__law_histogram rfl (fun _ _ _ _ _ _ us hl => match us, hl with | [_, _], _ => rfl) fun cdv A outer s H E hr =>
    s_cons (s_set 2 sc__law_histogram.nd (d_fn (ok__law_borders Z) hr (by decide) (takes_of rfl rfl rfl rfl) (d_acons (d_var 0) (d_acons (d_var 1) (d_acons (d_fn (ok__law_drawn Z) hr (by decide) (takes_of rfl rfl rfl rfl) (d_acons (d_var 0) (d_acons (d_bin o_add (d_var 1) (d_int)) (d_acons (d_int) d_anil)))) (d_acons (d_int) d_anil))))))
    (s_one (s_ret (d_tup (d_acons (d_var 2) (d_acons (d_callTy c_tuple (Z_free_tuple Z) b_tuple (d_rcons (d_lc (own := [("k", 3)]) rfl sc__law_histogram.nd (blkOk_by (by kernel_rfl)) (w_rg1 (d_bin o_sub (d_callB c_len (Z_free_len Z) b_len (d_rcons (d_var 2) d_rnil)) (d_int)) (Z_free_range Z)) (fun _ _ _ _ _ => g_nm 3 sc__law_histogram.nd) (fun _ _ _ _ _ => d_tsNil) (fun _ _ _ _ _ => d_fn (ok__law_drawn Z) hr (by decide) takes0 (d_acons (d_var 0) (d_acons (d_bin o_add (d_bin o_add (d_var 1) (d_int)) (d_var 3)) (d_acons (d_int) d_anil))))) d_rnil)) d_anil)))))
theorem sc__law_badhist : FnScope ["script", "at", "bad"] ["script", "at"] (defScope Hd.s__law_badhist) := ⟨rfl, rfl, rfl, by decide +kernel, rfl, by decide +kernel, by decide +kernel⟩
theorem ok__law_badhist (Z : Facts mg) : FOk KK.K P w mg base 2 "_law_badhist" 2 F__law_badhist := by
  obtain ⟨fd, F⟩ := Z.2.def_ 18 (d := Hd.d__law_badhist) rfl
  exact fok (k := 1) (Z_glo__law_badhist Z) F sc__law_badhist rfl (fun _ _ _ _ _ _ us hl => match us, hl with | [_, _], _ => rfl) fun cdv A outer s H E hr =>
    s_cons (s_set 2 sc__law_badhist.nd (d_fz (d_lst (d_acons (d_non) (d_acons (d_tup d_anil) (d_acons (d_tup (d_acons (d_tup (d_acons (d_int) (d_acons (d_int) d_anil))) (d_acons (d_tup (d_acons (d_int) (d_acons (d_int) d_anil))) d_anil))) (d_acons (d_tup (d_acons (d_tup (d_acons (d_int) (d_acons (d_int) d_anil))) (d_acons (d_tup (d_acons (d_int) d_anil)) d_anil))) (d_acons (d_tup (d_acons (d_tup (d_acons (d_int) (d_acons (d_int) d_anil))) (d_acons (d_tup (d_acons (d_neg (d_int)) d_anil)) d_anil))) (d_acons (d_tup (d_acons (d_tup (d_acons (d_int) d_anil)) (d_acons (d_tup d_anil) d_anil))) (d_acons (d_tup (d_acons (d_tup (d_acons (d_int) (d_acons (d_int) d_anil))) (d_acons (d_tup (d_acons (d_int) d_anil)) d_anil))) (d_acons (d_tup (d_acons (d_tup (d_acons (d_int) (d_acons (d_int) d_anil))) (d_acons (d_tup (d_acons (d_int) d_anil)) d_anil))) d_anil)))))))))))
    (s_cons (s_set 2 sc__law_badhist.nd (d_fz (d_bin o_add (d_var 2) (d_lst (d_acons (d_lst (d_acons (d_tup (d_acons (d_int) (d_acons (d_int) d_anil))) (d_acons (d_tup (d_acons (d_int) d_anil)) d_anil))) (d_acons (d_tup (d_acons (d_tup (d_acons (d_int) (d_acons (d_int) d_anil))) (d_acons (d_lst (d_acons (d_int) d_anil)) d_anil))) (d_acons (d_tup (d_acons (d_tup (d_acons (d_int) (d_acons (d_int) d_anil))) (d_acons (d_tup (d_acons (d_bl) d_anil)) d_anil))) (d_acons (d_tup (d_acons (d_tup (d_acons (d_int) (d_acons (d_int) (d_acons (d_int) (d_acons (d_int) (d_acons (d_int) (d_acons (d_int) d_anil))))))) (d_acons (d_bin o_mul (d_tup (d_acons (d_int) d_anil)) (d_int)) d_anil))) d_anil))))))))
    (s_one (s_ret (d_ix (d_var 2) (d_fn (ok__law_drawn Z) hr (by decide) (takes_of rfl rfl rfl rfl) (d_acons (d_var 0) (d_acons (d_var 1) (d_acons (d_int) d_anil))))))))
theorem sc__law_baddata : FnScope ["script", "at"] ["script", "at"] (defScope Hd.s__law_baddata) := ⟨rfl, rfl, rfl, by decide +kernel, rfl, by decide +kernel, by decide +kernel⟩
theorem ok__law_baddata (Z : Facts mg) : FOk KK.K P w mg base 2 "_law_baddata" 2 F__law_baddata := by
  obtain ⟨fd, F⟩ := Z.2.def_ 19 (d := Hd.d__law_baddata) rfl
  exact fok (k := 1) (Z_glo__law_baddata Z) F sc__law_baddata rfl (fun _ _ _ _ _ _ us hl => match us, hl with | [_, _], _ => rfl) fun cdv A outer s H E hr =>
    s_one (s_ret (d_ix (d_lst (d_acons (d_non) (d_acons (d_tup d_anil) (d_acons (d_lst (d_acons (d_int) (d_acons (d_int) d_anil))) (d_acons (d_lst (d_acons (d_neg (d_int)) d_anil)) (d_acons (d_lst (d_acons (d_int) d_anil)) (d_acons (d_lst (d_acons (d_bl) d_anil)) (d_acons (d_tup (d_acons (d_int) d_anil)) (d_acons (d_bin o_mul (d_lst (d_acons (d_int) d_anil)) (d_int)) (d_acons (d_str) d_anil)))))))))) (d_fn (ok__law_drawn Z) hr (by decide) (takes_of rfl rfl rfl rfl) (d_acons (d_var 0) (d_acons (d_var 1) (d_acons (d_int) d_anil))))))
theorem sc__law_text : FnScope ["histogram", "found", "k", "count"] ["histogram"] (defScope Hd.s__law_text) := ⟨rfl, rfl, rfl, by decide +kernel, rfl, by decide +kernel, by decide +kernel⟩
theorem ok__law_text (Z : Facts mg) : FOk KK.K P w mg base 1 "_law_text" 1 F__law_text := by
  obtain ⟨fd, F⟩ := Z.2.def_ 20 (d := Hd.d__law_text) rfl
  exact fok (k := 0) (Z_glo__law_text Z) F sc__law_text rfl (fun _ _ _ _ _ _ us hl => match us, hl with | [_], _ => rfl) fun cdv A outer s H E hr =>
    s_cons (s_set 1 sc__law_text.nd (d_callTy c_str (Z_free_str Z) b_str (d_rcons (d_ix (d_ix (d_var 0) (d_int)) (d_int)) d_rnil)))
    (s_cons (s_for (passes_of rfl) rfl (w_en (d_ix (d_var 0) (d_int)) (Z_free_enumerate Z)) (g_tp rfl (g_cons (g_nm 2 sc__law_text.nd) (g_cons (g_nm 3 sc__law_text.nd) g_nil))) (s_one (s_set 1 sc__law_text.nd (d_bin o_add (d_bin o_add (d_bin o_add (d_bin o_add (d_var 1) (d_str)) (d_callTy c_str (Z_free_str Z) b_str (d_rcons (d_var 3) d_rnil))) (d_str)) (d_callTy c_str (Z_free_str Z) b_str (d_rcons (d_ix (d_ix (d_var 0) (d_int)) (d_bin o_add (d_var 2) (d_int))) d_rnil))))))
    (s_one (s_ret (d_var 1))))
theorem sc__law_groups : FnScope ["data", "words", "k", "value", "many", "other"] ["data"] (defScope Hd.s__law_groups) := ⟨rfl, rfl, rfl, by decide +kernel, rfl, by decide +kernel, by decide +kernel⟩
theorem ok__law_groups (Z : Facts mg) : FOk KK.K P w mg base 1 "_law_groups" 1 F__law_groups := by
  obtain ⟨fd, F⟩ := Z.2.def_ 21 (d := Hd.d__law_groups) rfl
  exact fok (k := 0) (Z_glo__law_groups Z) F sc__law_groups rfl (fun _ _ _ _ _ _ us hl => match us, hl with | [_], _ => rfl) fun cdv A outer s H E hr =>
    s_cons (s_set 1 sc__law_groups.nd (d_lst d_anil))
    (s_cons (s_for (passes_of rfl) rfl (w_en (d_var 0) (Z_free_enumerate Z)) (g_tp rfl (g_cons (g_nm 2 sc__law_groups.nd) (g_cons (g_nm 3 sc__law_groups.nd) g_nil))) (s_one (s_if ((d_orC (d_cmpT (o_eq hr) (d_var 2) (d_int)) (d_or1 (d_cmpT (o_ne hr) (d_ix (d_var 0) (d_bin o_sub (d_var 2) (d_int))) (d_var 3)))).pt) (s_cons (s_set 4 sc__law_groups.nd (d_callB c_len (Z_free_len Z) b_len (d_rcons (d_lc (own := [("other", 5)]) rfl sc__law_groups.nd (blkOk_by (by kernel_rfl)) (w_seq (d_var 0)) (fun _ _ _ _ _ => g_nm 5 sc__law_groups.nd) (fun _ _ _ _ _ => d_tsOne (d_cmpT (o_eq hr) (d_var 5) (d_var 3))) (fun _ _ _ _ _ => d_var 5)) d_rnil)))
    (s_one (s_app 1 (d_bin o_add (d_callTy c_str (Z_free_str Z) b_str (d_rcons (d_var 3) d_rnil)) (d_if (d_cmpT o_gt (d_var 4) (d_int)) (d_bin o_add (d_str) (d_callTy c_str (Z_free_str Z) b_str (d_rcons (d_var 4) d_rnil))) (d_str)))))) (s_nil))))
    (s_one (s_ret (d_join (d_str) (d_var 1)))))
theorem sc__law_again : FnScope ["way", "text", "e"] ["way", "text"] (defScope Hd.s__law_again) := ⟨rfl, rfl, rfl, by decide +kernel, rfl, by decide +kernel, by decide +kernel⟩
theorem ok__law_again (Z : Facts mg) : FOk KK.K P w mg base 5 "_law_again" 2 F__law_again := by
  obtain ⟨fd, F⟩ := Z.2.def_ 22 (d := Hd.d__law_again) rfl
  exact fok (k := 4) (Z_glo__law_again Z) F sc__law_again rfl (fun _ _ _ _ _ _ us hl => match us, hl with | [_, _], _ => rfl) fun cdv A outer s H E hr =>
    s_one (s_try 2 rfl rfl sc__law_again.nd ⟨rfl, by decide, .inl (Z_glo_BucketError Z)⟩ (takes_of rfl rfl rfl rfl) (fun c hc => Z_exm Z hc) psi__law_again (fun W pn xe tk => s_one (s_ret (d_if (d_cmpT (o_eq hr) (d_var 0) (d_int)) (d_fn (ok__law_text Z) hr (by decide) tk (d_acons (d_fn (ok_parse_histogram Z) hr (by decide) tk (d_acons (d_var 1) d_anil)) d_anil)) (d_fn (ok__law_groups Z) hr (by decide) tk (d_acons (d_fn (ok_parse_data Z) hr (by decide) tk (d_acons (d_var 1) d_anil)) d_anil)))))
    (fun a oe c pn hc hz hf => s_one (s_ret (d_if (d_val (d_isx 2 (Z_isx Z hc) hz hf (Z_kit_ParseError Z hc) (Z_free_isinstance Z) (Z_glo_ParseError Z))) (d_non) (d_str)))))
theorem sc__law_error : FnScope ["way", "one", "e"] ["way", "one"] (defScope Hd.s__law_error) := ⟨rfl, rfl, rfl, by decide +kernel, rfl, by decide +kernel, by decide +kernel⟩
theorem ok__law_error (Z : Facts mg) : FOk KK.K P w mg base 6 "_law_error" 2 F__law_error := by
  obtain ⟨fd, F⟩ := Z.2.def_ 23 (d := Hd.d__law_error) rfl
  exact fok (k := 5) (Z_glo__law_error Z) F sc__law_error rfl (fun _ _ _ _ _ _ us hl => match us, hl with | [_, _], _ => rfl) fun cdv A outer s H E hr =>
    s_cons (s_try 2 rfl rfl sc__law_error.nd ⟨rfl, by decide, .inl (Z_glo_BucketError Z)⟩ (takes_of rfl rfl rfl rfl) (fun c hc => Z_exm Z hc) psi__law_error (fun W pn xe tk => s_one (s_expr (d_fnL (fns_cons (ok_format_histogram Z) (fns_cons (ok_format_data Z) fns_nil (by decide)) (by decide)) hr tk (d_var 0) (d_acons (d_var 1) d_anil))))
    (fun a oe c pn hc hz hf => s_one (s_ret (d_indexU hr.units (d_lst (d_acons (d_isx 2 (Z_isx Z hc) hz hf (Z_kit_InvalidHistogram Z hc) (Z_free_isinstance Z) (Z_glo_InvalidHistogram Z)) (d_acons (d_isx 2 (Z_isx Z hc) hz hf (Z_kit_InvalidData Z hc) (Z_free_isinstance Z) (Z_glo_InvalidData Z)) d_anil)) (by show _ ≤ 16777216; simp)) (d_bl)))))
    (s_one (s_ret (d_non)))
theorem sc__law_rejected : FnScope ["bad", "one"] [] (defScope Hd.s__law_rejected) := ⟨rfl, rfl, rfl, by decide +kernel, rfl, by decide +kernel, by decide +kernel⟩
theorem ok__law_rejected (Z : Facts mg) : FOk KK.K P w mg base 6 "_law_rejected" 0 F__law_rejected := by
  obtain ⟨fd, F⟩ := Z.2.def_ 24 (d := Hd.d__law_rejected) rfl
  exact fok (k := 5) (Z_glo__law_rejected Z) F sc__law_rejected rfl (fun _ _ _ _ _ _ us hl => match us, hl with | [], _ => rfl) fun cdv A outer s H E hr =>
    s_cons (s_set 0 sc__law_rejected.nd (d_fz (d_lst (d_acons (d_non) (d_acons (d_int) (d_acons (d_str) (d_acons (d_str) (d_acons (d_str) (d_acons (d_str) (d_acons (d_str) (d_acons (d_str) (d_acons (d_str) (d_acons (d_str) d_anil)))))))))))))
    (s_cons (s_set 0 sc__law_rejected.nd (d_fz (d_bin o_add (d_var 0) (d_lst (d_acons (d_str) (d_acons (d_str) (d_acons (d_str) d_anil)))))))
    (s_cons (s_set 0 sc__law_rejected.nd (d_fz (d_bin o_add (d_var 0) (d_lst (d_acons (d_str) (d_acons (d_str) (d_acons (d_str) (d_acons (d_str) (d_acons (d_str) (d_acons (d_str) (d_acons (d_str) d_anil)))))))))))
    (s_cons (s_set 0 sc__law_rejected.nd (d_fz (d_bin o_add (d_var 0) (d_lst (d_acons (d_str) (d_acons (d_tup (d_acons (d_str) d_anil)) (d_acons (d_str) d_anil)))))))
    (s_cons (s_if (d_cmpT (o_ne hr) (d_lc (own := [("one", 1)]) rfl sc__law_rejected.nd (blkOk_by (by kernel_rfl)) (w_seq (d_var 0)) (fun _ _ _ _ _ => g_nm 1 sc__law_rejected.nd) (fun _ _ _ _ _ => d_tsOne (d_cmpT o_isNot (d_fn (ok__law_again Z) hr (by decide) takes0 (d_acons (d_int) (d_acons (d_var 1) d_anil))) (d_non))) (fun _ _ _ _ _ => d_var 1)) (d_lst d_anil)) (s_one (s_ret (d_bl))) (s_nil))
    (s_cons (s_set 0 sc__law_rejected.nd (d_fz (d_lst (d_acons (d_non) (d_acons (d_int) (d_acons (d_str) (d_acons (d_str) (d_acons (d_str) (d_acons (d_str) (d_acons (d_str) (d_acons (d_str) (d_acons (d_str) (d_acons (d_str) (d_acons (d_str) (d_acons (d_str) (d_acons (d_str) d_anil))))))))))))))))
    (s_cons (s_set 0 sc__law_rejected.nd (d_fz (d_bin o_add (d_var 0) (d_lst (d_acons (d_str) (d_acons (d_str) (d_acons (d_str) (d_acons (d_str) (d_acons (d_str) (d_acons (d_str) d_anil))))))))))
    (s_cons (s_if (d_cmpT (o_ne hr) (d_lc (own := [("one", 1)]) rfl sc__law_rejected.nd (blkOk_by (by kernel_rfl)) (w_seq (d_bin o_add (d_var 0) (d_lst (d_acons (d_str) (d_acons (d_tup (d_acons (d_str) d_anil)) (d_acons (d_str) d_anil)))))) (fun _ _ _ _ _ => g_nm 1 sc__law_rejected.nd) (fun _ _ _ _ _ => d_tsOne (d_cmpT o_isNot (d_fn (ok__law_again Z) hr (by decide) takes0 (d_acons (d_int) (d_acons (d_var 1) d_anil))) (d_non))) (fun _ _ _ _ _ => d_var 1)) (d_lst d_anil)) (s_one (s_ret (d_bl))) (s_nil))
    (s_cons (s_if (d_notT ((d_andC (d_cmpT (o_eq hr) (d_fn (ok_parse_data Z) hr (by decide) (takes_of rfl rfl rfl rfl) (d_acons (d_str) d_anil)) (d_lst d_anil)) (d_and1 (d_cmpT (o_eq hr) (d_fn (ok_parse_data Z) hr (by decide) (takes_of rfl rfl rfl rfl) (d_acons (d_str) d_anil)) (d_bin o_mul (d_lst (d_acons (d_int) d_anil)) (d_int))))).pt)) (s_one (s_ret (d_bl))) (s_nil))
    (s_one (s_ret (d_cmp (o_eq hr) (d_fn (ok_parse_histogram Z) hr (by decide) (takes_of rfl rfl rfl rfl) (d_acons (d_str) d_anil)) (d_tup (d_acons (d_tup (d_acons (d_int) (d_acons (d_int) d_anil))) (d_acons (d_tup (d_acons (d_int) d_anil)) d_anil))))))))))))))
theorem sc_law : FnScope ["script", "k", "told", "histogram", "data", "text", "groups", "at", "way", "whole", "new", "bent", "place", "sign"] ["script"] (defScope Hd.s_law) := ⟨rfl, rfl, rfl, by decide +kernel, rfl, by decide +kernel, by decide +kernel⟩
theorem ok_law_fn {fd : FuncData} (Z : Facts mg) (F : FunD KK.K Hd.d_law.name Hd.d_law.qual Hd.d_law.params Hd.d_law.body Hd.d_law.scope (Hd.d_law.dvs KK.K) (Hd.d_law.kws KK.K) (He.fAd KK.K Hd.d_law.at_) fd) : FnOk P w KK.K mg base (L2.CX P w) 7 (He.ga KK.K "law") fd ["script"] (spF KK.K 1 F_law) :=
  fn_ok (k := 6) F sc_law fun cdv A outer s H E hr =>
    s_cons (s_par 3 4 rfl sc_law.nd (d_fn (ok__law_histogram Z) hr (by decide) (takes_of rfl rfl rfl rfl) (d_acons (d_var 0) (d_acons (d_int) d_anil))) (d_fz (d_fn (ok__law_values Z) hr (by decide) (takes_of rfl rfl rfl rfl) (d_acons (d_var 0) (d_acons (d_int) (d_acons (d_int) (d_acons (d_int) d_anil)))))))
    (s_cons (s_par 5 6 rfl sc_law.nd (d_fn (ok__law_text Z) hr (by decide) (takes_of rfl rfl rfl rfl) (d_acons (d_var 3) d_anil)) (d_fn (ok__law_groups Z) hr (by decide) (takes_of rfl rfl rfl rfl) (d_acons (d_var 4) d_anil)))
    (s_cons (s_if ((d_orC (d_cmpT (o_ne hr) (d_fn (ok_format_histogram Z) hr (by decide) (takes_of rfl rfl rfl rfl) (d_acons (d_var 3) d_anil)) (d_var 5)) (d_or1 (d_cmpT (o_ne hr) (d_fn (ok_parse_histogram Z) hr (by decide) (takes_of rfl rfl rfl rfl) (d_acons (d_var 5) d_anil)) (d_var 3)))).pt) (s_one (s_ret (d_bl))) (s_nil))
    (s_cons (s_if (d_notT (d_val (d_fn0 (ok__law_rejected Z) hr (by decide) (takes_of rfl rfl rfl rfl)))) (s_one (s_ret (d_bl))) (s_nil))
    (s_cons (s_if ((d_orC (d_cmpT (o_ne hr) (d_fn (ok_format_data Z) hr (by decide) (takes_of rfl rfl rfl rfl) (d_acons (d_var 4) d_anil)) (d_var 6)) (d_or1 (d_cmpT (o_ne hr) (d_fn (ok_parse_data Z) hr (by decide) (takes_of rfl rfl rfl rfl) (d_acons (d_var 6) d_anil)) (d_var 4)))).pt) (s_one (s_ret (d_bl))) (s_nil))
    (s_cons (s_for (passes_of rfl) rfl (w_rg1 (d_int) (Z_free_range Z)) (g_nm 1 sc_law.nd) (s_cons (s_set 7 sc_law.nd (d_bin o_add (d_int) (d_bin o_mul (d_int) (d_var 1))))
    (s_cons (s_set 8 sc_law.nd (d_fn (ok__law_drawn Z) hr (by decide) (takes_of rfl rfl rfl rfl) (d_acons (d_var 0) (d_acons (d_var 7) (d_acons (d_int) d_anil)))))
    (s_cons (s_set 9 sc_law.nd (d_ix (d_lst (d_acons (d_var 5) (d_acons (d_var 6) d_anil))) (d_var 8)))
    (s_cons (s_par 12 13 rfl sc_law.nd (d_fn (ok__law_drawn Z) hr (by decide) (takes_of rfl rfl rfl rfl) (d_acons (d_var 0) (d_acons (d_bin o_add (d_var 7) (d_int)) (d_acons (d_bin o_add (d_callB c_len (Z_free_len Z) b_len (d_rcons (d_var 9) d_rnil)) (d_int)) d_anil)))) (d_ix (d_str) (d_fn (ok__law_drawn Z) hr (by decide) (takes_of rfl rfl rfl rfl) (d_acons (d_var 0) (d_acons (d_bin o_add (d_var 7) (d_int)) (d_acons (d_int) d_anil))))))
    (s_cons (s_set 10 sc_law.nd (d_if (d_cmpT (o_eq hr) (d_fn (ok__law_drawn Z) hr (by decide) (takes_of rfl rfl rfl rfl) (d_acons (d_var 0) (d_acons (d_bin o_add (d_var 7) (d_int)) (d_acons (d_int) d_anil)))) (d_int)) (d_str) (d_var 13)))
    (s_cons (s_set 11 sc_law.nd (d_fz (d_bin o_add (d_bin o_add (d_sliceS (d_var 9) (d_pno) (d_pso (d_var 12))) (d_var 10)) (d_sliceS (d_var 9) (d_pso (d_bin o_add (d_var 12) (d_fn (ok__law_drawn Z) hr (by decide) (takes_of rfl rfl rfl rfl) (d_acons (d_var 0) (d_acons (d_bin o_add (d_var 7) (d_int)) (d_acons (d_int) d_anil)))))) (d_pno)))))
    (s_one (s_if (d_cmpT (o_notIn hr) (d_fn (ok__law_again Z) hr (by decide) (takes_of rfl rfl rfl rfl) (d_acons (d_var 8) (d_acons (d_var 11) d_anil))) (d_tup (d_acons (d_non) (d_acons (d_var 11) d_anil)))) (s_one (s_ret (d_bl))) (s_nil))))))))))
    (s_cons (s_set 2 sc_law.nd (d_fz (d_lst (d_acons (d_fn (ok__law_error Z) hr (by decide) (takes_of rfl rfl rfl rfl) (d_acons (d_int) (d_acons (d_fn (ok__law_badhist Z) hr (by decide) (takes_of rfl rfl rfl rfl) (d_acons (d_var 0) (d_acons (d_int) d_anil))) d_anil))) d_anil))))
    (s_cons (s_set 2 sc_law.nd (d_fz (d_bin o_add (d_var 2) (d_lst (d_acons (d_fn (ok__law_error Z) hr (by decide) (takes_of rfl rfl rfl rfl) (d_acons (d_int) (d_acons (d_fn (ok__law_baddata Z) hr (by decide) (takes_of rfl rfl rfl rfl) (d_acons (d_var 0) (d_acons (d_int) d_anil))) d_anil))) d_anil)))))
    (s_one (s_ret (d_cmp (o_eq hr) (d_var 2) (d_lst (d_acons (d_int) (d_acons (d_int) d_anil)))))))))))))
end
end Py

set_option Elab.async false
set_option linter.all false
set_option maxRecDepth 100000
set_option autoImplicit false
set_option maxHeartbeats 4000000
namespace Py
open PySem L2
open SX (S)
open TL (joinL spl numL)
theorem rej_eq : F__law_rejected [] = .ok (.val (.bool true)) := by kernel_rfl
def badD : List PyData := [.none, .tuple [], .list [.int 1, .int 0], .list [.int (-1)], .list [.int 1000], .list [.bool true], .tuple [.int 1], .list (List.replicate 201 (.int 0)), .str "1"]
theorem fx_bad : (badD.map fun o => F_are_data [o]) = List.replicate 9 (.ok (.val (.bool false))) := by kernel_rfl
theorem bad_no {o : PyData} (ho : o ∈ badD) : F_are_data [o] = .ok (.val (.bool false)) := by
  have m : F_are_data [o] ∈ List.replicate 9 (R.ok (Cr.val (.bool false))) := by rw [← fx_bad]; exact List.mem_map.mpr ⟨o, ho, rfl⟩
  exact List.eq_of_mem_replicate m
theorem baddata_eq (ns : List Int) (hn : ns.length ≤ 1000) : ∃ o ∈ badD, F__law_baddata [Li ns, .int 2] = .ok (.val o) := by
  have q := drw_eq ns 2 9 (by omega) (by omega) (by omega) hn
  have p := drw_rg ns 2 9 (by omega) (by omega) (by omega) hn
  generalize drw ns 2 9 = k at q p
  obtain ⟨j, rfl⟩ := Int.eq_ofNat_of_zero_le p.1
  have hj : j < badD.length := by show j < 9; omega
  refine ⟨badD[j], List.getElem_mem hj, ?_⟩
  have ix : gIx (.val (.list badD)) (.val (.int (j : Int))) = .ok (.val badD[j]) := by
    have : atI badD (j : Int) = some badD[j] := by rw [atI_nat, List.getElem?_eq_getElem hj]
    simp [gIx, this]
  generalize badD[j] = z at ix ⊢
  have k2 : okK 201 := okK_of (by decide) (by decide)
  have el : eLst [eK .none, eTup [], eLst [eK (.int 1), eK (.int 0)], eLst [eNeg (eK (.int 1))], eLst [eK (.int 1000)], eLst [eK (.bool true)], eTup [eK (.int 1)], e2 gMul (eLst [eK (.int 0)]) (eK (.int 201)), eK (.str "1")] [some (.val (Li ns)), some (.val (.int 2))] = .ok (.own badD) := by
    simp [k2, badD]
  refine fn_rt ?_
  show sRet (e2 gIx (eLst _) _) [some (.val (Li ns)), some (.val (.int 2))] = _
  rw [x_ret, x_e2, el]
  generalize badD = O at ix ⊢
  simp [x_var, q, ix]
/-! errors -/
theorem fh0 : h__law_error 0 "InvalidHistogram" (rawAt 3 2 0) = .ok (.rt (.val (.int 0))) := by kernel_rfl
theorem fh1 : h__law_error 0 "InvalidData" (rawAt 3 2 0) = .ok (.rt (.val (.int 1))) := by kernel_rfl
theorem fh2 : h__law_again 0 "ParseError" (rawAt 3 2 0) = .ok (.rt (.val .none)) := by kernel_rfl
theorem ex0 : ("InvalidHistogram" : Str) ∈ excs := by unfold excs; simp
theorem ex1 : ("InvalidData" : Str) ∈ excs := by unfold excs; simp
theorem ex2 : ("ParseError" : Str) ∈ excs := by unfold excs; simp
theorem er_gen {w : Nat} {X : PyData} {c : Str} {i : Int} {G : List PyData → R Cr} (hw : [F_format_histogram, F_format_data][w]? = some G) (hg : G [X] = .err c) (hc : c ∈ excs) (hh : h__law_error 0 c (rawAt 3 2 0) = .ok (.rt (.val (.int i)))) : F__law_error [.int (w : Int), X] = .ok (.val (.int i)) := by
  have body : sDrop (eCallL [F_format_histogram, F_format_data] (eVar 0) [eVar 1]) [some (.val (.int (w : Int))), some (.val X), none] = .err c := by
    rw [x_drop]
    unfold eCallL
    rw [show eVar 0 [some (.val (.int (w : Int))), some (.val X), none] = .ok (.val (.int (w : Int))) from rfl, r_ok]
    show ((match (if (0 : Int) ≤ (w : Int) then [F_format_histogram, F_format_data][((w : Int)).toNat]? else none) with | some G => (R.ok [X]) >>= fun ds => G ds >>= fun r => R.ok r.rv | none => .bad) >>= _) = _
    rw [if_pos (by omega), Int.toNat_natCast, hw]
    simp [hg]
  refine fn_rt (seq_rt ?_)
  show sTry 3 2 excs _ h__law_error [some (.val (.int (w : Int))), some (.val X), none] = _
  unfold sTry
  rw [body]
  dsimp only
  rw [if_pos hc, hh]
theorem er_h {X : PyData} (h : F_is_histogram [X] = .ok (.val (.bool false))) : F__law_error [.int 0, X] = .ok (.val (.int 0)) := by
  have : F_check_histogram [X] = .err "InvalidHistogram" := by simp [F_check_histogram, fnR, m_check_histogram, st0, x_var, h]
  exact er_gen (w := 0) rfl (by simp [F_format_histogram, fnR, m_format_histogram, st0, x_var, this]) ex0 fh0
theorem er_d {X : PyData} (h : F_are_data [X] = .ok (.val (.bool false))) : F__law_error [.int 1, X] = .ok (.val (.int 1)) := by
  have : F_check_data [X] = .err "InvalidData" := by simp [F_check_data, fnR, m_check_data, st0, x_var, h]
  exact er_gen (w := 1) rfl (by simp [F_format_data, fnR, m_format_data, st0, x_var, this]) ex1 fh1
/-! parsed again -/
abbrev bAg : En → R Out := sRet (eIf (t2 cEq (eVar 0) (eK (.int 0))) (eCall F__law_text [eCall F_parse_histogram [eVar 1]]) (eCall F__law_groups [eCall F_parse_data [eVar 1]]))
theorem ag_err {w : Int} {t : PyData} (h : bAg [some (.val (.int w)), some (.val t), none] = .err "ParseError") : F__law_again [.int w, t] = .ok (.val .none) := by
  refine fn_rt ?_
  show sTry 3 2 excs _ h__law_again [some (.val (.int w)), some (.val t), none] = _
  unfold sTry
  delta bAg at h
  rw [h]
  dsimp only
  rw [if_pos ex2, fh2]
theorem ag_ok {w : Int} {t r : PyData} (h : bAg [some (.val (.int w)), some (.val t), none] = .ok (.rt (.val r))) : F__law_again [.int w, t] = .ok (.val r) := by
  refine fn_rt ?_
  show sTry 3 2 excs _ h__law_again [some (.val (.int w)), some (.val t), none] = _
  unfold sTry
  delta bAg at h
  rw [h]
theorem ag_eq {w : Int} (hw : w = 0 ∨ w = 1) {t : List Nat} (h0 : w = 0 → t.length ≤ 900) (h1 : w = 1 → t.length ≤ 61) : F__law_again [.int w, .str (S t)] = .ok (.val .none) ∨ F__law_again [.int w, .str (S t)] = .ok (.val (.str (S t))) := by
  rcases hw with rfl | rfl
  · rcases parse_any (h0 rfl) with e | ⟨b, c, vh, e, p⟩
    · refine .inl (ag_err ?_)
      generalize S t = T at *
      simp [x_var, x_eq, e]
    · refine .inr (ag_ok ?_)
      have l := lawtext_eq vh
      rw [e] at l
      generalize S t = T at *
      simp [x_var, x_eq, p, l]
  · rcases parseD_any (h1 rfl) with e | ⟨d, vd, e, p⟩
    · refine .inl (ag_err ?_)
      generalize S t = T at *
      simp [x_var, x_eq, e]
    · refine .inr (ag_ok ?_)
      have l := groups_eq vd
      rw [e] at l
      generalize S t = T at *
      simp [x_var, x_eq, p, l]
theorem sign_eq (j : Nat) (hj : j < 9) : ∃ c : Nat, gIx (.val (.str " 0129[]*-")) (.val (.int (j : Int))) = .ok (.val (.str (S [c]))) := by
  rcases (by omega : j = 0 ∨ j = 1 ∨ j = 2 ∨ j = 3 ∨ j = 4 ∨ j = 5 ∨ j = 6 ∨ j = 7 ∨ j = 8) with rfl | rfl | rfl | rfl | rfl | rfl | rfl | rfl | rfl
  · exact ⟨32, by kernel_rfl⟩
  · exact ⟨48, by kernel_rfl⟩
  · exact ⟨49, by kernel_rfl⟩
  · exact ⟨50, by kernel_rfl⟩
  · exact ⟨57, by kernel_rfl⟩
  · exact ⟨91, by kernel_rfl⟩
  · exact ⟨93, by kernel_rfl⟩
  · exact ⟨42, by kernel_rfl⟩
  · exact ⟨45, by kernel_rfl⟩
theorem cut2_len (l : List Nat) (p e : Nat) (hp : p ≤ l.length) : (cut l none (some (p : Int))).length + (cut l (some ((p : Int) + (e : Int))) none).length ≤ l.length := by
  have e1 : HT.sIx l.length 0 none = 0 := rfl
  have e2' : HT.sIx l.length l.length (some (p : Int)) = p := by
    show (if (p : Int) < 0 then ((p : Int) + (l.length : Int)).toNat else min (p : Int).toNat l.length) = _
    rw [if_neg (by omega)]
    omega
  have e3 : HT.sIx l.length l.length none = l.length := rfl
  have e4 : p ≤ HT.sIx l.length 0 (some ((p : Int) + (e : Int))) := by
    show p ≤ (if ((p : Int) + (e : Int)) < 0 then (((p : Int) + (e : Int)) + (l.length : Int)).toNat else min ((p : Int) + (e : Int)).toNat l.length)
    rw [if_neg (by omega)]
    omega
  unfold cut
  rw [e1, e2', e3]
  rw [List.length_take, List.length_drop, List.length_take, List.length_drop]
  omega
theorem slS (a : List Nat) (lo hi : Option Int) (h : a.length ≤ 1000000) : gSlS (.val (.str (S a))) lo hi = .ok (.val (.str (S (cut a lo hi)))) := by
  show (if (S a).length ≤ 1000000 then R.ok (Rv.val (.str (cutS (S a) lo hi))) else .bad) = _
  rw [SX.S_len, if_pos h, cutS_S]
theorem txH_len {b c : List Int} (h : VH b c) : (txH b c).length ≤ 161 := by
  have cl := h.l
  have := joinL_len (m := 6) (l := hws (b.zip c) (nth b ((b.length : Int) - 1))) fun w hw => by
    rcases mem_hws hw with ⟨p, hp, e | e⟩ | e
    · have := zip_rg h hp
      have n1 := Nu_len (n := p.1) (by omega)
      rw [e]
      omega
    · have := zip_rg h hp
      have n1 := Nu_len (n := p.2) (by omega)
      rw [e]
      simp
      omega
    · have := h.vb.rg _ h.last
      have n1 := Nu_len (n := nth b ((b.length : Int) - 1)) (by omega)
      rw [e]
      omega
  rw [hws_len, List.length_zip] at this
  show (joinL [32] (hws (b.zip c) (nth b ((b.length : Int) - 1)))).length ≤ 161
  omega
section
variable (ns : List Int) (hn : ns.length ≤ 63)
include hn
theorem step {H D : PyData} {T G : List Nat} (hT : T.length ≤ 200) (hG : G.length ≤ 40) (i : Nat) (hi : i < 14) {x2 x7 x8 x9 x10 x11 x12 x13 : Option Cl} : Nx b_law_0 [some (.val (Li ns)), some (.val (.int (i : Int))), x2, some (.val H), some (.val D), some (.val (.str (S T))), some (.val (.str (S G))), x7, x8, x9, x10, x11, x12, x13] (fun ρ => ∃ x1 x2 x7 x8 x9 x10 x11 x12 x13 : Option Cl, ρ = [some (.val (Li ns)), x1, x2, some (.val H), some (.val D), some (.val (.str (S T))), some (.val (.str (S G))), x7, x8, x9, x10, x11, x12, x13]) := by
  generalize hat : 60 + 5 * (i : Int) = a
  have q0 := drw_eq ns a 2 (by omega) (by omega) (by omega) (by omega)
  have r0 := drw_rg ns a 2 (by omega) (by omega) (by omega) (by omega)
  generalize drw ns a 2 = w at q0 r0
  have hw : w = 0 ∨ w = 1 := by omega
  obtain ⟨W, ixw, hW0, hW1⟩ : ∃ W : List Nat, gIx (.val (.list [.str (S T), .str (S G)])) (.val (.int w)) = .ok (.val (.str (S W))) ∧ W.length ≤ 200 ∧ (w = 1 → W.length ≤ 40) := by
    rcases hw with rfl | rfl
    · exact ⟨T, rfl, hT, fun z => absurd z (by decide)⟩
    · exact ⟨G, rfl, by omega, fun _ => hG⟩
  have q1 := drw_eq ns (a + 1) ((W.length : Int) + 1) (by omega) (by omega) (by omega) (by omega)
  have r1 := drw_rg ns (a + 1) ((W.length : Int) + 1) (by omega) (by omega) (by omega) (by omega)
  generalize drw ns (a + 1) ((W.length : Int) + 1) = p at q1 r1
  obtain ⟨p, rfl⟩ := Int.eq_ofNat_of_zero_le r1.1
  have q2 := drw_eq ns (a + 2) 9 (by omega) (by omega) (by omega) (by omega)
  have r2 := drw_rg ns (a + 2) 9 (by omega) (by omega) (by omega) (by omega)
  generalize drw ns (a + 2) 9 = s at q2 r2
  obtain ⟨s, rfl⟩ := Int.eq_ofNat_of_zero_le r2.1
  obtain ⟨c, sg⟩ := sign_eq s (by omega)
  have q3 := drw_eq ns (a + 3) 3 (by omega) (by omega) (by omega) (by omega)
  generalize drw ns (a + 3) 3 = z at q3
  have q4 := drw_eq ns (a + 4) 2 (by omega) (by omega) (by omega) (by omega)
  have r4 := drw_rg ns (a + 4) 2 (by omega) (by omega) (by omega) (by omega)
  generalize drw ns (a + 4) 2 = e at q4 r4
  obtain ⟨e, rfl⟩ := Int.eq_ofNat_of_zero_le r4.1
  have gl : gLen [.val (.str (S W))] = .ok (.val (.int (W.length : Nat))) := by
    show (if (S W).length ≤ 1000000 then R.ok (Rv.val (.int ((S W).length : Nat))) else .bad) = _
    rw [SX.S_len, if_pos (by omega)]
  have s1 := slS W none (some (p : Int)) (by omega)
  have s2 := slS W (some ((p : Int) + (e : Int))) none (by omega)
  have cl := cut2_len W p e (by omega)
  generalize cut W none (some (p : Int)) = A at *
  generalize cut W (some ((p : Int) + (e : Int))) none = B at *
  obtain ⟨N, hN, nl⟩ : ∃ N : List Nat, eIf (t2 cEq (eCall F__law_drawn [eVar 0, e2 gAdd (eVar 7) (eK (.int 3)), eK (.int 3)]) (eK (.int 0))) (eK (.str "")) (eVar 13) [some (.val (Li ns)), some (.val (.int (i : Int))), x2, some (.val H), some (.val D), some (.val (.str (S T))), some (.val (.str (S G))), some (.val (.int a)), some (.val (.int w)), some (.val (.str (S W))), x10, x11, some (.val (.int (p : Int))), some (.val (.str (S [c])))] = .ok (.val (.str (S N))) ∧ N.length ≤ 1 := by
    by_cases hz : z = 0
    · refine ⟨[], ?_, by simp⟩
      have : Str.ofString "" = S [] := k_em
      simp only [k_em]
      generalize S [] = EM at *
      simp [x_var, q3, hz, x_eq]
    · refine ⟨[c], ?_, by simp⟩
      simp [x_var, q3, hz, x_eq]
  have g1 := addS A N (by omega)
  have g2 := addS (A ++ N) B (by simp only [List.length_append]; omega)
  have ag := ag_eq hw (t := A ++ N ++ B) (fun _ => by simp only [List.length_append]; omega) (fun z => by have := hW1 z; simp only [List.length_append]; omega)
  have dn : PyData.depthAll [.none, .str (S (A ++ N ++ B))] = 0 := rfl
  have cn : ∀ r, (r = .none ∨ r = .str (S (A ++ N ++ B))) → cNotIn (.val r) (.val (.tuple [.none, .str (S (A ++ N ++ B))])) = .ok false := fun r hr => by
    show (if min (PyData.depthAll [.none, .str (S (A ++ N ++ B))]) r.depth ≤ 60 then R.ok (!List.any [PyData.none, .str (S (A ++ N ++ B))] fun y => PyData.eqv y r) else .bad) = _
    rw [dn, if_pos (by simp)]
    rcases hr with rfl | rfl
    · have : PyData.eqv .none .none = true := by decide +kernel
      simp [this]
    · have : PyData.eqv (.str (S (A ++ N ++ B))) (.str (S (A ++ N ++ B))) = true := by rw [PyData.eqv]; simp
      simp [-List.append_assoc, this]
  obtain ⟨r, agr, hr⟩ : ∃ r, F__law_again [.int w, .str (S (A ++ N ++ B))] = .ok (.val r) ∧ (r = .none ∨ r = .str (S (A ++ N ++ B))) := by
    rcases ag with k | k
    · exact ⟨_, k, .inl rfl⟩
    · exact ⟨_, k, .inr rfl⟩
  have cn := cn r hr
  generalize A ++ N ++ B = BT at *
  generalize A ++ N = AN at *
  refine Nx.step (ρ1 := [some (.val (Li ns)), some (.val (.int (i : Int))), x2, some (.val H), some (.val D), some (.val (.str (S T))), some (.val (.str (S G))), some (.val (.int a)), x8, x9, x10, x11, x12, x13]) ?_ ?_
  · have om : okM 5 (i : Int) := okM_l (by omega) (by omega)
    simp [x_var, om, hat]
  refine Nx.step (ρ1 := [some (.val (Li ns)), some (.val (.int (i : Int))), x2, some (.val H), some (.val D), some (.val (.str (S T))), some (.val (.str (S G))), some (.val (.int a)), some (.val (.int w)), x9, x10, x11, x12, x13]) (by simp [x_var, q0]) ?_
  refine Nx.step (ρ1 := [some (.val (Li ns)), some (.val (.int (i : Int))), x2, some (.val H), some (.val D), some (.val (.str (S T))), some (.val (.str (S G))), some (.val (.int a)), some (.val (.int w)), some (.val (.str (S W))), x10, x11, x12, x13]) (by simp [x_var, ixw]) ?_
  refine Nx.step (ρ1 := [some (.val (Li ns)), some (.val (.int (i : Int))), x2, some (.val H), some (.val D), some (.val (.str (S T))), some (.val (.str (S G))), some (.val (.int a)), some (.val (.int w)), some (.val (.str (S W))), x10, x11, some (.val (.int (p : Int))), some (.val (.str (S [c])))]) (by simp [x_var, gl, q1, q2, sg, sPar.noB, put]) ?_
  refine Nx.step (ρ1 := [some (.val (Li ns)), some (.val (.int (i : Int))), x2, some (.val H), some (.val D), some (.val (.str (S T))), some (.val (.str (S G))), some (.val (.int a)), some (.val (.int w)), some (.val (.str (S W))), some (.val (.str (S N))), x11, some (.val (.int (p : Int))), some (.val (.str (S [c])))]) ?_ ?_
  · rw [x_set, hN]
    rfl
  refine Nx.step (ρ1 := [some (.val (Li ns)), some (.val (.int (i : Int))), x2, some (.val H), some (.val D), some (.val (.str (S T))), some (.val (.str (S G))), some (.val (.int a)), some (.val (.int w)), some (.val (.str (S W))), some (.val (.str (S N))), some (.val (.str (S BT))), some (.val (.int (p : Int))), some (.val (.str (S [c])))]) ?_ ?_
  · simp [x_var, eSlS, pNo, pSo, Rv.toInt, q4, s1, s2, g1, g2]
  exact ⟨_, if_no (by simp [x_var, agr, cn]) rfl, _, _, _, _, _, _, _, _, _, rfl⟩
end
theorem law_true (ns : List Int) (hn : ns.length ≤ 63) : F_law [.list (ns.map PyData.int)] = .ok (.val (.bool true)) := by
  obtain ⟨x, m, c, eh, vh, _, _, _⟩ := histB ns (by omega) (at_ := 10) (by omega) (by omega)
  generalize x :: (m ++ [30]) = b at eh vh
  obtain ⟨d, ed, vd, dv, dl⟩ := values_gen ns (by omega) (a := 30) (m := 8) (l := 12) (by omega) (by omega) (by omega) (by omega) (by omega) (by omega)
  have lt := lawtext_eq vh
  have lg := groups_eq vd
  have jh := joinH_eq vh
  have hl := txH_len vh
  have dlen := txD_len vd (fun v hv => by have := dv v hv; omega) (by omega)
  have pb := parse_back vh (by omega)
  have db := parseD_back vd (by omega)
  have sl := sortU_len d
  have jd := joinD_eq vd (by omega)
  have hist := hist_eq vh
  have hdat := data_eq vd
  have fh : F_format_histogram [Hi b c] = .ok (.val (.str (S (txH b c)))) := by
    have : F_check_histogram [Hi b c] = .ok (.val .none) := by simp [F_check_histogram, fnR, m_check_histogram, st0, x_var, hist]
    generalize S (txH b c) = ST at *
    simp [F_format_histogram, fnR, m_format_histogram, st0, x_var, this, jh]
  have fd : F_format_data [Li d] = .ok (.val (.str (S (txD d)))) := by
    have : F_check_data [Li d] = .ok (.val .none) := by simp [F_check_data, fnR, m_check_data, st0, x_var, hdat]
    generalize S (txD d) = ST at *
    simp [F_format_data, fnR, m_format_data, st0, x_var, this, jd]
  obtain ⟨o, ho, eb⟩ := badhist_eq ns (by omega) (p := 1) (by omega) (by omega)
  have e0 := er_h (oddH_no ho)
  obtain ⟨o', ho', eb'⟩ := baddata_eq ns (by omega)
  have e1 := er_d (bad_no ho')
  have rj := rej_eq
  have qs : ∀ T : List Nat, PyData.eqv (.str (S T)) (.str (S T)) = true := fun T => by rw [PyData.eqv]; simp
  have q1 := qs (txH b c)
  have q2 := qs (txD d)
  have k14 : okR 14 := okR_of (by decide) (by decide)
  generalize txH b c = T at *
  generalize txD d = G at *
  refine fn_rt (seq_nx (ρ1 := [some (.val (Li ns)), none, none, some (.val (Hi b c)), some (.val (Li d)), none, none, none, none, none, none, none, none, none]) (by simp [st0, x_var, eh, ed, sPar.noB, put]) ?_)
  refine seq_nx (ρ1 := [some (.val (Li ns)), none, none, some (.val (Hi b c)), some (.val (Li d)), some (.val (.str (S T))), some (.val (.str (S G))), none, none, none, none, none, none, none]) (by simp [x_var, lt, lg, sPar.noB, put]) ?_
  refine seq_nx (if_no (by simp [x_var, fh, pb, x_ne, q1]) rfl) ?_
  refine seq_nx (if_no (by simp [eCall0, rj, nerr]) rfl) ?_
  refine seq_nx (if_no (by simp [x_var, fd, db, x_ne, q2]) rfl) ?_
  obtain ⟨ρ', e1', x1, x2, x7, x8, x9, x10, x11, x12, x13, rfl⟩ := Nx.for_ (ι := iRg1 (eK (.int 14))) (τ := .nm 1) (B := b_law_0) (ρ := [some (.val (Li ns)), none, none, some (.val (Hi b c)), some (.val (Li d)), some (.val (.str (S T))), some (.val (.str (S G))), none, none, none, none, none, none, none]) (rangeD 0 14) (fun _ (ρ : En) => ∃ x1 x2 x7 x8 x9 x10 x11 x12 x13 : Option Cl, ρ = [some (.val (Li ns)), x1, x2, some (.val (Hi b c)), some (.val (Li d)), some (.val (.str (S T))), some (.val (.str (S G))), x7, x8, x9, x10, x11, x12, x13]) (Q := fun (ρ : En) => ∃ x1 x2 x7 x8 x9 x10 x11 x12 x13 : Option Cl, ρ = [some (.val (Li ns)), x1, x2, some (.val (Hi b c)), some (.val (Li d)), some (.val (.str (S T))), some (.val (.str (S G))), x7, x8, x9, x10, x11, x12, x13]) (by simp [k14]) ⟨_, _, _, _, _, _, _, _, _, rfl⟩ (by
      rintro i ρ w hw ⟨x1, x2, x7, x8, x9, x10, x11, x12, x13, rfl⟩
      obtain ⟨rfl, hi⟩ := rg0_get hw
      exact ⟨_, rfl, step ns hn (by omega) dlen i hi⟩) fun _ h => h
  refine seq_nx e1' ?_
  refine seq_nx (ρ1 := [some (.val (Li ns)), x1, some (.val (.list [.int 0])), some (.val (Hi b c)), some (.val (Li d)), some (.val (.str (S T))), some (.val (.str (S G))), x7, x8, x9, x10, x11, x12, x13]) (by simp [x_var, eb, e0]) ?_
  refine seq_nx (ρ1 := [some (.val (Li ns)), x1, some (.val (.list [.int 0, .int 1])), some (.val (Hi b c)), some (.val (Li d)), some (.val (.str (S T))), some (.val (.str (S G))), x7, x8, x9, x10, x11, x12, x13]) (by simp [x_var, eb', e1]) ?_
  simp [x_var, x_eq]
end Py

set_option Elab.async false
set_option linter.all false
set_option maxRecDepth 100000
set_option autoImplicit false
set_option maxHeartbeats 4000000
open PySem PySem.W PySem.Calls PyProof.Rows
theorem PySem.Challenge.cw_bucketdata_k68_formats_holds : PySem.Challenge.rw_bucketdata_k68_formats.Holds := by
  w_on; o_law
  refine HandSHeadRun.head_any (r := OpenLaw.row PySem.Challenge.rw_bucketdata_k68_formats) (q := view (OpenLaw.row PySem.Challenge.rw_bucketdata_k68_formats).prog [41]) (H := Hd.hk) (ob := Hd.ob) (M := 6000) (loose := Hd.loose) (d := HandSHeadRun.topDef (OpenLaw.row PySem.Challenge.rw_bucketdata_k68_formats).prog 41) (kwd := []) Hd.ob_eq
    (by kernel_rfl) (fun s => by kernel_rfl) Hd.run (by kernel_rfl) (by kernel_rfl) (by kernel_rfl) (by rfl) (by first | assumption | decide +kernel) (by decide +kernel) ⟨rfl, rfl, rfl, rfl, rfl, by decide +kernel⟩ ?hw ?hc
  case hw => w_witness2
  case hc =>
    refine Py.walk_py (l := PySem.Challenge.rw_bucketdata_k68_formats) (n := 63) (k := 7) (x := "script") (G := Py.F_law) rfl (by decide) (by kernel_rfl) ⟨rfl, by decide, by decide⟩ ?F Py.law_true
    intro w mg fa h Y G hmg0
    obtain ⟨K, KX, c⟩ := Y
    have hmg : mg ("law" : PySem.Str) = some (.ref fa) := by
      have e : (HandSHeadRun.topDef (OpenLaw.row PySem.Challenge.rw_bucketdata_k68_formats).prog 41).name = ("law" : PySem.Str) := by kernel_rfl
      rw [← e]
      exact hmg0
    letI : Py.KK := ⟨K⟩
    have Z : Py.Facts mg := ⟨⟨h, KX, G⟩, c⟩
    obtain ⟨fd, F⟩ := c.def_ 25 (d := Hd.d_law) rfl
    have e := hmg.symm.trans (Py.Z_glo_law Z)
    cases e
    have b := L2.FunD.bindsA (ps := ["script"]) F fun _ _ _ _ _ _ us hl => match us, hl with | [_], _ => rfl
    exact ⟨K, fd, KX, fun s v => b s [v] rfl, fun base _ _ => Py.ok_law_fn Z F⟩

