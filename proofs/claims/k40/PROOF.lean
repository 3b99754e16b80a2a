import PyProof.Rows.All
import Wide.All
import OpenK.AllK
import Wide.FinOn
import HandS.ForMost
import HandS.Exc
import HandS.TryOnly
import HandS.ExcOwn
import HandS.Lambda
import HandS.TupAny
import HandS.IsInst
import HandS.SortInts
import HandS.SortKw
import HandS.Wide
import KE.SortData
import KE.Datum
import KE.KDictKeyed
import KE.KDictWalk
import PyProof.ReprRoads
import HandS.EndTab
import HandS.TupMul
import PyProof.TupleOfSeq
import PyProof.Transfer
import HandS.ExcValue
import HandS.ExcIs
import HandS.TupLe
import HandS.Style
import PyProof.ReprLen
import HandS.Words
import HandS.EndOwn
import KE.KNestM
import HandS.Conv
import HandS.Zip
import HandS.Iter
import HandS.Star
import HandS.Strs
import HandS.SetBool
import KE.KDictZip
import HandS.DictTup
import PyProof.ListNew
import KE.GoesMore
import KE.GoesEnum
import PyProof.EnumMake
import HandS.DictComp
import KE.KDictCopyH
import KE.KDictPairs
import HandS.Zip0
import KE.KDictSum
import HandS.Flt
import HandS.ExcInit
import KE.KExcSuper
import KE.KExcIs
import HandS.ExcField
import KE.DataFind
import KE.KIndexOf
import HandS.SetFor
import PySem.Challenge.RW_pairpicks_k40_rising_sizes_told
section
set_option Elab.async false
set_option linter.all false
set_option maxRecDepth 100000
set_option maxHeartbeats 2000000
/-! The value layer, part 1: values without a heap (D), results (R), the draw state (G), what a value of the heap reads as (Rep). -/
namespace DL
open PySem PySem.Spec PyProof.Rows L2

/-- values as pure data -/
inductive D where
  | non | bl (b : Bool) | int (i : Int) | str (s : Str)
  | tup (l : List D) | lst (l : List D) | dct (l : List (D × D)) | set (l : List D)
  | st | scr (n : Nat) | ty (n : String) | fn (f : Str) | exc (c : Str) (f : Str) (l : List D) | lam (i : Nat)

/-- the state of the draws -/
structure G where
  large : List Int
  cells : List Int
  left : Int
  turn : Int

inductive R (α : Type) where
  | stuck
  | ok (a : α) (g : G)
  | exc (c : Str) (f : Str) (l : List D) (g : G)

abbrev M (α : Type) := G → R α
def R.bind {α β : Type} (r : R α) (k : α → M β) : R β :=
  match r with
  | .stuck => .stuck
  | .ok a g => k a g
  | .exc c f l g => .exc c f l g
@[reducible] def M.pure {α : Type} (a : α) : M α := fun g => .ok a g
@[reducible] def M.bind {α β : Type} (m : M α) (k : α → M β) : M β := fun g => (m g).bind k
instance : Monad M where
  pure := M.pure
  bind := M.bind
def stuck {α : Type} : M α := fun _ => .stuck
def ofOpt {α : Type} : Option α → M α
  | some a => M.pure a
  | none => stuck

/-- where the draw state stands: its dict, the list of large numbers, the list of cells; the lambdas that are named, their frame's cells, their name -/
structure Zt where
  p : Addr
  l : Addr
  c : Addr
  T : List (Addr × Str)
  lm : List (Arguments × Expr × Scope)
  lc : List (Str × Addr)
  lq : Str
def stK (z : Zt) (g : G) : List (Key × V) := [(.inr "large", .ref z.l), (.inr "cells", .ref z.c), (.inr "left", .int g.left), (.inr "turn", .int g.turn)]
/-- no table of code objects -/
def NT : HO → Prop
  | .tbl _ => False
  | _ => True
/-- something stands at b, and no table of code objects -/
def Oc (H : Hp) (b : Addr) : Prop := ∃ u, H b = some u ∧ NT u
/-- a tuple at a, the object known: it has no dict of its own -/
def TP (H : Hp) (a : Addr) (xs : List V) : Prop := ∃ o : Obj, o.dict = none ∧ H a = some (.frz o (.tup xs))
theorem TP.rd {H : Hp} {a : Addr} {xs : List V} (h : TP H a xs) : Rd H a (.tup xs) := let ⟨o, _, e⟩ := h; .inr ⟨o, e⟩
theorem TP.sq {K : PySem.W.Frag} {H : Hp} {a : Addr} {xs : List V} (h : TP H a xs) : SqT K H a xs := .inl h.rd
theorem TP.oc {H : Hp} {a : Addr} {xs : List V} (h : TP H a xs) : Oc H a := let ⟨_, _, e⟩ := h; ⟨_, e, trivial⟩
theorem TP.to {H H' : Hp} {a : Addr} {xs : List V} (h : TP H a xs) (k : ∀ u, H a = some u → NT u → H' a = some u) : TP H' a xs := let ⟨o, d, e⟩ := h; ⟨o, d, k _ e trivial⟩
theorem oc_none {H : Hp} {b : Addr} (h : H b = none) : ¬ Oc H b := fun ⟨u, e, _⟩ => by rw [h] at e; cases e
theorem Oc.ne {H : Hp} {a b : Addr} (h : Oc H b) (n : ¬ Oc H a) : b ≠ a := fun e => n (e ▸ h)
structure GOk (z : Zt) (H : Hp) (g : G) : Prop where
  p : H z.p = some (.dK (stK z g))
  l : H z.l = some (.lst (g.large.map V.int))
  c : H z.c = some (.lst (g.cells.map V.int))
  ne : z.l ≠ z.c
  tb : LamX.Tabs z.T H
theorem GOk.pl {z : Zt} {H : Hp} {g : G} (h : GOk z H g) : z.p ≠ z.l := ne_of h.p h.l (by intro q; cases q)
theorem GOk.pc {z : Zt} {H : Hp} {g : G} (h : GOk z H g) : z.p ≠ z.c := ne_of h.p h.c (by intro q; cases q)
theorem GOk.same {z : Zt} {H H' : Hp} {g : G} (h : GOk z H g) (s : Same H H') : GOk z H' g := ⟨s _ _ h.p, s _ _ h.l, s _ _ h.c, h.ne, h.tb.ext s⟩

/-- all but the draw state's own objects and the tables of code objects stands -/
structure Ext (z : Zt) (H H' : Hp) : Prop where
  to : ∀ b u, H b = some u → NT u → b ≠ z.p → b ≠ z.l → H' b = some u
theorem Ext.of {z : Zt} {H H' : Hp} (s : Same H H') : Ext z H H' := ⟨fun b u e _ _ _ => s b u e⟩
theorem Ext.refl {z : Zt} {H : Hp} : Ext z H H := ⟨fun _ _ e _ _ _ => e⟩
theorem Ext.trans {z : Zt} {H H1 H2 : Hp} (a : Ext z H H1) (b : Ext z H1 H2) : Ext z H H2 :=
  ⟨fun c u e n h1 h2 => b.to c u (a.to c u e n h1 h2) n h1 h2⟩
/-- what stood stands -/
theorem Ext.there {z : Zt} {H H' : Hp} {b : Addr} (e : Ext z H H') (h : Oc H b) (h1 : b ≠ z.p) (h2 : b ≠ z.l) : Oc H' b := by
  obtain ⟨u, q, n⟩ := h
  exact ⟨u, e.to b u q n h1 h2, n⟩
theorem Ext.none {z : Zt} {H H' : Hp} {b : Addr} (e : Ext z H H') (h : ¬ Oc H' b) (h1 : b ≠ z.p) (h2 : b ≠ z.l) : ¬ Oc H b := fun o => h (e.there o h1 h2)
theorem GOk.op {z : Zt} {H : Hp} {g : G} (h : GOk z H g) : Oc H z.p := ⟨_, h.p, trivial⟩
theorem GOk.ol {z : Zt} {H : Hp} {g : G} (h : GOk z H g) : Oc H z.l := ⟨_, h.l, trivial⟩
theorem GOk.oc {z : Zt} {H : Hp} {g : G} (h : GOk z H g) : Oc H z.c := ⟨_, h.c, trivial⟩
theorem Same.refl {H : Hp} : Same H H := fun _ _ e => e

/-- an exception object at a -/
def ExV (cls : Value) (d : Option Addr) (a : Addr) : HO := .ext fun h => ∃ (oe : Obj) (vs : Array Value), h.get? a = some oe ∧ Zc cls d oe ∧ oe.data = .fields vs
/-- the very object o at a -/
def ObV (a : Addr) (o : Obj) : HO := .ext fun h => h.get? a = some o

/-- what is read of a dict's entries: keys, values -/
def EnK (ks vs : List V) (es : Array DictEntry) : Prop := Vals ks (es.toList.map (·.key)) ∧ Vals vs (es.toList.map (·.val))

/-- a dict's object is no code object -/
theorem obV_code {b : Addr} {o : Obj} {es : Array DictEntry} {ep : Nat} {q : Str} (hd : o.data = .dict es ep) : ObV b o ≠ LamX.CodeO b q := fun w => by
  unfold ObV LamX.CodeO at w
  injection w with w
  have hg : ({ objs := Array.replicate (b + 1) o } : Heap).get? b = some o := by
    have e : (Array.replicate (b + 1) o)[b]? = some o := by simp
    obtain ⟨c, dd, dat, sl⟩ := o
    dsimp only at hd
    subst hd
    unfold Heap.get?
    dsimp only
    rw [e]
  have h := congrFun w { objs := Array.replicate (b + 1) o }
  obtain ⟨oc, vs, t, h1, h2, _⟩ := h.mp hg
  rw [hg] at h1
  cases h1
  rw [hd] at h2
  cases h2
/-- the hash that an entry with this key has: ints, tuples of ints -/
def HashOk (e : DictEntry) : D → Prop
  | .int i => ∀ w : World, e.hash = keyH w (.inl i)
  | .tup l => ∀ is : List Int, l = is.map D.int → ∀ (P : Program) (w : World), e.hash = (tupleKind (mixKind P w)).hash (is.map .inl)
  | _ => True
/-- a dict's entries have these keys, unlike ones -/
def KyOk (es : Array DictEntry) (ds : List D) : Prop := (∀ (i : Nat) (e : DictEntry) (d : D), es[i]? = some e → ds[i]? = some d → HashOk e d) ∧ ds.Nodup
mutual
/-- the value v reads as d in H; no list, dict or set of it stands at one of the addresses Mu (those may change) -/
inductive Rep (K : PySem.W.Frag) (mg : Str → Option Value) (z : Zt) (Mu : List Addr) (H : Hp) : V → D → Prop
  | non : Rep K mg z Mu H .non .non
  | bl (b) : Rep K mg z Mu H (.bl b) (.bl b)
  | int (i) : Rep K mg z Mu H (.int i) (.int i)
  | str (s) : Rep K mg z Mu H (.str s) (.str s)
  | tup {a xs ds} : a ∉ Mu → TP H a xs → Reps K mg z Mu H xs ds → Rep K mg z Mu H (.ref a) (.tup ds)
  | lst {a xs ds} : a ∉ Mu → H a = some (.lst xs) → Reps K mg z Mu H xs ds → Rep K mg z Mu H (.ref a) (.lst ds)
  | dct {a o es ep ks vs kvs} : a ∉ Mu → H a = some (ObV a o) → (a == sysModules) = false → o.ExactDict → o.data = .dict es ep → es.size ≤ sizeLine → EnK ks vs es → Reps K mg z Mu H ks (kvs.map (·.1)) → Reps K mg z Mu H vs (kvs.map (·.2)) → KyOk es (kvs.map (·.1)) → Rep K mg z Mu H (.ref a) (.dct kvs)
  | st : Rep K mg z Mu H (.ref z.p) .st
  | ty (n) : Rep K mg z Mu H (.ty n) (.ty n)
  | scrR {a xs} : a ∉ Mu → Rd H a (.lst xs) → Rep K mg z Mu H (.ref a) (.scr xs.length)
  | scrK {a xs o its n} : K.lookup a = some o → o.cls = .type "list" → o.dict = none → o.data = .seq its n → its.size ≤ sizeLine → Vals xs its.toList → Rep K mg z Mu H (.ref a) (.scr xs.length)
  | set {a S} {ns : List Int} : a ∉ Mu → H a = some (.set S ns.length) → (∀ k, S k = decide (k ∈ ns)) → ns.Nodup → Rep K mg z Mu H (.ref a) (.set (ns.map D.int))
  | fn {x f} : mg x = some (.ref f) → Rep K mg z Mu H (.ref f) (.fn x)
  | lam {f c i pm ctv pr b sc} : f ∉ Mu → c ∉ Mu → z.lm[i]? = some (pr, b, sc) → H f = some (ObV f (PySem.W.kla_obj "<lambda>" z.lq pr b sc (cloFrom z.lc sc.names []) pm c ctv)) → H c = some (LamX.CodeO c z.lq) → Rep K mg z Mu H (.ref f) (.lam i)
  | exc0 {a c C} : a ∉ Mu → mg c = some (.ref C) → H a = some (ExV (.ref C) none a) → Rep K mg z Mu H (.ref a) (.exc c Str.empty [])
  | exc1 {a dx c C f v d} : a ∉ Mu → dx ∉ Mu → mg c = some (.ref C) → H a = some (ExV (.ref C) (some dx) a) → H dx = some (.xd [(f, v)]) → Rep K mg z Mu H v d → Rep K mg z Mu H (.ref a) (.exc c f [d])
inductive Reps (K : PySem.W.Frag) (mg : Str → Option Value) (z : Zt) (Mu : List Addr) (H : Hp) : List V → List D → Prop
  | nil : Reps K mg z Mu H [] []
  | cons {v d vs ds} : Rep K mg z Mu H v d → Reps K mg z Mu H vs ds → Reps K mg z Mu H (v :: vs) (d :: ds)
end

section
variable {K : PySem.W.Frag} {mg : Str → Option Value} {z : Zt} {Mu Mu' : List Addr} {H H' : Hp} {v : V} {d : D} {vs ws : List V} {ds es : List D}
theorem Reps.length : ∀ {vs : List V} {ds : List D}, Reps K mg z Mu H vs ds → vs.length = ds.length
  | _, _, .nil => rfl
  | _, _, .cons _ r => by rw [List.length_cons, List.length_cons, r.length]
theorem Reps.append : ∀ {vs ws : List V} {ds es : List D}, Reps K mg z Mu H vs ds → Reps K mg z Mu H ws es → Reps K mg z Mu H (vs ++ ws) (ds ++ es)
  | _, _, _, _, .nil, s => s
  | _, _, _, _, .cons r t, s => .cons r (t.append s)
theorem Reps.get : ∀ {vs : List V} {ds : List D} {i : Nat} {v : V}, Reps K mg z Mu H vs ds → vs[i]? = some v → ∃ d, ds[i]? = some d ∧ Rep K mg z Mu H v d
  | _, _, _, _, .nil, e => by simp at e
  | _, _, 0, _, .cons r _, e => ⟨_, rfl, by simpa using (Option.some.inj e) ▸ r⟩
  | _, _, i + 1, _, .cons _ t, e => t.get (i := i) (by simpa using e)
theorem Reps.get' : ∀ {vs : List V} {ds : List D} {i : Nat} {d : D}, Reps K mg z Mu H vs ds → ds[i]? = some d → ∃ v, vs[i]? = some v ∧ Rep K mg z Mu H v d
  | _, _, _, _, .nil, e => by simp at e
  | _, _, 0, _, .cons r _, e => ⟨_, rfl, by simpa using (Option.some.inj e) ▸ r⟩
  | _, _, i + 1, _, .cons _ t, e => t.get' (i := i) (by simpa using e)
theorem Reps.take : ∀ {vs : List V} {ds : List D} (n : Nat), Reps K mg z Mu H vs ds → Reps K mg z Mu H (vs.take n) (ds.take n)
  | _, _, 0, _ => .nil
  | _, _, _ + 1, .nil => .nil
  | _, _, n + 1, .cons r t => .cons r (t.take n)
theorem Reps.drop : ∀ {vs : List V} {ds : List D} (n : Nat), Reps K mg z Mu H vs ds → Reps K mg z Mu H (vs.drop n) (ds.drop n)
  | _, _, 0, r => r
  | _, _, _ + 1, .nil => .nil
  | _, _, n + 1, .cons _ t => t.drop n
theorem Reps.set {x : V} {y : D} (r : Rep K mg z Mu H x y) : ∀ {vs : List V} {ds : List D} (i : Nat), Reps K mg z Mu H vs ds → Reps K mg z Mu H (vs.set i x) (ds.set i y)
  | _, _, _, .nil => .nil
  | _, _, 0, .cons _ t => .cons r t
  | _, _, i + 1, .cons q t => .cons q (Reps.set r i t)
theorem Reps.one (r : Rep K mg z Mu H v d) : Reps K mg z Mu H [v] [d] := .cons r .nil
theorem Reps.reverse : ∀ {vs : List V} {ds : List D}, Reps K mg z Mu H vs ds → Reps K mg z Mu H vs.reverse ds.reverse
  | _, _, .nil => .nil
  | _, _, .cons r t => by rw [List.reverse_cons, List.reverse_cons]; exact t.reverse.append (.one r)
theorem Reps.ints : ∀ ns : List Int, Reps K mg z Mu H (ns.map V.int) (ns.map D.int)
  | [] => .nil
  | n :: ns => .cons (.int n) (Reps.ints ns)

/-- all but what stands at the addresses Mu stands -/
def ExtM (Mu : List Addr) (H H' : Hp) : Prop := ∀ b u, H b = some u → NT u → b ∉ Mu → H' b = some u
theorem Ext.m (e : Ext z H H') (zp : z.p ∈ Mu) (zl : z.l ∈ Mu) : ExtM Mu H H' := fun b u q t n => e.to b u q t (fun w => n (w ▸ zp)) (fun w => n (w ▸ zl))
mutual
/-- what reads on: all stands but at Mu; fewer addresses are barred, or further ones at which nothing stood -/
theorem Rep.mono (e : ExtM Mu H H') (m : ∀ b, Oc H b → b ∉ Mu → b ∉ Mu') : ∀ {v : V} {d : D}, Rep K mg z Mu H v d → Rep K mg z Mu' H' v d
  | _, _, .non => .non
  | _, _, .bl b => .bl b
  | _, _, .int i => .int i
  | _, _, .str s => .str s
  | _, _, .tup n h r => .tup (m _ h.oc n) (h.to fun _ q t => e _ _ q t n) (Reps.mono e m r)
  | _, _, .lst n h r => .lst (m _ ⟨_, h, trivial⟩ n) (e _ _ h trivial n) (Reps.mono e m r)
  | _, _, .dct n h h1 h2 h3 h4 h5 r1 r2 ky => .dct (m _ ⟨_, h, trivial⟩ n) (e _ _ h trivial n) h1 h2 h3 h4 h5 (Reps.mono e m r1) (Reps.mono e m r2) ky
  | _, _, .st => .st
  | _, _, .ty n => .ty n
  | _, _, .scrR n h => .scrR (m _ (h.elim (fun h => ⟨_, h, trivial⟩) fun ⟨_, h⟩ => ⟨_, h, trivial⟩) n) (h.elim (fun h => .inl (e _ _ h trivial n)) fun ⟨o, h⟩ => .inr ⟨o, e _ _ h trivial n⟩)
  | _, _, .scrK h1 h2 h3 h4 h5 h6 => .scrK h1 h2 h3 h4 h5 h6
  | _, _, .set n h s d => .set (m _ ⟨_, h, trivial⟩ n) (e _ _ h trivial n) s d
  | _, _, .fn h => .fn h
  | _, _, .lam n1 n2 h q1 q2 => .lam (m _ ⟨_, q1, trivial⟩ n1) (m _ ⟨_, q2, trivial⟩ n2) h (e _ _ q1 trivial n1) (e _ _ q2 trivial n2)
  | _, _, .exc0 n h q => .exc0 (m _ ⟨_, q, trivial⟩ n) h (e _ _ q trivial n)
  | _, _, .exc1 n n2 h q q2 r => .exc1 (m _ ⟨_, q, trivial⟩ n) (m _ ⟨_, q2, trivial⟩ n2) h (e _ _ q trivial n) (e _ _ q2 trivial n2) (Rep.mono e m r)
theorem Reps.mono (e : ExtM Mu H H') (m : ∀ b, Oc H b → b ∉ Mu → b ∉ Mu') : ∀ {vs : List V} {ds : List D}, Reps K mg z Mu H vs ds → Reps K mg z Mu' H' vs ds
  | _, _, .nil => .nil
  | _, _, .cons r t => .cons (Rep.mono e m r) (Reps.mono e m t)
end

/-- the barred addresses: the draw state's are among them, something stands at each -/
structure MuOk (z : Zt) (Mu : List Addr) (H : Hp) : Prop where
  p : z.p ∈ Mu
  l : z.l ∈ Mu
  c : z.c ∈ Mu
  at_ : ∀ b ∈ Mu, Oc H b
  nc : ∀ b ∈ Mu, ∀ q, H b ≠ some (LamX.CodeO b q)
  nt : ∀ b ∈ Mu, ∀ o xs, H b ≠ some (.frz o (.tup xs))
theorem MuOk.ext {g g' : G} (m : MuOk z Mu H) (e : Ext z H H') (G' : GOk z H' g') : MuOk z Mu H' := by
  refine ⟨m.p, m.l, m.c, fun b hb => ?_, fun b hb q => ?_, fun b hb o xs => ?_⟩
  · by_cases h1 : b = z.p
    · rw [h1]; exact G'.op
    by_cases h2 : b = z.l
    · rw [h2]; exact G'.ol
    exact e.there (m.at_ b hb) h1 h2
  · by_cases h1 : b = z.p
    · rw [h1, G'.p]
      intro w
      cases w
    by_cases h2 : b = z.l
    · rw [h2, G'.l]
      intro w
      cases w
    obtain ⟨u, q1, q2⟩ := m.at_ b hb
    rw [e.to b u q1 q2 h1 h2, ← q1]
    exact m.nc b hb q
  · by_cases h1 : b = z.p
    · rw [h1, G'.p]
      intro w
      cases w
    by_cases h2 : b = z.l
    · rw [h2, G'.l]
      intro w
      cases w
    obtain ⟨u, q1, q2⟩ := m.at_ b hb
    rw [e.to b u q1 q2 h1 h2, ← q1]
    exact m.nt b hb o xs
theorem Rep.ext {g : G} (r : Rep K mg z Mu H v d) (m : MuOk z Mu H) (G1 : GOk z H g) (e : Ext z H H') : Rep K mg z Mu H' v d := Rep.mono (e.m m.p m.l) (fun _ _ h => h) r
theorem Reps.ext {g : G} (r : Reps K mg z Mu H vs ds) (m : MuOk z Mu H) (G1 : GOk z H g) (e : Ext z H H') : Reps K mg z Mu H' vs ds := Reps.mono (e.m m.p m.l) (fun _ _ h => h) r
theorem Rep.less {g : G} (r : Rep K mg z Mu H v d) (m : MuOk z Mu H) (G1 : GOk z H g) (h : ∀ b ∈ Mu', b ∈ Mu) : Rep K mg z Mu' H v d := Rep.mono (fun _ _ e _ _ => e) (fun b _ n q => n (h b q)) r
theorem Reps.less {g : G} (r : Reps K mg z Mu H vs ds) (m : MuOk z Mu H) (G1 : GOk z H g) (h : ∀ b ∈ Mu', b ∈ Mu) : Reps K mg z Mu' H vs ds := Reps.mono (fun _ _ e _ _ => e) (fun b _ n q => n (h b q)) r
theorem Rep.more {g : G} {a : Addr} (r : Rep K mg z Mu H v d) (m : MuOk z Mu H) (G1 : GOk z H g) (e : Ext z H H') (n : ¬ Oc H a) : Rep K mg z (a :: Mu) H' v d :=
  Rep.mono (e.m m.p m.l) (fun b q h w => by
    rcases List.mem_cons.mp w with w | w
    · exact q.ne n w
    · exact h w) r
theorem Reps.more {g : G} {a : Addr} (r : Reps K mg z Mu H vs ds) (m : MuOk z Mu H) (G1 : GOk z H g) (e : Ext z H H') (n : ¬ Oc H a) : Reps K mg z (a :: Mu) H' vs ds :=
  Reps.mono (e.m m.p m.l) (fun b q h w => by
    rcases List.mem_cons.mp w with w | w
    · exact q.ne n w
    · exact h w) r

/-- what stands at a: a list, a dict -/
inductive Cont (K : PySem.W.Frag) (mg : Str → Option Value) (z : Zt) (Mu : List Addr) (H : Hp) (a : Addr) : D → Prop
  | lst {xs ds} : H a = some (.lst xs) → Reps K mg z Mu H xs ds → Cont K mg z Mu H a (.lst ds)
  | dct {o es ep ks vs kvs} : H a = some (ObV a o) → (a == sysModules) = false → o.ExactDict → o.data = .dict es ep → es.size ≤ sizeLine → EnK ks vs es → Reps K mg z Mu H ks (kvs.map (·.1)) → Reps K mg z Mu H vs (kvs.map (·.2)) → KyOk es (kvs.map (·.1)) → Cont K mg z Mu H a (.dct kvs)
theorem Cont.rep {a : Addr} (c : Cont K mg z Mu H a d) (n : a ∉ Mu) : Rep K mg z Mu H (.ref a) d := by
  cases c with
  | lst h r => exact .lst n h r
  | dct h h1 h2 h3 h4 h5 r1 r2 ky => exact .dct n h h1 h2 h3 h4 h5 r1 r2 ky
theorem Cont.there {a : Addr} (c : Cont K mg z Mu H a d) : Oc H a := by
  cases c with
  | lst h r => exact ⟨_, h, trivial⟩
  | dct h h1 h2 h3 h4 h5 r1 r2 ky => exact ⟨_, h, trivial⟩
theorem Cont.ncode {a : Addr} (c : Cont K mg z Mu H a d) (q : Str) : H a ≠ some (LamX.CodeO a q) := by
  cases c with
  | lst h r => rw [h]; intro w; cases w
  | dct h h1 h2 h3 h4 h5 r1 r2 ky => rw [h]; intro w; exact obV_code h3 (Option.some.inj w)
theorem Cont.ntup {a : Addr} (c : Cont K mg z Mu H a d) (o : Obj) (xs : List V) : H a ≠ some (.frz o (.tup xs)) := by
  cases c with
  | lst h r => rw [h]; intro w; cases w
  | dct h h1 h2 h3 h4 h5 r1 r2 ky => rw [h]; intro w; cases w
theorem Cont.mono {a : Addr} (c : Cont K mg z Mu H a d) (ea : ∀ u, H a = some u → NT u → H' a = some u) (e : ExtM Mu H H') (m : ∀ b, Oc H b → b ∉ Mu → b ∉ Mu') : Cont K mg z Mu' H' a d := by
  cases c with
  | lst h r => exact .lst (ea _ h trivial) (r.mono e m)
  | dct h h1 h2 h3 h4 h5 r1 r2 ky => exact .dct (ea _ h trivial) h1 h2 h3 h4 h5 (r1.mono e m) (r2.mono e m) ky

/-- the kinds of results: shared (never changed again), new (a list, dict or set is new and nobody else has it), peeked at (perhaps one's own) -/
inductive Kd where
  | sh | new | peek | nt | nn
def D.box : D → Bool
  | .lst _ => true
  | .dct _ => true
  | _ => false
/-- v, the result of a step from H to H', is d -/
def RK (K : PySem.W.Frag) (mg : Str → Option Value) (z : Zt) (k : Kd) (H : Hp) (Mu : List Addr) (H' : Hp) (v : V) (d : D) : Prop :=
  match k with
  | .sh => Rep K mg z Mu H' v d
  | .new => if d.box = true then ∃ a, v = .ref a ∧ ¬ Oc H a ∧ Cont K mg z (a :: Mu) H' a d else Rep K mg z Mu H' v d
  | .peek => Rep K mg z Mu H' v d ∨ ∃ a, v = .ref a ∧ a ∈ Mu ∧ a ≠ z.p ∧ a ≠ z.l ∧ a ≠ z.c ∧ Cont K mg z Mu H' a d
  | .nt => match d with
    | .tup (d0 :: ds) => ∃ b x xs, v = .ref b ∧ b ∉ Mu ∧ TP H' b (x :: xs) ∧ (if d0.box = true then ∃ a, x = .ref a ∧ ¬ Oc H a ∧ Cont K mg z (a :: Mu) H' a d0 else Rep K mg z Mu H' x d0) ∧ Reps K mg z Mu H' xs ds
    | d => Rep K mg z Mu H' v d
  | .nn => Rep K mg z Mu H' v d ∧ ∀ d0 ds, d = .lst (d0 :: ds) → d0.box = true → ∃ a b xs, v = .ref a ∧ H' a = some (.lst (.ref b :: xs)) ∧ a ≠ b ∧ ¬ Oc H a ∧ ¬ Oc H b
/-- peeked at: the same, wherever from -/
abbrev PR (K : PySem.W.Frag) (mg : Str → Option Value) (z : Zt) (Mu : List Addr) (H : Hp) (v : V) (d : D) : Prop :=
  Rep K mg z Mu H v d ∨ ∃ a, v = .ref a ∧ a ∈ Mu ∧ a ≠ z.p ∧ a ≠ z.l ∧ a ≠ z.c ∧ Cont K mg z Mu H a d
theorem PR.ext {g : G} (r : PR K mg z Mu H v d) (m : MuOk z Mu H) (G1 : GOk z H g) (e : Ext z H H') : PR K mg z Mu H' v d := by
  rcases r with r | ⟨a, ev, ha, n1, n2, n3, c⟩
  · exact .inl (r.ext m G1 e)
  · exact .inr ⟨a, ev, ha, n1, n2, n3, c.mono (fun u q t => e.to a u q t n1 n2) (e.m m.p m.l) fun _ _ h => h⟩
theorem RK.sh_of_new {H0 : Hp} {g : G} (r : RK K mg z .new H0 Mu H v d) (m0 : MuOk z Mu H0) (m : MuOk z Mu H) (G1 : GOk z H g) : Rep K mg z Mu H v d := by
  have r' : if d.box = true then ∃ a, v = .ref a ∧ ¬ Oc H0 a ∧ Cont K mg z (a :: Mu) H a d else Rep K mg z Mu H v d := r
  by_cases hb : d.box = true
  · rw [if_pos hb] at r'
    obtain ⟨a, rfl, n, c⟩ := r'
    have na : a ∉ Mu := fun w => n (m0.at_ a w)
    have np : a ≠ z.p := fun w => na (w ▸ m.p)
    have nl : a ≠ z.l := fun w => na (w ▸ m.l)
    exact Cont.rep (c.mono (Mu' := Mu) (fun _ e _ => e) (fun _ _ e _ _ => e) fun b _ h w => h (List.mem_cons_of_mem _ w)) na
  · rw [if_neg hb] at r'
    exact r'
theorem RK.sh_of_nt {H0 : Hp} {g : G} (r : RK K mg z .nt H0 Mu H v d) (m0 : MuOk z Mu H0) (m : MuOk z Mu H) (G1 : GOk z H g) : Rep K mg z Mu H v d := by
  have hd : (∃ d0 ds, d = .tup (d0 :: ds)) ∨ ¬ ∃ d0 ds, d = .tup (d0 :: ds) := Classical.em _
  rcases hd with ⟨d0, ds, rfl⟩ | hd
  · obtain ⟨b, x, xs, rfl, nb, hb, n, rs⟩ := r
    exact .tup nb hb (.cons (RK.sh_of_new (show RK K mg z .new H0 Mu H x d0 from n) m0 m G1) rs)
  · unfold RK at r
    dsimp only at r
    split at r
    · exact absurd ⟨_, _, rfl⟩ hd
    · exact r
theorem RK.nt_of {H0 : Hp} (r : Rep K mg z Mu H v d) (h : ¬ ∃ d0 ds, d = .tup (d0 :: ds)) : RK K mg z .nt H0 Mu H v d := by
  unfold RK
  dsimp only
  split
  · exact absurd ⟨_, _, rfl⟩ h
  · exact r
theorem RK.peek {k : Kd} {H0 : Hp} {g : G} (r : RK K mg z k H0 Mu H v d) (m0 : MuOk z Mu H0) (m : MuOk z Mu H) (G1 : GOk z H g) : PR K mg z Mu H v d := by
  cases k with
  | sh => exact .inl r
  | peek => exact r
  | new => exact .inl (RK.sh_of_new r m0 m G1)
  | nt => exact .inl (RK.sh_of_nt r m0 m G1)
  | nn => exact .inl r.1
/-- a shared value that is no list, dict or set is new, too -/
theorem RK.new_of {H0 : Hp} (r : Rep K mg z Mu H v d) (h : d.box = false) : RK K mg z .new H0 Mu H v d := by
  unfold RK
  rw [if_neg (by rw [h]; exact Bool.false_ne_true)]
  exact r
end

/-! ### what a local of a def holds -/
abbrev Sl := Bool × D
abbrev Env := List (Option Sl)
def SlOk (K : PySem.W.Frag) (mg : Str → Option Value) (z : Zt) (Mu : List Addr) (H : Hp) (v : V) (t : Bool) (d : D) : Prop :=
  match t with
  | false => Rep K mg z Mu H v d
  | true => ∃ a, v = .ref a ∧ a ∈ Mu ∧ a ≠ z.p ∧ a ≠ z.l ∧ a ≠ z.c ∧ Cont K mg z Mu H a d
structure EnvOk (K : PySem.W.Frag) (mg : Str → Option Value) (z : Zt) (Mu : List Addr) (H : Hp) (σ : L2.St) (ρ : Env) : Prop where
  len : ρ.length = σ.length
  mu : MuOk z Mu H
  val : ∀ (i : Nat) (t : Bool) (d : D), ρ[i]? = some (some (t, d)) → ∃ v, σ[i]? = some (some v) ∧ SlOk K mg z Mu H v t d
  sep : ∀ (i j : Nat) (d d' : D) (a : Addr), ρ[i]? = some (some (true, d)) → ρ[j]? = some (some (true, d')) → σ[i]? = some (some (.ref a)) → σ[j]? = some (some (.ref a)) → i = j
section
variable {K : PySem.W.Frag} {mg : Str → Option Value} {z : Zt} {Mu Mu' : List Addr} {H H' : Hp} {v : V} {d : D} {σ : L2.St} {ρ : Env}
theorem SlOk.ext {g : G} {t : Bool} (r : SlOk K mg z Mu H v t d) (m : MuOk z Mu H) (G1 : GOk z H g) (e : Ext z H H') : SlOk K mg z Mu H' v t d := by
  cases t with
  | false => exact Rep.ext r m G1 e
  | true =>
    obtain ⟨a, ev, ha, n1, n2, n3, c⟩ := r
    exact ⟨a, ev, ha, n1, n2, n3, c.mono (fun u q t => e.to a u q t n1 n2) (e.m m.p m.l) fun _ _ h => h⟩
theorem EnvOk.ext {g g' : G} (h : EnvOk K mg z Mu H σ ρ) (G1 : GOk z H g) (e : Ext z H H') (G2 : GOk z H' g') : EnvOk K mg z Mu H' σ ρ :=
  ⟨h.len, h.mu.ext (g := g) e G2, fun i t d q => by
    obtain ⟨v, q1, q2⟩ := h.val i t d q
    exact ⟨v, q1, q2.ext h.mu G1 e⟩, h.sep⟩
end
end DL
end
section
set_option Elab.async false
set_option linter.all false
set_option maxRecDepth 100000
set_option maxHeartbeats 2000000
/-! The value layer, part 2: what an expression comes to (DE), a test (DT), arguments (DA); names, constants, operators, comparisons, and, or, not, if. -/
namespace DL
open PySem PySem.Spec PyProof.Rows L2

abbrev Ep := Env → M D
abbrev Et := Env → M Bool
abbrev Es := Env → M (List D)

/-- P of a result, E of an exception -/
def R.all {α : Type} (r : R α) (P : α → G → Prop) (E : Str → Str → List D → G → Prop) : Prop :=
  match r with
  | .stuck => False
  | .ok a g => P a g
  | .exc c f l g => E c f l g
theorem R.all_bind {α β : Type} {r : R α} {k : α → M β} {P : β → G → Prop} {E : Str → Str → List D → G → Prop} (h : (r.bind k).all P E) : r.all (fun a g => (k a g).all P E) E := by
  cases r <;> exact h
theorem R.all_imp {α : Type} {r : R α} {P P' : α → G → Prop} {E E' : Str → Str → List D → G → Prop} (h : r.all P E) (hp : ∀ a g, P a g → P' a g) (he : ∀ c f l g, E c f l g → E' c f l g) : r.all P' E' := by
  cases r with
  | stuck => exact h
  | ok a g => exact hp _ _ h
  | exc c f l g => exact he _ _ _ _ h
theorem R.all_eq {α : Type} {r : R α} {P : α → G → Prop} {E : Str → Str → List D → G → Prop} (h : r.all P E) : r.all (fun a g => r = .ok a g ∧ P a g) E := by
  cases r with
  | stuck => exact h
  | ok a g => exact ⟨rfl, h⟩
  | exc c f l g => exact h
theorem R.all_opt {α : Type} {o : Option α} {g : G} {P : α → G → Prop} {E : Str → Str → List D → G → Prop} (h : (ofOpt o g).all P E) : ∃ a, o = some a ∧ P a g := by
  cases o with
  | none => exact h.elim
  | some a => exact ⟨a, rfl, h⟩

/-- the exception of the class c, with its attribute f where it has one -/
def ExcIs (K : PySem.W.Frag) (mg : Str → Option Value) (z : Zt) (Mu : List Addr) (H : Hp) (c f : Str) (l : List D) (cls : Value) (dd : Option Addr) : Prop :=
  ∃ C, mg c = some (.ref C) ∧ cls = .ref C ∧ ((f = Str.empty ∧ l = [] ∧ dd = none) ∨ ∃ dx v d, l = [d] ∧ dd = some dx ∧ dx ∉ Mu ∧ H dx = some (.xd [(f, v)]) ∧ Rep K mg z Mu H v d)
abbrev XW (X : Cx) (z : Zt) (W : WX) (Mu : List Addr) (σ : L2.St) (H : Hp) : Str → Str → List D → G → Prop := fun c f l g' =>
  ∀ cls dd H', Ext z H H' → GOk z H' g' → ExcIs X.K X.mg z Mu H' c f l cls dd → W cls dd σ H'
def tE (X : Cx) (z : Zt) (W : WX) (k : Kd) (f : Ep) : TE := fun σ H Q => ∃ ρ g Mu, EnvOk X.K X.mg z Mu H σ ρ ∧ GOk z H g ∧
  (f ρ g).all (fun d g' => ∀ v H', Ext z H H' → GOk z H' g' → RK X.K X.mg z k H Mu H' v d → Q v H') (XW X z W Mu σ H)
def tT (X : Cx) (z : Zt) (W : WX) (f : Et) : TT := fun σ H Q => ∃ ρ g Mu, EnvOk X.K X.mg z Mu H σ ρ ∧ GOk z H g ∧
  (f ρ g).all (fun b g' => ∀ H', Ext z H H' → GOk z H' g' → Q b H') (XW X z W Mu σ H)
/-- values peeked at, or shared, one by one -/
inductive RKs (K : PySem.W.Frag) (mg : Str → Option Value) (z : Zt) (Mu : List Addr) (H : Hp) : List V → List D → Prop
  | nil : RKs K mg z Mu H [] []
  | cons {v d vs ds} : PR K mg z Mu H v d → RKs K mg z Mu H vs ds → RKs K mg z Mu H (v :: vs) (d :: ds)
def tA (X : Cx) (z : Zt) (W : WX) (f : Es) : TA := fun σ H Q => ∃ ρ g Mu, EnvOk X.K X.mg z Mu H σ ρ ∧ GOk z H g ∧
  (f ρ g).all (fun ds g' => ∀ vs H', Ext z H H' → GOk z H' g' → RKs X.K X.mg z Mu H' vs ds → Q vs H') (XW X z W Mu σ H)
/-- arguments that are shared -/
def tAs (X : Cx) (z : Zt) (W : WX) (f : Es) : TA := fun σ H Q => ∃ ρ g Mu, EnvOk X.K X.mg z Mu H σ ρ ∧ GOk z H g ∧
  (f ρ g).all (fun ds g' => ∀ vs H', Ext z H H' → GOk z H' g' → Reps X.K X.mg z Mu H' vs ds → Q vs H') (XW X z W Mu σ H)

abbrev DE (X : Cx) (z : Zt) (W : WX) (k : Kd) (e : Expr) (f : Ep) : Prop := PE X e (tE X z W k f)
abbrev DT (X : Cx) (z : Zt) (W : WX) (e : Expr) (f : Et) : Prop := PT X e (tT X z W f)
abbrev DA (X : Cx) (z : Zt) (W : WX) (es : List Expr) (f : Es) : Prop := PA X es (tA X z W f)
abbrev DAs (X : Cx) (z : Zt) (W : WX) (es : List Expr) (f : Es) : Prop := PA X es (tAs X z W f)

section
variable {X : Cx} {z : Zt} {W : WX} {k : Kd} {e a b : Expr} {f fa fb : Ep} {pos : Pos} {pins : List (Addr × Obj)} {s : Shared} {σ : L2.St} {H : Hp} {Mu : List Addr} {ρ : Env} {g : G}

theorem XW.step {H1 : Hp} {c n : Str} {l : List D} {g' : G} (h : XW X z W Mu σ H c n l g') (e : Ext z H H1) : XW X z W Mu σ H1 c n l g' := fun cls dd H' e1 g1 x => h cls dd H' (e.trans e1) g1 x
theorem Raising.all {α : Type} {r : R α} {P : α → G → Prop} {H1 : Hp} (h : r.all P (XW X z W Mu σ H)) (e : Ext z H H1) : r.all P (XW X z W Mu σ H1) := R.all_imp h (fun _ _ h => h) fun _ _ _ _ h => XW.step h e

/-- an expression runs to its value -/
theorem de_run {Q : Value → Shared → Prop} (h : DE X z W k e f) (I : Inv X pins σ H s) (E : EnvOk X.K X.mg z Mu H σ ρ) (G1 : GOk z H g)
    (hx : (f ρ g).all (fun d g' => ∀ v u H' s', Inv X pins σ H' s' → RelV v u → Ext z H H' → GOk z H' g' → EnvOk X.K X.mg z Mu H' σ ρ → RK X.K X.mg z k H Mu H' v d → Q u s') (XW X z W Mu σ H)) :
    wpAny (model X.prog X.w) X.A (eval e X.env) Q X.xe s := by
  refine thn (h.run pins s σ H (fun v H' => ∃ d g', f ρ g = .ok d g' ∧ Ext z H H' ∧ GOk z H' g' ∧ RK X.K X.mg z k H Mu H' v d) I ⟨ρ, g, Mu, E, G1, ?_⟩) ?_
  · cases q : f ρ g with
    | stuck => rw [q] at hx; exact hx
    | ok d g' => exact fun v H' e1 g1 r => ⟨d, g', rfl, e1, g1, r⟩
    | exc c n l g' => rw [q] at hx; exact hx
  · rintro u s' ⟨v, H', I', r, d, g', q, e1, g1, rk⟩
    rw [q] at hx
    exact hx v u H' s' I' r e1 g1 (E.ext G1 e1 g1) rk
theorem dt_run {f : Et} {Q : Bool → Shared → Prop} (h : DT X z W e f) (I : Inv X pins σ H s) (E : EnvOk X.K X.mg z Mu H σ ρ) (G1 : GOk z H g)
    (hx : (f ρ g).all (fun b g' => ∀ H' s', Inv X pins σ H' s' → Ext z H H' → GOk z H' g' → EnvOk X.K X.mg z Mu H' σ ρ → Q b s') (XW X z W Mu σ H)) :
    wpAny (model X.prog X.w) X.A (isTrue e X.env (eval e X.env)) Q X.xe s := by
  refine thn (h.run pins s σ H (fun b H' => ∃ g', f ρ g = .ok b g' ∧ Ext z H H' ∧ GOk z H' g') I ⟨ρ, g, Mu, E, G1, ?_⟩) ?_
  · cases q : f ρ g with
    | stuck => rw [q] at hx; exact hx
    | ok d g' => exact fun H' e1 g1 => ⟨g', rfl, e1, g1⟩
    | exc c n l g' => rw [q] at hx; exact hx
  · rintro b s' ⟨H', I', g', q, e1, g1⟩
    rw [q] at hx
    exact hx H' s' I' e1 g1 (E.ext G1 e1 g1)
theorem da_run {es : List Expr} {f : Es} {Q : List Value → Shared → Prop} (h : DA X z W es f) (I : Inv X pins σ H s) (E : EnvOk X.K X.mg z Mu H σ ρ) (G1 : GOk z H g)
    (hx : (f ρ g).all (fun ds g' => ∀ vs us H' s', Inv X pins σ H' s' → Vals vs us → Ext z H H' → GOk z H' g' → EnvOk X.K X.mg z Mu H' σ ρ → RKs X.K X.mg z Mu H' vs ds → Q us s') (XW X z W Mu σ H)) :
    wpAny (model X.prog X.w) X.A (spliced (backTo pos (starEach es X.env))) Q X.xe s := by
  refine thn (h.run pos pins s σ H (fun vs H' => ∃ ds g', f ρ g = .ok ds g' ∧ Ext z H H' ∧ GOk z H' g' ∧ RKs X.K X.mg z Mu H' vs ds) I ⟨ρ, g, Mu, E, G1, ?_⟩) ?_
  · cases q : f ρ g with
    | stuck => rw [q] at hx; exact hx
    | ok d g' => exact fun vs H' e1 g1 r => ⟨d, g', rfl, e1, g1, r⟩
    | exc c n l g' => rw [q] at hx; exact hx
  · rintro us s' ⟨vs, H', I', r, ds, g', q, e1, g1, rk⟩
    rw [q] at hx
    exact hx vs us H' s' I' r e1 g1 (E.ext G1 e1 g1) rk
theorem das_run {es : List Expr} {f : Es} {Q : List Value → Shared → Prop} (h : DAs X z W es f) (I : Inv X pins σ H s) (E : EnvOk X.K X.mg z Mu H σ ρ) (G1 : GOk z H g)
    (hx : (f ρ g).all (fun ds g' => ∀ vs us H' s', Inv X pins σ H' s' → Vals vs us → Ext z H H' → GOk z H' g' → EnvOk X.K X.mg z Mu H' σ ρ → Reps X.K X.mg z Mu H' vs ds → Q us s') (XW X z W Mu σ H)) :
    wpAny (model X.prog X.w) X.A (spliced (backTo pos (starEach es X.env))) Q X.xe s := by
  refine thn (h.run pos pins s σ H (fun vs H' => ∃ ds g', f ρ g = .ok ds g' ∧ Ext z H H' ∧ GOk z H' g' ∧ Reps X.K X.mg z Mu H' vs ds) I ⟨ρ, g, Mu, E, G1, ?_⟩) ?_
  · cases q : f ρ g with
    | stuck => rw [q] at hx; exact hx
    | ok d g' => exact fun vs H' e1 g1 r => ⟨d, g', rfl, e1, g1, r⟩
    | exc c n l g' => rw [q] at hx; exact hx
  · rintro us s' ⟨vs, H', I', r, ds, g', q, e1, g1, rk⟩
    rw [q] at hx
    exact hx vs us H' s' I' r e1 g1 (E.ext G1 e1 g1) rk

/-- a value that is shared, told as new or peeked at -/
theorem DE.peek (h : DE X z W k e f) : DE X z W .peek e f := by
  refine ⟨fun pins s σ H Q I ⟨ρ, g, Mu, E, G1, hx⟩ => ?_⟩
  refine de_run h I E G1 (R.all_imp hx (fun d g' hq v u H' s' I' r e1 g1 E1 rk => ?_) fun _ _ _ _ h => h)
  exact ⟨v, H', I', r, hq v H' e1 g1 (rk.peek E.mu E1.mu g1)⟩
theorem DE.sh (h : DE X z W .new e f) : DE X z W .sh e f := by
  refine ⟨fun pins s σ H Q I ⟨ρ, g, Mu, E, G1, hx⟩ => ?_⟩
  refine de_run h I E G1 (R.all_imp hx (fun d g' hq v u H' s' I' r e1 g1 E1 rk => ?_) fun _ _ _ _ h => h)
  exact ⟨v, H', I', r, hq v H' e1 g1 (rk.sh_of_new E.mu E1.mu g1)⟩

/-! ### names, constants -/
def shAt (ρ : Env) (i : Nat) : Option D := match ρ[i]? with
  | some (some (false, d)) => some d
  | _ => none
def anyAt (ρ : Env) (i : Nat) : Option D := match ρ[i]? with
  | some (some (_, d)) => some d
  | _ => none
theorem shAt_some {ρ : Env} {i : Nat} {d : D} (h : shAt ρ i = some d) : ρ[i]? = some (some (false, d)) := by
  unfold shAt at h
  split at h
  · rename_i e q
    cases h
    exact q
  · cases h
theorem anyAt_some {ρ : Env} {i : Nat} {d : D} (h : anyAt ρ i = some d) : ∃ t, ρ[i]? = some (some (t, d)) := by
  unfold anyAt at h
  split at h
  · rename_i t e q
    cases h
    exact ⟨t, q⟩
  · cases h
def eVar (i : Nat) : Ep := fun ρ => ofOpt (shAt ρ i)
def ePeek (i : Nat) : Ep := fun ρ => ofOpt (anyAt ρ i)
def eC (d : D) : Ep := fun _ => M.pure d
theorem de_of {t : TE} (h : PE X e t) (hi : ∀ σ H ρ g Mu Q, EnvOk X.K X.mg z Mu H σ ρ → GOk z H g → (f ρ g).all (fun d g' => ∀ v H', Ext z H H' → GOk z H' g' → RK X.K X.mg z k H Mu H' v d → Q v H') (XW X z W Mu σ H) → t σ H Q) : DE X z W k e f :=
  ⟨fun pins s σ H Q I ⟨ρ, g, Mu, E, G1, hx⟩ => h.run pins s σ H Q I (hi σ H ρ g Mu Q E G1 hx)⟩
theorem de_var {i : Nat} {x : Str} (h : PE X (.Name x pos) (tVar i)) : DE X z W .sh (.Name x pos) (eVar i) := by
  refine de_of h fun σ H ρ g Mu Q E G1 hx => ?_
  obtain ⟨d, q, hx⟩ := R.all_opt hx
  obtain ⟨v, hv, r⟩ := E.val i false d (shAt_some q)
  exact ⟨v, hv, hx v H Ext.refl G1 r⟩
theorem de_peek {i : Nat} {x : Str} (h : PE X (.Name x pos) (tVar i)) : DE X z W .peek (.Name x pos) (ePeek i) := by
  refine de_of h fun σ H ρ g Mu Q E G1 hx => ?_
  obtain ⟨d, q, hx⟩ := R.all_opt hx
  obtain ⟨t, q⟩ := anyAt_some q
  obtain ⟨v, hv, r⟩ := E.val i t d q
  refine ⟨v, hv, hx v H Ext.refl G1 ?_⟩
  cases t with
  | false => exact .inl r
  | true => exact .inr r
theorem de_const {v : V} {d : D} (h : PE X e (tC v)) (r : ∀ Mu H, Rep X.K X.mg z Mu H v d) (hb : d.box = false) : DE X z W .new e (eC d) :=
  de_of h fun σ H ρ g Mu Q E G1 hx => hx v H Ext.refl G1 (RK.new_of (r Mu H) hb)
theorem de_int {i : Int} {j : Nat} : DE X z W .new (.Constant (.int i) j pos) (eC (.int i)) := de_const pe_int (fun _ _ => .int i) rfl
theorem de_bl {b : Bool} {j : Nat} : DE X z W .new (.Constant (.bool b) j pos) (eC (.bl b)) := de_const pe_bl (fun _ _ => .bl b) rfl
theorem de_non {j : Nat} : DE X z W .new (.Constant .none j pos) (eC .non) := de_const pe_non (fun _ _ => .non) rfl
theorem de_str {x : Str} {j : Nat} : DE X z W .new (.Constant (.str x) j pos) (eC (.str x)) := de_const pe_str (fun _ _ => .str x) rfl
theorem de_glob_int {x : Str} {i : Int} {t : Tok} (hg : Gl X x) (hm : X.mg x = some (.int i t)) (hd : (x == ("__debug__" : Str)) = false := by decide) : DE X z W .new (.Name x pos) (eC (.int i)) := de_const (v := .int i) (pe_glob hg hm ⟨t, rfl⟩ hd) (fun _ _ => .int i) rfl
theorem de_glob_fn {x : Str} {q : Addr} (hg : Gl X x) (hm : X.mg x = some (.ref q)) (hd : (x == ("__debug__" : Str)) = false := by decide) : DE X z W .new (.Name x pos) (eC (.fn x)) := de_const (v := .ref q) (pe_glob hg hm rfl hd) (fun _ _ => .fn hm) rfl

/-! ### operators by values -/
/-- f of two values comes to h of what they read as -/
def DOp (X : Cx) (z : Zt) (k : Kd) (f : Value → Value → Sem Value) (h : D → D → Option D) : Prop :=
  ∀ (pins : List (Addr × Obj)) (s : Shared) (σ : L2.St) (H : Hp) (Mu : List Addr) (g : G) (x y : V) (v u : Value) (dx dy d : D) (Q : VK), Inv X pins σ H s → MuOk z Mu H → GOk z H g → RelV x v → RelV y u → PR X.K X.mg z Mu H x dx → PR X.K X.mg z Mu H y dy →
    h dx dy = some d → (∀ v' H', Same H H' → RK X.K X.mg z k H Mu H' v' d → Q v' H') → wpAny (model X.prog X.w) X.A (f v u) (EP X pins σ Q) X.xe s
def eBin (h : D → D → Option D) (fa fb : Ep) : Ep := fun ρ => do let x ← fa ρ; let y ← fb ρ; ofOpt (h x y)
theorem RK.back {H0 H1 H2 : Hp} {K : PySem.W.Frag} {mg : Str → Option Value} {v : V} {d : D} {g1 : G} (r : RK K mg z k H1 Mu H2 v d) (e : Ext z H0 H1) (G1 : GOk z H1 g1) : RK K mg z k H0 Mu H2 v d := by
  cases k with
  | sh => exact r
  | peek => exact r
  | nn =>
    refine ⟨r.1, fun d0 ds q hb => ?_⟩
    obtain ⟨a, b, xs, ev, h, n, na, nb⟩ := r.2 d0 ds q hb
    exact ⟨a, b, xs, ev, h, n, e.none na (fun w => na (w ▸ G1.op)) (fun w => na (w ▸ G1.ol)), e.none nb (fun w => nb (w ▸ G1.op)) (fun w => nb (w ▸ G1.ol))⟩
  | nt =>
    have hd : (∃ d0 ds, d = .tup (d0 :: ds)) ∨ ¬ ∃ d0 ds, d = .tup (d0 :: ds) := Classical.em _
    rcases hd with ⟨d0, ds, rfl⟩ | hd
    · obtain ⟨b, x, xs, ev, nb, hb, n, rs⟩ := r
      refine ⟨b, x, xs, ev, nb, hb, ?_, rs⟩
      by_cases hb : d0.box = true
      · rw [if_pos hb] at n ⊢
        obtain ⟨a, ev, n, c⟩ := n
        exact ⟨a, ev, e.none n (fun w => n (w ▸ G1.op)) (fun w => n (w ▸ G1.ol)), c⟩
      · rw [if_neg hb] at n ⊢
        exact n
    · refine RK.nt_of ?_ hd
      unfold RK at r
      dsimp only at r
      split at r
      · exact absurd ⟨_, _, rfl⟩ hd
      · exact r
  | new =>
    have r' : if d.box = true then ∃ a, v = .ref a ∧ ¬ Oc H1 a ∧ Cont K mg z (a :: Mu) H2 a d else Rep K mg z Mu H2 v d := r
    show if d.box = true then ∃ a, v = .ref a ∧ ¬ Oc H0 a ∧ Cont K mg z (a :: Mu) H2 a d else Rep K mg z Mu H2 v d
    by_cases hb : d.box = true
    · rw [if_pos hb] at r' ⊢
      obtain ⟨a, ev, n, c⟩ := r'
      refine ⟨a, ev, ?_, c⟩
      exact e.none n (fun w => n (w ▸ G1.op)) (fun w => n (w ▸ G1.ol))
    · rw [if_neg hb] at r' ⊢
      exact r'
/-- two values in a row, then f -/
theorem bin_run {h : D → D → Option D} {fv : Value → Value → Sem Value} {ka kb : Kd} (ho : DOp X z k fv h) (ha : DE X z W ka a fa) (hb : DE X z W kb b fb) (I : Inv X pins σ H s) (E : EnvOk X.K X.mg z Mu H σ ρ) (G1 : GOk z H g) {Q : VK}
    (hx : (eBin h fa fb ρ g).all (fun d g' => ∀ v H', Ext z H H' → GOk z H' g' → RK X.K X.mg z k H Mu H' v d → Q v H') (XW X z W Mu σ H)) :
    wpAny (model X.prog X.w) X.A (eval a X.env) (fun v s₁ => wpAny (model X.prog X.w) X.A (eval b X.env) (fun u s₂ => wpAny (model X.prog X.w) X.A (fv v u) (EP X pins σ Q) X.xe s₂) X.xe s₁) X.xe s := by
  refine de_run ha I E G1 (R.all_imp (R.all_bind hx) (fun dx g1 hx v u H1 s1 I1 r1 e1 G2 E1 k1 => ?_) fun _ _ _ _ h => h)
  refine de_run hb I1 E1 G2 (R.all_imp (Raising.all (R.all_bind hx) e1) (fun dy g2 hx v' u' H2 s2 I2 r2 e2 G3 E2 k2 => ?_) fun _ _ _ _ h => h)
  obtain ⟨d, hd, hx⟩ := R.all_opt hx
  have p1 : PR X.K X.mg z Mu H2 v dx := (k1.peek E.mu E1.mu G2).ext E1.mu G2 e2
  have p2 : PR X.K X.mg z Mu H2 v' dy := k2.peek E1.mu E2.mu G3
  refine ho pins s2 σ H2 Mu g2 v v' u u' dx dy d Q I2 E2.mu G3 r1 r2 p1 p2 hd fun w H3 s3 k3 => ?_
  exact hx w H3 ((e1.trans e2).trans (Ext.of s3)) (G3.same s3) (k3.back (e1.trans e2) G3)
theorem de_bin {op : Operator} {h : D → D → Option D} {ka kb : Kd} (ho : DOp X z k (binaryOp op) h) (ha : DE X z W ka a fa) (hb : DE X z W kb b fb) : DE X z W k (.BinOp a op b pos) (eBin h fa fb) := by
  refine ⟨fun pins s σ H Q I ⟨ρ, g, Mu, E, G1, hx⟩ => ?_⟩
  exact wpAny_BinOp (bin_run ho ha hb I E G1 hx)
theorem de_cmp {op : CmpOp} {h : D → D → Option D} {ka kb : Kd} (ho : DOp X z k (compareOp op) h) (ha : DE X z W ka a fa) (hb : DE X z W kb b fb) (hm : behindInMarks op b = false) : DE X z W k (.Compare a [op] [b] pos) (eBin h fa fb) := by
  refine ⟨fun pins s σ H Q I ⟨ρ, g, Mu, E, G1, hx⟩ => ?_⟩
  exact wpAny_Compare1 (bin_run ho ha hb I E G1 hx) hm
/-- a value's truth, of a bool -/
def eTr (f : Ep) : Et := fun ρ => do
  let d ← f ρ
  match d with
  | .bl b => M.pure b
  | _ => stuck
theorem all_tr {d : D} {P : Bool → G → Prop} {E : Str → Str → List D → G → Prop} {g : G} (h : ((match d with | .bl b => M.pure b | _ => stuck) g : R Bool).all P E) : ∃ b, d = .bl b ∧ P b g := by
  cases d <;> first | exact h.elim | exact ⟨_, rfl, h⟩
theorem PR.bl {K : PySem.W.Frag} {mg : Str → Option Value} {v : V} {b : Bool} (r : PR K mg z Mu H v (.bl b)) : v = .bl b := by
  rcases r with r | ⟨_, _, _, _, _, _, c⟩
  · cases r; rfl
  · cases c
theorem PR.int {K : PySem.W.Frag} {mg : Str → Option Value} {v : V} {i : Int} (r : PR K mg z Mu H v (.int i)) : v = .int i := by
  rcases r with r | ⟨_, _, _, _, _, _, c⟩
  · cases r; rfl
  · cases c
theorem PR.str {K : PySem.W.Frag} {mg : Str → Option Value} {v : V} {i : Str} (r : PR K mg z Mu H v (.str i)) : v = .str i := by
  rcases r with r | ⟨_, _, _, _, _, _, c⟩
  · cases r; rfl
  · cases c
theorem PR.non {K : PySem.W.Frag} {mg : Str → Option Value} {v : V} (r : PR K mg z Mu H v .non) : v = .non := by
  rcases r with r | ⟨_, _, _, _, _, _, c⟩
  · cases r; rfl
  · cases c
theorem PR.tup {K : PySem.W.Frag} {mg : Str → Option Value} {v : V} {ds : List D} (r : PR K mg z Mu H v (.tup ds)) : ∃ a xs, v = .ref a ∧ a ∉ Mu ∧ TP H a xs ∧ Reps K mg z Mu H xs ds := by
  rcases r with r | ⟨_, _, _, _, _, _, c⟩
  · cases r with | tup n h r => exact ⟨_, _, rfl, n, h, r⟩
  · cases c
theorem PR.lst {K : PySem.W.Frag} {mg : Str → Option Value} {v : V} {ds : List D} (r : PR K mg z Mu H v (.lst ds)) : ∃ a xs, v = .ref a ∧ H a = some (.lst xs) ∧ Reps K mg z Mu H xs ds := by
  rcases r with r | ⟨a, rfl, _, _, _, _, c⟩
  · cases r with | lst _ h r => exact ⟨_, _, rfl, h, r⟩
  · cases c with | lst h r => exact ⟨_, _, rfl, h, r⟩
/-- a value that is a bool, as a test -/
theorem dt_of (h : DE X z W k e f) (he : ∀ whole, isTrue e X.env whole = (do let v ← whole; standAt e.pos; holding [v] (truthy v)) := by intro _; rfl) : DT X z W e (eTr f) := by
  refine ⟨fun pins s σ H Q I ⟨ρ, g, Mu, E, G1, hx⟩ => ?_⟩
  refine isTrue_plain (de_run h I E G1 (R.all_imp (R.all_bind hx) (fun d g1 hx v u H1 s1 I1 r1 e1 G2 E1 k1 => ?_) fun _ _ _ _ h => h)) (he _)
  obtain ⟨b, rfl, hx⟩ := all_tr hx
  have ev := (k1.peek E.mu E1.mu G2).bl
  subst ev
  cases r1
  exact wpAny_truthy_bool ⟨H1, I1, hx H1 e1 G2⟩
theorem dt_cmp {op : CmpOp} {h : D → D → Option D} {ka kb : Kd} (ho : DOp X z k (compareOp op) h) (ha : DE X z W ka a fa) (hb : DE X z W kb b fb) (hm : behindInMarks op b = false) : DT X z W (.Compare a [op] [b] pos) (eTr (eBin h fa fb)) := by
  refine ⟨fun pins s σ H Q I ⟨ρ, g, Mu, E, G1, hx⟩ => ?_⟩
  have w := bin_run (Q := fun v H' => ∃ b g', eBin h fa fb ρ g = .ok (.bl b) g' ∧ v = .bl b ∧ Ext z H H' ∧ GOk z H' g') ho ha hb I E G1 (R.all_imp (R.all_eq (R.all_bind hx)) (fun d g1 ⟨q, hx⟩ v H' e1 G2 k1 => ?_) fun _ _ _ _ h => h)
  · refine wpAny_isTrue_Compare1 (thn w fun v s1 h1 => thn h1 fun u s2 h2 => thn h2 fun c s3 ⟨x, H1, I1, r1, b, g', q, ev, e1, G2⟩ => ?_) hm
    subst ev
    cases r1
    have hx' : ((eBin h fa fb ρ g).bind fun d => (match d with | .bl b => M.pure b | _ => stuck : M Bool)).all (fun b g' => ∀ H', Ext z H H' → GOk z H' g' → Q b H') (XW X z W Mu σ H) := hx
    rw [q] at hx'
    exact wpAny_truthy_bool ⟨H1, I1, hx' H1 e1 G2⟩
  · obtain ⟨b, rfl, _⟩ := all_tr hx
    have m1 : MuOk z Mu H' := E.mu.ext (g := g) e1 G2
    exact ⟨b, g1, q, (k1.peek E.mu m1 G2).bl, e1, G2⟩
end

/-! ### and, or, not, if -/
abbrev DW (X : Cx) (z : Zt) (W : WX) (e : Expr) (f : Et) : Prop := PW X e (tT X z W f)
def bAnd (f h : Et) : Et := fun ρ => do if ← f ρ then h ρ else M.pure false
def bOr (f h : Et) : Et := fun ρ => do if ← f ρ then M.pure true else h ρ
def bNot (f : Et) : Et := fun ρ => do let b ← f ρ; M.pure (!b)
/-- a test's answer as a value -/
def eBo (f : Et) : Ep := fun ρ => do let b ← f ρ; M.pure (.bl b)
def eAnd (f : Et) (h : Ep) : Ep := fun ρ => do if ← f ρ then h ρ else M.pure (.bl false)
def eOr (f : Et) (h : Ep) : Ep := fun ρ => do if ← f ρ then M.pure (.bl true) else h ρ
def eIf (c : Et) (f h : Ep) : Ep := fun ρ => do if ← c ρ then f ρ else h ρ
section
variable {X : Cx} {z : Zt} {W : WX} {k : Kd} {e a b : Expr} {rest : List Expr} {f fa fb : Ep} {ta tb tc : Et} {pos : Pos}
theorem dw_and1 (ha : DT X z W a ta) : DW X z W (.BoolOp .And [a] pos) ta := pw_and1 ha
theorem dw_or1 (ha : DT X z W a ta) : DW X z W (.BoolOp .Or [a] pos) ta := pw_or1 ha
theorem dw_and (ha : DT X z W a ta) (hb : DW X z W (.BoolOp .And (b :: rest) pos) tb) : DW X z W (.BoolOp .And (a :: b :: rest) pos) (bAnd ta tb) := by
  refine ⟨fun wh pins s σ H Q I ⟨ρ, g, Mu, E, G1, hx⟩ => ?_⟩
  refine isTrue_and (dt_run ha I E G1 (R.all_imp (R.all_bind hx) (fun c g1 hx H1 s1 I1 e1 G2 E1 => ?_) fun _ _ _ _ h => h))
  cases c with
  | true =>
    refine hb.run wh pins s1 σ H1 Q I1 ⟨ρ, g1, Mu, E1, G2, ?_⟩
    exact R.all_imp hx (fun c g2 h H2 e2 G3 => h H2 (e1.trans e2) G3) fun _ _ _ _ h => h.step e1
  | false => exact ⟨H1, I1, hx H1 e1 G2⟩
theorem dw_or (ha : DT X z W a ta) (hb : DW X z W (.BoolOp .Or (b :: rest) pos) tb) : DW X z W (.BoolOp .Or (a :: b :: rest) pos) (bOr ta tb) := by
  refine ⟨fun wh pins s σ H Q I ⟨ρ, g, Mu, E, G1, hx⟩ => ?_⟩
  refine isTrue_or (dt_run ha I E G1 (R.all_imp (R.all_bind hx) (fun c g1 hx H1 s1 I1 e1 G2 E1 => ?_) fun _ _ _ _ h => h))
  cases c with
  | true => exact ⟨H1, I1, hx H1 e1 G2⟩
  | false =>
    refine hb.run wh pins s1 σ H1 Q I1 ⟨ρ, g1, Mu, E1, G2, ?_⟩
    exact R.all_imp hx (fun c g2 h H2 e2 G3 => h H2 (e1.trans e2) G3) fun _ _ _ _ h => h.step e1
theorem dt_w (h : DW X z W e ta) : DT X z W e ta := h.pt
theorem dt_not (ha : DT X z W a ta) : DT X z W (.UnaryOp .Not a pos) (bNot ta) := by
  refine ⟨fun pins s σ H Q I ⟨ρ, g, Mu, E, G1, hx⟩ => ?_⟩
  exact isTrue_not (dt_run ha I E G1 (R.all_imp (R.all_bind hx) (fun c g1 hx H1 s1 I1 e1 G2 E1 => ⟨H1, I1, hx H1 e1 G2⟩) fun _ _ _ _ h => h))
/-- .. as values -/
theorem de_one {op} (h : DE X z W k a f) : DE X z W k (.BoolOp op [a] pos) f := pe_one h
theorem de_and {ka : Kd} (ha : DE X z W ka a fa) (hb : DE X z W k (.BoolOp .And (b :: rest) pos) fb) : DE X z W k (.BoolOp .And (a :: b :: rest) pos) (eAnd (eTr fa) fb) := by
  refine ⟨fun pins s σ H Q I ⟨ρ, g, Mu, E, G1, hx⟩ => ?_⟩
  refine BoolOp_and (de_run ha I E G1 (R.all_imp (R.all_bind (R.all_bind hx)) (fun d g1 hx v u H1 s1 I1 r1 e1 G2 E1 k1 => ?_) fun _ _ _ _ h => h))
  obtain ⟨c, rfl, hx⟩ := all_tr hx
  have ev := (k1.peek E.mu E1.mu G2).bl
  subst ev
  cases r1
  refine wpAny_truthy_bool ?_
  cases c with
  | true =>
    refine hb.run pins s1 σ H1 Q I1 ⟨ρ, g1, Mu, E1, G2, ?_⟩
    exact R.all_imp hx (fun d g2 h w H2 e2 G3 k2 => h w H2 (e1.trans e2) G3 (k2.back e1 G2)) fun _ _ _ _ h => h.step e1
  | false =>
    refine ⟨.bl false, H1, I1, rfl, hx (.bl false) H1 e1 G2 ?_⟩
    cases k with
    | sh => exact .bl false
    | new => exact RK.new_of (.bl false) rfl
    | peek => exact .inl (.bl false)
    | nt => exact .bl false
    | nn => exact ⟨.bl false, fun _ _ w => by cases w⟩
def eNot (f : Ep) : Ep := eBo (bNot (eTr f))
theorem de_not {ka : Kd} (ha : DE X z W ka a fa) : DE X z W .new (.UnaryOp .Not a pos) (eNot fa) := by
  refine ⟨fun pins s σ H Q I ⟨ρ, g, Mu, E, G1, hx⟩ => ?_⟩
  refine UnaryOp_ (de_run ha I E G1 (R.all_imp (R.all_bind (R.all_bind (R.all_bind hx))) (fun d g1 hx v u H1 s1 I1 r1 e1 G2 E1 k1 => ?_) fun _ _ _ _ h => h))
  obtain ⟨c, rfl, hx⟩ := all_tr hx
  have ev := (k1.peek E.mu E1.mu G2).bl
  subst ev
  cases r1
  exact not_of (wpAny_truthy_bool ⟨.bl (!c), H1, I1, rfl, hx (.bl (!c)) H1 e1 G2 (RK.new_of (.bl _) rfl)⟩)
theorem de_if {c : Expr} (hc : DT X z W c tc) (ha : DE X z W k a fa) (hb : DE X z W k b fb) : DE X z W k (.IfExp c a b pos) (eIf tc fa fb) := by
  refine ⟨fun pins s σ H Q I ⟨ρ, g, Mu, E, G1, hx⟩ => ?_⟩
  refine wpAny_IfExp (dt_run hc I E G1 (R.all_imp (R.all_bind hx) (fun d g1 hx H1 s1 I1 e1 G2 E1 => ?_) fun _ _ _ _ h => h))
  cases d with
  | true =>
    refine ha.run pins s1 σ H1 Q I1 ⟨ρ, g1, Mu, E1, G2, ?_⟩
    exact R.all_imp hx (fun d g2 h w H2 e2 G3 k2 => h w H2 (e1.trans e2) G3 (k2.back e1 G2)) fun _ _ _ _ h => h.step e1
  | false =>
    refine hb.run pins s1 σ H1 Q I1 ⟨ρ, g1, Mu, E1, G2, ?_⟩
    exact R.all_imp hx (fun d g2 h w H2 e2 G3 k2 => h w H2 (e1.trans e2) G3 (k2.back e1 G2)) fun _ _ _ _ h => h.step e1
/-- an operation on one value -/
def UOp (X : Cx) (z : Zt) (k : Kd) (f : Value → Sem Value) (h : D → Option D) : Prop :=
  ∀ (pins : List (Addr × Obj)) (s : Shared) (σ : L2.St) (H : Hp) (Mu : List Addr) (g : G) (x : V) (v : Value) (dx d : D) (Q : VK), Inv X pins σ H s → MuOk z Mu H → GOk z H g → RelV x v → PR X.K X.mg z Mu H x dx →
    h dx = some d → (∀ v' H', Same H H' → RK X.K X.mg z k H Mu H' v' d → Q v' H') → wpAny (model X.prog X.w) X.A (f v) (EP X pins σ Q) X.xe s
def eUn (h : D → Option D) (f : Ep) : Ep := fun ρ => do let x ← f ρ; ofOpt (h x)
theorem de_un {op : UnaryOp} {h : D → Option D} {ka : Kd} (ho : UOp X z k (unaryOp op) h) (ha : DE X z W ka a fa) : DE X z W k (.UnaryOp op a pos) (eUn h fa) := by
  refine ⟨fun pins s σ H Q I ⟨ρ, g, Mu, E, G1, hx⟩ => ?_⟩
  refine UnaryOp_ (de_run ha I E G1 (R.all_imp (R.all_bind hx) (fun d g1 hx v u H1 s1 I1 r1 e1 G2 E1 k1 => ?_) fun _ _ _ _ h => h))
  obtain ⟨d', hd, hx⟩ := R.all_opt hx
  exact ho pins s1 σ H1 Mu g1 v u d d' Q I1 E1.mu G2 r1 (k1.peek E.mu E1.mu G2) hd fun w H2 s2 k2 => hx w H2 (e1.trans (Ext.of s2)) (G2.same s2) (k2.back e1 G2)
def uNeg : D → Option D
  | .int i => some (.int (-i))
  | _ => none
theorem op_neg : UOp X z .new (unaryOp .USub) uNeg := by
  intro pins s σ H Mu g x v dx d Q I m G1 r p hd q
  cases dx <;> simp only [uNeg, reduceCtorEq, Option.some.injEq] at hd
  subst hd
  have e := p.int
  subst e
  exact un_neg pins s σ H _ v Q I r ⟨_, rfl, q _ H Same.refl (RK.new_of (.int _) rfl)⟩
end
end DL
end
section
set_option Elab.async false
set_option linter.all false
set_option maxRecDepth 100000
set_option maxHeartbeats 2000000
/-! The value layer, part 3: the operators, displays, subscripts, slices. -/
namespace DL
open PySem PySem.Spec PyProof.Rows L2

/-! ### numbers -/
def dAdd : D → D → Option D
  | .int a, .int b => some (.int (a + b))
  | .str a, .str b => if a.length + b.length ≤ sizeLine then some (.str (a ++ b)) else none
  | .tup a, .tup b => if a.length + b.length ≤ sizeLine then some (.tup (a ++ b)) else none
  | .lst a, .lst b => if a.length + b.length ≤ sizeLine then some (.lst (a ++ b)) else none
  | _, _ => none
def dSub : D → D → Option D
  | .int a, .int b => some (.int (a - b))
  | _, _ => none
/-- a * b for a number of at most 64 bits, or a sequence repeated -/
def dMul : D → D → Option D
  | .int a, .int b => if (-(2 ^ 64) < a ∧ a < 2 ^ 64) ∨ (-(2 ^ 64) < b ∧ b < 2 ^ 64) then some (.int (a * b)) else none
  | .tup a, .int k => if -(2 ^ 63) ≤ k ∧ k ≤ 1000 ∧ a.length ≤ 1000 ∧ ¬ a.isEmpty = true then some (.tup (List.replicate k.toNat a).flatten) else none
  | .lst a, .int k => if -(2 ^ 63) ≤ k ∧ k < 2 ^ 63 ∧ a.length * k.toNat ≤ sizeLine then some (.lst (List.replicate k.toNat a).flatten) else none
  | _, _ => none
def dFdiv : D → D → Option D
  | .int a, .int b => if 0 < b ∧ b.natAbs.log2 < 9000 then some (.int (a / b)) else none
  | _, _ => none
def dMod : D → D → Option D
  | .int a, .int b => if 0 < b then some (.int (a % b)) else none
  | _, _ => none
def dPow : D → D → Option D
  | .int a, .int b => if 0 ≤ b ∧ b ≤ 1000000 ∧ a.natAbs < 2 ^ 64 then some (.int (a ^ b.toNat)) else none
  | _, _ => none
def dLt : D → D → Option D
  | .int a, .int b => some (.bl (decide (a < b)))
  | _, _ => none
def dLe : D → D → Option D
  | .int a, .int b => some (.bl (decide (a ≤ b)))
  | _, _ => none
def dGt : D → D → Option D
  | .int a, .int b => some (.bl (decide (b < a)))
  | _, _ => none
def dGe : D → D → Option D
  | .int a, .int b => some (.bl (decide (b ≤ a)))
  | _, _ => none
section
variable {X : Cx} {z : Zt} {W : WX} {k : Kd}
theorem RK.int {K : PySem.W.Frag} {mg : Str → Option Value} {H0 H : Hp} {Mu : List Addr} {i : Int} : RK K mg z .new H0 Mu H (.int i) (.int i) := RK.new_of (.int i) rfl
theorem RK.bl {K : PySem.W.Frag} {mg : Str → Option Value} {H0 H : Hp} {Mu : List Addr} {b : Bool} : RK K mg z .new H0 Mu H (.bl b) (.bl b) := RK.new_of (.bl b) rfl
theorem RK.str {K : PySem.W.Frag} {mg : Str → Option Value} {H0 H : Hp} {Mu : List Addr} {x : Str} : RK K mg z .new H0 Mu H (.str x) (.str x) := RK.new_of (.str x) rfl
theorem same_upd' {H : Hp} {p : Addr} {o : HO} (h : H p = none) : Same H (upd H p o) := fun b u e => by rw [upd_ne (ne_of_none e h)]; exact e
/-- a new list -/
theorem RK.lst {K : PySem.W.Frag} {mg : Str → Option Value} {H : Hp} {Mu : List Addr} {p : Addr} {xs : List V} {ds : List D} {g : G} (m : MuOk z Mu H) (G1 : GOk z H g) (hp : H p = none) (r : Reps K mg z Mu H xs ds) : RK K mg z .new H Mu (upd H p (.lst xs)) (.ref p) (.lst ds) := by
  show if D.box (.lst ds) = true then ∃ a, V.ref p = .ref a ∧ ¬ Oc H a ∧ Cont K mg z (a :: Mu) (upd H p (.lst xs)) a (.lst ds) else Rep K mg z Mu (upd H p (.lst xs)) (.ref p) (.lst ds)
  rw [if_pos (show D.box (.lst ds) = true from rfl)]
  exact ⟨p, rfl, oc_none hp, .lst upd_same (r.more m G1 (Ext.of (same_upd' hp)) (oc_none hp))⟩
theorem MuOk.new {H : Hp} {Mu : List Addr} {p : Addr} (m : MuOk z Mu H) (h : H p = none) : p ∉ Mu := fun w => oc_none h (m.at_ p w)
theorem TP.new {H : Hp} {p : Addr} {ob : Obj} {xs : List V} (hd : ob.dict = none) : TP (upd H p (.frz ob (.tup xs))) p xs := ⟨ob, hd, upd_same⟩
theorem RK.tup {K : PySem.W.Frag} {mg : Str → Option Value} {H : Hp} {Mu : List Addr} {p : Addr} {ob : Obj} {xs : List V} {ds : List D} {g : G} (m : MuOk z Mu H) (G1 : GOk z H g) (hp : H p = none) (r : Reps K mg z Mu H xs ds) (hd : ob.dict = none := by rfl) : RK K mg z .new H Mu (upd H p (.frz ob (.tup xs))) (.ref p) (.tup ds) :=
  RK.new_of (.tup (m.new hp) (TP.new hd) (r.ext m G1 (Ext.of (same_upd' hp)))) rfl
/-- a tuple's object as it is made -/
abbrev oT (its : Array Value) : Obj := { cls := .type "tuple", data := .seq its }
/-- a new tuple is laid, its object known -/
theorem newT {pins : List (Addr × Obj)} {s : Shared} {σ : L2.St} {H : Hp} {h' : Heap} {tk : Tok} {xs : List V} {its : List Value} (I : Inv X pins σ H s) (r : Vals xs its) (hz : xs.length ≤ sizeLine) (k : ∀ b u, s.heap.get? b = some u → h'.get? b = some u) :
    Inv X pins σ (upd H h'.objs.size (.frz (oT its.toArray) (.tup xs))) { s with heap := h'.push (oT its.toArray), toks := tk } ∧ H h'.objs.size = none := by
  have I1 : Inv X pins σ H { s with heap := h' } := I.kept (t' := s.toks) k
  exact ⟨I1.laid (t' := tk) (fun b ob q => Heap.get?_push_of_some _ q) (Nat.le_refl _) ⟨Heap.get?_push_size _ rfl, hz, its, r, IsTup.new _ _⟩, I1.hok.fresh (Nat.le_refl _)⟩
theorem newT0 {pins : List (Addr × Obj)} {s : Shared} {σ : L2.St} {H : Hp} {tk : Tok} {xs : List V} {its : List Value} (I : Inv X pins σ H s) (r : Vals xs its) (hz : xs.length ≤ sizeLine) :
    Inv X pins σ (upd H s.heap.objs.size (.frz (oT its.toArray) (.tup xs))) { s with heap := s.heap.push (oT its.toArray), toks := tk } ∧ H s.heap.objs.size = none := newT I r hz fun _ _ q => q
theorem RK.tup_same {K : PySem.W.Frag} {mg : Str → Option Value} {H0 H : Hp} {Mu : List Addr} {p : Addr} {xs : List V} {ds : List D} (n : p ∉ Mu) (h : TP H p xs) (r : Reps K mg z Mu H xs ds) : RK K mg z .new H0 Mu H (.ref p) (.tup ds) := RK.new_of (.tup n h r) rfl

theorem op_dAdd : DOp X z .new (binaryOp .Add) dAdd := by
  intro pins s σ H Mu g x y v u dx dy d Q I m G1 rx ry px py hd q
  cases dx <;> cases dy <;> simp only [dAdd, reduceCtorEq, Option.some.injEq] at hd
  · subst hd
    obtain rfl := px.int
    obtain rfl := py.int
    exact L2.op_add pins s σ H _ _ v u Q I rx ry ⟨_, _, rfl, rfl, q _ H Same.refl RK.int⟩
  · split at hd
    · rename_i hz
      cases hd
      obtain rfl := px.str
      obtain rfl := py.str
      exact L2.op_add_str pins s σ H _ _ v u Q I rx ry ⟨_, _, rfl, rfl, hz, q _ H Same.refl RK.str⟩
    · cases hd
  · split at hd
    · rename_i hz
      cases hd
      obtain ⟨a, xs, rfl, nx, hx, rx'⟩ := px.tup
      obtain ⟨b, ys, rfl, ny, hy, ry'⟩ := py.tup
      cases rx
      cases ry
      obtain ⟨i1, v1, t1, z1⟩ := I.tuple hx.sq
      obtain ⟨i2, v2, t2, z2⟩ := I.tuple hy.sq
      have hz' : (xs ++ ys).length ≤ sizeLine := by rw [List.length_append, rx'.length, ry'.length]; exact hz
      by_cases e1 : i1 = []
      · subst e1
        cases v1
        cases rx'
        exact cat_tup0 t1 t2 ⟨.ref b, H, I, rfl, q _ H Same.refl (RK.tup_same ny hy ry')⟩
      · refine HT.cat_tup t1 t2 e1 (fun w => ?_) (fun _ => ?_) (by rw [← v1.length, ← v2.length, rx'.length, ry'.length]; exact hz)
        · subst w
          cases v2
          cases ry'
          rw [List.append_nil] at q
          exact ⟨.ref a, H, I, rfl, q _ H Same.refl (RK.tup_same nx hx rx')⟩
        · obtain ⟨I2, hp⟩ := newT0 (tk := s.toks) I (v1.append v2) hz'
          exact ⟨.ref _, _, I2, rfl, q _ _ (same_upd' hp) (RK.tup m G1 hp (rx'.append ry'))⟩
    · cases hd
  · split at hd
    · rename_i hz
      cases hd
      obtain ⟨a, xs, rfl, hx, rx'⟩ := px.lst
      obtain ⟨b, ys, rfl, hy, ry'⟩ := py.lst
      exact L2.op_cat pins s σ H _ _ v u Q I rx ry ⟨a, b, xs, ys, rfl, rfl, hx, hy, by rw [rx'.length, ry'.length]; exact hz, fun p hp => q _ _ (same_upd' hp) (RK.lst m G1 hp (rx'.append ry'))⟩
    · cases hd
/-- a tuple times 1, times 0 and less -/
theorem tuple_mul1 (l : Addr) (items : Array Value) (n : Nat) (dd : Option Addr) (sl : Array (Option Value)) (u : Tok) :
    Meets (Builtin.«tuple.__mul__» ⟨[.ref l, .int 1 u], []⟩) (fun _ R s => s.heap.get? l = some { cls := .type "tuple", dict := dd, data := .seq items n, slots := sl } ∧ R (.ok (.ret (Value.ref l))) s) :=
  .of_wp fun prog w A R s h => by
    obtain ⟨hp, g, d, tk, os⟩ := s
    obtain ⟨hl, h⟩ := h
    have f1 := AutoSeq1.idx_int
    wp_walk using wpAny_loadPart' hl
    exact ⟨_, rfl, h⟩
theorem tuple_mul0 (l : Addr) (items : Array Value) (n : Nat) (dd : Option Addr) (sl : Array (Option Value)) (x : Int) (u : Tok) (c0 : (decide (x < -(2 ^ 63)) || decide (x ≥ 2 ^ 63)) = false) (c1 : (items.isEmpty || x == 1) = false) (c2 : (decide (x ≤ 0) || items.isEmpty) = true) :
    Meets (Builtin.«tuple.__mul__» ⟨[.ref l, .int x u], []⟩) (fun _ R s => s.heap.get? l = some { cls := .type "tuple", dict := dd, data := .seq items n, slots := sl } ∧
      R (.ok (.ret (Value.ref s.heap.objs.size))) { s with heap := s.heap.push { cls := Value.type "tuple", data := Data.seq #[] }, toks := s.toks }) :=
  .of_wp fun prog w A R s h => by
    obtain ⟨hp, g, d, tk, os⟩ := s
    obtain ⟨hl, h⟩ := h
    have f1 := AutoSeq1.idx_int
    wp_walk using wpAny_loadPart' hl
    repeat (first
      | (refine wpAny_ite_false (decide_eq_false (by rw [c0]; exact Bool.false_ne_true)) ?_; wp_walk using wpAny_loadPart' hl)
      | (refine wpAny_ite_false (decide_eq_false (by rw [c1]; exact Bool.false_ne_true)) ?_; wp_walk using wpAny_loadPart' hl)
      | (refine wpAny_ite_true (decide_eq_true c2) ?_; wp_walk using wpAny_loadPart' hl))
    exact ⟨_, rfl, h⟩
theorem op_rep1 {pins : List (Addr × Obj)} {s : Shared} {σ : L2.St} {H : Hp} {l : Addr} {t : Tok} {xs : List V} {Q : VK} (I : Inv X pins σ H s) (hT : SqT X.K H l xs) (q : Q (.ref l) H) :
    wpAny (model X.prog X.w) X.A (binaryOp .Mult (.ref l) (.int 1 t)) (EP X pins σ Q) X.xe s := by
  obtain ⟨its, r, ⟨⟨cls, dd, data, sl⟩, ho, hc, n, hd⟩, hs⟩ := I.tuple hT
  simp only at hc hd
  subst hc hd
  refine wpAny_binaryOp_repeat_ref (T := "tuple") (U := "int") (by decide) ⟨_, ho, rfl⟩ (fun s' => typeIs_int s' 1 t) noFill_tuple_mul F.fills_int_mul F.slot_int_rmul repeat_tuple F.slot_int_index.lookup
    (call_meets F.slot_int_rmul (typeIs_int s 1 t) F.entry_int_rmul (F.args_int_rmul_2 _ _) (int_rmul_tuple 1 t l its.toArray n dd sl)
      ⟨ho, rfl, ⟨_, ho, rfl⟩, call_meets F.slot_tuple_mul ⟨_, ho, rfl⟩ F.entry_tuple_mul (F.args_tuple_mul_2 _ _) (tuple_mul1 l its.toArray n dd sl t) ⟨ho, ?_⟩⟩)
  exact ⟨.ref l, H, I, rfl, q⟩
theorem op_rep0 {pins : List (Addr × Obj)} {s : Shared} {σ : L2.St} {H : Hp} {l : Addr} {k : Int} {t : Tok} {xs : List V} {Q : VK} (I : Inv X pins σ H s) (hT : SqT X.K H l xs) (hne : xs ≠ []) (h0 : k ≤ 0) (h1 : -(2 ^ 63) ≤ k) (q : ∀ p (ob : Obj), ob.dict = none → H p = none → Q (.ref p) (upd H p (.frz ob (.tup [])))) :
    wpAny (model X.prog X.w) X.A (binaryOp .Mult (.ref l) (.int k t)) (EP X pins σ Q) X.xe s := by
  obtain ⟨its, r, ⟨⟨cls, dd, data, sl⟩, ho, hc, n, hd⟩, hs⟩ := I.tuple hT
  simp only at hc hd
  subst hc hd
  have hle : its.length = xs.length := r.length.symm
  have hn : its ≠ [] := fun e => hne (by
    rw [e] at hle
    exact List.eq_nil_of_length_eq_zero hle.symm)
  have hi : its.toArray.isEmpty = false := by
    cases its with
    | nil => exact absurd rfl hn
    | cons a b => rfl
  have c0 : (decide (k < -(2 ^ 63)) || decide (k ≥ 2 ^ 63)) = false := by
    rw [decide_eq_false (by omega), decide_eq_false (by omega)] <;> rfl
  have c1 : (its.toArray.isEmpty || k == 1) = false := by
    rw [hi, Bool.false_or]
    exact beq_eq_false_iff_ne.mpr (by omega)
  have c2 : (decide (k ≤ 0) || its.toArray.isEmpty) = true := by
    rw [hi, Bool.or_false]
    exact decide_eq_true (by omega)
  refine wpAny_binaryOp_repeat_ref (T := "tuple") (U := "int") (by decide) ⟨_, ho, rfl⟩ (fun s' => typeIs_int s' k t) noFill_tuple_mul F.fills_int_mul F.slot_int_rmul repeat_tuple F.slot_int_index.lookup
    (call_meets F.slot_int_rmul (typeIs_int s k t) F.entry_int_rmul (F.args_int_rmul_2 _ _) (int_rmul_tuple k t l its.toArray n dd sl)
      ⟨ho, rfl, ⟨_, ho, rfl⟩, call_meets F.slot_tuple_mul ⟨_, ho, rfl⟩ F.entry_tuple_mul (F.args_tuple_mul_2 _ _) (tuple_mul0 l its.toArray n dd sl k t c0 c1 c2) ⟨ho, ?_⟩⟩)
  obtain ⟨I2, hp⟩ := newT0 (tk := s.toks) I Paired.nil (Nat.zero_le _)
  exact ⟨.ref _, _, I2, rfl, q _ _ rfl hp⟩
theorem op_repN {pins : List (Addr × Obj)} {s : Shared} {σ : L2.St} {H : Hp} {l : Addr} {k : Int} {t : Tok} {xs : List V} {Q : VK} (I : Inv X pins σ H s) (hT : SqT X.K H l xs) (hne : xs ≠ []) (h1 : 2 ≤ k) (h2 : k ≤ 1000) (hz : xs.length ≤ 1000) (q : ∀ p (ob : Obj), ob.dict = none → H p = none → Q (.ref p) (upd H p (.frz ob (.tup (List.replicate k.toNat xs).flatten)))) :
    wpAny (model X.prog X.w) X.A (binaryOp .Mult (.ref l) (.int k t)) (EP X pins σ Q) X.xe s := by
  obtain ⟨its, r, ⟨⟨cls, dd, data, sl⟩, ho, hc, n, hd⟩, hs⟩ := I.tuple hT
  simp only at hc hd
  subst hc hd
  have hle : its.length = xs.length := r.length.symm
  have hi : its.toArray.isEmpty = false := by
    cases its with
    | nil =>
      cases r
      exact absurd rfl hne
    | cons a b => rfl
  have hs0 : its.toArray.size = xs.length := by rw [List.size_toArray, hle]
  have hm : ((its.toArray.size : Nat) : Int) * k ≤ 1000 * 1000 := by
    rw [hs0]
    have e1 : ((xs.length : Nat) : Int) * k ≤ 1000 * k := Int.mul_le_mul_of_nonneg_right (by omega) (by omega)
    omega
  have fl : (List.replicate k.toNat its).flatten.length ≤ sizeLine := by
    rw [PyProof.Rows.lm_len_rep_flat, hle, sizeLine_eq]
    have e1 : k.toNat * xs.length ≤ 1000 * 1000 := Nat.mul_le_mul (by omega) hz
    omega
  have c0 : (decide (k < -(2 ^ 63)) || decide (k ≥ 2 ^ 63)) = false := by
    rw [decide_eq_false (by omega), decide_eq_false (by omega)] <;> rfl
  have c1 : (its.toArray.isEmpty || k == 1) = false := by
    rw [hi, Bool.false_or]
    exact beq_eq_false_iff_ne.mpr (by omega)
  have c2 : (decide (k ≤ 0) || its.toArray.isEmpty) = false := by
    rw [hi, Bool.or_false]
    exact decide_eq_false (by omega)
  have c4 : Builtin.Tuple.tupleTooMany (((its.toArray.size : Nat) : Int) * k) = false := by
    unfold Builtin.Tuple.tupleTooMany
    rw [sizeLine_eq]
    exact decide_eq_false (by omega)
  refine wpAny_binaryOp_repeat_ref (T := "tuple") (U := "int") (by decide) ⟨_, ho, rfl⟩ (fun s' => typeIs_int s' k t) noFill_tuple_mul F.fills_int_mul F.slot_int_rmul repeat_tuple F.slot_int_index.lookup
    (call_meets F.slot_int_rmul (typeIs_int s k t) F.entry_int_rmul (F.args_int_rmul_2 _ _) (int_rmul_tuple k t l its.toArray n dd sl)
      ⟨ho, rfl, ⟨_, ho, rfl⟩, call_meets F.slot_tuple_mul ⟨_, ho, rfl⟩ F.entry_tuple_mul (F.args_tuple_mul_2 _ _) (tuple_mulW l its.toArray n dd sl k t c0 c1 c2 (by omega) c4 (by rw [size_rep, List.size_toArray]; exact fl)) ⟨ho, ?_⟩⟩)
  rw [size_rep]
  obtain ⟨I2, hp⟩ := newT0 (tk := s.toks) I (r.rep k.toNat) (by rw [PyProof.Rows.lm_len_rep_flat, sizeLine_eq]; have e1 : k.toNat * xs.length ≤ 1000 * 1000 := Nat.mul_le_mul (by omega) hz; omega)
  exact ⟨.ref _, _, I2, rfl, q _ _ rfl hp⟩
theorem Reps.rep {K : PySem.W.Frag} {mg : Str → Option Value} {H : Hp} {Mu : List Addr} {xs : List V} {ds : List D} (r : Reps K mg z Mu H xs ds) : ∀ n : Nat, Reps K mg z Mu H (List.replicate n xs).flatten (List.replicate n ds).flatten
  | 0 => .nil
  | n + 1 => by rw [List.replicate_succ, List.replicate_succ, List.flatten_cons, List.flatten_cons]; exact r.append (Reps.rep r n)
theorem op_dMul : DOp X z .new (binaryOp .Mult) dMul := by
  intro pins s σ H Mu g x y v u dx dy d Q I m G1 rx ry px py hd q
  cases dx <;> cases dy <;> simp only [dMul, reduceCtorEq, Option.some.injEq] at hd
  · split at hd
    · rename_i hz
      cases hd
      obtain rfl := px.int
      obtain rfl := py.int
      exact L2.op_mul pins s σ H _ _ v u Q I rx ry ⟨_, _, rfl, rfl, hz, q _ H Same.refl RK.int⟩
    · cases hd
  · rename_i ds k
    split at hd
    · rename_i hz
      cases hd
      obtain ⟨a, xs, rfl, nx, hx, rx'⟩ := px.tup
      obtain rfl := py.int
      have hne : xs ≠ [] := fun e => by
        subst e
        cases rx'
        exact hz.2.2.2 rfl
      by_cases h1 : k = 1
      · subst h1
        cases rx
        obtain ⟨t, rfl⟩ := ry
        refine op_rep1 I (hx.sq) ?_
        have e : (List.replicate (Int.toNat 1) ds).flatten = ds := by simp
        rw [e] at q
        exact q _ H Same.refl (RK.tup_same nx hx rx')
      · by_cases h0 : k ≤ 0
        · cases rx
          obtain ⟨t, rfl⟩ := ry
          refine op_rep0 I hx.sq hne h0 hz.1 fun p ob hd hp => ?_
          have e : k.toNat = 0 := by omega
          rw [e] at q
          exact q _ _ (same_upd' hp) (RK.tup m G1 hp .nil hd)
        · cases rx
          obtain ⟨t, rfl⟩ := ry
          exact op_repN I hx.sq hne (by omega) hz.2.1 (by rw [rx'.length]; exact hz.2.2.1) fun p ob hd hp => q _ _ (same_upd' hp) (RK.tup m G1 hp (rx'.rep _) hd)
    · cases hd
  · split at hd
    · rename_i hz
      cases hd
      obtain ⟨a, xs, rfl, hx, rx'⟩ := px.lst
      obtain rfl := py.int
      exact L2.op_rep pins s σ H _ _ v u Q I rx ry ⟨a, _, xs, rfl, rfl, hx, hz.1, hz.2.1, by rw [rx'.length]; exact hz.2.2, fun p hp => q _ _ (same_upd' hp) (RK.lst m G1 hp (rx'.rep _))⟩
    · cases hd
theorem op_dSub : DOp X z .new (binaryOp .Sub) dSub := by
  intro pins s σ H Mu g x y v u dx dy d Q I m G1 rx ry px py hd q
  cases dx <;> cases dy <;> simp only [dSub, reduceCtorEq, Option.some.injEq] at hd
  subst hd
  obtain rfl := px.int
  obtain rfl := py.int
  exact L2.op_sub pins s σ H _ _ v u Q I rx ry ⟨_, _, rfl, rfl, q _ H Same.refl RK.int⟩
theorem op_dFdiv : DOp X z .new (binaryOp .FloorDiv) dFdiv := by
  intro pins s σ H Mu g x y v u dx dy d Q I m G1 rx ry px py hd q
  cases dx <;> cases dy <;> simp only [dFdiv, reduceCtorEq, Option.some.injEq] at hd
  split at hd
  · rename_i hz
    cases hd
    obtain rfl := px.int
    obtain rfl := py.int
    exact L2.op_fdivW pins s σ H _ _ v u Q I rx ry ⟨_, _, rfl, rfl, hz, q _ H Same.refl RK.int⟩
  · cases hd
theorem op_dMod : DOp X z .new (binaryOp .Mod) dMod := by
  intro pins s σ H Mu g x y v u dx dy d Q I m G1 rx ry px py hd q
  cases dx <;> cases dy <;> simp only [dMod, reduceCtorEq, Option.some.injEq] at hd
  split at hd
  · rename_i hz
    cases hd
    obtain rfl := px.int
    obtain rfl := py.int
    exact L2.op_mod pins s σ H _ _ v u Q I rx ry ⟨_, _, rfl, rfl, hz, q _ H Same.refl RK.int⟩
  · cases hd
theorem op_dPow : DOp X z .new (binaryOp .Pow) dPow := by
  intro pins s σ H Mu g x y v u dx dy d Q I m G1 rx ry px py hd q
  cases dx <;> cases dy <;> simp only [dPow, reduceCtorEq, Option.some.injEq] at hd
  split at hd
  · rename_i hz
    cases hd
    obtain rfl := px.int
    obtain rfl := py.int
    exact L2.op_pow pins s σ H _ _ v u Q I rx ry ⟨_, _, rfl, rfl, hz, q _ H Same.refl RK.int⟩
  · cases hd
theorem op_dLt : DOp X z .new (compareOp .Lt) dLt := by
  intro pins s σ H Mu g x y v u dx dy d Q I m G1 rx ry px py hd q
  cases dx <;> cases dy <;> simp only [dLt, reduceCtorEq, Option.some.injEq] at hd
  subst hd
  obtain rfl := px.int
  obtain rfl := py.int
  exact L2.op_lt pins s σ H _ _ v u Q I rx ry ⟨_, _, rfl, rfl, q _ H Same.refl RK.bl⟩
theorem op_dLe : DOp X z .new (compareOp .LtE) dLe := by
  intro pins s σ H Mu g x y v u dx dy d Q I m G1 rx ry px py hd q
  cases dx <;> cases dy <;> simp only [dLe, reduceCtorEq, Option.some.injEq] at hd
  subst hd
  obtain rfl := px.int
  obtain rfl := py.int
  exact L2.op_le pins s σ H _ _ v u Q I rx ry ⟨_, _, rfl, rfl, q _ H Same.refl RK.bl⟩
theorem op_dGt : DOp X z .new (compareOp .Gt) dGt := by
  intro pins s σ H Mu g x y v u dx dy d Q I m G1 rx ry px py hd q
  cases dx <;> cases dy <;> simp only [dGt, reduceCtorEq, Option.some.injEq] at hd
  subst hd
  obtain rfl := px.int
  obtain rfl := py.int
  exact L2.op_gt pins s σ H _ _ v u Q I rx ry ⟨_, _, rfl, rfl, q _ H Same.refl RK.bl⟩
theorem op_dGe : DOp X z .new (compareOp .GtE) dGe := by
  intro pins s σ H Mu g x y v u dx dy d Q I m G1 rx ry px py hd q
  cases dx <;> cases dy <;> simp only [dGe, reduceCtorEq, Option.some.injEq] at hd
  subst hd
  obtain rfl := px.int
  obtain rfl := py.int
  exact L2.op_ge pins s σ H _ _ v u Q I rx ry ⟨_, _, rfl, rfl, q _ H Same.refl RK.bl⟩
end
end DL
end
section
set_option Elab.async false
set_option linter.all false
set_option maxRecDepth 100000
set_option maxHeartbeats 2000000
/-! The value layer, dicts: keys ints, or tuples of ints; what is read of them. -/
namespace DL
open PySem PySem.Spec PyProof.Rows L2

def intsOf : List D → Option (List Int)
  | [] => some []
  | .int i :: l => (intsOf l).map (i :: ·)
  | _ => none
theorem intsOf_eq : ∀ {l : List D} {ns : List Int}, intsOf l = some ns → l = ns.map D.int
  | [], ns, h => by cases h; rfl
  | .int i :: l, ns, h => by
    obtain ⟨ms, h1, rfl⟩ := Option.map_eq_some_iff.mp h
    rw [intsOf_eq h1]; rfl
  | .non :: _, _, h => by cases h
  | .bl _ :: _, _, h => by cases h
  | .str _ :: _, _, h => by cases h
  | .tup _ :: _, _, h => by cases h
  | .lst _ :: _, _, h => by cases h
  | .dct _ :: _, _, h => by cases h
  | .set _ :: _, _, h => by cases h
  | .st :: _, _, h => by cases h
  | .scr _ :: _, _, h => by cases h
  | .ty _ :: _, _, h => by cases h
  | .fn _ :: _, _, h => by cases h
  | .lam _ :: _, _, h => by cases h
  | .exc _ _ _ :: _, _, h => by cases h
theorem intsOf_map (ns : List Int) : intsOf (ns.map D.int) = some ns := by
  induction ns with
  | nil => rfl
  | cons n ns ih => rw [List.map_cons, intsOf, ih]; rfl
/-- tuples of ints -/
def tint : List Int → D := fun is => .tup (is.map D.int)
def tupsOf : List D → Option (List (List Int))
  | [] => some []
  | .tup q :: l => match intsOf q, tupsOf l with
    | some is, some r => some (is :: r)
    | _, _ => none
  | _ => none
theorem tupsOf_eq : ∀ {l : List D} {ns : List (List Int)}, tupsOf l = some ns → l = ns.map tint
  | [], ns, h => by cases h; rfl
  | .tup q :: l, ns, h => by
    unfold tupsOf at h
    split at h
    · rename_i is r h1 h2
      cases h
      rw [intsOf_eq h1, tupsOf_eq h2]
      rfl
    · cases h
  | .int _ :: _, _, h => by cases h
  | .non :: _, _, h => by cases h
  | .bl _ :: _, _, h => by cases h
  | .str _ :: _, _, h => by cases h
  | .lst _ :: _, _, h => by cases h
  | .dct _ :: _, _, h => by cases h
  | .set _ :: _, _, h => by cases h
  | .st :: _, _, h => by cases h
  | .scr _ :: _, _, h => by cases h
  | .ty _ :: _, _, h => by cases h
  | .fn _ :: _, _, h => by cases h
  | .lam _ :: _, _, h => by cases h
  | .exc _ _ _ :: _, _, h => by cases h
/-- keys alike -/
def keq : D → D → Bool
  | .int i, .int j => decide (i = j)
  | .tup a, .tup b => match intsOf a, intsOf b with
    | some x, some y => decide (x = y)
    | _, _ => false
  | _, _ => false
theorem keq_tint (a b : List Int) : keq (tint a) (tint b) = decide (a = b) := by
  show (match intsOf (a.map D.int), intsOf (b.map D.int) with | some x, some y => decide (x = y) | _, _ => false) = _
  rw [intsOf_map, intsOf_map]
def look (l : List (D × D)) (k : D) : Option D := (l.find? fun p => keq p.1 k).map (·.2)
/-- the keys and k are ints; are tuples of ints -/
def kOk (l : List (D × D)) : D → Bool
  | .int _ => (intsOf (l.map (·.1))).isSome
  | .tup q => (intsOf q).isSome && (tupsOf (l.map (·.1))).isSome
  | _ => false
theorem Reps.ints_eq {K : PySem.W.Frag} {mg : Str → Option Value} {z : Zt} {Mu : List Addr} {H : Hp} : ∀ {xs : List V} {ns : List Int}, Reps K mg z Mu H xs (ns.map D.int) → xs = ns.map V.int
  | [], [], _ => rfl
  | _, n :: ns, r => by
    rw [List.map_cons] at r
    cases r with
    | cons h t => cases h; rw [Reps.ints_eq t]; rfl
theorem PR.dct {K : PySem.W.Frag} {mg : Str → Option Value} {z : Zt} {Mu : List Addr} {H : Hp} {v : V} {l : List (D × D)} (r : PR K mg z Mu H v (.dct l)) :
    ∃ a o es ep ks vs, v = .ref a ∧ H a = some (ObV a o) ∧ (a == sysModules) = false ∧ o.ExactDict ∧ o.data = .dict es ep ∧ es.size ≤ sizeLine ∧ EnK ks vs es ∧ Reps K mg z Mu H ks (l.map (·.1)) ∧ Reps K mg z Mu H vs (l.map (·.2)) ∧ KyOk es (l.map (·.1)) := by
  rcases r with r | ⟨a, rfl, _, _, _, _, c⟩
  · cases r with | dct _ h h1 h2 h3 h4 h5 r1 r2 ky => exact ⟨_, _, _, _, _, _, rfl, h, h1, h2, h3, h4, h5, r1, r2, ky⟩
  · cases c with | dct h h1 h2 h3 h4 h5 r1 r2 ky => exact ⟨_, _, _, _, _, _, rfl, h, h1, h2, h3, h4, h5, r1, r2, ky⟩
theorem EnK.size {K : PySem.W.Frag} {mg : Str → Option Value} {z : Zt} {Mu : List Addr} {H : Hp} {ks vs : List V} {es : Array DictEntry} {l : List D} (h : EnK ks vs es) (r : Reps K mg z Mu H ks l) : es.size = l.length := by
  have e : ks.length = (es.toList.map (·.key)).length := Vals.length h.1
  rw [List.length_map, r.length] at e
  rw [← Array.length_toList]
  exact e.symm
/-! ### the kit's words for the entries -/
section
variable {P : Program} {w : World}
abbrev kI (ns : List Int) : List Key := ns.map Sum.inl
abbrev kT (ns : List (List Int)) : List (List Key) := ns.map kI
theorem pairs_of : ∀ {E : List DictEntry} {ns : List Int} {vs : List V}, Vals (ns.map V.int) (E.map (·.key)) → Vals vs (E.map (·.val)) →
    Pairs (mixKind P w) E ((kI ns).zip (E.map (·.val))) ∧ KV ((kI ns).zip vs) ((kI ns).zip (E.map (·.val)))
  | [], [], _, .nil, .nil => ⟨.nil, .nil⟩
  | e :: E, n :: ns, _, .cons h t, .cons h2 t2 => by
    obtain ⟨p1, p2⟩ := pairs_of t t2
    obtain ⟨tk, hk⟩ := (show ∃ t, e.key = Value.int n t from h)
    refine ⟨.cons (by rw [hk]; exact mixKind_int P w n tk) rfl p1, .cons ⟨rfl, h2⟩ p2⟩
theorem zip_fst {α β : Type} : ∀ {a : List α} {b : List β}, a.length = b.length → (a.zip b).map (·.1) = a
  | [], [], _ => rfl
  | x :: a, y :: b, h => by
    rw [List.zip_cons_cons, List.map_cons, zip_fst (by simpa using h)]
theorem vals_len {xs : List V} {us : List Value} (h : Vals xs us) : xs.length = us.length := Vals.length h
theorem nodup_of_map {α β : Type} (f : α → β) : ∀ {l : List α}, (l.map f).Nodup → l.Nodup
  | [], _ => .nil
  | a :: l, h => by
    rw [List.map_cons, List.nodup_cons] at h
    rw [List.nodup_cons]
    exact ⟨fun m => h.1 (List.mem_map.mpr ⟨a, m, rfl⟩), nodup_of_map f h.2⟩
theorem nodup_map_of {α β : Type} {f : α → β} (inj : ∀ a b, f a = f b → a = b) : ∀ {l : List α}, l.Nodup → (l.map f).Nodup
  | [], _ => .nil
  | a :: l, h => by
    rw [List.nodup_cons] at h
    rw [List.map_cons, List.nodup_cons]
    exact ⟨fun m => by
      obtain ⟨b, hb, e⟩ := List.mem_map.mp m
      exact h.1 (inj _ _ e ▸ hb), nodup_map_of inj h.2⟩
theorem kI_inj {a b : List Int} (h : kI a = kI b) : a = b := by
  have : ∀ {a b : List Int}, kI a = kI b → a = b := by
    intro a
    induction a with
    | nil => intro b h; cases b with | nil => rfl | cons => cases h
    | cons x a ih =>
      intro b h
      cases b with
      | nil => cases h
      | cons y b =>
        obtain ⟨h1, h2⟩ := List.cons.inj h
        rw [Sum.inl.inj h1, ih h2]
  exact this h
end
section
variable {X : Cx} {z : Zt} {pins : List (Addr × Obj)} {σ : L2.St} {H : Hp} {s : Shared} {Mu : List Addr}
/-- the keys are ints -/
theorem raw_dk {a : Addr} {o : Obj} {es : Array DictEntry} {ep : Nat} {vs : List V} {ns : List Int} (ho : s.heap.get? a = some o) (hex : o.ExactDict) (hd : o.data = .dict es ep) (e1 : Vals (ns.map V.int) (es.toList.map (·.key))) (e2 : Vals vs (es.toList.map (·.val))) (ky : KyOk es (ns.map D.int)) :
    s.heap.DictOf (mixKind X.prog X.w) a ((kI ns).zip (es.toList.map (·.val))) ∧ KV ((kI ns).zip vs) ((kI ns).zip (es.toList.map (·.val))) := by
  obtain ⟨p1, p2⟩ := pairs_of (P := X.prog) (w := X.w) e1 e2
  have ln : ns.length = es.toList.length := by
    have := vals_len e1
    rwa [List.length_map, List.length_map] at this
  refine ⟨⟨o, es, ep, ho, hex, hd, fun e he => ?_, p1, ?_⟩, p2⟩
  · obtain ⟨i, hi⟩ := Array.mem_iff_getElem?.mp he
    have hi' : es.toList[i]? = some e := by rw [Array.getElem?_toList]; exact hi
    obtain ⟨hlt, _⟩ := List.getElem?_eq_some_iff.mp hi'
    have hn : ns[i]? = some ns[i] := List.getElem?_eq_getElem (by omega)
    generalize ns[i] = n at hn
    have hk : ∃ t, e.key = Value.int n t := by
      have key : ∀ {xs : List V} {us : List Value} {i : Nat} {x : V} {u : Value}, Vals xs us → xs[i]? = some x → us[i]? = some u → RelV x u := by
        intro xs us i x u h
        induction h generalizing i with
        | nil => intro h; simp at h
        | cons h t ih =>
          intro h1 h2
          cases i with
          | zero => simp at h1 h2; rw [← h1, ← h2]; exact h
          | succ i => exact ih (by simpa using h1) (by simpa using h2)
      exact key (i := i) (x := V.int n) (u := e.key) e1 (by rw [List.getElem?_map, hn]; rfl) (by rw [List.getElem?_map, hi']; rfl)
    obtain ⟨t, hk⟩ := hk
    refine ⟨.inl n, by rw [hk]; exact mixKind_int _ _ n t, ?_⟩
    have := ky.1 i e (.int n) hi (by rw [List.getElem?_map, hn]; rfl)
    exact this X.w
  · rw [zip_fst (by rw [List.length_map, List.length_map]; exact ln)]
    exact nodup_map_of (fun a b h => Sum.inl.inj h) (nodup_of_map _ ky.2)
/-- keys that are tuples of ints and texts, their values -/
abbrev KQ (H : Hp) : List (List Key × V) → List (List Key × Addr × Value) → Prop := Paired fun p q => p.1 = q.1 ∧ TP H q.2.1 (p.1.map kV) ∧ RelV p.2 q.2.2
theorem KQ.val {H : Hp} {k : List Key} : ∀ {l : List (List Key × V)} {m : List (List Key × Addr × Value)}, KQ H l m → RelO (valV l k) ((atKey m k).map (·.2))
  | _, _, .nil => trivial
  | p :: l, q :: m, .cons ⟨e, _, rv⟩ t => by
    have ih := KQ.val (k := k) t
    by_cases w : p.1 = k
    · have b : atKey (q :: m) k = some q.2 := by unfold atKey; rw [List.find?_cons, ← e, decide_eq_true w]; rfl
      rw [valV_pos w, b]
      exact rv
    · have b : atKey (q :: m) k = atKey m k := by unfold atKey; rw [List.find?_cons, ← e, decide_eq_false w]
      rw [valV_neg w, b]
      exact ih
theorem KQ.repl {H : Hp} {k : List Key} {y : V} {u : Value} (ry : RelV y u) : ∀ {l : List (List Key × V)} {m : List (List Key × Addr × Value)}, KQ H l m → KQ H (l.map fun kv => if kv.1 = k then (kv.1, y) else kv) (m.map (putAt k u))
  | _, _, .nil => .nil
  | p :: _, q :: _, .cons ⟨e, h, rv⟩ t => by
    refine .cons ?_ (KQ.repl ry t)
    unfold putAt
    dsimp only
    by_cases w : p.1 = k
    · rw [if_pos w, if_pos (e.symm.trans w)]
      exact ⟨e, h, ry⟩
    · rw [if_neg w, if_neg (fun z => w (e.trans z))]
      exact ⟨e, h, rv⟩
theorem KQ.put {H : Hp} {l : List (List Key × V)} {m : List (List Key × Addr × Value)} (r : KQ H l m) (k : List Key) {b : Addr} {y : V} {u : Value} (hb : TP H b (k.map kV)) (ry : RelV y u) : KQ H (putK l k y) (storedH m k b u) := by
  have e : (l.any fun kv => decide (kv.1 = k)) = (atKey m k).isSome := by
    rw [valV_any, (r.val (k := k)).isSome_eq, Option.isSome_map]
  unfold putK storedH
  rw [e]
  split
  · exact r.repl ry
  · exact Paired.snoc r ⟨rfl, hb, ry⟩
theorem keyq_of {P : Program} {w : World} {H : Hp} {h : Heap} {a : Addr} {ks : List Key} (ok : HOk P w H h) (e : TP H a (ks.map kV)) : (tupleKind (mixKind P w)).is h ks a := by
  obtain ⟨_, its, r, o, h1, h2, n, h3⟩ := e.rd.ok ok
  exact ⟨o, its.toArray, n, h1, h2, h3, by simpa using items_are r⟩
/-- the keys are tuples of ints -/
theorem tups_at {K : PySem.W.Frag} {mg : Str → Option Value} : ∀ {ns : List (List Int)} {ks : List V}, Reps K mg z Mu H ks (ns.map tint) → ∃ bs : List Addr, ks = bs.map V.ref ∧ Paired (fun b is => TP H b ((kI is).map kV)) bs ns
  | [], _, .nil => ⟨[], rfl, .nil⟩
  | n :: ns, _, .cons h t => by
    obtain ⟨bs, rfl, p⟩ := tups_at t
    cases h with
    | @tup b xs _ hn hb rs =>
      refine ⟨b :: bs, rfl, .cons ?_ p⟩
      rw [Reps.ints_eq rs] at hb
      show TP H b ((n.map Sum.inl).map kV)
      rw [List.map_map]
      exact hb
theorem entries_at : ∀ {E : List DictEntry} {ns : List (List Int)} {bs : List Addr}, Vals (bs.map V.ref) (E.map (·.key)) → bs.length = ns.length → (∀ (i : Nat) (e : DictEntry) (is : List Int), E[i]? = some e → ns[i]? = some is → e.hash = (tupleKind (mixKind X.prog X.w)).hash (kI is)) →
    E = ((kT ns).zip (bs.zip (E.map (·.val)))).map (entryOfKey (tupleKind (mixKind X.prog X.w)))
  | [], [], [], _, _, _ => rfl
  | [], _ :: _, [], _, h, _ => by simp at h
  | _ :: _, [], _ :: _, _, h, _ => by simp at h
  | e :: E, n :: ns, b :: bs, .cons h t, hl, hh => by
    have ih := entries_at (E := E) (ns := ns) (bs := bs) t (by simpa using hl) fun i e is h1 h2 => hh (i + 1) e is (by simpa using h1) (by simpa using h2)
    have h0 := hh 0 e n rfl rfl
    have hk : e.key = Value.ref b := h
    show e :: E = entryOfKey _ (kI n, b, e.val) :: ((kT ns).zip (bs.zip (E.map (·.val)))).map _
    rw [← ih]
    congr 1
    cases e
    unfold entryOfKey
    dsimp only at h0 hk ⊢
    rw [h0, hk]
theorem kt_of : ∀ {E : List Value} {ns : List (List Int)} {bs : List Addr} {vs : List V}, Paired (fun b is => TP H b ((kI is).map kV)) bs ns → Vals vs E → vs.length = ns.length → KQ H ((kT ns).zip vs) ((kT ns).zip (bs.zip E))
  | _, [], [], _, .nil, .nil, _ => .nil
  | _, [], [], _, .nil, .cons _ _, h => by simp at h
  | _, n :: ns, b :: bs, _, .cons h t, .cons r q, hl => .cons ⟨rfl, h, r⟩ (kt_of t q (by simpa using hl))
  | _, n :: ns, b :: bs, _, .cons h t, .nil, hl => by simp at hl
theorem paired_len {α β : Type} {F : α → β → Prop} {a : List α} {b : List β} (p : Paired F a b) : a.length = b.length := Paired.length p
theorem raw_dt (ok : HOk X.prog X.w H s.heap) {a : Addr} {o : Obj} {es : Array DictEntry} {ep : Nat} {ks vs : List V} {ns : List (List Int)} (ho : s.heap.get? a = some o) (hex : o.ExactDict) (hd : o.data = .dict es ep) (en : EnK ks vs es) (rk : Reps X.K X.mg z Mu H ks (ns.map tint)) (ky : KyOk es (ns.map tint)) :
    ∃ bs : List Addr, ks = bs.map V.ref ∧ s.heap.DictOfH (tupleKind (mixKind X.prog X.w)) a ((kT ns).zip (bs.zip (es.toList.map (·.val)))) ∧ KQ H ((kT ns).zip vs) ((kT ns).zip (bs.zip (es.toList.map (·.val)))) := by
  obtain ⟨bs, rfl, pr⟩ := tups_at rk
  have l1 : bs.length = ns.length := paired_len pr
  have l2 : bs.length = es.toList.length := by
    have := vals_len en.1
    rwa [List.length_map, List.length_map] at this
  have l3 : vs.length = es.toList.length := by
    have := vals_len en.2
    rwa [List.length_map] at this
  have kt := kt_of pr en.2 (by omega)
  refine ⟨bs, rfl, ⟨o, es, ep, ho, hex, hd, entries_at en.1 l1 fun i e is h1 h2 => ?_, ?_, ?_⟩, kt⟩
  · have := ky.1 i e (tint is) (by rw [Array.getElem?_toList] at h1; exact h1) (by rw [List.getElem?_map, h2]; rfl)
    exact this is rfl X.prog X.w
  · intro x hx
    have : ∀ {xs : List (List Key × Addr × Value)} {kvs : List (List Key × V)}, KQ H kvs xs → ∀ x ∈ xs, (tupleKind (mixKind X.prog X.w)).is s.heap x.1 x.2.1 := by
      intro xs kvs k
      induction k with
      | nil => intro x h; cases h
      | cons h t ih =>
        intro x hx
        rcases List.mem_cons.mp hx with rfl | hx
        · exact keyq_of ok (by rw [← h.1]; exact h.2.1)
        · exact ih x hx
    exact this kt x hx
  · rw [zip_fst (by rw [List.length_map, List.length_zip, List.length_map]; omega)]
    exact nodup_map_of (fun a b h => kI_inj h) (nodup_of_map _ ky.2)
/-- what is found in the one list is found in the other -/
theorem look_rel {κ : Type} [DecidableEq κ] {K : PySem.W.Frag} {mg : Str → Option Value} {k : D} {c : κ} : ∀ {l : List (D × D)} {kk : List κ} {vs : List V}, Paired (fun p y => keq p.1 k = decide (y = c)) l kk → Reps K mg z Mu H vs (l.map (·.2)) →
    match look l k with
    | some d => ∃ v, valV (kk.zip vs) c = some v ∧ Rep K mg z Mu H v d
    | none => valV (kk.zip vs) c = none
  | [], [], _, .nil, .nil => rfl
  | p :: l, y :: kk, _, .cons h t, .cons r rs => by
    have ih := look_rel t rs
    rename_i v vs
    unfold look
    rw [List.find?_cons, h]
    by_cases e : y = c
    · rw [decide_eq_true e]
      exact ⟨v, by rw [List.zip_cons_cons]; exact valV_pos e, r⟩
    · rw [decide_eq_false e]
      have q : valV ((y :: kk).zip (v :: vs)) c = valV (kk.zip vs) c := by rw [List.zip_cons_cons]; exact valV_neg e
      rw [q]
      exact ih
theorem keys_int {l : List (D × D)} {ns : List Int} {i : Int} (h : l.map (·.1) = ns.map D.int) : Paired (fun (p : D × D) (y : Key) => keq p.1 (.int i) = decide (y = .inl i)) l (kI ns) := by
  induction l generalizing ns with
  | nil => cases ns with | nil => exact .nil | cons => cases h
  | cons p l ih =>
    cases ns with
    | nil => cases h
    | cons n ns =>
      obtain ⟨h1, h2⟩ := List.cons.inj h
      refine .cons ?_ (ih h2)
      rw [show p.1 = D.int n from h1]
      show decide (n = i) = _
      exact decide_eq_decide.mpr ⟨fun e => by rw [e], fun e => Sum.inl.inj e⟩
theorem keys_tup {l : List (D × D)} {ns : List (List Int)} {is : List Int} (h : l.map (·.1) = ns.map tint) : Paired (fun (p : D × D) (y : List Key) => keq p.1 (tint is) = decide (y = kI is)) l (kT ns) := by
  induction l generalizing ns with
  | nil => cases ns with | nil => exact .nil | cons => cases h
  | cons p l ih =>
    cases ns with
    | nil => cases h
    | cons n ns =>
      obtain ⟨h1, h2⟩ := List.cons.inj h
      refine .cons ?_ (ih h2)
      rw [show p.1 = tint n from h1, keq_tint]
      exact decide_eq_decide.mpr ⟨fun e => by rw [e], fun e => kI_inj e⟩
/-- what the object of a dict says: for an int, for a tuple of ints -/
theorem dct_key {x y : V} {v u : Value} {l : List (D × D)} {k : D} (I : Inv X pins σ H s) (px : PR X.K X.mg z Mu H x (.dct l)) (py : PR X.K X.mg z Mu H y k) (rx : RelV x v) (ry : RelV y u) (hk : kOk l k = true) :
    ∃ a, v = .ref a ∧ (a == sysModules) = false ∧ s.TypeIs (.ref a) "dict" ∧ (∃ ob, s.heap.get? a = some ob ∧ ob.dict = none) ∧
      ((∃ (f : Key → Option Value) (c : Key), (mixKind X.prog X.w).is c u = true ∧ s.heap.MapOf (mixKind X.prog X.w) a f ∧ match look l k with
          | some d => ∃ w v', f c = some w ∧ RelV v' w ∧ Rep X.K X.mg z Mu H v' d
          | none => f c = none) ∨
       (∃ (xs : List (List Key × Addr × Value)) (c : List Key) (b : Addr), u = .ref b ∧ (tupleKind (mixKind X.prog X.w)).is s.heap c b ∧ s.heap.DictOfH (tupleKind (mixKind X.prog X.w)) a xs ∧ match look l k with
          | some d => ∃ p v', atKey xs c = some p ∧ RelV v' p.2 ∧ Rep X.K X.mg z Mu H v' d
          | none => atKey xs c = none)) := by
  obtain ⟨a, o, es, ep, ks, vs, rfl, ho, hsys, hex, hdt, hz, en, r1, r2, ky⟩ := px.dct
  cases rx
  have hg : s.heap.get? a = some o := (I.hok a _ ho).1
  refine ⟨a, rfl, hsys, ⟨o, hg, hex.1⟩, ⟨o, hg, hex.2.1⟩, ?_⟩
  cases k <;> first | cases hk | skip
  · rename_i i
    obtain ⟨ns, hn⟩ := Option.isSome_iff_exists.mp (show (intsOf (l.map (·.1))).isSome = true from hk)
    have e := intsOf_eq hn
    rw [e] at r1 ky
    have e1 := Reps.ints_eq r1
    subst e1
    obtain ⟨dd, kv⟩ := raw_dk (X := X) (s := s) hg hex hdt en.1 en.2 ky
    have q := look_rel (k := .int i) (c := (.inl i : Key)) (keys_int e) r2
    obtain rfl := py.int
    refine .inl ⟨_, .inl i, kV_is (k := .inl i) ry, dd.mapOf, ?_⟩
    have rel := kv.val (.inl i : Key)
    cases hl : look l (.int i) with
    | none =>
      rw [hl] at q
      exact RelO.none_of (by rw [← (show valV _ _ = none from q)]; exact rel)
    | some d =>
      rw [hl] at q
      obtain ⟨v', hv, rp⟩ := (show ∃ v', valV ((kI ns).zip vs) (Sum.inl i) = some v' ∧ Rep X.K X.mg z Mu H v' d from q)
      obtain ⟨w', hw, rw'⟩ := RelO.some_of (v := v') (by rw [← hv]; exact rel)
      exact ⟨w', v', hw, rw', rp⟩
  · rename_i kq
    obtain ⟨h1, h2⟩ := (Bool.and_eq_true _ _).mp (show ((intsOf kq).isSome && (tupsOf (l.map (·.1))).isSome) = true from hk)
    obtain ⟨is, his⟩ := Option.isSome_iff_exists.mp h1
    obtain ⟨ns, hn⟩ := Option.isSome_iff_exists.mp h2
    have e := tupsOf_eq hn
    have ek := intsOf_eq his
    subst ek
    rw [e] at r1 ky
    obtain ⟨bs, rfl, dd, kt⟩ := raw_dt (s := s) I.hok hg hex hdt en r1 ky
    have q := look_rel (k := tint is) (c := kI is) (keys_tup e) r2
    obtain ⟨b, xs, rfl, _, hb, rb⟩ := py.tup
    cases ry
    have hb' : TP H b ((kI is).map kV) := by
      rw [Reps.ints_eq rb] at hb
      rw [List.map_map]
      exact hb
    refine .inr ⟨_, kI is, b, rfl, keyq_of I.hok hb', dd, ?_⟩
    have rel := kt.val (k := kI is)
    cases hl : look l (.tup (is.map D.int)) with
    | none =>
      rw [show look l (tint is) = none from hl] at q
      have := RelO.none_of (by rw [← (show valV _ _ = none from q)]; exact rel)
      cases hq : atKey ((kT ns).zip (bs.zip (es.toList.map (·.val)))) (kI is) with
      | none => rfl
      | some p => rw [hq] at this; cases this
    | some d =>
      rw [show look l (tint is) = some d from hl] at q
      obtain ⟨v', hv, rp⟩ := (show ∃ v', valV ((kT ns).zip vs) (kI is) = some v' ∧ Rep X.K X.mg z Mu H v' d from q)
      obtain ⟨w', hw, rw'⟩ := RelO.some_of (v := v') (by rw [← hv]; exact rel)
      obtain ⟨p, hp, hp2⟩ := Option.map_eq_some_iff.mp hw
      exact ⟨p, v', hp, by rw [hp2]; exact rw', rp⟩
/-- d[k], there -/
theorem dct_get {x y : V} {v u : Value} {l : List (D × D)} {k d : D} {A : Around} {E : Value → Shared → Prop} {Q : Value → Shared → Prop} (hu : A.units + 1 < cLine) (I : Inv X pins σ H s) (px : PR X.K X.mg z Mu H x (.dct l)) (py : PR X.K X.mg z Mu H y k) (rx : RelV x v) (ry : RelV y u) (hk : kOk l k = true) (hl : look l k = some d)
    (h : ∀ v' w' s', Inv X pins σ H s' → RelV v' w' → Rep X.K X.mg z Mu H v' d → Q w' s') : wpAny (model X.prog X.w) A (getItem v u) Q E s := by
  obtain ⟨a, rfl, hsys, _, _, g⟩ := dct_key I px py rx ry hk
  rw [hl] at g
  rcases g with ⟨f, c, h1, h2, w', v', h3, h4, h5⟩ | ⟨xs, c, b, rfl, h1, h2, p, v', h3, h4, h5⟩
  · exact wpAny_getItem_of h1 h2 h3 (h v' w' _ (I.tok _) h4 h5)
  · exact wpAny_getItem_heap (tupleKind_room_in1 hu) h1 h2 h3 (h v' p.2 _ (I.tok _) h4 h5)
end
end DL
end
section
set_option Elab.async false
set_option linter.all false
set_option maxRecDepth 100000
set_option maxHeartbeats 2000000
/-! The value layer, part 4: argument lists, displays, subscripts, slices, == and in. -/
namespace DL
open PySem PySem.Spec PyProof.Rows L2

/-- what holds of every context that we walk in -/
structure XG (X : Cx) : Prop where
  calm : X.calm = true
  room : Room 0 X.A
  nd : X.N.Nodup
theorem XG.eq {X : Cx} (h : XG X) : X.A.units + 64 < cLine := h.room.units

def sNil : Es := fun _ => M.pure []
def sCons (f : Ep) (h : Es) : Es := fun ρ => do let x ← f ρ; let xs ← h ρ; M.pure (x :: xs)
section
variable {X : Cx} {z : Zt} {W : WX} {k ka kb : Kd} {e a b : Expr} {es : List Expr} {f fa fb : Ep} {h : Es} {pos : Pos}
theorem da_nil : DA X z W [] sNil := by
  refine ⟨fun pos pins s σ H Q I ⟨ρ, g, Mu, E, G1, hx⟩ => ?_⟩
  exact Calls.spliced_nil ⟨[], H, I, .nil, hx [] H Ext.refl G1 .nil⟩
theorem das_nil : DAs X z W [] sNil := by
  refine ⟨fun pos pins s σ H Q I ⟨ρ, g, Mu, E, G1, hx⟩ => ?_⟩
  exact Calls.spliced_nil ⟨[], H, I, .nil, hx [] H Ext.refl G1 .nil⟩
theorem RKs.ext {K : PySem.W.Frag} {mg : Str → Option Value} {H H' : Hp} {Mu : List Addr} {g : G} (m : MuOk z Mu H) (G1 : GOk z H g) (e : Ext z H H') : ∀ {vs : List V} {ds : List D}, RKs K mg z Mu H vs ds → RKs K mg z Mu H' vs ds
  | _, _, .nil => .nil
  | _, _, .cons r t => .cons (r.ext m G1 e) (RKs.ext m G1 e t)
theorem da_cons (ha : DE X z W k a f) (hr : DA X z W es h) (hs : starEach (a :: es) X.env = (false, eval a X.env) :: starEach es X.env := by rfl) : DA X z W (a :: es) (sCons f h) := by
  refine ⟨fun pos pins s σ H Q I ⟨ρ, g, Mu, E, G1, hx⟩ => ?_⟩
  rw [hs]
  show wpAny _ _ (spliced ((false, eval a X.env) :: backTo pos (starEach es X.env))) _ _ s
  refine Calls.spliced_cons (de_run ha I E G1 (R.all_imp (R.all_bind hx) (fun d g1 hx v u H1 s1 I1 r1 e1 G2 E1 k1 => ?_) fun _ _ _ _ h => h))
  refine da_run hr I1 E1 G2 (R.all_imp (Raising.all (R.all_bind hx) e1) (fun ds g2 hx vs us H2 s2 I2 r2 e2 G3 E2 k2 => ?_) fun _ _ _ _ h => h)
  exact ⟨v :: vs, H2, I2, .cons r1 r2, hx (v :: vs) H2 (e1.trans e2) G3 (.cons ((k1.peek E.mu E1.mu G2).ext E1.mu G2 e2) k2)⟩
theorem das_cons (ha : DE X z W .sh a f) (hr : DAs X z W es h) (hs : starEach (a :: es) X.env = (false, eval a X.env) :: starEach es X.env := by rfl) : DAs X z W (a :: es) (sCons f h) := by
  refine ⟨fun pos pins s σ H Q I ⟨ρ, g, Mu, E, G1, hx⟩ => ?_⟩
  rw [hs]
  show wpAny _ _ (spliced ((false, eval a X.env) :: backTo pos (starEach es X.env))) _ _ s
  refine Calls.spliced_cons (de_run ha I E G1 (R.all_imp (R.all_bind hx) (fun d g1 hx v u H1 s1 I1 r1 e1 G2 E1 k1 => ?_) fun _ _ _ _ h => h))
  refine das_run hr I1 E1 G2 (R.all_imp (Raising.all (R.all_bind hx) e1) (fun ds g2 hx vs us H2 s2 I2 r2 e2 G3 E2 k2 => ?_) fun _ _ _ _ h => h)
  exact ⟨v :: vs, H2, I2, .cons r1 r2, hx (v :: vs) H2 (e1.trans e2) G3 (.cons (Rep.ext (show Rep X.K X.mg z Mu H1 v d from k1) E1.mu G2 e2) k2)⟩
/-! ### displays -/
def eTup (h : Es) : Ep := fun ρ => do let ds ← h ρ; ofOpt (if ds.length ≤ sizeLine then some (.tup ds) else none)
def eLst (h : Es) : Ep := fun ρ => do let ds ← h ρ; ofOpt (if ds.length ≤ sizeLine then some (.lst ds) else none)
theorem opt_if {α : Type} {c : Prop} [Decidable c] {a b : α} (h : (if c then some a else none) = some b) : c ∧ a = b := by
  split at h
  · exact ⟨by assumption, Option.some.inj h⟩
  · cases h
theorem de_tup {x1 : Nat} (hs : DAs X z W es h) : DE X z W .new (.Tuple es x1 pos) (eTup h) := by
  refine ⟨fun pins s σ H Q I ⟨ρ, g, Mu, E, G1, hx⟩ => ?_⟩
  refine wpAny_Tuple_spliced (das_run hs I E G1 (R.all_imp (R.all_bind hx) (fun ds g1 hx vs us H1 s1 I1 r1 e1 G2 E1 k1 => ?_) fun _ _ _ _ h => h))
  obtain ⟨d, hd, hx⟩ := R.all_opt hx
  obtain ⟨hz, rfl⟩ := opt_if hd
  have hz' : vs.length ≤ sizeLine := by rw [k1.length]; exact hz
  have hf : H1 s1.heap.objs.size = none := I1.hok.fresh (Nat.le_refl _)
  exact ⟨by rw [← r1.length]; exact hz', .ref s1.heap.objs.size, _, (newT0 (tk := s1.toks) I1 r1 hz').1, rfl,
    hx _ _ (e1.trans (Ext.of (same_upd' hf))) (G2.same (same_upd' hf)) ((RK.tup E1.mu G2 hf k1).back e1 G2)⟩
theorem de_lst (hs : DAs X z W es h) : DE X z W .new (.List es pos) (eLst h) := by
  refine ⟨fun pins s σ H Q I ⟨ρ, g, Mu, E, G1, hx⟩ => ?_⟩
  refine wpAny_List_spliced (das_run hs I E G1 (R.all_imp (R.all_bind hx) (fun ds g1 hx vs us H1 s1 I1 r1 e1 G2 E1 k1 => ?_) fun _ _ _ _ h => h))
  obtain ⟨d, hd, hx⟩ := R.all_opt hx
  obtain ⟨hz, rfl⟩ := opt_if hd
  have hz' : vs.length ≤ sizeLine := by rw [k1.length]; exact hz
  have hf : H1 s1.heap.objs.size = none := I1.hok.fresh (Nat.le_refl _)
  refine ⟨by rw [← r1.length]; exact hz', .ref s1.heap.objs.size, upd H1 s1.heap.objs.size (.lst vs), I1.laid (t' := s1.toks) (fun b u e => Heap.get?_push_of_some _ e) (Nat.le_refl _) ?_, rfl,
    hx _ _ (e1.trans (Ext.of (same_upd' hf))) (G2.same (same_upd' hf)) ((RK.lst E1.mu G2 hf k1).back e1 G2)⟩
  exact ⟨hz', us, 0, r1, Heap.get?_push_size _ rfl⟩
/-! ### subscripts -/
/-- an operation on two values behind a [..] -/
def dIx : D → D → Option D
  | .tup l, .int i => atI l i
  | .lst l, .int i => atI l i
  | .dct l, k => if kOk l k = true then look l k else none
  | _, _ => none
theorem subscriptTail_builtin_D {prog : Program} {w : World} {A : Around} {E : Value → Shared → Prop} {s : Shared} {value slice : Expr} {o i : Value} {T id : String} {Q : Value → Shared → Prop} (hT : s.TypeIs o T)
    (hl : typeLookup (.type T) "__getitem__" = pure (some (.builtin id))) (h : wpAny (model prog w) A (getItem o i) Q E s)
    (hs : subscripted slice false o i = operate [o, i] (getItem o i)) :
    wpAny (model prog w) A (subscriptTail value slice o i) Q E s := by
  unfold subscriptTail
  refine wpAny_bind ?_
  rw [getitemInPython_of_ne hT.not_modules]
  refine wpAny_bind (wpAny_specialOf hT hl ?_)
  have fin : wpAny (model prog w) A (subscripted slice false o i) (fun r s₃ => wpAny (model prog w) A (letTemporaryGo value o r >>= fun _ => pure r) Q E s₃) E s := by
    rw [hs]
    exact wpAny_operating (wpAny_mono h (fun r s₃ h₃ => wpAny_bind (wpAny_letTemporaryGo (wpAny_pure h₃))) fun _ _ x => x)
  first
    | exact wpAny_pure (wpAny_bind fin)
    | exact wpAny_bind (wpAny_pure (wpAny_bind fin))
    | exact wpAny_bind fin
def DIx (X : Cx) (z : Zt) (h : D → D → Option D) : Prop :=
  ∀ (value slice : Expr) (pins : List (Addr × Obj)) (s : Shared) (σ : L2.St) (H : Hp) (Mu : List Addr) (g : G) (x y : V) (v u : Value) (dx dy d : D) (Q : VK), Inv X pins σ H s → MuOk z Mu H → GOk z H g → RelV x v → RelV y u → PR X.K X.mg z Mu H x dx → PR X.K X.mg z Mu H y dy →
    h dx dy = some d → (∀ v' H', Same H H' → Rep X.K X.mg z Mu H' v' d → Q v' H') → subscripted slice false v u = operate [v, u] (getItem v u) → wpAny (model X.prog X.w) X.A (subscriptTail value slice v u) (EP X pins σ Q) X.xe s
theorem Reps.atI {K : PySem.W.Frag} {mg : Str → Option Value} {H : Hp} {Mu : List Addr} {xs : List V} {ds : List D} {i : Int} {d : D} (r : Reps K mg z Mu H xs ds) (h : atI ds i = some d) : ∃ v, L2.atI xs i = some v ∧ Rep K mg z Mu H v d := by
  unfold L2.atI at h ⊢
  rw [r.length]
  cases q : ixN ds.length i with
  | none => rw [q] at h; cases h
  | some j =>
    rw [q] at h
    exact r.get' h
theorem ix_seq' (hX : XG X) : DIx X z dIx := by
  intro value slice pins s σ H Mu g x y v u dx dy d Q I m G1 rx ry px py hd q hs
  have dct : ∀ l, dx = .dct l → wpAny (model X.prog X.w) X.A (subscriptTail value slice v u) (EP X pins σ Q) X.xe s := fun l e => by
    subst e
    obtain ⟨hk, hl⟩ := opt_if (show (if kOk l dy = true then some (look l dy) else none) = some (some d) from by
      have hd : (if kOk l dy = true then look l dy else none) = some d := by cases dy <;> exact hd
      split at hd
      · rw [if_pos (by assumption), hd]
      · cases hd)
    have hu : X.A.units + 1 < cLine := by have := hX.eq; omega
    obtain ⟨a, ev, _, hT, _, _⟩ := dct_key I px py rx ry hk
    subst ev
    refine subscriptTail_builtin_D hT PySem.F.slot_dict_getitem.lookup (dct_get hu I px py rx ry hk hl fun v' w' s' I' rw' r' => ⟨v', H, I', rw', q v' H Same.refl r'⟩) hs
  cases dx <;> first | exact dct _ rfl | skip
  all_goals cases dy <;> simp only [dIx, reduceCtorEq] at hd
  · obtain ⟨a, xs, rfl, _, hx, rx'⟩ := px.tup
    obtain rfl := py.int
    obtain ⟨w, hw, rw'⟩ := rx'.atI hd
    exact ix_tup value slice pins s σ H _ _ v u Q I rx ry ⟨a, xs, _, w, rfl, rfl, hx.sq, hw, q _ H Same.refl rw'⟩ hs
  · obtain ⟨a, xs, rfl, hx, rx'⟩ := px.lst
    obtain rfl := py.int
    obtain ⟨w, hw, rw'⟩ := rx'.atI hd
    exact ix_list value slice pins s σ H _ _ v u Q I rx ry ⟨a, xs, _, w, rfl, rfl, SqL.of hx, hw, q _ H Same.refl rw'⟩ hs
theorem de_ix {h : D → D → Option D} (ho : DIx X z h) (ha : DE X z W ka a fa) (hb : DE X z W kb b fb) (hs : PlainIx b := by exact fun _ _ => rfl) : DE X z W .sh (.Subscript a b pos) (eBin h fa fb) := by
  refine ⟨fun pins s σ H Q I ⟨ρ, g, Mu, E, G1, hx⟩ => ?_⟩
  refine Subscript_ (de_run ha I E G1 (R.all_imp (R.all_bind hx) (fun dx g1 hx v u H1 s1 I1 r1 e1 G2 E1 k1 => ?_) fun _ _ _ _ h => h))
  refine de_run hb I1 E1 G2 (R.all_imp (Raising.all (R.all_bind hx) e1) (fun dy g2 hx v' u' H2 s2 I2 r2 e2 G3 E2 k2 => ?_) fun _ _ _ _ h => h)
  obtain ⟨d, hd, hx⟩ := R.all_opt hx
  exact ho a b pins s2 σ H2 Mu g2 v v' u u' dx dy d Q I2 E2.mu G3 r1 r2 ((k1.peek E.mu E1.mu G2).ext E1.mu G2 e2) (k2.peek E1.mu E2.mu G3) hd
    (fun w H3 s3 k3 => hx w H3 ((e1.trans e2).trans (Ext.of s3)) (G3.same s3) k3) (hs _ _)
/-! ### slices -/
/-- the part of a list between two places -/
def cutD (xs : List D) (lo hi : Option Int) : List D := (xs.drop (HT.sIx xs.length 0 lo)).take (HT.sIx xs.length xs.length hi - HT.sIx xs.length 0 lo)
theorem Reps.cut {K : PySem.W.Frag} {mg : Str → Option Value} {H : Hp} {Mu : List Addr} {xs : List V} {ds : List D} (r : Reps K mg z Mu H xs ds) (lo hi : Option Int) : Reps K mg z Mu H (cutV xs lo hi) (cutD ds lo hi) := by
  unfold cutV cutD
  rw [r.length]
  exact (r.drop _).take _
abbrev Eo := Env → M (Option Int)
def oNone : Eo := fun _ => M.pure none
def oSome (f : Ep) : Eo := fun ρ => do
  let d ← f ρ
  match d with
  | .int i => M.pure (some i)
  | _ => stuck
theorem all_oSome {d : D} {P : Option Int → G → Prop} {E : Str → Str → List D → G → Prop} {g : G} (h : ((match d with | .int i => M.pure (some i) | _ => stuck) g : R (Option Int)).all P E) : ∃ i, d = .int i ∧ P (some i) g := by
  cases d <;> first | exact h.elim | exact ⟨_, rfl, h⟩
def tO (X : Cx) (z : Zt) (W : WX) (f : Eo) : TO := fun σ H Q => ∃ ρ g Mu, EnvOk X.K X.mg z Mu H σ ρ ∧ GOk z H g ∧
  (f ρ g).all (fun o g' => ∀ H', Ext z H H' → GOk z H' g' → Q o H') (XW X z W Mu σ H)
abbrev DO (X : Cx) (z : Zt) (W : WX) (e : Option Expr) (f : Eo) : Prop := PO X e (tO X z W f)
theorem do_none : DO X z W none oNone := by
  refine ⟨fun pins s σ H Q I ⟨ρ, g, Mu, E, G1, hx⟩ => ?_⟩
  rw [evalPart_none]
  exact wpAny_pure ⟨none, H, I, .none, hx H Ext.refl G1⟩
theorem do_some (ha : DE X z W k a f) : DO X z W (some a) (oSome f) := by
  refine ⟨fun pins s σ H Q I ⟨ρ, g, Mu, E, G1, hx⟩ => ?_⟩
  have hp := (po_some ha).run pins s σ H (fun o H' => Q o H') I ⟨ρ, g, Mu, E, G1, R.all_imp (R.all_bind hx) (fun d g1 hx v H' e1 G2 k1 => ?_) fun _ _ _ _ h => h⟩
  · exact hp
  · obtain ⟨i, rfl, hx⟩ := all_oSome hx
    exact ⟨i, (k1.peek E.mu (E.mu.ext (g := g) e1 G2) G2).int, hx H' e1 G2⟩
def dCut : D → Option Int → Option Int → Option D
  | .tup l, lo, hi => some (.tup (cutD l lo hi))
  | .lst l, lo, hi => some (.lst (cutD l lo hi))
  | _, _, _ => none
def eSl (f : Ep) (lo hi : Eo) : Ep := fun ρ => do let x ← f ρ; let l ← lo ρ; let u ← hi ρ; ofOpt (dCut x l u)
theorem do_run {oe : Option Expr} {f : Eo} {Q : Value → Shared → Prop} {pins : List (Addr × Obj)} {s : Shared} {σ : L2.St} {H : Hp} {Mu : List Addr} {ρ : Env} {g : G} (h : DO X z W oe f) (I : Inv X pins σ H s) (E : EnvOk X.K X.mg z Mu H σ ρ) (G1 : GOk z H g)
    (hx : (f ρ g).all (fun o g' => ∀ u H' s', Inv X pins σ H' s' → IsPart u o → Ext z H H' → GOk z H' g' → EnvOk X.K X.mg z Mu H' σ ρ → Q u s') (XW X z W Mu σ H)) :
    wpAny (model X.prog X.w) X.A (evalPart oe X.env) Q X.xe s := by
  refine thn (h.run pins s σ H (fun o H' => ∃ g', f ρ g = .ok o g' ∧ Ext z H H' ∧ GOk z H' g') I ⟨ρ, g, Mu, E, G1, ?_⟩) ?_
  · cases q : f ρ g with
    | stuck => rw [q] at hx; exact hx
    | ok d g' => exact fun H' e1 g1 => ⟨g', rfl, e1, g1⟩
    | exc c n l g' => rw [q] at hx; exact hx
  · rintro u s' ⟨o, H', I', r, g', q, e1, g1⟩
    rw [q] at hx
    exact hx u H' s' I' r e1 g1 (E.ext G1 e1 g1)
def rSlK (K : PySem.W.Frag) : V → Option Int → Option Int → Hp → VK → Prop := fun x lo hi H Q => ∃ a xs, x = .ref a ∧ SqT K H a xs ∧
  (HT.sIx xs.length 0 lo = 0 ∧ HT.sIx xs.length xs.length hi = xs.length → Q (.ref a) H) ∧ (¬ (HT.sIx xs.length 0 lo = 0 ∧ HT.sIx xs.length xs.length hi = xs.length) → ∀ p (ob : Obj), ob.dict = none → H p = none → Q (.ref p) (upd H p (.frz ob (.tup (cutV xs lo hi)))))
/-- a slice of a tuple, its object known -/
theorem sl_tupK : SlR X (rSlK X.K) := by
  intro pins s σ H x v vl vu lo hi sl Q I rx hs pl pu h
  obtain ⟨a, xs, rfl, hx, q1, q2⟩ := h
  cases rx
  obtain ⟨its, r, ht, hz⟩ := I.tuple hx
  have hlen : its.toArray.size = xs.length := by rw [List.size_toArray, r.length]
  refine ⟨"tuple", _, PyProof.Rows.slot_tuple_getitem.lookup, ht.typeIs, ?_⟩
  by_cases hw : HT.sIx xs.length 0 lo = 0 ∧ HT.sIx xs.length xs.length hi = xs.length
  · exact getItem_tuple_whole ht hs pl pu (by rw [hlen]; exact hw) ⟨.ref a, H, I, rfl, q1 hw⟩
  · refine HT.getItem_tuple_cut ht hs pl pu (by rw [hlen]; exact hw) ?_ (by rw [hlen]; exact hz)
    rw [hlen]
    obtain ⟨I2, hp⟩ := newT0 (tk := s.toks) I ((r.drop (HT.sIx xs.length 0 lo)).take (HT.sIx xs.length xs.length hi - HT.sIx xs.length 0 lo)) (Nat.le_trans (cutV_length xs lo hi) hz)
    exact ⟨.ref _, _, I2, rfl, q2 hw _ _ rfl hp⟩
theorem de_sl {lo hi : Option Expr} {fl fh : Eo} {p2 : Pos} (ha : DE X z W ka a fa) (hl : DO X z W lo fl) (hh : DO X z W hi fh) : DE X z W .new (.Subscript a (.Slice lo hi none p2) pos) (eSl fa fl fh) := by
  refine ⟨fun pins s σ H Q I ⟨ρ, g, Mu, E, G1, hx⟩ => ?_⟩
  refine Subscript_ (de_run ha I E G1 (R.all_imp (R.all_bind hx) (fun dx g1 hx v u H1 s1 I1 r1 e1 G2 E1 k1 => ?_) fun _ _ _ _ h => h))
  refine wpAny_Slice (do_run hl I1 E1 G2 (R.all_imp (Raising.all (R.all_bind hx) e1) (fun l g2 hx vl H2 s2 I2 pl e2 G3 E2 => ?_) fun _ _ _ _ h => h))
  refine do_run hh I2 E2 G3 (R.all_imp (Raising.all (R.all_bind hx) (e1.trans e2)) (fun r g3 hx vu H3 s3 I3 pu e3 G4 E3 => ?_) fun _ _ _ _ h => h)
  obtain ⟨d, hd, hx⟩ := R.all_opt hx
  have px : PR X.K X.mg z Mu H3 v dx := (k1.peek E.mu E1.mu G2).ext E1.mu G2 (e2.trans e3)
  have e13 := (e1.trans e2).trans e3
  rw [evalPart_none]
  refine wpAny_pure ?_
  have I4 : Inv X pins σ H3 { s3 with heap := s3.heap.push { cls := .type "slice", data := .fields #[vl, vu, .none] } } := I3.kept (t' := s3.toks) fun b ob q => Heap.get?_push_of_some _ q
  have main : ∀ {r' : V → Option Int → Option Int → Hp → VK → Prop}, SlR X r' → r' v l r H3 Q →
      wpAny (model X.prog X.w) X.A (subscriptTail a (.Slice lo hi none p2) u (.ref s3.heap.objs.size)) (EP X pins σ Q) X.xe { s3 with heap := s3.heap.push { cls := .type "slice", data := .fields #[vl, vu, .none] } } := fun hr hq => by
    obtain ⟨T, id, hT, ht, hg⟩ := hr pins { s3 with heap := s3.heap.push { cls := .type "slice", data := .fields #[vl, vu, .none] } } σ H3 v u vl vu l r s3.heap.objs.size Q I4 r1 (Heap.IsSliceOf.new ..) pl pu hq
    exact tail_any (ops := [.ref s3.heap.objs.size, u]) ht hT hg (by with_unfolding_all rfl)
  cases dx <;> simp only [dCut, reduceCtorEq, Option.some.injEq] at hd
  · subst hd
    obtain ⟨p, xs, rfl, np, hp, rp⟩ := px.tup
    refine main sl_tupK ⟨p, xs, rfl, hp.sq, fun ⟨w1, w2⟩ => ?_, fun w q ob hd hq => ?_⟩
    · refine hx _ H3 e13 G4 (RK.tup_same np hp ?_)
      unfold cutD
      rw [rp.length] at w1 w2
      rw [w1, w2, Nat.sub_zero, List.drop_zero, List.take_length]
      exact rp
    · exact hx _ _ (e13.trans (Ext.of (same_upd' hq))) (G4.same (same_upd' hq)) ((RK.tup E3.mu G4 hq (rp.cut l r) hd).back e13 G4)
  · subst hd
    obtain ⟨p, xs, rfl, hp, rp⟩ := px.lst
    refine main sl_list ⟨p, xs, rfl, SqL.of hp, fun q hq => ?_⟩
    exact hx _ _ (e13.trans (Ext.of (same_upd' hq))) (G4.same (same_upd' hq)) ((RK.lst E3.mu G4 hq (rp.cut l r)).back e13 G4)
end
/-! ### the same as plain data -/
mutual
def D.py : D → Option PyData
  | .non => some .none
  | .bl b => some (.bool b)
  | .int i => some (.int i)
  | .str s => some (.str s)
  | .tup l => match D.pys l with
    | some xs => some (.tuple xs)
    | none => none
  | .lst l => match D.pys l with
    | some xs => some (.list xs)
    | none => none
  | .dct l => match D.pyKv l with
    | some xs => some (.dict xs)
    | none => none
  | .set _ => none
  | .st => none
  | .ty _ => none
  | .scr _ => none
  | .fn _ => none
  | .exc _ _ _ => none
  | .lam _ => none
def D.pys : List D → Option (List PyData)
  | [] => some []
  | d :: l => match D.py d, D.pys l with
    | some x, some xs => some (x :: xs)
    | _, _ => none
def D.pyKv : List (D × D) → Option (List (PyData × PyData))
  | [] => some []
  | (a, b) :: l => match D.py a, D.py b, D.pyKv l with
    | some x, some y, some xs => some ((x, y) :: xs)
    | _, _, _ => none
end
theorem py_tup {l : List D} {p : PyData} (h : (D.tup l).py = some p) : ∃ xs, D.pys l = some xs ∧ p = .tuple xs := by
  rw [D.py] at h
  split at h
  · rename_i xs q
    exact ⟨xs, q, (Option.some.inj h).symm⟩
  · cases h
theorem py_lst {l : List D} {p : PyData} (h : (D.lst l).py = some p) : ∃ xs, D.pys l = some xs ∧ p = .list xs := by
  rw [D.py] at h
  split at h
  · rename_i xs q
    exact ⟨xs, q, (Option.some.inj h).symm⟩
  · cases h
theorem py_dct {l : List (D × D)} {p : PyData} (h : (D.dct l).py = some p) : ∃ xs, D.pyKv l = some xs ∧ p = .dict xs := by
  rw [D.py] at h
  split at h
  · rename_i xs q
    exact ⟨xs, q, (Option.some.inj h).symm⟩
  · cases h
theorem pys_cons {d : D} {l : List D} {ps : List PyData} (h : D.pys (d :: l) = some ps) : ∃ x xs, d.py = some x ∧ D.pys l = some xs ∧ ps = x :: xs := by
  rw [D.pys] at h
  split at h
  · rename_i x xs q1 q2
    exact ⟨x, xs, q1, q2, (Option.some.inj h).symm⟩
  · cases h
theorem pyKv_split : ∀ {l : List (D × D)} {ps : List (PyData × PyData)}, D.pyKv l = some ps → D.pys (l.map (·.1)) = some (ps.map (·.1)) ∧ D.pys (l.map (·.2)) = some (ps.map (·.2))
  | [], ps, h => by
    rw [D.pyKv] at h
    cases h
    exact ⟨by rw [List.map_nil, D.pys]; rfl, by rw [List.map_nil, D.pys]; rfl⟩
  | (a, b) :: l, ps, h => by
    rw [D.pyKv] at h
    split at h
    · rename_i x y xs q1 q2 q3
      cases h
      obtain ⟨h1, h2⟩ := pyKv_split q3
      constructor
      · rw [List.map_cons, D.pys, q1, h1]; rfl
      · rw [List.map_cons, D.pys, q2, h2]; rfl
    · cases h
/-- the dict of the modules stands where it stands -/
def SysD (h : Heap) : Prop := ∃ (o : Obj) (es : Array DictEntry) (ep : Nat), h.get? sysModules = some o ∧ o.data = .dict es ep
theorem SysD.seq {h : Heap} (S : SysD h) {a : Addr} {o : Obj} {vs : Array Value} {n : Nat} (ho : h.get? a = some o) (hd : o.data = .seq vs n) : a ≠ sysModules := fun e => by
  obtain ⟨o1, es, ep, h1, h2⟩ := S
  rw [e, h1] at ho
  cases ho
  rw [h2] at hd
  cases hd
theorem SysD.cons_ {h : Heap} (_ : SysD h) {a : Addr} {as : List Addr} (ha : a ≠ sysModules) (n : sysModules ∉ as) : sysModules ∉ a :: as := fun w => by
  rcases List.mem_cons.mp w with w | w
  · exact ha w.symm
  · exact n w
theorem SysD.app {h : Heap} (_ : SysD h) {as bs : List Addr} (n : sysModules ∉ as) (m : sysModules ∉ bs) : sysModules ∉ as ++ bs := fun w => (List.mem_append.mp w).elim n m
theorem ne_of_beq_false {a : Addr} (h : (a == sysModules) = false) : a ≠ sysModules := fun e => by
  rw [e, beq_self_eq_true] at h
  cases h
section
variable {X : Cx} {z : Zt} {pins : List (Addr × Obj)} {σ : L2.St} {H : Hp} {s : Shared} {Mu : List Addr}
mutual
theorem Rep.reads2 (I : Inv X pins σ H s) : ∀ {v : V} {d : D} {u : Value} {p : PyData}, Rep X.K X.mg z Mu H v d → RelV v u → d.py = some p → ∃ as, Reads s.heap u p as ∧ (SysD s.heap → sysModules ∉ as)
  | _, _, _, _, .non, r, h => by
    rw [D.py] at h; cases h; cases r
    exact ⟨_, Reads.none, fun _ => List.not_mem_nil⟩
  | _, _, _, _, .bl b, r, h => by
    rw [D.py] at h; cases h; cases r
    exact ⟨_, Reads.bool b, fun _ => List.not_mem_nil⟩
  | _, _, _, _, .int i, r, h => by
    rw [D.py] at h; cases h
    obtain ⟨t, rfl⟩ := r
    exact ⟨_, Reads.int i t, fun _ => List.not_mem_nil⟩
  | _, _, _, _, .str x, r, h => by
    rw [D.py] at h; cases h
    obtain ⟨t, rfl⟩ := r
    exact ⟨_, Reads.str x t, fun _ => List.not_mem_nil⟩
  | _, _, _, _, .tup _ hq rs, r, h => by
    obtain ⟨ps, hp, rfl⟩ := py_tup h
    cases r
    obtain ⟨its, rv, ⟨o, ho, hc, n, hd⟩, _⟩ := I.tuple (hq.sq)
    obtain ⟨as, hr, ns⟩ := Reps.reads2 I rs rv hp
    exact ⟨_, Reads.tuple ho hc hd hr, ns⟩
  | _, _, _, _, .lst _ hq rs, r, h => by
    obtain ⟨ps, hp, rfl⟩ := py_lst h
    cases r
    obtain ⟨its, rv, ⟨o, n, ho, hc, _, hd⟩, _⟩ := I.list (SqL.of hq)
    obtain ⟨as, hr, ns⟩ := Reps.reads2 I rs rv hp
    exact ⟨_, Reads.list ho hc hd hr, fun S => S.cons_ (S.seq ho hd) (ns S)⟩
  | _, _, _, _, .dct (a := a) (o := o) _ ho hy hex hd _ ⟨k1, k2⟩ r1 r2 _, r, h => by
    obtain ⟨ps, hp, rfl⟩ := py_dct h
    obtain ⟨p1, p2⟩ := pyKv_split hp
    cases r
    obtain ⟨as, h1, n1⟩ := Reps.reads2 I r1 k1 p1
    obtain ⟨bs, h2, n2⟩ := Reps.reads2 I r2 k2 p2
    have ho' : s.heap.get? a = some o := (I.hok a _ ho).1
    exact ⟨_, Reads.dict ho' hex.1 hd h1 h2, fun S => S.cons_ (ne_of_beq_false hy) (S.app (n1 S) (n2 S))⟩
  | _, _, _, _, .st, _, h => by rw [D.py] at h; cases h
  | _, _, _, _, .ty _, _, h => by rw [D.py] at h; cases h
  | _, _, _, _, .scrR _ _, _, h => by rw [D.py] at h; cases h
  | _, _, _, _, .scrK _ _ _ _ _ _, _, h => by rw [D.py] at h; cases h
  | _, _, _, _, .fn _, _, h => by rw [D.py] at h; cases h
  | _, _, _, _, .lam _ _ _ _ _, _, h => by rw [D.py] at h; cases h
  | _, _, _, _, .exc0 _ _ _, _, h => by rw [D.py] at h; cases h
  | _, _, _, _, .exc1 _ _ _ _ _ _, _, h => by rw [D.py] at h; cases h
theorem Reps.reads2 (I : Inv X pins σ H s) : ∀ {vs : List V} {ds : List D} {us : List Value} {ps : List PyData}, Reps X.K X.mg z Mu H vs ds → Vals vs us → D.pys ds = some ps → ∃ as, ReadsAll s.heap us ps as ∧ (SysD s.heap → sysModules ∉ as)
  | _, _, _, _, .nil, .nil, h => by
    rw [D.pys] at h; cases h
    exact ⟨_, .nil, fun _ => List.not_mem_nil⟩
  | _, _, _, _, .cons r rs, .cons q qs, h => by
    obtain ⟨x, xs, h1, h2, rfl⟩ := pys_cons h
    obtain ⟨as, a1, n1⟩ := Rep.reads2 I r q h1
    obtain ⟨bs, b1, n2⟩ := Reps.reads2 I rs qs h2
    exact ⟨_, .cons a1 b1, fun S => S.app (n1 S) (n2 S)⟩
end
theorem Rep.reads {v : V} {d : D} {u : Value} {p : PyData} (I : Inv X pins σ H s) (r : Rep X.K X.mg z Mu H v d) (q : RelV v u) (h : d.py = some p) : ∃ as, Reads s.heap u p as := let ⟨as, r, _⟩ := r.reads2 I q h; ⟨as, r⟩
theorem Reps.reads {vs : List V} {ds : List D} {us : List Value} {ps : List PyData} (I : Inv X pins σ H s) (r : Reps X.K X.mg z Mu H vs ds) (q : Vals vs us) (h : D.pys ds = some ps) : ∃ as, ReadsAll s.heap us ps as := let ⟨as, r, _⟩ := r.reads2 I q h; ⟨as, r⟩
theorem PR.reads2 {v : V} {d : D} {u : Value} {p : PyData} (I : Inv X pins σ H s) (r : PR X.K X.mg z Mu H v d) (q : RelV v u) (h : d.py = some p) : ∃ as, Reads s.heap u p as ∧ (SysD s.heap → sysModules ∉ as) := by
  rcases r with r | ⟨a, rfl, _, _, _, _, c⟩
  · exact r.reads2 I q h
  · cases c with
    | lst hq rs =>
      obtain ⟨ps, hp, rfl⟩ := py_lst h
      cases q
      obtain ⟨its, rv, ⟨o, n, ho, hc, _, hd⟩, _⟩ := I.list (SqL.of hq)
      obtain ⟨as, hr, ns⟩ := rs.reads2 I rv hp
      exact ⟨_, Reads.list ho hc hd hr, fun S => S.cons_ (S.seq ho hd) (ns S)⟩
    | dct ho hy hex hd _ hk r1 r2 _ =>
      obtain ⟨k1, k2⟩ := hk
      obtain ⟨ps, hp, rfl⟩ := py_dct h
      obtain ⟨p1, p2⟩ := pyKv_split hp
      cases q
      obtain ⟨as, h1, n1⟩ := r1.reads2 I k1 p1
      obtain ⟨bs, h2, n2⟩ := r2.reads2 I k2 p2
      exact ⟨_, Reads.dict (I.hok a _ ho).1 hex.1 hd h1 h2, fun S => S.cons_ (ne_of_beq_false hy) (S.app (n1 S) (n2 S))⟩
theorem PR.reads {v : V} {d : D} {u : Value} {p : PyData} (I : Inv X pins σ H s) (r : PR X.K X.mg z Mu H v d) (q : RelV v u) (h : d.py = some p) : ∃ as, Reads s.heap u p as := let ⟨as, r, _⟩ := r.reads2 I q h; ⟨as, r⟩
end
/-- == of two values that are plain data without dicts -/
def dEqP (a b : D) : Option Bool :=
  match a.py, b.py with
  | some x, some y => if SeqAt.shaped x = true ∧ SeqAt.shaped y = true then some (PyData.eqv x y) else none
  | _, _ => none
def dEqB : D → D → Option Bool
  | .str x, .str y => some (decide (x = y))
  | a, b => dEqP a b
def dEq (a b : D) : Option D := (dEqB a b).map D.bl
def dNe (a b : D) : Option D := (dEqB a b).map fun c => D.bl (!c)
theorem dEqP_some {a b : D} {c : Bool} (h : dEqP a b = some c) : ∃ x y, a.py = some x ∧ b.py = some y ∧ SeqAt.shaped x = true ∧ SeqAt.shaped y = true ∧ c = PyData.eqv x y := by
  unfold dEqP at h
  split at h
  · rename_i x y q1 q2
    obtain ⟨⟨h1, h2⟩, e⟩ := opt_if h
    exact ⟨x, y, q1, q2, h1, h2, e.symm⟩
  · cases h
theorem dEqB_some {a b : D} {c : Bool} (h : dEqB a b = some c) : (∃ x y, a = .str x ∧ b = .str y ∧ c = decide (x = y)) ∨ dEqP a b = some c := by
  cases a <;> cases b <;> first | exact .inr h | exact .inl ⟨_, _, rfl, rfl, (Option.some.inj h).symm⟩
section
variable {X : Cx} {z : Zt} {W : WX} {k ka kb : Kd} {e a b : Expr}
theorem op_dEq (hX : XG X) : DOp X z .new (compareOp .Eq) dEq := by
  intro pins s σ H Mu g x y v u dx dy d Q I m G1 rx ry px py hd q
  obtain ⟨c, hc, rfl⟩ := Option.map_eq_some_iff.mp hd
  rcases dEqB_some hc with ⟨a, b, rfl, rfl, rfl⟩ | hc
  · have e1 := px.str
    have e2 := py.str
    subst e1 e2
    refine L2.op_eq pins s σ H _ _ v u Q I rx ry ⟨rfl, ?_⟩
    have e : decide (V.str a = V.str b) = decide (a = b) := by
      by_cases h : a = b
      · rw [h]; simp
      · rw [decide_eq_false h, decide_eq_false fun w => h (V.str.inj w)]
    rw [e]
    exact q _ H Same.refl RK.bl
  obtain ⟨p1, p2, h1, h2, s1, s2, rfl⟩ := dEqP_some hc
  obtain ⟨as, r1⟩ := px.reads I rx h1
  obtain ⟨bs, r2⟩ := py.reads I ry h2
  exact eq_dataH r1 r2 s1 s2 hX.eq ⟨.bl _, H, I, rfl, q _ H Same.refl RK.bl⟩
theorem op_dNe (hX : XG X) : DOp X z .new (compareOp .NotEq) dNe := by
  intro pins s σ H Mu g x y v u dx dy d Q I m G1 rx ry px py hd q
  obtain ⟨c, hc, rfl⟩ := Option.map_eq_some_iff.mp hd
  rcases dEqB_some hc with ⟨a, b, rfl, rfl, rfl⟩ | hc
  · have e1 := px.str
    have e2 := py.str
    subst e1 e2
    refine L2.op_ne pins s σ H _ _ v u Q I rx ry ⟨rfl, ?_⟩
    have e : decide (V.str a = V.str b) = decide (a = b) := by
      by_cases h : a = b
      · rw [h]; simp
      · rw [decide_eq_false h, decide_eq_false fun w => h (V.str.inj w)]
    rw [e]
    exact q _ H Same.refl RK.bl
  obtain ⟨p1, p2, h1, h2, s1, s2, rfl⟩ := dEqP_some hc
  obtain ⟨as, r1⟩ := px.reads I rx h1
  obtain ⟨bs, r2⟩ := py.reads I ry h2
  exact ne_dataH r1 r2 s1 s2 hX.eq ⟨.bl _, H, I, rfl, q _ H Same.refl RK.bl⟩
/-- is, is not: None, True, False on the right -/
def dIs : D → D → Option D
  | .non, .non => some (.bl true)
  | _, .non => some (.bl false)
  | .bl a, .bl b => some (.bl (decide (a = b)))
  | _, _ => none
def dIsN (a b : D) : Option D := match dIs a b with
  | some (.bl c) => some (.bl (!c))
  | _ => none
end
end DL
end
section
set_option Elab.async false
set_option linter.all false
set_option maxRecDepth 100000
set_option maxHeartbeats 2000000
/-! The value layer, part 5: calls of built-ins. -/
namespace DL
open PySem PySem.Spec PyProof.Rows L2

/-- the call of the value f with values comes to h of what they read as -/
def DCall (X : Cx) (z : Zt) (k : Kd) (f : Value) (h : List D → Option D) : Prop :=
  ∀ (pins : List (Addr × Obj)) (s : Shared) (σ : L2.St) (H : Hp) (Mu : List Addr) (g : G) (xs : List V) (us : List Value) (ds : List D) (d : D) (Q : VK), Inv X pins σ H s → MuOk z Mu H → GOk z H g → Vals xs us → RKs X.K X.mg z Mu H xs ds →
    h ds = some d → (∀ v' H', Same H H' → RK X.K X.mg z k H Mu H' v' d → Q v' H') → wpAny (model X.prog X.w) X.A (call f us) (EP X pins σ Q) X.xe s
def eCall (h : List D → Option D) (fs : Es) : Ep := fun ρ => do let ds ← fs ρ; ofOpt (h ds)
section
variable {X : Cx} {z : Zt} {W : WX} {k ka : Kd} {e : Expr} {es : List Expr} {fs : Es} {x : Str} {p pos : Pos} {id T : String} {h : List D → Option D}
theorem de_callB (hc : DCall X z k (.builtin id) h) (hg : Gl X x) (hm : X.mg x = none) (hv : bootBuiltins x = some (.builtin id)) (ha : DA X z W (e :: es) fs) (hn : x ≠ "__name__" := by decide) (hdb : (x == ("__debug__" : Str)) = false := by decide)
    (he : starEach (e :: es) X.env = (false, eval e X.env) :: starEach es X.env := by rfl) (hpl : (backTo pos (starEach es X.env)).any (·.1) = false := by rfl) : DE X z W k (.Call (.Name x p) (e :: es) [] pos) (eCall h fs) := by
  refine ⟨fun pins s σ H Q I ⟨ρ, g, Mu, E, G1, hx⟩ => ?_⟩
  refine wpAny_Call_Name_kw (ld_blt I hg hm hv ?_ hn hdb)
  refine PyProof.Rows.callWith_builtin1 (da_run ha I E G1 (R.all_imp (R.all_bind hx) (fun ds g1 hx vs us H1 s1 I1 r1 e1 G2 E1 k1 => ?_) fun _ _ _ _ h => h)) he hpl
  obtain ⟨d, hd, hx⟩ := R.all_opt hx
  exact hc pins s1 σ H1 Mu g1 vs us ds d Q I1 E1.mu G2 r1 k1 hd fun w H2 s2 k2 => hx w H2 (e1.trans (Ext.of s2)) (G2.same s2) (k2.back e1 G2)
theorem de_callTy (hc : DCall X z k (.type T) h) (hg : Gl X x) (hm : X.mg x = none) (hv : bootBuiltins x = some (.type T)) (ha : DA X z W (e :: es) fs) (hn : x ≠ "__name__" := by decide) (hdb : (x == ("__debug__" : Str)) = false := by decide)
    (he : starEach (e :: es) X.env = (false, eval e X.env) :: starEach es X.env := by rfl) (hpl : (backTo pos (starEach es X.env)).any (·.1) = false := by rfl) : DE X z W k (.Call (.Name x p) (e :: es) [] pos) (eCall h fs) := by
  refine ⟨fun pins s σ H Q I ⟨ρ, g, Mu, E, G1, hx⟩ => ?_⟩
  refine wpAny_Call_Name_kw (ld_blt I hg hm hv ?_ hn hdb)
  refine PyProof.Rows.callWith_type1 (da_run ha I E G1 (R.all_imp (R.all_bind hx) (fun ds g1 hx vs us H1 s1 I1 r1 e1 G2 E1 k1 => ?_) fun _ _ _ _ h => h)) he hpl
  obtain ⟨d, hd, hx⟩ := R.all_opt hx
  exact hc pins s1 σ H1 Mu g1 vs us ds d Q I1 E1.mu G2 r1 k1 hd fun w H2 s2 k2 => hx w H2 (e1.trans (Ext.of s2)) (G2.same s2) (k2.back e1 G2)
end
theorem RKs.one {K : PySem.W.Frag} {mg : Str → Option Value} {z : Zt} {Mu : List Addr} {H : Hp} {xs : List V} {d : D} (r : RKs K mg z Mu H xs [d]) : ∃ v, xs = [v] ∧ PR K mg z Mu H v d := by
  cases r with
  | cons r t => cases t; exact ⟨_, rfl, r⟩
theorem RKs.two {K : PySem.W.Frag} {mg : Str → Option Value} {z : Zt} {Mu : List Addr} {H : Hp} {xs : List V} {d d' : D} (r : RKs K mg z Mu H xs [d, d']) : ∃ v w, xs = [v, w] ∧ PR K mg z Mu H v d ∧ PR K mg z Mu H w d' := by
  cases r with
  | cons r t =>
    cases t with
    | cons r' t => cases t; exact ⟨_, _, rfl, r, r'⟩

/-! ### the built-ins as functions -/
def fInt : List D → Option D
  | [.int i] => some (.int i)
  | [.bl b] => some (.int (if b then 1 else 0))
  | _ => none
def fLen : List D → Option D
  | [.tup l] => some (.int l.length)
  | [.lst l] => some (.int l.length)
  | [.dct l] => some (.int l.length)
  | [.set l] => if l.length ≤ 1000 then some (.int l.length) else none
  | [.scr n] => some (.int n)
  | [.str x] => if x.length ≤ sizeLine then some (.int x.length) else none
  | _ => none
def fMin2 : List D → Option D
  | [.int i, .int j] => some (.int (if j < i then j else i))
  | _ => none
def fMax2 : List D → Option D
  | [.int i, .int j] => some (.int (if j > i then j else i))
  | _ => none
/-- a list's numbers, if it has nothing else -/
def blsOf : List D → Option (List Bool)
  | [] => some []
  | .bl i :: l => (blsOf l).map (i :: ·)
  | _ => none
def fAll : List D → Option D
  | [.lst l] => (blsOf l).map fun bs => .bl (bs.all id)
  | _ => none
def fTuple : List D → Option D
  | [.lst l] => some (.tup l)
  | [.tup l] => some (.tup l)
  | _ => none
def fList : List D → Option D
  | [.lst l] => some (.lst l)
  | [.tup l] => some (.lst l)
  | _ => none
theorem blsOf_eq : ∀ {l : List D} {ns : List Bool}, blsOf l = some ns → l = ns.map D.bl
  | [], ns, h => by cases h; rfl
  | .bl i :: l, ns, h => by
    obtain ⟨ms, h1, rfl⟩ := Option.map_eq_some_iff.mp h
    rw [blsOf_eq h1]; rfl
  | .non :: _, _, h => by cases h
  | .int _ :: _, _, h => by cases h
  | .str _ :: _, _, h => by cases h
  | .tup _ :: _, _, h => by cases h
  | .lst _ :: _, _, h => by cases h
  | .dct _ :: _, _, h => by cases h
  | .set _ :: _, _, h => by cases h
  | .st :: _, _, h => by cases h
  | .fn _ :: _, _, h => by cases h
  | .lam _ :: _, _, h => by cases h
  | .exc _ _ _ :: _, _, h => by cases h
theorem blsOf_map (ns : List Bool) : blsOf (ns.map D.bl) = some ns := by
  induction ns with
  | nil => rfl
  | cons n ns ih => rw [List.map_cons, blsOf, ih]; rfl
section
variable {K : PySem.W.Frag} {mg : Str → Option Value} {z : Zt} {Mu : List Addr} {H : Hp}
theorem Reps.unInts : ∀ {xs : List V} {ns : List Int}, Reps K mg z Mu H xs (ns.map D.int) → xs = ns.map V.int
  | _, [], .nil => rfl
  | _, n :: ns, .cons r t => by
    cases r
    rw [Reps.unInts t]; rfl
theorem Reps.unBls : ∀ {xs : List V} {ns : List Bool}, Reps K mg z Mu H xs (ns.map D.bl) → xs = ns.map V.bl
  | _, [], .nil => rfl
  | _, n :: ns, .cons r t => by
    cases r
    rw [Reps.unBls t]; rfl
end
section
variable {X : Cx} {z : Zt} {W : WX}
theorem call_int' : DCall X z .new (.type "int") fInt := by
  intro pins s σ H Mu g xs us ds d Q I m G1 r ks hd q
  unfold fInt at hd
  split at hd
  · cases hd
    obtain ⟨v, rfl, p⟩ := ks.one
    obtain rfl := p.int
    exact L2.call_int1 pins s σ H _ us Q I r (.inl ⟨_, rfl, q _ H Same.refl RK.int⟩)
  · cases hd
    obtain ⟨v, rfl, p⟩ := ks.one
    obtain rfl := p.bl
    exact L2.call_int1 pins s σ H _ us Q I r (.inr ⟨_, rfl, q _ H Same.refl RK.int⟩)
  · cases hd
theorem call_len' : DCall X z .new (.builtin "len") fLen := by
  intro pins s σ H Mu g xs us ds d Q I m G1 r ks hd q
  unfold fLen at hd
  split at hd
  · cases hd
    obtain ⟨v, rfl, p⟩ := ks.one
    obtain ⟨a, ys, rfl, _, hs, rs⟩ := p.tup
    refine L2.call_len pins s σ H _ us Q I r ⟨_, ys.length, rfl, .inr ⟨ys, hs.sq, rfl⟩, ?_⟩
    rw [rs.length]
    exact q _ H Same.refl RK.int
  · cases hd
    obtain ⟨v, rfl, p⟩ := ks.one
    obtain ⟨a, ys, rfl, hs, rs⟩ := p.lst
    refine L2.call_len pins s σ H _ us Q I r ⟨_, ys.length, rfl, .inl ⟨ys, SqL.of hs, rfl⟩, ?_⟩
    rw [rs.length]
    exact q _ H Same.refl RK.int
  · cases hd
    obtain ⟨v, rfl, p⟩ := ks.one
    obtain ⟨a, o, es, ep, kk, vv, rfl, ho, hsys, hex, hdt, hz, en, r1, r2, _⟩ := p.dct
    obtain ⟨u, rfl, ru⟩ := vals1 r
    cases ru
    have hl := en.size r1
    have raw : s.heap.DictRaw a es ep := ⟨o, (I.hok a _ ho).1, hex, hdt⟩
    refine call_len_slot (n := (es.size : Nat)) raw.typeIs F.slot_dict_len (fun Q' hq => call_len_raw hsys raw hq) (by omega) (by rw [sizeLine_eq] at hz; omega) ?_
    rw [hl, List.length_map]
    exact ⟨.int _, H, I.tok _, ⟨_, rfl⟩, q _ H Same.refl RK.int⟩
  · split at hd
    · rename_i hz
      cases hd
      obtain ⟨v, rfl, p⟩ := ks.one
      rcases p with p | ⟨_, _, _, _, _, _, c⟩
      · cases p with
        | @set a S ns _ ho hS hn =>
          obtain ⟨u, rfl, ru⟩ := vals1 r
          cases ru
          rw [List.length_map] at hz q
          obtain ⟨o, es, ep, t, h1, hex, hdat, _, _, _, hfit, hsz⟩ := I.hok a _ ho
          exact call_len_set h1 hex hdat hfit (by rw [hsz]; omega) ⟨.int ns.length, H, I.tok _, ⟨_, by rw [hsz]⟩, q _ H Same.refl RK.int⟩
      · cases c
    · cases hd
  · cases hd
    obtain ⟨v, rfl, p⟩ := ks.one
    rcases p with p | ⟨_, _, _, _, _, _, c⟩
    · cases p with
      | scrR _ h => exact L2.call_len pins s σ H _ us Q I r ⟨_, _, rfl, .inl ⟨_, .inl h, rfl⟩, q _ H Same.refl RK.int⟩
      | scrK h1 h2 h3 h4 h5 h6 => exact L2.call_len pins s σ H _ us Q I r ⟨_, _, rfl, .inl ⟨_, .inr ⟨_, _, _, h1, h2, h3, h4, h5, h6⟩, rfl⟩, q _ H Same.refl RK.int⟩
    · cases c
  · obtain ⟨hz, e⟩ := opt_if hd
    subst e
    obtain ⟨v, rfl, p⟩ := ks.one
    obtain rfl := p.str
    exact L2.call_len pins s σ H _ us Q I r ⟨_, _, rfl, ⟨hz, rfl⟩, q _ H Same.refl RK.int⟩
  · cases hd
theorem call_min2' (hX : XG X) : DCall X z .new (.builtin "min") fMin2 := by
  intro pins s σ H Mu g xs us ds d Q I m G1 r ks hd q
  unfold fMin2 at hd
  split at hd
  · cases hd
    obtain ⟨v, w, rfl, p1, p2⟩ := ks.two
    obtain rfl := p1.int
    obtain rfl := p2.int
    exact L2.call_min2 hX.calm pins s σ H _ us Q I r ⟨_, _, rfl, q _ H Same.refl RK.int⟩
  · cases hd
theorem call_max2' (hX : XG X) : DCall X z .new (.builtin "max") fMax2 := by
  intro pins s σ H Mu g xs us ds d Q I m G1 r ks hd q
  unfold fMax2 at hd
  split at hd
  · cases hd
    obtain ⟨v, w, rfl, p1, p2⟩ := ks.two
    obtain rfl := p1.int
    obtain rfl := p2.int
    exact L2.call_max2 hX.calm pins s σ H _ us Q I r ⟨_, _, rfl, q _ H Same.refl RK.int⟩
  · cases hd
theorem call_all' (hX : XG X) : DCall X z .new (.builtin "all") fAll := by
  intro pins s σ H Mu g xs us ds d Q I m G1 r ks hd q
  unfold fAll at hd
  split at hd
  · obtain ⟨ns, h1, rfl⟩ := Option.map_eq_some_iff.mp hd
    have e := blsOf_eq h1
    subst e
    obtain ⟨v, rfl, p⟩ := ks.one
    obtain ⟨a, ys, rfl, hs, rs⟩ := p.lst
    have e := rs.unBls
    subst e
    exact L2.cr_all hX.calm pins s σ H _ us Q I r ⟨a, ns, rfl, SqL.of hs, q _ H Same.refl RK.bl⟩
  · cases hd
theorem call_tuple' : DCall X z .new (.type "tuple") fTuple := by
  intro pins s σ H Mu g xs us ds d Q I m G1 r ks hd q
  unfold fTuple at hd
  split at hd
  · cases hd
    obtain ⟨v, rfl, p⟩ := ks.one
    obtain ⟨a, ys, rfl, hs, rs⟩ := p.lst
    obtain ⟨u, rfl, rx⟩ := vals1 r
    cases rx
    obtain ⟨its, rv, pl, hz⟩ := I.list (SqL.of hs)
    have hlen := rv.length
    refine call_tuple_list pl.isList (fun h' kp => ?_) (by simp only [List.size_toArray] <;> omega)
    obtain ⟨I2, ht⟩ := newT (tk := s.toks) I rv hz kp
    exact ⟨.ref _, _, I2, rfl, q _ _ (same_upd' ht) (RK.tup m G1 ht rs)⟩
  · cases hd
    obtain ⟨v, rfl, p⟩ := ks.one
    obtain ⟨a, ys, rfl, ns, hs, rs⟩ := p.tup
    exact L2.call_tuple_of pins s σ H _ us Q I r ⟨a, ys, rfl, .inr ⟨hs.sq, q _ H Same.refl (RK.tup_same ns hs rs)⟩⟩
  · cases hd
theorem call_list' : DCall X z .new (.type "list") fList := by
  intro pins s σ H Mu g xs us ds d Q I m G1 r ks hd q
  unfold fList at hd
  split at hd
  · cases hd
    obtain ⟨v, rfl, p⟩ := ks.one
    obtain ⟨a, ys, rfl, hs, rs⟩ := p.lst
    exact L2.call_list_of pins s σ H _ us Q I r ⟨a, ys, rfl, .inl (SqL.of hs), fun t ht => q _ _ (same_upd' ht) (RK.lst m G1 ht rs)⟩
  · cases hd
    obtain ⟨v, rfl, p⟩ := ks.one
    obtain ⟨a, ys, rfl, ns, hs, rs⟩ := p.tup
    exact L2.call_list_of pins s σ H _ us Q I r ⟨a, ys, rfl, .inr (hs.sq), fun t ht => q _ _ (same_upd' ht) (RK.lst m G1 ht rs)⟩
  · cases hd
end
/-! ### sorted -/
def alikeB (ps : List PyData) : Bool := ps.all fun p => ps.all fun q => PySem.W.alike p q
def sortB (ps : List PyData) : Bool := (ps.all fun p => match p with | .tuple (_ :: _) => true | _ => false) || ps.all fun p => match p with | .none => false | .tuple _ => false | _ => true
def sortOk (ps : List PyData) : Bool := alikeB ps && sortB ps && ps.all fun p => decide (p.depth ≤ 64)
def pyD (d : D) : PyData := d.py.getD .none
def sortD (l : List D) : Option (List D) := match D.pys l with
  | some ps => if sortOk ps = true ∧ l.length ≤ sizeLine then some (l.mergeSort (PySem.W.dataLe false pyD)) else none
  | none => none
def fSorted : List D → Option D
  | [.lst l] => (sortD l).map D.lst
  | [.tup l] => (sortD l).map D.lst
  | _ => none
section
variable {X : Cx} {z : Zt} {pins : List (Addr × Obj)} {σ : L2.St} {H : Hp} {s : Shared} {Mu : List Addr}
end
end DL
end
section
set_option Elab.async false
set_option linter.all false
set_option maxRecDepth 100000
set_option maxHeartbeats 2000000
/-! The value layer, part 6: statements. -/
namespace DL
open PySem PySem.Spec PyProof.Rows L2

section
variable {K : PySem.W.Frag} {mg : Str → Option Value} {z : Zt} {Mu Mu' : List Addr} {H H' : Hp} {v : V} {d : D} {σ : L2.St} {ρ : Env}
theorem SlOk.mono {t : Bool} (r : SlOk K mg z Mu H v t d) (ea : ∀ a, v = .ref a → t = true → (∀ u, H a = some u → NT u → H' a = some u) ∧ a ∈ Mu') (e : ExtM Mu H H') (m : ∀ b, Oc H b → b ∉ Mu → b ∉ Mu') : SlOk K mg z Mu' H' v t d := by
  cases t with
  | false => exact Rep.mono e m r
  | true =>
    obtain ⟨a, ev, ha, n1, n2, n3, c⟩ := r
    obtain ⟨h1, h2⟩ := ea a ev rfl
    exact ⟨a, ev, h2, n1, n2, n3, c.mono h1 e m⟩
/-- a local is stored: a shared value -/
theorem EnvOk.set {i : Nat} (E : EnvOk K mg z Mu H σ ρ) (r : Rep K mg z Mu H v d) : EnvOk K mg z Mu H (σ.set i (some v)) (ρ.set i (some (false, d))) := by
  refine ⟨by rw [List.length_set, List.length_set]; exact E.len, E.mu, fun j t d' q => ?_, fun j k d1 d2 a q1 q2 s1 s2 => ?_⟩
  · by_cases hj : i = j
    · subst hj
      have hi : i < ρ.length := by
        have h := (List.getElem?_eq_some_iff.mp q).1
        rwa [List.length_set] at h
      rw [List.getElem?_set_self hi] at q
      cases q
      exact ⟨v, by rw [List.getElem?_set_self (by rw [← E.len]; exact hi)], r⟩
    · rw [List.getElem?_set_ne hj] at q
      rw [List.getElem?_set_ne hj]
      exact E.val j t d' q
  · have hn : ∀ {j : Nat} {d1 : D}, (ρ.set i (some (false, d)))[j]? = some (some (true, d1)) → i ≠ j := fun {j d1} q e => by
      subst e
      have hi : i < ρ.length := by
        have h := (List.getElem?_eq_some_iff.mp q).1
        rwa [List.length_set] at h
      rw [List.getElem?_set_self hi] at q
      cases q
    have h1 := hn q1
    have h2 := hn q2
    rw [List.getElem?_set_ne h1] at q1 s1
    rw [List.getElem?_set_ne h2] at q2 s2
    exact E.sep j k d1 d2 a q1 q2 s1 s2
/-- a local is stored: a new list, dict of its own at a -/
theorem EnvOk.setOwn {i : Nat} {a : Addr} (E : EnvOk K mg z Mu H σ ρ) (hn : ∀ (j : Nat) (d' : D), ρ[j]? = some (some (true, d')) → σ[j]? = some (some (.ref a)) → False) (E' : EnvOk K mg z Mu' H' σ ρ) (ha : a ∈ Mu') (np : a ≠ z.p) (nl : a ≠ z.l) (nc : a ≠ z.c) (c : Cont K mg z Mu' H' a d) :
    EnvOk K mg z Mu' H' (σ.set i (some (.ref a))) (ρ.set i (some (true, d))) := by
  refine ⟨by rw [List.length_set, List.length_set]; exact E.len, E'.mu, fun j t d' q => ?_, fun j k d1 d2 b q1 q2 s1 s2 => ?_⟩
  · by_cases hj : i = j
    · subst hj
      have hi : i < ρ.length := by
        have h := (List.getElem?_eq_some_iff.mp q).1
        rwa [List.length_set] at h
      rw [List.getElem?_set_self hi] at q
      cases q
      exact ⟨.ref a, by rw [List.getElem?_set_self (by rw [← E.len]; exact hi)], a, rfl, ha, np, nl, nc, c⟩
    · rw [List.getElem?_set_ne hj] at q
      rw [List.getElem?_set_ne hj]
      exact E'.val j t d' q
  · have main : ∀ {j k : Nat} {d1 d2 : D}, (ρ.set i (some (true, d)))[j]? = some (some (true, d1)) → (ρ.set i (some (true, d)))[k]? = some (some (true, d2)) → (σ.set i (some (.ref a)))[j]? = some (some (.ref b)) → (σ.set i (some (.ref a)))[k]? = some (some (.ref b)) → i = j → j = k := fun {j k d1 d2} q1 q2 s1 s2 hj => by
      subst hj
      have hi : i < σ.length := by
        have h := (List.getElem?_eq_some_iff.mp s1).1
        rwa [List.length_set] at h
      rw [List.getElem?_set_self hi] at s1
      cases s1
      by_cases hk : i = k
      · exact hk
      · rw [List.getElem?_set_ne hk] at q2 s2
        exact (hn k d2 q2 s2).elim
    by_cases hj : i = j
    · exact main q1 q2 s1 s2 hj
    · by_cases hk : i = k
      · exact (main q2 q1 s2 s1 hk).symm
      · rw [List.getElem?_set_ne hj] at q1 s1
        rw [List.getElem?_set_ne hk] at q2 s2
        exact E.sep j k d1 d2 b q1 q2 s1 s2
/-- the locals, one of which is forgotten -/
theorem EnvOk.unset {i : Nat} (E : EnvOk K mg z Mu H σ ρ) : EnvOk K mg z Mu H (σ.set i none) (ρ.set i none) := by
  refine ⟨by rw [List.length_set, List.length_set]; exact E.len, E.mu, fun j t d' q => ?_, fun j k d1 d2 a q1 q2 s1 s2 => ?_⟩
  · have hj : i ≠ j := fun e => by
      subst e
      have hi : i < ρ.length := by
        have h := (List.getElem?_eq_some_iff.mp q).1
        rwa [List.length_set] at h
      rw [List.getElem?_set_self hi] at q
      cases q
    rw [List.getElem?_set_ne hj] at q
    rw [List.getElem?_set_ne hj]
    exact E.val j t d' q
  · have hn : ∀ {j : Nat} {d1 : D}, (ρ.set i none)[j]? = some (some (true, d1)) → i ≠ j := fun {j d1} q e => by
      subst e
      have hi : i < ρ.length := by
        have h := (List.getElem?_eq_some_iff.mp q).1
        rwa [List.length_set] at h
      rw [List.getElem?_set_self hi] at q
      cases q
    have h1 := hn q1
    have h2 := hn q2
    rw [List.getElem?_set_ne h1] at q1 s1
    rw [List.getElem?_set_ne h2] at q2 s2
    exact E.sep j k d1 d2 a q1 q2 s1 s2
end

/-! ### the state between two statements -/
/-- entered with the heap H, where the addresses M were barred; a look back at the heap kH, where kM were -/
structure Snap where
  H : Hp
  M : List Addr
  kH : Hp
  kM : List Addr
structure SOk (K : PySem.W.Frag) (mg : Str → Option Value) (z : Zt) (P : Snap) (Mu : List Addr) (H : Hp) (σ : L2.St) (ρ : Env) (g : G) : Prop where
  env : EnvOk K mg z Mu H σ ρ
  g : GOk z H g
  ext : Ext z P.H H
  sub : ∀ b ∈ P.M, b ∈ Mu
  m0 : MuOk z P.M P.H
  own : ∀ (i : Nat) (d : D) (a : Addr), ρ[i]? = some (some (true, d)) → σ[i]? = some (some (.ref a)) → ¬ Oc P.H a
  kp : ExtM P.kM P.kH H
  km : ∀ b, Oc P.kH b → b ∉ P.kM → b ∉ Mu
  kz : z.p ∈ P.kM ∧ z.l ∈ P.kM
  kt : ∀ b, Oc P.kH b → b ∉ P.kM → Oc H b
section
variable {K : PySem.W.Frag} {mg : Str → Option Value} {z : Zt} {P : Snap} {Mu : List Addr} {H H' : Hp} {v : V} {d : D} {σ : L2.St} {ρ : Env} {g g' : G}
theorem SOk.step (S : SOk K mg z P Mu H σ ρ g) (e : Ext z H H') (G' : GOk z H' g') : SOk K mg z P Mu H' σ ρ g' :=
  ⟨S.env.ext S.g e G', G', S.ext.trans e, S.sub, S.m0, S.own, fun b u q t n => (e.m S.kz.1 S.kz.2) b u (S.kp b u q t n) t n, S.km, S.kz, fun b h n => e.there (S.kt b h n) (fun w => n (w ▸ S.kz.1)) (fun w => n (w ▸ S.kz.2))⟩
theorem SOk.set {i : Nat} (S : SOk K mg z P Mu H σ ρ g) (r : Rep K mg z Mu H v d) : SOk K mg z P Mu H (σ.set i (some v)) (ρ.set i (some (false, d))) g := by
  refine ⟨S.env.set r, S.g, S.ext, S.sub, S.m0, fun j d' a q s => ?_, S.kp, S.km, S.kz, S.kt⟩
  by_cases hj : i = j
  · subst hj
    have hi : i < ρ.length := by
      have h := (List.getElem?_eq_some_iff.mp q).1
      rwa [List.length_set] at h
    rw [List.getElem?_set_self hi] at q
    cases q
  · rw [List.getElem?_set_ne hj] at q s
    exact S.own j d' a q s
/-- what a step from H gave new at a, stored -/
theorem SOk.setNew {i : Nat} {a : Addr} (S : SOk K mg z P Mu H σ ρ g) (e : Ext z H H') (G' : GOk z H' g') (n : ¬ Oc H a) (c : Cont K mg z (a :: Mu) H' a d) :
    SOk K mg z P (a :: Mu) H' (σ.set i (some (.ref a))) (ρ.set i (some (true, d))) g' := by
  have na : a ∉ Mu := fun w => n (S.env.mu.at_ a w)
  have np : a ≠ z.p := fun w => na (w ▸ S.env.mu.p)
  have nl : a ≠ z.l := fun w => na (w ▸ S.env.mu.l)
  have nc : a ≠ z.c := fun w => na (w ▸ S.env.mu.c)
  have S1 := S.step e G'
  have n0 : ¬ Oc P.H a := by
    exact S.ext.none n np nl
  have E1 : EnvOk K mg z (a :: Mu) H' σ ρ := by
    refine ⟨S.env.len, ⟨List.mem_cons_of_mem _ S1.env.mu.p, List.mem_cons_of_mem _ S1.env.mu.l, List.mem_cons_of_mem _ S1.env.mu.c, fun b hb => ?_, fun b hb q => ?_, fun b hb ob xs => ?_⟩, fun j t d' q => ?_, S.env.sep⟩
    · rcases List.mem_cons.mp hb with hb | hb
      · rw [hb]; exact c.there
      · exact S1.env.mu.at_ b hb
    · rcases List.mem_cons.mp hb with hb | hb
      · rw [hb]; exact c.ncode q
      · exact S1.env.mu.nc b hb q
    · rcases List.mem_cons.mp hb with hb | hb
      · rw [hb]; exact c.ntup ob xs
      · exact S1.env.mu.nt b hb ob xs
    · obtain ⟨w, q1, q2⟩ := S.env.val j t d' q
      refine ⟨w, q1, q2.mono (fun b ev et => ⟨fun u hu nu => ?_, ?_⟩) (e.m S.env.mu.p S.env.mu.l) fun b hu h w => ?_⟩
      · subst et
        obtain ⟨b', ev', hb', m1, m2, m3, _⟩ := q2
        have := ev.symm.trans ev'
        cases this
        exact e.to b u hu nu m1 m2
      · subst et
        obtain ⟨b', ev', hb', m1, m2, m3, _⟩ := q2
        have := ev.symm.trans ev'
        cases this
        exact List.mem_cons_of_mem _ hb'
      · rcases List.mem_cons.mp w with w | w
        · exact hu.ne n w
        · exact h w
  refine ⟨EnvOk.setOwn S.env (fun j d' q s => ?_) E1 List.mem_cons_self np nl nc c, G', S1.ext, fun b hb => List.mem_cons_of_mem _ (S.sub b hb), S.m0, fun j d' b q s => ?_, S1.kp, fun b q h w => ?_, S.kz, S1.kt⟩
  · obtain ⟨w, q1, b', ev', hb', _⟩ := S.env.val j true d' q
    rw [s] at q1
    cases q1
    cases ev'
    exact na hb'
  · by_cases hj : i = j
    · subst hj
      have hi : i < σ.length := by
        have h := (List.getElem?_eq_some_iff.mp s).1
        rwa [List.length_set] at h
      rw [List.getElem?_set_self hi] at s
      cases s
      exact n0
    · rw [List.getElem?_set_ne hj] at q s
      exact S.own j d' b q s
  · rcases List.mem_cons.mp w with w | w
    · exact (S.kt b q h).ne n w
    · exact S.km b q h w
theorem GOk.write {a : Addr} {o : HO} (G1 : GOk z H g) (np : a ≠ z.p) (nl : a ≠ z.l) (nc : a ≠ z.c) (ht : ∀ ps, H a ≠ some (.tbl ps)) (hc : ∀ q, H a ≠ some (LamX.CodeO a q)) (no : NT o) : GOk z (upd H a o) g := by
  refine ⟨by rw [upd_ne (Ne.symm np)]; exact G1.p, by rw [upd_ne (Ne.symm nl)]; exact G1.l, by rw [upd_ne (Ne.symm nc)]; exact G1.c, G1.ne, fun p hp => ?_⟩
  obtain ⟨ps, h1, h2, h3⟩ := G1.tb p hp
  have n1 : p.1 ≠ a := fun w => ht ps (w ▸ h1)
  refine ⟨ps, by rw [upd_ne n1]; exact h1, h2, fun pos cv hv => ?_⟩
  obtain ⟨c, e1, e2⟩ := h3 pos cv hv
  have n2 : c ≠ a := fun w => hc p.2 (w ▸ e2)
  exact ⟨c, e1, by rw [upd_ne n2]; exact e2⟩
theorem Cont.nt {a : Addr} (c : Cont K mg z Mu H a d) : ∃ u, H a = some u ∧ NT u := by
  cases c with
  | lst h r => exact ⟨_, h, trivial⟩
  | dct h h1 h2 h3 h4 h5 r1 r2 ky => exact ⟨_, h, trivial⟩
/-- a list, dict of one's own is changed -/
theorem SOk.write {i : Nat} {a : Addr} {d0 : D} {o : HO} (hcd : ∀ q, H a ≠ some (LamX.CodeO a q)) (no : NT o) (S : SOk K mg z P Mu H σ ρ g) (hi : ρ[i]? = some (some (true, d0))) (hs : σ[i]? = some (some (.ref a))) (c : Cont K mg z Mu (upd H a o) a d) :
    SOk K mg z P Mu (upd H a o) σ (ρ.set i (some (true, d))) g := by
  obtain ⟨w, q1, b', ev', ha, np, nl, nc, c0⟩ := S.env.val i true d0 hi
  rw [hs] at q1
  cases q1
  cases ev'
  have n0 := S.own i d0 a hi hs
  have up : ∀ b u, b ≠ a → H b = some u → upd H a o b = some u := fun b u hb q => by rw [upd_ne hb]; exact q
  have il : i < ρ.length := (List.getElem?_eq_some_iff.mp hi).1
  refine ⟨⟨by rw [List.length_set]; exact S.env.len, ⟨S.env.mu.p, S.env.mu.l, S.env.mu.c, fun b hb => ?_, fun b hb q => ?_, fun b hb ob xs => ?_⟩, fun j t d' q => ?_, fun j k d1 d2 b q1 q2 s1 s2 => ?_⟩, S.g.write np nl nc (fun ps w => by obtain ⟨u, e1, e2⟩ := c0.nt; rw [w] at e1; cases e1; exact e2) hcd no, ⟨fun b u q t h1 h2 => ?_⟩, S.sub, S.m0, fun j d' b q s => ?_, fun b u q t h => ?_, S.km, S.kz, fun b h n => ?_⟩
  · by_cases hba : b = a
    · rw [hba]; exact ⟨o, upd_same, no⟩
    · obtain ⟨u, e1, e2⟩ := S.env.mu.at_ b hb
      exact ⟨u, by rw [upd_ne hba]; exact e1, e2⟩
  · by_cases hba : b = a
    · rw [hba]; exact c.ncode q
    · rw [upd_ne hba]; exact S.env.mu.nc b hb q
  · by_cases hba : b = a
    · rw [hba]; exact c.ntup ob xs
    · rw [upd_ne hba]; exact S.env.mu.nt b hb ob xs
  · by_cases hj : i = j
    · subst hj
      rw [List.getElem?_set_self il] at q
      cases q
      exact ⟨.ref a, hs, a, rfl, ha, np, nl, nc, c⟩
    · rw [List.getElem?_set_ne hj] at q
      obtain ⟨w, q1, q2⟩ := S.env.val j t d' q
      refine ⟨w, q1, q2.mono (fun b ev et => ?_) (fun b u hu _ hn => up b u (fun e => hn (e ▸ ha)) hu) fun b _ h => h⟩
      subst et
      obtain ⟨b', ev', hb', m1, m2, m3, _⟩ := id q2
      have := ev.symm.trans ev'
      cases this
      refine ⟨fun u hu _ => up b u (fun e => ?_) hu, hb'⟩
      subst e
      subst ev
      exact hj (S.env.sep i j d0 d' b hi q hs q1)
  · have back : ∀ {j : Nat} {d1 : D}, (ρ.set i (some (true, d)))[j]? = some (some (true, d1)) → ∃ d1', ρ[j]? = some (some (true, d1')) := fun {j d1} q => by
      by_cases hj : i = j
      · subst hj; exact ⟨d0, hi⟩
      · rw [List.getElem?_set_ne hj] at q; exact ⟨_, q⟩
    obtain ⟨e1, h1⟩ := back q1
    obtain ⟨e2, h2⟩ := back q2
    exact S.env.sep j k e1 e2 b h1 h2 s1 s2
  · exact up b u (Oc.ne ⟨u, q, t⟩ n0) (S.ext.to b u q t h1 h2)
  · by_cases hj : i = j
    · subst hj
      exact S.own i d0 b hi s
    · rw [List.getElem?_set_ne hj] at q
      exact S.own j d' b q s
  · exact up b u (fun e => S.km b ⟨u, q, t⟩ h (e ▸ ha)) (S.kp b u q t h)
  · by_cases e : b = a
    · rw [e]; exact ⟨o, upd_same, no⟩
    · obtain ⟨u, e1, e2⟩ := S.kt b h n
      exact ⟨u, by rw [upd_ne e]; exact e1, e2⟩
/-- a list, dict of one's own is shared from now on -/
def frz (ρ : Env) (i : Nat) : Env := match ρ[i]? with
  | some (some (true, d)) => ρ.set i (some (false, d))
  | _ => ρ
theorem SOk.frz {i : Nat} (S : SOk K mg z P Mu H σ ρ g) : ∃ Mu', SOk K mg z P Mu' H σ (frz ρ i) g := by
  unfold DL.frz
  split
  · rename_i d0 hi
    obtain ⟨w, hs, a, rfl, ha, np, nl, nc, c0⟩ := S.env.val i true d0 hi
    have n0 := S.own i d0 a hi hs
    have il : i < ρ.length := (List.getElem?_eq_some_iff.mp hi).1
    refine ⟨Mu.filter (fun b => decide (b ≠ a)), ?_⟩
    have keep : ∀ b, b ∈ Mu → b ≠ a → b ∈ Mu.filter (fun b => decide (b ≠ a)) := fun b hb n => List.mem_filter.mpr ⟨hb, decide_eq_true n⟩
    have less : ∀ b, b ∈ Mu.filter (fun b => decide (b ≠ a)) → b ∈ Mu := fun b hb => (List.mem_filter.mp hb).1
    have na : a ∉ Mu.filter (fun b => decide (b ≠ a)) := fun h => of_decide_eq_true (List.mem_filter.mp h).2 rfl
    refine ⟨⟨by rw [List.length_set]; exact S.env.len, ⟨keep _ S.env.mu.p (Ne.symm np), keep _ S.env.mu.l (Ne.symm nl), keep _ S.env.mu.c (Ne.symm nc), fun b hb => S.env.mu.at_ b (less b hb), fun b hb => S.env.mu.nc b (less b hb), fun b hb => S.env.mu.nt b (less b hb)⟩, fun j t d' q => ?_, fun j k d1 d2 b q1 q2 s1 s2 => ?_⟩, S.g, S.ext, fun b hb => keep b (S.sub b hb) ((S.m0.at_ b hb).ne n0), S.m0, fun j d' b q s => ?_, S.kp, fun b q h w => S.km b q h (less b w), S.kz, S.kt⟩
    · by_cases hj : i = j
      · subst hj
        rw [List.getElem?_set_self il] at q
        cases q
        exact ⟨.ref a, hs, Cont.rep (c0.mono (fun _ e _ => e) (fun _ _ e _ _ => e) fun b _ h w => h (less b w)) na⟩
      · rw [List.getElem?_set_ne hj] at q
        obtain ⟨w, q1, q2⟩ := S.env.val j t d' q
        refine ⟨w, q1, q2.mono (fun b ev et => ⟨fun _ e _ => e, ?_⟩) (fun _ _ e _ _ => e) fun b _ h w => h (less b w)⟩
        subst et
        obtain ⟨b', ev', hb', m1, m2, m3, _⟩ := id q2
        have := ev.symm.trans ev'
        cases this
        refine keep b hb' fun e => ?_
        subst e
        subst ev
        exact hj (S.env.sep i j d0 d' b hi q hs q1)
    · have back : ∀ {j : Nat} {d1 : D}, (ρ.set i (some (false, d0)))[j]? = some (some (true, d1)) → ρ[j]? = some (some (true, d1)) := fun {j d1} q => by
        by_cases hj : i = j
        · subst hj
          rw [List.getElem?_set_self il] at q
          cases q
        · rw [List.getElem?_set_ne hj] at q; exact q
      exact S.env.sep j k d1 d2 b (back q1) (back q2) s1 s2
    · by_cases hj : i = j
      · subst hj
        rw [List.getElem?_set_self il] at q
        cases q
      · rw [List.getElem?_set_ne hj] at q
        exact S.own j d' b q s
  · exact ⟨Mu, S⟩
/-- a look back at this very state -/
def Snap.at_ (P : Snap) (H : Hp) (Mu : List Addr) : Snap := { P with kH := H, kM := Mu }
theorem SOk.snap (S : SOk K mg z P Mu H σ ρ g) : SOk K mg z (P.at_ H Mu) Mu H σ ρ g := ⟨S.env, S.g, S.ext, S.sub, S.m0, S.own, fun _ _ e _ _ => e, fun _ _ h => h, ⟨S.env.mu.p, S.env.mu.l⟩, fun _ h _ => h⟩
theorem SOk.unsnap {H1 : Hp} {M1 : List Addr} {σ1 : L2.St} {ρ1 : Env} {g1 : G} (S : SOk K mg z P M1 H1 σ1 ρ1 g1) (T : SOk K mg z (P.at_ H1 M1) Mu H σ ρ g) : SOk K mg z P Mu H σ ρ g :=
  ⟨T.env, T.g, T.ext, T.sub, T.m0, T.own, fun b u q t n => T.kp b u (S.kp b u q t n) t (S.km b ⟨u, q, t⟩ n), fun b h n => T.km b (S.kt b h n) (S.km b h n), S.kz, fun b h n => T.kt b (S.kt b h n) (S.km b h n)⟩
end
end DL
end
section
set_option Elab.async false
set_option linter.all false
set_option maxRecDepth 100000
set_option maxHeartbeats 2000000
/-! The value layer, part 7: statements' judgement, blocks, if, return, assignments, loops. -/
namespace DL
open PySem PySem.Spec PyProof.Rows L2

inductive Fl where
  | nx (ρ : Env) | ret (d : D) | bk (ρ : Env) | ct (ρ : Env)
abbrev Ss := Env → M Fl
/-- a def's entry: the heap, the barred addresses, the kind of its results -/
structure En where
  z : Zt
  W : WX
  k : Kd
  p : Snap
/-- what is wanted of a state -/
def SW (X : Cx) (n : En) (P : L2.St → Hp → Prop) (ρ : Env) (g : G) : Prop := ∀ σ H Mu, SOk X.K X.mg n.z n.p Mu H σ ρ g → P σ H
/-- what is wanted of an exception -/
def EW (X : Cx) (n : En) : Str → Str → List D → G → Prop := fun c f l g => ∀ σ cls dd H', Ext n.z n.p.H H' → GOk n.z H' g → ExcIs X.K X.mg n.z n.p.M H' c f l cls dd → n.W cls dd σ H'
def FW (X : Cx) (n : En) (D : Ends) : Fl → G → Prop
  | .nx ρ, g => SW X n D.nx ρ g
  | .bk ρ, g => SW X n D.bk ρ g
  | .ct ρ, g => SW X n D.ct ρ g
  | .ret d, g => ∀ v H', Ext n.z n.p.H H' → GOk n.z H' g → RK X.K X.mg n.z n.k n.p.H n.p.M H' v d → D.rt v H'
def tS (X : Cx) (n : En) (t : Ss) : TS := fun D σ H => ∃ ρ g Mu, SOk X.K X.mg n.z n.p Mu H σ ρ g ∧ (t ρ g).all (FW X n D) (EW X n)
abbrev DS (X : Cx) (n : En) (st : Stmt) (t : Ss) : Prop := PS X st (tS X n t)
abbrev DSs (X : Cx) (n : En) (st : List Stmt) (t : Ss) : Prop := PSs X st (tS X n t)

section
variable {X : Cx} {n : En} {st : Stmt} {sts : List Stmt} {k ka : Kd} {e a b : Expr} {f : Ep} {c : Et} {t u : Ss} {pos : Pos} {pins : List (Addr × Obj)} {s : Shared} {σ : L2.St} {H : Hp} {Mu : List Addr} {ρ : Env} {g : G}

/-- an exception within an expression is one of the def -/
theorem EW.x {α : Type} {r : R α} {P : α → G → Prop} (S : SOk X.K X.mg n.z n.p Mu H σ ρ g) (h : r.all P (EW X n)) : r.all P (XW X n.z n.W Mu σ H) :=
  R.all_imp h (fun _ _ h => h) fun c f l g' h cls dd H' e1 g1 x => by
    refine h σ cls dd H' (S.ext.trans e1) g1 ?_
    obtain ⟨C, h1, h2, h3⟩ := x
    refine ⟨C, h1, h2, ?_⟩
    rcases h3 with h3 | ⟨dx, v, d, h4, h5, h5', h6, h7⟩
    · exact .inl h3
    · exact .inr ⟨dx, v, d, h4, h5, fun w => h5' (S.sub dx w), h6, h7.mono (fun _ _ e _ _ => e) fun b _ q w => q (S.sub b w)⟩
theorem ds_nil : DSs X n [] (fun ρ => M.pure (.nx ρ)) :=
  ⟨fun pins s σ H D I ⟨ρ, g, Mu, S, hx⟩ => wpAny_execs_nil ⟨σ, H, I, hx σ H Mu S⟩⟩
/-- one statement, then others -/
def sSeq (t u : Ss) : Ss := fun ρ => do
  let fl ← t ρ
  match fl with
  | .nx ρ' => u ρ'
  | fl => M.pure fl
theorem ds_cons (h1 : DS X n st t) (h2 : DSs X n sts u) : DSs X n (st :: sts) (sSeq t u) := by
  refine ⟨fun pins s σ H D I ⟨ρ, g, Mu, S, hx⟩ => ?_⟩
  refine wpAny_execs_cons (thn (h1.run pins s σ H { D with nx := fun σ' H' => ∃ ρ' g' Mu', SOk X.K X.mg n.z n.p Mu' H' σ' ρ' g' ∧ (u ρ' g').all (FW X n D) (EW X n) } I ⟨ρ, g, Mu, S, ?_⟩) fun fl s1 q => ?_)
  · refine R.all_imp (R.all_bind hx) (fun fl g' h => ?_) fun _ _ _ _ h => h
    cases fl with
    | nx ρ' => exact fun σ' H' Mu' S' => ⟨ρ', g', Mu', S', h⟩
    | ret d => exact h
    | bk ρ' => exact h
    | ct ρ' => exact h
  · cases fl with
    | next =>
      obtain ⟨σ', H', I', q⟩ := q
      exact h2.run pins s1 σ' H' D I' q
    | ret v => exact q
    | brk => exact q
    | cont => exact q
theorem ds_one (h1 : DS X n st t) : DSs X n [st] t := by
  refine ⟨fun pins s σ H D I h => ?_⟩
  refine wpAny_execs_cons (thn (h1.run pins s σ H D I h) fun fl s1 q => ?_)
  cases fl with
  | next => exact wpAny_execs_nil q
  | ret v => exact q
  | brk => exact q
  | cont => exact q
def sIf (c : Et) (t u : Ss) : Ss := fun ρ => do if ← c ρ then t ρ else u ρ
theorem ds_if {A B : List Stmt} (hc : DT X n.z n.W a c) (ha : DSs X n A t) (hb : DSs X n B u) : DS X n (.If a A B pos) (sIf c t u) := by
  refine ⟨fun pins s σ H D I ⟨ρ, g, Mu, S, hx⟩ => ?_⟩
  refine wpAny_If (dt_run hc I S.env S.g (R.all_imp (EW.x S (R.all_bind hx)) (fun d g1 hx H1 s1 I1 e1 G2 E1 => ?_) fun _ _ _ _ h => h))
  cases d with
  | true => exact ha.run pins s1 σ H1 D I1 ⟨ρ, g1, Mu, S.step e1 G2, hx⟩
  | false => exact hb.run pins s1 σ H1 D I1 ⟨ρ, g1, Mu, S.step e1 G2, hx⟩
def sFrz (is : List Nat) (t : Ss) : Ss := fun ρ => t (is.foldl frz ρ)
theorem frz_all {K : PySem.W.Frag} {mg : Str → Option Value} {z : Zt} {P : Snap} : ∀ {is : List Nat} {ρ : Env} {Mu : List Addr}, SOk K mg z P Mu H σ ρ g → ∃ Mu', SOk K mg z P Mu' H σ (is.foldl frz ρ) g
  | [], _, _, S => ⟨_, S⟩
  | i :: is, _, _, S => by
    obtain ⟨M1, S1⟩ := S.frz (i := i)
    exact frz_all (is := is) S1
theorem ds_frz (is : List Nat) (h : DS X n st t) : DS X n st (sFrz is t) := by
  refine ⟨fun pins s σ H D I ⟨ρ, g, Mu, S, hx⟩ => ?_⟩
  obtain ⟨M1, S1⟩ := frz_all (is := is) S
  exact h.run pins s σ H D I ⟨_, g, M1, S1, hx⟩
/-- an expression whose value is dropped -/
def sExpr (f : Ep) : Ss := fun ρ => do let _ ← f ρ; M.pure (.nx ρ)
theorem ds_expr (h : DE X n.z n.W k e f) (hs : swapsWith e none pos.line X.env = pure false := by rfl) : DS X n (.Expr e pos) (sExpr f) := by
  refine ⟨fun pins s σ H D I ⟨ρ, g, Mu, S, hx⟩ => ?_⟩
  refine wpAny_Expr_any (de_run h I S.env S.g (R.all_imp (EW.x S (R.all_bind hx)) (fun d g1 hx v u H1 s1 I1 r1 e1 G2 E1 k1 => ?_) fun _ _ _ _ h => h)) I.quiet hs
  exact ⟨σ, H1, I1, hx σ H1 Mu (S.step e1 G2)⟩
def sRet (f : Ep) : Ss := fun ρ => do let d ← f ρ; M.pure (.ret d)
/-- a result of the statement's kind is one of the def's -/
theorem RK.out {K : PySem.W.Frag} {mg : Str → Option Value} {z : Zt} {P : Snap} {H1 : Hp} {v : V} {d : D} (S : SOk K mg z P Mu H σ ρ g) (hk : k = .new ∨ k = .sh) (r : RK K mg z k H Mu H1 v d) : RK K mg z k P.H P.M H1 v d := by
  have less : ∀ b, Oc H1 b → b ∉ Mu → b ∉ P.M := fun b _ h w => h (S.sub b w)
  rcases hk with rfl | rfl
  · have r1 := RK.back r S.ext S.g
    have r' : if d.box = true then ∃ a, v = .ref a ∧ ¬ Oc P.H a ∧ Cont K mg z (a :: Mu) H1 a d else Rep K mg z Mu H1 v d := r1
    show if d.box = true then ∃ a, v = .ref a ∧ ¬ Oc P.H a ∧ Cont K mg z (a :: P.M) H1 a d else Rep K mg z P.M H1 v d
    by_cases hb : d.box = true
    · rw [if_pos hb] at r' ⊢
      obtain ⟨a, ev, n0, c⟩ := r'
      refine ⟨a, ev, n0, c.mono (fun _ e _ => e) (fun _ _ e _ _ => e) fun b q h w => ?_⟩
      rcases List.mem_cons.mp w with w | w
      · exact h (w ▸ List.mem_cons_self)
      · exact h (List.mem_cons_of_mem _ (S.sub b w))
    · rw [if_neg hb] at r' ⊢
      exact r'.mono (fun _ _ e _ _ => e) less
  · exact Rep.mono (fun _ _ e _ _ => e) less r
theorem ds_ret (h : DE X n.z n.W n.k e f) (hk : n.k = .new ∨ n.k = .sh) : DS X n (.Return (some e) pos) (sRet f) := by
  refine ⟨fun pins s σ H D I ⟨ρ, g, Mu, S, hx⟩ => ?_⟩
  refine wpAny_Return_some (de_run h I S.env S.g (R.all_imp (EW.x S (R.all_bind hx)) (fun d g1 hx v u H1 s1 I1 r1 e1 G2 E1 k1 => ?_) fun _ _ _ _ h => h))
  exact ⟨v, σ, H1, I1, r1, hx v H1 (S.ext.trans e1) G2 (RK.out S hk k1)⟩
/-! ### x = e -/
def sSet (own : Bool) (i : Nat) (f : Ep) : Ss := fun ρ => do let d ← f ρ; M.pure (.nx (ρ.set i (some (own && d.box, d))))
theorem SOk.store {K : PySem.W.Frag} {mg : Str → Option Value} {z : Zt} {P : Snap} {H1 : Hp} {v : V} {d : D} {i : Nat} {g1 : G} (S : SOk K mg z P Mu H σ ρ g) (e1 : Ext z H H1) (G1 : GOk z H1 g1) (own : Bool) (hk : k = if own = true then .new else .sh) (r : RK K mg z k H Mu H1 v d) :
    ∃ Mu', SOk K mg z P Mu' H1 (σ.set i (some v)) (ρ.set i (some (own && d.box, d))) g1 := by
  cases own with
  | false =>
    have r' : Rep K mg z Mu H1 v d := by rw [hk] at r; exact r
    exact ⟨Mu, (S.step e1 G1).set r'⟩
  | true =>
    have r' : if d.box = true then ∃ a, v = .ref a ∧ ¬ Oc H a ∧ Cont K mg z (a :: Mu) H1 a d else Rep K mg z Mu H1 v d := by rw [hk] at r; exact r
    by_cases hb : d.box = true
    · rw [if_pos hb] at r'
      obtain ⟨a, rfl, n0, c⟩ := r'
      rw [hb]
      exact ⟨a :: Mu, S.setNew e1 G1 n0 c⟩
    · rw [if_neg hb] at r'
      have hb' : d.box = false := Bool.eq_false_iff.mpr hb
      rw [hb']
      exact ⟨Mu, (S.step e1 G1).set r'⟩
theorem ds_set {i : Nat} {x : Str} {p : Pos} (own : Bool) (hN : X.N.Nodup) (hi : X.N[i]? = some x) (hx : Loc X.env.scope x) (h : DE X n.z n.W (if own = true then .new else .sh) e f) (hs : swapsWith e (some (.Name x p)) pos.line X.env = pure false := by rfl)
    (hf : X.fn x = true ∨ X.env.scope.names.lookup x = some .local := by first | exact .inl rfl | exact .inr rfl | assumption) : DS X n (.Assign [.Name x p] e pos) (sSet own i f) := by
  refine ⟨fun pins s σ H D I ⟨ρ, g, Mu, S, hq⟩ => ?_⟩
  refine wpAny_Assign_Name (de_run h I S.env S.g (R.all_imp (EW.x S (R.all_bind hq)) (fun d g1 hq v u H1 s1 I1 r1 e1 G2 E1 k1 => ?_) fun _ _ _ _ h => h)) hs
  obtain ⟨Mu', S'⟩ := S.store (i := i) e1 G2 own rfl k1
  exact store_ok I1 hN hi hx r1 (fun s2 I2 => ⟨_, H1, I2, hq _ H1 Mu' S'⟩) hf
/-- x, y = e1, e2 -/
def sPar (o1 o2 : Bool) (i j : Nat) (f1 f2 : Ep) : Ss := fun ρ => do
  let d ← f1 ρ
  let d' ← f2 ρ
  M.pure (.nx ((ρ.set j (some (o2 && d'.box, d'))).set i (some (o1 && d.box, d))))
end
end DL
end
section
set_option Elab.async false
set_option linter.all false
set_option maxRecDepth 100000
set_option maxHeartbeats 2000000
/-! The value layer, part 8: targets, walked things, for, while, two assignments at once. -/
namespace DL
open PySem PySem.Spec PyProof.Rows L2

section
variable {K : PySem.W.Frag} {mg : Str → Option Value} {z : Zt} {P : Snap} {Mu : List Addr} {H H' : Hp} {v : V} {d : D} {σ : L2.St} {ρ : Env} {g g' : G}
/-- a new object is held, by no local yet -/
theorem SOk.bar {a : Addr} (S : SOk K mg z P Mu H σ ρ g) (e : Ext z H H') (G' : GOk z H' g') (n : ¬ Oc H a) (there : Oc H' a) (nco : ∀ q, H' a ≠ some (LamX.CodeO a q)) (ntu : ∀ o xs, H' a ≠ some (.frz o (.tup xs))) :
    SOk K mg z P (a :: Mu) H' σ ρ g' ∧ ¬ Oc P.H a ∧ a ∉ Mu := by
  have na : a ∉ Mu := fun w => n (S.env.mu.at_ a w)
  have np : a ≠ z.p := fun w => na (w ▸ S.env.mu.p)
  have nl : a ≠ z.l := fun w => na (w ▸ S.env.mu.l)
  have S1 := S.step e G'
  have n0 : ¬ Oc P.H a := S.ext.none n np nl
  refine ⟨⟨⟨S.env.len, ⟨List.mem_cons_of_mem _ S1.env.mu.p, List.mem_cons_of_mem _ S1.env.mu.l, List.mem_cons_of_mem _ S1.env.mu.c, fun b hb => ?_, fun b hb q => ?_, fun b hb ob xs => ?_⟩, fun j t d' q => ?_, S.env.sep⟩, G', S1.ext, fun b hb => List.mem_cons_of_mem _ (S.sub b hb), S.m0, S.own, S1.kp, fun b q h w => ?_, S.kz, S1.kt⟩, n0, na⟩
  · rcases List.mem_cons.mp hb with hb | hb
    · rw [hb]; exact there
    · exact S1.env.mu.at_ b hb
  · rcases List.mem_cons.mp hb with hb | hb
    · rw [hb]; exact nco q
    · exact S1.env.mu.nc b hb q
  · rcases List.mem_cons.mp hb with hb | hb
    · rw [hb]; exact ntu ob xs
    · exact S1.env.mu.nt b hb ob xs
  · obtain ⟨w, q1, q2⟩ := S.env.val j t d' q
    refine ⟨w, q1, q2.mono (fun b ev et => ?_) (e.m S.env.mu.p S.env.mu.l) fun b hu h w => ?_⟩
    · subst et
      obtain ⟨b', ev', hb', m1, m2, m3, _⟩ := id q2
      have := ev.symm.trans ev'
      cases this
      exact ⟨fun u hu nu => e.to b u hu nu m1 m2, List.mem_cons_of_mem _ hb'⟩
    · rcases List.mem_cons.mp w with w | w
      · exact hu.ne n w
      · exact h w
  · rcases List.mem_cons.mp w with w | w
    · exact (S.kt b q h).ne n w
    · exact S.km b q h w
end

/-! ### targets -/
/-- what a target's store leaves of the locals -/
structure Tch (is : List Nat) (σ σ' : L2.St) (ρ ρ' : Env) : Prop where
  len : σ'.length = σ.length
  out : ∀ i, i ∉ is → σ'[i]? = σ[i]? ∧ ρ'[i]? = ρ[i]?
  in_ : ∀ i, i ∈ is → ∀ d, ρ'[i]? ≠ some (some (true, d))
theorem Tch.refl {σ : L2.St} {ρ : Env} : Tch [] σ σ ρ ρ := ⟨rfl, fun _ _ => ⟨rfl, rfl⟩, fun _ h => absurd h (by simp)⟩
structure TgOk (X : Cx) (z : Zt) (tg : Expr) (g : TG) (t : D → Env → Option Env) (is : List Nat) : Prop where
  pg : PG X tg g
  ok : ∀ (v : V) (d : D) (σ : L2.St) (H : Hp) (ρ ρ' : Env) (Mu : List Addr) (Q : L2.St → Hp → Prop), EnvOk X.K X.mg z Mu H σ ρ → Rep X.K X.mg z Mu H v d → t d ρ = some ρ' →
    (∀ σ', EnvOk X.K X.mg z Mu H σ' ρ' → Tch is σ σ' ρ ρ' → Q σ' H) → g v σ H Q
structure TgsOk (X : Cx) (z : Zt) (tg : List Expr) (g : TGs) (t : List D → Env → Option Env) (is : List Nat) : Prop where
  pg : PGs X tg g
  ok : ∀ (vs : List V) (ds : List D) (σ : L2.St) (H : Hp) (ρ ρ' : Env) (Mu : List Addr) (Q : L2.St → Hp → Prop), EnvOk X.K X.mg z Mu H σ ρ → Reps X.K X.mg z Mu H vs ds → t ds ρ = some ρ' →
    (∀ σ', EnvOk X.K X.mg z Mu H σ' ρ' → Tch is σ σ' ρ ρ' → Q σ' H) → g vs σ H Q
def gN (i : Nat) : D → Env → Option Env := fun d ρ => some (ρ.set i (some (false, d)))
def gT (t : List D → Env → Option Env) : D → Env → Option Env := fun d ρ => match d with
  | .tup ds => t ds ρ
  | _ => none
def gNl : List D → Env → Option Env := fun ds ρ => match ds with
  | [] => some ρ
  | _ => none
def gCs (t : D → Env → Option Env) (u : List D → Env → Option Env) : List D → Env → Option Env := fun ds ρ => match ds with
  | d :: r => (t d ρ).bind (u r)
  | _ => none
section
variable {X : Cx} {z : Zt} {pos : Pos}
theorem tg_name {i : Nat} {x : Str} (hN : X.N.Nodup) (hi : X.N[i]? = some x) (hx : Loc X.env.scope x) (hf : X.fn x = true ∨ X.env.scope.names.lookup x = some .local := by first | exact .inl rfl | exact .inr rfl | assumption) : TgOk X z (.Name x pos) (gName i) (gN i) [i] := by
  refine ⟨pg_name hN hi hx hf, fun v d σ H ρ ρ' Mu Q E r h q => ?_⟩
  cases h
  refine q _ (E.set r) ⟨by rw [List.length_set], fun j hj => ?_, fun j hj d' h => ?_⟩
  · have hne : i ≠ j := fun e => hj (by simp [e])
    exact ⟨List.getElem?_set_ne hne, List.getElem?_set_ne hne⟩
  · have e : j = i := by simpa using hj
    subst e
    have hl : j < ρ.length := by
      have h1 := (List.getElem?_eq_some_iff.mp h).1
      rwa [List.length_set] at h1
    rw [List.getElem?_set_self hl] at h
    cases h
theorem tgs_nil : TgsOk X z [] gNil gNl [] := by
  refine ⟨pgs_nil, fun vs ds σ H ρ ρ' Mu Q E r h q => ?_⟩
  cases r with
  | nil =>
    cases h
    exact ⟨rfl, q σ E Tch.refl⟩
  | cons _ _ => cases h
theorem Tch.trans {is js : List Nat} {σ σ1 σ2 : L2.St} {ρ ρ1 ρ2 : Env} (a : Tch is σ σ1 ρ ρ1) (b : Tch js σ1 σ2 ρ1 ρ2) : Tch (is ++ js) σ σ2 ρ ρ2 := by
  refine ⟨b.len.trans a.len, fun i hi => ?_, fun i hi d => ?_⟩
  · have h1 : i ∉ is := fun h => hi (List.mem_append_left _ h)
    have h2 : i ∉ js := fun h => hi (List.mem_append_right _ h)
    exact ⟨(b.out i h2).1.trans (a.out i h1).1, (b.out i h2).2.trans (a.out i h1).2⟩
  · by_cases h2 : i ∈ js
    · exact b.in_ i h2 d
    · rw [(b.out i h2).2]
      rcases List.mem_append.mp hi with h | h
      · exact a.in_ i h d
      · exact absurd h h2
theorem tgs_cons {e : Expr} {es : List Expr} {g : TG} {gs : TGs} {t : D → Env → Option Env} {u : List D → Env → Option Env} {is js : List Nat} (h1 : TgOk X z e g t is) (h2 : TgsOk X z es gs u js)
    (hs : (assignEach (e :: es) X.env).map (·.2) = assign e X.env :: (assignEach es X.env).map (·.2) := by rfl) : TgsOk X z (e :: es) (gCons g gs) (gCs t u) (is ++ js) := by
  refine ⟨pgs_cons h1.pg h2.pg hs, fun vs ds σ H ρ ρ' Mu Q E r h q => ?_⟩
  cases r with
  | nil => cases h
  | cons r rs =>
    obtain ⟨ρ1, e1, e2⟩ := Option.bind_eq_some_iff.mp (show (t _ ρ).bind (u _) = some ρ' from h)
    refine ⟨_, _, rfl, h1.ok _ _ σ H ρ ρ1 Mu _ E r e1 fun σ1 E1 T1 => ?_⟩
    exact h2.ok _ _ σ1 H ρ1 ρ' Mu Q E1 rs e2 fun σ2 E2 T2 => q σ2 E2 (T1.trans T2)
theorem Rep.tup_inv {K : PySem.W.Frag} {mg : Str → Option Value} {Mu : List Addr} {H : Hp} {v : V} {ds : List D} (r : Rep K mg z Mu H v (.tup ds)) : ∃ a xs, v = .ref a ∧ a ∉ Mu ∧ TP H a xs ∧ Reps K mg z Mu H xs ds := by
  cases r with | tup n h r => exact ⟨_, _, rfl, n, h, r⟩
theorem tg_tup {es : List Expr} {k n : Nat} {gs : TGs} {u : List D → Env → Option Env} {is : List Nat} (hc : X.calm = true) (h : TgsOk X z es gs u is) (hl : ∀ ds ρ ρ', u ds ρ = some ρ' → ds.length = n)
    (hn : (assignEach es X.env).length = n := by rfl) (hst : (assignEach es X.env).findIdx? (·.1) = none := by rfl) : TgOk X z (.Tuple es k pos) (gTup X.K n gs) (gT u) is := by
  refine ⟨pg_tup hc h.pg hn hst, fun v d σ H ρ ρ' Mu Q E r hu q => ?_⟩
  unfold gT at hu
  split at hu
  · rename_i ds
    obtain ⟨a, xs, rfl, na, ha, rs⟩ := r.tup_inv
    exact ⟨a, xs, rfl, ha.sq, by rw [rs.length]; exact hl ds ρ ρ' hu, h.ok xs ds σ H ρ ρ' Mu Q E rs hu q⟩
  · cases hu
theorem gNl_len {ds : List D} {ρ ρ' : Env} (h : gNl ds ρ = some ρ') : ds.length = 0 := by
  cases ds with
  | nil => rfl
  | cons _ _ => cases h
theorem gCs_len' {t : D → Env → Option Env} {u : List D → Env → Option Env} {n : Nat} (hu : ∀ ds ρ ρ', u ds ρ = some ρ' → ds.length = n) {ds : List D} {ρ ρ' : Env} (h : gCs t u ds ρ = some ρ') : ds.length = n + 1 := by
  cases ds with
  | nil => cases h
  | cons d r =>
    obtain ⟨ρ1, e1, e2⟩ := Option.bind_eq_some_iff.mp (show (t d ρ).bind (u r) = some ρ' from h)
    rw [List.length_cons, hu _ _ _ e2]
/-- a, b = .. of names -/
theorem tg_two {e1 e2 : Expr} {k : Nat} {g1 g2 : TG} {t1 t2 : D → Env → Option Env} {is js : List Nat} (hc : X.calm = true) (h1 : TgOk X z e1 g1 t1 is) (h2 : TgOk X z e2 g2 t2 js)
    (hs1 : (assignEach [e1, e2] X.env).map (·.2) = assign e1 X.env :: (assignEach [e2] X.env).map (·.2) := by rfl) (hs2 : (assignEach [e2] X.env).map (·.2) = assign e2 X.env :: (assignEach [] X.env).map (·.2) := by rfl)
    (hn : (assignEach [e1, e2] X.env).length = 2 := by rfl) (hst : (assignEach [e1, e2] X.env).findIdx? (·.1) = none := by rfl) :
    TgOk X z (.Tuple [e1, e2] k pos) (gTup X.K 2 (gCons g1 (gCons g2 gNil))) (gT (gCs t1 (gCs t2 gNl))) (is ++ (js ++ [])) :=
  tg_tup hc (tgs_cons h1 (tgs_cons h2 tgs_nil hs2) hs1) (fun _ _ _ h => gCs_len' (fun _ _ _ h => gCs_len' (fun _ _ _ h => gNl_len h) h) h) hn hst
end

/-! ### what is walked -/
/-- J gives out ds, whatever changes at Nu; the items read with Mu barred -/
def Yields (K : PySem.W.Frag) (mg : Str → Option Value) (z : Zt) (Nu Mu : List Addr) (J : It) (H : Hp) (ds : List D) : Prop :=
  ∀ H2, ExtM Nu H H2 → ∀ i, (∀ d, ds[i]? = some d → J.go i H2 ∧ ∀ x H3, J.yld i H2 x H3 → Same H2 H3 ∧ ∀ M2 : List Addr, (∀ b, Oc H b → b ∉ Mu → b ∉ M2) → (∀ b ∈ M2, Oc H2 b) → Rep K mg z M2 H3 x d) ∧ (ds.length ≤ i → J.stop i H2)
/-- pk: within an expression, where nothing but the draw state changes -/
def tI (X : Cx) (z : Zt) (W : WX) (pk : Bool) (f : Es) : TI := fun σ H R => ∃ ρ g Mu, EnvOk X.K X.mg z Mu H σ ρ ∧ GOk z H g ∧
  (f ρ g).all (fun ds g' => ∀ J H', Ext z H H' → GOk z H' g' → Yields X.K X.mg z (if pk = true then [z.p, z.l] else Mu) Mu J H' ds → R J H') (XW X z W Mu σ H)
abbrev DI (X : Cx) (z : Zt) (W : WX) (pk : Bool) (tg iter : Expr) (f : Es) : Prop := PI X tg iter (tI X z W pk f)
/-- the items of a list, a tuple -/
def sItems (f : Ep) : Es := fun ρ => do
  let d ← f ρ
  match d with
  | .lst l => M.pure l
  | .tup l => M.pure l
  | .dct l => M.pure (l.map (·.1))
  | _ => stuck
theorem all_items {d : D} {P : List D → G → Prop} {E : Str → Str → List D → G → Prop} {g : G} (h : ((match d with | .lst l => M.pure l | .tup l => M.pure l | .dct l => M.pure (l.map (fun p : D × D => p.1)) | _ => stuck) g : R (List D)).all P E) : ∃ l, (d = .lst l ∨ d = .tup l ∨ ∃ kv, d = .dct kv ∧ l = kv.map (·.1)) ∧ P l g := by
  cases d <;> first | exact h.elim | exact ⟨_, .inl rfl, h⟩ | exact ⟨_, .inr (.inl rfl), h⟩ | exact ⟨_, .inr (.inr ⟨_, rfl, rfl⟩), h⟩
/-- the keys of the dict at a, in their order; the object stays -/
def Itx (a : Addr) (o : Obj) (ks : List V) : It :=
  ⟨fun i H => H a = some (ObV a o) ∧ i < ks.length, fun i H x H' => H' = H ∧ ks[i]? = some x, fun i H => H a = some (ObV a o) ∧ ks.length ≤ i⟩
theorem turn_keysX {P : Program} {w : World} {K : PySem.W.Frag} {tg : Expr} {a : Addr} {o : Obj} {es : Array DictEntry} {ep : Nat} {ks : List V} (it : Addr) (hod : o.data = .dict es ep) (hv : Vals ks (es.toList.map (·.key))) :
    Turn P w K tg (Itx a o ks) [it] it (fun i h => h.IsKeyIter it a i ks.length ep) where
  mem := by simp
  obj := fun i h st b hb => by
    have e : b = it := by simpa using hb
    subst e
    obtain ⟨oi, e, c, dd⟩ := st
    exact ⟨oi, e, fun v z => by rw [dd] at z; cases z⟩
  keep := fun i h h' st k => st.at fun oi e => k it (by simp) oi e
  item := by
    intro X hP hw hK hc i pins s σ H E I hf st hg
    subst hP hw hK
    obtain ⟨hd, hi⟩ := hg
    obtain ⟨f0, f1, f2, f3, f4, f5⟩ := hf it (by simp)
    have hgd : s.heap.get? a = some o := (I.hok a _ hd).1
    have hl : es.size = ks.length := by
      have := Vals.length hv
      rw [List.length_map, Array.length_toList] at this
      exact this.symm
    obtain ⟨en, hen⟩ : ∃ en, es[i]? = some en := ⟨es[i], Array.getElem?_eq_getElem (by omega)⟩
    have hkv : ks[i]? = some ks[i] := List.getElem?_eq_getElem hi
    obtain ⟨u, hu, ru⟩ := Vals.get hv hkv
    have eu : u = en.key := by
      rw [List.getElem?_map, Array.getElem?_toList, hen] at hu
      exact (Option.some.inj hu).symm
    subst eu
    refine next_key_item st hgd hod hl hen fun h' st' sb => ?_
    have I1 : Inv X pins σ H { s with heap := h' } := I.turned (t' := s.toks) (fun b ob hb e => (sb.2 b hb).trans e) f0 f1 f3 f4 f5
    obtain ⟨oi, e, c, dd⟩ := id st'
    exact ⟨en.key, rfl, go_of (s := { s with heap := h' }) e c dd (by decide) ⟨ks[i], H, I1, ru, ⟨rfl, hkv⟩, st', fun b hb => (hf b hb).1⟩⟩
  done := by
    intro X hP hw hK hc i pins s σ H E I hf st hg
    subst hP hw hK
    obtain ⟨hd, hi⟩ := hg
    obtain ⟨f0, f1, f2, f3, f4, f5⟩ := hf it (by simp)
    have hgd : s.heap.get? a = some o := (I.hok a _ hd).1
    have hl : es.size = ks.length := by
      have := Vals.length hv
      rw [List.length_map, Array.length_toList] at this
      exact this.symm
    exact next_key_end (I.ok.hd hc) st hgd hod hl hi fun h' eb => ⟨rfl, I.turned (t' := s.toks) (fun b ob hb e => eb b ob hb e) f0 f1 f3 f4 f5⟩
  self := fun A i s Q E st h => by
    refine wpAny_pyIter_slot st.typeIs PySem.F.slot_dict_keyiterator_iter (wpAny_call_entry PySem.F.slot_dict_keyiterator_iter st.typeIs PySem.F.entry_dict_keyiterator_iter ?_ (PySem.F.args_dict_keyiterator_iter_1 _))
    show wpAny _ _ (ret (.ref it)) _ _ s
    exact wpAny_pure ⟨_, rfl, "dict_keyiterator", _, st.typeIs, PySem.F.slot_dict_keyiterator_next.lookup, h⟩
section
variable {X : Cx} {z : Zt} {W : WX} {k : Kd} {e tg : Expr} {f : Ep} {pos p : Pos}
theorem yields_list {K : PySem.W.Frag} {mg : Str → Option Value} {Nu Mu : List Addr} {H : Hp} {a : Addr} {xs : List V} {ds : List D} (hn : a ∉ Nu) (h : H a = some (.lst xs)) (r : Reps K mg z Mu H xs ds) (hs : ∀ b ∈ Nu, b ∈ Mu) : Yields K mg z Nu Mu (Itl K a) H ds := by
  intro H2 e i
  have h2 : H2 a = some (.lst xs) := e _ _ h trivial hn
  have r2 : ∀ M2 : List Addr, (∀ b, Oc H b → b ∉ Mu → b ∉ M2) → Reps K mg z M2 H2 xs ds := fun M2 hm => r.mono (fun b u q t n => e b u q t (fun w => n (hs b w))) hm
  refine ⟨fun d hd => ?_, fun hi => ⟨xs, SqL.of h2, by rw [r.length]; exact hi⟩⟩
  obtain ⟨v, hv, _⟩ := r.get' hd
  refine ⟨⟨xs, v, SqL.of h2, hv⟩, fun x H3 y => ?_⟩
  obtain ⟨rfl, y⟩ := y
  have q := y xs (SqL.of h2)
  refine ⟨Same.refl, fun M2 hm _ => ?_⟩
  obtain ⟨d', hd', rd⟩ := (r2 M2 hm).get q
  rw [hd] at hd'
  cases hd'
  exact rd
theorem yields_keys {K : PySem.W.Frag} {mg : Str → Option Value} {Nu Mu : List Addr} {H : Hp} {a : Addr} {o : Obj} {ks : List V} {ds : List D} (hn : a ∉ Nu) (h : H a = some (ObV a o)) (r : Reps K mg z Mu H ks ds) (hs : ∀ b ∈ Nu, b ∈ Mu) : Yields K mg z Nu Mu (Itx a o ks) H ds := by
  intro H2 e i
  have h2 : H2 a = some (ObV a o) := e _ _ h trivial hn
  have r2 : ∀ M2 : List Addr, (∀ b, Oc H b → b ∉ Mu → b ∉ M2) → Reps K mg z M2 H2 ks ds := fun M2 hm => r.mono (fun b u q t n => e b u q t (fun w => n (hs b w))) hm
  refine ⟨fun d hd => ?_, fun hi => ⟨h2, by rw [r.length]; exact hi⟩⟩
  obtain ⟨v, hv, _⟩ := r.get' hd
  refine ⟨⟨h2, (List.getElem?_eq_some_iff.mp hv).1⟩, fun x H3 y => ?_⟩
  obtain ⟨rfl, q⟩ := y
  refine ⟨Same.refl, fun M2 hm _ => ?_⟩
  obtain ⟨d', hd', rd⟩ := (r2 M2 hm).get q
  rw [hd] at hd'
  cases hd'
  exact rd
theorem yields_tup {K : PySem.W.Frag} {mg : Str → Option Value} {Nu Mu : List Addr} {H : Hp} {a : Addr} {xs : List V} {ds : List D} (hn : a ∉ Nu) (h : TP H a xs) (r : Reps K mg z Mu H xs ds) (hs : ∀ b ∈ Nu, b ∈ Mu) : Yields K mg z Nu Mu (Itt K a) H ds := by
  intro H2 e i
  have h2 : TP H2 a xs := h.to fun _ q t => e _ _ q t hn
  have r2 : ∀ M2 : List Addr, (∀ b, Oc H b → b ∉ Mu → b ∉ M2) → Reps K mg z M2 H2 xs ds := fun M2 hm => r.mono (fun b u q t n => e b u q t (fun w => n (hs b w))) hm
  refine ⟨fun d hd => ?_, fun hi => ⟨xs, h2.sq, by rw [r.length]; exact hi⟩⟩
  obtain ⟨v, hv, _⟩ := r.get' hd
  refine ⟨⟨xs, v, h2.sq, hv⟩, fun x H3 y => ?_⟩
  obtain ⟨rfl, y⟩ := y
  have q := y xs (h2.sq)
  refine ⟨Same.refl, fun M2 hm _ => ?_⟩
  obtain ⟨d', hd', rd⟩ := (r2 M2 hm).get q
  rw [hd] at hd'
  cases hd'
  exact rd
end
end DL
end
section
set_option Elab.async false
set_option linter.all false
set_option maxRecDepth 100000
set_option maxHeartbeats 2000000
/-! The value layer, part 9: walks of lists, tuples, ranges; for, while; two assignments at once; list comprehensions. -/
namespace DL
open PySem PySem.Spec PyProof.Rows L2

def rangeL (lo : Int) (n : Nat) : List D := (List.range n).map fun i : Nat => D.int (lo + (i : Int))
def fR1 : D → Option (List D)
  | .int j => if -(2 ^ 62) ≤ j ∧ j < 2 ^ 62 then some (rangeL 0 j.toNat) else none
  | _ => none
def fR2 : D → D → Option (List D)
  | .int i, .int j => if -(2 ^ 62) ≤ i ∧ i < 2 ^ 62 ∧ -(2 ^ 62) ≤ j ∧ j < 2 ^ 62 then some (rangeL i (j - i).toNat) else none
  | _, _ => none
theorem fR2_some {d d' : D} {l : List D} (h : fR2 d d' = some l) : ∃ i j, d = .int i ∧ d' = .int j ∧ (-(2 ^ 62) ≤ i ∧ i < 2 ^ 62 ∧ -(2 ^ 62) ≤ j ∧ j < 2 ^ 62) ∧ l = rangeL i (j - i).toNat := by
  unfold fR2 at h
  split at h
  · split at h
    · rename_i hc
      cases h
      exact ⟨_, _, rfl, rfl, hc, rfl⟩
    · cases h
  · cases h
def sRange1 (f : Ep) : Es := fun ρ => do let d ← f ρ; ofOpt (fR1 d)
def sRange2 (f h : Ep) : Es := fun ρ => do let d ← f ρ; let d' ← h ρ; ofOpt (fR2 d d')
section
variable {X : Cx} {z : Zt} {W : WX} {pk : Bool} {k ka kb : Kd} {e a b tg : Expr} {f fa fb : Ep} {pos p : Pos}
theorem di_seq (h : DE X z W (if pk = true then .peek else .sh) e f) : DI X z W pk tg e (sItems f) := by
  refine ⟨fun pins s σ H Rr I ⟨ρ, g, Mu, E, G1, hx⟩ => ?_⟩
  refine de_run h I E G1 (R.all_imp (R.all_bind hx) (fun d g1 hx v u H1 s1 I1 r1 e1 G2 E1 k1 => ?_) fun _ _ _ _ h => h)
  obtain ⟨l, hd, hx⟩ := all_items hx
  have m1 := E1.mu
  have hs : ∀ b ∈ (if pk = true then [z.p, z.l] else Mu), b ∈ Mu := by
    intro b hb
    cases pk with
    | false => exact hb
    | true =>
      rcases List.mem_cons.mp hb with hb | hb
      · rw [hb]; exact m1.p
      · rw [List.mem_singleton.mp hb]; exact m1.l
  have nn : ∀ a, (a ∉ Mu ∨ (pk = true ∧ a ≠ z.p ∧ a ≠ z.l)) → a ∉ (if pk = true then [z.p, z.l] else Mu) := by
    intro a ha hb
    rcases ha with ha | ⟨hpk, n1, n2⟩
    · exact ha (hs a hb)
    · subst hpk
      rcases List.mem_cons.mp hb with hb | hb
      · exact n1 hb
      · exact n2 (List.mem_singleton.mp hb)
  have L : ∀ {a : Addr} {xs : List V} {ds : List D}, v = .ref a → d = .lst ds → (a ∉ Mu ∨ (pk = true ∧ a ≠ z.p ∧ a ≠ z.l)) → H1 a = some (.lst xs) → Reps X.K X.mg z Mu H1 xs ds → wpAny (model X.prog X.w) X.A (pyIter u) (PIE X pins σ tg Rr) X.xe s1 := by
    intro a xs ds ev ed ha hh rs
    subst ev
    cases r1
    rcases hd with hd | hd | ⟨kv, hd, _⟩
    · rw [ed] at hd
      cases hd
      obtain ⟨its, rv, pl, hz⟩ := I1.list (SqL.of hh)
      refine wpAny_pyIter_list pl.isList ?_
      refine ⟨s1.heap.objs.size, [s1.heap.objs.size], _, _, H1, rfl, I1.kept (t' := s1.toks) fun b o e => Heap.get?_push_of_some _ e, turn_list a _, ⟨_, Heap.get?_push_size _ rfl, rfl, rfl⟩, fun b hb => ?_, hx _ H1 e1 G2 (yields_list (nn a ha) hh rs hs)⟩
      have e : b = s1.heap.objs.size := by simpa using hb
      subst e
      exact I1.fpOk (Nat.le_refl _) (I1.hok.fresh (Nat.le_refl _))
    · rw [ed] at hd; cases hd
    · rw [ed] at hd; cases hd
  have T : ∀ {a : Addr} {xs : List V} {ds : List D}, v = .ref a → d = .tup ds → a ∉ Mu → TP H1 a xs → Reps X.K X.mg z Mu H1 xs ds → wpAny (model X.prog X.w) X.A (pyIter u) (PIE X pins σ tg Rr) X.xe s1 := by
    intro a xs ds ev ed ha hh rs
    subst ev
    cases r1
    rcases hd with hd | hd | ⟨kv, hd, _⟩
    · rw [ed] at hd; cases hd
    rotate_left
    · rw [ed] at hd; cases hd
    · rw [ed] at hd
      cases hd
      obtain ⟨its, rv, pl, hz⟩ := I1.tuple (hh.sq)
      refine wpAny_pyIter_tuple (show s1.heap.IsTuple a its.toArray from pl) ?_
      refine ⟨s1.heap.objs.size, [s1.heap.objs.size], _, _, H1, rfl, I1.kept (t' := s1.toks) fun b o e => Heap.get?_push_of_some _ e, turn_tuple a _, ⟨_, Heap.get?_push_size _ rfl, rfl, rfl⟩, fun b hb => ?_, hx _ H1 e1 G2 (yields_tup (nn a (.inl ha)) hh rs hs)⟩
      have e : b = s1.heap.objs.size := by simpa using hb
      subst e
      exact I1.fpOk (Nat.le_refl _) (I1.hok.fresh (Nat.le_refl _))
  have D : ∀ {a : Addr} {o : Obj} {es : Array DictEntry} {ep : Nat} {ks vs : List V} {kv : List (D × D)}, v = .ref a → d = .dct kv → l = kv.map (·.1) → (a ∉ Mu ∨ (pk = true ∧ a ≠ z.p ∧ a ≠ z.l)) → H1 a = some (ObV a o) → (a == sysModules) = false → o.ExactDict → o.data = .dict es ep → EnK ks vs es → Reps X.K X.mg z Mu H1 ks (kv.map (·.1)) → wpAny (model X.prog X.w) X.A (pyIter u) (PIE X pins σ tg Rr) X.xe s1 := by
    intro a o es ep ks vs kv ev ed el ha hh hsys hex hdt en rs
    subst ev
    cases r1
    have hgd : s1.heap.get? a = some o := (I1.hok a _ hh).1
    have hl : es.size = ks.length := by
      have := Vals.length en.1
      rw [List.length_map, Array.length_toList] at this
      exact this.symm
    refine iter_keys hsys hgd hex hdt (pi_one (tk := s1.toks) I1 _ (turn_keysX (ks := ks) _ hdt en.1) ⟨_, Heap.get?_push_size _ rfl, rfl, ?_⟩ (hx _ H1 e1 G2 (by rw [el]; exact yields_keys (nn a ha) hh rs hs)))
    rw [hl] <;> rfl
  have go : PR X.K X.mg z Mu H1 v d → (∀ a, (∃ c : Cont X.K X.mg z Mu H1 a d, True) → v = .ref a → a ∈ Mu → pk = true) → wpAny (model X.prog X.w) X.A (pyIter u) (PIE X pins σ tg Rr) X.xe s1 := by
    intro pr hp
    rcases pr with r | ⟨a, ev, ha, n1, n2, n3, c⟩
    · rcases hd with hd | hd | ⟨kv, hd, el⟩
      · subst hd
        cases r with
        | lst n h rs => exact L rfl rfl (.inl n) h rs
      · subst hd
        cases r with
        | tup n h rs => exact T rfl rfl n h rs
      · subst hd
        cases r with
        | dct n h h1 h2 h3 h4 h5 r1 r2 ky => exact D rfl rfl el (.inl n) h h1 h2 h3 h5 r1
    · have hpk := hp a ⟨c, trivial⟩ ev ha
      rcases hd with hd | hd | ⟨kv, hd, el⟩
      · subst hd
        cases c with
        | lst h rs => exact L ev rfl (.inr ⟨hpk, n1, n2⟩) h rs
      · subst hd
        cases c
      · subst hd
        cases c with
        | dct h h1 h2 h3 h4 h5 r1 r2 ky => exact D ev rfl el (.inr ⟨hpk, n1, n2⟩) h h1 h2 h3 h5 r1
  cases pk with
  | true => exact go k1 fun _ _ _ _ => rfl
  | false =>
    have r : Rep X.K X.mg z Mu H1 v d := k1
    rcases hd with hd | hd | ⟨kv, hd, el⟩
    · subst hd
      cases r with
      | lst n h rs => exact L rfl rfl (.inl n) h rs
    · subst hd
      cases r with
      | tup n h rs => exact T rfl rfl n h rs
    · subst hd
      cases r with
      | dct n h h1 h2 h3 h4 h5 r1 r2 ky => exact D rfl rfl el (.inl n) h h1 h2 h3 h5 r1
theorem yields_range {K : PySem.W.Frag} {mg : Str → Option Value} {Nu Mu : List Addr} {H : Hp} (lo : Int) (n : Nat) : Yields K mg z Nu Mu (Itr lo n) H (rangeL lo n) := by
  intro H2 e i
  unfold rangeL
  refine ⟨fun d hd => ?_, fun hi => by rw [List.length_map, List.length_range] at hi; exact hi⟩
  rw [List.getElem?_map] at hd
  obtain ⟨j, hj, rfl⟩ := Option.map_eq_some_iff.mp hd
  have hlt : i < n := by
    have h := (List.getElem?_eq_some_iff.mp hj).1
    rwa [List.length_range] at h
  have ej : j = i := by
    rw [List.getElem?_range hlt] at hj
    exact (Option.some.inj hj).symm
  subst ej
  refine ⟨hlt, fun x H3 y => ?_⟩
  obtain ⟨rfl, rfl⟩ := y
  exact ⟨Same.refl, fun _ _ _ => .int _⟩
theorem di_range1 (hg : Gl X "range") (hm : X.mg "range" = none) (ha : DE X z W k a f) (hs : starEach [a] X.env = (false, eval a X.env) :: starEach [] X.env := by rfl) (hs2 : starEach [a] X.env = [(false, eval a X.env)] := by rfl) : DI X z W pk tg (.Call (.Name "range" p) [a] [] pos) (sRange1 f) := by
  refine ⟨fun pins s σ H Rr I ⟨ρ, g, Mu, E, G1, hx⟩ => ?_⟩
  refine (pi_range1 hg hm (pa_cons ha pa_nil hs) hs2).run pins s σ H Rr I ⟨ρ, g, Mu, E, G1, R.all_imp (R.all_bind hx) (fun d g1 hx v H1 e1 G2 k1 => ?_) fun _ _ _ _ h => h⟩
  obtain ⟨l, hl, hx⟩ := R.all_opt hx
  unfold fR1 at hl
  split at hl
  · rename_i j
    obtain ⟨⟨h1, h2⟩, rfl⟩ := opt_if hl
    have ev := (k1.peek E.mu (E.mu.ext (g := g) e1 G2) G2).int
    subst ev
    exact ⟨j, rfl, h1, h2, hx _ H1 e1 G2 (yields_range 0 _)⟩
  · cases hl
theorem di_range2 (hg : Gl X "range") (hm : X.mg "range" = none) (ha : DE X z W ka a fa) (hb : DE X z W kb b fb) (hs : starEach [a, b] X.env = (false, eval a X.env) :: starEach [b] X.env := by rfl) (hs' : starEach [b] X.env = (false, eval b X.env) :: starEach [] X.env := by rfl)
    (h2 : starEach [a, b] X.env = [(false, eval a X.env), (false, eval b X.env)] := by rfl) (h3 : starEach [b] X.env = [(false, eval b X.env)] := by rfl) : DI X z W pk tg (.Call (.Name "range" p) [a, b] [] pos) (sRange2 fa fb) := by
  refine ⟨fun pins s σ H Rr I ⟨ρ, g, Mu, E, G1, hx⟩ => ?_⟩
  refine (pi_range2 hg hm (pa_cons ha (pa_cons hb pa_nil hs') hs) h2 h3).run pins s σ H Rr I ⟨ρ, g, Mu, E, G1, R.all_imp (R.all_bind hx) (fun d g1 hx v H1 e1 G2 k1 => ?_) fun _ _ _ _ h => h⟩
  have E1 := E.ext G1 e1 G2
  show tCons (tE X z W kb fb) tNil σ H1 _
  refine ⟨ρ, g1, Mu, E1, G2, R.all_imp (Raising.all (R.all_bind hx) e1) (fun d' g2 hx v' H2 e2 G3 k2 => ?_) fun _ _ _ _ h => h⟩
  obtain ⟨l, hl, hx⟩ := R.all_opt hx
  obtain ⟨i, j, rfl, rfl, h1, rfl⟩ := fR2_some hl
  have ev := (k1.peek E.mu E1.mu G2).int
  have ev' := (k2.peek E1.mu (E1.mu.ext (g := g1) e2 G3) G3).int
  subst ev ev'
  exact ⟨i, j, rfl, h1, hx _ H2 (e1.trans e2) G3 (yields_range _ _)⟩
end

/-! ### for -/
def sForL (t : D → Env → Option Env) (body : Ss) : List D → Ss
  | [], ρ => M.pure (.nx ρ)
  | d :: l, ρ => do
    let ρ1 ← ofOpt (t d ρ)
    let fl ← body ρ1
    match fl with
    | .nx ρ' => sForL t body l ρ'
    | .ct ρ' => sForL t body l ρ'
    | .bk ρ' => M.pure (.nx ρ')
    | .ret d => M.pure (.ret d)
def sFor (f : Es) (t : D → Env → Option Env) (body : Ss) : Ss := fun ρ => do
  let l ← f ρ
  sForL t body l ρ
section
variable {X : Cx} {n : En} {tg iter c : Expr} {body : List Stmt} {f : Es} {t : D → Env → Option Env} {is : List Nat} {gt : TG} {tb : Ss} {tc : Et} {pos : Pos}
theorem SOk.tch {K : PySem.W.Frag} {mg : Str → Option Value} {z : Zt} {P : Snap} {H : Hp} {Mu : List Addr} {σ σ' : L2.St} {ρ ρ' : Env} {g : G} (S : SOk K mg z P Mu H σ ρ g) (E : EnvOk K mg z Mu H σ' ρ') (T : Tch is σ σ' ρ ρ') : SOk K mg z P Mu H σ' ρ' g :=
  ⟨E, S.g, S.ext, S.sub, S.m0, fun i d a q s => by
    by_cases hi : i ∈ is
    · exact absurd q (T.in_ i hi d)
    · rw [(T.out i hi).2] at q
      rw [(T.out i hi).1] at s
      exact S.own i d a q s, S.kp, S.km, S.kz, S.kt⟩
/-- the same, with a look back at this state -/
def En.snap (n : En) (H : Hp) (Mu : List Addr) : En := { n with p := n.p.at_ H Mu }
theorem PSs.ex {α : Type} {X : Cx} {b : List Stmt} {t : α → TS} (h : ∀ a, PSs X b (t a)) : PSs X b (fun D σ H => ∃ a, t a D σ H) := ⟨fun pins s σ H D I ⟨a, q⟩ => (h a).run pins s σ H D I q⟩
theorem SW.unsnap {P : L2.St → Hp → Prop} {H1 : Hp} {M1 : List Addr} {σ1 : L2.St} {ρ1 ρ : Env} {g1 g : G} (S : SOk X.K X.mg n.z n.p M1 H1 σ1 ρ1 g1) (h : SW X n P ρ g) : SW X (n.snap H1 M1) P ρ g := fun σ H Mu T => h σ H Mu (S.unsnap T)
theorem ds_for (hp : PassesOwn (model X.prog X.w) X.A X.env X.xe) (hc : X.calm = true) (hi : DI X n.z n.W false tg iter f) (hg : TgOk X n.z tg gt t is) (hb : ∀ H Mu, DSs X (n.snap H Mu) body tb)
    (hs : ∀ x, foldedSetIterable iter X.env x = pure x := by intro _; rfl) : DS X n (.For tg iter body [] pos) (sFor f t tb) := by
  refine ⟨fun pins s σ H D I ⟨ρ, g, Mu, S, hx⟩ => ?_⟩
  refine (ps_for hp hc hi hg.pg (PSs.ex (α := Hp × List Addr) fun a => hb a.1 a.2) hs).run pins s σ H D I ⟨ρ, g, Mu, S.env, S.g, R.all_imp (EW.x S (R.all_eq (R.all_bind hx))) (fun ds g1 ⟨hq, hx⟩ J H1 e1 G2 hy => ?_) fun _ _ _ _ h => h⟩
  have hy : Yields X.K X.mg n.z Mu Mu J H1 ds := hy
  have S1 := S.step e1 G2
  refine ⟨fun i m σ2 H2 => m = ds.length - i ∧ i ≤ ds.length ∧ ∃ ρ2 g2 Mu2, SOk X.K X.mg n.z (n.p.at_ H1 Mu) Mu2 H2 σ2 ρ2 g2 ∧ (sForL t tb (ds.drop i) ρ2 g2).all (FW X n D) (EW X n), ⟨ds.length, rfl, Nat.zero_le _, ρ, g1, Mu, S1.snap, hx⟩, ?_⟩
  rintro i m σ2 H2 ⟨rfl, hle, ρ2, g2, Mu2, S2, hx2⟩
  obtain ⟨y1, y2⟩ := hy H2 S2.kp i
  by_cases hlt : i < ds.length
  · obtain ⟨hgo, hyl⟩ := y1 ds[i] (List.getElem?_eq_getElem hlt)
    rw [List.drop_eq_getElem_cons hlt] at hx2
    have hx2 := R.all_bind hx2
    obtain ⟨ρ3, ht, hx3⟩ := R.all_opt hx2
    refine .inr ⟨hgo, fun σ' H' => ∃ ρ' g' Mu', SOk X.K X.mg n.z (n.p.at_ H1 Mu) Mu' H' σ' ρ' g' ∧ (sForL t tb (ds.drop (i + 1)) ρ' g').all (FW X n D) (EW X n), ?_, fun x H3 y => ?_⟩
    · rintro σ' H' ⟨ρ', g', Mu', S', hx'⟩
      exact ⟨ds.length - (i + 1), by omega, rfl, hlt, ρ', g', Mu', S', hx'⟩
    · obtain ⟨sm, rep⟩ := hyl x H3 y
      have S3 := S2.step (Ext.of sm) (S2.g.same sm)
      have rx := rep Mu2 S2.km S2.env.mu.at_
      refine hg.ok x ds[i] σ2 H3 ρ2 ρ3 Mu2 _ S3.env rx ht fun σ4 E4 T4 => ?_
      refine ⟨(H1, Mu), ρ3, g2, Mu2, S3.tch E4 T4, ?_⟩
      refine R.all_imp (R.all_bind hx3) (fun fl g3 hf => ?_) fun _ _ _ _ h => h
      cases fl with
      | nx ρ' => exact fun σ5 H5 Mu5 S5 => ⟨ρ', g3, Mu5, S5, hf⟩
      | ct ρ' => exact fun σ5 H5 Mu5 S5 => ⟨ρ', g3, Mu5, S5, hf⟩
      | bk ρ' => exact SW.unsnap S1 hf
      | ret d => exact hf
  · refine .inl ⟨y2 (by omega), ?_⟩
    rw [List.drop_eq_nil_of_le (by omega)] at hx2
    exact hx2 σ2 H2 Mu2 (S1.unsnap S2)
/-! ### while -/
/-- at most N turns -/
def sWhile (c : Et) (body : Ss) : Nat → Ss
  | 0, _ => stuck
  | N + 1, ρ => do
    if ← c ρ then
      let fl ← body ρ
      match fl with
      | .nx ρ' => sWhile c body N ρ'
      | .ct ρ' => sWhile c body N ρ'
      | .bk ρ' => M.pure (.nx ρ')
      | .ret d => M.pure (.ret d)
    else M.pure (.nx ρ)
theorem ds_while (N : Nat) (hp : PassesOwn (model X.prog X.w) X.A X.env X.xe) (hc : DT X n.z n.W c tc) (hb : DSs X n body tb) : DS X n (.While c body [] pos) (sWhile tc tb N) := by
  refine ⟨fun pins s σ H D I ⟨ρ, g, Mu, S, hx⟩ => ?_⟩
  refine (ps_while hp hc hb).run pins s σ H D I ⟨fun m σ2 H2 => ∃ ρ2 g2 Mu2, SOk X.K X.mg n.z n.p Mu2 H2 σ2 ρ2 g2 ∧ (sWhile tc tb m ρ2 g2).all (FW X n D) (EW X n), ⟨N, ρ, g, Mu, S, hx⟩, ?_⟩
  rintro m σ2 H2 ⟨ρ2, g2, Mu2, S2, hx2⟩
  cases m with
  | zero => exact hx2.elim
  | succ m =>
    refine ⟨ρ2, g2, Mu2, S2.env, S2.g, R.all_imp (EW.x S2 (R.all_bind hx2)) (fun b g3 hx3 H3 e3 G3 => ?_) fun _ _ _ _ h => h⟩
    have S3 := S2.step e3 G3
    cases b with
    | false => exact hx3 σ2 H3 Mu2 S3
    | true =>
      dsimp only
      rw [if_pos rfl]
      refine ⟨fun σ' H' => ∃ ρ' g' Mu', SOk X.K X.mg n.z n.p Mu' H' σ' ρ' g' ∧ (sWhile tc tb m ρ' g').all (FW X n D) (EW X n), fun σ' H' h => ⟨m, Nat.lt_succ_self _, h⟩, ρ2, g3, Mu2, S3, ?_⟩
      refine R.all_imp (R.all_bind hx3) (fun fl g4 hf => ?_) fun _ _ _ _ h => h
      cases fl with
      | nx ρ' => exact fun σ5 H5 Mu5 S5 => ⟨ρ', g4, Mu5, S5, hf⟩
      | ct ρ' => exact fun σ5 H5 Mu5 S5 => ⟨ρ', g4, Mu5, S5, hf⟩
      | bk ρ' => exact hf
      | ret d => exact hf
end
end DL
end
section
set_option Elab.async false
set_option linter.all false
set_option maxRecDepth 100000
set_option maxHeartbeats 2000000
/-! The value layer, part 10: list comprehensions. -/
namespace DL
open PySem PySem.Spec PyProof.Rows L2

/-- what raises has no place here -/
def nox {α : Type} (m : M α) : M α := fun g => match m g with
  | .ok a g' => .ok a g'
  | _ => .stuck
theorem all_nox {α : Type} {m : M α} {g : G} {P : α → G → Prop} {E E' : Str → Str → List D → G → Prop} (h : (nox m g).all P E) : (m g).all P E' := by
  unfold nox at h
  cases q : m g with
  | stuck => rw [q] at h; exact h.elim
  | ok a g' => rw [q] at h; exact h
  | exc c f l g' => rw [q] at h; exact h.elim
def wipeE (ρ : Env) : List Nat → Env
  | [] => ρ
  | v :: vs => (wipeE ρ vs).set v none
def sYes : Et := fun _ => M.pure true
/-- the items that a comprehension makes -/
def sLcL (ρ : Env) (t : D → Env → Option Env) (tt : Et) (f : Ep) : List D → M (List D)
  | [] => M.pure []
  | d :: l => do
    let ρ1 ← ofOpt (t d ρ)
    let b ← nox (tt ρ1)
    if b then
      let y ← nox (f ρ1)
      let r ← sLcL ρ t tt f l
      M.pure (y :: r)
    else sLcL ρ t tt f l
def eLc (it : Es) (t : D → Env → Option Env) (tt : Et) (f : Ep) (vs : List Nat) : Ep := fun ρ => do
  let ds ← it ρ
  let _ ← ofOpt (if ds.length ≤ sizeLine then some () else none)
  let r ← sLcL (wipeE ρ vs) t tt f ds
  M.pure (.lst r)
section
variable {K : PySem.W.Frag} {mg : Str → Option Value} {z : Zt} {Mu : List Addr} {H H' : Hp} {σ : L2.St} {ρ : Env} {g g' : G}
theorem EnvOk.bar {a : Addr} (E : EnvOk K mg z Mu H σ ρ) (G1 : GOk z H g) (e : Ext z H H') (G' : GOk z H' g') (n : ¬ Oc H a) (there : Oc H' a) (nco : ∀ q, H' a ≠ some (LamX.CodeO a q)) (ntu : ∀ o xs, H' a ≠ some (.frz o (.tup xs))) : EnvOk K mg z (a :: Mu) H' σ ρ := by
  have na : a ∉ Mu := fun w => n (E.mu.at_ a w)
  have E1 := E.ext G1 e G'
  refine ⟨E.len, ⟨List.mem_cons_of_mem _ E1.mu.p, List.mem_cons_of_mem _ E1.mu.l, List.mem_cons_of_mem _ E1.mu.c, fun b hb => ?_, fun b hb q => ?_, fun b hb ob xs => ?_⟩, fun j t d' q => ?_, E.sep⟩
  · rcases List.mem_cons.mp hb with hb | hb
    · rw [hb]; exact there
    · exact E1.mu.at_ b hb
  · rcases List.mem_cons.mp hb with hb | hb
    · rw [hb]; exact nco q
    · exact E1.mu.nc b hb q
  · rcases List.mem_cons.mp hb with hb | hb
    · rw [hb]; exact ntu ob xs
    · exact E1.mu.nt b hb ob xs
  · obtain ⟨w, q1, q2⟩ := E.val j t d' q
    refine ⟨w, q1, q2.mono (fun b ev et => ?_) (e.m E.mu.p E.mu.l) fun b hu h w => ?_⟩
    · subst et
      obtain ⟨b', ev', hb', m1, m2, m3, _⟩ := id q2
      have := ev.symm.trans ev'
      cases this
      exact ⟨fun u hu nu => e.to b u hu nu m1 m2, List.mem_cons_of_mem _ hb'⟩
    · rcases List.mem_cons.mp w with w | w
      · exact hu.ne n w
      · exact h w
theorem EnvOk.wipe (E : EnvOk K mg z Mu H σ ρ) : ∀ vs : List Nat, EnvOk K mg z Mu H (L2.wipe σ vs) (wipeE ρ vs)
  | [] => E
  | v :: vs => (EnvOk.wipe E vs).unset
end
theorem wipe_get (σ : L2.St) : ∀ (vs : List Nat) (i : Nat), (wipe σ vs)[i]? = if i ∈ vs then (if i < σ.length then some none else none) else σ[i]?
  | [], i => by simp [wipe]
  | v :: vs, i => by
    show ((wipe σ vs).set v none)[i]? = _
    rw [List.getElem?_set, wipe_length, wipe_get σ vs i]
    by_cases h : v = i
    · subst h
      simp
    · rw [if_neg h]
      have h' : ¬ i = v := fun e => h e.symm
      simp only [List.mem_cons, h', false_or]
theorem wipe_tch {σ σ' : L2.St} {ρ ρ' : Env} {is vs : List Nat} (T : Tch is (wipe σ vs) σ' ρ ρ') (hs : ∀ i ∈ is, i ∈ vs) : wipe σ' vs = wipe σ vs := by
  apply List.ext_getElem?
  intro i
  rw [wipe_get, wipe_get]
  have hl : σ'.length = σ.length := by rw [T.len, wipe_length]
  by_cases hi : i ∈ vs
  · rw [if_pos hi, if_pos hi, hl]
  · rw [if_neg hi, if_neg hi]
    have h := (T.out i fun w => hi (hs i w)).1
    rw [h, wipe_get, if_neg hi]
section
variable {X : Cx} {z : Zt} {W : WX} {elt tg iter c : Expr} {ifs : List Expr} {scope : Scope} {own : List (Str × Nat)} {pos : Pos} {it : Es} {gt : TG} {t : D → Env → Option Env} {is : List Nat} {tt : Et} {f : Ep}
abbrev W0 : WX := fun _ _ _ _ => False
abbrev DTs (X : Cx) (z : Zt) (W : WX) (es : List Expr) (f : Et) : Prop := PTs X es (tT X z W f)
theorem dts_nil : DTs X z W [] sYes := ⟨fun _ s σ H Q I ⟨ρ, g, Mu, E, G1, hx⟩ => wpAny_tests_nil ⟨H, I, hx H Ext.refl G1⟩⟩
theorem dts_one (h : DT X z W c tt) : DTs X z W [c] tt := pts_one h
theorem lc_read {σ : L2.St} {H : Hp} {Q : VK} {ρ : Env} {g : G} {Mu : List Addr} (hgo : ∀ (v : V) (d : D) (σ : L2.St) (H : Hp) (ρ ρ' : Env) (Mu : List Addr) (Q : L2.St → Hp → Prop), EnvOk X.K X.mg z Mu H σ ρ → Rep X.K X.mg z Mu H v d → t d ρ = some ρ' → (∀ σ', EnvOk X.K X.mg z Mu H σ' ρ' → Tch is σ σ' ρ ρ' → Q σ' H) → gt v σ H Q)
    (hsub : ∀ i ∈ is, i ∈ own.map (·.2)) (E : EnvOk X.K X.mg z Mu H σ ρ) (G1 : GOk z H g)
    (hx : (eLc it t tt f (own.map (·.2)) ρ g).all (fun d g' => ∀ v H', Ext z H H' → GOk z H' g' → RK X.K X.mg z .new H Mu H' v d → Q v H') (XW X z W Mu σ H)) :
    tLc (tI X z W true it) gt (tT X z W0 tt) (tE X z W0 .sh f) (own.map (·.2)) σ H Q := by
  refine ⟨ρ, g, Mu, E, G1, R.all_imp (R.all_bind hx) (fun ds g1 hx J H1 e1 G2 hy Dd nD => ?_) fun _ _ _ _ h => h⟩
  obtain ⟨_, hz, hx⟩ := R.all_opt (R.all_bind hx)
  obtain ⟨hz, _⟩ := opt_if hz
  have hx := R.all_bind hx
  have np : Dd ≠ z.p := fun w => by
    rw [w, G2.p] at nD; cases nD
  have nl : Dd ≠ z.l := fun w => by
    rw [w, G2.l] at nD; cases nD
  have nc : Dd ≠ z.c := fun w => by
    rw [w, G2.c] at nD; cases nD
  have nH : ¬ Oc H Dd := e1.none (oc_none nD) np nl
  have E1 := E.ext G1 e1 G2
  have s1 : Same H1 (upd H1 Dd (.lst [])) := same_upd' nD
  refine ⟨fun i m H2 => m = ds.length - i ∧ i ≤ ds.length ∧ ∃ acc ds' g2, H2 Dd = some (.lst acc) ∧ Reps X.K X.mg z (Dd :: Mu) H2 acc ds' ∧ ds'.length ≤ i ∧ GOk z H2 g2 ∧ Ext z H1 H2 ∧
      (sLcL (wipeE ρ (own.map (·.2))) t tt f (ds.drop i) g2).all (fun out g' => ∀ v H', Ext z H H' → GOk z H' g' → RK X.K X.mg z .new H Mu H' v (.lst (ds' ++ out)) → Q v H') (XW X z W Mu σ H),
    ⟨ds.length, rfl, Nat.zero_le _, [], [], g1, upd_same, .nil, Nat.le_refl _, G2.same s1, Ext.of s1, hx⟩, ?_⟩
  rintro i m H2 ⟨rfl, hle, acc, ds', g2, hD, ra, hl, G3, e2, hx2⟩
  have hyi : ExtM (if true = true then [z.p, z.l] else Mu) H1 H2 := fun b u q t hn => e2.to b u q t (fun w => hn (by rw [if_pos rfl]; simp [w])) (fun w => hn (by rw [if_pos rfl]; simp [w]))
  obtain ⟨y1, y2⟩ := hy H2 hyi i
  by_cases hlt : i < ds.length
  · obtain ⟨hgo', hyl⟩ := y1 ds[i] (List.getElem?_eq_getElem hlt)
    rw [List.drop_eq_getElem_cons hlt] at hx2
    obtain ⟨ρ3, ht, hx3⟩ := R.all_opt (R.all_bind hx2)
    refine .inr ⟨hgo', fun H' => i + 1 ≤ ds.length ∧ ∃ acc ds' g2, H' Dd = some (.lst acc) ∧ Reps X.K X.mg z (Dd :: Mu) H' acc ds' ∧ ds'.length ≤ i + 1 ∧ GOk z H' g2 ∧ Ext z H1 H' ∧
      (sLcL (wipeE ρ (own.map (·.2))) t tt f (ds.drop (i + 1)) g2).all (fun out g' => ∀ v H', Ext z H H' → GOk z H' g' → RK X.K X.mg z .new H Mu H' v (.lst (ds' ++ out)) → Q v H') (XW X z W Mu σ H), fun H' ⟨h1, h2⟩ => ⟨ds.length - (i + 1), by omega, rfl, h1, h2⟩, fun x H3 y => ?_⟩
    obtain ⟨sm, rep⟩ := hyl x H3 y
    have G4 := G3.same sm
    have e3 : Ext z H1 H3 := e2.trans (Ext.of sm)
    have hD3 : H3 Dd = some (.lst acc) := sm _ _ hD
    have B2 : EnvOk X.K X.mg z (Dd :: Mu) H2 (wipe σ (own.map (·.2))) (wipeE ρ (own.map (·.2))) := (E.bar G1 (e1.trans e2) G3 nH ⟨_, hD, trivial⟩ (fun q w => by rw [hD] at w; cases w) (fun _ q w => by rw [hD] at w; cases w)).wipe _
    have B3 := B2.ext G3 (Ext.of sm) G4
    have rx := rep (Dd :: Mu) (fun b q hn w => by
      rcases List.mem_cons.mp w with w | w
      · exact q.ne (oc_none nD) w
      · exact hn w) B2.mu.at_
    refine hgo x ds[i] _ H3 _ ρ3 (Dd :: Mu) _ B3 rx ht fun σ4 E4 T4 => ⟨wipe_tch T4 hsub, ?_⟩
    refine ⟨ρ3, g2, Dd :: Mu, E4, G4, R.all_imp (all_nox (E' := XW X z W0 (Dd :: Mu) σ4 H3) (R.all_bind hx3)) (fun b g3 hx4 H5 e5 G5 => ?_) fun _ _ _ _ h => h⟩
    have ra5 : Reps X.K X.mg z (Dd :: Mu) H5 acc ds' := ra.mono (fun b u q t hn => e5.to b u (sm b u q) t (fun w => hn (w ▸ B2.mu.p)) (fun w => hn (w ▸ B2.mu.l))) fun _ _ h => h
    have hD5 : H5 Dd = some (.lst acc) := e5.to _ _ hD3 trivial np nl
    cases b with
    | false => exact ⟨hlt, acc, ds', g3, hD5, ra5, by omega, G5, e3.trans e5, hx4⟩
    | true =>
      dsimp only
      rw [if_pos rfl]
      have E5 := E4.ext G4 e5 G5
      refine ⟨ρ3, g3, Dd :: Mu, E5, G5, R.all_imp (all_nox (E' := XW X z W0 (Dd :: Mu) σ4 H5) (R.all_bind hx4)) (fun y g4 hx5 v H6 e6 G6 k6 => ?_) fun _ _ _ _ h => h⟩
      have k6 : Rep X.K X.mg z (Dd :: Mu) H6 v y := k6
      have hD6 : H6 Dd = some (.lst acc) := e6.to _ _ hD5 trivial np nl
      have ra6 : Reps X.K X.mg z (Dd :: Mu) H6 acc ds' := ra5.ext E5.mu G5 e6
      have up : ExtM (Dd :: Mu) H6 (upd H6 Dd (.lst (acc ++ [v]))) := fun b u q t hn => by rw [upd_ne (fun w => hn (by rw [w]; exact List.mem_cons_self))]; exact q
      have ra7 : Reps X.K X.mg z (Dd :: Mu) (upd H6 Dd (.lst (acc ++ [v]))) (acc ++ [v]) (ds' ++ [y]) := (ra6.append (.one k6)).mono up fun _ _ h => h
      have hlen : acc.length < sizeLine := by
        rw [ra6.length]
        omega
      refine ⟨acc, hD6, hlen, hlt, acc ++ [v], ds' ++ [y], g4, upd_same, ra7, by simp; omega, G6.write np nl nc (fun ps w => by rw [hD6] at w; cases w) (fun q w => by rw [hD6] at w; cases w) trivial, ⟨fun b u q t h1 h2 => ?_⟩, ?_⟩
      · have hb : b ≠ Dd := fun w => by rw [w, nD] at q; cases q
        rw [upd_ne hb]
        exact e6.to b u (e5.to b u (e3.to b u q t h1 h2) t h1 h2) t h1 h2
      · refine R.all_imp (R.all_bind hx5) (fun out g5 hq => ?_) fun _ _ _ _ h => h
        intro v' H' e' G' k'
        refine hq v' H' e' G' ?_
        rw [List.append_assoc] at k'
        exact k'
  · refine .inl ⟨y2 (by omega), ?_⟩
    rw [List.drop_eq_nil_of_le (by omega)] at hx2
    have hq : ∀ v H', Ext z H H' → GOk z H' g2 → RK X.K X.mg z .new H Mu H' v (.lst (ds' ++ [])) → Q v H' := hx2
    rw [List.append_nil] at hq
    refine hq _ H2 (e1.trans e2) G3 ?_
    show if D.box (.lst ds') = true then ∃ a, V.ref Dd = .ref a ∧ ¬ Oc H a ∧ Cont X.K X.mg z (a :: Mu) H2 a (.lst ds') else Rep X.K X.mg z Mu H2 (.ref Dd) (.lst ds')
    rw [if_pos (show D.box (.lst ds') = true from rfl)]
    exact ⟨Dd, rfl, nH, .lst hD ra⟩
theorem de_lc (hX : XG X) (hi : DI X z W true tg iter it) (ok : BlkOk X.N X.env.scope scope own) (hsub : ∀ i ∈ is, i ∈ own.map (·.2))
    (hg : ∀ (s : Shared) (H : Hp) (C : Addr) (cl : List (Str × Addr)) (fp : List Addr), TgOk (X.blk s H scope (compEnvC scope cl C X.env) fp) z tg gt t is)
    (ht : ∀ (s : Shared) (H : Hp) (C : Addr) (cl : List (Str × Addr)) (fp : List Addr), DTs (X.blk s H scope (compEnvC scope cl C X.env) fp) z W0 ifs tt)
    (he : ∀ (s : Shared) (H : Hp) (C : Addr) (cl : List (Str × Addr)) (fp : List Addr), DE (X.blk s H scope (compEnvC scope cl C X.env) fp) z W0 .sh elt f) (hs : ∀ x, foldedSetIterable iter X.env x = pure x := by intro _; rfl) :
    DE X z W .new (.ListComp elt [⟨tg, iter, ifs, 0⟩] scope pos) (eLc it t tt f (own.map (·.2))) := by
  refine ⟨fun pins s σ H Q I ⟨ρ, g, Mu, E, G1, hx⟩ => ?_⟩
  refine (pe_lc (tt := tT X z W0 tt) (te := tE X z W0 .sh f) hX.calm hX.nd hi ok (fun s H C cl fp => (hg s H C cl fp).pg) ht he hs).run pins s σ H Q I ?_
  exact lc_read (fun v d σ H ρ ρ' Mu Q => (hg s H default [] []).ok v d σ H ρ ρ' Mu Q) hsub E G1 hx
/-- y = [..] on one line -/
theorem ds_setLc {n : En} {i : Nat} {y : Str} {py spos : Pos} (hX : XG X) (hy : X.N[i]? = some y) (hyl : X.env.scope.names.lookup y = some .local)
    (hsw : swapsWith (.ListComp elt [⟨tg, iter, ifs, 0⟩] scope pos) (some (.Name y py)) spos.line X.env = pure true) (hi : DI X n.z n.W true tg iter it) (ok : BlkOk X.N X.env.scope scope own) (hsub : ∀ i ∈ is, i ∈ own.map (·.2))
    (hg : ∀ (s : Shared) (H : Hp) (C : Addr) (cl : List (Str × Addr)) (fp : List Addr), TgOk (X.blk s H scope (compEnvC scope cl C X.env) fp) n.z tg gt t is)
    (ht : ∀ (s : Shared) (H : Hp) (C : Addr) (cl : List (Str × Addr)) (fp : List Addr), DTs (X.blk s H scope (compEnvC scope cl C X.env) fp) n.z W0 ifs tt)
    (he : ∀ (s : Shared) (H : Hp) (C : Addr) (cl : List (Str × Addr)) (fp : List Addr), DE (X.blk s H scope (compEnvC scope cl C X.env) fp) n.z W0 .sh elt f) (hs : ∀ x, foldedSetIterable iter X.env x = pure x := by intro _; rfl) :
    DS X n (.Assign [.Name y py] (.ListComp elt [⟨tg, iter, ifs, 0⟩] scope pos) spos) (sSet true i (eLc it t tt f (own.map (·.2)))) := by
  refine ⟨fun pins s σ H D I ⟨ρ, g, Mu, S, hq⟩ => ?_⟩
  refine (ps_setLc (tt := tT X n.z W0 tt) (te := tE X n.z W0 .sh f) hX.calm hX.nd hy hyl hsw hi ok (fun s H C cl fp => (hg s H C cl fp).pg) ht he hs).run pins s σ H D I ?_
  refine lc_read (W := n.W) (fun v d σ H ρ ρ' Mu Q => (hg s H default [] []).ok v d σ H ρ ρ' Mu Q) hsub S.env S.g (R.all_imp (EW.x S (R.all_bind hq)) (fun d g1 hq v H1 e1 G2 k1 => ?_) fun _ _ _ _ h => h)
  obtain ⟨Mu', S'⟩ := S.store (i := i) e1 G2 true rfl k1
  exact hq _ H1 Mu' S'
end
end DL
end
section
set_option Elab.async false
set_option linter.all false
set_option maxRecDepth 100000
set_option maxHeartbeats 2000000
/-! The value layer, part 11: defs and their calls. -/
namespace DL
open PySem PySem.Spec PyProof.Rows L2

/-- what repr leans on: nothing is being shown, the dict of the modules stands -/
def GdOk (A : Around) (base : Heap) : Prop := A.guards = some [] ∧ SysD base
/-- what a def promises: m arguments, results of the kind kr, cf of what the arguments read as -/
def spD (K : PySem.W.Frag) (mg : Str → Option Value) (T : List (Addr × Str)) (m : Nat) (kr : Kd) (cf : List D → M D) : Sp := fun vs H Q E => vs.length = m ∧ ∃ (z : Zt) (ds : List D) (g : G) (Mu : List Addr), z.T = T ∧ MuOk z Mu H ∧ GOk z H g ∧ Reps K mg z Mu H vs ds ∧
  (cf ds g).all (fun d g' => ∀ v H', Ext z H H' → GOk z H' g' → RK K mg z kr H Mu H' v d → Q v H') (fun c f l g' => ∀ cls dd H', Ext z H H' → GOk z H' g' → ExcIs K mg z Mu H' c f l cls dd → E cls dd H')
structure DFn (gd : Bool) (P : Program) (w : World) (K : PySem.W.Frag) (mg : Str → Option Value) (base : Heap) (T : List (Addr × Str)) (k : Nat) (f : Addr) (fd : FuncData) (ps : List Str) (kr : Kd) (cf : List D → M D) : Prop where
  run : ∀ (A : Around) (outer : List PySem.Env) (s : Shared) (H : Hp) (args : Args) (us : List Value) (vs : List V) (Q : VK) (E : XK), Room k A → (gd = true → GdOk A base) → Env0 P w K mg base A outer s H → BindsTo s fd args (ps.zip us) → Vals vs us →
    spD K mg T ps.length kr cf vs H Q E → codeAny (model P w) A (.call (.ref f) args) (CR (L2.CX P w) outer P w H s Q E) s
theorem DFn.mono {gd : Bool} {P : Program} {w : World} {K : PySem.W.Frag} {mg : Str → Option Value} {base : Heap} {T : List (Addr × Str)} {j k : Nat} {f : Addr} {fd : FuncData} {ps : List Str} {kr : Kd} {cf : List D → M D} (F : DFn gd P w K mg base T j f fd ps kr cf) (h : j ≤ k) : DFn gd P w K mg base T k f fd ps kr cf :=
  ⟨fun A outer s H args us vs Q E hr hg => F.run A outer s H args us vs Q E (hr.mono h) hg⟩
/-- the same where the answers agree -/
theorem DFn.imp {gd : Bool} {P : Program} {w : World} {K : PySem.W.Frag} {mg : Str → Option Value} {base : Heap} {T : List (Addr × Str)} {k : Nat} {f : Addr} {fd : FuncData} {ps : List Str} {kr : Kd} {cf cf' : List D → M D} (F : DFn gd P w K mg base T k f fd ps kr cf)
    (h : ∀ ds g, cf' ds g = .stuck ∨ cf ds g = cf' ds g) : DFn gd P w K mg base T k f fd ps kr cf' :=
  ⟨fun A outer s H args us vs Q E hr hg he hb hv ⟨hl, z, ds, g, Mu, h1, h2, h3, h4, h5⟩ => F.run A outer s H args us vs Q E hr hg he hb hv ⟨hl, z, ds, g, Mu, h1, h2, h3, h4, by
    rcases h ds g with e | e
    · rw [e] at h5; exact h5.elim
    · rw [e]; exact h5⟩⟩

def startE (n : Nat) (ds : List D) : Env := ds.map (fun d => some (false, d)) ++ List.replicate (n - ds.length) none
def fnB (t : Ss) (n : Nat) (ds : List D) : M D := do
  let fl ← t (startE n ds)
  match fl with
  | .ret d => M.pure d
  | .nx _ => M.pure .non
  | _ => stuck
theorem env_start {K : PySem.W.Frag} {mg : Str → Option Value} {z : Zt} {Mu : List Addr} {H : Hp} {N : List Str} {vs : List V} {ds : List D} (m : MuOk z Mu H) (r : Reps K mg z Mu H vs ds) : EnvOk K mg z Mu H (L2.start N vs) (startE N.length ds) := by
  have key : ∀ (i : Nat) (t : Bool) (d : D), (startE N.length ds)[i]? = some (some (t, d)) → t = false ∧ ds[i]? = some d := fun i t d q => by
    unfold startE at q
    by_cases hi : i < ds.length
    · rw [List.getElem?_append_left (by simpa using hi), List.getElem?_map] at q
      cases e : ds[i]? with
      | none => rw [e] at q; cases q
      | some x => rw [e] at q; cases q; exact ⟨rfl, rfl⟩
    · rw [List.getElem?_append_right (by simpa using hi), List.getElem?_replicate] at q
      split at q <;> cases q
  refine ⟨by unfold startE L2.start; simp [r.length], m, fun i t d q => ?_, fun i j d d' a q1 _ _ _ => absurd (key i true d q1).1 (by decide)⟩
  obtain ⟨rfl, hd⟩ := key i t d q
  obtain ⟨v, hv, rv⟩ := r.get' hd
  refine ⟨v, ?_, rv⟩
  unfold L2.start
  rw [List.getElem?_append_left (by rw [List.length_map]; exact (List.getElem?_eq_some_iff.mp hv).1), List.getElem?_map, hv]
  rfl

/-- THE RULE: a def of the text, by its body -/
theorem dfn_of {gd : Bool} {P : Program} {w : World} {K : PySem.W.Frag} {mg : Str → Option Value} {base : Heap} {T : List (Addr × Str)} {k : Nat} {f : Addr} {name qual : Str} {params : Arguments} {body : List Stmt} {scope : Scope} {dV kV doc pm cdv ct oc : Value} {an od : Option Addr}
    {osl : Array (Option Value)} {N ps : List Str} {kr : Kd} {t : Ss} (lk : K.lookup f = some ⟨oc, od, .func (PySem.W.fnOf name qual params body scope dV kV doc pm an cdv ct), osl⟩) (hcd : PySem.W.codeIn K cdv qual = true) (S : FnScope N ps scope)
    (hbody : ∀ (A : Around) (outer : List PySem.Env) (s : Shared) (H : Hp) (E : XK) (n : En), XG (cxOf (L2.CX P w) P w K mg base N qual scope f cdv A outer s H E) → Room k (A.deeper (envOfC qual scope s.heap.objs.size f cdv)) →
      Takes (cxOf (L2.CX P w) P w K mg base N qual scope f cdv A outer s H E) n.W → (gd = true → GdOk A base) → n.k = kr → n.z.T = T → DSs (cxOf (L2.CX P w) P w K mg base N qual scope f cdv A outer s H E) n body t) :
    DFn gd P w K mg base T (k + 1) f (PySem.W.fnOf name qual params body scope dV kV doc pm an cdv ct) ps kr (fnB t N.length) := by
  refine ⟨fun A outer s H args us vs Q E hr hgd e0 hb r ⟨hl, z, ds, g, Mu, hT, hm, hG, hrep, hsp⟩ => ?_⟩
  refine LamX.run_ofS lk hcd S hr e0 hb r hl fun hr' => ⟨_, hbody A outer s H E ⟨z, fun cls dd _ H => E cls dd H, kr, ⟨H, Mu, H, Mu⟩⟩ ⟨rfl, hr'.mono (Nat.zero_le _), S.nd⟩ hr' (takes_of rfl rfl rfl rfl) hgd rfl hT, ?_⟩
  refine ⟨startE N.length ds, g, Mu, ⟨env_start hm hrep, hG, Ext.refl, fun b h => h, hm, fun i d a q => ?_, fun _ _ e _ _ => e, fun _ _ h => h, ⟨hm.p, hm.l⟩, fun _ h _ => h⟩, ?_⟩
  · unfold startE at q
    by_cases hi : i < ds.length
    · rw [List.getElem?_append_left (by simpa using hi), List.getElem?_map] at q
      cases e : ds[i]? with
      | none => rw [e] at q; cases q
      | some x => rw [e] at q; cases q
    · rw [List.getElem?_append_right (by simpa using hi), List.getElem?_replicate] at q
      split at q <;> cases q
  · refine R.all_imp (R.all_bind hsp) (fun fl g' h => ?_) fun c fl l g' h => ?_
    · cases fl with
      | nx ρ =>
        intro σ H' Mu' S'
        refine h .non H' S'.ext S'.g ?_
        cases kr with
        | sh => exact .non
        | new => exact RK.new_of .non rfl
        | peek => exact .inl .non
        | nt => exact .non
        | nn => exact ⟨.non, fun _ _ w => by cases w⟩
      | ret d => exact h
      | bk ρ => exact h.elim
      | ct ρ => exact h.elim
    · exact fun σ cls dd H' => h cls dd H'

/-! ### calls -/
/-- m values are given -/
def AL (f : Es) (m : Nat) : Prop := ∀ ρ g ds g', f ρ g = .ok ds g' → ds.length = m
theorem al_nil : AL sNil 0 := fun ρ g ds g' h => by cases h; rfl
theorem al_cons {f : Ep} {h : Es} {m : Nat} (t : AL h m) : AL (sCons f h) (m + 1) := fun ρ g ds g' q => by
  unfold sCons at q
  have q' : ((f ρ g).bind fun x => (fun g => (h ρ g).bind fun xs => M.pure (x :: xs))) = .ok ds g' := q
  cases e : f ρ g with
  | stuck => rw [e] at q'; cases q'
  | exc c n l g1 => rw [e] at q'; cases q'
  | ok x g1 =>
    rw [e] at q'
    have q2 : (h ρ g1).bind (fun xs => M.pure (x :: xs)) = .ok ds g' := q'
    cases e2 : h ρ g1 with
    | stuck => rw [e2] at q2; cases q2
    | exc c n l g1 => rw [e2] at q2; cases q2
    | ok xs g2 =>
      rw [e2] at q2
      cases q2
      exact congrArg (· + 1) (t _ _ _ _ e2)
def eCallF (cf : List D → M D) (fs : Es) : Ep := fun ρ => do let ds ← fs ρ; cf ds
section
variable {gd : Bool} {X : Cx} {z : Zt} {W : WX} {k : Nat} {f : Addr} {fd : FuncData} {ps : List Str} {kr : Kd} {cf : List D → M D} {x : Str} {p pos kpos : Pos} {e : Expr} {es : List Expr} {fs gs : Es} {pins : List (Addr × Obj)} {s : Shared} {σ : L2.St} {H : Hp} {Mu : List Addr} {g : G}
/-- the callee runs -/
theorem run_dfn {args : Args} {us : List Value} {vs : List V} {ds : List D} {Q : VK} (F : DFn gd X.prog X.w X.K X.mg X.base z.T k f fd ps kr cf) (hgd : gd = true → GdOk X.A X.base) (hr : Room k X.A) (tk : Takes X W) (I : Inv X pins σ H s) (hb : BindsTo s fd args (ps.zip us)) (rv : Vals vs us) (hl : vs.length = ps.length)
    (m : MuOk z Mu H) (G1 : GOk z H g) (r : Reps X.K X.mg z Mu H vs ds)
    (hx : (cf ds g).all (fun d g' => ∀ v H', Ext z H H' → GOk z H' g' → RK X.K X.mg z kr H Mu H' v d → Q v H') (XW X z W Mu σ H)) :
    wpAny (model X.prog X.w) X.A (call (.ref f) args.pos args.kw) (EP X pins σ Q) X.xe s := by
  refine wpAny_call (codeAny_mono (F.run X.A X.stack s H args us vs Q (WE W σ) hr hgd I.env0 hb rv ⟨hl, z, ds, g, Mu, rfl, m, G1, r, hx⟩) fun r s' hq => ?_)
  cases r with
  | error e => exact passAt tk σ pins H s e s' I hq
  | ok fl =>
    cases fl with
    | ret u => exact I.after hq
    | next => exact False.elim hq
    | brk => exact False.elim hq
    | cont => exact False.elim hq
theorem de_call (hgd : gd = true → GdOk X.A X.base) (tk : Takes X W) (F : DFn gd X.prog X.w X.K X.mg X.base z.T k f fd ps kr cf) (hr : Room k X.A) (hg : Gl X x) (hm : X.mg x = some (.ref f)) (hk : PySem.W.keepIn X.K (.ref f) = true) (hb : Binds X.K fd ps []) (ha : DAs X z W (e :: es) fs) (hal : AL fs ps.length)
    (hdb : (x == ("__debug__" : Str)) = false := by decide) (he : starEach (e :: es) X.env = (false, eval e X.env) :: starEach es X.env := by rfl) (hpl : (backTo pos (starEach es X.env)).any (·.1) = false := by rfl) :
    DE X z W kr (.Call (.Name x p) (e :: es) [] pos) (eCallF cf fs) := by
  refine ⟨fun pins s σ H Q I ⟨ρ, g, Mu, E, G1, hx⟩ => ?_⟩
  refine wpAny_Call_Name_kw (ld_glob I hg hm ?_ hdb)
  refine PySem.W.callWith_K (h₀ := X.base) I.ok.mod.kin hk (das_run ha I E G1 (R.all_imp (R.all_eq (R.all_bind hx)) (fun ds g1 ⟨hq, hx⟩ vs us H1 s1 I1 r1 e1 G2 E1 k1 => ⟨I1.kIn, ?_⟩) fun _ _ _ _ h => h)) he hpl
  have hl : vs.length = ps.length := k1.length.trans (hal _ _ _ _ hq)
  have b := hb s1 us I1.kIn (by rw [List.append_nil, ← r1.length]; exact hl)
  rw [List.append_nil] at b
  exact run_dfn (args := ⟨us, []⟩) F hgd hr tk I1 b r1 hl E1.mu G2 k1 (R.all_imp hx (fun d g' h v H' e2 G3 k2 => h v H' (e1.trans e2) G3 (k2.back e1 G2)) fun _ _ _ _ h => h.step e1)
/-! ### arguments that are only looked at -/
def D.scal : D → Bool
  | .non => true
  | .bl _ => true
  | .int _ => true
  | .str _ => true
  | _ => false
theorem RK.scal {K : PySem.W.Frag} {mg : Str → Option Value} {k k' : Kd} {Mu Mu' : List Addr} {H0 H : Hp} {v : V} {d : D} (hs : d.scal = true) (r : RK K mg z k H0 Mu H v d) : RK K mg z k' H0 Mu' H v d := by
  have r1 : Rep K mg z Mu H v d := by
    cases k with
    | sh => exact r
    | new =>
      have r' : if d.box = true then ∃ a, v = .ref a ∧ ¬ Oc H0 a ∧ Cont K mg z (a :: Mu) H a d else Rep K mg z Mu H v d := r
      have hb : ¬ d.box = true := by cases d <;> first | (intro w; cases w; done) | cases hs
      rw [if_neg hb] at r'
      exact r'
    | peek =>
      rcases (show PR K mg z Mu H v d from r) with r | ⟨a, rfl, _, _, _, _, c⟩
      · exact r
      · cases c <;> cases hs
    | nt =>
      cases d <;> first | exact r | cases hs
    | nn => exact r.1
  have r2 : Rep K mg z Mu' H v d := by
    cases r1 <;> first | exact .non | exact .bl _ | exact .int _ | exact .str _ | cases hs
  have hb : d.box = false := by cases d <;> first | rfl | cases hs
  cases k' with
  | sh => exact r2
  | new => exact RK.new_of r2 hb
  | peek => exact .inl r2
  | nt => cases d <;> first | exact r2 | cases hs
  | nn => exact ⟨r2, fun _ _ w => by subst w; cases hs⟩
theorem RKs.length {K : PySem.W.Frag} {mg : Str → Option Value} {H : Hp} {Mu : List Addr} : ∀ {vs : List V} {ds : List D}, RKs K mg z Mu H vs ds → vs.length = ds.length
  | _, _, .nil => rfl
  | _, _, .cons r t => by rw [List.length_cons, List.length_cons, RKs.length t]
/-! ### keywords -/
abbrev DK (X : Cx) (z : Zt) (W : WX) (kws : List Keyword) (f : Es) : Prop := PK X kws (tAs X z W f)
variable {kws : List Keyword} {nm : Option Str} {fe : Ep} {ks : List Str}
theorem dk_run {f : Es} {ρ : Env} {Q : List Value → Shared → Prop} (h : DK X z W kws f) (I : Inv X pins σ H s) (E : EnvOk X.K X.mg z Mu H σ ρ) (G1 : GOk z H g)
    (hx : (f ρ g).all (fun ds g' => ∀ vs us H' s', Inv X pins σ H' s' → Vals vs us → Ext z H H' → GOk z H' g' → EnvOk X.K X.mg z Mu H' σ ρ → Reps X.K X.mg z Mu H' vs ds → Q us s') (XW X z W Mu σ H)) :
    wpAny (model X.prog X.w) X.A (evalAll ((backToKw pos (keywordEach kws X.env)).map (·.2))) Q X.xe s := by
  refine thn (h.run pos pins s σ H (fun vs H' => ∃ ds g', f ρ g = .ok ds g' ∧ Ext z H H' ∧ GOk z H' g' ∧ Reps X.K X.mg z Mu H' vs ds) I ⟨ρ, g, Mu, E, G1, ?_⟩) ?_
  · cases q : f ρ g with
    | stuck => rw [q] at hx; exact hx
    | ok d g' => exact fun vs H' e1 g1 r => ⟨d, g', rfl, e1, g1, r⟩
    | exc c n l g' => rw [q] at hx; exact hx
  · rintro us s' ⟨vs, H', I', r, ds, g', q, e1, g1, rk⟩
    rw [q] at hx
    exact hx vs us H' s' I' r e1 g1 (E.ext G1 e1 g1) rk
theorem dk_nil : DK X z W [] sNil := ⟨fun _ _ _ _ H Q I ⟨ρ, g, Mu, E, G1, hx⟩ => wpAny_evalAll_nil ⟨[], H, I, .nil, hx [] H Ext.refl G1 .nil⟩⟩
theorem dk_cons (ha : DE X z W .sh e fe) (hr : DK X z W kws gs) : DK X z W (⟨nm, e, kpos⟩ :: kws) (sCons fe gs) := by
  refine ⟨fun pos pins s σ H Q I ⟨ρ, g, Mu, E, G1, hx⟩ => ?_⟩
  show wpAny _ _ (evalAll ((do let v ← eval e X.env; standAt pos; pure v) :: (backToKw pos (keywordEach kws X.env)).map (·.2))) _ _ s
  refine wpAny_evalAll_cons (wpAny_bind (de_run ha I E G1 (R.all_imp (R.all_bind hx) (fun d g1 hx v u H1 s1 I1 r1 e1 G2 E1 k1 => wpAny_bind (wpAny_standAt (wpAny_pure ?_))) fun _ _ _ _ h => h)))
  refine dk_run hr I1 E1 G2 (R.all_imp (Raising.all (R.all_bind hx) e1) (fun ds g2 hx vs us H2 s2 I2 r2 e2 G3 E2 k2 => ?_) fun _ _ _ _ h => h)
  exact ⟨v :: vs, H2, I2, .cons r1 r2, hx (v :: vs) H2 (e1.trans e2) G3 (.cons (Rep.ext (show Rep X.K X.mg z Mu H1 v d from k1) E1.mu G2 e2) k2)⟩
def pick {α : Type} (pm : List Nat) (l : List α) : List α := pm.filterMap fun i => l[i]?
theorem Reps.pick {K : PySem.W.Frag} {mg : Str → Option Value} {H : Hp} {Mu : List Addr} {vs : List V} {ds : List D} (r : Reps K mg z Mu H vs ds) : ∀ pm : List Nat, Reps K mg z Mu H (DL.pick pm vs) (DL.pick pm ds)
  | [] => .nil
  | i :: pm => by
    unfold DL.pick
    rw [List.filterMap_cons, List.filterMap_cons]
    cases e : vs[i]? with
    | none =>
      have h := List.getElem?_eq_none_iff.mp e
      have e2 : ds[i]? = none := List.getElem?_eq_none_iff.mpr (by rw [← r.length]; exact h)
      rw [e2]
      exact Reps.pick r pm
    | some v =>
      obtain ⟨d, hd, rd⟩ := r.get e
      rw [hd]
      exact .cons rd (Reps.pick r pm)
theorem vals_pick {vs : List V} {us : List Value} (r : Vals vs us) : ∀ pm : List Nat, Vals (pick pm vs) (pick pm us)
  | [] => .nil
  | i :: pm => by
    unfold pick
    rw [List.filterMap_cons, List.filterMap_cons]
    cases e : vs[i]? with
    | none =>
      have h := List.getElem?_eq_none_iff.mp e
      have e2 : us[i]? = none := List.getElem?_eq_none_iff.mpr (by rw [← r.length]; exact h)
      rw [e2]
      exact vals_pick r pm
    | some v =>
      obtain ⟨u, hu, ru⟩ := r.get e
      rw [hu]
      exact .cons ru (vals_pick r pm)
def eCallK (cf : List D → M D) (pm : List Nat) (fs gs : Es) : Ep := fun ρ => do
  let ds ← fs ρ
  let es ← gs ρ
  cf (pick pm (ds ++ es))
/-- how a call with keywords binds -/
def KB (K : PySem.W.Frag) (fd : FuncData) (ps ks : List Str) (pm : List Nat) (m : Nat) : Prop := ∀ (s : Shared) (us ws : List Value), K.In s.heap → us.length = m → ws.length = ks.length → BindsTo s fd ⟨us, ks.zip ws⟩ (ps.zip (pick pm (us ++ ws))) ∧ (pick pm (us ++ ws)).length = ps.length
/-- f(k = v, ..) -/
theorem de_callK0 {pm : List Nat} (hgd : gd = true → GdOk X.A X.base) (tk : Takes X W) (F : DFn gd X.prog X.w X.K X.mg X.base z.T k f fd ps kr cf) (hr : Room k X.A) (hg : Gl X x) (hm : X.mg x = some (.ref f)) (hk : PySem.W.keepIn X.K (.ref f) = true) (hb : KB X.K fd ps ks pm 0) (hkw : DK X z W kws gs) (hal : AL gs ks.length)
    (hall : (backToKw pos (keywordEach kws X.env)).all (·.1.isSome) = true := by rfl) (hks : (backToKw pos (keywordEach kws X.env)).filterMap (·.1) = ks := by rfl)
    (hdb : (x == ("__debug__" : Str)) = false := by decide) (hpl : ((backTo pos (starEach [] X.env)).any (·.1) || (backToKw pos (keywordEach kws X.env)).any (·.1.isNone)) = false := by rfl) :
    DE X z W kr (.Call (.Name x p) [] kws pos) (eCallK cf pm sNil gs) := by
  refine ⟨fun pins s σ H Q I ⟨ρ, g, Mu, E, G1, hx⟩ => ?_⟩
  refine wpAny_Call_Name_kw (ld_glob I hg hm ?_ hdb)
  have hx : ((gs ρ g).bind fun es => cf (pick pm ([] ++ es))).all (fun d g' => ∀ v H', Ext z H H' → GOk z H' g' → RK X.K X.mg z kr H Mu H' v d → Q v H') (XW X z W Mu σ H) := hx
  refine PySem.W.callWith_KW0 (h₀ := X.base) I.ok.mod.kin hk hall (dk_run hkw I E G1 (R.all_imp (R.all_eq (R.all_bind hx)) (fun ds g1 ⟨hq, hx⟩ vs us H1 s1 I1 r1 e1 G2 E1 k1 => ⟨I1.kIn, ?_⟩) fun _ _ _ _ h => h)) hpl
  rw [hks]
  have hl : us.length = ks.length := by rw [← r1.length, k1.length]; exact hal _ _ _ _ hq
  obtain ⟨b, hn⟩ := hb s1 [] us I1.kIn rfl hl
  have vp := vals_pick r1 pm
  exact run_dfn (args := ⟨[], ks.zip us⟩) F hgd hr tk I1 b vp (by rw [vp.length]; exact hn) E1.mu G2 (k1.pick pm) (R.all_imp hx (fun d g' h v H' e2 G3 k2 => h v H' (e1.trans e2) G3 (k2.back e1 G2)) fun _ _ _ _ h => h.step e1)
end
end DL
end
section
set_option Elab.async false
set_option linter.all false
set_option maxRecDepth 100000
set_option maxHeartbeats 2000000
/-! The value layer, part 12: raise; an exception that a def with a try hands back. -/
namespace DL
open PySem PySem.Spec PyProof.Rows L2

/-! ### raise C('..') -/
def sRaise (c : Str) : Ss := fun _ g => .exc c Str.empty [] g
theorem ds_raise {X : Cx} {n : En} {C : Addr} {bmB : List Value} {B newId initId : String} {x m : Str} {j : Nat} {p p2 pos pos2 : Pos} (hX : XG X) (tk : Takes X n.W) (F : ExcBaseFacts B newId initId bmB) (q : PySem.W.excIn X.K C bmB newId = true) (gC : X.mg x = some (.ref C)) (kC : PySem.W.keepIn X.K (.ref C) = true) (r : Raises X (.ref C)) (hg : Gl X x)
    (hdb : (x == ("__debug__" : Str)) = false := by decide) : DS X n (.Raise (some (.Call (.Name x p) [.Constant (.str m) j p2] [] pos)) none pos2) (sRaise x) := by
  refine ⟨fun pins s σ H D I ⟨ρ, g, Mu, S, hx⟩ => ?_⟩
  exact (ps_raise hX.calm tk (pmk_own F q gC kC r hg hdb)).run pins s σ H D I (hx σ (.ref C) none H S.ext S.g ⟨C, gC, rfl, .inl ⟨rfl, rfl, rfl⟩⟩)

/-! ### try: .. / except x as n: .., where what was caught is kept -/
theorem exV_ok {P : Program} {w : World} {H : Hp} {h : Heap} {a : Addr} {cls : Value} {d : Option Addr} {oe : Obj} {vs : Array Value} (e : h.get? a = some oe) (z : Zc cls d oe) (hd : oe.data = .fields vs) : ObjOk P w H h a (ExV cls d a) :=
  ⟨⟨oe, vs, e, z, hd⟩, ⟨oe, e⟩, fun _ _ ⟨o, v, q, r⟩ k => ⟨o, v, k o q, r⟩⟩
def wKeep (K : PySem.W.Frag) (c : Value) (i : Nat) (ts : TS) (D : Ends) : WX := fun cls d σ H => PySem.W.exmOne K cls c = some true ∧ ∀ a, H a = none →
  ts { nx := fun σ' H' => D.nx (σ'.set i none) H', rt := D.rt, bk := fun σ' H' => D.bk (σ'.set i none) H', ct := fun σ' H' => D.ct (σ'.set i none) H' } (σ.set i (some (.ref a))) (upd H a (ExV cls d a))
section
variable {X : Cx} {pins : List (Addr × Obj)} {σ : L2.St} {H : Hp} {s : Shared} {x n : Str} {c : Value} {i : Nat} {body suite : List Stmt} {b₀ : Stmt} {np pos pos' : Pos} {tb : WX → TS} {ts : TS}
theorem inv_suite (I : Inv X pins σ H s) (a : Addr) : Inv (X.suite a (X.pn ++ pins)) [] σ H s :=
  ⟨I.ok.suite a (X.pn ++ pins), I.os, I.bare, I.base, I.loc, I.cell, I.free, I.freeC, by rw [List.append_nil]; exact I.pin, I.hok, I.len⟩
theorem inv_unsuite {a : Addr} (I : Inv (X.suite a (X.pn ++ pins)) [] σ H s) (ok : X.Ok) : Inv X pins σ H s :=
  ⟨ok, I.os, I.bare, I.base, I.loc, I.cell, I.free, I.freeC, by have q := I.pin; rw [List.append_nil] at q; exact q, I.hok, I.len⟩
/-- the exception at a, on the ground of the heap h, is tracked from now on -/
theorem inv_track {sI s' : Shared} {B h : Heap} {a : Addr} {cls : Value} {d : Option Addr} (I : Inv X pins σ H sI) (nb : ∀ b o, sI.heap.get? b = some o → b ∉ frs X.stack → B.get? b = some o) (na : H a = none) (nB : B.get? a = none) (nf : a ∉ frs X.stack)
    (st : B.StaysIn h) (up : sI.heap.UpToSlots h) (os : s'.os = sI.os) (ag : AllBare s'.gens) (ho : ∃ oe vs, h.get? a = some oe ∧ Zc cls d oe ∧ oe.data = .fields vs) : Inv X pins σ (upd H a (ExV cls d a)) { s' with heap := h } := by
  obtain ⟨G, in_, out_⟩ := restrict h fun b => decide (b ≠ a)
  have keep : ∀ b, b ≠ a → G.get? b = h.get? b := fun b n => in_ b (decide_eq_true n)
  have gone : G.get? a = none := out_ a (by simp)
  have nI : ∀ b o, sI.heap.get? b = some o → b ≠ a := fun b o e z => by
    subst z
    have w := nb b o e nf
    rw [nB] at w
    cases w
  have J : Inv X pins σ H { s' with heap := G } := I.landed nb (fun b o e => (keep b (fun z => by rw [z, nB] at e; cases e)).trans (st b o e))
    (fun b o e hn => let ⟨sl, w⟩ := up b o e hn; ⟨sl, (keep b (nI b o e)).trans w⟩) os ag
  obtain ⟨oe, vs, e1, e2, e3⟩ := ho
  exact J.laidN (h' := h) (t' := s'.toks) (fun b u e => by
    by_cases z : b = a
    · rw [z, gone] at e; cases e
    · exact (keep b z).symm.trans e) gone na (exV_ok e1 e2 e3)
theorem ps_try_keep (hs : X.stack = X.env :: X.outer) (hf : X.env.frame = some X.env.locals) (hN : X.N.Nodup) (hi : X.N[i]? = some n) (hln : X.env.kindOf n = some .local) (hc : Names X x c)
    (hb : ∀ (W : WX) (pn : List (Addr × Obj)) (xe : Value → Shared → Prop), Takes (X.tr pn xe) W → PSs (X.tr pn xe) body (tb W)) (hsu : ∀ (a : Addr) (pn : List (Addr × Obj)), PSs (X.suite a pn) (b₀ :: suite) ts) :
    PS X (.Try body [.ExceptHandler (some (.Name x np)) (some n) (b₀ :: suite) pos'] [] [] pos) (fun D σ H => tb (wKeep X.K c i ts D) D σ H) := by
  refine ⟨fun pins s σ H D I h => wpAny_Try_except (wpAny_mono ((hb (wKeep X.K c i ts D) (X.pn ++ pins) _ ?_).run [] s σ H D (I.toTry _) h) (fun f s1 q => ?_) fun _ _ z => z)⟩
  · rintro u s' ⟨a, B, sI, pins', σ', H', cls, d, rfl, J', nb, up, sky, na, os, ag, hm, hy⟩
    have ok := I.ok
    have J : Inv X pins σ' H' sI := J'.ofTry ok
    have fr : X.A.frames = some (X.env :: X.outer) := by rw [ok.frames, hs]
    rw [show (X.tr (X.pn ++ pins) _).stack = X.env :: X.outer from hs] at sky
    refine Sky.land Zc.steady fr hf sky fun h3 fl3 up3 => ?_
    have J3 : Inv X pins σ' H' { s' with heap := h3 } := J.landed nb fl3.1 (up.trans up3) os ag
    have S3 := inv_suite J3 a
    obtain ⟨oe3, vs3, he3, hz3, hd3⟩ := fl3.there
    have nfr : a ∉ frs X.stack := fun hm => by
      rw [hs] at hm
      obtain ⟨_, o', e', hnf⟩ := fl3.2.2.1.mem hm
      rw [he3] at e'
      cases e'
      exact hnf _ hd3
    refine wpAny_handleBy_cons (codeAny_handlers_test ?_) (by intro q; cases q)
    have ty : PySem.W.Looks (model X.prog X.w) h3 (typeOf (.ref a)) cls := fun A Q E s k q => wpAny_typeOf_ref (k _ _ he3) (by rw [hz3.1]; exact q)
    have mt := PySem.W.exm_one (M := model X.prog X.w) J3.kIn ty hm
    have named : ∀ {Q E : Value → Shared → Prop}, Q c { s' with heap := h3 } → wpAny (model X.prog X.w) (X.A.mark (some (.ref a))) (eval (.Name x np) X.env) Q E { s' with heap := h3 } := fun q => by
      obtain ⟨hg, hd, w | ⟨w, v, n1⟩⟩ := hc
      · exact ld_glob (X := X.suite a (X.pn ++ pins)) S3 hg w q hd
      · exact ld_blt (X := X.suite a (X.pn ++ pins)) S3 hg w v q n1 hd
    refine named (mt.here (codeAny_handlers_suite_as (HandSPX.lands_againZ fl3 fun h4 fl4 up4 => ?_)))
    have S4 := inv_suite (inv_track (cls := cls) (d := d) J nb na fl4.2.1 nfr fl4.1 ((up.trans up3).trans up4) os ag fl4.there) a
    refine store_ok (X := X.suite a (X.pn ++ pins)) (v := .ref a) S4 hN hi (.inl hln) rfl (fun s5 S5 => ?_) (.inr hln)
    refine wpAny_mono ((hsu a (X.pn ++ pins)).run [] s5 _ _ _ S5 (hy a na)) (fun f s6 q => ?_) fun _ _ z => z.elim
    have over : ∀ {σ6 : L2.St} {H6 : Hp} {Q : Shared → Prop}, Inv (X.suite a (X.pn ++ pins)) [] σ6 H6 s6 → (∀ s7, Inv X pins (σ6.set i none) H6 s7 → Q s7) →
        wpAny (model X.prog X.w) X.A (do bindName X.env n .none; unbindBehindTheSuite X.env n pos') (fun _ s7 => Q s7) X.xe s6 := fun S6 k => gone_ok (inv_unsuite S6 ok) hN hi hln k
    cases f <;> first
      | (obtain ⟨σ6, H6, S6, q6⟩ := q; exact over S6 fun s7 J7 => ⟨_, _, J7, q6⟩)
      | (obtain ⟨v6, σ6, H6, S6, r6, q6⟩ := q; exact over S6 fun s7 J7 => ⟨_, _, _, J7, r6, q6⟩)
  · cases f <;> first
      | (obtain ⟨σ', H', J', q⟩ := q; exact wpAny_execs_nil ⟨σ', H', J'.ofTry I.ok, q⟩)
      | (obtain ⟨σ', H', J', q⟩ := q; exact ⟨σ', H', J'.ofTry I.ok, q⟩)
      | (obtain ⟨v, σ', H', J', r, q⟩ := q; exact ⟨v, σ', H', J'.ofTry I.ok, r, q⟩)
end
end DL
end
section
set_option Elab.async false
set_option linter.all false
set_option maxRecDepth 100000
set_option maxHeartbeats 2000000
/-! The value layer, part 13: f(lambda: ..), f a def that calls what it gets and hands back the exception that came, or None. -/
namespace DL
open PySem PySem.Spec PyProof.Rows L2

theorem takes_len {X : Cx} {W : WX} (t : Takes X W) : Takes X (fun cls d σ H => σ.length = X.N.length → W cls d σ H) := fun u s' ⟨a, B, sI, pins, σ, H, cls, d, e, I, nb, up, sky, na, os, ag, w⟩ =>
  t u s' ⟨a, B, sI, pins, σ, H, cls, d, e, I, nb, up, sky, na, os, ag, w I.len⟩
/-- what the def makes of the lambda's reading -/
def TCaught (K : PySem.W.Frag) (CS : Addr) : (XK → Hp → VK → Prop) → Hp → VK → Prop := fun tl H Q => ∀ Q' : VK, (∀ v H', Q .non H' → Q' v H') →
  tl (fun cls dd H' => PySem.W.exmOne K cls (.ref CS) = some true ∧ ∀ a, H' a = none → Q (.ref a) (upd H' a (ExV cls dd a))) H Q'
/-- the body of such a def -/
def caughtB (a v e en : Str) (j : Nat) (p1 p2 p3 p4 p5 p6 p7 p8 p9 p10 p11 p12 p13 p14 : Pos) : List Stmt :=
  [.Assign [.Name v p1] (.Constant .none j p2) p3,
   .Try [.Expr (.Call (.Name a p4) [] [] p5) p6] [.ExceptHandler (some (.Name e p7)) (some en) [.Assign [.Name v p8] (.Name en p9) p10] p11] [] [] p12,
   .Return (some (.Name v p13)) p14]
theorem caught_gives {X : Cx} {x a v e en q : Str} {sg : Scope} {g CS : Addr} {cdg : Value} {j : Nat} {p1 p2 p3 p4 p5 p6 p7 p8 p9 p10 p11 p12 p13 p14 : Pos} (nd : [a, v, en].Nodup) (hlv : sg.names.lookup v = some .local) (hle : sg.names.lookup en = some .local)
    (hge : sg.names.lookup e = some .globalImplicit) (hme : X.mg e = some (.ref CS)) (hde : (e == ("__debug__" : Str)) = false) (hdv : (v == ("__debug__" : Str)) = false) (hcv : (v == ("__classdict__" : Str)) = false) (hdn : (en == ("__debug__" : Str)) = false) (hcn : (en == ("__classdict__" : Str)) = false) :
    LamX.GivesTo X [a, v, en] x sg g cdg (caughtB a v e en j p1 p2 p3 p4 p5 p6 p7 p8 p9 p10 p11 p12 p13 p14) a q (TCaught X.K CS) := by
  intro f c' s H Q tl act hc h
  have hgl : Gl (cxOf C8.CX0 X.prog X.w X.K X.mg X.base [a, v, en] x sg g cdg X.A X.stack s H C8.E0).nox e := hge
  refine ⟨_, pss_cons (ps_set (i := 1) nd rfl (.inl hlv) pe_non) (pss_cons
    (ps_try_keep (i := 2) (X := (cxOf C8.CX0 X.prog X.w X.K X.mg X.base [a, v, en] x sg g cdg X.A X.stack s H C8.E0).nox) (c := .ref CS)
      (tb := fun W D σ H => ∃ Ech : XK, (∀ cls d σ' H', Ech cls d H' → σ'.length = 3 → W cls d σ' H') ∧ σ[0]? = some (some (.ref f)) ∧ H c' = some (LamX.CodeO c' q) ∧ tl Ech H (fun _ H' => D.nx σ H'))
      rfl rfl nd rfl hle ⟨hgl, hde, .inl hme⟩ (fun W pn xe tk => ?_) (fun a' pn => pss_one (ps_set (i := 1) nd rfl (.inl hlv) (pe_var (i := 2) rfl (.inl hle) hdn hcn))))
    (pss_one (ps_ret (pe_var (i := 1) rfl (.inl hlv) hdv hcv)))), ?_⟩
  · refine ⟨fun pins s' σ H' D I h' => ?_⟩
    obtain ⟨Ech, hW, h1, h2, h3⟩ := h'
    have hp := act _ pn xe Ech p4 p5 (takes_len tk) (fun cls d σ' H' h hl => hW cls d σ' H' h hl)
    exact (pss_one (ps_expr (pos := p6) hp)).run pins s' σ H' D I ⟨h1, h2, h3⟩
  · refine ⟨_, fun cls d σ' H' h hl => ?_, ?_, hc, h _ fun v H' q => ⟨.non, rfl, q⟩⟩
    · obtain ⟨h1, h2⟩ := h
      refine ⟨h1, fun b hb => ?_⟩
      match σ', hl with
      | [s0, s1, s2], _ => exact ⟨.ref b, rfl, .ref b, rfl, h2 b hb⟩
    · rfl
/-! ### the rule -/
def eCaught (pks : List Str) (fb : Ep) : Ep := fun ρ g => match fb ρ g with
  | .stuck => .stuck
  | .ok _ g' => .ok .non g'
  | .exc c f l g' => if c ∈ pks then .ok (.exc c f l) g' else .stuck
theorem Ext.ofN {z : Zt} {H H' : Hp} (e : LamX.ExtN H H') : Ext z H H' := ⟨fun b u q n _ _ => e b u q fun ps w => by rw [w] at n; exact n⟩
theorem GOk.extN {z : Zt} {H H' : Hp} {g : G} (G1 : GOk z H g) (e : LamX.ExtN H H') (t : LamX.Tabs z.T H') : GOk z H' g :=
  ⟨e _ _ G1.p (fun ps w => by cases w), e _ _ G1.l (fun ps w => by cases w), e _ _ G1.c (fun ps w => by cases w), G1.ne, t⟩
section
variable {X : Cx} {z : Zt} {W : WX} {kb : Kd} {fb : Ep} {x a : Str} {g CS c P : Addr} {k : Nat} {pg : Arguments} {bg : List Stmt} {sg : Scope} {dV kV doc pm cdv ct oc : Value} {an od : Option Addr} {osl : Array (Option Value)} {Ng : List Str}
    {params : Arguments} {body : Expr} {scope : Scope} {p lpos pos : Pos} {pks : List Str}
theorem de_caught (hg : Gl X x) (hm : X.mg x = some (.ref g)) (hk : PySem.W.keepIn X.K (.ref g) = true)
    (lk : X.K.lookup g = some ⟨oc, od, .func (PySem.W.fnOf x x pg bg sg dV kV doc pm an cdv ct), osl⟩) (hcg : PySem.W.codeIn X.K cdv x = true) (hb : L2.Binds X.K (PySem.W.fnOf x x pg bg sg dV kV doc pm an cdv ct) [a] []) (Sg : FnScope Ng [a] sg) (hNg : Ng[0]? = some a) (hva : Vis sg a)
    (hG : LamX.GivesTo X Ng x sg g cdv bg a (X.env.qual ++ "<lambda>") (TCaught X.K CS)) (hpk : ∀ c ∈ pks, ∀ C, X.mg c = some (.ref C) → PySem.W.exmOne X.K (.ref C) (.ref CS) = some true)
    (TB : LamX.TabB X.base X.mg c P) (hcode : X.env.code = .ref c) (hmT : (P, X.env.qual ++ "<lambda>") ∈ z.T) (hu : ∀ p ∈ z.T, p.1 = P → p.2 = X.env.qual ++ "<lambda>") (hr : Room (k + 2) X.A) (L : LamX.LamS X.env.scope scope) (hdef : defaultsOf params X.env = ([], []))
    (hbind : ∀ (q : Str) (cl : List (Str × Addr)) (pm cv ctv : Value), bindArgs (PySem.W.kla_fn "<lambda>" q params body scope cl pm cv ctv) ⟨[], []⟩ = pure [])
    (hbody : ∀ (A : Around) (outer : List PySem.Env) (s : Shared) (H : Hp) (E : XK) (f c' : Addr), Room k (A.deeper (LamX.lamEnv X scope s.heap.objs.size f c')) → Takes (LamX.lamCx X A outer s H E scope f c') (fun cls dd _ H => E cls dd H) →
      DE (LamX.lamCx X A outer s H E scope f c') z (fun cls dd _ H => E cls dd H) kb body fb)
    (hdb : (x == ("__debug__" : Str)) = false := by decide) (hd : (a == ("__debug__" : Str)) = false := by decide) (hcd : (a == ("__classdict__" : Str)) = false := by decide) :
    DE X z W .new (.Call (.Name x p) [.Lambda params body scope lpos] [] pos) (eCaught pks fb) := by
  refine de_of (LamX.pe_lamcall (t := fun E => tE X z (fun cls dd _ H => E cls dd H) kb fb) hg hm hk lk hcg hb Sg hNg hva hG TB hcode hmT hu hr L hdef hbind (fun A outer s H E f c' hr' => hbody A outer s H E f c' hr' (takes_of rfl rfl rfl rfl)) hdb hd hcd) fun σ H ρ gs Mu Q E G1 hx => ⟨G1.tb, fun H1 eN T1 Q' hQ => ?_⟩
  have e1 : Ext z H H1 := Ext.ofN eN
  have G2 : GOk z H1 gs := G1.extN eN T1
  have E1 := E.ext G1 e1 G2
  refine ⟨ρ, gs, Mu, E1, G2, ?_⟩
  unfold eCaught at hx
  cases q : fb ρ gs with
  | stuck => rw [q] at hx; exact hx.elim
  | ok d g' =>
    rw [q] at hx
    exact fun v H' e2 G3 _ => hQ v H' (hx .non H' (e1.trans e2) G3 (RK.new_of .non rfl))
  | exc cn fl l g' =>
    rw [q] at hx
    dsimp only at hx
    by_cases hc : cn ∈ pks
    · rw [if_pos hc] at hx
      intro cls dd H' e2 G3 ⟨C, h1, h2, h3⟩
      subst h2
      refine ⟨hpk cn hc C h1, fun b hb => ?_⟩
      have M3 := E1.mu.ext (g := gs) e2 G3
      have nb : b ∉ Mu := M3.new hb
      have s3 : Same H' (upd H' b (ExV (.ref C) dd b)) := same_upd' hb
      refine hx (.ref b) _ ((e1.trans e2).trans (Ext.of s3)) (G3.same s3) (RK.new_of ?_ rfl)
      rcases h3 with ⟨rfl, rfl, rfl⟩ | ⟨dx, v, d, rfl, rfl, h5, h6, h7⟩
      · exact .exc0 nb h1 upd_same
      · exact .exc1 nb h5 h1 upd_same (s3 _ _ h6) (h7.ext M3 G3 (Ext.of s3))
    · rw [if_neg hc] at hx
      exact hx.elim
end
end DL
end
section
set_option Elab.async false
set_option linter.all false
set_option maxRecDepth 100000
set_option maxHeartbeats 2000000
/-! The value layer, part 14: is, in, comparisons in a row, isinstance. -/
namespace DL
open PySem PySem.Spec PyProof.Rows L2

section
variable {X : Cx} {z : Zt} {W : WX} {k ka kb kc : Kd} {e a b c : Expr} {fa fb fc : Ep} {pos : Pos}
/-! ### is -/
theorem PR.none_iff {K : PySem.W.Frag} {mg : Str → Option Value} {Mu : List Addr} {H : Hp} {v : V} {d : D} (r : PR K mg z Mu H v d) : v = .non ↔ d = .non := by
  rcases r with r | ⟨a, rfl, _, _, _, _, c⟩
  · cases r <;> simp
  · cases c <;> simp
theorem op_dIs : DOp X z .new (compareOp .Is) dIs := by
  intro pins s σ H Mu g x y v u dx dy d Q I m G1 rx ry px py hd q
  cases dy <;> try (cases dx <;> simp only [dIs, reduceCtorEq] at hd; done)
  · have e := py.non
    subst e
    refine op_isN pins s σ H x .non v u Q I rx ry ⟨rfl, q _ H Same.refl ?_⟩
    have hn := px.none_iff
    have hd' : d = .bl (decide (x = .non)) := by
      by_cases h : dx = .non
      · subst h
        have := hn.mpr rfl
        subst this
        exact (Option.some.inj hd).symm
      · have hx : ¬ x = .non := fun w => h (hn.mp w)
        rw [decide_eq_false hx]
        cases dx <;> first | exact absurd rfl h | exact (Option.some.inj hd).symm
    rw [hd']
    exact RK.bl
  · cases dx <;> simp only [dIs, reduceCtorEq, Option.some.injEq] at hd
    subst hd
    have e1 := px.bl
    have e2 := py.bl
    subst e1 e2
    exact op_is_bl pins s σ H _ _ v u Q I rx ry ⟨_, _, rfl, rfl, q _ H Same.refl RK.bl⟩
theorem op_dIsN : DOp X z .new (compareOp .IsNot) dIsN := by
  intro pins s σ H Mu g x y v u dx dy d Q I m G1 rx ry px py hd q
  cases dy <;> try (cases dx <;> simp only [dIsN, dIs, reduceCtorEq] at hd; done)
  · have e := py.non
    subst e
    refine op_notN pins s σ H x .non v u Q I rx ry ⟨rfl, q _ H Same.refl ?_⟩
    have hn := px.none_iff
    have hd' : d = .bl (!decide (x = .non)) := by
      by_cases h : dx = .non
      · subst h
        have := hn.mpr rfl
        subst this
        exact (Option.some.inj hd).symm
      · have hx : ¬ x = .non := fun w => h (hn.mp w)
        rw [decide_eq_false hx]
        cases dx <;> first | exact absurd rfl h | exact (Option.some.inj hd).symm
    rw [hd']
    exact RK.bl
  · cases dx <;> simp only [dIsN, dIs, reduceCtorEq, Option.some.injEq] at hd
    subst hd
    have e1 := px.bl
    have e2 := py.bl
    subst e1 e2
    exact op_isnot_bl pins s σ H _ _ v u Q I rx ry ⟨_, _, rfl, rfl, q _ H Same.refl RK.bl⟩
/-! ### in, of a list, a tuple -/
theorem map_int_inj : ∀ {ns ms : List Int}, ns.map D.int = ms.map D.int → ns = ms
  | [], [], _ => rfl
  | [], _ :: _, h => by cases h
  | _ :: _, [], h => by cases h
  | n :: ns, m :: ms, h => by
    rw [List.map_cons, List.map_cons] at h
    injection h with h1 h2
    injection h1 with h1
    rw [h1, map_int_inj h2]
theorem PR.set {K : PySem.W.Frag} {mg : Str → Option Value} {z : Zt} {Mu : List Addr} {H : Hp} {v : V} {ns : List Int} (r : PR K mg z Mu H v (.set (ns.map D.int))) : ∃ a S, v = .ref a ∧ H a = some (.set S ns.length) ∧ (∀ k, S k = decide (k ∈ ns)) ∧ ns.Nodup := by
  rcases r with r | ⟨_, _, _, _, _, _, c⟩
  · generalize hd : D.set (ns.map D.int) = d at r
    cases r with
    | @set a S ms n h hS hn =>
      injection hd with hd
      have e := map_int_inj hd
      subst e
      exact ⟨a, S, rfl, h, hS, hn⟩
    | _ => cases hd
  · cases c
theorem py_of_lst {l : List D} {xs : List PyData} (h : D.pys l = some xs) : (D.lst l).py = some (.list xs) := by rw [D.py, h]
/-! ### a op b op' c -/
def eChain (h h' : D → D → Option D) (fa fb fc : Ep) : Ep := fun ρ => do
  let x ← fa ρ
  let y ← fb ρ
  let r ← ofOpt (h x y)
  match r with
  | .bl true => do
    let w ← fc ρ
    ofOpt (h' y w)
  | .bl false => M.pure (.bl false)
  | _ => stuck
theorem all_chain {d : D} {m : M D} {P : D → G → Prop} {E : Str → Str → List D → G → Prop} {g : G} (h : ((match d with | .bl true => m | .bl false => M.pure (.bl false) | _ => stuck : M D) g).all P E) : (d = .bl true ∧ (m g).all P E) ∨ (d = .bl false ∧ P (.bl false) g) := by
  cases d with
  | bl b => cases b <;> first | exact .inl ⟨rfl, h⟩ | exact .inr ⟨rfl, h⟩
  | _ => exact h.elim
variable {op op' : CmpOp} {h h' : D → D → Option D}
theorem de_chain (ho : DOp X z .new (compareOp op) h) (ho' : DOp X z .new (compareOp op') h') (ha : DE X z W ka a fa) (hb : DE X z W kb b fb) (hc : DE X z W kc c fc) (hm : lastMarks [op, op'] [b, c] = false := by with_unfolding_all rfl) :
    DE X z W .new (.Compare a [op, op'] [b, c] pos) (eChain h h' fa fb fc) := by
  refine ⟨fun pins s σ H Q I ⟨ρ, g, Mu, E, G1, hx⟩ => ?_⟩
  refine Compare_chain (de_run ha I E G1 (R.all_imp (R.all_bind hx) (fun dx g1 hx v u H1 s1 I1 r1 e1 G2 E1 k1 => chain_link ?_) fun _ _ _ _ h => h)) hm
  refine de_run hb I1 E1 G2 (R.all_imp (Raising.all (R.all_bind hx) e1) (fun dy g2 hx v' u' H2 s2 I2 r2 e2 G3 E2 k2 => ?_) fun _ _ _ _ h => h)
  obtain ⟨d, hd, hx⟩ := R.all_opt (R.all_bind hx)
  have p1 : PR X.K X.mg z Mu H2 v dx := (k1.peek E.mu E1.mu G2).ext E1.mu G2 e2
  have p2 : PR X.K X.mg z Mu H2 v' dy := k2.peek E1.mu E2.mu G3
  refine thn (ho pins s2 σ H2 Mu g2 v v' u u' dx dy d (fun w H3 => Same H2 H3 ∧ RK X.K X.mg z .new H2 Mu H3 w d) I2 E2.mu G3 r1 r2 p1 p2 hd fun w H3 s3 k3 => ⟨s3, k3⟩) fun w s3 ⟨w', H3, I3, r3, sm, k3⟩ => ?_
  have G4 := G3.same sm
  have E3 := E2.ext G3 (Ext.of sm) G4
  have e13 := (e1.trans e2).trans (Ext.of sm)
  have kb := k3.peek E2.mu E3.mu G4
  rcases all_chain hx with ⟨rfl, hy⟩ | ⟨rfl, hy⟩
  · obtain rfl := kb.bl
    cases r3
    refine wpAny_truthy_bool (ite_tt (chain_last (de_run hc I3 E3 G4 (R.all_imp (Raising.all (R.all_bind hy) e13) (fun dw g3 hx v3 u3 H4 s4 I4 r4 e4 G5 E4 k4 => ?_) fun _ _ _ _ h => h))))
    obtain ⟨d', hd', hx⟩ := R.all_opt hx
    refine ho' pins s4 σ H4 Mu g3 v' v3 u' u3 dy dw d' Q I4 E4.mu G5 r2 r4 (p2.ext E2.mu G3 ((Ext.of sm).trans e4)) (k4.peek E3.mu E4.mu G5) hd' fun w5 H5 s5 k5 => ?_
    exact hx w5 H5 ((e13.trans e4).trans (Ext.of s5)) (G5.same s5) (k5.back (e13.trans e4) G5)
  · obtain rfl := kb.bl
    cases r3
    exact wpAny_truthy_bool (ite_ff ⟨.bl false, H3, I3, rfl, hy (.bl false) H3 e13 G4 RK.bl⟩)
theorem dt_chain (ho : DOp X z .new (compareOp op) h) (ho' : DOp X z .new (compareOp op') h') (ha : DE X z W ka a fa) (hb : DE X z W kb b fb) (hc : DE X z W kc c fc) (hm : lastMarks [op, op'] [b, c] = false := by with_unfolding_all rfl) :
    DT X z W (.Compare a [op, op'] [b, c] pos) (eTr (eChain h h' fa fb fc)) := by
  refine ⟨fun pins s σ H Q I ⟨ρ, g, Mu, E, G1, hx⟩ => ?_⟩
  have hx : ((eChain h h' fa fb fc ρ g).bind fun d => (match d with | .bl b => M.pure b | _ => stuck : M Bool)).all (fun b g' => ∀ H', Ext z H H' → GOk z H' g' → Q b H') (XW X z W Mu σ H) := hx
  have hx := R.all_bind hx
  refine isTrue_chain (de_run ha I E G1 (R.all_imp (R.all_bind hx) (fun dx g1 hx v u H1 s1 I1 r1 e1 G2 E1 k1 => test_link ?_) fun _ _ _ _ h => h)) hm
  refine de_run hb I1 E1 G2 (R.all_imp (Raising.all (R.all_bind hx) e1) (fun dy g2 hx v' u' H2 s2 I2 r2 e2 G3 E2 k2 => ?_) fun _ _ _ _ h => h)
  obtain ⟨d, hd, hx⟩ := R.all_opt (R.all_bind hx)
  have p1 : PR X.K X.mg z Mu H2 v dx := (k1.peek E.mu E1.mu G2).ext E1.mu G2 e2
  have p2 : PR X.K X.mg z Mu H2 v' dy := k2.peek E1.mu E2.mu G3
  refine thn (ho pins s2 σ H2 Mu g2 v v' u u' dx dy d (fun w H3 => Same H2 H3 ∧ RK X.K X.mg z .new H2 Mu H3 w d) I2 E2.mu G3 r1 r2 p1 p2 hd fun w H3 s3 k3 => ⟨s3, k3⟩) fun w s3 ⟨w', H3, I3, r3, sm, k3⟩ => ?_
  have G4 := G3.same sm
  have E3 := E2.ext G3 (Ext.of sm) G4
  have e13 := (e1.trans e2).trans (Ext.of sm)
  have kb := k3.peek E2.mu E3.mu G4
  rcases all_chain hx with ⟨rfl, hy⟩ | ⟨rfl, hy⟩
  · obtain rfl := kb.bl
    cases r3
    refine wpAny_truthy_bool (ite_tt (test_last (de_run hc I3 E3 G4 (R.all_imp (Raising.all (R.all_bind hy) e13) (fun dw g3 hx v3 u3 H4 s4 I4 r4 e4 G5 E4 k4 => ?_) fun _ _ _ _ h => h))))
    obtain ⟨d', hd', hx⟩ := R.all_opt hx
    obtain ⟨b, rfl, hx⟩ := all_tr hx
    refine thn (ho' pins s4 σ H4 Mu g3 v' v3 u' u3 dy dw (.bl b) (fun w H5 => Same H4 H5 ∧ RK X.K X.mg z .new H4 Mu H5 w (.bl b)) I4 E4.mu G5 r2 r4 (p2.ext E2.mu G3 ((Ext.of sm).trans e4)) (k4.peek E3.mu E4.mu G5) hd' fun w5 H5 s5 k5 => ⟨s5, k5⟩) fun w5 s5 ⟨w', H5, I5, r5, sm5, k5⟩ => ?_
    have G6 := G5.same sm5
    have E5 := E4.ext G5 (Ext.of sm5) G6
    obtain rfl := (k5.peek E4.mu E5.mu G6).bl
    cases r5
    exact wpAny_truthy_bool ⟨H5, I5, hx H5 ((e13.trans e4).trans (Ext.of sm5)) G6⟩
  · obtain rfl := kb.bl
    cases r3
    obtain ⟨b, hb, hx⟩ := all_tr (d := .bl false) hy
    cases hb
    exact wpAny_truthy_bool (ite_ff ⟨H3, I3, hx H3 e13 G4⟩)
/-! ### isinstance -/
theorem de_ty {x : Str} {n : String} (hg : Gl X x) (hm : X.mg x = none) (hv : bootBuiltins x = some (.type n)) (hn : x ≠ "__name__" := by decide) (hd : (x == ("__debug__" : Str)) = false := by decide) : DE X z W .new (.Name x pos) (eC (.ty n)) :=
  de_const (v := .ty n) (pe_bltn hg hm hv rfl hn hd) (fun _ _ => .ty n) rfl
def tyN : D → Option String
  | .non => some "NoneType"
  | .bl _ => some "bool"
  | .int _ => some "int"
  | .str _ => some "str"
  | .tup _ => some "tuple"
  | .lst _ => some "list"
  | .dct _ => some "dict"
  | _ => none
/-- what isinstance says: sub of two classes of the text, cls: a class of the text of no built-in kind -/
def fIsi (sub : Str → Str → Option Bool) (cls : Str → Bool) : List D → Option D
  | [.exc c _ [], .fn c'] => (sub c c').map D.bl
  | [d, .fn c'] => match tyN d with
    | some _ => if cls c' = true then some (.bl false) else none
    | none => none
  | [d, .ty n] => match tyN d with
    | some t => (kitB t n).map D.bl
    | none => none
  | _ => none
structure IsiOk (K : PySem.W.Frag) (mg : Str → Option Value) (sub : Str → Str → Option Bool) (cls : Str → Bool) : Prop where
  own : ∀ c c' b C C', sub c c' = some b → mg c = some (.ref C) → mg c' = some (.ref C') → ExcC K C ∧ PySem.W.kitOne K (.ref C) (.ref C') = some b
  not : ∀ c' C', cls c' = true → mg c' = some (.ref C') → ∀ t ∈ ["NoneType", "bool", "int", "str", "tuple", "list", "dict"], PySem.W.kitOne K (.type t) (.ref C') = some false
theorem tyN_mem {d : D} {t : String} (h : tyN d = some t) : t ∈ ["NoneType", "bool", "int", "str", "tuple", "list", "dict"] := by
  cases d <;> simp only [tyN, reduceCtorEq, Option.some.injEq] at h <;> subst h <;> simp
/-- what isinstance asks of a value of a built-in kind -/
theorem kit_D {pins : List (Addr × Obj)} {s : Shared} {σ : L2.St} {H : Hp} {Mu : List Addr} {v : V} {u : Value} {d : D} {t : String} (I : Inv X pins σ H s) (rx : RelV v u) (p : PR X.K X.mg z Mu H v d) (ht : tyN d = some t) :
    ∃ P : Heap → Prop, PySem.W.KitX X.K u (.type t) P ∧ P s.heap ∧ u ≠ .builtin "__main__.__loader__#opaque" := by
  cases d <;> simp only [tyN, reduceCtorEq, Option.some.injEq] at ht <;> subst ht
  · have e := p.non
    subst e
    exact kit_of I rx (.base .non)
  · have e := p.bl
    subst e
    exact kit_of I rx (.base (.bl _))
  · have e := p.int
    subst e
    exact kit_of I rx (.base (.int _))
  · have e := p.str
    subst e
    exact kit_of I rx (.base (.str _))
  · obtain ⟨a, xs, rfl, _, hx, _⟩ := p.tup
    cases rx
    obtain ⟨o, _, ho⟩ := hx
    obtain ⟨hg, _, _, _, o2, hg2, hc, _⟩ := I.hok a _ ho
    exact ⟨_, PySem.W.kitx_tuple, ⟨o2, hg2, hc⟩, fun z => nomatch z⟩
  · obtain ⟨a, xs, rfl, hx, _⟩ := p.lst
    exact kit_of I rx (.base (.lst hx))
  · obtain ⟨a, o, es, ep, ks, vs, rfl, ho, _, hex, _⟩ := p.dct
    cases rx
    exact ⟨_, PySem.W.kitx_dict, ⟨o, (I.hok a _ ho).1, hex.1⟩, fun z => nomatch z⟩
theorem call_isi' {sub : Str → Str → Option Bool} {cls : Str → Bool} (ok : IsiOk X.K X.mg sub cls) : DCall X z .new (.builtin "isinstance") (fIsi sub cls) := by
  intro pins s σ H Mu g xs us ds d Q I m G1 rv rs hd q
  match ds, rs, hd with
  | [dx, dy], rs, hd =>
    obtain ⟨v, w, rfl, p1, p2⟩ := rs.two
    obtain ⟨u1, u2, rfl, r1, r2⟩ := vals2 rv
    have fin : ∀ {t : Value} {P : Heap → Prop} {b : Bool}, PySem.W.KitX X.K u1 t P → P s.heap → u1 ≠ .builtin "__main__.__loader__#opaque" → PySem.W.kitOne X.K t u2 = some b → d = .bl b → wpAny (model X.prog X.w) X.A (call (.builtin "isinstance") [u1, u2]) (EP X pins σ Q) X.xe s := fun {t P b} Z hp hn e ed =>
      PySem.W.kia_one Z I.kIn hp e hn fun tk => ⟨.bl b, H, I.tok tk, rfl, by rw [ed] at q; exact q _ H Same.refl RK.bl⟩
    have isfn : ∀ c', dy = .fn c' → ∃ C', X.mg c' = some (.ref C') ∧ u2 = .ref C' := fun c' e => by
      subst e
      rcases p2 with p | ⟨_, _, _, _, _, _, c⟩
      · cases p with | fn hm => exact ⟨_, hm, r2⟩
      · cases c
    have ofTy : ∀ t, tyN dx = some t → (∃ n, dy = .ty n ∧ (kitB t n).map D.bl = some d) ∨ (∃ c', dy = .fn c' ∧ cls c' = true ∧ d = .bl false) → wpAny (model X.prog X.w) X.A (call (.builtin "isinstance") [u1, u2]) (EP X pins σ Q) X.xe s := fun t ht h => by
      obtain ⟨P, Z, hp, hn⟩ := kit_D I r1 p1 ht
      rcases h with ⟨n, e, hk⟩ | ⟨c', e, hc, ed⟩
      · subst e
        obtain ⟨b, hb, rfl⟩ := Option.map_eq_some_iff.mp hk
        have e2 : u2 = .type n := by
          rcases p2 with p | ⟨_, _, _, _, _, _, c⟩
          · cases p; exact r2
          · cases c
        subst e2
        exact fin Z hp hn (kit_ty hb) rfl
      · obtain ⟨C', hm, rfl⟩ := isfn c' e
        exact fin Z hp hn (ok.not c' C' hc hm t (tyN_mem ht)) ed
    have ofB : ∀ t, tyN dx = some t → fIsi sub cls [dx, dy] = some d → wpAny (model X.prog X.w) X.A (call (.builtin "isinstance") [u1, u2]) (EP X pins σ Q) X.xe s := fun t ht hd => by
      refine ofTy t ht ?_
      cases dy with
      | ty n =>
        refine .inl ⟨n, rfl, ?_⟩
        cases dx <;> simp only [tyN, reduceCtorEq, Option.some.injEq] at ht <;> subst ht <;> exact hd
      | fn c' =>
        refine .inr ⟨c', rfl, ?_⟩
        have hd' : (if cls c' = true then some (D.bl false) else none) = some d := by
          cases dx <;> simp only [tyN, reduceCtorEq, Option.some.injEq] at ht <;> exact hd
        obtain ⟨h1, h2⟩ := opt_if hd'
        exact ⟨h1, h2.symm⟩
      | _ => cases dx <;> simp only [tyN, reduceCtorEq, Option.some.injEq] at ht <;> cases hd
    cases dx with
    | exc c f l =>
      cases l with
      | cons _ _ => cases dy <;> simp only [fIsi, tyN, reduceCtorEq] at hd
      | nil =>
        cases dy <;> simp only [fIsi, tyN, reduceCtorEq] at hd
        rename_i c'
        obtain ⟨b, hb, rfl⟩ := Option.map_eq_some_iff.mp hd
        obtain ⟨C', hm, rfl⟩ := isfn c' rfl
        rcases p1 with p | ⟨_, _, _, _, _, _, cc⟩
        · cases p with
          | @exc0 a _ C _ hC ha =>
            obtain ⟨ec, ek⟩ := ok.own c c' b C C' hb hC hm
            cases r1
            obtain ⟨⟨oe, fs, e1, e2, e3⟩, _, _⟩ := I.hok a _ ha
            refine fin (PySem.W.handS_kitx_exc (ox := oe) ec.hg ec.hk ec.hs ec.hd ec.ha ec.hn ec.ht ec.hm) ?_ (fun z => nomatch z) ek rfl
            obtain ⟨oc, od, odt, osl⟩ := oe
            obtain ⟨z1, z2⟩ := e2
            dsimp only at z1 z2 e3
            subst z1 z2 e3
            exact ⟨e1, rfl, rfl, trivial⟩
        · cases cc
    | non => exact ofB _ rfl hd
    | bl _ => exact ofB _ rfl hd
    | int _ => exact ofB _ rfl hd
    | str _ => exact ofB _ rfl hd
    | tup _ => exact ofB _ rfl hd
    | lst _ => exact ofB _ rfl hd
    | dct _ => exact ofB _ rfl hd
    | _ => cases dy <;> simp only [fIsi, tyN, reduceCtorEq] at hd
  | [], _, hd => simp only [fIsi, reduceCtorEq] at hd
  | [_], _, hd => simp only [fIsi, reduceCtorEq] at hd
  | _ :: _ :: _ :: _, _, hd => simp only [fIsi, reduceCtorEq] at hd
end
end DL
end
section
set_option Elab.async false
set_option linter.all false
set_option maxRecDepth 100000
set_option maxHeartbeats 2000000
/-! The value layer, part 15: repr; several names assigned at once; targets that are no plain name. -/
namespace DL
open PySem PySem.Spec PyProof.Rows L2

/-! ### repr -/
def okR (p : PyData) : Bool := p.showable && p.leavesShort 13 && decide (p.weight ≤ 2 ^ 20) && decide (p.depth ≤ 64)
def fRepr : List D → Option D
  | [d] => match d.py with
    | some p => if okR p = true then some (.str p.shown) else none
    | none => none
  | _ => none
theorem shown_scal : (PyData.none).shown = ("None" : Str) ∧ (∀ b, (PyData.bool b).shown = if b then ("True" : Str) else "False") ∧ (∀ i, (PyData.int i).shown = toString i) ∧ ∀ x, (PyData.str x).shown = reprText x :=
  ⟨by simp only [PyData.shown], fun b => by simp only [PyData.shown], fun i => by simp only [PyData.shown], fun x => by simp only [PyData.shown]⟩
section
variable {X : Cx} {z : Zt}
theorem call_repr' (hgd : GdOk X.A X.base) (hX : XG X) : DCall X z .new (.builtin "repr") fRepr := by
  intro pins s σ H Mu g xs us ds d Q I m G1 rv rs hd q
  match ds, rs, hd with
  | [dx], rs, hd =>
    obtain ⟨v, rfl, p1⟩ := rs.one
    obtain ⟨u, rfl, r1⟩ := vals1 rv
    unfold fRepr at hd
    dsimp only at hd
    split at hd
    · rename_i p hp
      obtain ⟨ho, rfl⟩ := opt_if hd
      unfold okR at ho
      simp only [Bool.and_eq_true, decide_eq_true_eq] at ho
      obtain ⟨⟨⟨o1, o2⟩, o3⟩, o4⟩ := ho
      have sz : p.shown.length ≤ sizeLine := PyData.shown_fits (by decide) (by decide) o2 o3
      have fin : ∀ (h' : Heap) (t : Tok) (tk : Nat), (∀ b o, s.heap.get? b = some o → h'.get? b = some o) → EP X pins σ Q (.str p.shown t) { s with heap := h', toks := tk } := fun h' t tk k => ⟨.str p.shown, H, I.kept (t' := tk) k, ⟨t, rfl⟩, q _ H Same.refl RK.str⟩
      obtain ⟨e1, e2, e3, e4⟩ := shown_scal
      obtain ⟨as, rd, ns⟩ := p1.reads2 I r1 hp
      have sy : SysD s.heap := let ⟨o, es, ep, e1, e2⟩ := hgd.2; ⟨o, es, ep, I.bk _ _ e1, e2⟩
      have ref : ∀ {a : Addr}, u = .ref a → wpAny (model X.prog X.w) X.A (call (.builtin "repr") [u]) (EP X pins σ Q) X.xe s := fun {a} e => by
        subst e
        refine repr_of_reads' rd o1 (fun _ => ns sy) hgd.1 ?_ (fun _ _ e => e) (fun h' t tk k => fin h' t tk k) sz
        have := hX.room.un
        omega
      cases rd with
      | none => have := fin s.heap s.toks (s.toks + 1) (fun _ _ e => e); rw [e1] at this; exact PySem.P.repr_of_none this
      | bool b => have := fin s.heap s.toks (s.toks + 1) (fun _ _ e => e); rw [e2] at this; exact PySem.P.repr_of_bool this
      | int i t => have := fin s.heap s.toks (s.toks + 1) (fun _ _ e => e); rw [e3] at this; exact PySem.P.repr_of_int (by simpa [PyData.showable] using o1) this
      | str x t => have := fin s.heap s.toks (s.toks + 1) (fun _ _ e => e); rw [e4] at this; rw [e4] at sz; exact PySem.P.repr_of_str this sz
      | list _ _ _ _ => exact ref rfl
      | tuple _ _ _ _ => exact ref rfl
      | dict _ _ _ _ _ => exact ref rfl
    · cases hd
  | [], _, hd => cases hd
  | _ :: _ :: _, _, hd => cases hd
end

/-! ### values that are held while others are made -/
section
variable {K : PySem.W.Frag} {mg : Str → Option Value} {z : Zt} {P : Snap} {Mu : List Addr} {H H' : Hp} {v : V} {σ τ : L2.St} {ρ θ : Env} {g g' : G} {x : Option Sl}
theorem EnvOk.pre (hl : ρ.length = σ.length) (E : EnvOk K mg z Mu H (σ ++ τ) (ρ ++ θ)) : EnvOk K mg z Mu H σ ρ := by
  have up : ∀ {i : Nat} {s : Option Sl}, ρ[i]? = some s → (ρ ++ θ)[i]? = some s ∧ i < σ.length := fun {i s} h => by
    have hi := (List.getElem?_eq_some_iff.mp h).1
    exact ⟨by rw [List.getElem?_append_left hi]; exact h, hl ▸ hi⟩
  refine ⟨hl, E.mu, fun i t d q => ?_, fun i j d d' a q1 q2 s1 s2 => ?_⟩
  · obtain ⟨w, h1, h2⟩ := E.val i t d (up q).1
    exact ⟨w, by rw [List.getElem?_append_left (up q).2] at h1; exact h1, h2⟩
  · exact E.sep i j d d' a (up q1).1 (up q2).1 (by rw [List.getElem?_append_left (up q1).2]; exact s1) (by rw [List.getElem?_append_left (up q2).2]; exact s2)
theorem SOk.pre (hl : ρ.length = σ.length) (S : SOk K mg z P Mu H (σ ++ τ) (ρ ++ θ) g) : SOk K mg z P Mu H σ ρ g := by
  refine ⟨S.env.pre hl, S.g, S.ext, S.sub, S.m0, fun i d a q s => ?_, S.kp, S.km, S.kz, S.kt⟩
  have hi := (List.getElem?_eq_some_iff.mp q).1
  exact S.own i d a (by rw [List.getElem?_append_left hi]; exact q) (by rw [List.getElem?_append_left (hl ▸ hi)]; exact s)
theorem SOk.app (S : SOk K mg z P Mu H σ ρ g) : SOk K mg z P Mu H (σ ++ [none]) (ρ ++ [none]) g := by
  have dn : ∀ {i : Nat} {s : Sl}, (ρ ++ [none])[i]? = some (some s) → ρ[i]? = some (some s) ∧ i < σ.length := fun {i s} h => by
    by_cases hi : i < ρ.length
    · rw [List.getElem?_append_left hi] at h
      exact ⟨h, S.env.len ▸ hi⟩
    · rw [List.getElem?_append_right (by omega)] at h
      cases e : i - ρ.length with
      | zero => rw [e] at h; cases h
      | succ n => rw [e] at h; cases h
  refine ⟨⟨by rw [List.length_append, List.length_append, S.env.len]; rfl, S.env.mu, fun i t d q => ?_, fun i j d d' a q1 q2 s1 s2 => ?_⟩, S.g, S.ext, S.sub, S.m0, fun i d a q s => ?_, S.kp, S.km, S.kz, S.kt⟩
  · obtain ⟨w, h1, h2⟩ := S.env.val i t d (dn q).1
    exact ⟨w, by rw [List.getElem?_append_left (dn q).2]; exact h1, h2⟩
  · rw [List.getElem?_append_left (dn q1).2] at s1
    rw [List.getElem?_append_left (dn q2).2] at s2
    exact S.env.sep i j d d' a (dn q1).1 (dn q2).1 s1 s2
  · rw [List.getElem?_append_left (dn q).2] at s
    exact S.own i d a (dn q).1 s
/-- the last one held goes into a local -/
theorem SOk.pop (i : Nat) (hl : ρ.length = σ.length) (S : SOk K mg z P Mu H (σ ++ [some v]) (ρ ++ [x]) g) : SOk K mg z P Mu H (σ.set i (some v)) (ρ.set i x) g := by
  have dn : ∀ {k : Nat} {s : Sl}, (ρ.set i x)[k]? = some (some s) → ∃ j, (ρ ++ [x])[j]? = some (some s) ∧ (∀ w, (σ.set i (some v))[k]? = some w ↔ (σ ++ [some v])[j]? = some w) ∧ (j = if k = i then ρ.length else k) ∧ k < ρ.length := fun {k s} h => by
    have hk : k < ρ.length := by
      have h1 := (List.getElem?_eq_some_iff.mp h).1
      rwa [List.length_set] at h1
    by_cases hi : k = i
    · subst hi
      rw [List.getElem?_set_self hk] at h
      refine ⟨ρ.length, by rw [List.getElem?_append_right (Nat.le_refl _), Nat.sub_self]; exact h, fun w => ?_, by rw [if_pos rfl], hk⟩
      rw [List.getElem?_set_self (hl ▸ hk), hl, List.getElem?_append_right (Nat.le_refl _), Nat.sub_self]
      rfl
    · rw [List.getElem?_set_ne (Ne.symm hi)] at h
      refine ⟨k, by rw [List.getElem?_append_left hk]; exact h, fun w => ?_, by rw [if_neg hi], hk⟩
      rw [List.getElem?_set_ne (Ne.symm hi), List.getElem?_append_left (hl ▸ hk)]
  refine ⟨⟨by rw [List.length_set, List.length_set]; exact hl, S.env.mu, fun k t d q => ?_, fun k l d d' a q1 q2 s1 s2 => ?_⟩, S.g, S.ext, S.sub, S.m0, fun k d a q s => ?_, S.kp, S.km, S.kz, S.kt⟩
  · obtain ⟨j, h1, h2, _⟩ := dn q
    obtain ⟨w, h3, h4⟩ := S.env.val j t d h1
    exact ⟨w, (h2 _).mpr h3, h4⟩
  · obtain ⟨j1, h1, h2, h3, h4⟩ := dn q1
    obtain ⟨j2, k1, k2, k3, k4⟩ := dn q2
    have e := S.env.sep j1 j2 d d' a h1 k1 ((h2 _).mp s1) ((k2 _).mp s2)
    rw [h3, k3] at e
    by_cases c1 : k = i <;> by_cases c2 : l = i
    · rw [c1, c2]
    · rw [if_pos c1, if_neg c2] at e; omega
    · rw [if_neg c1, if_pos c2] at e; omega
    · rw [if_neg c1, if_neg c2] at e; exact e
  · obtain ⟨j, h1, h2, _⟩ := dn q
    exact S.own j d a h1 ((h2 _).mp s)
/-- one more is held -/
theorem SOk.push {k : Kd} {H1 : Hp} {d : D} {g1 : G} (S : SOk K mg z P Mu H σ ρ g) (e1 : Ext z H H1) (G1 : GOk z H1 g1) (own : Bool) (hk : k = if own = true then .new else .sh) (r : RK K mg z k H Mu H1 v d) :
    ∃ Mu', SOk K mg z P Mu' H1 (σ ++ [some v]) (ρ ++ [some (own && d.box, d)]) g1 := by
  obtain ⟨Mu', S'⟩ := S.app.store (i := σ.length) e1 G1 own hk r
  refine ⟨Mu', ?_⟩
  have e2 : (σ ++ [none]).set σ.length (some v) = σ ++ [some v] := by rw [List.set_append_right _ _ (Nat.le_refl _), Nat.sub_self]; rfl
  have e3 : (ρ ++ [none]).set σ.length (some (own && d.box, d)) = ρ ++ [some (own && d.box, d)] := by rw [← S.env.len, List.set_append_right _ _ (Nat.le_refl _), Nat.sub_self]; rfl
  rw [e2, e3] at S'
  exact S'
end
section
variable {X : Cx} {n : En} {a b c e : Expr} {fa fb fc : Ep} {px py pq pt pos : Pos} {i j l : Nat} {x y w : Str} {o1 o2 o3 : Bool} {kt k2 : Nat} {pt2 : Pos}
abbrev kO (o : Bool) : Kd := if o = true then .new else .sh
theorem ds_par2 (hX : XG X) (hi : X.N[i]? = some x) (hj : X.N[j]? = some y) (hij : i ≠ j) (hx : X.env.scope.names.lookup x = some .local) (hy : X.env.scope.names.lookup y = some .local) (ha : DE X n.z n.W (kO o1) a fa) (hb : DE X n.z n.W (kO o2) b fb)
    (hw : swappedStores [.Tuple [.Name x px, .Name y py] kt pt] (.Tuple [a, b] k2 pt2) X.env = pure (some [x, y]) := by rfl) (hs : swapsWithSole [.Tuple [.Name x px, .Name y py] kt pt] (.Tuple [a, b] k2 pt2) pos.line X.env = pure false := by rfl)
    (s1 : starEach [a, b] X.env = (false, eval a X.env) :: starEach [b] X.env := by rfl) (s2 : starEach [b] X.env = (false, eval b X.env) :: starEach [] X.env := by rfl) :
    DS X n (.Assign [.Tuple [.Name x px, .Name y py] kt pt] (.Tuple [a, b] k2 pt2) pos) (sPar o1 o2 i j fa fb) := by
  refine ⟨fun pins s σ H D I ⟨ρ, g, Mu, S, hq⟩ => ?_⟩
  refine (ps_par hX.calm hX.nd hi hj hij hx hy (pa_cons ha (pa_cons hb pa_nil s2) s1) hw hs).run pins s σ H D I ⟨ρ, g, Mu, S.env, S.g, R.all_imp (EW.x S (R.all_bind hq)) (fun d g1 hq v H1 e1 G2 k1 => ?_) fun _ _ _ _ h => h⟩
  obtain ⟨M1, S1⟩ := S.push e1 G2 o1 rfl k1
  refine ⟨ρ, g1, M1, S1.env.pre S.env.len, S1.g, R.all_imp (EW.x (S1.pre S.env.len) (R.all_bind hq)) (fun d' g2 hq v' H2 e2 G3 k2 => ?_) fun _ _ _ _ h => h⟩
  · obtain ⟨M2, S2⟩ := S1.push e2 G3 o2 rfl k2
    refine ⟨v, v', rfl, ?_⟩
    have li : i < σ.length := by rw [I.len]; exact (List.getElem?_eq_some_iff.mp hi).1
    have lj : j < σ.length := by rw [I.len]; exact (List.getElem?_eq_some_iff.mp hj).1
    have T1 := SOk.pop j S1.env.len S2
    rw [List.set_append_left _ _ lj, List.set_append_left _ _ (S.env.len ▸ lj)] at T1
    have T2 := SOk.pop i (by rw [List.length_set, List.length_set]; exact S.env.len) T1
    rw [List.set_comm _ _ hij]
    exact hq _ H2 M2 T2
/-- a, b, c = .. -/
def sPar3 (o1 o2 o3 : Bool) (i j l : Nat) (f1 f2 f3 : Ep) : Ss := fun ρ => do
  let d ← f1 ρ
  let d' ← f2 ρ
  let d'' ← f3 ρ
  M.pure (.nx (((ρ.set l (some (o3 && d''.box, d''))).set j (some (o2 && d'.box, d'))).set i (some (o1 && d.box, d))))
/-- a target that is no plain name, a value that is shared -/
def sAsg (f : Ep) (t : D → Env → Option Env) : Ss := fun ρ => do
  let d ← f ρ
  let ρ' ← ofOpt (t d ρ)
  M.pure (.nx ρ')
theorem ds_asg {tg : Expr} {gt : TG} {t : D → Env → Option Env} {is : List Nat} (he : DE X n.z n.W .sh e fa) (hg : TgOk X n.z tg gt t is) (hs : swapsWithSole [tg] e pos.line X.env = pure false := by rfl) (hw : swappedStores [tg] e X.env = pure none := by rfl)
    (h1 : (assignEach [tg] X.env).map (·.2) = [assign tg X.env] := by rfl) : DS X n (.Assign [tg] e pos) (sAsg fa t) := by
  refine ⟨fun pins s σ H D I ⟨ρ, g, Mu, S, hq⟩ => ?_⟩
  refine (ps_asg he hg.pg hs hw h1).run pins s σ H D I ⟨ρ, g, Mu, S.env, S.g, R.all_imp (EW.x S (R.all_bind hq)) (fun d g1 hq v H1 e1 G2 k1 => ?_) fun _ _ _ _ h => h⟩
  obtain ⟨ρ', ht, hq⟩ := R.all_opt (R.all_bind hq)
  have S1 := S.step e1 G2
  exact hg.ok v d σ H1 ρ ρ' Mu _ S1.env k1 ht fun σ' E' T' => hq σ' H1 Mu (S1.tch E' T')
end
end DL
end
section
set_option Elab.async false
set_option linter.all false
set_option maxRecDepth 100000
set_option maxHeartbeats 2000000
/-! The value layer, part 16: the state of the draws, looked at and changed. -/
namespace DL
open PySem PySem.Spec PyProof.Rows L2

/-- the parameter that holds the state -/
def tSt (X : Cx) (z : Zt) (i : Nat) (key : Str) : TE := fun σ H Q => ∃ ρ g Mu v, EnvOk X.K X.mg z Mu H σ ρ ∧ GOk z H g ∧ shAt ρ i = some .st ∧ valV (stK z g) (.inr key : Key) = some v ∧ Q v H
theorem Rep.st_inv {K : PySem.W.Frag} {mg : Str → Option Value} {z : Zt} {Mu : List Addr} {H : Hp} {v : V} (r : Rep K mg z Mu H v .st) : v = .ref z.p := by cases r; rfl
theorem EnvOk.stAt {K : PySem.W.Frag} {mg : Str → Option Value} {z : Zt} {Mu : List Addr} {H : Hp} {σ : L2.St} {ρ : Env} {i : Nat} (E : EnvOk K mg z Mu H σ ρ) (h : shAt ρ i = some .st) : σ[i]? = some (some (.ref z.p)) := by
  obtain ⟨v, hv, r⟩ := E.val i false .st (shAt_some h)
  rw [hv, Rep.st_inv r]
section
variable {X : Cx} {z : Zt} {W : WX} {k ka kb : Kd} {e a b : Expr} {f fa fb : Ep} {i j m : Nat} {s key : Str} {p1 p2 p3 p4 p5 pos : Pos}
theorem pe_st (hX : XG X) (h : PE X (.Name s p1) (tVar i)) (hs : NoSl (.Constant (.str key) j p2) := by exact fun _ _ => rfl) : PE X (.Subscript (.Name s p1) (.Constant (.str key) j p2) pos) (tSt X z i key) := by
  have hu : X.A.units + 1 < cLine := by have := hX.room.un; omega
  refine ⟨fun pins s σ H Q I ⟨ρ, g, Mu, v, E, G1, hr, hv, q⟩ => ?_⟩
  refine (pe_dget hu h pe_str hs).run pins s σ H Q I ⟨_, E.stAt hr, ?_⟩
  refine ⟨z.p, v, rfl, ?_, q⟩
  have w := DGet.k (k := (.inr key : Key)) G1.p
  rw [hv] at w
  exact w
def onSt {α : Type} (i : Nat) (f : M α) (ρ : Env) : M α := match shAt ρ i with
  | some .st => f
  | _ => stuck
theorem all_onSt {α : Type} {i : Nat} {f : M α} {ρ : Env} {g : G} {P : α → G → Prop} {E : Str → Str → List D → G → Prop} (h : (onSt i f ρ g).all P E) : shAt ρ i = some .st ∧ (f g).all P E := by
  unfold onSt at h
  cases q : shAt ρ i with
  | none => rw [q] at h; exact h.elim
  | some d => rw [q] at h; cases d <;> first | exact ⟨rfl, h⟩ | exact h.elim
def eStL (i : Nat) : Ep := onSt i fun g => .ok (.int g.left) g
def eStT (i : Nat) : Ep := onSt i fun g => .ok (.int g.turn) g
theorem de_stL (hX : XG X) (h : PE X (.Name s p1) (tVar i)) : DE X z W .new (.Subscript (.Name s p1) (.Constant (.str "left") j p2) pos) (eStL i) :=
  de_of (pe_st hX h) fun σ H ρ g Mu Q E G1 hx => by
    obtain ⟨hs, hx⟩ := all_onSt hx
    exact ⟨ρ, g, Mu, .int g.left, E, G1, hs, rfl, hx _ H Ext.refl G1 RK.int⟩
theorem de_stT (hX : XG X) (h : PE X (.Name s p1) (tVar i)) : DE X z W .new (.Subscript (.Name s p1) (.Constant (.str "turn") j p2) pos) (eStT i) :=
  de_of (pe_st hX h) fun σ H ρ g Mu Q E G1 hx => by
    obtain ⟨hs, hx⟩ := all_onSt hx
    exact ⟨ρ, g, Mu, .int g.turn, E, G1, hs, rfl, hx _ H Ext.refl G1 RK.int⟩
/-- a list of numbers that is not empty -/
def rNeNil : R2 := fun x y H Q => ∃ a b, ∃ ns : List Int, x = .ref a ∧ y = .ref b ∧ H a = some (.lst (ns.map V.int)) ∧ H b = some (.lst []) ∧ ns.length ≤ sizeLine ∧ Q (.bl (decide (ns ≠ []))) H
theorem pys_ints : ∀ ns : List Int, D.pys (ns.map D.int) = some (ns.map PyData.int)
  | [] => by rw [List.map_nil, D.pys]; rfl
  | n :: ns => by rw [List.map_cons, D.pys, D.py, pys_ints ns]; rfl
theorem ints_lay : ∀ ns : List Int, PyData.canLayAll0 (ns.map PyData.int) = true
  | [] => by simp [PyData.canLayAll0]
  | n :: ns => by simp [PyData.canLayAll0, PyData.canLay0, ints_lay ns]
theorem ints_depth : ∀ ns : List Int, PyData.depthAll (ns.map PyData.int) = 0
  | [] => by simp [PyData.depthAll]
  | n :: ns => by simp [PyData.depthAll, PyData.depth, ints_depth ns]
theorem ints_shaped (ns : List Int) : SeqAt.shaped (.list (ns.map PyData.int)) = true := by
  unfold SeqAt.shaped
  rw [Bool.and_eq_true, decide_eq_true_eq]
  refine ⟨by rw [PyData.canLay0]; exact ints_lay ns, ?_⟩
  rw [PyData.depth, ints_depth]
  omega
theorem op_neNil (hX : XG X) : OpR X (compareOp .NotEq) rNeNil := by
  intro pins s σ H x y v u Q I rx ry ⟨a, b, ns, ex, ey, ha, hb, _, q⟩
  subst ex ey
  have r1 : Rep X.K X.mg ⟨0, 0, 0, [], [], [], Str.empty⟩ [] H (.ref a) (.lst (ns.map D.int)) := .lst (by simp) ha (Reps.ints ns)
  have r2 : Rep X.K X.mg ⟨0, 0, 0, [], [], [], Str.empty⟩ [] H (.ref b) (.lst []) := .lst (by simp) hb .nil
  obtain ⟨as, h1⟩ := r1.reads I rx (py_of_lst (pys_ints ns))
  obtain ⟨bs, h2⟩ := r2.reads I ry (py_of_lst (l := []) (xs := []) (pys_ints []))
  refine ne_dataH h1 h2 (ints_shaped ns) (ints_shaped []) hX.eq ⟨.bl _, H, I, rfl, ?_⟩
  have e : (!PyData.eqv (.list (ns.map PyData.int)) (.list [])) = decide (ns ≠ []) := by
    cases ns with
    | nil => decide +kernel
    | cons n ns =>
      rw [List.map_cons]
      simp [PyData.eqv, PyData.eqvAll]
  rw [e]
  exact q
def tLsNe (i : Nat) (l : G → List Int) : Et := onSt i fun g => .ok (decide (l g ≠ [])) g
theorem dt_lsNe {l : G → List Int} {p : Zt → Addr} (hX : XG X) (hp : ∀ H g, GOk z H g → H (p z) = some (.lst ((l g).map V.int))) (hk : ∀ g, valV (stK z g) (.inr key : Key) = some (.ref (p z))) (h : PE X (.Name s p1) (tVar i)) :
    DT X z W (.Compare (.Subscript (.Name s p1) (.Constant (.str key) j p2) p3) [.NotEq] [.List [] p4] pos) (tLsNe i l) := by
  refine ⟨fun pins s σ H Q I ⟨ρ, g, Mu, E, G1, hx⟩ => ?_⟩
  obtain ⟨hs, hx⟩ := all_onSt hx
  refine (pt_cmpR (op_neNil hX) (pe_st (z := z) hX h) (pe_lst pa_nil) (nomark _)).run pins s σ H Q I ⟨ρ, g, Mu, _, E, G1, hs, hk g, by decide, fun b hb => ?_⟩
  have hl := hp H g G1
  have sm : Same H (upd H b (.lst [])) := same_upd' hb
  have hz : (l g).length ≤ sizeLine := by
    have w := (I.hok _ _ hl).1
    rw [List.length_map] at w
    exact w
  exact ⟨p z, b, l g, rfl, rfl, sm _ _ hl, upd_same, hz, _, rfl, hx _ (Ext.of sm) (G1.same sm)⟩
theorem dt_large (hX : XG X) (h : PE X (.Name s p1) (tVar i)) : DT X z W (.Compare (.Subscript (.Name s p1) (.Constant (.str "large") j p2) p3) [.NotEq] [.List [] p4] pos) (tLsNe i (·.large)) :=
  dt_lsNe (p := fun z => z.l) hX (fun _ _ G1 => G1.l) (fun _ => rfl) h
theorem dt_cells (hX : XG X) (h : PE X (.Name s p1) (tVar i)) : DT X z W (.Compare (.Subscript (.Name s p1) (.Constant (.str "cells") j p2) p3) [.NotEq] [.List [] p4] pos) (tLsNe i (·.cells)) :=
  dt_lsNe (p := fun z => z.c) hX (fun _ _ G1 => G1.c) (fun _ => rfl) h
def eCellLen (i : Nat) : Ep := onSt i fun g => .ok (.int g.cells.length) g
theorem de_cellLen (hX : XG X) (hg : Gl X "len") (hm : X.mg "len" = none) (h : PE X (.Name s p1) (tVar i)) : DE X z W .new (.Call (.Name "len" p3) [.Subscript (.Name s p1) (.Constant (.str "cells") j p2) p4] [] pos) (eCellLen i) :=
  de_of (pe_callB call_len hg hm rfl (pa_cons (pe_st (z := z) hX h) pa_nil)) fun σ H ρ g Mu Q E G1 hx => by
    obtain ⟨hs, hx⟩ := all_onSt hx
    refine ⟨ρ, g, Mu, .ref z.c, E, G1, hs, rfl, _, g.cells.length, rfl, .inl ⟨_, SqL.of G1.c, by rw [List.length_map]⟩, hx _ H Ext.refl G1 RK.int⟩
def eCellIx (i : Nat) (fb : Ep) : Ep := fun ρ => onSt i (do
  let d ← fb ρ
  match d with
  | .int k => fun g => match L2.atI g.cells k with
    | some c => .ok (.int c) g
    | none => .stuck
  | _ => stuck) ρ
theorem de_cellIx (hX : XG X) (h : PE X (.Name s p1) (tVar i)) (hb : DE X z W kb b fb) (hs : PlainIx b := by exact fun _ _ => rfl) : DE X z W .new (.Subscript (.Subscript (.Name s p1) (.Constant (.str "cells") j p2) p4) b pos) (eCellIx i fb) :=
  de_of (pe_ix ix_list (pe_st (z := z) hX h) hb hs) fun σ H ρ g Mu Q E G1 hx => by
    obtain ⟨hs, hx⟩ := all_onSt hx
    refine ⟨ρ, g, Mu, .ref z.c, E, G1, hs, rfl, ρ, g, Mu, E, G1, R.all_imp (R.all_bind hx) (fun d g1 hx v H1 e1 G2 k1 => ?_) fun _ _ _ _ h => h⟩
    cases d with
    | int n =>
      have e := (k1.peek E.mu (E.mu.ext (g := g) e1 G2) G2).int
      subst e
      dsimp only at hx
      cases q : L2.atI g1.cells n with
      | none => rw [q] at hx; exact hx.elim
      | some c =>
        rw [q] at hx
        refine ⟨z.c, _, n, .int c, rfl, rfl, SqL.of G2.c, ?_, hx _ H1 e1 G2 RK.int⟩
        unfold L2.atI at q ⊢
        rw [List.length_map]
        cases w : ixN g1.cells.length n with
        | none => rw [w] at q; cases q
        | some t =>
          rw [w] at q
          have q : g1.cells[t]? = some c := q
          show (g1.cells.map V.int)[t]? = _
          rw [List.getElem?_map, q]
          rfl
    | _ => exact hx.elim
def ePopL (i : Nat) : Ep := onSt i fun g => match g.large with
  | x :: xs => .ok (.int x) { g with large := xs }
  | [] => .stuck
theorem de_popL (hX : XG X) (h : PE X (.Name s p1) (tVar i)) (hbase : attributeBase (.Subscript (.Name s p1) (.Constant (.str "large") j p2) p4) "pop" X.env (eval (.Subscript (.Name s p1) (.Constant (.str "large") j p2) p4) X.env) = eval (.Subscript (.Name s p1) (.Constant (.str "large") j p2) p4) X.env := by rfl)
    (hfew : ((backTo pos (starEach [.Constant (.int 0) m p5] X.env)).all (fun x => !x.1) && (backToKw pos (keywordEach [] X.env)).all (fun x => x.1.isSome)
      && decide ([Expr.Constant (.int 0) m p5].length + ([] : List Keyword).length + (if ([] : List Keyword).isEmpty then 0 else 1) < 30)) = true := by rfl) (hline : (p3.endLine == pos.line) = true := by rfl) (hs : starEach [.Constant (.int 0) m p5] X.env = (false, eval (.Constant (.int 0) m p5) X.env) :: starEach [] X.env := by rfl) (hplain : (backTo pos (starEach [] X.env)).any (·.1) = false := by rfl) :
    DE X z W .new (.Call (.Attribute (.Subscript (.Name s p1) (.Constant (.str "large") j p2) p4) "pop" p3) [.Constant (.int 0) m p5] [] pos) (ePopL i) :=
  de_of (pe_bm PySem.F.plainAttrs_list PySem.F.slot_list_pop PySem.F.type_list_pop mt_popAt (pe_st (z := z) hX h) (pa_cons pe_int pa_nil) hbase hfew hline hs hplain) fun σ H ρ g Mu Q E G1 hx => by
    obtain ⟨hs, hx⟩ := all_onSt hx
    cases q : g.large with
    | nil => rw [q] at hx; exact hx.elim
    | cons x xs =>
      rw [q] at hx
      have hl := G1.l
      rw [q, List.map_cons] at hl
      refine ⟨ρ, g, Mu, .ref z.l, E, G1, hs, rfl, .inl ⟨rfl, _, SqL.of hl⟩, z.l, _, 0, 0, .int x, rfl, rfl, hl, by decide, by decide, seqIndex?_zero (by rw [List.length_cons]; omega), rfl, ?_⟩
      refine hx _ _ ⟨fun b u q _ h1 h2 => by rw [upd_ne h2]; exact q⟩ ⟨by rw [upd_ne (Ne.symm G1.pl.symm)]; exact G1.p, upd_same, by rw [upd_ne G1.ne.symm]; exact G1.c, G1.ne, fun t ht => ?_⟩ RK.int
      obtain ⟨ps, h1, h2, h3⟩ := G1.tb t ht
      refine ⟨ps, by rw [upd_ne (fun w => by rw [w, hl] at h1; cases h1)]; exact h1, h2, fun p v hv => ?_⟩
      obtain ⟨c, e1, e2⟩ := h3 p v hv
      exact ⟨c, e1, by rw [upd_ne (fun w => by rw [w, hl] at e2; cases e2)]; exact e2⟩
end
section
variable {X : Cx} {n : En} {k : Kd} {e : Expr} {f : Ep} {i j : Nat} {s : Str} {p1 p2 p3 pos : Pos}
theorem GOk.put {z : Zt} {H : Hp} {g g' : G} (G1 : GOk z H g) (hl : g'.large = g.large) (hc : g'.cells = g.cells) : GOk z (upd H z.p (.dK (stK z g'))) g' ∧ Ext z H (upd H z.p (.dK (stK z g'))) := by
  refine ⟨⟨upd_same, by rw [upd_ne G1.pl.symm, hl]; exact G1.l, by rw [upd_ne G1.pc.symm, hc]; exact G1.c, G1.ne, fun t ht => ?_⟩, ⟨fun b u q _ h1 _ => by rw [upd_ne h1]; exact q⟩⟩
  have hp := G1.p
  obtain ⟨ps, h1, h2, h3⟩ := G1.tb t ht
  refine ⟨ps, by rw [upd_ne (fun w => by rw [w, hp] at h1; cases h1)]; exact h1, h2, fun p v hv => ?_⟩
  obtain ⟨c, e1, e2⟩ := h3 p v hv
  exact ⟨c, e1, by rw [upd_ne (fun w => by rw [w, hp] at e2; cases e2)]; exact e2⟩
def sSt (i : Nat) (u : G → Int → G) (f : Ep) : Ss := fun ρ => do
  let d ← f ρ
  onSt i (match d with
    | .int v => fun g => .ok (.nx ρ) (u g v)
    | _ => stuck) ρ
theorem ds_st {key : Str} {u : G → Int → G} (hX : XG X) (hput : ∀ z g v, putK (stK z g) (.inr key : Key) (.int v) = stK z (u g v)) (hl : ∀ g v, (u g v).large = g.large) (hc : ∀ g v, (u g v).cells = g.cells) (h : PE X (.Name s p1) (tVar i)) (he : DE X n.z n.W k e f)
    (hs : swapsWith e (some (.Subscript (.Name s p1) (.Constant (.str key) j p2) p3)) pos.line X.env = pure false := by rfl) : DS X n (.Assign [.Subscript (.Name s p1) (.Constant (.str key) j p2) p3] e pos) (sSt i u f) := by
  have hu : X.A.units + 1 < cLine := by have := hX.room.un; omega
  refine ⟨fun pins s σ H D I ⟨ρ, g, Mu, S, hq⟩ => ?_⟩
  refine (ps_dput hu h pe_str he hs).run pins s σ H D I ⟨ρ, g, Mu, S.env, S.g, R.all_imp (EW.x S (R.all_bind hq)) (fun d g1 hq v H1 e1 G2 k1 => ?_) fun _ _ _ _ h => h⟩
  obtain ⟨hs, hq⟩ := all_onSt hq
  have S1 := S.step e1 G2
  cases d with
  | int w =>
    have ev := (k1.peek S.env.mu S1.env.mu G2).int
    subst ev
    refine ⟨_, S1.env.stAt hs, n.z.p, _, rfl, DPut.k (kvs := stK n.z g1) (k := (.inr key : Key)) G2.p (by show 4 < sizeLine; rw [sizeLine_eq]; decide), ?_⟩
    obtain ⟨G3, e3⟩ := G2.put (hl g1 w) (hc g1 w)
    rw [hput]
    exact hq σ _ Mu (S1.step e3 G3)
  | _ => exact hq.elim
def uL (g : G) (v : Int) : G := { g with left := v }
def uT (g : G) (v : Int) : G := { g with turn := v }
theorem ds_stL (hX : XG X) (h : PE X (.Name s p1) (tVar i)) (he : DE X n.z n.W k e f) (hs : swapsWith e (some (.Subscript (.Name s p1) (.Constant (.str "left") j p2) p3)) pos.line X.env = pure false := by rfl) :
    DS X n (.Assign [.Subscript (.Name s p1) (.Constant (.str "left") j p2) p3] e pos) (sSt i uL f) := ds_st hX (fun _ _ _ => rfl) (fun _ _ => rfl) (fun _ _ => rfl) h he hs
theorem ds_stT (hX : XG X) (h : PE X (.Name s p1) (tVar i)) (he : DE X n.z n.W k e f) (hs : swapsWith e (some (.Subscript (.Name s p1) (.Constant (.str "turn") j p2) p3)) pos.line X.env = pure false := by rfl) :
    DS X n (.Assign [.Subscript (.Name s p1) (.Constant (.str "turn") j p2) p3] e pos) (sSt i uT f) := ds_st hX (fun _ _ _ => rfl) (fun _ _ => rfl) (fun _ _ => rfl) h he hs
end
end DL
end
section
set_option Elab.async false
set_option linter.all false
set_option maxRecDepth 100000
set_option maxHeartbeats 2000000
/-! The value layer, part 17: what the top has written, by names; calls of defs by names; defs that make lambdas. -/
namespace DL
open PySem PySem.Spec PyProof.Rows L2

theorem XG.blk {X : Cx} {s : Shared} {H : Hp} {scope : Scope} {ce : PySem.Env} {fp : List Addr} (h : XG X) : XG (X.blk s H scope ce fp) := ⟨h.calm, h.room, h.nd⟩
theorem XG.lam {X : Cx} {A : Around} {outer : List PySem.Env} {s : Shared} {H : Hp} {E : XK} {scope : Scope} {f c' : Addr} {k : Nat} (h : XG X) (hr : Room k (A.deeper (LamX.lamEnv X scope s.heap.objs.size f c'))) : XG (LamX.lamCx X A outer s H E scope f c') := ⟨rfl, hr.mono (Nat.zero_le _), h.nd⟩

abbrev FDn (name : Str) (st : Stmt) (kV dc pm : Value) (an : Option Addr) (cd ct : Value) : FuncData := PySem.W.fnOf name name (defArgs st) (defBody st) (defScope st) .none kV dc pm an cd ct
/-- the def st stands under its name -/
def IsFn (K : PySem.W.Frag) (mg : Str → Option Value) (name : Str) (st : Stmt) : Prop := ∃ (f : Addr) (oc : Value) (od : Option Addr) (kV dc pm : Value) (an : Option Addr) (cd ct : Value) (sl : Array (Option Value)),
  mg name = some (.ref f) ∧ PySem.W.keepIn K (.ref f) = true ∧ K.lookup f = some ⟨oc, od, .func (FDn name st kV dc pm an cd ct), sl⟩ ∧ PySem.W.codeIn K cd name = true
/-- what a def of the name promises -/
def Cal (gd : Bool) (P : Program) (w : World) (K : PySem.W.Frag) (mg : Str → Option Value) (base : Heap) (T : List (Addr × Str)) (k : Nat) (name : Str) (st : Stmt) (ps : List Str) (kr : Kd) (cf : List D → M D) : Prop :=
  ∃ (f : Addr) (kV dc pm : Value) (an : Option Addr) (cd ct : Value), mg name = some (.ref f) ∧ PySem.W.keepIn K (.ref f) = true ∧ DFn gd P w K mg base T k f (FDn name st kV dc pm an cd ct) ps kr cf
/-- how the arguments are bound, of a def's text -/
def BindsT (name : Str) (st : Stmt) (ps : List Str) : Prop := ∀ (kV dc pm : Value) (an : Option Addr) (cd ct : Value) (us : List Value), us.length = ps.length → bindArgs (FDn name st kV dc pm an cd ct) ⟨us, []⟩ = pure (ps.zip us)
def KBindsT (name : Str) (st : Stmt) (ps ks : List Str) (pm : List Nat) (m : Nat) : Prop := ∀ (kV dc pmv : Value) (an : Option Addr) (cd ct : Value) (us ws : List Value), us.length = m → ws.length = ks.length → bindArgs (FDn name st kV dc pmv an cd ct) ⟨us, ks.zip ws⟩ = pure (ps.zip (pick pm (us ++ ws))) ∧ (pick pm (us ++ ws)).length = ps.length
section
variable {gd : Bool} {P : Program} {w : World} {K : PySem.W.Frag} {mg : Str → Option Value} {base : Heap} {T : List (Addr × Str)} {k : Nat} {name : Str} {st : Stmt} {N ps : List Str} {kr : Kd} {t : Ss} {cf : List D → M D}
theorem cal_of (F : IsFn K mg name st) (S : FnScope N ps (defScope st))
    (hbody : ∀ (f : Addr) (cdv : Value) (A : Around) (outer : List PySem.Env) (s : Shared) (H : Hp) (E : XK) (n : En), XG (cxOf (L2.CX P w) P w K mg base N name (defScope st) f cdv A outer s H E) → Room k (A.deeper (envOfC name (defScope st) s.heap.objs.size f cdv)) →
      Takes (cxOf (L2.CX P w) P w K mg base N name (defScope st) f cdv A outer s H E) n.W → (gd = true → GdOk A base) → n.k = kr → n.z.T = T → DSs (cxOf (L2.CX P w) P w K mg base N name (defScope st) f cdv A outer s H E) n (defBody st) t) (hcf : cf = fnB t N.length := by rfl) :
    Cal gd P w K mg base T (k + 1) name st ps kr cf := by
  obtain ⟨f, oc, od, kV, dc, pm, an, cd, ct, sl, h1, h2, h3, h4⟩ := F
  subst hcf
  exact ⟨f, kV, dc, pm, an, cd, ct, h1, h2, dfn_of h3 h4 S fun A outer s H E n hX hr tk hg hk hT => hbody f cd A outer s H E n hX hr tk hg hk hT⟩
theorem Cal.imp {cf' : List D → M D} (C : Cal gd P w K mg base T k name st ps kr cf) (h : ∀ ds g, cf' ds g = .stuck ∨ cf ds g = cf' ds g) : Cal gd P w K mg base T k name st ps kr cf' := by
  obtain ⟨f, kV, dc, pm, an, cd, ct, h1, h2, F⟩ := C
  exact ⟨f, kV, dc, pm, an, cd, ct, h1, h2, F.imp h⟩
end
section
variable {gd : Bool} {X : Cx} {z : Zt} {W : WX} {j k : Nat} {st : Stmt} {ps ks : List Str} {kr : Kd} {cf : List D → M D} {x : Str} {p pos : Pos} {e : Expr} {es : List Expr} {fs gs : Es} {kws : List Keyword}
theorem de_cal (C : Cal gd X.prog X.w X.K X.mg X.base z.T j x st ps kr cf) (hb : BindsT x st ps) (hgd : gd = true → GdOk X.A X.base) (tk : Takes X W) (hr : Room k X.A) (hj : j ≤ k) (hg : Gl X x) (ha : DAs X z W (e :: es) fs) (hal : AL fs ps.length)
    (hdb : (x == ("__debug__" : Str)) = false := by decide) (he : starEach (e :: es) X.env = (false, eval e X.env) :: starEach es X.env := by rfl) (hpl : (backTo pos (starEach es X.env)).any (·.1) = false := by rfl) :
    DE X z W kr (.Call (.Name x p) (e :: es) [] pos) (eCallF cf fs) := by
  obtain ⟨f, kV, dc, pm, an, cd, ct, h1, h2, F⟩ := C
  exact de_call hgd tk (F.mono hj) hr hg h1 h2 (.all (hb kV dc pm an cd ct)) ha hal hdb he hpl
theorem kb_of {K : PySem.W.Frag} {kV dc pmv : Value} {an : Option Addr} {cd ct : Value} {pm : List Nat} {m : Nat} (hb : KBindsT x st ps ks pm m) : KB K (FDn x st kV dc pmv an cd ct) ps ks pm m := fun s us ws _ h1 h2 =>
  ⟨.of_eq (hb kV dc pmv an cd ct us ws h1 h2).1, (hb kV dc pmv an cd ct us ws h1 h2).2⟩
theorem de_calK0 {pm : List Nat} (C : Cal gd X.prog X.w X.K X.mg X.base z.T j x st ps kr cf) (hb : KBindsT x st ps ks pm 0) (hgd : gd = true → GdOk X.A X.base) (tk : Takes X W) (hr : Room k X.A) (hj : j ≤ k) (hg : Gl X x) (hkw : DK X z W kws gs) (hal : AL gs ks.length)
    (hall : (backToKw pos (keywordEach kws X.env)).all (·.1.isSome) = true := by rfl) (hks : (backToKw pos (keywordEach kws X.env)).filterMap (·.1) = ks := by rfl)
    (hdb : (x == ("__debug__" : Str)) = false := by decide) (hpl : ((backTo pos (starEach [] X.env)).any (·.1) || (backToKw pos (keywordEach kws X.env)).any (·.1.isNone)) = false := by rfl) :
    DE X z W kr (.Call (.Name x p) [] kws pos) (eCallK cf pm sNil gs) := by
  obtain ⟨f, kV, dc, pmv, an, cd, ct, h1, h2, F⟩ := C
  exact de_callK0 hgd tk (F.mono hj) hr hg h1 h2 (kb_of hb) hkw hal hall hks hdb hpl
end

/-! ### exception classes -/
structure ExcF (K : PySem.W.Frag) (C : Addr) : Prop where
  x : PySem.W.excIn K C [.type "ValueError", .type "Exception", .type "BaseException", .type "object"] "ValueError.__new__" = true
  kp : PySem.W.keepIn K (.ref C) = true
  ty : PySem.W.typeIn K (.ref C) = some (.type "type")
  ec : ExcC K C
def IsExc (K : PySem.W.Frag) (mg : Str → Option Value) (c : Str) : Prop := ∃ C, mg c = some (.ref C) ∧ ExcF K C
theorem ds_raiseC {X : Cx} {n : En} {x m : Str} {j : Nat} {p p2 pos pos2 : Pos} (hX : XG X) (tk : Takes X n.W) (F : IsExc X.K X.mg x) (hg : Gl X x) (hdb : (x == ("__debug__" : Str)) = false := by decide) :
    DS X n (.Raise (some (.Call (.Name x p) [.Constant (.str m) j p2] [] pos)) none pos2) (sRaise x) := by
  obtain ⟨C, h1, h2⟩ := F
  exact ds_raise hX tk PySem.F.excBase_ValueError h2.x h1 h2.kp (raises_own h2.ec.hs h2.ty) hg hdb
/-- a class of the text as a value -/
theorem de_cls {X : Cx} {z : Zt} {W : WX} {x : Str} {pos : Pos} (F : IsExc X.K X.mg x) (hg : Gl X x) (hd : (x == ("__debug__" : Str)) = false := by decide) : DE X z W .new (.Name x pos) (eC (.fn x)) := by
  obtain ⟨C, h1, h2⟩ := F
  exact de_glob_fn hg h1 hd
def IsInt (mg : Str → Option Value) (x : Str) (i : Int) : Prop := ∃ t, mg x = some (.int i t)
theorem de_gint {X : Cx} {z : Zt} {W : WX} {x : Str} {i : Int} {pos : Pos} (F : IsInt X.mg x i) (hg : Gl X x) (hd : (x == ("__debug__" : Str)) = false := by decide) : DE X z W .new (.Name x pos) (eC (.int i)) := by
  obtain ⟨t, h1⟩ := F
  exact de_glob_int hg h1 hd
def subOf (tbl : List (Str × Str × Bool)) (c c' : Str) : Option Bool := (tbl.find? fun t => t.1 == c && t.2.1 == c').map (·.2.2)
def IsiT (K : PySem.W.Frag) (mg : Str → Option Value) (t : Str × Str × Bool) : Prop := ∀ C C', mg t.1 = some (.ref C) → mg t.2.1 = some (.ref C') → ExcC K C ∧ PySem.W.kitOne K (.ref C) (.ref C') = some t.2.2
def IsiN (K : PySem.W.Frag) (mg : Str → Option Value) (c : Str) : Prop := ∀ C', mg c = some (.ref C') → ∀ t ∈ ["NoneType", "bool", "int", "str", "tuple", "list", "dict"], PySem.W.kitOne K (.type t) (.ref C') = some false
theorem isi_of {K : PySem.W.Frag} {mg : Str → Option Value} {tbl : List (Str × Str × Bool)} {cl : List Str} (h1 : ∀ t ∈ tbl, IsiT K mg t) (h2 : ∀ c ∈ cl, IsiN K mg c) : IsiOk K mg (subOf tbl) (fun c => cl.contains c) := by
  refine ⟨fun c c' b C C' h hC hC' => ?_, fun c' C' h hC => h2 c' (List.contains_iff_mem.mp h) C' hC⟩
  unfold subOf at h
  obtain ⟨t, ht, hb⟩ := Option.map_eq_some_iff.mp h
  have hm := List.mem_of_find?_eq_some ht
  have hp := List.find?_some ht
  rw [Bool.and_eq_true, beq_iff_eq, beq_iff_eq] at hp
  obtain ⟨rfl, rfl⟩ := hp
  subst hb
  exact h1 t hm C C' hC hC'
theorem kit_own {K : PySem.W.Frag} {C : Addr} {t : Value} {b : Bool} (hd : PySem.W.hasDictIn K C = true) (ht : PySem.W.typeIn K (.ref C) = some (.type "type")) (hn : (t == .ref C) = false) (hs : PySem.W.subIn K t (.ref C) = some b) : PySem.W.kitOne K t (.ref C) = some b := by
  unfold PySem.W.kitOne
  rw [hn]
  have hc : (PySem.W.clsIn K C).isSome = true := by
    obtain ⟨cd, hc, _⟩ := PySem.W.any_some hd
    rw [hc]; rfl
  unfold PySem.W.kitCls
  simp [hc, ht, hs]
end DL
end
section
set_option Elab.async false
set_option linter.all false
set_option maxRecDepth 100000
set_option maxHeartbeats 2000000
/-! The value layer, part 18: the end, with what is known of the caller; the first statement of the law. -/
namespace DL
open PySem PySem.Spec PyProof.Rows L2

abbrev tab0 : Obj := { cls := .none, data := .fields #[] }
section
variable {P : Program} {w : World} {K : PySem.W.Frag} {mg mb : Str → Option Value} {fa a : Addr} {cs : List (Addr × Addr)} {s : Shared} {vs : List Value} {ns : List Int}
/-- what is tracked at the start: the empty tables, the script (where it is none of the module's own objects) -/
structure Fst (K : PySem.W.Frag) (cs : List (Addr × Addr)) (a : Addr) (ob : Obj) (xs : List V) (H : Hp) : Prop where
  tb : ∀ p ∈ cs, H p.2 = some (.tbl #[])
  sc : SqL K H a xs
  only : ∀ b u, H b = some u → K.lookup b = none ∧ ((u = .tbl #[] ∧ b ∈ cs.map (·.2)) ∨ (b = a ∧ u = .frz ob (.lst xs)))
theorem fst_ex (KX : K.In s.heap) (hT : ∀ p ∈ cs, s.heap.get? p.2 = some tab0) (nT : ∀ p ∈ cs, K.lookup p.2 = none) (ha : s.heap.get? a = some { cls := .type "list", data := .seq vs.toArray }) (hi : IntsAre vs ns) (hl : ns.length ≤ sizeLine) :
    ∃ H : Hp, Fst K cs a { cls := .type "list", data := .seq vs.toArray } (ns.map V.int) H ∧ HOk P w H s.heap := by
  have rv := vals_ints hi
  have tabs : ∀ b, b ∈ cs.map (·.2) → s.heap.get? b = some tab0 ∧ K.lookup b = none := fun b hb => by
    obtain ⟨p, hp, rfl⟩ := List.mem_map.mp hb
    exact ⟨hT p hp, nT p hp⟩
  have mem : ∀ p ∈ cs, p.2 ∈ cs.map (·.2) := fun p hp => List.mem_map.mpr ⟨p, hp, rfl⟩
  have na : a ∉ cs.map (·.2) := fun h => by
    have q := (tabs a h).1
    rw [ha] at q
    have q' := congrArg Obj.cls (Option.some.inj q)
    cases q'
  cases hk : K.lookup a with
  | some o =>
    have e := KX a o hk
    rw [ha] at e
    cases e
    have inv : ∀ b u, (if b ∈ cs.map (·.2) then some (HO.tbl #[]) else none) = some u → b ∈ cs.map (·.2) ∧ u = .tbl #[] := fun b u h => by
      by_cases hb : b ∈ cs.map (·.2)
      · rw [if_pos hb] at h; exact ⟨hb, (Option.some.inj h).symm⟩
      · rw [if_neg hb] at h; cases h
    refine ⟨fun b => if b ∈ cs.map (·.2) then some (.tbl #[]) else none, ⟨fun p hp => if_pos (mem p hp), .inr ⟨_, vs.toArray, _, hk, rfl, rfl, rfl, ?_, by simpa using rv⟩, fun b u h => ?_⟩, fun b u h => ?_⟩
    · rw [List.size_toArray, hi.length]
      exact hl
    · obtain ⟨h1, h2⟩ := inv b u h
      exact ⟨(tabs b h1).2, .inl ⟨h2, h1⟩⟩
    · obtain ⟨h1, rfl⟩ := inv b u h
      exact (tabs b h1).1
  | none =>
    have inv : ∀ b u, (if b = a then some (HO.frz { cls := .type "list", data := .seq vs.toArray } (.lst (ns.map V.int))) else if b ∈ cs.map (·.2) then some (HO.tbl #[]) else none) = some u →
        (b = a ∧ u = .frz { cls := .type "list", data := .seq vs.toArray } (.lst (ns.map V.int))) ∨ (b ∈ cs.map (·.2) ∧ u = .tbl #[]) := fun b u h => by
      by_cases hb : b = a
      · rw [if_pos hb] at h; exact .inl ⟨hb, (Option.some.inj h).symm⟩
      · rw [if_neg hb] at h
        by_cases hb2 : b ∈ cs.map (·.2)
        · rw [if_pos hb2] at h; exact .inr ⟨hb2, (Option.some.inj h).symm⟩
        · rw [if_neg hb2] at h; cases h
    refine ⟨fun b => if b = a then some (.frz { cls := .type "list", data := .seq vs.toArray } (.lst (ns.map V.int))) else if b ∈ cs.map (·.2) then some (.tbl #[]) else none, ⟨fun p hp => ?_, .inl (.inr ⟨{ cls := .type "list", data := .seq vs.toArray }, if_pos rfl⟩), fun b u h => ?_⟩, fun b u h => ?_⟩
    · have h1 : ¬ p.2 = a := fun e => na (e ▸ mem p hp)
      show (if p.2 = a then _ else _) = _
      rw [if_neg h1, if_pos (mem p hp)]
    · rcases inv b u h with ⟨rfl, h2⟩ | ⟨h1, h2⟩
      · exact ⟨hk, .inr ⟨rfl, h2⟩⟩
      · exact ⟨(tabs b h1).2, .inl ⟨h2, h1⟩⟩
    · rcases inv b u h with ⟨rfl, rfl⟩ | ⟨h1, rfl⟩
      · exact ⟨ha, by rw [List.length_map]; exact hl, vs, _, rv, ha⟩
      · exact (tabs b h1).1
theorem end_call (KX : K.In s.heap) (hns : s.heap.Ns mainGlobals mg) (hb : s.heap.Ns builtinsNs mb) (hbb : ∀ x : Str, x ≠ "__name__" → mb x = bootBuiltins x) (hlim : s.heap.NoLimit) (hg : s.gens = #[])
    (hT : ∀ p ∈ cs, s.heap.get? p.2 = some tab0) (nT : ∀ p ∈ cs, K.lookup p.2 = none) (C : ∀ p ∈ cs, PySem.W.CodeHd s.heap p.1 p.2)
    (hbm : ∃ (bm : Addr) (ob : Obj), mg "__builtins__" = some (.ref bm) ∧ bm ≠ builtinsNs ∧ s.heap.get? bm = some ob ∧ ob.cls = .type "module" ∧ ob.dict = some builtinsNs ∧ ob.data = .plain)
    (ha : s.heap.get? a = some { cls := .type "list", data := .seq vs.toArray }) (hi : IntsAre vs ns) (hl : ns.length ≤ sizeLine) (hsd : SysD s.heap)
    (F : ∀ (base : Heap) (H : Hp), K.In base → base.Ns mainGlobals mg → (∀ p ∈ cs, LamX.TabB base mg p.1 p.2) → Env0 P w K mg base callerA [] s H → (∀ p ∈ cs, H p.2 = some (.tbl #[])) → SqL K H a (ns.map V.int) → SysD base →
      codeAny (model P w) callerA (.call (.ref fa) ⟨[.ref a], []⟩) (CR (L2.CX P w) [] P w H s (fun v _ => v = .bl true) fun _ _ _ => False) s) :
    codeAny (model P w) callerA (.call (.ref fa) ⟨[.ref a], []⟩) (fun r s' => r = .ok (.ret (.bool true)) ∧ OldK s.heap s'.heap ∧ s'.os = s.os ∧ AllBare s'.gens) s := by
  obtain ⟨H, S, hok⟩ := fst_ex (P := P) (w := w) KX hT nT ha hi hl
  -- what is no list and no empty table is not tracked
  have free : ∀ {b : Addr} {o : Obj}, s.heap.get? b = some o → (∀ l n, o.data ≠ .seq l n) → o.data ≠ .fields #[] → H b = none := fun {b o} e h1 h2 => by
    cases q : H b with
    | none => rfl
    | some u =>
      rcases (S.only b u q).2 with ⟨_, hb⟩ | ⟨rfl, _⟩
      · obtain ⟨p, hp, rfl⟩ := List.mem_map.mp hb
        rw [hT p hp] at e
        cases e
        exact absurd rfl h2
      · rw [ha] at e
        cases e
        exact absurd rfl (h1 _ _)
  have freeD : ∀ {b : Addr} {o : Obj} {es : Array DictEntry} {ep : Nat}, s.heap.get? b = some o → o.data = .dict es ep → H b = none := fun {b o es ep} e d => free e (fun l n z => by rw [d] at z; cases z) fun z => by rw [d] at z; cases z
  have keepNs : ∀ {b : Addr} {m : Str → Option Value}, s.heap.Ns b m → (hidT s.heap H).Ns b m := fun {b m} ⟨o, es, ep, e, d, r⟩ => ⟨o, es, ep, hidT_get e (freeD e d), d, r⟩
  have kin : K.In (hidT s.heap H) := fun b o e => hidT_get (KX b o e) (by
    cases q : H b with
    | none => rfl
    | some u =>
      have z := (S.only b u q).1
      rw [e] at z
      cases z)
  have md : L2.Mod K mg (hidT s.heap H) := ⟨kin, keepNs hns, ⟨mb, keepNs hb, hbb⟩, let ⟨mc, h1, h2⟩ := hlim; ⟨mc, keepNs h1, h2⟩⟩
  have tbs : ∀ p ∈ cs, LamX.TabB (hidT s.heap H) mg p.1 p.2 := fun p hp => by
    have ht := hT p hp
    refine ⟨?_, ?_, fun e => ?_⟩
    · obtain ⟨o, us, file, tf, flags, tg, inF, text, tt, e1, e2, e3, e4, r⟩ := C p hp
      refine ⟨o, us, file, tf, flags, tg, inF, text, tt, hidT_get e1 (free e1 (fun l n e => by rw [e3] at e; cases e) fun e => ?_), e2, e3, e4, r⟩
      rw [e3] at e
      cases e
      simp at e4
    · obtain ⟨bm, ob, b1, b2, b3, b4, b5, b6⟩ := hbm
      refine ⟨bm, ob, b1, b2, fun e => ?_, fun e => ?_, hidT_get b3 (free b3 (fun l n e => by rw [b6] at e; cases e) fun e => by rw [b6] at e; cases e), b4, b5, b6⟩
      · obtain ⟨o, es, ep, q, d, _⟩ := hns
        rw [e, q] at b3
        cases b3
        rw [d] at b6
        cases b6
      · rw [e, ht] at b3
        cases b3
        cases b6
    · obtain ⟨o, es, ep, q, d, _⟩ := hns
      rw [e, ht] at q
      cases q
      cases d
  have e0 : Env0 P w K mg (hidT s.heap H) callerA [] s H := ⟨rfl, md, fun b o e => of_hidT e, Nat.le_of_eq (hidT_size _ _), trivial, fun b h => absurd (show b ∈ ([] : List Addr) from h) (by simp), hok, .of_eq hg⟩
  refine codeAny_mono (F _ H kin (keepNs hns) tbs e0 S.tb S.sc (let ⟨o, es, ep, e1, e2⟩ := hsd; ⟨o, es, ep, hidT_get e1 (freeD e1 e2), e2⟩)) fun r s' h => ?_
  cases r with
  | error e =>
    obtain ⟨_, _, _, _, _, _, _, _, _, _, _, _, z⟩ := h
    exact z.elim
  | ok fl =>
    cases fl with
    | ret u =>
      obtain ⟨v, H', os, bare, un, hok', rv, q⟩ := h
      have q' : v = .bl true := q
      subst q'
      obtain rfl : u = Value.bool true := rv
      -- the tables may have grown, all else is as it was
      have grew : ∀ p ∈ cs, ∃ more : Array Value, s'.heap.get? p.2 = some { cls := .none, data := .fields more } := fun p hp => by
        obtain ⟨more, z⟩ := un.tbls p.2 #[] (S.tb p hp)
        exact ⟨_, hok' p.2 _ z⟩
      have as_was : ∀ b o, b ∉ cs.map (·.2) → s.heap.get? b = some o → s'.heap.get? b = some o := fun b o nb e => by
        cases q : H b with
        | none => exact un.keep b o e q (fun z => absurd (show b ∈ ([] : List Addr) from z) (by simp)) (by simp)
        | some u =>
          rcases (S.only b u q).2 with ⟨_, hb⟩ | ⟨rfl, rfl⟩
          · exact absurd hb nb
          · have h2 := hok' _ _ (un.frzs _ _ _ q)
            have h1 := hok _ _ q
            have e1 := h1.1
            rw [e] at e1
            cases e1
            exact h2.1
      refine ⟨rfl, ⟨fun b o e => ?_, fun b o e => ?_⟩, os, bare⟩
      · by_cases hb : b ∈ cs.map (·.2)
        · obtain ⟨p, hp, rfl⟩ := List.mem_map.mp hb
          obtain ⟨more, hm⟩ := grew p hp
          rw [hT p hp] at e
          cases e
          exact .inr (.inl ⟨((C p hp).tab (hT p hp)).isCodeTable, rfl, #[], more, rfl, by rw [Array.empty_append]; exact hm⟩)
        · exact .inl (as_was b o hb e)
      · by_cases hb : b ∈ cs.map (·.2)
        · obtain ⟨p, hp, rfl⟩ := List.mem_map.mp hb
          obtain ⟨more, hm⟩ := grew p hp
          exact ⟨_, hm⟩
        · exact ⟨o, as_was b o hb e⟩
    | next => exact False.elim h
    | brk => exact False.elim h
    | cont => exact False.elim h
end
/-- the table of the def at fa is empty -/
def OwnT (K : PySem.W.Frag) (name : Str) (mg : Str → Option Value) (h : Heap) : Prop := ∀ (f c P : Addr) (o : Obj) (fd : FuncData) (e : Value) (dd : Option Addr) (us : Array Value) (sl : Array (Option Value)), mg name = some (.ref f) → K.lookup f = some o → o.data = .func fd → fd.code = .ref c →
  K.lookup c = some ⟨e, dd, .fields us, sl⟩ → us[11]? = some (.ref P) → h.get? P = some tab0
/-- what the end wants of the law -/
def LawEnd (l : PySem.W.OpenLaw) (w : World) (K : PySem.W.Frag) (n : Nat) (mg : Str → Option Value) (fa : Addr) (h : Heap) : Prop :=
  ∃ cs : List (Addr × Addr), (∀ p ∈ cs, h.get? p.2 = some tab0) ∧ (∀ p ∈ cs, K.lookup p.2 = none) ∧ (∀ p ∈ cs, PySem.W.CodeHd h p.1 p.2) ∧
    ∀ (s : Shared) (a : Addr) (ns : List Int) (base : Heap) (H : Hp), ns.length ≤ n → K.In base → base.Ns mainGlobals mg → (∀ p ∈ cs, LamX.TabB base mg p.1 p.2) → Env0 l.prog w K mg base callerA [] s H → (∀ p ∈ cs, H p.2 = some (.tbl #[])) → SqL K H a (ns.map V.int) → SysD base →
      codeAny (model l.prog w) callerA (.call (.ref fa) ⟨[.ref a], []⟩) (CR (L2.CX l.prog w) [] l.prog w H s (fun v _ => v = .bl true) fun _ _ _ => False) s
theorem walk_end {l : PySem.W.OpenLaw} {n : Nat} {q : Program} {loose : List Str} {XP : (Str → Option Value) → Heap → Prop} {YP : World → Heap → Prop} {d : DefRec} {K : Params → PySem.W.Frag}
    (hn : l.most = some n) (hn2 : n ≤ sizeLine) (hdf : d.params.defaults = []) (hi : importsNone q = true) (hY : ∀ (w : World) (h : Heap), YP w h → (K w.params).In h)
    (F : ∀ (w : World) (mg : Str → Option Value) (fa : Addr) (h : Heap), YP w h → (K w.params).In h → h.Ns mainGlobals mg → mg d.name = some (.ref fa) → (∀ name, ((recsOf q).any fun e => e.name == name) = true → OwnT (K w.params) name mg h) → LawEnd l w (K w.params) n mg fa h) :
    PySem.W.WalkO q loose XP YP l.row.toRowW d [] (fun f vs => PySem.call f vs) := by
  refine Att.attach_callB hn hdf fun w s₀ s mg mb fa o pm cd doc a vs ns G Y ho hd hcd hmg hobj hints hlen hbits hg => ?_
  have KX := hY w _ Y
  have own : ∀ name, ((recsOf q).any fun e => e.name == name) = true → OwnT (K w.params) name mg s.heap := fun name hrec f c P o1 fd1 e dd us sl k0 k1 k2 k3 k4 k5 => by
    obtain ⟨dL, hm, hn1⟩ := List.any_eq_true.mp hrec
    have hn2 : dL.name = name := beq_iff_eq.mp hn1
    obtain ⟨a', o', fd', c', P', h1, h2, h3, h4, h5, h6⟩ := G.T.tab dL hm
    rw [hn2, k0] at h1
    cases h1
    rw [KX _ _ k1] at h2
    cases h2
    rw [k2] at h3
    cases h3
    rw [k3] at h4
    cases h4
    obtain ⟨⟨oc, vc, e1, _, e3, e4⟩, hP⟩ := h6
    rw [KX _ _ k4] at e1
    cases e1
    cases e3
    rw [k5] at e4
    cases e4
    exact hP
  obtain ⟨cs, hT, nT, C, hF⟩ := F w mg fa _ Y KX G.T.g hmg own
  exact end_call KX G.T.g G.T.b G.T.builtins G.T.nolimit hg hT nT C G.T.bmain hobj hints (Nat.le_trans hlen hn2) (let ⟨_, ⟨o, es, ep, e1, e2, _⟩, _⟩ := (G.T.seer hi).mods; ⟨o, es, ep, e1, e2⟩) fun base H h1 h2 h3 h4 h5 h6 h7 => hF s a ns base H hlen h1 h2 h3 h4 h5 h6 h7
end DL
end
section
set_option Elab.async false
set_option linter.all false
set_option maxRecDepth 100000
set_option maxHeartbeats 2000000
/-! The value layer, part 19: the state of the draws is begun. -/
namespace DL
open PySem PySem.Spec PyProof.Rows L2

def absI (i : Int) : Int := if i < 0 then -i else i
def big : Int := 10 ^ (18 : Int).toNat
def cells0 (ns : List Int) : List Int := ns.map absI
def large0 : List Int → List Int
  | [] => []
  | c :: l => if big ≤ c then (c - big) :: large0 l else large0 l
def g0 (ns : List Int) : G := ⟨large0 (cells0 ns), cells0 ns, 0, 0⟩
theorem large0_app (l : List Int) (c : Int) : large0 (l ++ [c]) = if big ≤ c then large0 l ++ [c - big] else large0 l := by
  induction l with
  | nil => simp only [List.nil_append, large0]
  | cons x l ih =>
    rw [List.cons_append, large0, ih]
    by_cases h : big ≤ x <;> by_cases h2 : big ≤ c <;> simp [large0, h, h2]
theorem large0_len : ∀ l : List Int, (large0 l).length ≤ l.length
  | [] => Nat.le_refl _
  | c :: l => by
    rw [large0]
    have := large0_len l
    by_cases h : big ≤ c
    · rw [if_pos h, List.length_cons, List.length_cons]; omega
    · rw [if_neg h, List.length_cons]; omega
theorem ifT {c : Bool} {A B : Prop} (hc : c = true) (h : A) : if c = true then A else B := by rw [if_pos hc]; exact h
theorem ifF {c : Bool} {A B : Prop} (hc : c = false) (h : B) : if c = true then A else B := by rw [hc, if_neg Bool.false_ne_true]; exact h
theorem take_snoc {α : Type} {l : List α} {i : Nat} {x : α} (h : l[i]? = some x) : l.take (i + 1) = l.take i ++ [x] := by
  rw [List.take_add_one, h]
  rfl
def spBegun (K : PySem.W.Frag) (T : List (Addr × Str)) : Sp := fun vs H Q _ => ∃ (a : Addr) (ns : List Int), vs = [.ref a] ∧ SqL K H a (ns.map V.int) ∧ ns.length ≤ 1000 ∧ LamX.Tabs T H ∧
  ∀ (z : Zt) (H' : Hp), z.T = T → Same H H' → GOk z H' (g0 ns) → H z.p = none → H z.l = none → H z.c = none → Q (.ref z.p) H'
def tCellAbs : TE := tCB (fun xs H Q => ∃ i, xs = [.int i] ∧ Q (.int (if i < 0 then -i else i)) H) (tCons (tVar 3) tNil)
def tBig : TE := tOp (rI CPow fun i j => .int (i ^ j.toNat)) (tC (.int 10)) (tC (.int 18))
def t_begun (K : PySem.W.Frag) : TS :=
  tSeq (tAsg (tLc (iList K (tVar 0)) (gName 3) tYes tCellAbs [3]) (gName 1))
  (tSeq (tAsg (tLc (iList K (tVar 1)) (gName 3) (tTest (tOp (rI0 fun i j => .bl (decide (j ≤ i))) (tVar 3) tBig)) (tOp (rI0 fun i j => .int (i - j)) (tVar 3) tBig) [3]) (gName 2))
  (tRet (tDisp [(tC (.str "large"), tVar 2), (tC (.str "cells"), tVar 1), (tC (.str "left"), tC (.int 0)), (tC (.str "turn"), tC (.int 0))])))
theorem tBig_run {σ : L2.St} {H : Hp} {Q : VK} (q : Q (.int big) H) : tBig σ H Q := ⟨10, 18, rfl, rfl, ⟨by decide, by decide, by decide⟩, q⟩
theorem small_line {n : Nat} (h : n ≤ 1000) : n < sizeLine := Nat.lt_of_le_of_lt h (by rw [sizeLine_eq]; decide)
theorem pure_begun {K : PySem.W.Frag} {T : List (Addr × Str)} (vs : List V) (H : Hp) (Q : VK) (E : XK) (h : spBegun K T vs H Q E) :
    t_begun K { nx := fun _ H' => Q .non H', rt := Q } (L2.start ["_law_script", "_law_cells_here", "_law_large", "_law_cell"] vs) H := by
  obtain ⟨a, ns, rfl, hS, hz, hT, k⟩ := h
  refine ⟨_, rfl, a, rfl, ⟨_, hS⟩, fun D nD => ?_⟩
  have s0 : Same H (upd H D (.lst [])) := same_upd' nD
  refine lc_list (K := K) (a := a) (xs := ns.map V.int) (fun i H' => Same H H' ∧ H' D = some (.lst ((cells0 (ns.take i)).map V.int))) ⟨s0, upd_same⟩ (fun i H' _ ⟨s1, _⟩ => s1.seq hS) ?_ ?_
  · rintro i y H' hi ⟨s1, hD⟩
    obtain ⟨n, hn, rfl⟩ : ∃ n, ns[i]? = some n ∧ y = V.int n := by
      rw [List.getElem?_map] at hi
      cases e : ns[i]? with
      | none => rw [e] at hi; cases hi
      | some n => rw [e] at hi; exact ⟨n, rfl, (Option.some.inj hi).symm⟩
    refine ⟨rfl, ?_⟩
    refine ifT (B := Same H H' ∧ H' D = some (.lst ((cells0 (ns.take (i + 1))).map V.int))) rfl ?_
    refine ⟨_, rfl, n, rfl, _, hD, ?_, fun b u q => ?_, ?_⟩
    · rw [List.length_map]
      unfold cells0
      rw [List.length_map, List.length_take]
      exact small_line (by omega)
    · rw [upd_ne (fun w => by rw [w, nD] at q; cases q)]
      exact s1 b u q
    · rw [upd_same, take_snoc hn]
      unfold cells0
      rw [List.map_append, List.map_append]
      rfl
  rintro H1 ⟨s1, hD⟩
  rw [List.length_map, List.take_length] at hD
  refine ⟨_, rfl, D, rfl, ⟨_, SqL.of hD⟩, fun L nL => ?_⟩
  have s2 : Same H1 (upd H1 L (.lst [])) := same_upd' nL
  refine lc_list (K := K) (a := D) (xs := (cells0 ns).map V.int) (fun i H' => Same H1 H' ∧ H' L = some (.lst ((large0 ((cells0 ns).take i)).map V.int))) ⟨s2, upd_same⟩ (fun i H' _ ⟨s3, _⟩ => s3.seq (SqL.of hD)) ?_ ?_
  · rintro i y H' hi ⟨s3, hL⟩
    obtain ⟨n, hn, rfl⟩ : ∃ n, (cells0 ns)[i]? = some n ∧ y = V.int n := by
      rw [List.getElem?_map] at hi
      cases e : (cells0 ns)[i]? with
      | none => rw [e] at hi; cases hi
      | some n => rw [e] at hi; exact ⟨n, rfl, (Option.some.inj hi).symm⟩
    have step := large0_app ((cells0 ns).take i) n
    rw [← take_snoc hn] at step
    refine ⟨rfl, ?_⟩
    refine ⟨_, rfl, tBig_run ⟨n, big, rfl, rfl, decide (big ≤ n), rfl, ?_⟩⟩
    by_cases hb : big ≤ n
    · refine ifT (B := Same H1 H' ∧ H' L = some (.lst ((large0 ((cells0 ns).take (i + 1))).map V.int))) (decide_eq_true hb) ?_
      rw [if_pos hb] at step
      refine ⟨_, rfl, tBig_run ⟨n, big, rfl, rfl, _, hL, ?_, fun b u q => ?_, ?_⟩⟩
      · rw [List.length_map]
        refine small_line (Nat.le_trans (large0_len _) ?_)
        rw [List.length_take]
        unfold cells0
        rw [List.length_map]
        omega
      · rw [upd_ne (fun w => by rw [w, nL] at q; cases q)]
        exact s3 b u q
      · rw [upd_same, step, List.map_append]
        rfl
    · refine ifF (decide_eq_false hb) ?_
      rw [if_neg hb] at step
      exact ⟨s3, by rw [step]; exact hL⟩
  rintro H2 ⟨s3, hL⟩
  rw [List.length_map, List.take_length] at hL
  have hD2 := s3 _ _ hD
  intro p np
  have nLD : L ≠ D := fun w => by rw [w, hD] at nL; cases nL
  refine ⟨_, rfl, _, rfl, upd_same, [(.inr "large", .ref L), (.inr "cells", .ref D), (.inr "left", .int 0), (.inr "turn", .int 0)], rfl, (by show 4 ≤ 15; decide), ?_⟩
  have n1 : p ≠ L := fun w => by rw [w, hL] at np; cases np
  have n2 : p ≠ D := fun w => by rw [w, hD2] at np; cases np
  have sm : Same H (upd (upd H2 p (.dK [])) p (.dK (mergeK [] [(.inr "large", .ref L), (.inr "cells", .ref D), (.inr "left", .int 0), (.inr "turn", .int 0)]))) := fun b u q => by
    have q2 := s3 b u (s1 b u q)
    rw [upd_ne (fun w => by rw [w, np] at q2; cases q2), upd_ne (fun w => by rw [w, np] at q2; cases q2)]
    exact q2
  have back : ∀ b, H2 b = none → H b = none := fun b hb => by
    cases q : H b with
    | none => rfl
    | some u => rw [s3 b u (s1 b u q)] at hb; cases hb
  refine k ⟨p, L, D, T, [], [], Str.empty⟩ _ rfl sm ⟨?_, ?_, ?_, nLD, hT.ext sm⟩ (back p np) ?_ nD
  · show upd _ p _ p = _
    rw [upd_same]
    rfl
  · show upd _ p _ L = _
    rw [upd_ne n1.symm, upd_ne n1.symm]
    exact hL
  · show upd _ p _ D = _
    rw [upd_ne n2.symm, upd_ne n2.symm]
    exact hD2
  · cases q : H L with
    | none => rfl
    | some u => rw [s1 L u q] at nL; cases nL
end DL
end
section
set_option Elab.async false
set_option linter.all false
set_option maxRecDepth 100000
set_option maxHeartbeats 2000000
/-! The value layer, part 20: the law is run; a def that makes lambdas. -/
namespace DL
open PySem PySem.Spec PyProof.Rows L2

def startLaw (m n : Nat) : Env := some (false, .scr n) :: some (false, .st) :: List.replicate (m - 2) none
theorem startLaw_get {m n i : Nat} {t : Bool} {d : D} (h : (startLaw m n)[i]? = some (some (t, d))) : t = false ∧ ((i = 0 ∧ d = .scr n) ∨ (i = 1 ∧ d = .st)) := by
  unfold startLaw at h
  match i, h with
  | 0, h => cases h; exact ⟨rfl, .inl ⟨rfl, rfl⟩⟩
  | 1, h => cases h; exact ⟨rfl, .inr ⟨rfl, rfl⟩⟩
  | i + 2, h =>
    have h : (List.replicate (m - 2) (none : Option Sl))[i]? = some (some (t, d)) := h
    rw [List.getElem?_replicate] at h
    split at h <;> cases h
/-- the lambdas that are named are those of this def -/
structure LamZ (X : Cx) (z : Zt) (lms : List (Arguments × Expr × Scope)) : Prop where
  lm : z.lm = lms
  lc : z.lc = X.env.cells
  lq : z.lq = X.env.qual ++ "<lambda>"
abbrev EnS (W : WX) (T : List (Addr × Str)) (X : Cx) (lms : List (Arguments × Expr × Scope)) : Type := { n : En // n.W = W ∧ n.k = .sh ∧ n.z.T = T ∧ LamZ X n.z lms }
theorem law_run {P : Program} {w : World} {K : PySem.W.Frag} {mg : Str → Option Value} {base : Heap} {T : List (Addr × Str)} {cs : List (Addr × Addr)} {k : Nat} {fa a : Addr} {st : Stmt} {kV dc pm cd ct oc : Value} {an od : Option Addr} {osl : Array (Option Value)} {N : List Str} {b0 : Stmt} {rest : List Stmt} {t : Ss} {s : Shared} {H : Hp} {ns : List Int} {m : Nat} {lms : List (Arguments × Expr × Scope)}
    (lk : K.lookup fa = some ⟨oc, od, .func (FDn "law" st kV dc pm an cd ct), osl⟩) (hcd : PySem.W.codeIn K cd "law" = true) (S : FnScope N ["_law_script"] (defScope st)) (hbody : defBody st = b0 :: rest) (hN : 2 ≤ N.length) (hbd : BindsT "law" st ["_law_script"]) (hm : m ≤ 1000)
    (h0 : ∀ (hr : Room k (callerA.deeper (envOfC "law" (defScope st) s.heap.objs.size fa cd))), PS (cxOf (L2.CX P w) P w K mg base N "law" (defScope st) fa cd callerA [] s H fun _ _ _ => False) b0 (tAsg (tCallS (spBegun K T) (WE fun _ _ _ _ => False) (tCons (tVar 0) tNil)) (gName 1)))
    (hrest : ∀ (n : En), XG (cxOf (L2.CX P w) P w K mg base N "law" (defScope st) fa cd callerA [] s H fun _ _ _ => False) → Room k (callerA.deeper (envOfC "law" (defScope st) s.heap.objs.size fa cd)) →
      Takes (cxOf (L2.CX P w) P w K mg base N "law" (defScope st) fa cd callerA [] s H fun _ _ _ => False) n.W → n.k = .sh → n.z.T = T → LamZ (cxOf (L2.CX P w) P w K mg base N "law" (defScope st) fa cd callerA [] s H fun _ _ _ => False) n.z lms → DSs (cxOf (L2.CX P w) P w K mg base N "law" (defScope st) fa cd callerA [] s H fun _ _ _ => False) n rest t)
    (hr : Room (k + 1) callerA) (e0 : Env0 P w K mg base callerA [] s H) (hT : ∀ p ∈ T, ∃ c ∈ cs, c.2 = p.1) (hcs : ∀ p ∈ cs, H p.2 = some (.tbl #[])) (hS : SqL K H a (ns.map V.int)) (hl : ns.length ≤ m)
    (pure_ : ∀ ns : List Int, ns.length ≤ m → ∃ g', t (startLaw N.length ns.length) (g0 ns) = .ok (.ret (.bl true)) g') :
    codeAny (model P w) callerA (.call (.ref fa) ⟨[.ref a], []⟩) (CR (L2.CX P w) [] P w H s (fun v _ => v = .bl true) fun _ _ _ => False) s := by
  refine LamX.run_ofS (vs := [.ref a]) (us := [.ref a]) lk hcd S hr e0 (.of_eq (hbd kV dc pm an cd ct [.ref a] rfl)) (.cons rfl .nil) rfl fun hr' => ?_
  rw [hbody]
  have nd := S.nd
  have hX : XG (cxOf (L2.CX P w) P w K mg base N "law" (defScope st) fa cd callerA [] s H fun _ _ _ => False) := ⟨rfl, hr'.mono (Nat.zero_le _), nd⟩
  have tk : Takes (cxOf (L2.CX P w) P w K mg base N "law" (defScope st) fa cd callerA [] s H fun _ _ _ => False) (fun _ _ _ _ => False) := takes_of (E := fun _ _ _ => False) rfl rfl rfl rfl
  refine ⟨_, pss_cons (h0 hr') (PSs.ex (α := EnS (fun _ _ _ _ => False) T (cxOf (L2.CX P w) P w K mg base N "law" (defScope st) fa cd callerA [] s H fun _ _ _ => False) lms) fun n => hrest n.1 hX hr' (by rw [n.2.1]; exact tk) n.2.2.1 n.2.2.2.1 n.2.2.2.2), ?_⟩
  have pre := S.pre
  have tabs : LamX.Tabs T H := fun p hp => by
    obtain ⟨c, hc, e⟩ := hT p hp
    exact .nil (e ▸ hcs c hc)
  have h0' : (L2.start N [V.ref a])[0]? = some (some (V.ref a)) := rfl
  refine ⟨V.ref a, h0', a, ns, rfl, hS, Nat.le_trans hl hm, tabs, fun z0 H' hz0 sm G0 np0 nl0 nc0 => ?_⟩
  generalize hz' : ({ z0 with lm := lms, lc := (cxOf (L2.CX P w) P w K mg base N "law" (defScope st) fa cd callerA [] s H fun _ _ _ => False).env.cells, lq := (cxOf (L2.CX P w) P w K mg base N "law" (defScope st) fa cd callerA [] s H fun _ _ _ => False).env.qual ++ "<lambda>" } : Zt) = z
  have lz : LamZ (cxOf (L2.CX P w) P w K mg base N "law" (defScope st) fa cd callerA [] s H fun _ _ _ => False) z lms := by subst hz'; exact ⟨rfl, rfl, rfl⟩
  have hz : z.T = T := by subst hz'; exact hz0
  have G1 : GOk z H' (g0 ns) := by subst hz'; exact ⟨G0.p, G0.l, G0.c, G0.ne, G0.tb⟩
  have ep : z0.p = z.p := by subst hz'; rfl
  have np : H z.p = none := by subst hz'; exact np0
  have nl : H z.l = none := by subst hz'; exact nl0
  have nc : H z.c = none := by subst hz'; exact nc0
  rw [ep]
  refine ⟨⟨⟨z, fun _ _ _ _ => False, .sh, ⟨H', [z.p, z.l, z.c], H', [z.p, z.l, z.c]⟩⟩, rfl, rfl, hz, lz⟩, startLaw N.length ns.length, g0 ns, [z.p, z.l, z.c], ?_, ?_⟩
  · have mu : MuOk z [z.p, z.l, z.c] H' := ⟨by simp, by simp, by simp, fun b hb => by
      simp only [List.mem_cons, List.not_mem_nil, or_false] at hb
      rcases hb with rfl | rfl | rfl
      · exact G1.op
      · exact G1.ol
      · exact G1.oc, fun b hb q w => by
      simp only [List.mem_cons, List.not_mem_nil, or_false] at hb
      rcases hb with rfl | rfl | rfl
      · rw [G1.p] at w; cases w
      · rw [G1.l] at w; cases w
      · (rw [G1.c] at w; cases w), fun b hb _ q w => by
      simp only [List.mem_cons, List.not_mem_nil, or_false] at hb
      rcases hb with rfl | rfl | rfl
      · rw [G1.p] at w; cases w
      · rw [G1.l] at w; cases w
      · rw [G1.c] at w; cases w⟩
    have len : (startLaw N.length ns.length).length = ((L2.start N [V.ref a]).set 1 (some (.ref z.p))).length := by
      unfold startLaw L2.start
      simp
      omega
    refine ⟨⟨len, mu, fun i tt d q => ?_, fun i j d d' b q1 _ _ _ => by obtain ⟨e, _⟩ := startLaw_get q1; cases e⟩, G1, Ext.refl, fun b h => h, mu, fun i d b q => by (obtain ⟨e, _⟩ := startLaw_get q; cases e), fun _ _ e _ _ => e, fun _ _ h => h, ⟨by simp, by simp⟩, fun _ h _ => h⟩
    obtain ⟨rfl, h | h⟩ := startLaw_get q
    · obtain ⟨rfl, rfl⟩ := h
      refine ⟨.ref a, ?_, ?_⟩
      · rw [List.getElem?_set_ne (by decide)]
        exact h0'
      · show Rep _ _ z _ H' (.ref a) (.scr ns.length)
        rw [← List.length_map (f := V.int) (as := ns)]
        rcases hS with h | ⟨o, its, n, h1, h2, h3, h4, h5, h6⟩
        · refine .scrR (fun w => ?_) (h.elim (fun h => .inl (sm _ _ h)) fun ⟨o, h⟩ => .inr ⟨o, sm _ _ h⟩)
          have na : H a ≠ none := by
            rcases h with h | ⟨o, h⟩ <;> rw [h] <;> exact fun q => by cases q
          simp only [List.mem_cons, List.not_mem_nil, or_false] at w
          rcases w with rfl | rfl | rfl
          · exact na np
          · exact na nl
          · exact na nc
        · exact .scrK h1 h2 h3 h4 h5 h6
    · obtain ⟨rfl, rfl⟩ := h
      refine ⟨.ref z.p, ?_, .st⟩
      rw [List.getElem?_set_self]
      unfold L2.start
      simp
      omega
  · obtain ⟨g', hp⟩ := pure_ ns hl
    rw [hp]
    intro v H'' _ _ r
    exact (RK.scal (k' := .sh) (Mu' := []) (z := z) rfl r : Rep _ _ _ _ _ _ _) |> fun r => by cases r; rfl

/-! ### defs that make lambdas -/
def IsFnL (K : PySem.W.Frag) (mg : Str → Option Value) (name : Str) (st : Stmt) (c : Addr) : Prop := ∃ (f : Addr) (oc : Value) (od : Option Addr) (kV dc pm : Value) (an : Option Addr) (ct : Value) (sl : Array (Option Value)),
  mg name = some (.ref f) ∧ PySem.W.keepIn K (.ref f) = true ∧ K.lookup f = some ⟨oc, od, .func (FDn name st kV dc pm an (.ref c) ct), sl⟩ ∧ PySem.W.codeIn K (.ref c) name = true
/-- the def that calls what it gets and hands back what came -/
structure CaughtT (st : Stmt) (a v e en : Str) : Prop where
  body : ∃ (j : Nat) (p1 p2 p3 p4 p5 p6 p7 p8 p9 p10 p11 p12 p13 p14 : Pos), defBody st = caughtB a v e en j p1 p2 p3 p4 p5 p6 p7 p8 p9 p10 p11 p12 p13 p14
  sc : FnScope [a, v, en] [a] (defScope st)
  la : (defScope st).names.lookup a = some .local
  lv : (defScope st).names.lookup v = some .local
  le : (defScope st).names.lookup en = some .local
  ge : (defScope st).names.lookup e = some .globalImplicit
  d1 : (e == ("__debug__" : Str)) = false
  d2 : (v == ("__debug__" : Str)) = false
  d3 : (v == ("__classdict__" : Str)) = false
  d4 : (en == ("__debug__" : Str)) = false
  d5 : (en == ("__classdict__" : Str)) = false
  d6 : (a == ("__debug__" : Str)) = false
  d7 : (a == ("__classdict__" : Str)) = false
def PkOk (K : PySem.W.Frag) (mg : Str → Option Value) (e : Str) (pks : List Str) : Prop := ∃ CS, mg e = some (.ref CS) ∧ ∀ c ∈ pks, ∀ C, mg c = some (.ref C) → PySem.W.exmOne K (.ref C) (.ref CS) = some true
theorem de_caughtC {X : Cx} {z : Zt} {W : WX} {kb : Kd} {fb : Ep} {x a v e en : Str} {c P : Addr} {k : Nat} {st : Stmt} {params : Arguments} {body : Expr} {scope : Scope} {p lpos pos : Pos} {pks : List Str} (F : IsFn X.K X.mg x st) (CT : CaughtT st a v e en) (hbd : BindsT x st [a]) (pk : PkOk X.K X.mg e pks) (hg : Gl X x)
    (TB : LamX.TabB X.base X.mg c P) (hcode : X.env.code = .ref c) (hmT : (P, X.env.qual ++ "<lambda>") ∈ z.T) (hu : ∀ p ∈ z.T, p.1 = P → p.2 = X.env.qual ++ "<lambda>") (hr : Room (k + 2) X.A) (L : LamX.LamS X.env.scope scope)
    (hbody : ∀ (A : Around) (outer : List PySem.Env) (s : Shared) (H : Hp) (E : XK) (f c' : Addr), Room k (A.deeper (LamX.lamEnv X scope s.heap.objs.size f c')) → Takes (LamX.lamCx X A outer s H E scope f c') (fun cls dd _ H => E cls dd H) →
      DE (LamX.lamCx X A outer s H E scope f c') z (fun cls dd _ H => E cls dd H) kb body fb)
    (hdef : defaultsOf params X.env = ([], []) := by rfl)
    (hbind : ∀ (q : Str) (cl : List (Str × Addr)) (pm cv ctv : Value), bindArgs (PySem.W.kla_fn "<lambda>" q params body scope cl pm cv ctv) ⟨[], []⟩ = pure [] := by intros; rfl)
    (hdb : (x == ("__debug__" : Str)) = false := by decide) : DE X z W .new (.Call (.Name x p) [.Lambda params body scope lpos] [] pos) (eCaught pks fb) := by
  obtain ⟨f, oc, od, kV, dc, pm, an, cd, ct, sl, h1, h2, h3, h4⟩ := F
  obtain ⟨CS, hCS, hpk⟩ := pk
  obtain ⟨j, p1, p2, p3, p4, p5, p6, p7, p8, p9, p10, p11, p12, p13, p14, hb⟩ := CT.body
  refine de_caught (bg := defBody st) hg h1 h2 h3 h4 (.all (hbd kV dc pm an cd ct)) CT.sc rfl (.inl CT.la) ?_ hpk TB hcode hmT hu hr L hdef hbind hbody hdb CT.d6 CT.d7
  rw [hb]
  exact caught_gives CT.sc.nd CT.lv CT.le CT.ge hCS CT.d1 CT.d2 CT.d3 CT.d4 CT.d5
end DL
end
section
set_option Elab.async false
set_option linter.all false
set_option maxRecDepth 100000
set_option maxHeartbeats 2000000
/-! The value layer, part 21: forms that the printed terms use. -/
namespace DL
open PySem PySem.Spec PyProof.Rows L2

section
variable {X : Cx} {n : En} {z : Zt} {W : WX} {e : Expr} {f : Ep} {pos : Pos}
theorem ds_retS (hk : n.k = .sh) (h : DE X n.z n.W .sh e f) : DS X n (.Return (some e) pos) (sRet f) := ds_ret (by rw [hk]; exact h) (.inr hk)
/-- {} -/
theorem de_dct0 : DE X z W .new (.Dict [] [] pos) (eC (.dct [])) := by
  refine ⟨fun pins s σ H Q I ⟨ρ, g, Mu, E, G1, hx⟩ => ?_⟩
  have hn : H s.heap.objs.size = none := I.hok.fresh (Nat.le_refl _)
  have hs : (s.heap.objs.size == sysModules) = false := beq_false_of_ne (Nat.ne_of_gt I.big)
  refine wpAny_Dict_empty ⟨.ref s.heap.objs.size, _, I.laid (a := s.heap.objs.size) (o := ObV s.heap.objs.size { cls := .type "dict", data := .dict #[] }) (t' := s.toks) (fun _ _ q => Heap.get?_push_of_some _ q) (Nat.le_refl _) ?_, rfl, ?_⟩
  · exact ⟨Heap.get?_push_size _ rfl, ⟨_, Heap.get?_push_size _ rfl⟩, fun _ _ h k => k _ h⟩
  · have sm : Same H (upd H s.heap.objs.size (ObV s.heap.objs.size { cls := .type "dict", data := .dict #[] })) := same_upd' hn
    refine hx _ _ (Ext.of sm) (G1.same sm) ?_
    show if D.box (.dct []) = true then ∃ a, V.ref s.heap.objs.size = .ref a ∧ ¬ Oc H a ∧ Cont X.K X.mg z (a :: Mu) (upd H s.heap.objs.size (ObV s.heap.objs.size { cls := .type "dict", data := .dict #[] })) a (.dct []) else Rep X.K X.mg z Mu (upd H s.heap.objs.size (ObV s.heap.objs.size { cls := .type "dict", data := .dict #[] })) (.ref s.heap.objs.size) (.dct [])
    rw [if_pos (show D.box (.dct []) = true from rfl)]
    exact ⟨_, rfl, oc_none hn, .dct upd_same hs ⟨rfl, rfl, rfl⟩ rfl (by show 0 ≤ _; omega) ⟨.nil, .nil⟩ .nil .nil ⟨fun i e d h => by simp at h, .nil⟩⟩
end
theorem de_caughtT {X : Cx} {z : Zt} {W : WX} {kb : Kd} {fb : Ep} {x a v e en : Str} {c P : Addr} {k : Nat} {st : Stmt} {params : Arguments} {body : Expr} {scope : Scope} {p lpos pos : Pos} {pks : List Str} (F : IsFn X.K X.mg x st) (CT : CaughtT st a v e en) (hbd : BindsT x st [a]) (pk : PkOk X.K X.mg e pks) (hg : Gl X x)
    (TB : LamX.TabB X.base X.mg c P) (hcode : X.env.code = .ref c) (hT : z.T = [(P, X.env.qual ++ "<lambda>")]) (hr : Room (k + 2) X.A) (L : LamX.LamS X.env.scope scope)
    (hbody : ∀ (A : Around) (outer : List PySem.Env) (s : Shared) (H : Hp) (E : XK) (f c' : Addr), Room k (A.deeper (LamX.lamEnv X scope s.heap.objs.size f c')) → Takes (LamX.lamCx X A outer s H E scope f c') (fun cls dd _ H => E cls dd H) →
      DE (LamX.lamCx X A outer s H E scope f c') z (fun cls dd _ H => E cls dd H) kb body fb)
    (hdef : defaultsOf params X.env = ([], []) := by rfl)
    (hbind : ∀ (q : Str) (cl : List (Str × Addr)) (pm cv ctv : Value), bindArgs (PySem.W.kla_fn "<lambda>" q params body scope cl pm cv ctv) ⟨[], []⟩ = pure [] := by intros; rfl)
    (hdb : (x == ("__debug__" : Str)) = false := by decide) : DE X z W .new (.Call (.Name x p) [.Lambda params body scope lpos] [] pos) (eCaught pks fb) :=
  de_caughtC F CT hbd pk hg TB hcode (by rw [hT]; exact List.mem_cons_self) (fun q hq _ => by rw [hT] at hq; rw [List.mem_singleton.mp hq]) hr L hbody hdef hbind hdb
theorem R.of_bind {α β : Type} {r : R α} {k : α → M β} {P : β → G → Prop} {E : Str → Str → List D → G → Prop} (h : r.all (fun a g => (k a g).all P E) E) : (r.bind k).all P E := by
  cases r <;> exact h
/-- y = [..] on one line, y never changed -/
theorem ds_setLcS {X : Cx} {n : En} {elt tg iter : Expr} {ifs : List Expr} {scope : Scope} {own : List (Str × Nat)} {pos : Pos} {it : Es} {gt : TG} {t : D → Env → Option Env} {is : List Nat} {tt : Et} {f : Ep} {i : Nat} {y : Str} {py spos : Pos} (hX : XG X) (hy : X.N[i]? = some y) (hyl : X.env.scope.names.lookup y = some .local)
    (hsw : swapsWith (.ListComp elt [⟨tg, iter, ifs, 0⟩] scope pos) (some (.Name y py)) spos.line X.env = pure true) (hi : DI X n.z n.W true tg iter it) (ok : BlkOk X.N X.env.scope scope own) (hsub : ∀ i ∈ is, i ∈ own.map (·.2))
    (hg : ∀ (s : Shared) (H : Hp) (C : Addr) (cl : List (Str × Addr)) (fp : List Addr), TgOk (X.blk s H scope (compEnvC scope cl C X.env) fp) n.z tg gt t is)
    (ht : ∀ (s : Shared) (H : Hp) (C : Addr) (cl : List (Str × Addr)) (fp : List Addr), DTs (X.blk s H scope (compEnvC scope cl C X.env) fp) n.z W0 ifs tt)
    (he : ∀ (s : Shared) (H : Hp) (C : Addr) (cl : List (Str × Addr)) (fp : List Addr), DE (X.blk s H scope (compEnvC scope cl C X.env) fp) n.z W0 .sh elt f) (hs : ∀ x, foldedSetIterable iter X.env x = pure x := by intro _; rfl) :
    DS X n (.Assign [.Name y py] (.ListComp elt [⟨tg, iter, ifs, 0⟩] scope pos) spos) (sSet false i (eLc it t tt f (own.map (·.2)))) := by
  have h := ds_setLc hX hy hyl hsw hi ok hsub hg ht he hs
  refine ⟨fun pins s σ H D I ⟨ρ, g, Mu, S, hq⟩ => ?_⟩
  refine h.run pins s σ H D I ⟨ρ, g, Mu, S, ?_⟩
  have hl : i < ρ.length := by rw [S.env.len, I.len]; exact (List.getElem?_eq_some_iff.mp hy).1
  have hq : ((eLc it t tt f (own.map (·.2)) ρ g).bind fun d => M.pure (.nx (ρ.set i (some (false && d.box, d))))).all (FW X n D) (EW X n) := hq
  show ((eLc it t tt f (own.map (·.2)) ρ g).bind fun d => M.pure (.nx (ρ.set i (some (true && d.box, d))))).all (FW X n D) (EW X n)
  refine R.of_bind (R.all_imp (R.all_bind hq) (fun d g1 hq => ?_) fun _ _ _ _ h => h)
  intro σ' H' Mu' S'
  obtain ⟨Mu2, S2⟩ := S'.frz (i := i)
  refine hq σ' H' Mu2 ?_
  have e : frz (ρ.set i (some (true && d.box, d))) i = ρ.set i (some (false && d.box, d)) := by
    unfold frz
    rw [List.getElem?_set_self hl]
    cases hb : d.box with
    | true => show (ρ.set i (some (true, d))).set i (some (false, d)) = _; rw [List.set_set]; rfl
    | false => rfl
  rw [e] at S2
  exact S2
end DL
end
section
set_option Elab.async false
set_option linter.all false
set_option maxRecDepth 100000
set_option maxHeartbeats 2000000
/-! The value layer, part 22: readings computed. -/
namespace DL
open PySem PySem.Spec PyProof.Rows L2

/-! ### steps -/
section
variable {α β : Type} {ρ : Env} {g : G}
theorem rb_ok (a : α) (g : G) (k : α → M β) : (R.ok a g).bind k = k a g := rfl
theorem m_bind (m : M α) (k : α → M β) (g : G) : (m >>= k) g = (m g).bind k := rfl
theorem m_opt (a : α) (g : G) : (ofOpt (some a) : M α) g = .ok a g := rfl
theorem e_var {i : Nat} {d : D} (h : ρ[i]? = some (some (false, d))) : eVar i ρ g = .ok d g := by
  unfold eVar shAt
  rw [h]
  rfl
theorem e_peek {i : Nat} {b : Bool} {d : D} (h : ρ[i]? = some (some (b, d))) : ePeek i ρ g = .ok d g := by
  unfold ePeek anyAt
  rw [h]
  rfl
theorem e_c (d : D) : eC d ρ g = .ok d g := rfl
theorem e_bin {h : D → D → Option D} {fa fb : Ep} {x y d : D} {g1 g2 : G} (ha : fa ρ g = .ok x g1) (hb : fb ρ g1 = .ok y g2) (hd : h x y = some d) : eBin h fa fb ρ g = .ok d g2 := by
  show ((fa ρ g).bind fun x => fun g => (fb ρ g).bind fun y => ofOpt (h x y)) = _
  rw [ha, rb_ok, hb, rb_ok, hd]
  rfl
theorem e_tr {f : Ep} {b : Bool} {g1 : G} (h : f ρ g = .ok (.bl b) g1) : eTr f ρ g = .ok b g1 := by
  show ((f ρ g).bind fun d => (match d with | .bl b => M.pure b | _ => stuck : M Bool)) = _
  rw [h]
  rfl
theorem s_nil : sNil ρ g = .ok [] g := rfl
theorem s_cons {f : Ep} {h : Es} {x : D} {xs : List D} {g1 g2 : G} (ha : f ρ g = .ok x g1) (hb : h ρ g1 = .ok xs g2) : sCons f h ρ g = .ok (x :: xs) g2 := by
  show ((f ρ g).bind fun x => fun g => (h ρ g).bind fun xs => M.pure (x :: xs)) = _
  rw [ha, rb_ok, hb]
  rfl
theorem e_call {h : List D → Option D} {fs : Es} {ds : List D} {d : D} {g1 : G} (ha : fs ρ g = .ok ds g1) (hd : h ds = some d) : eCall h fs ρ g = .ok d g1 := by
  show ((fs ρ g).bind fun ds => ofOpt (h ds)) = _
  rw [ha, rb_ok, hd]
  rfl
theorem b_and {f h : Et} {b c : Bool} {g1 g2 : G} (hf : f ρ g = .ok b g1) (hh : b = true → h ρ g1 = .ok c g2) (h0 : b = false → c = false ∧ g2 = g1) : bAnd f h ρ g = .ok c g2 := by
  unfold bAnd
  rw [m_bind, hf, rb_ok]
  cases b with
  | true => exact hh rfl
  | false => obtain ⟨rfl, rfl⟩ := h0 rfl; rfl
theorem s_seq {t u : Ss} {ρ1 : Env} {g1 : G} {r : R Fl} (h : t ρ g = .ok (.nx ρ1) g1) (hu : u ρ1 g1 = r) : sSeq t u ρ g = r := by
  unfold sSeq
  rw [m_bind, h, rb_ok]
  exact hu
theorem s_seqR {t u : Ss} {d : D} {g1 : G} (h : t ρ g = .ok (.ret d) g1) : sSeq t u ρ g = .ok (.ret d) g1 := by
  unfold sSeq
  rw [m_bind, h]
  rfl
theorem s_if {c : Et} {t u : Ss} {b : Bool} {g1 : G} (h : c ρ g = .ok b g1) : sIf c t u ρ g = if b = true then t ρ g1 else u ρ g1 := by
  unfold sIf
  rw [m_bind, h, rb_ok]
  cases b <;> rfl
theorem s_ret {f : Ep} {d : D} {g1 : G} (h : f ρ g = .ok d g1) : sRet f ρ g = .ok (.ret d) g1 := by
  unfold sRet
  rw [m_bind, h]
  rfl
theorem s_set {i : Nat} {f : Ep} {d : D} {g1 : G} (h : f ρ g = .ok d g1) : sSet false i f ρ g = .ok (.nx (ρ.set i (some (false, d)))) g1 := by
  unfold sSet
  rw [m_bind, h]
  rfl
theorem fn_ret {t : Ss} {n : Nat} {ds : List D} {d : D} {g1 : G} (h : t (startE n ds) g = .ok (.ret d) g1) : fnB t n ds g = .ok d g1 := by
  unfold fnB
  rw [m_bind, h]
  rfl
end

/-! ### numbers compared -/
theorem shaped_int (i : Int) : SeqAt.shaped (.int i) = true := by simp [SeqAt.shaped, PyData.canLay0, PyData.depth]
theorem dEq_int (a b : Int) : dEq (.int a) (.int b) = some (.bl (a == b)) := by
  show (dEqP (.int a) (.int b)).map D.bl = _
  unfold dEqP
  rw [D.py, D.py]
  simp [shaped_int, PyData.eqv]
/-! ### the draws -/
/-- k draws are left in the purse -/
structure GI (k : Nat) (g : G) : Prop where
  l : g.large.length ≤ 63
  c : g.cells.length ≤ 63
  t0 : 0 ≤ g.turn
  t : g.turn + k ≤ 1000000000
theorem GI.mono {j k : Nat} {g : G} (h : GI k g) (hj : j ≤ k) : GI j g := ⟨h.l, h.c, h.t0, by have := h.t; omega⟩
theorem gi0 {ns : List Int} (h : ns.length ≤ 63) : GI 1000000000 (g0 ns) := ⟨Nat.le_trans (large0_len _) (by unfold cells0; rw [List.length_map]; exact h), by show (cells0 ns).length ≤ 63; unfold cells0; rw [List.length_map]; exact h, Int.le_refl _, by show (0 : Int) + _ ≤ _; decide⟩
def drawW : Ss := sWhile (bAnd (eTr (eBin dEq (eStL 0) (eC (.int 0)))) (tLsNe 0 (·.large))) (sSt 0 uL (ePopL 0)) 66
def drawR : Ss :=
  (sSeq (sSet false 3 (eBin dAdd (eStT 0) (eC (.int 1))))
  (sSeq (sSt 0 uT (eVar 3))
  (sSeq (sSet false 4 (eIf (tLsNe 0 (·.cells)) (eCellIx 0 (eBin dMod (eCall fInt (sCons (eVar 3) sNil)) (eCellLen 0))) (eC (.int 0))))
  (sSeq (sSet false 5 (eBin dMod (eCall fInt (sCons (eBin dPow (eBin dAdd (eBin dAdd (eBin dMod (eCall fInt (sCons (eVar 4) sNil)) (eC (.int 2147483563))) (eBin dMul (eC (.int 40692)) (eVar 3))) (eC (.int 24681))) (eC (.int 3))) sNil)) (eC (.int 2147483629))))
  (sRet (eBin dMod (eCall fInt (sCons (eBin dFdiv (eBin dMod (eCall fInt (sCons (eBin dPow (eBin dAdd (eVar 5) (eBin dMul (eC (.int 104917)) (eVar 3))) (eC (.int 5))) sNil)) (eC (.int 2147483579))) (eC (.int 29))) sNil)) (eVar 1)))))))
def drawT : Ss :=
  (sSeq drawW
  (sSeq (sIf (eTr (eBin dGt (eStL 0) (eC (.int 0))))
  (sSeq (sSet false 2 (eBin dMod (eCall fInt (sCons (eStL 0) sNil)) (eVar 1)))
  (sSeq (sSt 0 uL (eBin dFdiv (eStL 0) (eVar 1)))
  (sRet (eVar 2))))
  (fun ρ => M.pure (.nx ρ)))
  drawR))
theorem e_stL {i : Nat} {ρ : Env} {g : G} (h : ρ[i]? = some (some (false, .st))) : eStL i ρ g = .ok (.int g.left) g := by
  unfold eStL onSt shAt
  rw [h]
theorem e_stT {i : Nat} {ρ : Env} {g : G} (h : ρ[i]? = some (some (false, .st))) : eStT i ρ g = .ok (.int g.turn) g := by
  unfold eStT onSt shAt
  rw [h]
theorem t_lsNe {i : Nat} {l : G → List Int} {ρ : Env} {g : G} (h : ρ[i]? = some (some (false, .st))) : tLsNe i l ρ g = .ok (decide (l g ≠ [])) g := by
  unfold tLsNe onSt shAt
  rw [h]
theorem e_popL {i : Nat} {ρ : Env} {g : G} {x : Int} {xs : List Int} (h : ρ[i]? = some (some (false, .st))) (hl : g.large = x :: xs) : ePopL i ρ g = .ok (.int x) { g with large := xs } := by
  unfold ePopL onSt shAt
  rw [h]
  dsimp only
  rw [hl]
theorem s_st {i : Nat} {u : G → Int → G} {f : Ep} {v : Int} {ρ : Env} {g g1 : G} (h : ρ[i]? = some (some (false, .st))) (hf : f ρ g = .ok (.int v) g1) : sSt i u f ρ g = .ok (.nx ρ) (u g1 v) := by
  unfold sSt onSt shAt
  rw [m_bind, hf, rb_ok, h]
theorem e_cellLen {i : Nat} {ρ : Env} {g : G} (h : ρ[i]? = some (some (false, .st))) : eCellLen i ρ g = .ok (.int g.cells.length) g := by
  unfold eCellLen onSt shAt
  rw [h]
theorem e_cellIx {i : Nat} {ρ : Env} {fb : Ep} {g g1 : G} {k c : Int} (h : ρ[i]? = some (some (false, .st))) (hf : fb ρ g = .ok (.int k) g1) (hc : L2.atI g1.cells k = some c) : eCellIx i fb ρ g = .ok (.int c) g1 := by
  unfold eCellIx onSt shAt
  rw [h]
  dsimp only
  rw [m_bind, hf, rb_ok]
  dsimp only
  rw [hc]
theorem e_if {c : Et} {f h : Ep} {ρ : Env} {b : Bool} {g g1 : G} (hc : c ρ g = .ok b g1) : eIf c f h ρ g = if b = true then f ρ g1 else h ρ g1 := by
  unfold eIf
  rw [m_bind, hc, rb_ok]
  cases b <;> rfl
theorem drawW_ok {ρ : Env} (h : ρ[0]? = some (some (false, .st))) : ∀ (N : Nat) (g : G), g.large.length < N → ∃ g', sWhile (bAnd (eTr (eBin dEq (eStL 0) (eC (.int 0)))) (tLsNe 0 (·.large))) (sSt 0 uL (ePopL 0)) N ρ g = .ok (.nx ρ) g' ∧
    g'.turn = g.turn ∧ g'.cells = g.cells ∧ g'.large.length ≤ g.large.length
  | 0, g, hl => absurd hl (by omega)
  | N + 1, g, hl => by
    have t1 : eTr (eBin dEq (eStL 0) (eC (.int 0))) ρ g = .ok (g.left == 0) g := e_tr (e_bin (e_stL h) (e_c _) (dEq_int _ _))
    have t2 : bAnd (eTr (eBin dEq (eStL 0) (eC (.int 0)))) (tLsNe 0 (·.large)) ρ g = .ok ((g.left == 0) && decide (g.large ≠ [])) g := by
      refine b_and t1 (fun hb => ?_) fun hb => ?_
      · rw [t_lsNe h, hb, Bool.true_and]
      · rw [hb]; exact ⟨rfl, rfl⟩
    rw [sWhile, m_bind, t2, rb_ok]
    cases hc : ((g.left == 0) && decide (g.large ≠ [])) with
    | false => exact ⟨g, rfl, rfl, rfl, Nat.le_refl _⟩
    | true =>
      rw [Bool.and_eq_true, decide_eq_true_eq] at hc
      obtain ⟨x, xs, hx⟩ := List.exists_cons_of_ne_nil hc.2
      rw [if_pos rfl, m_bind, s_st h (e_popL h hx), rb_ok]
      have hlen : (uL { g with large := xs } x).large.length < N := by
        show xs.length < N
        rw [hx, List.length_cons] at hl
        omega
      obtain ⟨g', e, e1, e2, e3⟩ := drawW_ok h N (uL { g with large := xs } x) hlen
      refine ⟨g', e, e1, e2, Nat.le_trans e3 ?_⟩
      show xs.length ≤ _
      rw [hx, List.length_cons]
      omega
theorem natAbs_lt {i B : Int} {n : Nat} (h0 : 0 ≤ i) (h : i < B) (hB : B ≤ (n : Int)) : i.natAbs < n := by omega
theorem draw_ok {n : Int} {k : Nat} {g : G} (hn : 0 < n) (hn2 : n ≤ 1000000000) (h : GI (k + 1) g) : ∃ r g', fnB drawT 6 [.st, .int n] g = .ok (.int r) g' ∧ 0 ≤ r ∧ r < n ∧ GI k g' := by
  obtain ⟨g1, e1, c1, c2, c3⟩ := drawW_ok (ρ := startE 6 [.st, .int n]) rfl 66 g (by have := h.l; omega)
  have hlog : n.natAbs.log2 < 9000 := by
    have h1 : n.natAbs < 2 ^ 9000 := by
      refine Nat.lt_of_le_of_lt (show n.natAbs ≤ 2 ^ 30 by omega) ?_
      exact Nat.pow_lt_pow_right (by decide) (by decide)
    exact (Nat.log2_lt (by omega)).mpr h1
  have i1 : GI (k + 1) g1 := ⟨Nat.le_trans c3 h.l, by rw [c2]; exact h.c, by rw [c1]; exact h.t0, by rw [c1]; exact h.t⟩
  have tl : eTr (eBin dGt (eStL 0) (eC (.int 0))) (startE 6 [.st, .int n]) g1 = .ok (decide (0 < g1.left)) g1 := e_tr (e_bin (e_stL rfl) (e_c _) rfl)
  by_cases hl : 0 < g1.left
  · refine ⟨g1.left % n, uL g1 (g1.left / n), fn_ret (s_seq e1 (s_seqR ?_)), Int.emod_nonneg _ (by omega), Int.emod_lt_of_pos _ hn, ⟨i1.l, i1.c, i1.t0, by have := i1.t; show g1.turn + (k : Int) ≤ _; omega⟩⟩
    rw [s_if tl, if_pos (decide_eq_true hl)]
    refine s_seq (s_set (e_bin (e_call (s_cons (e_stL rfl) s_nil) rfl) (e_var rfl) (?_ : dMod (.int g1.left) (.int n) = some (.int (g1.left % n))))) (s_seq (s_st rfl (e_bin (e_stL rfl) (e_var rfl) (?_ : dFdiv (.int g1.left) (.int n) = some (.int (g1.left / n))))) (s_ret (e_var rfl)))
    · unfold dMod; dsimp only; rw [if_pos hn]
    · unfold dFdiv; dsimp only; rw [if_pos ⟨hn, hlog⟩]
  · let t : Int := g1.turn + 1
    have ht0 : 0 ≤ t := by have := i1.t0; show 0 ≤ g1.turn + 1; omega
    have ht1 : t ≤ 1000000000 := by have := i1.t; show g1.turn + 1 ≤ _; omega
    have cell : ∃ c : Int, ∀ ρ : Env, ρ[0]? = some (some (false, .st)) → ρ[3]? = some (some (false, .int t)) → eIf (tLsNe 0 (·.cells)) (eCellIx 0 (eBin dMod (eCall fInt (sCons (eVar 3) sNil)) (eCellLen 0))) (eC (.int 0)) ρ (uT g1 t) = .ok (.int c) (uT g1 t) := by
      by_cases hc : g1.cells = []
      · refine ⟨0, fun ρ h0 h3 => ?_⟩
        rw [e_if (t_lsNe h0), if_neg (by rw [decide_eq_true_eq]; exact fun w => w hc)]
        rfl
      · have hp : 0 < (g1.cells.length : Int) := by
          have := List.length_pos_iff.mpr hc
          omega
        have hlt : t % (g1.cells.length : Int) < g1.cells.length := Int.emod_lt_of_pos _ hp
        have hge : 0 ≤ t % (g1.cells.length : Int) := Int.emod_nonneg _ (by omega)
        have hix : (t % (g1.cells.length : Int)).toNat < g1.cells.length := by omega
        refine ⟨g1.cells[(t % (g1.cells.length : Int)).toNat], fun ρ h0 h3 => ?_⟩
        rw [e_if (t_lsNe h0), if_pos (by rw [decide_eq_true_eq]; exact hc)]
        refine e_cellIx h0 (e_bin (e_call (s_cons (e_var h3) s_nil) rfl) (e_cellLen h0) (?_ : dMod (.int t) (.int g1.cells.length) = some (.int (t % (g1.cells.length : Int))))) ?_
        · unfold dMod; dsimp only; rw [if_pos hp]
        · unfold L2.atI ixN
          show ((if 0 ≤ t % (g1.cells.length : Int) then (if t % (g1.cells.length : Int) < g1.cells.length then some (t % (g1.cells.length : Int)).toNat else none) else _).bind fun j => g1.cells[j]?) = _
          rw [if_pos hge, if_pos hlt]
          exact List.getElem?_eq_getElem hix
    obtain ⟨c, hcell⟩ := cell
    have m1 : 0 ≤ c % 2147483563 ∧ c % 2147483563 < 2147483563 := ⟨Int.emod_nonneg _ (by decide), Int.emod_lt_of_pos _ (by decide)⟩
    let b1 : Int := c % 2147483563 + 40692 * t + 24681
    have hb1 : 0 ≤ b1 ∧ b1 < 100000000000000 := by
      constructor <;> simp only [b1] <;> omega
    let x : Int := b1 ^ (3 : Int).toNat % 2147483629
    have hx : 0 ≤ x ∧ x < 2147483629 := ⟨Int.emod_nonneg _ (by decide), Int.emod_lt_of_pos _ (by decide)⟩
    let b2 : Int := x + 104917 * t
    have hb2 : 0 ≤ b2 ∧ b2 < 1000000000000000 := by
      constructor <;> simp only [b2] <;> omega
    let y : Int := b2 ^ (5 : Int).toNat % 2147483579 / 29
    refine ⟨y % n, uT g1 t, fn_ret (s_seq e1 (s_seq (ρ1 := startE 6 [.st, .int n]) (g1 := g1) ?_ ?_)), Int.emod_nonneg _ (by omega), Int.emod_lt_of_pos _ hn, ⟨i1.l, i1.c, ht0, by have := i1.t; show g1.turn + 1 + (k : Int) ≤ _; omega⟩⟩
    · rw [s_if tl, if_neg (by rw [decide_eq_true_eq]; exact hl)]
    · refine s_seq (s_set (e_bin (e_stT rfl) (e_c _) rfl)) (s_seq (s_st rfl (e_var rfl)) (s_seq (s_set (hcell _ rfl rfl)) (s_seq (s_set (d := .int x) (g1 := uT g1 t) ?_) (s_ret (g1 := uT g1 t) ?_))))
      · refine e_bin (x := .int (b1 ^ (3 : Int).toNat)) (e_call (ds := [.int (b1 ^ (3 : Int).toNat)]) (s_cons (e_bin (x := .int b1) (e_bin (x := .int (c % 2147483563 + 40692 * t)) (e_bin (x := .int (c % 2147483563)) (e_bin (e_call (s_cons (e_var rfl) s_nil) rfl) (e_c _) rfl) (e_bin (y := .int t) (d := .int (40692 * t)) (e_c _) (e_var rfl) ?_) rfl) (e_c _) rfl) (e_c _) ?_) s_nil) rfl) (e_c _) rfl
        · unfold dMul; dsimp only; rw [if_pos (.inl ⟨by decide, by decide⟩)]
        · unfold dPow; dsimp only; rw [if_pos ⟨by decide, by decide, natAbs_lt hb1.1 hb1.2 (by decide)⟩]
      · refine e_bin (x := .int y) (y := .int n) (e_call (ds := [.int y]) (s_cons (e_bin (x := .int (b2 ^ (5 : Int).toNat % 2147483579)) (e_bin (x := .int (b2 ^ (5 : Int).toNat)) (e_call (ds := [.int (b2 ^ (5 : Int).toNat)]) (s_cons (e_bin (x := .int b2) (e_bin (x := .int x) (y := .int (104917 * t)) (e_var rfl) (e_bin (y := .int t) (e_c _) (e_var rfl) ?_) rfl) (e_c _) ?_) s_nil) rfl) (e_c _) rfl) (e_c _) ?_) s_nil) rfl) (e_var rfl) ?_
        · unfold dMul; dsimp only; rw [if_pos (.inl ⟨by decide, by decide⟩)]
        · unfold dPow; dsimp only; rw [if_pos ⟨by decide, by decide, natAbs_lt hb2.1 hb2.2 (by decide)⟩]
        · unfold dFdiv; dsimp only; rw [if_pos ⟨by decide, by decide⟩]
        · unfold dMod; dsimp only; rw [if_pos hn]
end DL
end
section
set_option Elab.async false
set_option linter.all false
set_option maxRecDepth 100000
set_option maxHeartbeats 2000000
/-! The value layer, part 23: loops and comprehensions computed, isinstance, sorted numbers. -/
namespace DL
open PySem PySem.Spec PyProof.Rows L2

theorem line_1000 {n : Nat} (h : n ≤ 1000) : n ≤ sizeLine := Nat.le_trans h (by rw [sizeLine_eq]; decide)
/-! ### comprehensions -/
theorem nox_ok {α : Type} {m : M α} {g g' : G} {a : α} (h : m g = .ok a g') : nox m g = .ok a g' := by
  unfold nox
  rw [h]
section
variable {ρ : Env} {t : D → Env → Option Env} {tt : Et} {f : Ep} {g g1 g2 : G} {vs : List Nat} {it : Es}
/-- nothing is drawn -/
theorem lc_pure (P : D → Bool) (F : D → D) : ∀ l : List D, (∀ d ∈ l, ∃ ρ', t d ρ = some ρ' ∧ tt ρ' g = .ok (P d) g ∧ (P d = true → f ρ' g = .ok (F d) g)) → sLcL ρ t tt f l g = .ok ((l.filter P).map F) g
  | [], _ => rfl
  | d :: l, h => by
    obtain ⟨ρ', h1, h2, h3⟩ := h d List.mem_cons_self
    have ih := lc_pure P F l fun x hx => h x (List.mem_cons_of_mem _ hx)
    rw [sLcL, m_bind, h1, m_opt, rb_ok, m_bind, nox_ok h2, rb_ok]
    cases hp : P d with
    | true => rw [if_pos rfl, m_bind, nox_ok (h3 hp), rb_ok, m_bind, ih, rb_ok, List.filter_cons_of_pos hp, List.map_cons]
    | false => rw [if_neg (by decide), ih, List.filter_cons_of_neg (by rw [hp]; decide)]
theorem lc_all (F : D → D) (l : List D) (h : ∀ d ∈ l, ∃ ρ', t d ρ = some ρ' ∧ f ρ' g = .ok (F d) g) : sLcL ρ t sYes f l g = .ok (l.map F) g := by
  have q := lc_pure (ρ := ρ) (t := t) (tt := sYes) (f := f) (g := g) (fun _ => true) F l fun d hd => by
    obtain ⟨ρ', h1, h2⟩ := h d hd
    exact ⟨ρ', h1, rfl, fun _ => h2⟩
  rw [q, List.filter_eq_self.mpr fun _ _ => rfl]
/-- each item draws at most c times -/
theorem lc_draw (c : Nat) (Q : D → Prop) : ∀ (l : List D) (k : Nat) (g : G), (∀ d ∈ l, ∀ k g, GI (k + c) g → ∃ ρ' y g', t d ρ = some ρ' ∧ f ρ' g = .ok y g' ∧ GI k g' ∧ Q y) → GI (k + c * l.length) g →
    ∃ ys g', sLcL ρ t sYes f l g = .ok ys g' ∧ ys.length = l.length ∧ (∀ y ∈ ys, Q y) ∧ GI k g'
  | [], k, g, _, h => ⟨[], g, rfl, rfl, (fun _ h => nomatch h), h⟩
  | d :: l, k, g, hs, h => by
    obtain ⟨ρ', y, g1, h1, h2, h3, h4⟩ := hs d List.mem_cons_self (k + c * l.length) g (by rw [List.length_cons, Nat.mul_succ] at h; rw [Nat.add_assoc]; exact h)
    obtain ⟨ys, g2, e1, e2, e3, e4⟩ := lc_draw c Q l k g1 (fun x hx => hs x (List.mem_cons_of_mem _ hx)) h3
    refine ⟨y :: ys, g2, ?_, by rw [List.length_cons, List.length_cons, e2], fun z hz => ?_, e4⟩
    · rw [sLcL, m_bind, h1, m_opt, rb_ok, m_bind, nox_ok (show sYes ρ' g = .ok true g from rfl), rb_ok, if_pos rfl, m_bind, nox_ok h2, rb_ok, m_bind, e1]
      rfl
    · rcases List.mem_cons.mp hz with rfl | hz
      · exact h4
      · exact e3 z hz
end
/-! ### for -/
theorem rangeL_len (lo : Int) (n : Nat) : (rangeL lo n).length = n := by unfold rangeL; rw [List.length_map, List.length_range]
/-! ### isinstance -/
def kindsB : List String := ["NoneType", "bool", "int", "str", "tuple", "list", "dict"]
def isK (t n : String) : Bool := t == n || (t == "bool" && n == "int")
theorem kit_all : ∀ t ∈ kindsB, ∀ n ∈ ["int", "bool", "tuple", "list", "str", "dict"], kitB t n = some (isK t n) := by decide +kernel
theorem isi_ty {sub : Str → Str → Option Bool} {cls : Str → Bool} {d : D} {t n : String} (h : tyN d = some t) (hn : n ∈ ["int", "bool", "tuple", "list", "str", "dict"]) : fIsi sub cls [d, .ty n] = some (.bl (isK t n)) := by
  have hk := kit_all t (tyN_mem h) n hn
  have e : fIsi sub cls [d, .ty n] = (match tyN d with | some t => (kitB t n).map D.bl | none => none) := by
    cases d with
    | exc c f l => cases l <;> rfl
    | _ => rfl
  rw [e, h]
  show (kitB t n).map D.bl = _
  rw [hk]
  rfl
def isInt : D → Bool
  | .int _ => true
  | _ => false
def isTup : D → Bool
  | .tup _ => true
  | _ => false
/-- of a plain kind -/
def plain (d : D) : Prop := (tyN d).isSome = true
theorem plain_ty {d : D} (h : plain d) : ∃ t, tyN d = some t := Option.isSome_iff_exists.mp h
theorem isi_int {sub : Str → Str → Option Bool} {cls : Str → Bool} {d : D} (h : plain d) : fIsi sub cls [d, .ty "int"] = some (.bl (isInt d || match d with | .bl _ => true | _ => false)) := by
  obtain ⟨t, ht⟩ := plain_ty h
  rw [isi_ty ht (by simp)]
  cases d <;> simp only [tyN, reduceCtorEq, Option.some.injEq] at ht <;> subst ht <;> rfl
theorem isi_bool {sub : Str → Str → Option Bool} {cls : Str → Bool} {d : D} (h : plain d) : fIsi sub cls [d, .ty "bool"] = some (.bl (match d with | .bl _ => true | _ => false)) := by
  obtain ⟨t, ht⟩ := plain_ty h
  rw [isi_ty ht (by simp)]
  cases d <;> simp only [tyN, reduceCtorEq, Option.some.injEq] at ht <;> subst ht <;> rfl
theorem isi_tup {sub : Str → Str → Option Bool} {cls : Str → Bool} {d : D} (h : plain d) : fIsi sub cls [d, .ty "tuple"] = some (.bl (isTup d)) := by
  obtain ⟨t, ht⟩ := plain_ty h
  rw [isi_ty ht (by simp)]
  cases d <;> simp only [tyN, reduceCtorEq, Option.some.injEq] at ht <;> subst ht <;> rfl
theorem rep_tup {v : D} {k : Int} (h0 : 0 ≤ k) (h1 : k ≤ 1000) : dMul (.tup [v]) (.int k) = some (.tup (List.replicate k.toNat v)) := by
  unfold dMul
  dsimp only
  rw [if_pos ⟨by omega, h1, (by show 1 ≤ 1000; decide), fun h => by cases h⟩]
  have e : ∀ n : Nat, (List.replicate n [v]).flatten = List.replicate n v := fun n => by
    induction n with
    | zero => rfl
    | succ n ih => rw [List.replicate_succ, List.flatten_cons, ih, List.replicate_succ]; rfl
  rw [e]
/-! ### sorted numbers -/
/-! ### texts compared -/
theorem dNe_str_self (x : Str) : dNe (.str x) (.str x) = some (.bl false) := by
  show (some (decide (x = x))).map (fun c => D.bl (!c)) = _
  rw [decide_eq_true rfl]
  rfl
end DL
end
section
set_option Elab.async false
set_option linter.all false
set_option maxRecDepth 100000
set_option maxHeartbeats 2000000
/-! The value layer, part 24: methods of one's own lists: append, pop, extend, clear, reverse. -/
namespace DL
open PySem PySem.Spec PyProof.Rows L2

/-- one's own list -/
def ownL (ρ : Env) (i : Nat) : Option (List D) := match ρ[i]? with
  | some (some (true, .lst l)) => some l
  | _ => none
theorem ownL_some {ρ : Env} {i : Nat} {l : List D} (h : ownL ρ i = some l) : ρ[i]? = some (some (true, .lst l)) := by
  unfold ownL at h
  split at h
  · rename_i l' q
    cases h
    exact q
  · cases h
/-- a value, perhaps with lists of one's own changed -/
abbrev Em := Env → M (Env × D)
def mPure (f : Ep) : Em := fun ρ => do let d ← f ρ; M.pure (ρ, d)
abbrev Ems := Env → M (Env × List D)
def mNil : Ems := fun ρ => M.pure (ρ, [])
def mCons (f : Em) (h : Ems) : Ems := fun ρ => do
  let (ρ1, d) ← f ρ
  let (ρ2, ds) ← h ρ1
  M.pure (ρ2, d :: ds)
def tM (X : Cx) (n : En) (f : Em) : TE := fun σ H Q => ∃ ρ g Mu, SOk X.K X.mg n.z n.p Mu H σ ρ g ∧
  (f ρ g).all (fun x g' => ∀ v H' Mu', SOk X.K X.mg n.z n.p Mu' H' σ x.1 g' → Rep X.K X.mg n.z Mu' H' v x.2 → Q v H') (EW X n)
abbrev ME (X : Cx) (n : En) (e : Expr) (f : Em) : Prop := PE X e (tM X n f)
/-- what a method of lists does: the list, the arguments; the list then, the result -/
def LMeth (r : V → List V → Hp → VK → Prop) (h : List D → List D → Option (List D × D)) : Prop :=
  ∀ (K : PySem.W.Frag) (mg : Str → Option Value) (z : Zt) (Mu : List Addr) (H : Hp) (a : Addr) (xs : List V) (ds : List D) (vs : List V) (es ds' : List D) (d : D), H a = some (.lst xs) → Reps K mg z Mu H xs ds → Reps K mg z Mu H vs es → h ds es = some (ds', d) →
    ∃ xs' v, Reps K mg z Mu H xs' ds' ∧ Rep K mg z Mu H v d ∧ ∀ Q : VK, Q v (upd H a (.lst xs')) → r (.ref a) vs H Q
def hAppend : List D → List D → Option (List D × D)
  | l, [d] => if l.length < sizeLine then some (l ++ [d], .non) else none
  | _, _ => none
theorem lm_append : LMeth rAppend hAppend := by
  intro K mg z Mu H a xs ds vs es ds' d hH rx rv h
  match es, rv, h with
  | [d0], rv, h =>
    obtain ⟨hl, h⟩ := opt_if h
    cases h
    cases rv with
    | cons r t =>
      cases t
      exact ⟨_, .non, rx.append (.one r), .non, fun Q q => ⟨a, xs, _, rfl, rfl, hH, by rw [rx.length]; exact hl, q⟩⟩
def hPop : List D → List D → Option (List D × D)
  | l, [.int i] => if -(2 ^ 63) ≤ i ∧ i < 2 ^ 63 then (match ixN l.length i with
    | some k => match l[k]? with
      | some d => some (l.eraseIdx k, d)
      | none => none
    | none => none) else none
  | _, _ => none
theorem Reps.eraseIdx {K : PySem.W.Frag} {mg : Str → Option Value} {z : Zt} {Mu : List Addr} {H : Hp} : ∀ {xs : List V} {ds : List D} (i : Nat), Reps K mg z Mu H xs ds → Reps K mg z Mu H (xs.eraseIdx i) (ds.eraseIdx i)
  | _, _, _, .nil => .nil
  | _, _, 0, .cons _ t => t
  | _, _, i + 1, .cons r t => .cons r (Reps.eraseIdx i t)
theorem opt_if' {α : Type} {c : Prop} [Decidable c] {a : Option α} {b : α} (h : (if c then a else none) = some b) : c ∧ a = some b := by
  split at h
  · exact ⟨by assumption, h⟩
  · cases h
theorem lm_pop : LMeth rPopAt hPop := by
  intro K mg z Mu H a xs ds vs es ds' d hH rx rv h
  match es, rv, h with
  | [.int i], rv, h =>
    obtain ⟨⟨h1, h2⟩, h⟩ := opt_if' h
    cases q : ixN ds.length i with
    | none => rw [q] at h; cases h
    | some k =>
      rw [q] at h
      dsimp only at h
      cases q2 : ds[k]? with
      | none => rw [q2] at h; cases h
      | some y =>
        rw [q2] at h
        cases h
        obtain ⟨v, hv, ry⟩ := rx.get' q2
        cases rv with
        | cons r t =>
          cases t
          cases r
          exact ⟨_, v, rx.eraseIdx k, ry, fun Q q' => ⟨a, xs, i, k, v, rfl, rfl, hH, h1, h2, by rw [rx.length]; exact (ixN_seq q).1, hv, q'⟩⟩
section
variable {X : Cx} {n : En} {e a : Expr} {f : Em} {fp : Ep} {i j : Nat} {s : Str} {p1 p2 p3 pos : Pos}
theorem me_of (h : DE X n.z n.W .sh e fp) : ME X n e (mPure fp) := by
  refine ⟨fun pins s σ H Q I ⟨ρ, g, Mu, S, hx⟩ => ?_⟩
  refine h.run pins s σ H Q I ⟨ρ, g, Mu, S.env, S.g, R.all_imp (EW.x S (R.all_bind hx)) (fun d g1 hx v H1 e1 G2 k1 => ?_) fun _ _ _ _ h => h⟩
  exact hx v H1 Mu (S.step e1 G2) k1
def eMeth (i : Nat) (h : List D → List D → Option (List D × D)) (fs : Ems) : Em := fun ρ => do
  let _ ← ofOpt (ownL ρ i)
  let (ρ1, ds) ← fs ρ
  let l ← ofOpt (ownL ρ1 i)
  let (l1, d) ← ofOpt (h l ds)
  M.pure (ρ1.set i (some (true, .lst l1)), d)
/-- a method is run -/
theorem SOk.meth {r : V → List V → Hp → VK → Prop} {h : List D → List D → Option (List D × D)} (hm : LMeth r h) {Mu : List Addr} {H : Hp} {σ : L2.St} {ρ : Env} {g : G} {b : Addr} {vs : List V} {l ds l1 : List D} {d : D} {Q : VK} (S : SOk X.K X.mg n.z n.p Mu H σ ρ g) (ho : ownL ρ i = some l) (hs : σ[i]? = some (some (.ref b)))
    (rv : Reps X.K X.mg n.z Mu H vs ds) (hd : h l ds = some (l1, d)) (q : ∀ v H' Mu', SOk X.K X.mg n.z n.p Mu' H' σ (ρ.set i (some (true, .lst l1))) g → Rep X.K X.mg n.z Mu' H' v d → Q v H') : r (.ref b) vs H Q := by
  have hi := ownL_some ho
  obtain ⟨w, q1, a', ev, ha, np, nl, nc, c⟩ := S.env.val i true _ hi
  rw [hs] at q1
  cases q1
  cases ev
  cases c with
  | lst hH rx =>
    obtain ⟨xs', v, r1, r2, hr⟩ := hm _ _ _ _ _ _ _ _ _ _ _ _ hH rx rv hd
    have em : ExtM Mu H (upd H b (.lst xs')) := fun c u hu _ hn => by rw [upd_ne (fun w : c = b => hn (w ▸ ha))]; exact hu
    refine hr Q (q v _ Mu (S.write (o := .lst xs') (fun q w => by rw [hH] at w; cases w) trivial hi hs (.lst upd_same (r1.mono em fun _ _ h => h))) (r2.mono em fun _ _ h => h))
theorem ownL_at {Mu : List Addr} {H : Hp} {σ : L2.St} {ρ : Env} {g : G} {l : List D} (S : SOk X.K X.mg n.z n.p Mu H σ ρ g) (ho : ownL ρ i = some l) : ∃ b xs, σ[i]? = some (some (.ref b)) ∧ H b = some (.lst xs) := by
  obtain ⟨w, q1, a', rfl, ha, np, nl, nc, c⟩ := S.env.val i true _ (ownL_some ho)
  cases c with
  | lst hH rx => exact ⟨a', _, q1, hH⟩
/-- x.m(a) -/
theorem me_meth1 {name : Str} {id : String} {r : V → List V → Hp → VK → Prop} {h : List D → List D → Option (List D × D)} (slot : Slot "list" name id) (hty : typeOf (.builtin id) = pure (.type "method_descriptor")) (mt : MtR X id r) (hm : LMeth r h) (hv : PE X (.Name s p1) (tVar i)) (ha : ME X n a f)
    (hbase : attributeBase (.Name s p1) name X.env (eval (.Name s p1) X.env) = eval (.Name s p1) X.env := by rfl)
    (hfew : ((backTo pos (starEach [a] X.env)).all (fun x => !x.1) && (backToKw pos (keywordEach [] X.env)).all (fun x => x.1.isSome)
      && decide ([a].length + ([] : List Keyword).length + (if ([] : List Keyword).isEmpty then 0 else 1) < 30)) = true := by rfl) (hline : (p3.endLine == pos.line) = true := by rfl) (hs : starEach [a] X.env = (false, eval a X.env) :: starEach [] X.env := by rfl) (hplain : (backTo pos (starEach [] X.env)).any (·.1) = false := by rfl) :
    ME X n (.Call (.Attribute (.Name s p1) name p3) [a] [] pos) (eMeth i h (mCons f mNil)) := by
  refine ⟨fun pins s σ H Q I ⟨ρ, g, Mu, S, hx⟩ => ?_⟩
  obtain ⟨l0, ho, hx⟩ := R.all_opt (R.all_bind hx)
  have hx := R.all_bind (R.all_bind hx)
  obtain ⟨b, xs, hb, hH⟩ := ownL_at S ho
  refine (pe_bm PySem.F.plainAttrs_list slot hty mt hv (pa_cons ha pa_nil hs) hbase hfew hline hs hplain).run pins s σ H Q I ⟨.ref b, hb, .inl ⟨rfl, _, SqL.of hH⟩, ρ, g, Mu, S, R.all_imp hx (fun x g1 hx v H1 Mu1 S1 r1 => ?_) fun _ _ _ _ h => h⟩
  obtain ⟨l, ho2, hx⟩ := R.all_opt (R.all_bind hx)
  obtain ⟨⟨l1, d⟩, hd, hx⟩ := R.all_opt (R.all_bind hx)
  exact S1.meth hm ho2 hb (.one r1) hd hx
def sExprM (f : Em) : Ss := fun ρ => do let (ρ1, _) ← f ρ; M.pure (.nx ρ1)
theorem ds_exprM (h : ME X n e f) (hs : swapsWith e none pos.line X.env = pure false := by rfl) : DS X n (.Expr e pos) (sExprM f) := by
  refine ⟨fun pins s σ H D I ⟨ρ, g, Mu, S, hx⟩ => ?_⟩
  refine wpAny_Expr_any (thn (h.run pins s σ H (fun _ H1 => D.nx σ H1) I ⟨ρ, g, Mu, S, R.all_imp (R.all_bind hx) (fun x g1 hx v H1 Mu1 S1 r1 => hx σ H1 Mu1 S1) fun _ _ _ _ h => h⟩) fun u s1 ⟨v, H1, I1, r1, q⟩ => ?_) I.quiet hs
  exact ⟨σ, H1, I1, q⟩
def sSetM (i : Nat) (f : Em) : Ss := fun ρ => do let (ρ1, d) ← f ρ; M.pure (.nx (ρ1.set i (some (false, d))))
end
end DL
end
section
set_option Elab.async false
set_option linter.all false
set_option maxRecDepth 100000
set_option maxHeartbeats 2000000
/-! The value layer, part 25: list(range(..)), tuple(range(..)), x[i] = e of one's own list, max and min of a list, walks by zip and enumerate. -/
namespace DL
open PySem PySem.Spec PyProof.Rows L2

/-! ### ranges made lists, tuples -/
abbrev Er := Env → M (Int × Int)
def tRg (X : Cx) (z : Zt) (W : WX) (f : Er) : L2.St → Hp → (Int → Int → Hp → Prop) → Prop := fun σ H Q => ∃ ρ g Mu, EnvOk X.K X.mg z Mu H σ ρ ∧ GOk z H g ∧
  (f ρ g).all (fun p g' => ∀ H', Ext z H H' → GOk z H' g' → Q p.1 p.2 H') (XW X z W Mu σ H)
abbrev DRg (X : Cx) (z : Zt) (W : WX) (e : Expr) (f : Er) : Prop := PRg X e (tRg X z W f)
def gInt : D → M Int
  | .int i => M.pure i
  | _ => stuck
theorem all_gInt {d : D} {P : Int → G → Prop} {E : Str → Str → List D → G → Prop} {g : G} (h : (gInt d g).all P E) : ∃ i, d = .int i ∧ P i g := by
  cases d <;> first | exact h.elim | exact ⟨_, rfl, h⟩
def eRg1 (f : Ep) : Er := fun ρ => do let d ← f ρ; let n ← gInt d; M.pure (0, n)
def eRg2 (f h : Ep) : Er := fun ρ => do let d ← f ρ; let d' ← h ρ; let i ← gInt d; let j ← gInt d'; M.pure (i, j)
instance (a b : Int) : Decidable (RgOk a b) := by unfold RgOk; infer_instance
def eLstRg (f : Er) : Ep := fun ρ => do let p ← f ρ; ofOpt (if RgOk p.1 p.2 then some (.lst (rangeL p.1 (p.2 - p.1).toNat)) else none)
def eTupRg (f : Er) : Ep := fun ρ => do let p ← f ρ; ofOpt (if RgOk p.1 p.2 then some (.tup (rangeL p.1 (p.2 - p.1).toNat)) else none)
theorem reps_rg {K : PySem.W.Frag} {mg : Str → Option Value} {z : Zt} {Mu : List Addr} {H : Hp} (a b : Int) : Reps K mg z Mu H (rgV a b) (rangeL a (b - a).toNat) := by
  unfold rgV rangeL
  induction List.range (b - a).toNat with
  | nil => exact .nil
  | cons i l ih => exact .cons (.int _) ih
section
variable {X : Cx} {z : Zt} {W : WX} {k ka kb : Kd} {e a b : Expr} {f fa fb : Ep} {fr : Er} {p pos : Pos}
theorem drg_2 (hg : Gl X "range") (hm : X.mg "range" = none) (ha : DE X z W ka a fa) (hb : DE X z W kb b fb) (hs : starEach [a, b] X.env = (false, eval a X.env) :: starEach [b] X.env := by rfl) (hs' : starEach [b] X.env = (false, eval b X.env) :: starEach [] X.env := by rfl)
    (hp : (backTo pos (starEach [b] X.env)).any (·.1) = false := by rfl) : DRg X z W (.Call (.Name "range" p) [a, b] [] pos) (eRg2 fa fb) := by
  intro pins s σ H Q I ⟨ρ, g, Mu, E, G1, hx⟩
  refine prg_2 hg hm ha hb hs hs' hp pins s σ H Q I ⟨ρ, g, Mu, E, G1, R.all_imp (R.all_bind hx) (fun d g1 hx v H1 e1 G2 k1 => ?_) fun _ _ _ _ h => h⟩
  have E1 := E.ext G1 e1 G2
  refine ⟨ρ, g1, Mu, E1, G2, R.all_imp (Raising.all (R.all_bind hx) e1) (fun d' g2 hx v' H2 e2 G3 k2 => ?_) fun _ _ _ _ h => h⟩
  obtain ⟨i, rfl, hx⟩ := all_gInt (R.all_bind hx)
  obtain ⟨j, rfl, hx⟩ := all_gInt (R.all_bind hx)
  exact ⟨i, j, (k1.peek E.mu E1.mu G2).int, (k2.peek E1.mu (E1.mu.ext (g := g1) e2 G3) G3).int, hx H2 (e1.trans e2) G3⟩
theorem de_listRg (hX : XG X) (hg : Gl X "list") (hm : X.mg "list" = none) (he : DRg X z W e fr) (hs : starEach [e] X.env = (false, eval e X.env) :: starEach [] X.env := by rfl) : DE X z W .new (.Call (.Name "list" p) [e] [] pos) (eLstRg fr) := by
  refine de_of (pe_listRg hX.calm hg hm he hs) fun σ H ρ g Mu Q E G1 hx => ?_
  refine ⟨ρ, g, Mu, E, G1, R.all_imp (R.all_bind hx) (fun p g1 hx H1 e1 G2 => ?_) fun _ _ _ _ h => h⟩
  obtain ⟨d, hd, hx⟩ := R.all_opt hx
  obtain ⟨ok, rfl⟩ := opt_if hd
  have m1 := E.mu.ext (g := g) e1 G2
  exact ⟨ok, fun q hq => hx _ _ (e1.trans (Ext.of (same_upd' hq))) (G2.same (same_upd' hq)) ((RK.lst m1 G2 hq (reps_rg _ _)).back e1 G2)⟩
/-! ### the greatest, the least of a list -/
def greatest : List Int → Option Int
  | [] => none
  | n :: l => some (l.foldl (fun a b => if b > a then b else a) n)
theorem fold_max : ∀ (l : List Int) (n : Int), (l.foldl (fun a b => if b > a then b else a) n) ∈ n :: l ∧ ∀ y ∈ n :: l, y ≤ l.foldl (fun a b => if b > a then b else a) n
  | [], n => ⟨List.mem_cons_self, fun y hy => by rcases List.mem_cons.mp hy with rfl | h; exact Int.le_refl _; cases h⟩
  | m :: l, n => by
    rw [List.foldl_cons]
    obtain ⟨h1, h2⟩ := fold_max l (if m > n then m else n)
    refine ⟨?_, fun y hy => ?_⟩
    · rcases List.mem_cons.mp h1 with h | h
      · rw [h]
        split
        · exact List.mem_cons_of_mem _ List.mem_cons_self
        · exact List.mem_cons_self
      · exact List.mem_cons_of_mem _ (List.mem_cons_of_mem _ h)
    · have hh := h2 _ List.mem_cons_self
      rcases List.mem_cons.mp hy with rfl | hy
      · refine Int.le_trans ?_ hh
        split <;> omega
      · rcases List.mem_cons.mp hy with rfl | hy
        · refine Int.le_trans ?_ hh
          split <;> omega
        · exact h2 y (List.mem_cons_of_mem _ hy)
def fMax1 : List D → Option D
  | [.lst l] => ((intsOf l).bind greatest).map D.int
  | _ => none
theorem call_max1' (hX : XG X) : DCall X z .new (.builtin "max") fMax1 := by
  intro pins s σ H Mu g xs us ds d Q I m G1 r ks hd q
  unfold fMax1 at hd
  split at hd
  · obtain ⟨w, h1, rfl⟩ := Option.map_eq_some_iff.mp hd
    obtain ⟨ns, h1, h2⟩ := Option.bind_eq_some_iff.mp h1
    have e := intsOf_eq h1
    subst e
    obtain ⟨v, rfl, p⟩ := ks.one
    obtain ⟨a, ys, rfl, hs, rs⟩ := p.lst
    have e := rs.unInts
    subst e
    cases ns with
    | nil => cases h2
    | cons n l =>
      cases h2
      obtain ⟨m1, m2⟩ := fold_max l n
      refine L2.cr_max hX.calm pins s σ H _ us Q I r ⟨a, n :: l, rfl, SqL.of hs, by rw [List.length_cons]; omega, fun m' hm' hall => ?_⟩
      have e : m' = l.foldl (fun a b => if b > a then b else a) n := Int.le_antisymm (m2 m' hm') (hall _ m1)
      rw [e]
      exact q _ H Same.refl RK.int
  · cases hd
end
/-! ### x[i] = e of one's own list -/
section
variable {X : Cx} {n : En} {ka kb : Kd} {a e : Expr} {fa fe : Ep} {i : Nat} {s : Str} {p1 p2 pos : Pos}
def sSetIx (i : Nat) (fa fe : Ep) : Ss := fun ρ => do
  let d ← fe ρ
  let l ← ofOpt (ownL ρ i)
  let x ← fa ρ
  let k ← gInt x
  let j ← ofOpt (ixN l.length k)
  M.pure (.nx (ρ.set i (some (true, .lst (l.set j d)))))
theorem ds_setIx (hv : PE X (.Name s p1) (tVar i)) (ha : DE X n.z n.W ka a fa) (he : DE X n.z n.W .sh e fe)
    (hsub : ∀ v, assign (.Subscript (.Name s p1) a p2) X.env v = (do
      let ov ← holding [v] (eval (.Name s p1) X.env)
      let iv ← holding [v, ov] (eval a X.env)
      standAt p2
      holding [v, ov, iv] (setItem ov iv v)
      release [v, ov, iv] []) := by intro _; rfl)
    (hs : swapsWithSole [.Subscript (.Name s p1) a p2] e pos.line X.env = pure false := by rfl) (hw : swappedStores [.Subscript (.Name s p1) a p2] e X.env = pure none := by rfl)
    (h1 : (assignEach [.Subscript (.Name s p1) a p2] X.env).map (·.2) = [assign (.Subscript (.Name s p1) a p2) X.env] := by rfl) : DS X n (.Assign [.Subscript (.Name s p1) a p2] e pos) (sSetIx i fa fe) := by
  refine ⟨fun pins s' σ H D I ⟨ρ, g, Mu, S, hx⟩ => ?_⟩
  refine (ps_asg he (pg_sub hv ha set_list hsub) hs hw h1).run pins s' σ H D I ⟨ρ, g, Mu, S.env, S.g, R.all_imp (EW.x S (R.all_bind hx)) (fun d g1 hx v H1 e1 G2 k1 => ?_) fun _ _ _ _ h => h⟩
  have S1 := S.step e1 G2
  obtain ⟨l, ho, hx⟩ := R.all_opt (R.all_bind hx)
  obtain ⟨b, xs, hb, hH⟩ := ownL_at S1 ho
  refine ⟨.ref b, hb, ρ, g1, Mu, S1.env, S1.g, R.all_imp (EW.x S1 (R.all_bind hx)) (fun x g2 hx w H2 e2 G3 k2 => ?_) fun _ _ _ _ h => h⟩
  have S2 := S1.step e2 G3
  obtain ⟨k, rfl, hx⟩ := all_gInt (R.all_bind hx)
  obtain ⟨j, hj, hx⟩ := R.all_opt (R.all_bind hx)
  have ew := (k2.peek S1.env.mu S2.env.mu G3).int
  subst ew
  have hi := ownL_some ho
  obtain ⟨w, q1, a', ev, hm, np, nl, nc, c⟩ := S2.env.val i true _ hi
  rw [hb] at q1
  cases q1
  cases ev
  have rv : Rep X.K X.mg n.z Mu H1 v d := k1
  have rv2 := rv.ext S1.env.mu S1.g e2
  cases c with
  | @lst ys _ hL rx =>
    have em : ExtM Mu H2 (upd H2 b (.lst (ys.set j v))) := fun c u hu _ hn => by rw [upd_ne (fun w : c = b => hn (w ▸ hm))]; exact hu
    exact ⟨b, _, k, j, rfl, rfl, hL, by rw [rx.length]; exact hj, hx σ _ Mu (S2.write (o := .lst (ys.set j v)) (fun q w => by rw [hL] at w; cases w) trivial hi hb (.lst upd_same ((Reps.set rv2 j rx).mono em fun _ _ h => h)))⟩
end
/-! ### zip, enumerate -/
section
def zipD (l m : List D) : List D := List.zipWith (fun x y => D.tup [x, y]) l m
variable {X : Cx} {z : Zt} {W : WX} {pk : Bool} {e a b : Expr} {fa fb : Ep} {p pos tpos : Pos} {elts : List Expr} {kk : Nat}
section
variable {P : Program} {w : World} {K : PySem.W.Frag} {tpos : Pos} {a b zz TI TO i1 i2 : Addr}
end
/-- enumerate of a list -/
def enumD (l : List D) : List D := l.zipIdx.map fun p => D.tup [.int (p.2 : Nat), p.1]
end
end DL
end
section
set_option Elab.async false
set_option linter.all false
set_option maxRecDepth 100000
set_option maxHeartbeats 2000000
/-! The value layer, part 26: starred items of displays, lists turned round. -/
namespace DL
open PySem PySem.Spec PyProof.Rows L2

section
variable {X : Cx} {z : Zt} {W : WX} {k : Kd} {e : Expr} {es : List Expr} {f : Ep} {h : Es} {p pos p1 p2 p3 : Pos}
end
end DL
end
section
set_option Elab.async false
set_option linter.all false
set_option maxRecDepth 100000
set_option maxHeartbeats 2000000
/-! The value layer, part 27: targets of two, of three names, told at once. -/
namespace DL
open PySem PySem.Spec PyProof.Rows L2
section
variable {X : Cx} {z : Zt} {x y w : Str} {p1 p2 p3 pos : Pos} {k : Nat}
theorem tg_names2 (K : PySem.W.Frag) (i j : Nat) (hK : X.K = K) (hc : X.calm = true) (hN : X.N.Nodup) (hi : X.N[i]? = some x) (hj : X.N[j]? = some y) (hx : Loc X.env.scope x) (hy : Loc X.env.scope y)
    (fx : X.fn x = true ∨ X.env.scope.names.lookup x = some .local) (fy : X.fn y = true ∨ X.env.scope.names.lookup y = some .local)
    (hs1 : (assignEach [.Name x p1, .Name y p2] X.env).map (·.2) = assign (.Name x p1) X.env :: (assignEach [.Name y p2] X.env).map (·.2) := by rfl) (hs2 : (assignEach [.Name y p2] X.env).map (·.2) = assign (.Name y p2) X.env :: (assignEach [] X.env).map (·.2) := by rfl)
    (hn : (assignEach [.Name x p1, .Name y p2] X.env).length = 2 := by rfl) (hst : (assignEach [.Name x p1, .Name y p2] X.env).findIdx? (·.1) = none := by rfl) :
    TgOk X z (.Tuple [.Name x p1, .Name y p2] k pos) (gTup K 2 (gCons (gName i) (gCons (gName j) gNil))) (gT (gCs (gN i) (gCs (gN j) gNl))) ([i] ++ ([j] ++ [])) :=
  hK ▸ tg_two hc (tg_name hN hi hx fx) (tg_name hN hj hy fy) hs1 hs2 hn hst
end
end DL
end
section
set_option Elab.async false
set_option linter.all false
set_option maxRecDepth 100000
set_option maxHeartbeats 2000000
/-! The value layer, part 28: how many unlike numbers a list has. -/
namespace DL
open PySem PySem.Spec PyProof.Rows L2
section
variable {X : Cx} {z : Zt} {W : WX} {k : Kd} {a : Expr} {f : Ep} {p p2 q pos : Pos}
end
end DL
end
section
set_option Elab.async false
set_option linter.all false
set_option maxRecDepth 100000
set_option maxHeartbeats 2000000
/-! The value layer, part 29: tuples turned round. -/
namespace DL
open PySem PySem.Spec PyProof.Rows L2
section
variable {prog : Program} {w : World} {A : Around} {E : Value → Shared → Prop} {s : Shared}
end
section
variable {X : Cx} {z : Zt} {W : WX} {k : Kd} {e : Expr} {f : Ep} {p1 p2 p3 pos : Pos} {m : Nat}
def dBack : D → Option D
  | .lst l => some (.lst l.reverse)
  | .tup l => some (.tup l.reverse)
  | _ => none
end
end DL
end
section
set_option Elab.async false
set_option linter.all false
set_option maxRecDepth 100000
set_option maxHeartbeats 2000000
/-! The value layer, part 30: towards set comprehensions: a set that no longer grows; the reading. -/
namespace DL
open PySem PySem.Spec PyProof.Rows L2
/-- the numbers that are unlike, as they come -/
def addNew (acc : List Int) (k : Int) : List Int := if k ∈ acc then acc else acc ++ [k]
def unlikeL (l : List Int) : List Int := l.foldl addNew []
theorem addNew_nodup {acc : List Int} {k : Int} (h : acc.Nodup) : (addNew acc k).Nodup := by
  unfold addNew
  split
  · exact h
  · rename_i hk
    refine List.nodup_append.mpr ⟨h, by simp, fun a ha b hb e => ?_⟩
    rw [List.mem_singleton] at hb
    subst hb e
    exact hk ha
theorem mem_addNew {acc : List Int} {k i : Int} : i ∈ addNew acc k ↔ i ∈ acc ∨ i = k := by
  unfold addNew
  split
  · rename_i hk
    constructor
    · exact .inl
    · rintro (h | rfl)
      · exact h
      · exact hk
  · rw [List.mem_append, List.mem_singleton]
theorem len_addNew {acc : List Int} {k : Int} : (addNew acc k).length = if k ∈ acc then acc.length else acc.length + 1 := by
  unfold addNew
  split <;> simp
end DL
end
section
set_option Elab.async false
set_option linter.all false
set_option maxRecDepth 100000
set_option maxHeartbeats 2000000
/-! The value layer, part 31: set comprehensions of numbers. -/
namespace DL
open PySem PySem.Spec PyProof.Rows L2
section
variable {X : Cx}
end
end DL
end
section
set_option Elab.async false
set_option linter.all false
set_option maxRecDepth 100000
set_option maxHeartbeats 2000000
/-! The value layer, part 32: set comprehensions of numbers read; sorted of them. -/
namespace DL
open PySem PySem.Spec PyProof.Rows L2
/-- a number, else no place here -/
def eInt (f : Ep) : Ep := fun ρ => do
  let d ← f ρ
  match d with
  | .int i => M.pure (.int i)
  | _ => stuck
/-- the numbers that a set comprehension meets -/
def sScL (it : Es) (t : D → Env → Option Env) (tt : Et) (f : Ep) (vs : List Nat) : Env → M (List Int) := fun ρ => do
  let ds ← it ρ
  let _ ← ofOpt (if ds.length ≤ 1000 then some () else none)
  let r ← sLcL (wipeE ρ vs) t tt (eInt f) ds
  ofOpt (intsOf r)
def eScI (it : Es) (t : D → Env → Option Env) (tt : Et) (f : Ep) (vs : List Nat) : Ep := fun ρ => do
  let ns ← sScL it t tt f vs ρ
  M.pure (.set ((unlikeL ns).map D.int))
theorem unlikeL_nodup (l : List Int) : (unlikeL l).Nodup := by
  have key : ∀ (l acc : List Int), acc.Nodup → (l.foldl addNew acc).Nodup := by
    intro l
    induction l with
    | nil => exact fun _ h => h
    | cons k l ih => exact fun acc h => ih _ (addNew_nodup h)
  exact key l [] List.nodup_nil
theorem mem_unlikeL {l : List Int} {i : Int} : i ∈ unlikeL l ↔ i ∈ l := by
  have key : ∀ (l acc : List Int), i ∈ l.foldl addNew acc ↔ i ∈ acc ∨ i ∈ l := by
    intro l
    induction l with
    | nil => intro acc; simp
    | cons k l ih =>
      intro acc
      rw [List.foldl_cons, ih, mem_addNew, List.mem_cons, or_assoc]
  have := key l []
  simpa [unlikeL] using this
theorem unlikeL_len (l : List Int) : (unlikeL l).length ≤ l.length := by
  have key : ∀ (l acc : List Int), (l.foldl addNew acc).length ≤ acc.length + l.length := by
    intro l
    induction l with
    | nil => intro acc; simp
    | cons k l ih =>
      intro acc
      rw [List.foldl_cons, List.length_cons]
      refine Nat.le_trans (ih _) ?_
      rw [len_addNew]
      split <;> omega
  have := key l []
  simpa [unlikeL] using this
section
variable {X : Cx} {z : Zt} {W : WX} {elt tg iter c : Expr} {ifs : List Expr} {scope : Scope} {own : List (Str × Nat)} {pos : Pos} {it : Es} {gt : TG} {t : D → Env → Option Env} {is : List Nat} {tt : Et} {f : Ep}
/-- the numbers in a row, each once -/
def riseL (ns : List Int) : List Int := (unlikeL ns).mergeSort (fun a b => decide (a ≤ b))
theorem riseL_pair (ns : List Int) : (riseL ns).Pairwise (· < ·) := by
  have h1 : (riseL ns).Pairwise (fun a b => decide (a ≤ b) = true) := List.pairwise_mergeSort (fun a b c h1 h2 => by simp only [decide_eq_true_eq] at *; omega) (fun a b => by simp only [Bool.or_eq_true, decide_eq_true_eq]; omega) _
  have h2 : (riseL ns).Nodup := (List.mergeSort_perm _ _).nodup_iff.mpr (unlikeL_nodup ns)
  have h3 := h1.and h2
  exact h3.imp fun {a b} ⟨h, n⟩ => by
    simp only [decide_eq_true_eq] at h
    omega
theorem mem_riseL {ns : List Int} {k : Int} : k ∈ riseL ns ↔ k ∈ ns := by
  unfold riseL
  rw [(List.mergeSort_perm _ _).mem_iff, mem_unlikeL]
/-- what rises and has the same members is the same -/
theorem rise_eq : ∀ {l m : List Int}, l.Pairwise (· < ·) → m.Pairwise (· < ·) → (∀ k, k ∈ l ↔ k ∈ m) → l = m
  | [], [], _, _, _ => rfl
  | [], b :: m, _, _, h => absurd ((h b).mpr List.mem_cons_self) (by simp)
  | a :: l, [], _, _, h => absurd ((h a).mp List.mem_cons_self) (by simp)
  | a :: l, b :: m, h1, h2, h => by
    rw [List.pairwise_cons] at h1 h2
    have ab : a = b := by
      rcases List.mem_cons.mp ((h a).mp List.mem_cons_self) with e | e
      · exact e
      · rcases List.mem_cons.mp ((h b).mpr List.mem_cons_self) with e' | e'
        · exact e'.symm
        · have := h1.1 b e'
          have := h2.1 a e
          omega
    subst ab
    rw [rise_eq h1.2 h2.2 fun k => ?_]
    have := h k
    simp only [List.mem_cons] at this
    constructor
    · intro hk
      rcases this.mp (.inr hk) with e | e
      · subst e
        exact absurd (h1.1 _ hk) (by omega)
      · exact e
    · intro hk
      rcases this.mpr (.inr hk) with e | e
      · subst e
        exact absurd (h2.1 _ hk) (by omega)
      · exact e
end
end DL
end
section
set_option Elab.async false
set_option linter.all false
set_option maxRecDepth 100000
set_option maxHeartbeats 2000000
/-! The value layer, part 33: list(zip(a, b)) of two lists. -/
namespace DL
open PySem PySem.Spec PyProof.Rows L2
section
variable {prog : Program} {w : World} {A : Around} {E : Value → Shared → Prop} {s : Shared}
/-- a zip of two lists, at its i-th turn, what it gave being kept -/
structure ZSt (z TI TO i1 i2 l1 l2 S : Addr) (xs ys : Array Value) (i : Nat) (h : Heap) : Prop where
  ti : IsPair h TI (.ref i1) (.ref i2)
  a1 : h.IsListIter i1 l1 i
  a2 : h.IsListIter i2 l2 i
  b1 : h.IsList l1 xs
  b2 : h.IsList l2 ys
  zo : (IsZip h z TI TO .none ∧ ∃ a b, IsPair h TO a b) ∨ ∃ T f oT, IsZipHeld h z TI TO T f ∧ h.get? T = some oT ∧ T ≠ z ∧ T ≠ i1 ∧ T ≠ i2 ∧ T ≠ S
structure ZOff (z TI TO i1 i2 l1 l2 S B : Addr) : Prop where
  ap : ZipApart z TI TO i1 i2 l1 l2
  sz : S ≠ z
  sTI : S ≠ TI
  sTO : S ≠ TO
  s1 : S ≠ i1
  s2 : S ≠ i2
  sl1 : S ≠ l1
  sl2 : S ≠ l2
  bz : z < B
  bTO : TO < B
  b1 : i1 < B
  b2 : i2 < B
  bS : S < B
theorem ZSt.keep {z TI TO i1 i2 l1 l2 S : Addr} {xs ys : Array Value} {i : Nat} {h h' : Heap} (st : ZSt z TI TO i1 i2 l1 l2 S xs ys i h) {B : Addr} (O : ZOff z TI TO i1 i2 l1 l2 S B) (k : ∀ b o, b ≠ S → h.get? b = some o → h'.get? b = some o) : ZSt z TI TO i1 i2 l1 l2 S xs ys i h' := by
  obtain ⟨h1, h2, h3, h4, h5, h6⟩ := st
  refine ⟨k _ _ (Ne.symm O.sTI) h1, h2.at fun o e => k _ o (Ne.symm O.s1) e, h3.at fun o e => k _ o (Ne.symm O.s2) e, h4.at fun o e => k _ o (Ne.symm O.sl1) e, h5.at fun o e => k _ o (Ne.symm O.sl2) e, ?_⟩
  rcases h6 with ⟨hz, a, b, hTO⟩ | ⟨T, f, oT, hz, hT, r1, r2, r3, r4⟩
  · exact .inl ⟨k _ _ (Ne.symm O.sz) hz, a, b, k _ _ (Ne.symm O.sTO) hTO⟩
  · exact .inr ⟨T, f, oT, k _ _ (Ne.symm O.sz) hz, k _ _ r4 hT, r1, r2, r3, r4⟩
end

def fZipL : List D → Option D
  | [.lst a, .lst b] => some (.lst ((a.zip b).map fun p => .tup [p.1, p.2]))
  | _ => none
section
variable {X : Cx} {z : Zt} {W : WX} {a b : Expr} {fs : Es} {p p2 q pos : Pos}
theorem RK.box {K : PySem.W.Frag} {mg : Str → Option Value} {Mu : List Addr} {H H' : Hp} {v : V} {d : D} (h : d.box = true) (c : ∃ a, v = .ref a ∧ ¬ Oc H a ∧ Cont K mg z (a :: Mu) H' a d) : RK K mg z .new H Mu H' v d := by
  unfold RK
  rw [if_pos h]
  exact c
end
end DL
end
section
set_option Elab.async false
set_option linter.all false
set_option maxRecDepth 100000
set_option maxHeartbeats 2000000
/-! The value layer, part 34: enumerate of lists and tuples. -/
namespace DL
open PySem PySem.Spec PyProof.Rows L2
open PySem (Meets)
def sEnumU (f : Ep) : Es := fun ρ => do
  let d ← f ρ
  match d with
  | .lst l => M.pure (enumD l)
  | .tup l => M.pure (enumD l)
  | _ => stuck
section
variable {X : Cx} {z : Zt} {W : WX} {pk : Bool} {a : Expr} {fa : Ep} {p pos tpos : Pos} {elts : List Expr} {kk : Nat}
end
end DL
end
section
set_option Elab.async false
set_option linter.all false
set_option maxRecDepth 100000
set_option maxHeartbeats 2000000
/-! The value layer, part 35: y = {..} on one line; max, min of lists and tuples. -/
namespace DL
open PySem PySem.Spec PyProof.Rows L2
section
variable {X : Cx} {elt tg iter c : Expr} {ifs : List Expr} {scope : Scope} {own : List (Str × Nat)} {pos : Pos} {it : Es} {gt : TG} {t : D → Env → Option Env} {is : List Nat} {tt : Et} {f : Ep}
end
/-! ### the greatest, the least -/
section
variable {prog : Program} {w : World} {A : Around} {E : Value → Shared → Prop} {s : Shared} {l : Addr} {its : List Value} {ns : List Int}
theorem iter_tup {xs : Array Value} {Q : Value → Shared → Prop} (ht : s.heap.IsTuple l xs)
    (q : ∀ s₂, s₂ = { s with heap := s.heap.push { cls := .type "tuple_iterator", data := .fields #[.ref l, .int 0 0] } } → s₂.heap.IsTupleIter s.heap.objs.size l 0 ∧ s₂.heap.IsTuple l xs → (∀ b ∈ [s.heap.objs.size, l], b < s₂.heap.objs.size) → l ≠ s.heap.objs.size → Q (.ref s.heap.objs.size) s₂) :
    wpAny (model prog w) A (pyIter (.ref l)) Q E s := by
  have lt : l < s.heap.objs.size := by
    obtain ⟨o, ho, _⟩ := id ht
    exact Heap.lt_size ho
  refine wpAny_pyIter_tuple ht (q _ rfl ⟨⟨_, Heap.get?_push_size _ rfl, rfl, rfl⟩, ht.push _⟩ (fun b hb => ?_) (Nat.ne_of_lt lt))
  show b < (s.heap.push _).objs.size
  rw [Heap.size_push]
  rcases List.mem_cons.mp hb with e | e
  · rw [e]; exact Nat.lt_succ_self _
  · rw [List.mem_singleton.mp e]; exact Nat.lt_succ_of_lt lt
theorem maxT_raw (hh : A.handled = none) (ht : s.heap.IsTuple l its.toArray) (hi : IntsAre its ns) (hne : 0 < ns.length) {Q : Value → Shared → Prop}
    (q : ∀ h' tk M t', (∀ b o, s.heap.get? b = some o → h'.get? b = some o) → M ∈ ns → (∀ a, a ∈ ns → a ≤ M) → Q (.int M t') { s with heap := h', toks := tk }) : wpAny (model prog w) A (call (.builtin "max") [.ref l]) Q E s := by
  obtain ⟨xs, e⟩ := hi.allInts.items
  have hn : numsOf (intItems xs).toList = ns := by rw [← e]; exact hi.numsOf
  rw [nums_intItems] at hn
  subst hn
  rw [e] at ht
  have hsz : 0 < xs.size := by simpa using hne
  refine call_max_walk (iter_tup ht fun s₂ es st hfp hlI => ?_)
  subst es
  refine ⟨_, _, _, _, _, _, _, rfl, Walks.tuple (A := A.in1) hh _ l hlI (intItems xs), st, hfp, by simpa [intItems] using hsz, CmpOf.ints_gt (numAt xs) (fun _ _ => intItems_at), fun v h' tk hP hk => ?_⟩
  obtain ⟨t, rfl⟩ := intItems_at hP
  obtain ⟨h1, h2⟩ := argBest_gt (numAt xs) (xs.size - 1)
  have ez : (intItems xs).size - 1 = xs.size - 1 := by simp [intItems]
  rw [ez]
  refine q h' tk _ t (fun b o e => hk b o (by rw [List.mem_singleton]; exact Nat.ne_of_lt (Heap.lt_size e)) (Heap.get?_push_of_some _ e)) ?_ fun a ha => ?_
  · rw [numAt_eq]
    exact PySem.getD_mem (by rw [List.length_map, Array.length_toList]; omega)
  · obtain ⟨j, hj, rfl⟩ := mem_getD ha
    rw [List.length_map, Array.length_toList] at hj
    rw [← numAt_eq]
    exact h2 j (by omega)
end
def fMaxS : List D → Option D
  | [.lst l] => ((intsOf l).bind greatest).map D.int
  | [.tup l] => ((intsOf l).bind greatest).map D.int
  | _ => none
section
variable {X : Cx} {z : Zt}
theorem call_maxS' (hX : XG X) : DCall X z .new (.builtin "max") fMaxS := by
  intro pins s σ H Mu g xs us ds d Q I m G1 r ks hd q
  unfold fMaxS at hd
  split at hd
  · exact call_max1' hX pins s σ H Mu g xs us _ d Q I m G1 r ks hd q
  · obtain ⟨w, h1, rfl⟩ := Option.map_eq_some_iff.mp hd
    obtain ⟨ns, h1, h2⟩ := Option.bind_eq_some_iff.mp h1
    have e := intsOf_eq h1
    subst e
    obtain ⟨v, rfl, p⟩ := ks.one
    obtain ⟨a, ys, rfl, _, hs, rs⟩ := p.tup
    have e := rs.unInts
    subst e
    cases ns with
    | nil => cases h2
    | cons n l =>
      cases h2
      obtain ⟨m1, m2⟩ := fold_max l n
      obtain ⟨its, rv, pt, _⟩ := I.tuple (hs.sq)
      rw [Vals.ref1 r]
      refine maxT_raw (its := its) (ns := n :: l) (I.ok.hd hX.calm) pt rv.ints (by rw [List.length_cons]; omega) fun h' tk m' t' hk hm' hall => ?_
      have e : m' = l.foldl (fun a b => if b > a then b else a) n := Int.le_antisymm (m2 m' hm') (hall _ m1)
      rw [e]
      exact ⟨.int _, H, I.kept hk, ⟨_, rfl⟩, q _ H Same.refl RK.int⟩
  · cases hd
end
end DL
end
section
set_option Elab.async false
set_option linter.all false
set_option maxRecDepth 100000
set_option maxHeartbeats 2000000
/-! The value layer, part 36: isinstance of the built-in kinds, alike in every law. -/
namespace DL
open PySem PySem.Spec PyProof.Rows L2
abbrev isi0 : List D → Option D := fIsi (fun _ _ => none) (fun _ => false)
theorem isi0_ok {K : PySem.W.Frag} {mg : Str → Option Value} : IsiOk K mg (fun _ _ => none) (fun _ => false) := ⟨fun _ _ _ _ _ h => (by cases h), fun _ _ h => (by cases h)⟩
end DL
end
section
set_option Elab.async false
set_option linter.all false
set_option maxRecDepth 100000
set_option maxHeartbeats 2000000
/-! The value layer, part 37: dicts written: d[k] = v of one's own dict. -/
namespace DL
open PySem PySem.Spec PyProof.Rows L2

def putD (l : List (D × D)) (k d : D) : List (D × D) := if (l.any fun p => keq p.1 k) = true then l.map (fun p => if keq p.1 k = true then (p.1, d) else p) else l ++ [(k, d)]
section
variable {K : PySem.W.Frag} {mg : Str → Option Value} {z : Zt} {Mu : List Addr} {H : Hp}
theorem put_rel {ι κ : Type} [DecidableEq ι] [DecidableEq κ] {kD : ι → D} {kK : ι → κ} (inj : ∀ a b, kK a = kK b → a = b) (hq : ∀ a b, keq (kD a) (kD b) = decide (a = b)) {c : ι} {v : V} {d : D} (rv : Rep K mg z Mu H v d) {l : List (D × D)} {ns : List ι} {vs : List V} (e : l.map (·.1) = ns.map kD) (r : Reps K mg z Mu H vs (l.map (·.2))) :
    ∃ ns' : List ι, (putD l (kD c) d).map (·.1) = ns'.map kD ∧ (putK ((ns.map kK).zip vs) (kK c) v).map (·.1) = ns'.map kK ∧ Reps K mg z Mu H ((putK ((ns.map kK).zip vs) (kK c) v).map (·.2)) ((putD l (kD c) d).map (·.2)) := by
  have len : ∀ {l : List (D × D)} {ns : List ι} {vs : List V}, l.map (·.1) = ns.map kD → Reps K mg z Mu H vs (l.map (·.2)) → ns.length = vs.length := fun {l ns vs} e r => by
    have := r.length
    rw [List.length_map] at this
    have := congrArg List.length e
    rw [List.length_map, List.length_map] at this
    omega
  have any : ∀ {l : List (D × D)} {ns : List ι} {vs : List V}, l.map (·.1) = ns.map kD → Reps K mg z Mu H vs (l.map (·.2)) → (l.any fun p => keq p.1 (kD c)) = (((ns.map kK).zip vs).any fun kv => decide (kv.1 = kK c)) := by
    intro l
    induction l with
    | nil =>
      intro ns vs e r
      cases ns with
      | nil => rfl
      | cons => cases e
    | cons p l ih =>
      intro ns vs e r
      cases ns with
      | nil => cases e
      | cons n ns =>
        obtain ⟨e1, e2⟩ := List.cons.inj e
        cases r with
        | cons r1 r2 =>
          rw [List.map_cons, List.zip_cons_cons, List.any_cons, List.any_cons, ← ih e2 r2, show p.1 = kD n from e1, hq]
          congr 1
          exact decide_eq_decide.mpr ⟨fun h => by rw [h], inj _ _⟩
  have rep : ∀ {l : List (D × D)} {ns : List ι} {vs : List V}, l.map (·.1) = ns.map kD → Reps K mg z Mu H vs (l.map (·.2)) →
      (l.map (fun p => if keq p.1 (kD c) = true then (p.1, d) else p)).map (·.1) = ns.map kD ∧ (((ns.map kK).zip vs).map (fun kv => if kv.1 = kK c then (kv.1, v) else kv)).map (·.1) = ns.map kK ∧
      Reps K mg z Mu H ((((ns.map kK).zip vs).map (fun kv => if kv.1 = kK c then (kv.1, v) else kv)).map (·.2)) ((l.map (fun p => if keq p.1 (kD c) = true then (p.1, d) else p)).map (·.2)) := by
    intro l
    induction l with
    | nil =>
      intro ns vs e r
      cases ns with
      | nil => exact ⟨rfl, rfl, .nil⟩
      | cons => cases e
    | cons p l ih =>
      intro ns vs e r
      cases ns with
      | nil => cases e
      | cons n ns =>
        obtain ⟨e1, e2⟩ := List.cons.inj e
        have e1 : p.1 = kD n := e1
        cases r with
        | @cons w _ ws _ r1 r2 =>
          obtain ⟨h1, h2, h3⟩ := ih e2 r2
          rw [List.map_cons (f := kK), List.zip_cons_cons, List.map_cons, List.map_cons, List.map_cons, List.map_cons, List.map_cons, List.map_cons, List.map_cons, h1, h2]
          by_cases hc : n = c
          · subst hc
            have q : keq p.1 (kD n) = true := by rw [e1, hq, decide_eq_true rfl]
            rw [if_pos q, if_pos rfl]
            exact ⟨by rw [e1], rfl, .cons rv h3⟩
          · have q : ¬ keq p.1 (kD c) = true := by rw [e1, hq, decide_eq_false hc]; decide
            rw [if_neg q, if_neg (fun w => hc (inj _ _ w))]
            exact ⟨by rw [e1], rfl, .cons r1 h3⟩
  unfold putD putK
  rw [any e r]
  by_cases h : (((ns.map kK).zip vs).any fun kv => decide (kv.1 = kK c)) = true
  · rw [if_pos h, if_pos h]
    obtain ⟨h1, h2, h3⟩ := rep e r
    exact ⟨ns, h1, h2, h3⟩
  · rw [if_neg h, if_neg h]
    refine ⟨ns ++ [c], ?_, ?_, ?_⟩
    · rw [List.map_append, List.map_append, e]; rfl
    · rw [List.map_append, List.map_append, zip_fst (by rw [List.length_map]; exact len e r)]; rfl
    · rw [List.map_append, List.map_append]
      refine Reps.append ?_ (.one rv)
      have : ((ns.map kK).zip vs).map (·.2) = vs := by
        have hl := len e r
        have : ∀ {a : List κ} {b : List V}, a.length = b.length → (a.zip b).map (·.2) = b := by
          intro a
          induction a with
          | nil => intro b h; cases b with | nil => rfl | cons => cases h
          | cons x a ih =>
            intro b h
            cases b with
            | nil => cases h
            | cons y b => rw [List.zip_cons_cons, List.map_cons, ih (by simpa using h)]
        exact this (by rw [List.length_map]; exact hl)
      rw [this]
      exact r
/-- from the kit's words back: ints -/
theorem vals_keys {P : Program} {w : World} : ∀ {E : List DictEntry} {kvs : List (Key × Value)}, Pairs (mixKind P w) E kvs → Vals (kvs.map fun kv => kV kv.1) (E.map (·.key))
  | _, _, .nil => .nil
  | _, _, .cons h _ t => .cons (relV_key h) (vals_keys t)
theorem vals_vals {P : Program} {w : World} : ∀ {E : List DictEntry} {kvs : List (Key × Value)} {kw : List (Key × V)}, Pairs (mixKind P w) E kvs → KV kw kvs → Vals (kw.map (·.2)) (E.map (·.val))
  | _, _, _, .nil, .nil => .nil
  | _, _, _, .cons (e := en) _ e t, .cons h q => .cons (show RelV _ en.val from by rw [e]; exact h.2) (vals_vals t q)
theorem hash_int {P : Program} {w w' : World} {e : DictEntry} {n : Int} (hk : ∃ k, (mixKind P w).is k e.key = true ∧ e.hash = (mixKind P w).hash k) (he : ∃ t, e.key = Value.int n t) : e.hash = keyH w' (.inl n) := by
  obtain ⟨k, h1, h2⟩ := hk
  obtain ⟨t, he⟩ := he
  rw [he] at h1
  have e2 : k = .inl n := (mixKind P w).inj _ _ _ h1 (mixKind_int P w n t)
  rw [h2, e2]
  rfl
theorem dk_raw {P : Program} {w : World} {h : Heap} {a : Addr} {kvs : List (Key × Value)} {kw : List (Key × V)} {ns : List Int} (dd : h.DictOf (mixKind P w) a kvs) (kv : KV kw kvs) (e : kw.map (·.1) = kI ns) :
    ∃ o es ep, h.get? a = some o ∧ o.ExactDict ∧ o.data = .dict es ep ∧ es.size = kvs.length ∧ EnK (ns.map V.int) (kw.map (·.2)) es ∧ KyOk es (ns.map D.int) := by
  obtain ⟨o, es, ep, ho, hex, hd, hk, hp, nd⟩ := dd
  have ek : kvs.map (·.1) = kI ns := by rw [← kv.keys]; exact e
  have v1 : Vals (ns.map V.int) (es.toList.map (·.key)) := by
    have q := vals_keys hp
    have : (kvs.map fun kv => kV kv.1) = ns.map V.int := by
      have : (kvs.map fun kv => kV kv.1) = (kvs.map (·.1)).map kV := by rw [List.map_map]; rfl
      rw [this, ek, List.map_map]
      rfl
    rwa [this] at q
  refine ⟨o, es, ep, ho, hex, hd, by rw [← hp.length, Array.length_toList], ⟨v1, vals_vals hp kv⟩, fun i en d h1 h2 => ?_, ?_⟩
  · have hn : ∃ n, ns[i]? = some n ∧ d = .int n := by
      rw [List.getElem?_map] at h2
      cases q : ns[i]? with
      | none => rw [q] at h2; cases h2
      | some n => rw [q] at h2; exact ⟨n, rfl, (Option.some.inj h2).symm⟩
    obtain ⟨n, hn, rfl⟩ := hn
    intro w'
    obtain ⟨u, hu, ru⟩ := Vals.get v1 (show (ns.map V.int)[i]? = some (V.int n) by rw [List.getElem?_map, hn]; rfl)
    have eu : u = en.key := by
      rw [List.getElem?_map, Array.getElem?_toList, h1] at hu
      exact (Option.some.inj hu).symm
    subst eu
    exact hash_int (hk en (Array.mem_iff_getElem?.mpr ⟨i, h1⟩)) ru
  · have nd2 : (kI ns).Nodup := by rw [← ek]; exact nd
    exact nodup_map_of (fun a b h => by injection h) (nodup_of_map _ nd2)
theorem hash_tup {P P' : Program} {w w' : World} (is : List Int) : (tupleKind (mixKind P w)).hash (kI is) = (tupleKind (mixKind P' w')).hash (kI is) := by
  show reduceHash (Builtin.Tuple.tupleHashOf ((kI is).map (mixKind P w).hash)) = reduceHash (Builtin.Tuple.tupleHashOf ((kI is).map (mixKind P' w').hash))
  rw [List.map_map, List.map_map]
  rfl
theorem tint_inj {a b : List Int} (h : tint a = tint b) : a = b := by
  unfold tint at h
  injection h with h
  have := congrArg intsOf h
  rw [intsOf_map, intsOf_map] at this
  exact Option.some.inj this
/-- .. tuples of ints; what is asked of the keys' places -/
theorem dt_raw {P : Program} {w : World} {h : Heap} {a : Addr} {xs : List (List Key × Addr × Value)} {kw : List (List Key × V)} {ns : List (List Int)} (dd : h.DictOfH (tupleKind (mixKind P w)) a xs) (kt : KQ H kw xs) (e : kw.map (·.1) = kT ns) (hm : ∀ q ∈ xs, q.2.1 ∉ Mu) :
    ∃ o es ep, h.get? a = some o ∧ o.ExactDict ∧ o.data = .dict es ep ∧ es.size = xs.length ∧ EnK (xs.map fun q => V.ref q.2.1) (kw.map (·.2)) es ∧ KyOk es (ns.map tint) ∧ Reps K mg z Mu H (xs.map fun q => V.ref q.2.1) (ns.map tint) := by
  obtain ⟨o, es, ep, ho, hex, hd, he, hk, nd⟩ := dd
  have ek : xs.map (·.1) = kT ns := by
    have : ∀ {kw : List (List Key × V)} {xs : List (List Key × Addr × Value)}, KQ H kw xs → kw.map (·.1) = xs.map (·.1) := by
      intro kw xs k
      induction k with
      | nil => rfl
      | cons h t ih => rw [List.map_cons, List.map_cons, ih, h.1]
    rw [← this kt]
    exact e
  have v1 : Vals (xs.map fun q => V.ref q.2.1) (es.toList.map (·.key)) := by
    rw [he, List.map_map]
    have : ∀ l : List (List Key × Addr × Value), Vals (l.map fun q => V.ref q.2.1) (l.map ((·.key) ∘ entryOfKey (tupleKind (mixKind P w)))) := by
      intro l
      induction l with
      | nil => exact .nil
      | cons q l ih => exact .cons rfl ih
    exact this xs
  have v2 : Vals (kw.map (·.2)) (es.toList.map (·.val)) := by
    rw [he, List.map_map]
    have : ∀ {kw : List (List Key × V)} {xs : List (List Key × Addr × Value)}, KQ H kw xs → Vals (kw.map (·.2)) (xs.map ((·.val) ∘ entryOfKey (tupleKind (mixKind P w)))) := by
      intro kw xs k
      induction k with
      | nil => exact .nil
      | cons h t ih => exact .cons h.2.2 ih
    exact this kt
  refine ⟨o, es, ep, ho, hex, hd, size_of_entries he, ⟨v1, v2⟩, ⟨fun i en d h1 h2 => ?_, ?_⟩, ?_⟩
  · rw [List.getElem?_map] at h2
    cases q : ns[i]? with
    | none => rw [q] at h2; cases h2
    | some n =>
      rw [q] at h2
      obtain rfl : tint n = d := Option.some.inj h2
      intro is ei P' w'
      have ei : n = is := tint_inj (congrArg D.tup ei)
      subst ei
      have hx := entry_at he i
      rw [h1] at hx
      obtain ⟨x, hx1, hx2⟩ := Option.map_eq_some_iff.mp hx.symm
      have hk1 : x.1 = kI n := by
        have : (xs.map (·.1))[i]? = some x.1 := by rw [List.getElem?_map, hx1]; rfl
        rw [ek, List.getElem?_map, q] at this
        exact (Option.some.inj this).symm
      rw [← hx2]
      show (tupleKind (mixKind P w)).hash x.1 = _
      rw [hk1]
      exact hash_tup n
  · have nd2 : (kT ns).Nodup := by rw [← ek]; exact nd
    exact nodup_map_of (fun a b h => tint_inj h) (nodup_of_map _ nd2)
  · have : ∀ {kw : List (List Key × V)} {xs : List (List Key × Addr × Value)} {ns : List (List Int)}, KQ H kw xs → xs.map (·.1) = kT ns → (∀ q ∈ xs, q.2.1 ∉ Mu) → Reps K mg z Mu H (xs.map fun q => V.ref q.2.1) (ns.map tint) := by
      intro kw xs ns k
      induction k generalizing ns with
      | nil =>
        intro e _
        cases ns with
        | nil => exact .nil
        | cons => cases e
      | @cons p q ps qs h t ih =>
        intro e hm
        cases ns with
        | nil => cases e
        | cons n ns =>
          obtain ⟨e1, e2⟩ := List.cons.inj e
          refine .cons (.tup (xs := n.map V.int) (hm q List.mem_cons_self) ?_ (Reps.ints n)) (ih e2 fun r hr => hm r (List.mem_cons_of_mem _ hr))
          have hq := h.2.1
          rw [h.1, show q.1 = kI n from e1, List.map_map] at hq
          exact hq
    exact this kt ek hm
end
section
variable {X : Cx} {z : Zt} {pins : List (Addr × Obj)} {σ : L2.St} {H : Hp} {s : Shared} {Mu : List Addr}
/-- d[k] = v -/
theorem dct_put {a : Addr} {y v : V} {u w : Value} {l : List (D × D)} {k d : D} {Q : Unit → Shared → Prop} (I : Inv X pins σ H s) (c : Cont X.K X.mg z Mu H a (.dct l)) (ha : a ∈ Mu) (py : PR X.K X.mg z Mu H y k) (ry : RelV y u) (rv : RelV v w) (rp : Rep X.K X.mg z Mu H v d) (hk : kOk l k = true) (hl : l.length < 1000)
    (h : ∀ o' s', Inv X pins σ (upd H a (ObV a o')) s' → Cont X.K X.mg z Mu (upd H a (ObV a o')) a (.dct (putD l k d)) → Q () s') :
    (∃ (c : Key) (kvs : List (Key × Value)), (mixKind X.prog X.w).is c u = true ∧ s.heap.DictOf (mixKind X.prog X.w) a kvs ∧ kvs.length ≤ sizeLine ∧ ∀ h' t', h'.DictOf (mixKind X.prog X.w) a (stored kvs c w) → Heap.SameBut a s.heap h' → Q () { s with heap := h', toks := t' }) ∨
    (∃ (c : List Key) (b : Addr) (xs : List (List Key × Addr × Value)), u = .ref b ∧ (tupleKind (mixKind X.prog X.w)).is s.heap c b ∧ s.heap.DictOfH (tupleKind (mixKind X.prog X.w)) a xs ∧ xs.length ≤ sizeLine ∧ ∀ h' t', h'.DictOfH (tupleKind (mixKind X.prog X.w)) a (storedH xs c b w) → Heap.SameBut a s.heap h' → Q () { s with heap := h', toks := t' }) := by
  cases c with
  | @dct o es ep ks vs _ ho hsys hex hdt hz en r1 r2 ky =>
  have hg : s.heap.get? a = some o := (I.hok a _ ho).1
  have hle : es.toList.length = l.length := by rw [Array.length_toList, en.size r1, List.length_map]
  have fin : ∀ {h' : Heap} {t' : Nat} {o' : Obj} {es' : Array DictEntry} {ep' : Nat} {ks' vs' : List V}, Heap.SameBut a s.heap h' → h'.get? a = some o' → o'.ExactDict → o'.data = .dict es' ep' → es'.size ≤ sizeLine → EnK ks' vs' es' → Reps X.K X.mg z Mu H ks' ((putD l k d).map (·.1)) → Reps X.K X.mg z Mu H vs' ((putD l k d).map (·.2)) → KyOk es' ((putD l k d).map (·.1)) → Q () { s with heap := h', toks := t' } := by
    intro h' t' o' es' ep' ks' vs' sb g' hex' hd' hz' en' r1' r2' ky'
    have I' : Inv X pins σ (upd H a (ObV a o')) { s with heap := h', toks := t' } := d_write I (by rw [ho]; exact True.intro) sb ⟨o', g'⟩ ⟨g', ⟨_, g'⟩, fun _ _ h k => k _ h⟩
    have em : ExtM Mu H (upd H a (ObV a o')) := fun b q hq _ hb => by rw [upd_ne (fun e : b = a => hb (e ▸ ha))]; exact hq
    exact h o' _ I' (.dct upd_same hsys hex' hd' hz' en' (r1'.mono em fun _ _ h => h) (r2'.mono em fun _ _ h => h) ky')
  have big : 1000 < sizeLine := by rw [sizeLine_eq]; decide
  cases k <;> first | cases hk | skip
  · rename_i i
    obtain ⟨ns, hn⟩ := Option.isSome_iff_exists.mp (show (intsOf (l.map (·.1))).isSome = true from hk)
    have e := intsOf_eq hn
    rw [e] at r1 ky
    have e1 := Reps.ints_eq r1
    subst e1
    obtain ⟨dd, kv⟩ := raw_dk (X := X) (s := s) hg hex hdt en.1 en.2 ky
    obtain rfl := py.int
    have sz : ((kI ns).zip (es.toList.map (·.val))).length ≤ l.length := by
      rw [List.length_zip, List.length_map, List.length_map, hle]
      exact Nat.min_le_right _ _
    refine .inl ⟨.inl i, _, kV_is (k := .inl i) ry, dd, by omega, fun h' t' dd' hs => ?_⟩
    have kv' := kv.put (.inl i : Key) rv
    obtain ⟨ns', q1, q2, q3⟩ := put_rel (kD := D.int) (kK := (Sum.inl : Int → Key)) (fun a b h => Sum.inl.inj h) (fun a b => rfl) rp (c := i) e r2
    obtain ⟨o', es', ep', g', hex', hd', hsz', en', ky'⟩ := dk_raw dd' kv' q2
    refine fin hs g' hex' hd' ?_ en' (by rw [q1]; exact Reps.ints ns') q3 (by rw [q1]; exact ky')
    rw [hsz', ← kv'.length]
    have := length_putK ((kI ns).zip vs) (.inl i : Key) v
    have l2 : ((kI ns).zip vs).length ≤ l.length := by
      rw [List.length_zip, r2.length, List.length_map (f := fun p : D × D => p.2)]
      exact Nat.min_le_right _ _
    omega
  · rename_i kq
    obtain ⟨h1, h2⟩ := (Bool.and_eq_true _ _).mp (show ((intsOf kq).isSome && (tupsOf (l.map (·.1))).isSome) = true from hk)
    obtain ⟨is, his⟩ := Option.isSome_iff_exists.mp h1
    obtain ⟨ns, hn⟩ := Option.isSome_iff_exists.mp h2
    have e := tupsOf_eq hn
    have ek := intsOf_eq his
    subst ek
    rw [e] at r1 ky
    obtain ⟨bs, rfl, dd, kt⟩ := raw_dt (s := s) I.hok hg hex hdt en r1 ky
    obtain ⟨b, xs, rfl, hbm, hb, rb⟩ := py.tup
    cases ry
    have hb' : TP H b ((kI is).map kV) := by
      rw [Reps.ints_eq rb] at hb
      rw [List.map_map]
      exact hb
    have sz : ((kT ns).zip (bs.zip (es.toList.map (·.val)))).length ≤ l.length := by
      rw [List.length_zip, List.length_zip, List.length_map, List.length_map, hle]
      exact Nat.le_trans (Nat.min_le_right _ _) (Nat.min_le_right _ _)
    refine .inr ⟨kI is, b, _, rfl, keyq_of I.hok hb', dd, by omega, fun h' t' dd' hs => ?_⟩
    have kt' := kt.put (kI is) hb' rv
    have hm : ∀ q ∈ storedH ((kT ns).zip (bs.zip (es.toList.map (·.val)))) (kI is) b w, q.2.1 ∉ Mu := by
      have old : ∀ q ∈ (kT ns).zip (bs.zip (es.toList.map (·.val))), q.2.1 ∉ Mu := fun q hq => by
        have := (List.of_mem_zip hq).2
        have hb2 := (List.of_mem_zip this).1
        have : ∀ {bs : List Addr} {ds : List D}, Reps X.K X.mg z Mu H (bs.map V.ref) (ds) → (∀ d ∈ ds, ∃ q, d = .tup q) → ∀ b ∈ bs, b ∉ Mu := by
          intro bs
          induction bs with
          | nil => intro ds _ _ b hb; cases hb
          | cons b0 bs ih =>
            intro ds r ht b hb
            cases r with
            | cons r1 r2 =>
              rcases List.mem_cons.mp hb with rfl | hb
              · obtain ⟨q, rfl⟩ := ht _ List.mem_cons_self
                cases r1 with | tup n _ _ => exact n
              · exact ih r2 (fun d hd => ht d (List.mem_cons_of_mem _ hd)) b hb
        exact this r1 (fun d hd => by
          obtain ⟨n, _, rfl⟩ := List.mem_map.mp hd
          exact ⟨_, rfl⟩) _ hb2
      intro q hq
      unfold storedH at hq
      split at hq
      · obtain ⟨p, hp, rfl⟩ := List.mem_map.mp hq
        unfold putAt
        split
        · exact old p hp
        · exact old p hp
      · rcases List.mem_append.mp hq with hq | hq
        · exact old q hq
        · rw [List.mem_singleton.mp hq]; exact hbm
    obtain ⟨ns', q1, q2, q3⟩ := put_rel (kD := tint) (kK := kI) (fun a b h => kI_inj h) keq_tint rp (c := is) e r2
    obtain ⟨o', es', ep', g', hex', hd', hsz', en', ky', rk'⟩ := dt_raw (K := X.K) (mg := X.mg) (z := z) (Mu := Mu) dd' kt' q2 hm
    have q1' : (putD l (.tup (is.map D.int)) d).map (·.1) = ns'.map tint := q1
    refine fin hs g' hex' hd' ?_ en' (by rw [q1']; exact rk') q3 (by rw [q1']; exact ky')
    have e3 : (storedH ((kT ns).zip (bs.zip (es.toList.map (·.val)))) (kI is) b w).length = (putK ((kT ns).zip vs) (kI is) v).length := (paired_len kt').symm
    rw [hsz', e3]
    have := length_putK ((kT ns).zip vs) (kI is) v
    have l2 : ((kT ns).zip vs).length ≤ l.length := by
      rw [List.length_zip, r2.length, List.length_map (f := fun p : D × D => p.2)]
      exact Nat.min_le_right _ _
    omega
theorem dct_set {a : Addr} {y v : V} {u w : Value} {l : List (D × D)} {k d : D} {A : Around} {E : Value → Shared → Prop} {Q : Unit → Shared → Prop} (hu : A.units + 1 < cLine) (I : Inv X pins σ H s) (c : Cont X.K X.mg z Mu H a (.dct l)) (ha : a ∈ Mu) (py : PR X.K X.mg z Mu H y k) (ry : RelV y u) (rv : RelV v w) (rp : Rep X.K X.mg z Mu H v d) (hk : kOk l k = true) (hl : l.length < 1000)
    (h : ∀ o' s', Inv X pins σ (upd H a (ObV a o')) s' → Cont X.K X.mg z Mu (upd H a (ObV a o')) a (.dct (putD l k d)) → Q () s') : wpAny (model X.prog X.w) A (setItem (.ref a) u w) Q E s := by
  rcases dct_put (Q := Q) I c ha py ry rv rp hk hl h with ⟨c', kvs, h1, h2, h3, h4⟩ | ⟨c', b, xs, rfl, h1, h2, h3, h4⟩
  · exact wpAny_setItem_pairs (hsz := h3) h1 h2 fun h' dd' hs => h4 h' _ dd' hs
  · exact wpAny_setItem_heap (hsz := h3) (tupleKind_room_in1 hu) h1 h2 fun h' dd' hs => h4 h' _ dd' hs
end
end DL
end
section
set_option Elab.async false
set_option linter.all false
set_option maxRecDepth 100000
set_option maxHeartbeats 2000000
/-! The value layer, part 38: x[k] = e, x one's own list or dict. -/
namespace DL
open PySem PySem.Spec PyProof.Rows L2

def ownD (ρ : Env) (i : Nat) : Option (List (D × D)) := match ρ[i]? with
  | some (some (true, .dct l)) => some l
  | _ => none
theorem ownD_some {ρ : Env} {i : Nat} {l : List (D × D)} (h : ownD ρ i = some l) : ρ[i]? = some (some (true, .dct l)) := by
  unfold ownD at h
  split at h
  · rename_i l' q
    cases h
    exact q
  · cases h
section
variable {X : Cx} {n : En} {ka kb : Kd} {a e : Expr} {fa fe : Ep} {i : Nat} {s : Str} {p1 p2 pos : Pos}
def sSetK (i : Nat) (fa fe : Ep) : Ss := fun ρ => do
  let d ← fe ρ
  let l ← ofOpt (ownD ρ i)
  let k ← fa ρ
  let l' ← ofOpt (if kOk l k = true ∧ l.length < 1000 then some (putD l k d) else none)
  M.pure (.nx (ρ.set i (some (true, .dct l'))))
/-- what is put where -/
def tSetX (X : Cx) (z : Zt) : TSet := fun o y v H Q => ∃ a l k d Mu, o = .ref a ∧ Cont X.K X.mg z Mu H a (.dct l) ∧ a ∈ Mu ∧ PR X.K X.mg z Mu H y k ∧ Rep X.K X.mg z Mu H v d ∧ kOk l k = true ∧ l.length < 1000 ∧
  ∀ o', Cont X.K X.mg z Mu (upd H a (ObV a o')) a (.dct (putD l k d)) → Q (upd H a (ObV a o'))
theorem set_dctX (hX : XG X) {z : Zt} : PSet X (tSetX X z) := by
  intro pins s σ H o i v ov iv u Q I ro ri rv ⟨a, l, k, d, Mu, eo, c, ha, py, rp, hk, hl, q⟩
  subst eo
  cases (show ov = Value.ref a from ro)
  have hu : X.A.units + 1 < cLine := by have := hX.eq; omega
  exact dct_set hu I c ha py ri rv rp hk hl fun o' s' I' c' => ⟨_, I', q o' c'⟩
theorem ds_setK (hX : XG X) (hv : PE X (.Name s p1) (tVar i)) (ha : DE X n.z n.W ka a fa) (he : DE X n.z n.W .sh e fe)
    (hsub : ∀ v, assign (.Subscript (.Name s p1) a p2) X.env v = (do
      let ov ← holding [v] (eval (.Name s p1) X.env)
      let iv ← holding [v, ov] (eval a X.env)
      standAt p2
      holding [v, ov, iv] (setItem ov iv v)
      release [v, ov, iv] []) := by intro _; rfl)
    (hs : swapsWithSole [.Subscript (.Name s p1) a p2] e pos.line X.env = pure false := by rfl) (hw : swappedStores [.Subscript (.Name s p1) a p2] e X.env = pure none := by rfl)
    (h1 : (assignEach [.Subscript (.Name s p1) a p2] X.env).map (·.2) = [assign (.Subscript (.Name s p1) a p2) X.env] := by rfl) : DS X n (.Assign [.Subscript (.Name s p1) a p2] e pos) (sSetK i fa fe) := by
  refine ⟨fun pins s' σ H D I ⟨ρ, g, Mu, S, hx⟩ => ?_⟩
  refine (ps_asg he (pg_sub hv ha (set_dctX (z := n.z) hX) hsub) hs hw h1).run pins s' σ H D I ⟨ρ, g, Mu, S.env, S.g, R.all_imp (EW.x S (R.all_bind hx)) (fun d g1 hx v H1 e1 G2 k1 => ?_) fun _ _ _ _ h => h⟩
  have S1 := S.step e1 G2
  obtain ⟨l, ho, hx⟩ := R.all_opt (R.all_bind hx)
  have hi := ownD_some ho
  obtain ⟨w0, hb, b, rfl, _⟩ := S1.env.val i true _ hi
  refine ⟨.ref b, hb, ρ, g1, Mu, S1.env, S1.g, R.all_imp (EW.x S1 (R.all_bind hx)) (fun k g2 hx w H2 e2 G3 k2 => ?_) fun _ _ _ _ h => h⟩
  have S2 := S1.step e2 G3
  obtain ⟨l', hl', hx⟩ := R.all_opt (R.all_bind hx)
  obtain ⟨⟨hk, hlen⟩, rfl⟩ := opt_if hl'
  obtain ⟨w, q1, a', ev, hm, np, nl, nc, c⟩ := S2.env.val i true _ hi
  rw [hb] at q1
  cases q1
  cases ev
  have rv : Rep X.K X.mg n.z Mu H1 v d := k1
  have rv2 := rv.ext S1.env.mu S1.g e2
  have py := k2.peek S1.env.mu S2.env.mu G3
  refine ⟨b, l, k, d, Mu, rfl, c, hm, py, rv2, hk, hlen, fun o' c' => ?_⟩
  have hH : ∃ o es ep, H2 b = some (ObV b o) ∧ o.data = .dict es ep := by cases c with | dct h h1 h2 h3 => exact ⟨_, _, _, h, h3⟩
  obtain ⟨o, es, ep, hH, hd⟩ := hH
  exact hx σ _ Mu (S2.write (o := ObV b o') (fun q w => by
    rw [hH] at w
    exact obV_code hd (Option.some.inj w)) trivial hi hb c')
/-- whatever x is -/
def sSetU (i : Nat) (fa fe : Ep) : Ss := fun ρ g => match ownD ρ i with
  | some _ => sSetK i fa fe ρ g
  | none => sSetIx i fa fe ρ g
theorem ds_setU (hX : XG X) (hv : PE X (.Name s p1) (tVar i)) (ha : DE X n.z n.W ka a fa) (he : DE X n.z n.W .sh e fe)
    (hsub : ∀ v, assign (.Subscript (.Name s p1) a p2) X.env v = (do
      let ov ← holding [v] (eval (.Name s p1) X.env)
      let iv ← holding [v, ov] (eval a X.env)
      standAt p2
      holding [v, ov, iv] (setItem ov iv v)
      release [v, ov, iv] []) := by intro _; rfl)
    (hs : swapsWithSole [.Subscript (.Name s p1) a p2] e pos.line X.env = pure false := by rfl) (hw : swappedStores [.Subscript (.Name s p1) a p2] e X.env = pure none := by rfl)
    (h1 : (assignEach [.Subscript (.Name s p1) a p2] X.env).map (·.2) = [assign (.Subscript (.Name s p1) a p2) X.env] := by rfl) : DS X n (.Assign [.Subscript (.Name s p1) a p2] e pos) (sSetU i fa fe) := by
  refine ⟨fun pins s' σ H D I ⟨ρ, g, Mu, S, hx⟩ => ?_⟩
  have hx : (match ownD ρ i with | some _ => sSetK i fa fe ρ g | none => sSetIx i fa fe ρ g).all _ _ := hx
  cases q : ownD ρ i with
  | some l =>
    rw [q] at hx
    exact (ds_setK hX hv ha he hsub hs hw h1).run pins s' σ H D I ⟨ρ, g, Mu, S, hx⟩
  | none =>
    rw [q] at hx
    exact (ds_setIx hv ha he hsub hs hw h1).run pins s' σ H D I ⟨ρ, g, Mu, S, hx⟩
end
end DL
end
section
set_option Elab.async false
set_option linter.all false
set_option maxRecDepth 100000
set_option maxHeartbeats 2000000
/-! The value layer, part 39: dict comprehensions. -/
namespace DL
open PySem PySem.Spec PyProof.Rows L2
section
variable {X : Cx}
end
end DL
end
section
set_option Elab.async false
set_option linter.all false
set_option maxRecDepth 100000
set_option maxHeartbeats 2000000
/-! The value layer, part 40: dict comprehensions read. -/
namespace DL
open PySem PySem.Spec PyProof.Rows L2

/-- put, if that is known to go -/
def putO (l : List (D × D)) (k d : D) : Option (List (D × D)) := if kOk l k = true ∧ l.length < 1000 then some (putD l k d) else none
def sDcL (ρ : Env) (t : D → Env → Option Env) (tt : Et) (fk fv : Ep) : List D → List (D × D) → M (List (D × D))
  | [], acc => M.pure acc
  | d :: l, acc => do
    let ρ1 ← ofOpt (t d ρ)
    let b ← nox (tt ρ1)
    if b then
      let k ← nox (fk ρ1)
      let y ← nox (fv ρ1)
      let acc' ← ofOpt (putO acc k y)
      sDcL ρ t tt fk fv l acc'
    else sDcL ρ t tt fk fv l acc
def eDc (it : Es) (t : D → Env → Option Env) (tt : Et) (fk fv : Ep) (vs : List Nat) : Ep := fun ρ => do
  let ds ← it ρ
  let r ← sDcL (wipeE ρ vs) t tt fk fv ds []
  M.pure (.dct r)
section
variable {X : Cx} {z : Zt} {W : WX} {kx vx tg iter c : Expr} {ifs : List Expr} {scope : Scope} {own : List (Str × Nat)} {pos : Pos} {it : Es} {gt : TG} {t : D → Env → Option Env} {is : List Nat} {tt : Et} {fk fv : Ep}
end
end DL
end
section
set_option Elab.async false
set_option linter.all false
set_option maxRecDepth 100000
set_option maxHeartbeats 2000000
/-! The value layer, part 41: y = {k: v for ..} on one line. -/
namespace DL
open PySem PySem.Spec PyProof.Rows L2
section
variable {X : Cx} {kx vx tg iter : Expr} {ifs : List Expr} {scope : Scope} {own : List (Str × Nat)} {pos : Pos} {it : Es} {gt : TG} {t : D → Env → Option Env} {is : List Nat} {tt : Et} {fk fv : Ep}
end
end DL
end
section
set_option Elab.async false
set_option linter.all false
set_option maxRecDepth 100000
set_option maxHeartbeats 2000000
/-! The value layer, part 42: dict displays. -/
namespace DL
open PySem PySem.Spec PyProof.Rows L2

def sPrs : List (Ep × Ep) → Env → M (List (D × D))
  | [], _ => M.pure []
  | (fk, fv) :: r, ρ => do
    let k ← nox (fk ρ)
    let y ← nox (fv ρ)
    let l ← sPrs r ρ
    M.pure ((k, y) :: l)
def mkD : List (D × D) → List (D × D) → Option (List (D × D))
  | acc, [] => some acc
  | acc, (k, y) :: l => (putO acc k y).bind fun acc' => mkD acc' l
/-- keys that stand alone only -/
def oddK : D → Bool
  | .non => true
  | .bl _ => true
  | .str _ => true
  | _ => false
def mkO : List (D × D) → Option (List (D × D))
  | [(k, y)] => if oddK k = true then some [(k, y)] else mkD [] [(k, y)]
  | l => mkD [] l
def eDct (ps : List (Ep × Ep)) : Ep := fun ρ => do
  let l ← sPrs ps ρ
  let r ← ofOpt (mkO l)
  M.pure (.dct r)
section
variable {X : Cx} {z : Zt} {W : WX} {σ : L2.St}
end
end DL
end
section
set_option Elab.async false
set_option linter.all false
set_option maxRecDepth 100000
set_option maxHeartbeats 2000000
/-! The value layer, part 43: lambdas as values. -/
namespace DL
open PySem PySem.Spec PyProof.Rows L2
section
variable {X : Cx} {pins : List (Addr × Obj)} {σ : L2.St} {H : Hp} {s : Shared}
/-- a lambda's object -/
abbrev lamO (q : Str) (pr : Arguments) (b : Expr) (sc : Scope) (cl : List (Str × Addr)) (pm ctv : Value) (c' : Addr) : Obj := PySem.W.kla_obj "<lambda>" q pr b sc (cloFrom cl sc.names []) pm c' ctv
/-- a lambda is made; it is new -/
theorem lam_new {TT : List (Addr × Str)} {cd tp : Addr} {pr : Arguments} {bd : Expr} {sco : Scope} {pos : Pos} {E : Value → Shared → Prop} {Q : Value → Shared → Prop} (I : Inv X pins σ H s) (tb : LamX.TabB X.base X.mg cd tp) (own : X.env.code = .ref cd)
    (isIn : (tp, X.env.qual ++ "<lambda>") ∈ TT) (one : ∀ p ∈ TT, p.1 = tp → p.2 = X.env.qual ++ "<lambda>") (tabs : LamX.Tabs TT H) (dflt : defaultsOf pr X.env = ([], [])) (caps : ∀ y ∈ sco.names, y.2 = .free → ∃ c, X.env.cells.lookup y.1 = some c)
    (k : ∀ (f cc : Addr) (pm ctv : Value) (H1 : Hp) (s1 : Shared), Inv X pins σ H1 s1 → LamX.ExtN H H1 → LamX.Tabs TT H1 → s1.heap.get? f = some (lamO (X.env.qual ++ "<lambda>") pr bd sco X.env.cells pm ctv cc) → H1 f = none → s.heap.objs.size ≤ f → H1 cc = some (LamX.CodeO cc (X.env.qual ++ "<lambda>")) → Q (.ref f) s1) :
    wpAny (model X.prog X.w) X.A (eval (.Lambda pr bd sco pos) X.env) Q E s := by
  obtain ⟨rows, atT, three, alike⟩ := tabs _ isIn
  have blt : s.heap.BuiltinsAt X.mg tp := tb.bm.keeps I.bk
  have obT : s.heap.get? tp = some { cls := .none, data := .fields rows } := I.hok tp _ atT
  refine PySem.W.kla_eval dflt ?_
  cases known : codeAmong pos rows.toList with
  | some cv =>
    obtain ⟨cc, ec, tracked⟩ := alike pos cv known
    subst ec
    refine PySem.W.kla_makeFunctionHit (mg := X.mg) (c := cd) (P := tp) (ps := rows) (closure_ok caps) I.ok.glob (I.mod.glob.keeps I.bk) own (tb.code.keeps I.bk) obT three known blt fun ctv h1 t1 kp sz => ?_
    refine k h1.objs.size cc _ ctv H { s with heap := h1.push (lamO (X.env.qual ++ "<lambda>") pr bd sco X.env.cells ((X.mg "__name__").getD .none) ctv cc), toks := t1 } (I.kept fun b u hu => Heap.get?_push_of_some _ (kp b u hu)) (LamX.ExtN.refl H) tabs (Heap.get?_push_size _ rfl) (I.hok.fresh sz) sz tracked
  | none =>
    refine PySem.W.kla_makeFunction (mg := X.mg) (c := cd) (P := tp) (ps := rows) (closure_ok caps) I.ok.glob (I.mod.glob.keeps I.bk) own (tb.code.keeps I.bk) obT three known tb.gP blt fun cc ctv h1 t1 kp lo hi rec new => ?_
    obtain ⟨c2, oc, fs, tk, eq2, gc, dc, vc⟩ := rec
    cases eq2
    have freeC : H cc = none := I.hok.fresh lo
    have sz : s.heap.objs.size ≤ h1.objs.size := by omega
    have more : (rows ++ #[rawInt pos.line, rawInt pos.col, .ref cc]).toList = rows.toList ++ [rawInt pos.line, rawInt pos.col, .ref cc] := by simp
    have ext : LamX.ExtN H (upd (upd H tp (.tbl (rows ++ #[rawInt pos.line, rawInt pos.col, .ref cc]))) cc (LamX.CodeO cc (X.env.qual ++ "<lambda>"))) := fun b u hb nt => by
      have b1 : b ≠ cc := ne_of_none hb freeC
      have b2 : b ≠ tp := fun w => nt rows (Option.some.inj (hb.symm.trans (w ▸ atT)))
      rw [upd_ne b1, upd_ne b2]
      exact hb
    refine k h1.objs.size cc _ ctv _ { s with heap := h1.push (lamO (X.env.qual ++ "<lambda>") pr bd sco X.env.cells ((X.mg "__name__").getD .none) ctv cc), toks := t1 } (LamX.inv_table (t' := t1) (more := #[rawInt pos.line, rawInt pos.col, .ref cc]) I atT
      (fun b u hb hu => Heap.get?_push_of_some _ (kp b u hb hu)) (Heap.get?_push_of_some _ new) lo ⟨oc, fs, tk, Heap.get?_push_of_some _ gc, dc, vc⟩) ext (fun p hp => ?_) (Heap.get?_push_size _ rfl) ?_ sz upd_same
    · by_cases same : p.1 = tp
      · rw [one p hp same, same]
        refine ⟨_, by rw [upd_ne (ne_of_none atT freeC), upd_same], by rw [more]; exact PySem.TriplesOk_snoc _ _ _ _ three, fun p1 v1 hv => ?_⟩
        rw [more] at hv
        rcases LamX.among_app _ three hv with w | w
        · obtain ⟨c0, q1, q2⟩ := alike p1 v1 w
          exact ⟨c0, q1, ext _ _ q2 LamX.codeO_ne⟩
        · exact ⟨cc, w, upd_same⟩
      · obtain ⟨rows2, q1, q2, q3⟩ := tabs p hp
        refine ⟨rows2, by rw [upd_ne (ne_of_none q1 freeC), upd_ne same]; exact q1, q2, fun p1 v1 hv => ?_⟩
        obtain ⟨c0, q4, q5⟩ := q3 p1 v1 hv
        exact ⟨c0, q4, ext _ _ q5 LamX.codeO_ne⟩
    · have n1 : h1.objs.size ≠ cc := Nat.ne_of_gt hi
      have n2 : h1.objs.size ≠ tp := Nat.ne_of_gt (Nat.lt_of_lt_of_le (Heap.lt_size obT) sz)
      rw [upd_ne n1, upd_ne n2]
      exact I.hok.fresh sz
variable {z : Zt} {W : WX}
/-- what is known of the lambda j -/
structure LamJ (X : Cx) (z : Zt) (k : Nat) (fb : Ep) (pr : Arguments) (bd : Expr) (sco : Scope) : Prop where
  L : LamX.LamS X.env.scope sco
  binds : ∀ (q : Str) (cl : List (Str × Addr)) (pm cv ctv : Value), bindArgs (PySem.W.kla_fn "<lambda>" q pr bd sco cl pm cv ctv) ⟨[], []⟩ = pure []
  run : ∃ kb, ∀ (A : Around) (outer : List PySem.Env) (s : Shared) (H : Hp) (E : XK) (f c' : Addr), Room k (A.deeper (LamX.lamEnv X sco s.heap.objs.size f c')) → Takes (LamX.lamCx X A outer s H E sco f c') (fun cls dd _ H => E cls dd H) →
      DE (LamX.lamCx X A outer s H E sco f c') z (fun cls dd _ H => E cls dd H) kb bd fb
end
end DL
end
section
set_option Elab.async false
set_option linter.all false
set_option maxRecDepth 100000
set_option maxHeartbeats 2000000
/-! The value layer, part 44: named lambdas, as the printed terms use them. -/
namespace DL
open PySem PySem.Spec PyProof.Rows L2

def lamE : Expr → Option (Arguments × Expr × Scope)
  | .Lambda pr b sc _ => some (pr, b, sc)
  | _ => none
mutual
/-- the lambdas in the lists that loops walk -/
def lamsS : Stmt → List (Arguments × Expr × Scope)
  | .For _ (.List es _) b _ _ => es.filterMap lamE ++ lamsL b
  | .For _ _ b _ _ => lamsL b
  | .If _ a b _ => lamsL a ++ lamsL b
  | _ => []
def lamsL : List Stmt → List (Arguments × Expr × Scope)
  | [] => []
  | s :: l => lamsS s ++ lamsL l
end
section
variable {X : Cx} {z : Zt} {W : WX}
end
end DL
end
section
set_option Elab.async false
set_option linter.all false
set_option maxRecDepth 100000
set_option maxHeartbeats 2000000
/-! The value layer, part 45: dict(d), dict([(k, v), ..]), keys ints. -/
namespace DL
open PySem PySem.Spec PyProof.Rows L2

section
variable {K : PySem.W.Frag} {mg : Str → Option Value} {z : Zt} {Mu : List Addr} {H : Hp}
end
section
variable {X : Cx} {z : Zt}
end
end DL
end
section
set_option Elab.async false
set_option linter.all false
set_option maxRecDepth 100000
set_option maxHeartbeats 2000000
/-! The value layer, part 46: d.get(k, x). -/
namespace DL
open PySem PySem.Spec PyProof.Rows L2

section
variable {X : Cx} {z : Zt} {W : WX} {ko kk kx : Kd} {eo ek ex : Expr} {fo fk fx : Ep} {apos cpos : Pos}
end
end DL
end
section
set_option Elab.async false
set_option linter.all false
set_option maxRecDepth 100000
set_option maxHeartbeats 2000000
/-! The value layer, part 47: walks by zip(range(a), range(b, c)). -/
namespace ZR
open PySem
open PySem.Sem (wp)
section
variable {prog : Program} {w : World} {A : Around} {E : Value → Shared → Prop} {s : Shared}
end
abbrev rIt (a b : Int) : Obj := { cls := .type "range_iterator", data := .fields #[rawInt a, rawInt (Builtin.Range.rangeSize a b 1), rawInt 1] }
abbrev H1 (h : Heap) (a b : Int) : Heap := h.push (rIt a b)
abbrev H2 (h : Heap) (a b a' b' : Int) : Heap := (H1 h a b).push (rIt a' b')
abbrev H3 (h : Heap) (a b a' b' : Int) : Heap := (H2 h a b a' b').push { cls := .type "tuple", data := .seq #[.ref h.objs.size, .ref (H1 h a b).objs.size] }
abbrev H4 (h : Heap) (a b a' b' : Int) : Heap := (H3 h a b a' b').push { cls := .type "tuple", data := .seq #[.none, .none] }
abbrev H5 (h : Heap) (a b a' b' : Int) : Heap := (H4 h a b a' b').push { cls := .type "zip", data := .fields #[.none, .bool false, .bool false, .ref (H2 h a b a' b').objs.size, .ref (H3 h a b a' b').objs.size] }
section
variable {prog : Program} {w : World} {A : Around} {E : Value → Shared → Prop} {s : Shared}
end
end ZR
end
section
set_option Elab.async false
set_option linter.all false
set_option maxRecDepth 100000
set_option maxHeartbeats 2000000
/-! The value layer, part 48: walks by zip(range(a), range(b, c)): the turns, the rule. -/
namespace DL
open PySem PySem.Spec PyProof.Rows L2

section
variable {X : Cx}
end
def sZipR (f h k : Ep) : Es := fun ρ => do
  let d ← f ρ
  let l ← ofOpt (fR1 d)
  let e ← h ρ
  let e' ← k ρ
  let m ← ofOpt (fR2 e e')
  M.pure (zipD l m)
section
variable {X : Cx} {z : Zt} {W : WX} {pk : Bool} {ka kb kc : Kd} {a b c : Expr} {fa fb fc : Ep} {p pos tpos pr pos1 pr2 pos2 : Pos} {elts : List Expr} {kk : Nat}
end
end DL
end
section
set_option Elab.async false
set_option linter.all false
set_option maxRecDepth 100000
set_option maxHeartbeats 2000000
/-! The value layer, part 49: list(d), sorted(d) of dicts. -/
namespace DL
open PySem PySem.Spec PyProof.Rows L2

section
variable {X : Cx} {z : Zt} {σ : L2.St} {pins : List (Addr × Obj)} {s : Shared} {H : Hp} {Mu : List Addr}
end
section
variable {X : Cx} {z : Zt}
end
end DL
end
section
set_option Elab.async false
set_option linter.all false
set_option maxRecDepth 100000
set_option maxHeartbeats 2000000
/-! The value layer, part 50: several names at once where one is a cell: the values are held by a tuple that is made and unpacked. -/
namespace DL
open PySem PySem.Spec PyProof.Rows L2
section
variable {X : Cx} {n : En} {a b c e : Expr} {fa fb fc : Ep} {px py pq pt pos : Pos} {i j l : Nat} {x y w : Str} {o1 o2 o3 : Bool} {kt k2 : Nat} {pt2 : Pos}
end
end DL
end
section
set_option Elab.async false
set_option linter.all false
set_option maxRecDepth 100000
set_option maxHeartbeats 2000000
/-! The value layer, part 51: repr([x, ..]) where x is one's own. -/
namespace DL
open PySem PySem.Spec PyProof.Rows L2
section
variable {X : Cx} {z : Zt} {W : WX} {pins : List (Addr × Obj)} {σ : L2.St} {H : Hp} {s : Shared} {Mu : List Addr}
theorem RKs.reads2 (I : Inv X pins σ H s) : ∀ {vs : List V} {ds : List D} {us : List Value} {ps : List PyData}, RKs X.K X.mg z Mu H vs ds → Vals vs us → D.pys ds = some ps → ∃ as, ReadsAll s.heap us ps as ∧ (SysD s.heap → sysModules ∉ as)
  | _, _, _, _, .nil, .nil, h => by
    rw [D.pys] at h; cases h
    exact ⟨_, .nil, fun _ => List.not_mem_nil⟩
  | _, _, _, _, .cons r rs, .cons q qs, h => by
    obtain ⟨x, xs, h1, h2, rfl⟩ := pys_cons h
    obtain ⟨as, a1, n1⟩ := PR.reads2 I r q h1
    obtain ⟨bs, b1, n2⟩ := RKs.reads2 I rs qs h2
    exact ⟨_, .cons a1 b1, fun S => S.app (n1 S) (n2 S)⟩
end
end DL
end
section
set_option Elab.async false
set_option linter.all false
set_option maxRecDepth 100000
set_option maxHeartbeats 2000000
/-! The value layer, part 52: dict displays that begin with a star: {**d, k: v}, {**d, **e}; the keys ints. -/
namespace DL
open PySem PySem.Spec PyProof.Rows L2
section
variable {prog : Program} {w : World} {A : Around} {E : Value → Shared → Prop} {s : Shared}
end
section
variable {X : Cx} {z : Zt} {pins : List (Addr × Obj)} {σ : L2.St} {H : Hp} {s : Shared} {Mu : List Addr}
end
end DL
end
section
set_option Elab.async false
set_option linter.all false
set_option maxRecDepth 100000
set_option maxHeartbeats 2000000
/-! The value layer, part 53: {**d, k: v} and {**d, **e} as expressions. -/
namespace DL
open PySem PySem.Spec PyProof.Rows L2
section
variable {K : PySem.W.Frag} {mg : Str → Option Value} {z : Zt} {Mu : List Addr} {H H2 H3 : Hp} {g : G} {a : Addr} {l l' : List (D × D)}
end
section
variable {X : Cx} {z : Zt} {W : WX} {pins : List (Addr × Obj)} {σ : L2.St} {H : Hp} {s : Shared} {Mu : List Addr} {ρ : Env} {g : G}
end
end DL
end
section
set_option Elab.async false
set_option linter.all false
set_option maxRecDepth 100000
set_option maxHeartbeats 2000000
/-! The value layer, part 54: isinstance(x, (A, B)) with two built-in kinds. -/
namespace DL
open PySem PySem.Spec PyProof.Rows L2
section
variable {X : Cx} {z : Zt}
end
end DL
end
section
set_option Elab.async false
set_option linter.all false
set_option maxRecDepth 100000
set_option maxHeartbeats 2000000
/-! The value layer, part 55: x != [] of a list of any items. -/
namespace DL
open PySem PySem.Spec PyProof.Rows L2
def dNeX (a b : D) : Option D := match dNe a b with
  | some d => some d
  | none => match a, b with
    | .lst (_ :: _), .lst [] => some (.bl true)
    | _, _ => none
section
variable {X : Cx} {z : Zt}
theorem op_dNeX (hX : XG X) : DOp X z .new (compareOp .NotEq) dNeX := by
  intro pins s σ H Mu g x y v u dx dy d Q I m G1 rx ry px py hd q
  unfold dNeX at hd
  split at hd
  · rename_i e he
    cases hd
    exact op_dNe hX pins s σ H Mu g x y v u dx dy _ Q I m G1 rx ry px py he q
  · split at hd
    · cases hd
      obtain ⟨a, xs, rfl, h1, r1⟩ := px.lst
      obtain ⟨b, ys, rfl, h2, r2⟩ := py.lst
      cases rx
      cases ry
      obtain ⟨i1, v1, ⟨o1, n1, ho1, hc1, _, hd1⟩, _⟩ := I.list (SqL.of h1)
      obtain ⟨i2, v2, ⟨o2, n2, ho2, hc2, _, hd2⟩, _⟩ := I.list (SqL.of h2)
      refine PySem.SeqAt.RcNeAt.lists_lengths ⟨_, ho1, hc1, _, hd1⟩ ⟨_, ho2, hc2, _, hd2⟩ ?_ ?_ _ _ _ _ ?_
      · have l1 := v1.length
        have l2 := v2.length
        have l3 := r1.length
        have l4 := r2.length
        rw [List.length_cons] at l3
        rw [List.length_nil] at l4
        simp only [List.size_toArray, bne_iff_ne, ne_eq]
        omega
      · have := hX.eq; omega
      · exact ⟨.bl true, H, I, rfl, q _ H Same.refl RK.bl⟩
    · cases hd
theorem dNeX_nil (l : List D) : dNeX (.lst l) (.lst []) = some (.bl (!l.isEmpty)) := by
  cases l with
  | nil => rfl
  | cons x l =>
    unfold dNeX
    show (match dNe (.lst (x :: l)) (.lst []) with | some d => some d | none => some (.bl true)) = some (.bl true)
    cases q : dNe (.lst (x :: l)) (.lst []) with
    | none => rfl
    | some d =>
      obtain ⟨c, hc, rfl⟩ := Option.map_eq_some_iff.mp q
      rcases dEqB_some hc with ⟨a, b, e, _⟩ | hc
      · cases e
      · obtain ⟨p1, p2, h1, h2, _, _, rfl⟩ := dEqP_some hc
        obtain ⟨ps, hp, rfl⟩ := py_lst h1
        obtain ⟨qs, hq, rfl⟩ := py_lst h2
        obtain ⟨y, ys, _, _, rfl⟩ := pys_cons hp
        rw [D.pys] at hq
        cases hq
        rfl
end
end DL
end
section
set_option Elab.async false
set_option linter.all false
set_option maxRecDepth 100000
set_option maxHeartbeats 2000000
/-! The value layer, part 56: tuples whose first item is new. -/
namespace DL
open PySem PySem.Spec PyProof.Rows L2
section
variable {K : PySem.W.Frag} {mg : Str → Option Value} {z : Zt} {Mu : List Addr} {H0 H H' : Hp} {v : V} {d : D} {g g' : G}
end
section
variable {X : Cx} {n : En} {z : Zt} {W : WX} {ka : Kd} {e e1 e2 a b : Expr} {f f1 f2 : Ep} {pos tpos : Pos}
end
end DL
end
section
set_option Elab.async false
set_option linter.all false
set_option maxRecDepth 100000
set_option maxHeartbeats 2000000
/-! The value layer, part 57: f(..).clear() of a new list. -/
namespace DL
open PySem PySem.Spec PyProof.Rows L2
section
variable {X : Cx} {n : En} {o : Expr} {f : Ep} {apos cpos pos : Pos}
end
end DL
end
section
set_option Elab.async false
set_option linter.all false
set_option maxRecDepth 100000
set_option maxHeartbeats 2000000
/-! The value layer, part 58: x.clear() of a dict of one's own. -/
namespace DL
open PySem PySem.Spec PyProof.Rows L2
section
variable {X : Cx} {n : En} {i : Nat} {s : Str} {p1 p3 cpos pos : Pos}
end
end DL
end
section
set_option Elab.async false
set_option linter.all false
set_option maxRecDepth 100000
set_option maxHeartbeats 2000000
/-! The value layer, part 59: lambdas of a law beside those of another def. -/
namespace DL
open PySem PySem.Spec PyProof.Rows L2
section
variable {X : Cx} {z : Zt} {W : WX}
end
end DL
end
section
set_option Elab.async false
set_option linter.all false
set_option maxRecDepth 100000
set_option maxHeartbeats 2000000
/-! The value layer, part 60: dict([(k, v), ..]), the keys unlike tuples of ints. -/
namespace DL
open PySem PySem.Spec PyProof.Rows L2
section
variable {X : Cx} {z : Zt}
end
end DL
end
section
set_option Elab.async false
set_option linter.all false
set_option maxRecDepth 100000
set_option maxHeartbeats 2000000
/-! The value layer, part 61: a def that calls itself: the ground; min, max of three numbers. -/
namespace DL
open PySem PySem.Spec PyProof.Rows L2
section
variable {gd : Bool} {P : Program} {w : World} {K : PySem.W.Frag} {mg : Str → Option Value} {base : Heap} {T : List (Addr × Str)} {k : Nat} {name : Str} {st : Stmt} {N ps : List Str} {kr : Kd} {t : Ss} {cf : List D → M D}
end
section
variable {X : Cx} {z : Zt}
theorem RKs.three {K : PySem.W.Frag} {mg : Str → Option Value} {H : Hp} {Mu : List Addr} {xs : List V} {a b c : D} (r : RKs K mg z Mu H xs [a, b, c]) : ∃ u v w, xs = [u, v, w] ∧ PR K mg z Mu H u a ∧ PR K mg z Mu H v b ∧ PR K mg z Mu H w c := by
  cases r with
  | cons r1 r =>
  cases r with
  | cons r2 r =>
  cases r with
  | cons r3 r =>
  cases r
  exact ⟨_, _, _, rfl, r1, r2, r3⟩
end
end DL
end
section
set_option Elab.async false
set_option linter.all false
set_option maxRecDepth 100000
set_option maxHeartbeats 2000000
/-! The value layer, part 62: an own exception class whose __init__ says super().__init__('..') and keeps its argument. -/
namespace DL
open PySem PySem.Spec PyProof.Rows L2
/-- the body of such an __init__ -/
def IniBody (self fld : Str) (body : List Stmt) : Prop := ∃ (msg : Str) (j : Nat) (p1 p2 p3 p4 p5 p6 p7 p8 p9 p10 : Pos),
  body = [.Expr (.Call (.Attribute (.Call (.Name "super" p1) [] [] p2) "__init__" p3) [.Constant (.str msg) j p4] [] p5) p6, .Assign [.Attribute (.Name self p7) fld p8] (.Name fld p9) p10] ∧ (p3.endLine == p5.line) = true
/-- what the written part says of the class C, its __init__ fI and its field -/
structure IniF (P : Program) (K : PySem.W.Frag) (mg : Str → Option Value) (C fI cda cc : Addr) (fld : Str) (qual : Str) (params : Arguments) (body : List Stmt) (scope : Scope) (dV kV doc pm ct : Value) (an : Option Addr) : Prop where
  ox : OexC K C
  lk : ∃ oc od osl, K.lookup fI = some ⟨oc, od, .func (PySem.W.ksFn "__init__" qual params body scope dV kV doc pm an (.ref cda) ct cc), osl⟩
  cd : PySem.W.codeIn K (.ref cda) qual = true
  code : ∃ ccl cdd vs ccs file tf, K.lookup cda = some ⟨ccl, cdd, .fields vs, ccs⟩ ∧ vs[2]? = some (.str file tf) ∧ ((P.main.file : Str) == file) = true
  cell : ∃ cl cld csl, K.lookup cc = some ⟨cl, cld, .cell (some (.ref C)), csl⟩
  sub : PySem.W.mroIn K C (.ref C) = some true
  sup : mg "super" = none
  top : (P.main.scope.names.lookup ("super" : Str)).isSome = false
  opq : PySem.W.nsIn K cStatics "thirdparty.any" = some none
  alo : PySem.W.ks_superIn K C C "__init__" = some (some (.builtin "ValueError.__init__"))
  ve : PySem.W.subIn K (.ref C) (.type "ValueError") = some true
  fno : PySem.W.findIn K (.ref C) fld = some none
  par : params.posonlyargs = [] ∧ ∃ a1 a2, params.args = [a1, a2] ∧ a1.arg = "self" ∧ a2.arg = fld
  bd : IniBody "self" fld body
  k1 : scope.names.lookup ("super" : Str) = some .globalImplicit
  k2 : scope.names.lookup ("__class__" : Str) = some .free
  k3 : scope.names.lookup ("self" : Str) = some .local
  k4 : scope.names.lookup fld = some .local
  k5 : ∀ x ∈ scope.names, x.2 ≠ .cell
  k6 : ∀ x ∈ scope.names, x.2 = .free → x.1 = "__class__"
  kf : scope.kind = .function
  co : scope.isCoroutine = false
  gen : scope.isGenerator = false
  ne : fld ≠ "self"
  nd1 : (fld == ("__debug__" : Str)) = false
  nd2 : (fld == ("__classdict__" : Str)) = false
section
variable {P : Program} {w : World} {K : PySem.W.Frag} {mg : Str → Option Value} {base : Heap} {C fI cda cc : Addr} {fld qual : Str} {params : Arguments} {body : List Stmt} {scope : Scope} {dV kV doc pm ct : Value} {an : Option Addr} {CX : CXT} {k : Nat}
end
/-! ### raise C(e) -/
def sRaiseV (c fld : Str) (f : Ep) : Ss := fun ρ g => (f ρ g).bind fun d g' => .exc c fld [d] g'
end DL
end
section
set_option Elab.async false
set_option linter.all false
set_option maxRecDepth 100000
set_option maxHeartbeats 2000000
/-! The value layer, part 63: isinstance of an exception with a field; its field. -/
namespace DL
open PySem PySem.Spec PyProof.Rows L2
section
variable {X : Cx} {z : Zt} {W : WX}
/-! ### e.f -/
end
end DL
end
section
set_option Elab.async false
set_option linter.all false
set_option maxRecDepth 100000
set_option maxHeartbeats 2000000
/-! The value layer, part 64: what the top tells of a class whose __init__ keeps a field. -/
namespace DL
open PySem PySem.Spec PyProof.Rows L2
structure IniT (fld qual : Str) (params : Arguments) (body : List Stmt) (scope : Scope) : Prop where
  par : params.posonlyargs = [] ∧ ∃ a1 a2, params.args = [a1, a2] ∧ a1.arg = "self" ∧ a2.arg = fld
  bd : IniBody "self" fld body
  k1 : scope.names.lookup ("super" : Str) = some .globalImplicit
  k2 : scope.names.lookup ("__class__" : Str) = some .free
  k3 : scope.names.lookup ("self" : Str) = some .local
  k4 : scope.names.lookup fld = some .local
  k5 : ∀ x ∈ scope.names, x.2 ≠ .cell
  k6 : ∀ x ∈ scope.names, x.2 = .free → x.1 = "__class__"
  kf : scope.kind = .function
  co : scope.isCoroutine = false
  gen : scope.isGenerator = false
  ne : fld ≠ "self"
  nd1 : (fld == ("__debug__" : Str)) = false
  nd2 : (fld == ("__classdict__" : Str)) = false
  ne0 : fld ≠ Str.empty
  bnd : ∀ (dV kV doc pm cdv ct : Value) (an : Option Addr) (cc : Addr) (us : List Value), us.length = 2 → bindArgs (PySem.W.ksFn "__init__" qual params body scope .none kV doc pm an cdv ct cc) ⟨us, []⟩ = pure ((["self", fld] : List Str).zip us)
end DL
end
section
set_option Elab.async false
set_option linter.all false
set_option maxRecDepth 100000
set_option maxHeartbeats 2000000
/-! The value layer, part 65: the empty tuple times a number. -/
namespace DL
open PySem PySem.Spec PyProof.Rows L2
end DL
end
section
set_option Elab.async false
set_option linter.all false
set_option maxRecDepth 100000
set_option maxHeartbeats 2000000
/-! The value layer, part 66: calls with arguments that are only looked at, whose results are tuples of plain values. -/
namespace DL
open PySem PySem.Spec PyProof.Rows L2
mutual
/-- no part of it is a list, a dict, a set -/
def D.tupy : D → Bool
  | .tup l => D.tupys l
  | .non => true
  | .bl _ => true
  | .int _ => true
  | .str _ => true
  | _ => false
def D.tupys : List D → Bool
  | [] => true
  | d :: l => D.tupy d && D.tupys l
end
section
variable {K : PySem.W.Frag} {mg : Str → Option Value} {z : Zt} {Mu Mc : List Addr} {H : Hp}
mutual
theorem Rep.tupy (m : MuOk z Mu H) : ∀ {v : V} {d : D}, Rep K mg z Mc H v d → d.tupy = true → Rep K mg z Mu H v d
  | _, _, .non, _ => .non
  | _, _, .bl _, _ => .bl _
  | _, _, .int _, _ => .int _
  | _, _, .str _, _ => .str _
  | _, _, .tup n h r, t => .tup (fun w => let ⟨ob, _, e⟩ := h; m.nt _ w ob _ e) h (Reps.tupy m r (by rw [D.tupy] at t; exact t))
  | _, .lst _, _, t => by rw [D.tupy] at t <;> first | cases t | (intros; nofun)
  | _, .dct _, _, t => by rw [D.tupy] at t <;> first | cases t | (intros; nofun)
  | _, .set _, _, t => by rw [D.tupy] at t <;> first | cases t | (intros; nofun)
  | _, .st, _, t => by rw [D.tupy] at t <;> first | cases t | (intros; nofun)
  | _, .scr _, _, t => by rw [D.tupy] at t <;> first | cases t | (intros; nofun)
  | _, .ty _, _, t => by rw [D.tupy] at t <;> first | cases t | (intros; nofun)
  | _, .fn _, _, t => by rw [D.tupy] at t <;> first | cases t | (intros; nofun)
  | _, .exc _ _ _, _, t => by rw [D.tupy] at t <;> first | cases t | (intros; nofun)
  | _, .lam _, _, t => by rw [D.tupy] at t <;> first | cases t | (intros; nofun)
theorem Reps.tupy (m : MuOk z Mu H) : ∀ {vs : List V} {ds : List D}, Reps K mg z Mc H vs ds → D.tupys ds = true → Reps K mg z Mu H vs ds
  | _, _, .nil, _ => .nil
  | _, _, .cons r rs, t => by
    rw [D.tupys, Bool.and_eq_true] at t
    exact .cons (Rep.tupy m r t.1) (Reps.tupy m rs t.2)
end
theorem tupy_box {d : D} (h : d.tupy = true) : d.box = false := by
  cases d <;> first | rfl | (rw [D.tupy] at h <;> first | cases h | (intros; nofun))
theorem RK.tupy {k : Kd} {H0 : Hp} {v : V} {d : D} (m : MuOk z Mu H) (hs : d.tupy = true) (r : RK K mg z k H0 Mc H v d) : Rep K mg z Mu H v d := by
  have hb := tupy_box hs
  cases k with
  | sh => exact Rep.tupy m r hs
  | new =>
    have r' : if d.box = true then ∃ a, v = .ref a ∧ ¬ Oc H0 a ∧ Cont K mg z (a :: Mc) H a d else Rep K mg z Mc H v d := r
    rw [if_neg (by rw [hb]; exact Bool.false_ne_true)] at r'
    exact Rep.tupy m r' hs
  | peek =>
    rcases (show PR K mg z Mc H v d from r) with r | ⟨a, rfl, _, _, _, _, c⟩
    · exact Rep.tupy m r hs
    · cases c <;> (rw [D.tupy] at hs <;> first | cases hs | (intros; nofun))
  | nt =>
    have hd : (∃ d0 ds, d = .tup (d0 :: ds)) ∨ ¬ ∃ d0 ds, d = .tup (d0 :: ds) := Classical.em _
    rcases hd with ⟨d0, ds, rfl⟩ | hd
    · obtain ⟨b, x, xs, rfl, nb, hb, n, rs⟩ := r
      rw [D.tupy, D.tupys, Bool.and_eq_true] at hs
      rw [if_neg (by rw [tupy_box hs.1]; exact Bool.false_ne_true)] at n
      exact .tup (fun w => let ⟨ob, _, e⟩ := hb; m.nt _ w ob _ e) hb (.cons (Rep.tupy m n hs.1) (Reps.tupy m rs hs.2))
    · unfold RK at r
      dsimp only at r
      split at r
      · exact absurd ⟨_, _, rfl⟩ hd
      · exact Rep.tupy m r hs
  | nn => exact Rep.tupy m r.1 hs
end
section
variable {X : Cx} {z : Zt} {W : WX} {gd : Bool} {k : Nat} {f : Addr} {fd : FuncData} {ps : List Str} {kr : Kd} {cf : List D → M D} {x : Str} {p pos : Pos} {e : Expr} {es : List Expr} {fs : Es}
end
section
variable {gd : Bool} {X : Cx} {z : Zt} {W : WX} {j k : Nat} {st : Stmt} {ps ks : List Str} {kr : Kd} {cf : List D → M D} {x : Str} {p pos : Pos} {e : Expr} {es : List Expr} {fs gs : Es} {kws : List Keyword}
end
end DL
end
section
set_option Elab.async false
set_option linter.all false
set_option maxRecDepth 100000
set_option maxHeartbeats 2000000
/-! The value layer, part 67: list(zip(a, b)) of two tuples. -/
namespace ZU
open PySem
open PySem.Sem (wp)
section
variable {prog : Program} {w : World} {A : Around} {E : Value → Shared → Prop} {s : Shared} {z TI TO T i1 i2 l1 l2 : Addr} {f : Bool} {oT : Obj} {k1 k2 : Nat} {xs ys : Array Value}
end
end ZU
namespace DL
open PySem PySem.Spec PyProof.Rows L2
section
variable {prog : Program} {w : World} {A : Around} {E : Value → Shared → Prop} {s : Shared}
/-- a zip of two tuples, at its i-th turn, what it gave being kept -/
structure ZStT (z TI TO i1 i2 l1 l2 S : Addr) (xs ys : Array Value) (i : Nat) (h : Heap) : Prop where
  ti : IsPair h TI (.ref i1) (.ref i2)
  a1 : h.IsTupleIter i1 l1 i
  a2 : h.IsTupleIter i2 l2 i
  b1 : h.IsTuple l1 xs
  b2 : h.IsTuple l2 ys
  zo : (IsZip h z TI TO .none ∧ ∃ a b, IsPair h TO a b) ∨ ∃ T f oT, IsZipHeld h z TI TO T f ∧ h.get? T = some oT ∧ T ≠ z ∧ T ≠ i1 ∧ T ≠ i2 ∧ T ≠ S
theorem ZStT.keep {z TI TO i1 i2 l1 l2 S : Addr} {xs ys : Array Value} {i : Nat} {h h' : Heap} (st : ZStT z TI TO i1 i2 l1 l2 S xs ys i h) {B : Addr} (O : ZOff z TI TO i1 i2 l1 l2 S B) (k : ∀ b o, b ≠ S → h.get? b = some o → h'.get? b = some o) : ZStT z TI TO i1 i2 l1 l2 S xs ys i h' := by
  obtain ⟨h1, h2, h3, h4, h5, h6⟩ := st
  refine ⟨k _ _ (Ne.symm O.sTI) h1, h2.at fun o e => k _ o (Ne.symm O.s1) e, h3.at fun o e => k _ o (Ne.symm O.s2) e, h4.at fun o e => k _ o (Ne.symm O.sl1) e, h5.at fun o e => k _ o (Ne.symm O.sl2) e, ?_⟩
  rcases h6 with ⟨hz, a, b, hTO⟩ | ⟨T, f, oT, hz, hT, r1, r2, r3, r4⟩
  · exact .inl ⟨k _ _ (Ne.symm O.sz) hz, a, b, k _ _ (Ne.symm O.sTO) hTO⟩
  · exact .inr ⟨T, f, oT, k _ _ (Ne.symm O.sz) hz, k _ _ r4 hT, r1, r2, r3, r4⟩
end

section
variable {X : Cx} {z : Zt} {W : WX} {a b : Expr} {fs : Es} {p p2 q pos : Pos}
end
end DL
end
section
set_option Elab.async false
set_option linter.all false
set_option maxRecDepth 100000
set_option maxHeartbeats 2000000
/-! The value layer, part 68: x.index(y), x.count(y) of lists and tuples. -/
namespace DL
open PySem PySem.Spec PyProof.Rows L2

section
variable {X : Cx} {z : Zt} {W : WX} {ko kx : Kd} {eo ex : Expr} {fo fx : Ep} {apos cpos : Pos}
def rowL (c : D) : Option D := match c with
  | .lst l => some (.lst l)
  | .tup l => some (.tup l)
  | _ => none
def eRow (op : D → D → Option D) (fo fx : Ep) : Ep := fun ρ => do
  let c ← fo ρ
  let c ← ofOpt (rowL c)
  let x ← fx ρ
  ofOpt (op c x)
end
end DL
end
section
set_option Elab.async false
set_option linter.all false
set_option maxRecDepth 100000
set_option maxHeartbeats 2000000
/-! The value layer, part 69: defs as values, calls of a name that holds one. -/
namespace DL
open PySem PySem.Spec PyProof.Rows L2

/-- a def of the text as a value -/
theorem de_fnv {X : Cx} {z : Zt} {W : WX} {x : Str} {st : Stmt} {pos : Pos} (F : IsFn X.K X.mg x st) (hg : Gl X x) (hd : (x == ("__debug__" : Str)) = false := by decide) : DE X z W .new (.Name x pos) (eC (.fn x)) := by
  obtain ⟨f, _, _, _, _, _, _, _, _, _, h1, _⟩ := F
  exact de_glob_fn hg h1 hd
/-- the def that a value names -/
def fnT (T : List (Str × (List D → M D))) : D → Option (List D → M D)
  | .fn x => T.lookup x
  | _ => none
def eCallV (T : List (Str × (List D → M D))) (fv : Ep) (fs : Es) : Ep := fun ρ => do
  let d ← fv ρ
  let cf ← ofOpt (fnT T d)
  let ds ← fs ρ
  cf ds
/-- a def of m parameters that may be called -/
def CalV (A : Around) (base : Heap) (P : Program) (w : World) (K : PySem.W.Frag) (mg : Str → Option Value) (T : List (Addr × Str)) (k m : Nat) (p : Str × (List D → M D)) : Prop :=
  ∃ (f : Addr) (fd : FuncData) (ps : List Str) (kr : Kd) (gd : Bool), mg p.1 = some (.ref f) ∧ PySem.W.keepIn K (.ref f) = true ∧ (gd = true → GdOk A base) ∧ DFn gd P w K mg base T k f fd ps kr p.2 ∧ Binds K fd ps [] ∧ ps.length = m ∧ kr ≠ .peek
theorem calv_of {A : Around} {gd : Bool} {P : Program} {w : World} {K : PySem.W.Frag} {mg : Str → Option Value} {base : Heap} {T : List (Addr × Str)} {k j m : Nat} {x : Str} {st : Stmt} {ps : List Str} {kr : Kd} {cf : List D → M D}
    (C : Cal gd P w K mg base T j x st ps kr cf) (hb : BindsT x st ps) (hgd : gd = true → GdOk A base) (hj : j ≤ k) (hm : ps.length = m := by rfl) (hk : kr ≠ .peek := by intro w; cases w) : CalV A base P w K mg T k m (x, cf) := by
  obtain ⟨f, kV, dc, pm, an, cd, ct, h1, h2, F⟩ := C
  exact ⟨f, _, ps, kr, gd, h1, h2, hgd, F.mono hj, .all (hb kV dc pm an cd ct), hm, hk⟩
def CalVs (A : Around) (base : Heap) (P : Program) (w : World) (K : PySem.W.Frag) (mg : Str → Option Value) (T : List (Addr × Str)) (k m : Nat) (tbl : List (Str × (List D → M D))) : Prop := ∀ p ∈ tbl, CalV A base P w K mg T k m p
theorem cvs_nil {A : Around} {base : Heap} {P : Program} {w : World} {K : PySem.W.Frag} {mg : Str → Option Value} {T : List (Addr × Str)} {k m : Nat} : CalVs A base P w K mg T k m [] := fun _ h => nomatch h
theorem cvs_cons {A : Around} {base : Heap} {P : Program} {w : World} {K : PySem.W.Frag} {mg : Str → Option Value} {T : List (Addr × Str)} {k m : Nat} {p : Str × (List D → M D)} {tbl : List (Str × (List D → M D))} (h : CalV A base P w K mg T k m p) (t : CalVs A base P w K mg T k m tbl) : CalVs A base P w K mg T k m (p :: tbl) := fun q hq => by
  rcases List.mem_cons.mp hq with rfl | hq
  · exact h
  · exact t q hq
theorem lookup_mem {α β : Type} [BEq α] [LawfulBEq α] {x : α} {y : β} : ∀ {l : List (α × β)}, l.lookup x = some y → (x, y) ∈ l
  | [], h => by cases h
  | (a, b) :: l, h => by
    rw [List.lookup_cons] at h
    split at h
    · rename_i e
      cases h
      rw [eq_of_beq e]
      exact List.mem_cons_self
    · exact List.mem_cons_of_mem _ (lookup_mem h)
theorem PR.fn {K : PySem.W.Frag} {mg : Str → Option Value} {z : Zt} {Mu : List Addr} {H : Hp} {v : V} {x : Str} (r : PR K mg z Mu H v (.fn x)) : ∃ f, v = .ref f ∧ mg x = some (.ref f) := by
  rcases r with r | ⟨_, _, _, _, _, _, c⟩
  · cases r with
    | fn h => exact ⟨_, rfl, h⟩
  · cases c
theorem RK.to_sh {K : PySem.W.Frag} {mg : Str → Option Value} {z : Zt} {k : Kd} {H0 H : Hp} {Mu : List Addr} {v : V} {d : D} {g : G} (hk : k ≠ .peek) (r : RK K mg z k H0 Mu H v d) (m0 : MuOk z Mu H0) (m : MuOk z Mu H) (G1 : GOk z H g) : RK K mg z .sh H0 Mu H v d := by
  cases k with
  | sh => exact r
  | new => exact RK.sh_of_new r m0 m G1
  | peek => exact absurd rfl hk
  | nt => exact RK.sh_of_nt r m0 m G1
  | nn => exact r.1
end DL
end
section
set_option Elab.async false
set_option linter.all false
set_option maxRecDepth 100000
set_option maxHeartbeats 3200000
/-! The value layer, part 70: sorted(set(x)) of a list or a tuple of numbers. -/
namespace DL
open PySem PySem.Spec PyProof.Rows L2
section
variable {P : Program} {w : World} {A : Around} {E : Value → Shared → Prop} {s : Shared}
end
end DL
end
section
set_option Elab.async false
set_option linter.all false
set_option maxRecDepth 100000
set_option maxHeartbeats 3200000
namespace DL
open PySem PySem.Spec PyProof.Rows L2
section
variable {X : Cx} {z : Zt} {W : WX} {k : Kd} {a : Expr} {f : Ep} {p p2 q pos : Pos}
end
end DL
end
section
set_option Elab.async false
set_option linter.all false
set_option maxRecDepth 100000
set_option maxHeartbeats 2000000
/-! The value layer, part 72: three names at once where one is a cell. -/
namespace DL
open PySem PySem.Spec PyProof.Rows L2
section
variable {X : Cx} {n : En} {a b c e : Expr} {fa fb fc : Ep} {px py pq pt pos : Pos} {i j l : Nat} {x y w : Str} {o1 o2 o3 : Bool} {kt k2 : Nat} {pt2 : Pos}
end
end DL
end
section
set_option Elab.async false
set_option linter.all false
set_option maxRecDepth 100000
set_option maxHeartbeats 2000000
/-! The value layer, part 73: zip of two rows of whatever kinds. -/
namespace ZM
open PySem
open PySem.Sem (wp)
/-- an iterator it over a row l: St tells where it stands -/
structure Walk1 (P : Program) (w : World) (it l : Addr) (xs : Array Value) (St : Nat → Heap → Prop) : Prop where
  keep : ∀ {k : Nat} {a : Addr} {h h' : Heap}, it ≠ a → l ≠ a → Heap.ExtBut a h h' → St k h → St k h'
  item : ∀ {A : Around} {E : Value → Shared → Prop} {s : Shared} {k : Nat} {x : Value} {Q : Value → Shared → Prop}, St k s.heap → xs[k]? = some x → (∀ h', St (k + 1) h' → Heap.SameBut it s.heap h' → Q x { s with heap := h' }) → wpAny (model P w) A (Builtin.SmallTypes.nextOf (.ref it)) Q E s
  last : ∀ {A : Around} {E : Value → Shared → Prop} {s : Shared} {k : Nat} {Q : Value → Shared → Prop}, A.handled = none → St k s.heap → xs[k]? = none → (∀ h' e, Heap.ExtBut it s.heap h' → (∃ o, h'.get? e = some o ∧ o.cls = .type "StopIteration") → E (.ref e) { s with heap := h' }) → wpAny (model P w) A (Builtin.SmallTypes.nextOf (.ref it)) Q E s
section
variable {P : Program} {w : World}
end
section
variable {P : Program} {w : World} {A : Around} {E : Value → Shared → Prop} {s : Shared} {z TI TO i1 i2 l1 l2 : Addr} {k1 k2 : Nat} {xs ys : Array Value} {x y a b : Value} {S1 S2 : Nat → Heap → Prop}
end
abbrev H1 (h : Heap) (a : Obj) : Heap := h.push a
abbrev H2 (h : Heap) (a b : Obj) : Heap := (H1 h a).push b
abbrev H3 (h : Heap) (a b : Obj) : Heap := (H2 h a b).push { cls := .type "tuple", data := .seq #[.ref h.objs.size, .ref (H1 h a).objs.size] }
abbrev H4 (h : Heap) (a b : Obj) : Heap := (H3 h a b).push { cls := .type "tuple", data := .seq #[.none, .none] }
abbrev H5 (h : Heap) (a b : Obj) : Heap := (H4 h a b).push { cls := .type "zip", data := .fields #[.none, .bool false, .bool false, .ref (H2 h a b).objs.size, .ref (H3 h a b).objs.size] }
section
variable {prog : Program} {w : World} {A : Around} {E : Value → Shared → Prop} {s : Shared}
end
end ZM
end
section
set_option Elab.async false
set_option linter.all false
set_option maxRecDepth 100000
set_option maxHeartbeats 2000000
/-! The value layer, part 74: for x, y in zip(a tuple, a list). -/
namespace DL
open PySem PySem.Spec PyProof.Rows L2
section
variable {P : Program} {w : World} {K : PySem.W.Frag} {tpos : Pos} {a b zz TI TO i1 i2 : Addr}
end
section
variable {X : Cx} {z : Zt} {W : WX} {pk : Bool} {a b : Expr} {fa fb : Ep} {p pos tpos : Pos} {elts : List Expr} {kk : Nat}
end
end DL
end
section
set_option Elab.async false
set_option linter.all false
set_option maxRecDepth 100000
set_option maxHeartbeats 2000000
/-! The value layer, part 75: x.pop(k) as a statement, x one's own dict of whole numbers, k one of its keys. -/
namespace DL
open PySem PySem.Spec PyProof.Rows L2
section
variable {K : PySem.W.Frag} {mg : Str → Option Value} {z : Zt} {Mu : List Addr} {H : Hp}
end
section
variable {X : Cx} {z : Zt} {Mu : List Addr} {H : Hp} {pins : List (Addr × Obj)} {σ : L2.St} {s : Shared}
end
section
variable {X : Cx} {n : En} {ka : Kd} {a : Expr} {fa : Ep} {i : Nat} {s : Str} {p1 p3 cpos pos : Pos}
end
end DL
end
section
set_option Elab.async false
set_option linter.all false
set_option maxRecDepth 100000
set_option maxHeartbeats 2000000
/-! The value layer, part 76: a def that returns a new list whose first item is new, too (Kd.nn): statements beside which something stands. -/
namespace DL
open PySem PySem.Spec PyProof.Rows L2

abbrev Ph := Env → L2.St → Hp → Prop
/-- what stands goes on standing -/
structure StE (n : En) (Φ : Ph) : Prop where
  ext : ∀ ρ σ H H' g g', Φ ρ σ H → GOk n.z H g → Ext n.z H H' → GOk n.z H' g' → Φ ρ σ H'
structure Stab (n : En) (Φ : Ph) (js : List Nat) : Prop extends StE n Φ where
  tch : ∀ is σ σ' ρ ρ' H, Tch is σ σ' ρ ρ' → (∀ j ∈ js, j ∉ is) → Φ ρ σ H → Φ ρ' σ' H

section
variable {X : Cx} {n : En} {Φ : Ph} {st : Stmt} {sts body : List Stmt} {k ka : Kd} {e a b tg iter c : Expr} {f fb : Ep} {tc : Et} {t u tb : Ss} {pos px py pt p p1 p3 : Pos} {js is : List Nat} {fi : Es} {tt : D → Env → Option Env} {gt : TG}
end

/-! ### the first item of one's own list is new -/
section
variable {X : Cx} {n : En} {k ka : Kd} {e a b : Expr} {f fa fb : Ep} {pos px py pt p p1 p3 : Pos} {i j : Nat} {x y s : Str} {kt k2 : Nat} {pt2 : Pos}
end
end DL
end
section
set_option Elab.async false
set_option linter.all false
set_option maxRecDepth 100000
set_option maxHeartbeats 2000000
/-! The value layer, part 77: a new list whose first item is new: the first item is changed, then the list. -/
namespace DL
open PySem PySem.Spec PyProof.Rows L2

section
variable {K : PySem.W.Frag} {mg : Str → Option Value} {z : Zt} {P : Snap} {Mu Mb : List Addr} {H H' : Hp} {v : V} {d : D} {σ : L2.St} {ρ ρ' : Env} {g g' : G}
/-- two new addresses are barred -/
theorem EnvOk.two {a b : Addr} (E : EnvOk K mg z Mu H σ ρ) (G1 : GOk z H g) (e : Ext z H H') (G2 : GOk z H' g') (na : ¬ Oc H a) (nb : ¬ Oc H b) (ta : Oc H' a) (tb : Oc H' b) (ca : ∀ q, H' a ≠ some (LamX.CodeO a q)) (cb : ∀ q, H' b ≠ some (LamX.CodeO b q)) (ua : ∀ o xs, H' a ≠ some (.frz o (.tup xs))) (ub : ∀ o xs, H' b ≠ some (.frz o (.tup xs))) : EnvOk K mg z (b :: a :: Mu) H' σ ρ := by
  have E1 := E.ext G1 e G2
  have up : ∀ {c : Addr}, c ∈ Mu → c ∈ b :: a :: Mu := fun h => List.mem_cons_of_mem _ (List.mem_cons_of_mem _ h)
  refine ⟨E.len, ⟨up E.mu.p, up E.mu.l, up E.mu.c, fun c hc => ?_, fun c hc q => ?_, fun c hc ob xs => ?_⟩, fun j t d' q => ?_, E.sep⟩
  · rcases List.mem_cons.mp hc with rfl | hc
    · exact tb
    rcases List.mem_cons.mp hc with rfl | hc
    · exact ta
    exact E1.mu.at_ c hc
  · rcases List.mem_cons.mp hc with rfl | hc
    · exact cb q
    rcases List.mem_cons.mp hc with rfl | hc
    · exact ca q
    exact E1.mu.nc c hc q
  · rcases List.mem_cons.mp hc with rfl | hc
    · exact ub ob xs
    rcases List.mem_cons.mp hc with rfl | hc
    · exact ua ob xs
    exact E1.mu.nt c hc ob xs
  · obtain ⟨w, q1, q2⟩ := E.val j t d' q
    refine ⟨w, q1, q2.mono (fun c ev et => ?_) (e.m E.mu.p E.mu.l) fun c hu h w => ?_⟩
    · subst et
      obtain ⟨c', ev', hc', m1, m2, m3, _⟩ := id q2
      have := ev.symm.trans ev'
      cases this
      exact ⟨fun u hu nu => e.to c u hu nu m1 m2, up hc'⟩
    · rcases List.mem_cons.mp w with rfl | w
      · exact nb hu
      rcases List.mem_cons.mp w with rfl | w
      · exact na hu
      exact h w
/-- a local is forgotten in what is known -/
theorem EnvOk.drop {i : Nat} (E : EnvOk K mg z Mu H σ ρ) : EnvOk K mg z Mu H σ (ρ.set i none) := by
  have back : ∀ {j : Nat} {t : Bool} {d1 : D}, (ρ.set i none)[j]? = some (some (t, d1)) → ρ[j]? = some (some (t, d1)) := fun {j t d1} q => by
    by_cases hj : i = j
    · subst hj
      have hi : i < ρ.length := by
        have h := (List.getElem?_eq_some_iff.mp q).1
        rwa [List.length_set] at h
      rw [List.getElem?_set_self hi] at q
      cases q
    · rw [List.getElem?_set_ne hj] at q; exact q
  exact ⟨by rw [List.length_set]; exact E.len, E.mu, fun j t d q => E.val j t d (back q), fun j k d d' a q1 q2 => E.sep j k d d' a (back q1) (back q2)⟩
end

/-- a is held barred, by no other local -/
structure HB (X : Cx) (n : En) (Mb : List Addr) (ρ : Env) (σ : L2.St) (H : Hp) : Prop where
  env : EnvOk X.K X.mg n.z Mb H σ ρ
  sub : ∀ b ∈ n.p.M, b ∈ Mb
  km : ∀ b, Oc n.p.kH b → b ∉ n.p.kM → b ∉ Mb
structure H1 (n : En) (Mb : List Addr) (a : Addr) (ρ : Env) (σ : L2.St) : Prop where
  am : a ∈ Mb
  p : a ≠ n.z.p
  l : a ≠ n.z.l
  c : a ≠ n.z.c
  n0 : ¬ Oc n.p.H a
  f : ∀ (j : Nat) (d' : D), ρ[j]? = some (some (true, d')) → σ[j]? ≠ some (some (.ref a))
section
variable {X : Cx} {n : En} {k ka : Kd} {e a b : Expr} {f fa fb fe : Ep} {pos px py pt p p1 p2 p3 p4 cpos : Pos} {i j : Nat} {x y s : Str} {w0 w1 : Nat}
end
end DL
end
section
set_option Elab.async false
set_option linter.all false
set_option maxRecDepth 100000
set_option maxHeartbeats 2000000
/-! The value layer, part 78: lambdas with parameters as values, called by a name that holds them. -/
namespace DL
open PySem PySem.Spec PyProof.Rows L2

theorem clo_nofree (cells : List (Str × Addr)) : ∀ (names : List (Str × NameKind)), (∀ y ∈ names, y.2 ≠ .free) → cloFrom cells names [] = [] := by
  intro names h
  cases hc : cloFrom cells names [] with
  | nil => rfl
  | cons p l =>
    have hm : p ∈ cloFrom cells names [] := by rw [hc]; exact List.mem_cons_self
    obtain ⟨y, c⟩ := p
    rcases cloFrom_mem hm with hm | ⟨h1, h2⟩
    · cases hm
    · exact absurd rfl (h _ h1)
section
variable {X : Cx} {z : Zt} {W : WX}
/-- a lambda with parameters as a value -/
theorem de_lamP {cd tp : Addr} {pr : Arguments} {bd : Expr} {sco : Scope} {pos : Pos} {i : Nat} {N ps : List Str} {lms : List (Arguments × Expr × Scope)} (hL : LamZ X z lms) (tb : LamX.TabB X.base X.mg cd tp) (own : X.env.code = .ref cd) (hT : z.T = [(tp, X.env.qual ++ "<lambda>")])
    (S : FnScope N ps sco) (zm : lms[i]? = some (pr, bd, sco)) (dflt : defaultsOf pr X.env = ([], []) := by rfl) : DE X z W .sh (.Lambda pr bd sco pos) (eC (.lam i)) := by
  have isIn : (tp, X.env.qual ++ "<lambda>") ∈ z.T := by rw [hT]; exact List.mem_cons_self
  have one : ∀ p ∈ z.T, p.1 = tp → p.2 = X.env.qual ++ "<lambda>" := fun q hq _ => by rw [hT] at hq; rw [List.mem_singleton.mp hq]
  have zm : z.lm[i]? = some (pr, bd, sco) := by rw [hL.lm]; exact zm
  have zc := hL.lc
  have zq := hL.lq
  refine ⟨fun pins s σ H Q I ⟨ρ, g, Mu, E, G1, hx⟩ => ?_⟩
  refine lam_new I tb own isIn one G1.tb dflt (fun y hy e => absurd e (S.nofree y hy)) fun f cc pm ctv H1 s1 I1 eN T1 hf hfn hsz hco => ?_
  have e1 : Ext z H H1 := Ext.ofN eN
  have G2 : GOk z H1 g := G1.extN eN T1
  have E1 := E.ext G1 e1 G2
  have fp := I.fpOk hsz (I.hok.fresh hsz)
  have I2 : Inv X pins σ (upd H1 f (ObV f (lamO (X.env.qual ++ "<lambda>") pr bd sco X.env.cells pm ctv cc))) s1 := I1.take (h' := s1.heap) (t' := s1.toks) (fun b u _ q => q) ⟨hfn, fp.2⟩ ⟨hf, ⟨_, hf⟩, fun _ _ h k => k _ h⟩
  have sm : Same H1 (upd H1 f (ObV f (lamO (X.env.qual ++ "<lambda>") pr bd sco X.env.cells pm ctv cc))) := same_upd' hfn
  have nf : f ∉ Mu := E1.mu.new hfn
  have nc : cc ∉ Mu := fun w => E1.mu.nc cc w _ hco
  have hx : ∀ v H', Ext z H H' → GOk z H' g → RK X.K X.mg z .sh H Mu H' v (.lam i) → Q v H' := hx
  refine ⟨.ref f, _, I2, rfl, hx _ _ (e1.trans (Ext.of sm)) (G2.same sm) ?_⟩
  show Rep X.K X.mg z Mu _ (.ref f) (.lam i)
  exact .lam (pm := pm) (ctv := ctv) nf nc zm (by rw [zc, zq]; exact upd_same) (by rw [zq]; exact sm _ _ hco)
end
/-- what is known of a lambda with m parameters: its reading -/
structure LamP (A : Around) (base : Heap) (P : Program) (w : World) (K : PySem.W.Frag) (mg : Str → Option Value) (z : Zt) (k m : Nat) (i : Nat) (cf : List D → M D) : Prop where
  ex : ∃ (pr : Arguments) (bd : Expr) (sc : Scope) (N ps : List Str) (fb : Ep) (kb : Kd), z.lm[i]? = some (pr, bd, sc) ∧ FnScope N ps sc ∧ ps.length = m ∧ kb ≠ .peek ∧ (∀ ds, cf ds = fb (startE N.length ds)) ∧
    (∀ (q : Str) (pm cv ctv : Value) (us : List Value), us.length = ps.length → bindArgs (PySem.W.kla_fn "<lambda>" q pr bd sc [] pm cv ctv) ⟨us, []⟩ = pure (ps.zip us)) ∧
    (∀ (A : Around) (outer : List PySem.Env) (s : Shared) (H : Hp) (E : XK) (f c' : Addr), XG (cxOf (L2.CX P w) P w K mg base N z.lq sc f (.ref c') A outer s H E) → Room k (A.deeper (envOfC z.lq sc s.heap.objs.size f (.ref c'))) →
      Takes (cxOf (L2.CX P w) P w K mg base N z.lq sc f (.ref c') A outer s H E) (fun cls dd _ H => E cls dd H) →
      DE (cxOf (L2.CX P w) P w K mg base N z.lq sc f (.ref c') A outer s H E) z (fun cls dd _ H => E cls dd H) kb bd fb)
/-- the lambda is called -/
theorem run_lamP {P : Program} {w : World} {K : PySem.W.Frag} {mg : Str → Option Value} {base : Heap} {k : Nat} {f cc : Addr} {q : Str} {pr : Arguments} {bd : Expr} {sc : Scope} {cl : List (Str × Addr)} {pm ctv : Value} {N ps : List Str} (S : FnScope N ps sc)
    {A : Around} {outer : List PySem.Env} {s : Shared} {H : Hp} {us : List Value} {vs : List V} {Q : VK} {E : XK} (hr : Room (k + 1) A) (e0 : Env0 P w K mg base A outer s H) (gf : s.heap.get? f = some (lamO q pr bd sc cl pm ctv cc)) (hrec : s.heap.CodeRec (.ref cc) q)
    (hb : bindArgs (PySem.W.kla_fn "<lambda>" q pr bd sc [] pm (.ref cc) ctv) ⟨us, []⟩ = pure (ps.zip us)) (r : Vals vs us) (hl : vs.length = ps.length)
    (hbody : Room k (A.deeper (envOfC q sc s.heap.objs.size f (.ref cc))) → ∃ t, PE (cxOf (L2.CX P w) P w K mg base N q sc f (.ref cc) A outer s H E) bd t ∧ t (L2.start N vs) H Q) :
    codeAny (model P w) A (.call (.ref f) ⟨us, []⟩) (CR (L2.CX P w) outer P w H s Q E) s := by
  have lim : s.heap.NoLimit := e0.mod.nolimit.keeps fun b o e => (e0.bs b o e).1
  have hkind : ∀ y ∈ ps.zip us, sc.names.lookup y.1 = some .local ∨ (sc.names.lookup y.1 = some .cell ∧ ((cellsFrom (s.heap.objs.size + 1) sc.names []).lookup y.1).isSome = true) := fun ⟨n, v⟩ hy => by
    rcases S.par n (List.of_mem_zip hy).1 with q | q
    · exact .inl q
    · exact .inr ⟨q, PySem.W.cellsFrom_some _ _ _ (.inl q)⟩
  unfold lamO at gf
  rw [clo_nofree cl sc.names S.nofree] at gf
  refine PySem.W.kla_callFunE hr.depth gf rfl S.co S.gen rfl hrec ?_
  rw [hb]
  refine wpAny_pure (wpAny_newFunctionEnv_cells S.kind hkind fun env he s1 x => ?_)
  subst he
  refine ⟨lim.keeps x.toInCall.keep, PySem.W.kla_codeExpr ?_⟩
  obtain ⟨t, ht, hq⟩ := hbody (hr.deeper _)
  have I : Inv (cxOf (L2.CX P w) P w K mg base N q sc f (.ref cc) A outer s H E) [] (L2.start N vs) H s1 := inv_start S hr.hd e0 hl r x
  exact wpAny_mono (ht.run [] s1 (L2.start N vs) H Q I hq) (fun u s' ⟨v, H', J, rv, q⟩ => ⟨v, H', J.os, J.bare, J.base, J.hok, rv, q⟩) fun e s' hs => hs
/-- the def, the lambda that a value names -/
def fnTL (T : List (Str × (List D → M D))) (L : List (Nat × (List D → M D))) : D → Option (List D → M D)
  | .fn x => T.lookup x
  | .lam i => L.lookup i
  | _ => none
def eCallVL (T : List (Str × (List D → M D))) (L : List (Nat × (List D → M D))) (fv : Ep) (fs : Es) : Ep := fun ρ => do
  let d ← fv ρ
  let cf ← ofOpt (fnTL T L d)
  let ds ← fs ρ
  cf ds
theorem PR.lam {K : PySem.W.Frag} {mg : Str → Option Value} {z : Zt} {Mu : List Addr} {H : Hp} {v : V} {i : Nat} (r : PR K mg z Mu H v (.lam i)) : Rep K mg z Mu H v (.lam i) := by
  rcases r with r | ⟨_, _, _, _, _, _, c⟩
  · exact r
  · cases c
theorem de_calVL {X : Cx} {z : Zt} {W : WX} {kv : Kd} {k m : Nat} {x : Str} {e : Expr} {es : List Expr} {p pos : Pos} {T : List (Str × (List D → M D))} {L : List (Nat × (List D → M D))} {fv : Ep} {fs : Es} (C : CalVs X.A X.base X.prog X.w X.K X.mg z.T (k + 1) m T) (CL : ∀ q ∈ L, LamP X.A X.base X.prog X.w X.K X.mg z k m q.1 q.2) (tk : Takes X W) (hr : Room (k + 1) X.A) (hv : DE X z W kv (.Name x p) fv) (ha : DAs X z W (e :: es) fs) (hal : AL fs m)
    (he : starEach (e :: es) X.env = (false, eval e X.env) :: starEach es X.env := by rfl) (hpl : (backTo pos (starEach es X.env)).any (·.1) = false := by rfl) :
    DE X z W .sh (.Call (.Name x p) (e :: es) [] pos) (eCallVL T L fv fs) := by
  refine ⟨fun pins s σ H Q I ⟨ρ, g, Mu, E, G1, hx⟩ => ?_⟩
  refine wpAny_Call_Name_kw (de_run hv I E G1 (R.all_imp (R.all_bind hx) (fun d g1 hx v u H1 s1 I1 r1 e1 G2 E1 k1 => ?_) fun _ _ _ _ h => h))
  obtain ⟨cf, hcf, hx2⟩ := R.all_opt (R.all_bind hx)
  clear hx
  have pr1 := k1.peek E.mu E1.mu G2
  cases d <;> first | (cases hcf; done) | skip
  · rename_i y
    have hm : (y, cf) ∈ T := lookup_mem hcf
    obtain ⟨f, fd, ps, kr, gd, h1, h2, hgd, F, hb, hn, hk⟩ := C _ hm
    obtain ⟨f', rfl, h1'⟩ := pr1.fn
    have ef : f' = f := by
      have := h1'.symm.trans h1
      cases this
      rfl
    subst ef
    cases r1
    refine PySem.W.callWith_K (h₀ := X.base) I1.ok.mod.kin h2 (das_run ha I1 E1 G2 (R.all_imp (R.all_eq (Raising.all (R.all_bind hx2) e1)) (fun ds g2 ⟨hq, hx⟩ vs us H2 s2 I2 r2 e2 G3 E2 k2 => ⟨I2.kIn, ?_⟩) fun _ _ _ _ h => h)) he hpl
    have hl : vs.length = ps.length := k2.length.trans ((hal _ _ _ _ hq).trans hn.symm)
    have b := hb s2 us I2.kIn (by rw [List.append_nil, ← r2.length]; exact hl)
    rw [List.append_nil] at b
    exact run_dfn (args := ⟨us, []⟩) F hgd hr tk I2 b r2 hl E2.mu G3 k2 (R.all_imp hx (fun d g' h v H' e3 G4 k3 => h v H' ((e1.trans e2).trans e3) G4 (RK.to_sh (k := kr) hk (k3.back (e1.trans e2) G3) E.mu (E.mu.ext (g := g) ((e1.trans e2).trans e3) G4) G4)) fun _ _ _ _ h => h.step (e1.trans e2))
  · rename_i i
    have hm : (i, cf) ∈ L := lookup_mem hcf
    obtain ⟨pr, bd, sc, N, ps, fb, kb, zm, S, hn, hk, hcf2, hbi, hbody⟩ := (CL _ hm).ex
    have rl := pr1.lam
    cases rl with
    | @lam f c _ pm ctv pr' b' sc' n1 n2 zm' hf hc =>
    rw [zm] at zm'
    cases zm'
    cases r1
    have gf : s1.heap.get? f = some (lamO z.lq pr bd sc z.lc pm ctv c) := (I1.hok f _ hf).1
    refine PySem.W.callWith_F ⟨_, _, _, _, gf⟩ (das_run ha I1 E1 G2 (R.all_imp (R.all_eq (Raising.all (R.all_bind hx2) e1)) (fun ds g2 ⟨hq, hx⟩ vs us H2 s2 I2 r2 e2 G3 E2 k2 => ?_) fun _ _ _ _ h => h)) he hpl
    have np : f ≠ z.p := fun w => n1 (w ▸ E1.mu.p)
    have nl : f ≠ z.l := fun w => n1 (w ▸ E1.mu.l)
    have cp : c ≠ z.p := fun w => n2 (w ▸ E1.mu.p)
    have cl : c ≠ z.l := fun w => n2 (w ▸ E1.mu.l)
    have hf2 := e2.to f _ hf trivial np nl
    have hc2 := e2.to c _ hc trivial cp cl
    have gf2 : s2.heap.get? f = some (lamO z.lq pr bd sc z.lc pm ctv c) := (I2.hok f _ hf2).1
    obtain ⟨⟨oc, fs', tk0, gc, dc, vc⟩, _, _⟩ := I2.hok c _ hc2
    refine ⟨⟨_, _, _, _, gf2⟩, ?_⟩
    have hl : vs.length = ps.length := k2.length.trans ((hal _ _ _ _ hq).trans hn.symm)
    have e3 := e1.trans e2
    have hcf3 : ∀ ds, cf ds = fb (startE N.length ds) := hcf2
    rw [hcf3] at hx
    refine wpAny_call (codeAny_mono (run_lamP (E := WE W σ) (Q := Q) (us := us) (vs := vs) S hr I2.env0 gf2 ⟨c, oc, fs', tk0, rfl, gc, dc, vc⟩ (hbi _ _ _ _ us (by rw [← r2.length]; exact hl)) r2 hl fun hr' => ⟨_, hbody X.A X.stack s2 H2 (WE W σ) f c ⟨rfl, hr'.mono (Nat.zero_le _), S.nd⟩ hr' (takes_of rfl rfl rfl rfl), ?_⟩) fun r s' hq => ?_)
    · refine ⟨startE N.length ds, g2, Mu, env_start E2.mu k2, G3, R.all_imp hx (fun d g' h v H' e4 G4 k4 => ?_) fun c f l g' h => ?_⟩
      · exact h v H' (e3.trans e4) G4 (RK.to_sh hk (RK.back k4 e3 G3) E.mu (E.mu.ext (g := g) (e3.trans e4) G4) G4)
      · exact fun cls dd H' a b c => (XW.step h e3) cls dd H' a b c
    · cases r with
      | error e => exact passAt tk σ pins H2 s2 e s' I2 hq
      | ok fl =>
        cases fl with
        | ret u => exact I2.after hq
        | next => exact False.elim hq
        | brk => exact False.elim hq
        | cont => exact False.elim hq
/-- what is known of the lambda at place i -/
def LamAt (Φ : Arguments → Expr → Scope → Prop) : Nat → List (Arguments × Expr × Scope) → Prop
  | 0, p :: _ => Φ p.1 p.2.1 p.2.2
  | i + 1, _ :: l => LamAt Φ i l
  | _, [] => False
theorem lamAt_get {Φ : Arguments → Expr → Scope → Prop} : ∀ {i : Nat} {l : List (Arguments × Expr × Scope)}, LamAt Φ i l → ∃ p, l[i]? = some p ∧ Φ p.1 p.2.1 p.2.2
  | 0, p :: _, h => ⟨p, rfl, h⟩
  | i + 1, _ :: l, h => by
    obtain ⟨p, h1, h2⟩ := lamAt_get (i := i) (l := l) h
    exact ⟨p, by rw [List.getElem?_cons_succ]; exact h1, h2⟩
  | 0, [], h => h.elim
  | _ + 1, [], h => h.elim
structure LamF (P : Program) (w : World) (K : PySem.W.Frag) (mg : Str → Option Value) (base : Heap) (z : Zt) (k : Nat) (N ps : List Str) (kb : Kd) (fb : Ep) (pr : Arguments) (bd : Expr) (sc : Scope) : Prop where
  S : FnScope N ps sc
  binds : ∀ (q : Str) (pm cv ctv : Value) (us : List Value), us.length = ps.length → bindArgs (PySem.W.kla_fn "<lambda>" q pr bd sc [] pm cv ctv) ⟨us, []⟩ = pure (ps.zip us)
  run : ∀ (A : Around) (outer : List PySem.Env) (s : Shared) (H : Hp) (E : XK) (f c' : Addr), XG (cxOf (L2.CX P w) P w K mg base N z.lq sc f (.ref c') A outer s H E) → Room k (A.deeper (envOfC z.lq sc s.heap.objs.size f (.ref c'))) →
      Takes (cxOf (L2.CX P w) P w K mg base N z.lq sc f (.ref c') A outer s H E) (fun cls dd _ H => E cls dd H) →
      DE (cxOf (L2.CX P w) P w K mg base N z.lq sc f (.ref c') A outer s H E) z (fun cls dd _ H => E cls dd H) kb bd fb
theorem lamp_of {A : Around} {base : Heap} {P : Program} {w : World} {K : PySem.W.Frag} {mg : Str → Option Value} {z : Zt} {k m i : Nat} {X0 : Cx} {lms : List (Arguments × Expr × Scope)} {N ps : List Str} {kb : Kd} {fb : Ep} (hL : LamZ X0 z lms) (h : LamAt (LamF P w K mg base z k N ps kb fb) i lms) (hm : ps.length = m := by rfl) (hk : kb ≠ .peek := by intro w; cases w) :
    LamP A base P w K mg z k m i (fun ds => fb (startE N.length ds)) := by
  obtain ⟨p, h1, h2⟩ := lamAt_get h
  exact ⟨p.1, p.2.1, p.2.2, N, ps, fb, kb, by rw [hL.lm]; exact h1, h2.S, hm, hk, fun _ => rfl, h2.binds, h2.run⟩
theorem lps_nil {A : Around} {base : Heap} {P : Program} {w : World} {K : PySem.W.Frag} {mg : Str → Option Value} {z : Zt} {k m : Nat} : ∀ q ∈ ([] : List (Nat × (List D → M D))), LamP A base P w K mg z k m q.1 q.2 := fun _ h => nomatch h
theorem lps_cons {A : Around} {base : Heap} {P : Program} {w : World} {K : PySem.W.Frag} {mg : Str → Option Value} {z : Zt} {k m i : Nat} {cf : List D → M D} {L : List (Nat × (List D → M D))} (h : LamP A base P w K mg z k m i cf) (t : ∀ q ∈ L, LamP A base P w K mg z k m q.1 q.2) : ∀ q ∈ (i, cf) :: L, LamP A base P w K mg z k m q.1 q.2 := fun q hq => by
  rcases List.mem_cons.mp hq with rfl | hq
  · exact h
  · exact t q hq
end DL
end
section
set_option Elab.async false
set_option linter.all false
set_option maxRecDepth 100000
set_option maxHeartbeats 2000000
/-! Readings run: what holds behind an expression, a statement (r.all P E). -/
namespace DL
open PySem PySem.Spec PyProof.Rows L2
abbrev XE := Str → Str → List D → G → Prop
/-- nothing is raised -/
abbrev XF : XE := fun _ _ _ _ => False
theorem R.of_all {α : Type} {r : R α} {P : α → G → Prop} (h : r.all P XF) : ∃ a g, r = .ok a g ∧ P a g := by
  cases r with
  | stuck => exact h.elim
  | ok a g => exact ⟨a, g, rfl, h⟩
  | exc c f l g => exact h.elim
theorem R.all_of {α : Type} {r : R α} {a : α} {g : G} {P : α → G → Prop} {E : XE} (h : r = .ok a g) (p : P a g) : r.all P E := by rw [h]; exact p
theorem w_bind {α β : Type} {m : M α} {k : α → M β} {g : G} {P : β → G → Prop} {E : XE} (h : (m g).all (fun a g1 => (k a g1).all P E) E) : ((m >>= k) g).all P E := R.of_bind h
/-- of an operation's answer -/
def OpP {α : Type} (o : Option α) (P : α → G → Prop) (g : G) : Prop := match o with
  | some a => P a g
  | none => False
theorem w_opt {α : Type} {o : Option α} {g : G} {P : α → G → Prop} {E : XE} (h : OpP o P g) : ((ofOpt o : M α) g).all P E := by
  cases o with
  | none => exact h
  | some a => exact h
theorem op_some {α : Type} {o : Option α} {a : α} {g : G} {P : α → G → Prop} (e : o = some a) (h : P a g) : OpP o P g := by rw [e]; exact h
/-- of a bool -/
def TrP (P : Bool → G → Prop) (d : D) (g : G) : Prop := match d with
  | .bl b => P b g
  | _ => False
theorem w_trp {P : Bool → G → Prop} {b : Bool} {g : G} (h : P b g) : TrP P (.bl b) g := h
/-- of a number -/
def InP {α : Type} (f : Int → α) (P : α → G → Prop) (d : D) (g : G) : Prop := match d with
  | .int i => P (f i) g
  | _ => False
theorem w_inp {α : Type} {f : Int → α} {P : α → G → Prop} {i : Int} {g : G} (h : P (f i) g) : InP f P (.int i) g := h
/-- of a row -/
def SqP (P : List D → G → Prop) (d : D) (g : G) : Prop := match d with
  | .lst l => P l g
  | .tup l => P l g
  | _ => False
theorem w_sqL {P : List D → G → Prop} {l : List D} {g : G} (h : P l g) : SqP P (.lst l) g := h
theorem w_sqT {P : List D → G → Prop} {l : List D} {g : G} (h : P l g) : SqP P (.tup l) g := h
/-- of what is walked -/
def ItP (P : List D → G → Prop) (d : D) (g : G) : Prop := match d with
  | .lst l => P l g
  | .tup l => P l g
  | .dct l => P (l.map (·.1)) g
  | _ => False
theorem w_itL {P : List D → G → Prop} {l : List D} {g : G} (h : P l g) : ItP P (.lst l) g := h
theorem w_itT {P : List D → G → Prop} {l : List D} {g : G} (h : P l g) : ItP P (.tup l) g := h
theorem w_itD {P : List D → G → Prop} {l : List (D × D)} {g : G} (h : P (l.map (·.1)) g) : ItP P (.dct l) g := h
section
variable {ρ : Env} {g : G} {P : D → G → Prop} {Q : Bool → G → Prop} {S : List D → G → Prop} {E : XE} {f fa fb fc : Ep} {c c1 c2 : Et} {fs gs : Es}
/-! expressions -/
theorem w_var {i : Nat} {d : D} (e : ρ[i]? = some (some (false, d))) (h : P d g) : (eVar i ρ g).all P E := R.all_of (e_var e) h
theorem w_peek {i : Nat} {b : Bool} {d : D} (e : ρ[i]? = some (some (b, d))) (h : P d g) : (ePeek i ρ g).all P E := R.all_of (e_peek e) h
theorem w_c {d : D} (h : P d g) : (eC d ρ g).all P E := h
theorem w_bin {o : D → D → Option D} (h : (fa ρ g).all (fun x g1 => (fb ρ g1).all (fun y g2 => OpP (o x y) P g2) E) E) : (eBin o fa fb ρ g).all P E :=
  w_bind (R.all_imp h (fun _ _ h => w_bind (R.all_imp h (fun _ _ h => w_opt h) fun _ _ _ _ h => h)) fun _ _ _ _ h => h)
theorem w_un {o : D → Option D} (h : (f ρ g).all (fun x g1 => OpP (o x) P g1) E) : (eUn o f ρ g).all P E := w_bind (R.all_imp h (fun _ _ h => w_opt h) fun _ _ _ _ h => h)
theorem w_call {o : List D → Option D} (h : (fs ρ g).all (fun ds g1 => OpP (o ds) P g1) E) : (eCall o fs ρ g).all P E := w_bind (R.all_imp h (fun _ _ h => w_opt h) fun _ _ _ _ h => h)
theorem w_callF {cf : List D → M D} (h : (fs ρ g).all (fun ds g1 => (cf ds g1).all P E) E) : (eCallF cf fs ρ g).all P E := w_bind h
theorem w_callK {cf : List D → M D} {pm : List Nat} (h : (fs ρ g).all (fun ds g1 => (gs ρ g1).all (fun es g2 => (cf (pick pm (ds ++ es)) g2).all P E) E) E) : (eCallK cf pm fs gs ρ g).all P E :=
  w_bind (R.all_imp h (fun _ _ h => w_bind h) fun _ _ _ _ h => h)
theorem w_nil (h : S [] g) : (sNil ρ g).all S E := h
theorem w_cons (h : (f ρ g).all (fun x g1 => (fs ρ g1).all (fun xs g2 => S (x :: xs) g2) E) E) : (sCons f fs ρ g).all S E :=
  w_bind (R.all_imp h (fun _ _ h => w_bind h) fun _ _ _ _ h => h)
theorem w_tr (h : (f ρ g).all (TrP Q) E) : (eTr f ρ g).all Q E :=
  w_bind (R.all_imp h (fun d g1 h => by cases d <;> first | exact h.elim | exact h) fun _ _ _ _ h => h)
theorem w_bo (h : (c ρ g).all (fun b g1 => P (.bl b) g1) E) : (eBo c ρ g).all P E := w_bind h
theorem w_bAnd (h : (c1 ρ g).all (fun b g1 => if b = true then (c2 ρ g1).all Q E else Q false g1) E) : (bAnd c1 c2 ρ g).all Q E :=
  w_bind (R.all_imp h (fun b g1 h => by cases b <;> exact h) fun _ _ _ _ h => h)
theorem w_bOr (h : (c1 ρ g).all (fun b g1 => if b = true then Q true g1 else (c2 ρ g1).all Q E) E) : (bOr c1 c2 ρ g).all Q E :=
  w_bind (R.all_imp h (fun b g1 h => by cases b <;> exact h) fun _ _ _ _ h => h)
theorem w_bNot (h : (c ρ g).all (fun b g1 => Q (!b) g1) E) : (bNot c ρ g).all Q E := w_bind h
theorem w_and (h : (c ρ g).all (fun b g1 => if b = true then (f ρ g1).all P E else P (.bl false) g1) E) : (eAnd c f ρ g).all P E :=
  w_bind (R.all_imp h (fun b g1 h => by cases b <;> exact h) fun _ _ _ _ h => h)
theorem w_or (h : (c ρ g).all (fun b g1 => if b = true then P (.bl true) g1 else (f ρ g1).all P E) E) : (eOr c f ρ g).all P E :=
  w_bind (R.all_imp h (fun b g1 h => by cases b <;> exact h) fun _ _ _ _ h => h)
theorem w_not (h : (f ρ g).all (TrP fun b g1 => P (.bl (!b)) g1) E) : (eNot f ρ g).all P E := w_bo (w_bNot (w_tr h))
theorem w_ife (h : (c ρ g).all (fun b g1 => if b = true then (fa ρ g1).all P E else (fb ρ g1).all P E) E) : (eIf c fa fb ρ g).all P E :=
  w_bind (R.all_imp h (fun b g1 h => by cases b <;> exact h) fun _ _ _ _ h => h)
theorem w_chain {o o' : D → D → Option D} (h : (fa ρ g).all (fun x g1 => (fb ρ g1).all (fun y g2 => OpP (o x y) (TrP fun b g3 => if b = true then (fc ρ g3).all (fun w g4 => OpP (o' y w) P g4) E else P (.bl false) g3) g2) E) E) : (eChain o o' fa fb fc ρ g).all P E := by
  refine w_bind (R.all_imp h (fun x g1 h => w_bind (R.all_imp h (fun y g2 h => w_bind (w_opt ?_)) fun _ _ _ _ h => h)) fun _ _ _ _ h => h)
  cases q : o x y with
  | none => rw [q] at h; exact h
  | some r =>
    rw [q] at h
    cases r <;> first | exact h.elim | skip
    rename_i b
    cases b
    · exact h
    · exact w_bind (R.all_imp h (fun _ _ h => w_opt h) fun _ _ _ _ h => h)
theorem w_tup (h : (fs ρ g).all (fun ds g1 => ds.length ≤ 1000 ∧ P (.tup ds) g1) E) : (eTup fs ρ g).all P E :=
  w_bind (R.all_imp h (fun ds g1 h => w_opt (by rw [if_pos (line_1000 h.1)]; exact h.2)) fun _ _ _ _ h => h)
theorem w_lst (h : (fs ρ g).all (fun ds g1 => ds.length ≤ 1000 ∧ P (.lst ds) g1) E) : (eLst fs ρ g).all P E :=
  w_bind (R.all_imp h (fun ds g1 h => w_opt (by rw [if_pos (line_1000 h.1)]; exact h.2)) fun _ _ _ _ h => h)
theorem w_oNone {T : Option Int → G → Prop} (h : T none g) : (oNone ρ g).all T E := h
theorem w_oSome {T : Option Int → G → Prop} (h : (f ρ g).all (InP some T) E) : (oSome f ρ g).all T E :=
  w_bind (R.all_imp h (fun d g1 h => by cases d <;> first | exact h.elim | exact h) fun _ _ _ _ h => h)
theorem w_sl {a b : Eo} (h : (f ρ g).all (fun x g1 => (a ρ g1).all (fun l g2 => (b ρ g2).all (fun u g3 => OpP (dCut x l u) P g3) E) E) E) : (eSl f a b ρ g).all P E :=
  w_bind (R.all_imp h (fun _ _ h => w_bind (R.all_imp h (fun _ _ h => w_bind (R.all_imp h (fun _ _ h => w_opt h) fun _ _ _ _ h => h)) fun _ _ _ _ h => h)) fun _ _ _ _ h => h)
/-! what is walked -/
theorem w_items (h : (f ρ g).all (ItP S) E) : (sItems f ρ g).all S E := by
  refine w_bind (R.all_imp h (fun d g1 h => ?_) fun _ _ _ _ h => h)
  cases d <;> first | exact h.elim | exact h
theorem w_enum (h : (f ρ g).all (SqP fun l g1 => S (enumD l) g1) E) : (sEnumU f ρ g).all S E := by
  refine w_bind (R.all_imp h (fun d g1 h => ?_) fun _ _ _ _ h => h)
  cases d <;> first | exact h.elim | exact h
theorem w_range1 (h : (f ρ g).all (InP (fun i => i) fun i g1 => (-1000000 ≤ i ∧ i ≤ 1000000) ∧ S (rangeL 0 i.toNat) g1) E) : (sRange1 f ρ g).all S E := by
  refine w_bind (R.all_imp h (fun d g1 h => w_opt ?_) fun _ _ _ _ h => h)
  cases d <;> first | exact h.elim | skip
  rename_i i
  obtain ⟨⟨h0, h1⟩, h2⟩ := (show (-1000000 ≤ i ∧ i ≤ 1000000) ∧ S (rangeL 0 i.toNat) g1 from h)
  exact op_some (show fR1 (.int i) = some (rangeL 0 i.toNat) from by unfold fR1; dsimp only; rw [if_pos ⟨by omega, by omega⟩]) h2
theorem w_range2 (h : (fa ρ g).all (InP (fun i => i) fun i g1 => (fb ρ g1).all (InP (fun i => i) fun j g2 => (-1000000 ≤ i ∧ i ≤ 1000000 ∧ -1000000 ≤ j ∧ j ≤ 1000000) ∧ S (rangeL i (j - i).toNat) g2) E) E) : (sRange2 fa fb ρ g).all S E := by
  refine w_bind (R.all_imp h (fun d g1 h => ?_) fun _ _ _ _ h => h)
  cases d <;> first | exact h.elim | skip
  rename_i i
  refine w_bind (R.all_imp (show (fb ρ g1).all _ E from h) (fun d g2 h => w_opt ?_) fun _ _ _ _ h => h)
  cases d <;> first | exact h.elim | skip
  rename_i j
  obtain ⟨⟨h1, h2, h3, h4⟩, h5⟩ := (show (-1000000 ≤ i ∧ i ≤ 1000000 ∧ -1000000 ≤ j ∧ j ≤ 1000000) ∧ S (rangeL i (j - i).toNat) g2 from h)
  exact op_some (show fR2 (.int i) (.int j) = some (rangeL i (j - i).toNat) from by unfold fR2; dsimp only; rw [if_pos ⟨by omega, by omega, by omega, by omega⟩]) h5
theorem w_zipR (h : (f ρ g).all (InP (fun i => i) fun j0 g1 => (-1000000 ≤ j0 ∧ j0 ≤ 1000000) ∧ (fa ρ g1).all (InP (fun i => i) fun i g2 => (fb ρ g2).all (InP (fun i => i) fun j g3 => (-1000000 ≤ i ∧ i ≤ 1000000 ∧ -1000000 ≤ j ∧ j ≤ 1000000) ∧ S (zipD (rangeL 0 j0.toNat) (rangeL i (j - i).toNat)) g3) E) E) E) : (sZipR f fa fb ρ g).all S E := by
  refine w_bind (R.all_imp h (fun d g1 h => ?_) fun _ _ _ _ h => h)
  cases d <;> first | exact h.elim | skip
  rename_i j0
  obtain ⟨⟨h0, h1⟩, h⟩ := (show (-1000000 ≤ j0 ∧ j0 ≤ 1000000) ∧ (fa ρ g1).all _ E from h)
  refine w_bind (w_opt (op_some (show fR1 (.int j0) = some (rangeL 0 j0.toNat) from by unfold fR1; dsimp only; rw [if_pos ⟨by omega, by omega⟩]) ?_))
  refine w_bind (R.all_imp h (fun d g2 h => ?_) fun _ _ _ _ h => h)
  cases d <;> first | exact h.elim | skip
  rename_i i
  refine w_bind (R.all_imp (show (fb ρ g2).all _ E from h) (fun d g3 h => ?_) fun _ _ _ _ h => h)
  cases d <;> first | exact h.elim | skip
  rename_i j
  obtain ⟨⟨h1, h2, h3, h4⟩, h5⟩ := (show (-1000000 ≤ i ∧ i ≤ 1000000 ∧ -1000000 ≤ j ∧ j ≤ 1000000) ∧ S (zipD (rangeL 0 j0.toNat) (rangeL i (j - i).toNat)) g3 from h)
  exact w_bind (w_opt (op_some (show fR2 (.int i) (.int j) = some (rangeL i (j - i).toNat) from by unfold fR2; dsimp only; rw [if_pos ⟨by omega, by omega, by omega, by omega⟩]) h5))
theorem w_rg1 {T : Int × Int → G → Prop} (h : (f ρ g).all (InP (fun i => (0, i)) T) E) : (eRg1 f ρ g).all T E := by
  refine w_bind (R.all_imp h (fun d g1 h => ?_) fun _ _ _ _ h => h)
  cases d <;> first | exact h.elim | exact h
theorem w_rg2 {T : Int × Int → G → Prop} (h : (fa ρ g).all (InP (fun i => i) fun i g1 => (fb ρ g1).all (InP (fun j => (i, j)) T) E) E) : (eRg2 fa fb ρ g).all T E := by
  refine w_bind (R.all_imp h (fun d g1 h => ?_) fun _ _ _ _ h => h)
  cases d <;> first | exact h.elim | skip
  refine w_bind (R.all_imp (show (fb ρ g1).all _ E from h) (fun d g2 h => ?_) fun _ _ _ _ h => h)
  cases d <;> first | exact h.elim | exact h
theorem w_lstRg {fr : Er} (h : (fr ρ g).all (fun p g1 => (-1000000 ≤ p.1 ∧ p.1 ≤ 1000000 ∧ -1000000 ≤ p.2 ∧ p.2 ≤ 1000000) ∧ P (.lst (rangeL p.1 (p.2 - p.1).toNat)) g1) E) : (eLstRg fr ρ g).all P E := by
  refine w_bind (R.all_imp h (fun p g1 ⟨⟨h1, h2, h3, h4⟩, h5⟩ => w_opt ?_) fun _ _ _ _ h => h)
  rw [if_pos (show RgOk p.1 p.2 from by unfold RgOk; omega)]
  exact h5
theorem w_tupRg {fr : Er} (h : (fr ρ g).all (fun p g1 => (-1000000 ≤ p.1 ∧ p.1 ≤ 1000000 ∧ -1000000 ≤ p.2 ∧ p.2 ≤ 1000000) ∧ P (.tup (rangeL p.1 (p.2 - p.1).toNat)) g1) E) : (eTupRg fr ρ g).all P E := by
  refine w_bind (R.all_imp h (fun p g1 ⟨⟨h1, h2, h3, h4⟩, h5⟩ => w_opt ?_) fun _ _ _ _ h => h)
  rw [if_pos (show RgOk p.1 p.2 from by unfold RgOk; omega)]
  exact h5
/-! comprehensions -/
theorem w_lc {it : Es} {t : D → Env → Option Env} {tt : Et} {vs : List Nat} (h : (it ρ g).all (fun ds g1 => ds.length ≤ 1000 ∧ (sLcL (wipeE ρ vs) t tt f ds g1).all (fun r g2 => P (.lst r) g2) E) E) : (eLc it t tt f vs ρ g).all P E :=
  w_bind (R.all_imp h (fun ds g1 h => w_bind (w_opt (by rw [if_pos (line_1000 h.1)]; exact w_bind h.2)) ) fun _ _ _ _ h => h)
theorem nox_all {α : Type} {m : M α} {g : G} {P : α → G → Prop} {E : XE} (h : (m g).all P XF) : (nox m g).all P E := by
  unfold nox
  cases q : m g with
  | stuck => rw [q] at h; exact h
  | ok a g' => rw [q] at h; exact h
  | exc c f l g' => rw [q] at h; exact h.elim
theorem w_lcM {t : D → Env → Option Env} {Pl : List D → G → Prop} (F : D → D) {l : List D} (hs : ∀ d ∈ l, ∃ ρ1, t d ρ = some ρ1 ∧ (f ρ1 g).all (fun y g2 => y = F d ∧ g2 = g) XF) (h : Pl (l.map F) g) : (sLcL ρ t sYes f l g).all Pl E := by
  have e := lc_all (ρ := ρ) (t := t) (f := f) (g := g) F l fun d hd => by
    obtain ⟨ρ1, e1, h1⟩ := hs d hd
    obtain ⟨y, g2, q2, rfl, rfl⟩ := R.of_all h1
    exact ⟨ρ1, e1, q2⟩
  exact R.all_of e h
/-- .. of items told by xs -/
theorem w_lcTF {α : Type} {t : D → Env → Option Env} {tt : Et} {Pl : List D → G → Prop} (B : α → Bool) (F : α → D) {φ : α → D} : ∀ {xs : List α}, (∀ x ∈ xs, ∃ ρ1, t (φ x) ρ = some ρ1 ∧ (tt ρ1 g).all (fun b g1 => (b = B x ∧ g1 = g) ∧ (B x = true → (f ρ1 g1).all (fun y g2 => y = F x ∧ g2 = g) XF)) XF) → Pl ((xs.filter B).map F) g → (sLcL ρ t tt f (xs.map φ) g).all Pl E := by
  have key : ∀ xs : List α, (∀ x ∈ xs, ∃ ρ1, t (φ x) ρ = some ρ1 ∧ (tt ρ1 g).all (fun b g1 => (b = B x ∧ g1 = g) ∧ (B x = true → (f ρ1 g1).all (fun y g2 => y = F x ∧ g2 = g) XF)) XF) → sLcL ρ t tt f (xs.map φ) g = .ok ((xs.filter B).map F) g := by
    intro xs
    induction xs with
    | nil => exact fun _ => rfl
    | cons x xs ih =>
      intro hs
      obtain ⟨ρ1, e1, h1⟩ := hs x List.mem_cons_self
      obtain ⟨b, g1, q, ⟨rfl, rfl⟩, h2⟩ := R.of_all h1
      have ih := ih fun y hy => hs y (List.mem_cons_of_mem _ hy)
      rw [List.map_cons, sLcL, m_bind, e1, m_opt, rb_ok, m_bind, nox_ok q, rb_ok]
      cases hb : B x with
      | true =>
        obtain ⟨y, g2, q2, rfl, rfl⟩ := R.of_all (h2 hb)
        rw [if_pos rfl, m_bind, nox_ok q2, rb_ok, m_bind, ih, rb_ok, List.filter_cons_of_pos hb, List.map_cons]
      | false => rw [if_neg (by decide), ih, List.filter_cons_of_neg (by rw [hb]; decide)]
  exact fun {xs} hs h => R.all_of (key xs hs) h
theorem w_lcT {α : Type} {t : D → Env → Option Env} {Pl : List D → G → Prop} (F : α → D) {φ : α → D} {xs : List α} (hs : ∀ x ∈ xs, ∃ ρ1, t (φ x) ρ = some ρ1 ∧ (f ρ1 g).all (fun y g2 => y = F x ∧ g2 = g) XF) (h : Pl (xs.map F) g) : (sLcL ρ t sYes f (xs.map φ) g).all Pl E :=
  w_lcTF (fun _ => true) F (fun x hx => by
    obtain ⟨ρ1, e1, h1⟩ := hs x hx
    exact ⟨ρ1, e1, ⟨rfl, rfl⟩, fun _ => h1⟩) (by rw [List.filter_eq_self.mpr fun _ _ => rfl]; exact h)
/-- each item draws c times at most -/
theorem w_lcD {t : D → Env → Option Env} {Pl : List D → G → Prop} (c : Nat) (Qy : D → Prop) {l : List D} {m : Nat} (hm : GI m g) (hc : c * l.length ≤ m) (hs : ∀ d ∈ l, ∀ m g, GI m g → c ≤ m → ∃ ρ1, t d ρ = some ρ1 ∧ (f ρ1 g).all (fun y g2 => Qy y ∧ GI (m - c) g2) XF)
    (h : ∀ r g1, r.length = l.length → (∀ y ∈ r, Qy y) → GI (m - c * l.length) g1 → Pl r g1) : (sLcL ρ t sYes f l g).all Pl E := by
  obtain ⟨ys, g', e, h1, h2, h3⟩ := lc_draw (ρ := ρ) (t := t) (f := f) c Qy l (m - c * l.length) g (fun d hd k g hg => by
    obtain ⟨ρ1, e1, h1⟩ := hs d hd (k + c) g hg (Nat.le_add_left _ _)
    obtain ⟨y, g2, q2, hq, hg2⟩ := R.of_all h1
    rw [Nat.add_sub_cancel] at hg2
    exact ⟨ρ1, y, g2, e1, q2, hg2, hq⟩) (hm.mono (by omega))
  exact R.all_of e (h ys g' h1 h2 h3)
theorem w_scI {it : Es} {t : D → Env → Option Env} {tt : Et} {vs : List Nat} (h : (it ρ g).all (fun ds g1 => ds.length ≤ 1000 ∧ (sLcL (wipeE ρ vs) t tt (eInt f) ds g1).all (fun r g2 => OpP (intsOf r) (fun ns g3 => P (.set ((unlikeL ns).map D.int)) g3) g2) E) E) : (eScI it t tt f vs ρ g).all P E :=
  w_bind (w_bind (R.all_imp h (fun ds g1 h => w_bind (w_opt (by rw [if_pos h.1]; exact w_bind (R.all_imp h.2 (fun r g2 h => w_opt h) fun _ _ _ _ h => h)))) fun _ _ _ _ h => h))
theorem w_eInt (h : (f ρ g).all (InP D.int P) E) : (eInt f ρ g).all P E := by
  refine w_bind (R.all_imp h (fun d g1 h => ?_) fun _ _ _ _ h => h)
  cases d <;> first | exact h.elim | exact h
end
/-! ### statements -/
/-- how a statement ends: nx on, ct continue, bk break, rt returned -/
def FP (nx ct bk : Env → G → Prop) (rt : D → G → Prop) (fl : Fl) (g : G) : Prop := match fl with
  | .nx ρ => nx ρ g
  | .ct ρ => ct ρ g
  | .bk ρ => bk ρ g
  | .ret d => rt d g
abbrev NE : Env → G → Prop := fun _ _ => False
section
variable {ρ : Env} {g : G} {nx ct bk : Env → G → Prop} {rt P : D → G → Prop} {E : XE} {f f1 f2 f3 : Ep} {c : Et} {t u : Ss} {i j l : Nat}
theorem w_fn {n : Nat} {ds : List D} (h : (t (startE n ds) g).all (FP (fun _ g1 => P .non g1) NE NE P) E) : (fnB t n ds g).all P E :=
  w_bind (R.all_imp h (fun fl g1 h => by cases fl <;> first | exact h | exact h.elim) fun _ _ _ _ h => h)
theorem w_seq (h : (t ρ g).all (FP (fun ρ1 g1 => (u ρ1 g1).all (FP nx ct bk rt) E) ct bk rt) E) : (sSeq t u ρ g).all (FP nx ct bk rt) E :=
  w_bind (R.all_imp h (fun fl g1 h => by cases fl <;> exact h) fun _ _ _ _ h => h)
theorem w_skip (h : nx ρ g) : ((fun ρ => M.pure (.nx ρ) : Ss) ρ g).all (FP nx ct bk rt) E := h
theorem w_if (h : (c ρ g).all (fun b g1 => if b = true then (t ρ g1).all (FP nx ct bk rt) E else (u ρ g1).all (FP nx ct bk rt) E) E) : (sIf c t u ρ g).all (FP nx ct bk rt) E :=
  w_bind (R.all_imp h (fun b g1 h => by cases b <;> exact h) fun _ _ _ _ h => h)
theorem w_ret (h : (f ρ g).all rt E) : (sRet f ρ g).all (FP nx ct bk rt) E := w_bind h
theorem w_expr (h : (f ρ g).all (fun _ g1 => nx ρ g1) E) : (sExpr f ρ g).all (FP nx ct bk rt) E := w_bind h
theorem w_set (h : (f ρ g).all (fun d g1 => nx (ρ.set i (some (false, d))) g1) E) : (sSet false i f ρ g).all (FP nx ct bk rt) E := w_bind h
theorem w_setO (h : (f ρ g).all (fun d g1 => nx (ρ.set i (some (d.box, d))) g1) E) : (sSet true i f ρ g).all (FP nx ct bk rt) E := by
  refine w_bind (R.all_imp h (fun d g1 h => ?_) fun _ _ _ _ h => h)
  show nx (ρ.set i (some (true && d.box, d))) g1
  rw [Bool.true_and]
  exact h
theorem w_par {o1 o2 : Bool} (h : (f1 ρ g).all (fun d g1 => (f2 ρ g1).all (fun d' g2 => nx ((ρ.set j (some (o2 && d'.box, d'))).set i (some (o1 && d.box, d))) g2) E) E) : (sPar o1 o2 i j f1 f2 ρ g).all (FP nx ct bk rt) E :=
  w_bind (R.all_imp h (fun _ _ h => w_bind h) fun _ _ _ _ h => h)
theorem w_par3 {o1 o2 o3 : Bool} (h : (f1 ρ g).all (fun d g1 => (f2 ρ g1).all (fun d' g2 => (f3 ρ g2).all (fun d'' g3 => nx (((ρ.set l (some (o3 && d''.box, d''))).set j (some (o2 && d'.box, d'))).set i (some (o1 && d.box, d))) g3) E) E) E) : (sPar3 o1 o2 o3 i j l f1 f2 f3 ρ g).all (FP nx ct bk rt) E :=
  w_bind (R.all_imp h (fun _ _ h => w_bind (R.all_imp h (fun _ _ h => w_bind h) fun _ _ _ _ h => h)) fun _ _ _ _ h => h)
theorem w_asg {tg : D → Env → Option Env} (h : (f ρ g).all (fun d g1 => OpP (tg d ρ) nx g1) E) : (sAsg f tg ρ g).all (FP nx ct bk rt) E :=
  w_bind (R.all_imp h (fun d g1 h => w_bind (w_opt (show OpP (tg d ρ) _ g1 from by cases q : tg d ρ with | none => rw [q] at h; exact h | some r => rw [q] at h; exact h))) fun _ _ _ _ h => h)
theorem w_raise {x : Str} (h : E x Str.empty [] g) : (sRaise x ρ g).all (FP nx ct bk rt) E := h
theorem w_frz {is : List Nat} (h : (t (is.foldl frz ρ) g).all (FP nx ct bk rt) E) : (sFrz is t ρ g).all (FP nx ct bk rt) E := h
theorem w_for {fs : Es} {tg : D → Env → Option Env} {body : Ss} (J : List D → Env → G → Prop) (h0 : (fs ρ g).all (fun l g1 => J l ρ g1) E) (hs : ∀ d l ρ g, J (d :: l) ρ g → ∃ ρ1, tg d ρ = some ρ1 ∧ (body ρ1 g).all (FP (J l) (J l) nx rt) E) (he : ∀ ρ g, J [] ρ g → nx ρ g) : (sFor fs tg body ρ g).all (FP nx ct bk rt) E := by
  have key : ∀ (l : List D) (ρ : Env) (g : G), J l ρ g → (sForL tg body l ρ g).all (FP nx ct bk rt) E := by
    intro l
    induction l with
    | nil => exact fun ρ g h => he ρ g h
    | cons d l ih =>
      intro ρ g h
      obtain ⟨ρ1, e1, h1⟩ := hs d l ρ g h
      rw [sForL]
      refine w_bind (w_opt ?_)
      rw [e1]
      refine w_bind (R.all_imp h1 (fun fl g1 h => ?_) fun _ _ _ _ h => h)
      cases fl with
      | nx ρ2 => exact ih ρ2 g1 h
      | ct ρ2 => exact ih ρ2 g1 h
      | bk ρ2 => exact h
      | ret d => exact h
  exact w_bind (R.all_imp h0 (fun l g1 h => key l ρ g1 h) fun _ _ _ _ h => h)
theorem w_while {body : Ss} {N : Nat} (J : Nat → Env → G → Prop) (h0 : J N ρ g) (hz : ∀ ρ g, ¬ J 0 ρ g) (hs : ∀ n ρ g, J (n + 1) ρ g → (c ρ g).all (fun b g1 => if b = true then (body ρ g1).all (FP (J n) (J n) nx rt) E else nx ρ g1) E) : (sWhile c body N ρ g).all (FP nx ct bk rt) E := by
  induction N generalizing ρ g with
  | zero => exact absurd h0 (hz ρ g)
  | succ n ih =>
    rw [sWhile]
    refine w_bind (R.all_imp (hs n ρ g h0) (fun b g1 h => ?_) fun _ _ _ _ h => h)
    cases b with
    | false => exact h
    | true =>
      rw [if_pos rfl] at h ⊢
      refine w_bind (R.all_imp h (fun fl g2 h => ?_) fun _ _ _ _ h => h)
      cases fl with
      | nx ρ2 => exact ih h
      | ct ρ2 => exact ih h
      | bk ρ2 => exact h
      | ret d => exact h
/-! methods of one's own lists -/
theorem w_mPure {T : Env × D → G → Prop} (h : (f ρ g).all (fun d g1 => T (ρ, d) g1) E) : (mPure f ρ g).all T E := w_bind h
theorem w_mNil {T : Env × List D → G → Prop} (h : T (ρ, []) g) : (mNil ρ g).all T E := h
theorem w_mCons {m : Em} {ms : Ems} {T : Env × List D → G → Prop} (h : (m ρ g).all (fun x g1 => (ms x.1 g1).all (fun y g2 => T (y.1, x.2 :: y.2) g2) E) E) : (mCons m ms ρ g).all T E :=
  w_bind (R.all_imp h (fun _ _ h => w_bind h) fun _ _ _ _ h => h)
theorem w_meth {op : List D → List D → Option (List D × D)} {ms : Ems} {T : Env × D → G → Prop} {l0 : List D} (e : ownL ρ i = some l0) (h : (ms ρ g).all (fun x g1 => OpP (ownL x.1 i) (fun l g2 => OpP (op l x.2) (fun y g3 => T (x.1.set i (some (true, .lst y.1)), y.2) g3) g2) g1) E) : (eMeth i op ms ρ g).all T E := by
  unfold eMeth
  rw [e]
  refine w_bind (w_opt (w_bind (R.all_imp h (fun x g1 h => w_bind (w_opt ?_)) fun _ _ _ _ h => h)))
  cases q : ownL x.1 i with
  | none => rw [q] at h; exact h
  | some l =>
    rw [q] at h
    refine w_bind (w_opt ?_)
    have h : OpP (op l x.2) (fun y g3 => T (x.1.set i (some (true, .lst y.1)), y.2) g3) g1 := h
    cases q2 : op l x.2 with
    | none => rw [q2] at h; exact h.elim
    | some y =>
      rw [q2] at h
      exact h
theorem op_own {T : List D → G → Prop} {l0 : List D} (e : ρ[i]? = some (some (true, .lst l0))) (h : T l0 g) : OpP (ownL ρ i) T g := by
  have q : ownL ρ i = some l0 := by
    unfold ownL
    rw [e]
  rw [q]
  exact h
theorem w_methE {op : List D → List D → Option (List D × D)} {ms : Ems} {T : Env × D → G → Prop} {l0 : List D} (e : ρ[i]? = some (some (true, .lst l0))) (h : (ms ρ g).all (fun x g1 => OpP (ownL x.1 i) (fun l g2 => OpP (op l x.2) (fun y g3 => T (x.1.set i (some (true, .lst y.1)), y.2) g3) g2) g1) E) : (eMeth i op ms ρ g).all T E :=
  w_meth (l0 := l0) (by unfold ownL; rw [e]) h
theorem w_exprM {m : Em} (h : (m ρ g).all (fun x g1 => nx x.1 g1) E) : (sExprM m ρ g).all (FP nx ct bk rt) E := w_bind h
theorem w_setM {m : Em} (h : (m ρ g).all (fun x g1 => nx (x.1.set i (some (false, x.2))) g1) E) : (sSetM i m ρ g).all (FP nx ct bk rt) E := w_bind h
/-- an exception that is caught -/
theorem w_caught {pks : List Str} (h : (f ρ g).all (fun _ g1 => P .non g1) (fun c n l g1 => c ∈ pks ∧ P (.exc c n l) g1)) : (eCaught pks f ρ g).all P E := by
  unfold eCaught
  cases q : f ρ g with
  | stuck => rw [q] at h; exact h
  | ok d g1 => rw [q] at h; exact h
  | exc c n l g1 =>
    rw [q] at h
    dsimp only
    rw [if_pos h.1]
    exact h.2
end
/-! ### ifs -/
theorem w_dec {p A B : Prop} [Decidable p] (h1 : p → A) (h2 : ¬ p → B) : if decide p = true then A else B := by
  by_cases h : p
  · rw [if_pos (decide_eq_true h)]; exact h1 h
  · rw [if_neg (by rw [decide_eq_false h]; decide)]; exact h2 h
theorem w_ndec {p A B : Prop} [Decidable p] (h1 : ¬ p → A) (h2 : p → B) : if (!decide p) = true then A else B := by
  by_cases h : p
  · rw [if_neg (by rw [decide_eq_true h]; decide)]; exact h2 h
  · rw [if_pos (by rw [decide_eq_false h]; decide)]; exact h1 h
theorem w_b {b : Bool} {A B : Prop} (h1 : b = true → A) (h2 : b = false → B) : if b = true then A else B := by
  cases b with
  | true => exact h1 rfl
  | false => exact h2 rfl
theorem w_T {A B : Prop} (h : A) : if true = true then A else B := h
theorem w_F {A B : Prop} (h : B) : if false = true then A else B := h
theorem w_iteT {b : Bool} {A B : Prop} (hb : b = true) (h : A) : if b = true then A else B := by rw [if_pos hb]; exact h
theorem w_iteF {b : Bool} {A B : Prop} (hb : b = false) (h : B) : if b = true then A else B := by rw [if_neg (by rw [hb]; decide)]; exact h
theorem w_nb {b : Bool} {A B : Prop} (h1 : b = false → A) (h2 : b = true → B) : if (!b) = true then A else B := by
  cases b with
  | true => exact h2 rfl
  | false => exact h1 rfl
section
variable {ρ : Env} {g : G} {P : D → G → Prop} {E : XE} {fk fv : Ep} {r : List (Ep × Ep)} {T : List (D × D) → G → Prop}
theorem w_eDct {ps : List (Ep × Ep)} (h : (sPrs ps ρ g).all (fun l g1 => OpP (mkO l) (fun r g2 => P (.dct r) g2) g1) E) : (eDct ps ρ g).all P E :=
  w_bind (R.all_imp h (fun _ _ h => w_bind (w_opt h)) fun _ _ _ _ h => h)
theorem w_prsN (h : T [] g) : (sPrs [] ρ g).all T E := h
theorem w_prsC (h : (fk ρ g).all (fun k g1 => (fv ρ g1).all (fun y g2 => (sPrs r ρ g2).all (fun l g3 => T ((k, y) :: l) g3) E) XF) XF) : (sPrs ((fk, fv) :: r) ρ g).all T E :=
  w_bind (nox_all (R.all_imp h (fun k g1 h => w_bind (nox_all (R.all_imp h (fun y g2 h => w_bind h) fun _ _ _ _ h => h))) fun _ _ _ _ h => h))
theorem w_eDc {it : Es} {t : D → Env → Option Env} {tt : Et} {vs : List Nat} (h : (it ρ g).all (fun ds g1 => (sDcL (wipeE ρ vs) t tt fk fv ds [] g1).all (fun r g2 => P (.dct r) g2) E) E) : (eDc it t tt fk fv vs ρ g).all P E :=
  w_bind (R.all_imp h (fun ds g1 h => w_bind h) fun _ _ _ _ h => h)
end
end DL
end
section
set_option Elab.async false
set_option linter.all false
set_option maxRecDepth 100000
set_option maxHeartbeats 2000000
/-! Values with a Lean type: what is asked of them. -/
namespace DL
open PySem PySem.Spec PyProof.Rows L2
/-- α's values as values of the layer -/
class Enc (α : Type) [DecidableEq α] where
  enc : α → D
  pyd : α → PyData
  py : ∀ a, (enc a).py = some (pyd a)
  nstr : ∀ a x, enc a ≠ .str x
  eqv : ∀ a b, PyData.eqv (pyd a) (pyd b) = decide (a = b)
  lay : ∀ a, (pyd a).canLay0 = true
  dep : Nat
  dep_le : ∀ a, (pyd a).depth ≤ dep
open Enc (enc)
/-- a tuple of one kind of items -/
structure Tu (α : Type) where
  l : List α
  deriving DecidableEq
instance : Enc Int where
  enc := .int
  pyd := .int
  py _ := by rw [D.py]
  nstr _ _ h := by cases h
  eqv a b := by simp only [PyData.eqv]; exact PySem.W.beq_decide a b
  lay _ := by rw [PyData.canLay0]
  dep := 0
  dep_le _ := by rw [PyData.depth]; exact Nat.le_refl _
instance : Enc Bool where
  enc := .bl
  pyd := .bool
  py _ := by rw [D.py]
  nstr _ _ h := by cases h
  eqv a b := by simp only [PyData.eqv]; exact PySem.W.beq_decide a b
  lay _ := by rw [PyData.canLay0]
  dep := 0
  dep_le _ := by rw [PyData.depth]; exact Nat.le_refl _
section
variable {α β : Type} [DecidableEq α] [Enc α] [DecidableEq β] [Enc β]
theorem pys_enc : ∀ l : List α, D.pys (l.map enc) = some (l.map Enc.pyd)
  | [] => by rw [List.map_nil, D.pys]; rfl
  | a :: l => by rw [List.map_cons, D.pys, Enc.py, pys_enc l]; rfl
theorem layAll_enc : ∀ l : List α, PyData.canLayAll0 (l.map Enc.pyd) = true
  | [] => by rw [List.map_nil, PyData.canLayAll0]
  | a :: l => by rw [List.map_cons, PyData.canLayAll0, Enc.lay, layAll_enc l]; rfl
theorem depAll_enc : ∀ l : List α, PyData.depthAll (l.map Enc.pyd) ≤ Enc.dep α
  | [] => by rw [List.map_nil, PyData.depthAll]; exact Nat.zero_le _
  | a :: l => by
    rw [List.map_cons, PyData.depthAll]
    exact Nat.max_le.mpr ⟨Enc.dep_le a, depAll_enc l⟩
theorem eqvAll_enc : ∀ l m : List α, PyData.eqvAll (l.map Enc.pyd) (m.map Enc.pyd) = decide (l = m)
  | [], [] => by simp only [List.map_nil, PyData.eqvAll, decide_true]
  | [], _ :: _ => by simp [PyData.eqvAll]
  | _ :: _, [] => by simp [PyData.eqvAll]
  | x :: xs, y :: ys => by
    rw [List.map_cons, List.map_cons, PyData.eqvAll, Enc.eqv x y, eqvAll_enc xs ys, ← Bool.decide_and]
    exact decide_eq_decide.mpr (by rw [List.cons.injEq])
instance : Enc (List α) where
  enc l := .lst (l.map enc)
  pyd l := .list (l.map Enc.pyd)
  py l := by rw [D.py, pys_enc]
  nstr _ _ h := by cases h
  eqv a b := by simp only [PyData.eqv]; exact eqvAll_enc a b
  lay l := by rw [PyData.canLay0]; exact layAll_enc l
  dep := Enc.dep α + 1
  dep_le l := by rw [PyData.depth]; exact Nat.succ_le_succ (depAll_enc l)
instance : Enc (Tu α) where
  enc t := .tup (t.l.map enc)
  pyd t := .tuple (t.l.map Enc.pyd)
  py t := by rw [D.py, pys_enc]
  nstr _ _ h := by cases h
  eqv a b := by
    simp only [PyData.eqv]
    rw [eqvAll_enc]
    exact decide_eq_decide.mpr ⟨fun e => by cases a; cases b; exact congrArg Tu.mk e, fun e => by rw [e]⟩
  lay t := by rw [PyData.canLay0]; exact layAll_enc t.l
  dep := Enc.dep α + 1
  dep_le t := by rw [PyData.depth]; exact Nat.succ_le_succ (depAll_enc t.l)
instance : Enc (α × β) where
  enc p := .tup [enc p.1, enc p.2]
  pyd p := .tuple [Enc.pyd p.1, Enc.pyd p.2]
  py p := by rw [D.py, D.pys, D.pys, D.pys, Enc.py, Enc.py]
  nstr _ _ h := by cases h
  eqv p q := by
    simp only [PyData.eqv, PyData.eqvAll]
    rw [Enc.eqv, Enc.eqv, Bool.and_true, ← Bool.decide_and]
    exact decide_eq_decide.mpr ⟨fun e => Prod.ext e.1 e.2, fun e => by rw [e]; exact ⟨rfl, rfl⟩⟩
  lay p := by simp only [PyData.canLay0, PyData.canLayAll0, Enc.lay, Bool.and_self]
  dep := max (Enc.dep α) (Enc.dep β) + 1
  dep_le p := by
    simp only [PyData.depth, PyData.depthAll]
    refine Nat.succ_le_succ (Nat.max_le.mpr ⟨Nat.le_trans (Enc.dep_le p.1) (Nat.le_max_left _ _), Nat.max_le.mpr ⟨Nat.le_trans (Enc.dep_le p.2) (Nat.le_max_right _ _), Nat.zero_le _⟩⟩)
theorem shaped_enc (a : α) (h : Enc.dep α ≤ 64) : SeqAt.shaped (Enc.pyd a) = true := by
  unfold SeqAt.shaped
  rw [Enc.lay, Bool.true_and, decide_eq_true_eq]
  exact Nat.le_trans (Enc.dep_le a) h
theorem dEqB_enc (a b : α) (h : Enc.dep α ≤ 64 := by decide) : dEqB (enc a) (enc b) = some (decide (a = b)) := by
  have e : dEqB (enc a) (enc b) = dEqP (enc a) (enc b) := by
    generalize he : enc a = d
    cases d <;> first | rfl | exact absurd he (Enc.nstr a _)
  rw [e]
  unfold dEqP
  rw [Enc.py, Enc.py]
  dsimp only
  rw [if_pos ⟨shaped_enc a h, shaped_enc b h⟩, Enc.eqv]
theorem dEq_enc (a b : α) (h : Enc.dep α ≤ 64 := by decide) : dEq (enc a) (enc b) = some (.bl (decide (a = b))) := by
  unfold dEq
  rw [dEqB_enc a b h]
  rfl
theorem dNe_enc (a b : α) (h : Enc.dep α ≤ 64 := by decide) : dNe (enc a) (enc b) = some (.bl (!decide (a = b))) := by
  unfold dNe
  rw [dEqB_enc a b h]
  rfl
end
/-! ### pairs, plans, books -/
abbrev Pr := Int × Int
abbrev Pl := List Pr
def pr (p : Pr) : D := .tup [.int p.1, .int p.2]
def pl (ps : Pl) : D := .tup (ps.map pr)
def bk (b : List Pl) : D := .tup (b.map pl)
theorem eq_prs (a b : Pl) : dEq (.lst (a.map pr)) (.lst (b.map pr)) = some (.bl (decide (a = b))) := dEq_enc (α := List Pr) a b
theorem eq_ints (a b : List Int) : dEq (.lst (a.map D.int)) (.lst (b.map D.int)) = some (.bl (decide (a = b))) := dEq_enc (α := List Int) a b
theorem ne_ints (a b : List Int) : dNe (.lst (a.map D.int)) (.lst (b.map D.int)) = some (.bl (!decide (a = b))) := dNe_enc (α := List Int) a b
/-! ### plain values -/
/-- plain values: n deep at most, 1000 items at most -/
inductive Ok : Nat → D → Prop
  | non {n} : Ok n .non
  | bl {n} (b : Bool) : Ok n (.bl b)
  | int {n} (i : Int) : Ok n (.int i)
  | str {n} (x : Str) : Ok n (.str x)
  | dct0 {n l} : Ok n (.dct l)
  | tup {n l} : l.length ≤ 1000 → (∀ x ∈ l, Ok n x) → Ok (n + 1) (.tup l)
  | lst {n l} : l.length ≤ 1000 → (∀ x ∈ l, Ok n x) → Ok (n + 1) (.lst l)
theorem Ok.plain {n : Nat} {d : D} (h : Ok n d) : plain d := by cases h <;> rfl
theorem Ok.items {n : Nat} {l : List D} (h : Ok n (.tup l)) : l.length ≤ 1000 ∧ ∀ x ∈ l, DL.plain x := by
  cases h with
  | tup h1 h2 => exact ⟨h1, fun x hx => (h2 x hx).plain⟩
theorem Ok.mono {n m : Nat} {d : D} (h : Ok n d) (hm : n ≤ m) : Ok m d := by
  induction h generalizing m with
  | non => exact .non
  | bl b => exact .bl b
  | int i => exact .int i
  | str x => exact .str x
  | dct0 => exact .dct0
  | tup h1 h2 ih =>
    cases m with
    | zero => omega
    | succ m => exact .tup h1 fun x hx => ih x hx (by omega)
  | lst h1 h2 ih =>
    cases m with
    | zero => omega
    | succ m => exact .lst h1 fun x hx => ih x hx (by omega)
theorem ok_pr (p : Pr) : Ok 1 (pr p) := .tup (by show 2 ≤ 1000; decide) fun x hx => by
  rcases List.mem_cons.mp hx with rfl | hx
  · exact .int _
  · rw [List.mem_singleton.mp hx]; exact .int _
theorem ok_pl (ps : Pl) (h : ps.length ≤ 1000) : Ok 2 (pl ps) := .tup (by rw [List.length_map]; exact h) fun x hx => by
  obtain ⟨p, _, rfl⟩ := List.mem_map.mp hx
  exact ok_pr p
/-! ### isinstance -/
def isIntD : D → Bool
  | .int _ => true
  | .bl _ => true
  | _ => false
def isBlD : D → Bool
  | .bl _ => true
  | _ => false
section
variable {g : G} {P : D → G → Prop} {d : D}
theorem w_isiInt (h : plain d) (hp : P (.bl (isIntD d)) g) : OpP (isi0 [d, .ty "int"]) P g := by
  refine op_some ((isi_int h).trans ?_) hp
  cases d <;> rfl
theorem w_isiBl (h : plain d) (hp : P (.bl (isBlD d)) g) : OpP (isi0 [d, .ty "bool"]) P g := by
  refine op_some ((isi_bool h).trans ?_) hp
  cases d <;> rfl
theorem w_isiTup (h : plain d) (hp : P (.bl (isTup d)) g) : OpP (isi0 [d, .ty "tuple"]) P g := op_some (isi_tup h) hp
/-! ### operations -/
theorem w_addI {a b : Int} (h : P (.int (a + b)) g) : OpP (dAdd (.int a) (.int b)) P g := h
theorem w_subI {a b : Int} (h : P (.int (a - b)) g) : OpP (dSub (.int a) (.int b)) P g := h
theorem w_mulI {a b : Int} (hb : (-1000000000 ≤ a ∧ a ≤ 1000000000) ∨ (-1000000000 ≤ b ∧ b ≤ 1000000000)) (h : P (.int (a * b)) g) : OpP (dMul (.int a) (.int b)) P g :=
  op_some (show dMul (.int a) (.int b) = some (.int (a * b)) from by
    unfold dMul
    dsimp only
    rw [if_pos (hb.imp (fun h => ⟨by omega, by omega⟩) fun h => ⟨by omega, by omega⟩)]) h
theorem w_ltI {a b : Int} (h : P (.bl (decide (a < b))) g) : OpP (dLt (.int a) (.int b)) P g := h
theorem w_leI {a b : Int} (h : P (.bl (decide (a ≤ b))) g) : OpP (dLe (.int a) (.int b)) P g := h
theorem w_gtI {a b : Int} (h : P (.bl (decide (b < a))) g) : OpP (dGt (.int a) (.int b)) P g := h
theorem w_geI {a b : Int} (h : P (.bl (decide (b ≤ a))) g) : OpP (dGe (.int a) (.int b)) P g := h
theorem w_eqI {a b : Int} (h : P (.bl (decide (a = b))) g) : OpP (dEq (.int a) (.int b)) P g := op_some (dEq_enc (α := Int) a b) h
theorem w_neI {a b : Int} (h : P (.bl (!decide (a = b))) g) : OpP (dNe (.int a) (.int b)) P g := op_some (dNe_enc (α := Int) a b) h
theorem w_addT {a b : List D} (hl : a.length + b.length ≤ 1000) (h : P (.tup (a ++ b)) g) : OpP (dAdd (.tup a) (.tup b)) P g := op_some (by unfold dAdd; dsimp only; rw [if_pos (line_1000 hl)]) h
theorem w_addL {a b : List D} (hl : a.length + b.length ≤ 1000) (h : P (.lst (a ++ b)) g) : OpP (dAdd (.lst a) (.lst b)) P g := op_some (by unfold dAdd; dsimp only; rw [if_pos (line_1000 hl)]) h
theorem w_negI {a : Int} (h : P (.int (-a)) g) : OpP (uNeg (.int a)) P g := h
theorem w_lenT {l : List D} (h : P (.int l.length) g) : OpP (fLen [.tup l]) P g := h
theorem w_lenL {l : List D} (h : P (.int l.length) g) : OpP (fLen [.lst l]) P g := h
theorem w_lenD {l : List (D × D)} (h : P (.int l.length) g) : OpP (fLen [.dct l]) P g := h
theorem w_lenS {l : List D} (hl : l.length ≤ 1000) (h : P (.int l.length) g) : OpP (fLen [.set l]) P g := op_some (by unfold fLen; dsimp only; rw [if_pos hl]) h
theorem w_lenR {n : Nat} (h : P (.int n) g) : OpP (fLen [.scr n]) P g := h
theorem w_tupL {l : List D} (h : P (.tup l) g) : OpP (fTuple [.lst l]) P g := h
theorem w_tupT {l : List D} (h : P (.tup l) g) : OpP (fTuple [.tup l]) P g := h
theorem w_lstL {l : List D} (h : P (.lst l) g) : OpP (fList [.lst l]) P g := h
theorem w_lstT {l : List D} (h : P (.lst l) g) : OpP (fList [.tup l]) P g := h
theorem w_cutT {l : List D} {a b : Option Int} (h : P (.tup (cutD l a b)) g) : OpP (dCut (.tup l) a b) P g := h
theorem w_cutL {l : List D} {a b : Option Int} (h : P (.lst (cutD l a b)) g) : OpP (dCut (.lst l) a b) P g := h
theorem w_backT {l : List D} (h : P (.tup l.reverse) g) : OpP (dBack (.tup l)) P g := h
theorem w_backL {l : List D} (h : P (.lst l.reverse) g) : OpP (dBack (.lst l)) P g := h
theorem w_zipL {a b : List D} (h : P (.lst ((a.zip b).map fun p => .tup [p.1, p.2])) g) : OpP (fZipL [.lst a, .lst b]) P g := h
theorem w_min2 {a b : Int} (h : P (.int (if b < a then b else a)) g) : OpP (fMin2 [.int a, .int b]) P g := h
theorem w_max2 {a b : Int} (h : P (.int (if b > a then b else a)) g) : OpP (fMax2 [.int a, .int b]) P g := h
theorem w_ixT {l : List D} {i : Nat} {x : D} (e : l[i]? = some x) (h : P x g) : OpP (dIx (.tup l) (.int (i : Int))) P g := by
  refine op_some ?_ h
  show L2.atI l i = _
  unfold L2.atI ixN
  have hl := (List.getElem?_eq_some_iff.mp e).1
  rw [if_pos (by omega), if_pos (by omega)]
  show l[(i : Int).toNat]? = _
  rw [Int.toNat_natCast]
  exact e
theorem w_ixL {l : List D} {i : Nat} {x : D} (e : l[i]? = some x) (h : P x g) : OpP (dIx (.lst l) (.int (i : Int))) P g := w_ixT (l := l) e h
theorem w_ix0 {l : List D} {x : D} (h : P x g) : OpP (dIx (.tup (x :: l)) (.int 0)) P g := w_ixT (i := 0) rfl h
theorem w_ix1 {l : List D} {x y : D} (h : P y g) : OpP (dIx (.tup (x :: y :: l)) (.int 1)) P g := w_ixT (i := 1) rfl h
theorem w_ix0L {l : List D} {x : D} (h : P x g) : OpP (dIx (.lst (x :: l)) (.int 0)) P g := w_ixL (i := 0) rfl h
theorem w_ix1L {l : List D} {x y : D} (h : P y g) : OpP (dIx (.lst (x :: y :: l)) (.int 1)) P g := w_ixL (i := 1) rfl h
theorem w_int {i : Int} (h : P (.int i) g) : OpP (fInt [.int i]) P g := h
end
/-! ### sorted -/
def leP (a b : Pr) : Bool := decide (a.1 < b.1 ∨ (a.1 = b.1 ∧ a.2 ≤ b.2))
def sortP (ps : Pl) : Pl := ps.mergeSort leP
def sortI (ns : List Int) : List Int := ns.mergeSort fun a b => decide (a ≤ b)
theorem mergeSort_map {α β : Type} (f : α → β) (le : β → β → Bool) (l : List α) : (l.map f).mergeSort le = (l.mergeSort fun a b => le (f a) (f b)).map f := by
  rw [List.map_mergeSort]
  intro a _ b _
  rfl
theorem pyD_pr (p : Pr) : pyD (pr p) = .tuple [.int p.1, .int p.2] := by
  have h := Enc.py p
  have h : (pr p).py = some (.tuple [.int p.1, .int p.2]) := h
  unfold pyD
  rw [h]
  rfl
theorem sort_pr (ps : Pl) (hl : ps.length ≤ 1000) : sortD (ps.map pr) = some ((sortP ps).map pr) := by
  have hp : D.pys (ps.map pr) = some (ps.map fun p => PyData.tuple [.int p.1, .int p.2]) := pys_enc ps
  have hok : sortOk (ps.map fun p => PyData.tuple [.int p.1, .int p.2]) = true := by
    unfold sortOk alikeB sortB
    simp only [Bool.and_eq_true, Bool.or_eq_true, List.all_map, List.all_eq_true, Function.comp_apply, decide_eq_true_eq]
    refine ⟨⟨fun x _ y _ => ?_, .inl fun x _ => trivial⟩, fun x _ => ?_⟩
    · rfl
    · simp only [PyData.depth, PyData.depthAll]
      omega
  unfold sortD
  rw [hp]
  dsimp only
  rw [if_pos ⟨hok, by rw [List.length_map]; exact line_1000 hl⟩, mergeSort_map]
  have e : (fun a b : Pr => PySem.W.dataLe false pyD (pr a) (pr b)) = leP := by
    have h := PySem.W.dataLe_ii (β := Pr) (fun p => p.1) (fun p => p.2)
    have h2 : (fun a b : Pr => PySem.W.dataLe false pyD (pr a) (pr b)) = PySem.W.dataLe false (fun b : Pr => PyData.tuple [.int b.1, .int b.2]) := by
      funext a b
      rw [PySem.W.dataLe_eq, PySem.W.dataLe_eq]
      simp only [pyD_pr]
    rw [h2, h]
    rfl
  rw [e]
  rfl
section
variable {g : G} {P : D → G → Prop}
theorem w_sortP {ps : Pl} (hl : ps.length ≤ 1000) (h : P (.lst ((sortP ps).map pr)) g) : OpP (fSorted [.lst (ps.map pr)]) P g := op_some (show (sortD (ps.map pr)).map D.lst = _ from by rw [sort_pr ps hl]; rfl) h
theorem w_sortPT {ps : Pl} (hl : ps.length ≤ 1000) (h : P (.lst ((sortP ps).map pr)) g) : OpP (fSorted [.tup (ps.map pr)]) P g := op_some (show (sortD (ps.map pr)).map D.lst = _ from by rw [sort_pr ps hl]; rfl) h
end
theorem leP_trans {a b c : Pr} (h1 : leP a b = true) (h2 : leP b c = true) : leP a c = true := by
  unfold leP at *
  simp only [decide_eq_true_eq] at *
  omega
theorem leP_total (a b : Pr) : (leP a b || leP b a) = true := by
  unfold leP
  simp only [Bool.or_eq_true, decide_eq_true_eq]
  omega
theorem sortP_perm (ps : Pl) : (sortP ps).Perm ps := List.mergeSort_perm _ _
theorem sortI_perm (ns : List Int) : (sortI ns).Perm ns := List.mergeSort_perm _ _
theorem sortP_pair (ps : Pl) : (sortP ps).Pairwise (fun a b => leP a b = true) := List.pairwise_mergeSort (le := leP) (fun _ _ _ h1 h2 => leP_trans h1 h2) leP_total ps
theorem sortI_pair (ns : List Int) : (sortI ns).Pairwise (· ≤ ·) := by
  have h := List.pairwise_mergeSort (le := fun a b : Int => decide (a ≤ b)) (fun a b c h1 h2 => by simp only [decide_eq_true_eq] at *; omega) (fun a b => by simp only [Bool.or_eq_true, decide_eq_true_eq]; omega) ns
  exact h.imp fun h => by simpa using h
end DL
end
section
set_option Elab.async false
set_option linter.all false
set_option maxRecDepth 100000
namespace SH
open PySem PySem.Spec PyProof.Rows L2 DL
def t_is_between : Ss :=
  (sRet (eAnd (eTr (eCall isi0 (sCons (eVar 0) (sCons (eC (.ty "int")) sNil)))) (eAnd (eTr (eNot (eCall isi0 (sCons (eVar 0) (sCons (eC (.ty "bool")) sNil))))) (eChain dLe dLe (eVar 1) (eVar 0) (eVar 2)))))
def f_is_between : List D → M D := fnB t_is_between 3
def t_is_pair : Ss :=
  (sSeq (sIf (bOr (bNot (eTr (eCall isi0 (sCons (eVar 0) (sCons (eC (.ty "tuple")) sNil))))) (eTr (eBin dNe (eCall fLen (sCons (eVar 0) sNil)) (eC (.int 2)))))
  (sRet (eC (.bl false)))
  (fun ρ => M.pure (.nx ρ)))
  (sRet (eAnd (eTr (eCallF f_is_between (sCons (eBin dIx (eVar 0) (eC (.int 0))) (sCons (eC (.int 0)) (sCons (eC (.int 7)) sNil))))) (eCallF f_is_between (sCons (eBin dIx (eVar 0) (eC (.int 1))) (sCons (eC (.int 0)) (sCons (eC (.int 7)) sNil)))))))
def f_is_pair : List D → M D := fnB t_is_pair 1
def t_are_apart : Ss :=
  (sSeq (sSet false 1 (eScI (sItems (eVar 0)) (gN 3) sYes (eBin dIx (eVar 3) (eC (.int 0))) [3]))
  (sSeq (sSet false 2 (eScI (sItems (eVar 0)) (gN 3) sYes (eBin dIx (eVar 3) (eC (.int 1))) [3]))
  (sRet (eAnd (eTr (eBin dEq (eCall fLen (sCons (eVar 1) sNil)) (eCall fLen (sCons (eVar 0) sNil)))) (eBin dEq (eCall fLen (sCons (eVar 2) sNil)) (eCall fLen (sCons (eVar 0) sNil)))))))
def f_are_apart : List D → M D := fnB t_are_apart 4
def t_plans_right : Ss :=
  (sSeq (sIf (bOr (bNot (eTr (eCall isi0 (sCons (eVar 0) (sCons (eC (.ty "tuple")) sNil))))) (bNot (eTr (eCall fAll (sCons (eLc (sItems (eVar 0)) (gN 1) sYes (eCallF f_is_pair (sCons (eVar 1) sNil)) [1]) sNil)))))
  (sRet (eC (.bl false)))
  (fun ρ => M.pure (.nx ρ)))
  (sRet (eAnd (eTr (eBin dEq (eCall fList (sCons (eVar 0) sNil)) (eCall fSorted (sCons (eVar 0) sNil)))) (eCallF f_are_apart (sCons (eVar 0) sNil)))))
def f_plans_right : List D → M D := fnB t_plans_right 2
def t__law_draw : Ss :=
  (sSeq (sWhile (bAnd (eTr (eBin dEq (eStL 0) (eC (.int 0)))) (tLsNe 0 (·.large)))
  (sSt 0 uL (ePopL 0)) 66)
  (sSeq (sIf (eTr (eBin dGt (eStL 0) (eC (.int 0))))
  (sSeq (sSet false 2 (eBin dMod (eCall fInt (sCons (eStL 0) sNil)) (eVar 1)))
  (sSeq (sSt 0 uL (eBin dFdiv (eStL 0) (eVar 1)))
  (sRet (eVar 2))))
  (fun ρ => M.pure (.nx ρ)))
  (sSeq (sSet false 3 (eBin dAdd (eStT 0) (eC (.int 1))))
  (sSeq (sSt 0 uT (eVar 3))
  (sSeq (sSet false 4 (eIf (tLsNe 0 (·.cells)) (eCellIx 0 (eBin dMod (eCall fInt (sCons (eVar 3) sNil)) (eCellLen 0))) (eC (.int 0))))
  (sSeq (sSet false 5 (eBin dMod (eCall fInt (sCons (eBin dPow (eBin dAdd (eBin dAdd (eBin dMod (eCall fInt (sCons (eVar 4) sNil)) (eC (.int 2147483563))) (eBin dMul (eC (.int 40692)) (eVar 3))) (eC (.int 24681))) (eC (.int 3))) sNil)) (eC (.int 2147483629))))
  (sRet (eBin dMod (eCall fInt (sCons (eBin dFdiv (eBin dMod (eCall fInt (sCons (eBin dPow (eBin dAdd (eVar 5) (eBin dMul (eC (.int 104917)) (eVar 3))) (eC (.int 5))) sNil)) (eC (.int 2147483579))) (eC (.int 29))) sNil)) (eVar 1)))))))))
def f__law_draw : List D → M D := fnB t__law_draw 6
def t__law_pick : Ss :=
  (sRet (eBin dIx (eVar 1) (eCallF f__law_draw (sCons (eVar 0) (sCons (eCall fLen (sCons (eVar 1) sNil)) sNil)))))
def f__law_pick : List D → M D := fnB t__law_pick 2
def t__law_mixed : Ss :=
  (sSeq (sPar true true 2 3 (eCall fList (sCons (eVar 1) sNil)) (eLst sNil))
  (sSeq (sWhile (eTr (eBin dNeX (ePeek 2) (eLst sNil)))
  (sExprM (eMeth 3 hAppend (mCons (eMeth 2 hPop (mCons (mPure (eCallF f__law_draw (sCons (eVar 0) (sCons (eCall fLen (sCons (ePeek 2) sNil)) sNil)))) mNil)) mNil))) 1000)
  (sFrz [3] (sRet (eVar 3)))))
def f__law_mixed : List D → M D := fnB t__law_mixed 4
def t_need_plan : Ss :=
  (sIf (bNot (eTr (eCallF f_plans_right (sCons (eVar 0) sNil))))
  (sRaise "BadPlan")
  (fun ρ => M.pure (.nx ρ)))
def f_need_plan : List D → M D := fnB t_need_plan 1
def t_turned_plan : Ss :=
  (sRet (eCall fTuple (sCons (eCall fSorted (sCons (eLc (sItems (eVar 0)) (gN 1) sYes (eTup (sCons (eBin dIx (eVar 1) (eC (.int 1))) (sCons (eBin dIx (eVar 1) (eC (.int 0))) sNil))) [1]) sNil)) sNil)))
def f_turned_plan : List D → M D := fnB t_turned_plan 2
def t_turned : Ss :=
  (sSeq (sExpr (eCallF f_need_plan (sCons (eVar 0) sNil)))
  (sRet (eCallF f_turned_plan (sCons (eVar 0) sNil))))
def f_turned : List D → M D := fnB t_turned 1
end SH
end
set_option Elab.async false
set_option linter.all false
set_option maxRecDepth 100000
set_option maxHeartbeats 2000000
/-! What the defs that many laws share come to: numbers, pairs, plans, books. -/
open PySem PySem.Spec PyProof.Rows L2 DL
local macro_rules | `(tactic| walk_at "len") => `(tactic| first | with_unfolding_all decide | omega | (simp only [List.length_cons, List.length_nil, List.length_map, List.length_append]; omega))
local macro_rules | `(tactic| walk_at "w1") => `(tactic| with_reducible first
  | refine w_seq ?_ | refine w_if ?_ | refine w_ret ?_ | refine w_set ?_ | refine w_skip ?_ | refine w_T ?_ | refine w_F ?_ | refine w_tr ?_ | refine w_trp ?_ | refine w_callF ?_ | refine w_call ?_ | refine w_cons ?_ | refine w_nil ?_ | refine w_c ?_
  | refine w_var (by with_unfolding_all exact rfl) ?_ | refine w_peek (by with_unfolding_all exact rfl) ?_ | refine w_bin ?_ | refine w_bAnd ?_ | refine w_bOr ?_ | refine w_bNot ?_ | refine w_and ?_ | refine w_or ?_ | refine w_not ?_ | refine w_un ?_ | refine w_inp ?_
  | refine w_chain ?_ | refine w_ife ?_ | refine w_bo ?_ | refine w_expr ?_ | refine w_oNone ?_ | refine w_oSome ?_ | refine w_sl ?_ | refine w_items ?_ | refine w_sqL ?_ | refine w_sqT ?_ | refine w_eDct ?_ | refine w_prsC ?_ | refine w_prsN ?_ | refine w_eDc ?_ | refine w_itL ?_ | refine w_itT ?_ | refine w_itD ?_ | refine w_setO ?_ | refine w_par ?_ | refine w_asg ?_
  | refine w_addI ?_ | refine w_subI ?_ | refine w_ltI ?_ | refine w_leI ?_ | refine w_gtI ?_ | refine w_geI ?_ | refine w_eqI ?_ | refine w_neI ?_ | refine w_negI ?_ | refine w_lenT ?_ | refine w_lenL ?_ | refine w_lenD ?_ | refine w_lenR ?_
  | refine w_tupL ?_ | refine w_tupT ?_ | refine w_lstL ?_ | refine w_lstT ?_ | refine w_cutT ?_ | refine w_cutL ?_ | refine w_backT ?_ | refine w_backL ?_ | refine w_zipL ?_ | refine w_zipR ?_ | refine w_min2 ?_ | refine w_max2 ?_ | refine w_ix0 ?_ | refine w_ix1 ?_ | refine w_ix0L ?_ | refine w_ix1L ?_ | refine w_int ?_
  | refine w_methE (by with_unfolding_all exact rfl) ?_ | refine op_own (by with_unfolding_all exact rfl) ?_ | refine w_mPure ?_ | refine w_mNil ?_ | refine w_mCons ?_ | refine w_exprM ?_ | refine w_setM ?_ | refine w_frz ?_ | refine w_par3 ?_ | refine w_callK ?_ | refine w_enum ?_ | refine w_eInt ?_ | refine w_rg1 ?_ | refine w_rg2 ?_ | refine w_raise ?_ | refine w_lc ?_ | refine w_lstRg ?_ | refine w_tupRg ?_ | refine w_lst ?_ | refine w_tup ?_ | refine w_range1 ?_ | refine w_range2 ?_ | refine And.intro (by walk_at "len") ?_)
local macro_rules | `(tactic| walk_at "w2") => `(tactic| first | walk_at "w1" | with_reducible refine w_iteT (by with_unfolding_all exact rfl) ?_ | with_reducible refine w_iteF (by with_unfolding_all exact rfl) ?_ | dsimp only)
local macro_rules | `(tactic| walk_at "w") => `(tactic| repeat walk_at "w2")
section
namespace SH
section
variable {g : G} {P : D → G → Prop} {E : XE} {d : D}
/-- a number from lo to hi -/
def btw (d : D) (lo hi : Int) : Bool := match d with
  | .int i => decide (lo ≤ i) && decide (i ≤ hi)
  | _ => false
theorem is_between {lo hi : Int} (h : plain d) (k : P (.bl (btw d lo hi)) g) : (f_is_between [d, .int lo, .int hi] g).all P E := by
  refine w_fn ?_
  unfold t_is_between
  walk_at "w"
  refine w_isiInt h ?_
  cases d <;> first | exact k | skip
  rename_i i
  walk_at "w"
  refine w_isiBl h ?_
  walk_at "w"
  change P (.bl (decide (lo ≤ i) && decide (i ≤ hi))) g at k
  refine w_dec (fun h1 => ?_) fun h1 => ?_
  · walk_at "w"
    rw [decide_eq_true h1] at k
    exact k
  · rw [decide_eq_false h1] at k
    exact k
/-- a pair -/
def toPr (d : D) : Option Pr := match d with
  | .tup [.int a, .int b] => if 0 ≤ a ∧ a ≤ 7 ∧ 0 ≤ b ∧ b ≤ 7 then some (a, b) else none
  | _ => none
theorem toPr_some {d : D} {p : Pr} (h : toPr d = some p) : d = pr p ∧ 0 ≤ p.1 ∧ p.1 ≤ 7 ∧ 0 ≤ p.2 ∧ p.2 ≤ 7 := by
  unfold toPr at h
  split at h
  · obtain ⟨h1, h2⟩ := opt_if h
    subst h2
    exact ⟨rfl, h1⟩
  · cases h
theorem toPr_pr {p : Pr} (h : 0 ≤ p.1 ∧ p.1 ≤ 7 ∧ 0 ≤ p.2 ∧ p.2 ≤ 7) : toPr (pr p) = some p := by
  show (if 0 ≤ p.1 ∧ p.1 ≤ 7 ∧ 0 ≤ p.2 ∧ p.2 ≤ 7 then some (p.1, p.2) else none) = _
  rw [if_pos h]
theorem toPr_two (x y : D) : (toPr (.tup [x, y])).isSome = (btw x 0 7 && btw y 0 7) := by
  unfold toPr
  split
  · rename_i a b e
    cases e
    simp only [btw]
    split <;> simp_all
  · rename_i h
    cases x <;> cases y <;> first | rfl | (exfalso; exact h _ _ rfl) | simp [btw]
theorem toPr_len {l : List D} (h : l.length ≠ 2) : toPr (.tup l) = none := by
  unfold toPr
  split
  · rename_i a b e
    cases e
    exact absurd rfl h
  · rfl
theorem is_pair {n : Nat} (h : Ok n d) (k : P (.bl (toPr d).isSome) g) : (f_is_pair [d] g).all P E := by
  refine w_fn ?_
  unfold t_is_pair
  walk_at "w"
  refine w_isiTup h.plain ?_
  cases d <;> first | exact k | skip
  rename_i l
  walk_at "w"
  obtain ⟨hl, hx⟩ := h.items
  refine w_ndec (fun h1 => ?_) fun h1 => ?_
  · rw [toPr_len (fun w => h1 (by rw [w]; rfl))] at k
    walk_at "w"
    exact k
  · have h1 : l.length = 2 := by omega
    match l, h1, hx, k with
    | [x, y], _, hx, k =>
    rw [toPr_two] at k
    walk_at "w"
    refine is_between (hx x (by simp)) ?_
    walk_at "w"
    refine w_b (fun h2 => ?_) fun h2 => ?_
    · walk_at "w"
      refine is_between (hx y (by simp)) ?_
      rw [h2] at k
      exact k
    · rw [h2] at k
      exact k
theorem unlikeL_all {ns : List Int} : (unlikeL ns).length = ns.length ↔ ns.Nodup := by
  have key : ∀ (l acc : List Int), acc.Nodup → ((l.foldl addNew acc).length = acc.length + l.length ↔ (acc ++ l).Nodup) := by
    intro l
    induction l with
    | nil => intro acc h; simp [h]
    | cons k l ih =>
      intro acc h
      rw [List.foldl_cons]
      have hb : ∀ (l acc : List Int), (l.foldl addNew acc).length ≤ acc.length + l.length := by
        intro l
        induction l with
        | nil => intro acc; simp
        | cons k l ih =>
          intro acc
          rw [List.foldl_cons, List.length_cons]
          refine Nat.le_trans (ih _) ?_
          rw [len_addNew]
          split <;> omega
      by_cases hk : k ∈ acc
      · have e : addNew acc k = acc := by unfold addNew; rw [if_pos hk]
        rw [e]
        constructor
        · intro q
          have := hb l acc
          rw [List.length_cons] at q
          omega
        · intro q
          exact absurd rfl ((List.nodup_append.mp q).2.2 k hk k List.mem_cons_self)
      · have e : addNew acc k = acc ++ [k] := by unfold addNew; rw [if_neg hk]
        rw [e, show acc ++ k :: l = (acc ++ [k]) ++ l by simp, ← ih (acc ++ [k]) (by rw [← e]; exact addNew_nodup h)]
        rw [List.length_append, List.length_cons, List.length_cons, List.length_nil]
        constructor <;> intro q <;> omega
  have := key ns [] List.nodup_nil
  simpa [unlikeL] using this
/-- persons and desks unlike -/
def apart (ps : Pl) : Bool := decide (ps.map (·.1)).Nodup && decide (ps.map (·.2)).Nodup
theorem intsOf_map' {α : Type} (f : α → Int) (l : List α) : intsOf (l.map fun x => D.int (f x)) = some (l.map f) := by
  have e : (l.map fun x => D.int (f x)) = (l.map f).map D.int := by rw [List.map_map]; rfl
  rw [e, intsOf_map]
theorem are_apart {ps : Pl} {q : D} (hq : q = pl ps ∨ q = .lst (ps.map pr)) (hl : ps.length ≤ 1000) (k : P (.bl (apart ps)) g) : (f_are_apart [q] g).all P E := by
  have len1 : ∀ {g : G} {T : List D → G → Prop} {ρ : DL.Env}, ρ[0]? = some (some (false, q)) → T (ps.map pr) g → (sItems (eVar 0) ρ g).all T E := fun e h => by
    refine w_items (w_var e ?_)
    rcases hq with rfl | rfl <;> exact h
  have len2 : ∀ {g : G} {T : D → G → Prop}, T (.int ps.length) g → OpP (fLen [q]) T g := fun h => by
    rcases hq with rfl | rfl
    · exact w_lenT (by rw [List.length_map]; exact h)
    · exact w_lenL (by rw [List.length_map]; exact h)
  refine w_fn ?_
  unfold t_are_apart
  walk_at "w"
  refine w_scI (len1 rfl ⟨by rw [List.length_map]; exact hl, ?_⟩)
  refine w_lcT (fun p => .int p.1) (fun p _ => ⟨_, rfl, ?_⟩) ?_
  · walk_at "w"
    exact ⟨rfl, rfl⟩
  refine op_some (intsOf_map' (fun p => p.1) ps) ?_
  walk_at "w"
  refine w_scI (len1 rfl ⟨by rw [List.length_map]; exact hl, ?_⟩)
  refine w_lcT (fun p => .int p.2) (fun p _ => ⟨_, rfl, ?_⟩) ?_
  · walk_at "w"
    exact ⟨rfl, rfl⟩
  refine op_some (intsOf_map' (fun p => p.2) ps) ?_
  have l1 := unlikeL_len (ps.map (·.1))
  have l2 := unlikeL_len (ps.map (·.2))
  rw [List.length_map] at l1 l2
  walk_at "w"
  refine w_lenS (by rw [List.length_map]; omega) ?_
  walk_at "w"
  refine len2 ?_
  walk_at "w"
  have e1 : ((((unlikeL (ps.map (·.1))).map D.int).length : Nat) : Int) = (ps.length : Int) ↔ (ps.map (·.1)).Nodup := by
    rw [List.length_map, ← unlikeL_all, List.length_map]
    omega
  have e2 : ((((unlikeL (ps.map (·.2))).map D.int).length : Nat) : Int) = (ps.length : Int) ↔ (ps.map (·.2)).Nodup := by
    rw [List.length_map, ← unlikeL_all, List.length_map]
    omega
  refine w_dec (fun h => ?_) fun h => ?_
  · walk_at "w"
    refine w_lenS (by rw [List.length_map]; omega) ?_
    walk_at "w"
    refine len2 ?_
    walk_at "w"
    have : apart ps = decide (((((unlikeL (ps.map (·.2))).map D.int).length : Nat) : Int) = (ps.length : Int)) := by
      unfold apart
      rw [decide_eq_true (e1.mp h), Bool.true_and]
      exact decide_eq_decide.mpr e2.symm
    rw [← this]
    exact k
  · have : apart ps = false := by
      unfold apart
      rw [decide_eq_false (fun w => h (e1.mpr w)), Bool.false_and]
    rw [this] at k
    exact k
/-- a plan -/
def toPl : List D → Option Pl
  | [] => some []
  | d :: l => match toPr d, toPl l with
    | some p, some ps => some (p :: ps)
    | _, _ => none
theorem toPl_some : ∀ {l : List D} {ps : Pl}, toPl l = some ps → l = ps.map pr ∧ ∀ p ∈ ps, 0 ≤ p.1 ∧ p.1 ≤ 7 ∧ 0 ≤ p.2 ∧ p.2 ≤ 7
  | [], ps, h => by cases h; exact ⟨rfl, fun _ h => nomatch h⟩
  | d :: l, ps, h => by
    unfold toPl at h
    split at h
    · rename_i p ps' h1 h2
      cases h
      obtain ⟨rfl, hp⟩ := toPr_some h1
      obtain ⟨rfl, hps⟩ := toPl_some h2
      refine ⟨rfl, fun q hq => ?_⟩
      rcases List.mem_cons.mp hq with rfl | hq
      · exact hp
      · exact hps q hq
    · cases h
theorem toPl_map : ∀ {ps : Pl}, (∀ p ∈ ps, 0 ≤ p.1 ∧ p.1 ≤ 7 ∧ 0 ≤ p.2 ∧ p.2 ≤ 7) → toPl (ps.map pr) = some ps
  | [], _ => rfl
  | p :: ps, h => by
    rw [List.map_cons, toPl, toPr_pr (h p List.mem_cons_self), toPl_map fun q hq => h q (List.mem_cons_of_mem _ hq)]
theorem toPl_all : ∀ (l : List D), (toPl l).isSome = l.all fun d => (toPr d).isSome
  | [] => rfl
  | d :: l => by
    rw [toPl, List.all_cons, ← toPl_all l]
    cases toPr d <;> cases toPl l <;> rfl
def planB (d : D) : Bool := match d with
  | .tup l => match toPl l with
    | some ps => decide (ps = sortP ps) && apart ps
    | none => false
  | _ => false
theorem plans_right (h : Ok 3 d) (k : P (.bl (planB d)) g) : (f_plans_right [d] g).all P E := by
  refine w_fn ?_
  unfold t_plans_right
  walk_at "w"
  refine w_isiTup h.plain ?_
  cases d <;> first | exact k | skip
  rename_i l
  cases h with | tup hl hx =>
  walk_at "w"
  refine w_lcM (fun d => .bl (toPr d).isSome) (fun d hd => ⟨_, rfl, ?_⟩) ?_
  · walk_at "w"
    exact is_pair (hx d hd) ⟨rfl, rfl⟩
  have e : (blsOf (l.map fun d => D.bl (toPr d).isSome)).map (fun bs => D.bl (bs.all id)) = some (.bl (toPl l).isSome) := by
    have e2 : (l.map fun d => D.bl (toPr d).isSome) = (l.map fun d => (toPr d).isSome).map D.bl := by rw [List.map_map]; rfl
    rw [e2, blsOf_map, toPl_all]
    show some (D.bl ((l.map fun d => (toPr d).isSome).all id)) = _
    rw [List.all_map]
    rfl
  walk_at "w"
  refine op_some (show fAll [.lst (l.map fun d => D.bl (toPr d).isSome)] = _ from e) ?_
  walk_at "w"
  change P (.bl (match toPl l with | some ps => decide (ps = sortP ps) && apart ps | none => false)) g at k
  cases q : toPl l with
  | none =>
    rw [q] at k
    walk_at "w"
    exact k
  | some ps =>
    rw [q] at k
    change P (.bl (decide (ps = sortP ps) && apart ps)) g at k
    obtain ⟨rfl, hb⟩ := toPl_some q
    rw [List.length_map] at hl
    walk_at "w"
    refine w_sortPT hl ?_
    walk_at "w"
    refine op_some (eq_prs _ _) ?_
    walk_at "w"
    refine w_b (fun h1 => ?_) fun h1 => ?_
    · walk_at "w"
      refine are_apart (.inl rfl) hl ?_
      rw [h1, Bool.true_and] at k
      exact k
    · rw [h1, Bool.false_and] at k
      exact k
end
end SH
end
section
set_option Elab.async false
set_option linter.all false
set_option maxRecDepth 100000
set_option maxHeartbeats 2000000
/-! What the defs that many laws share come to: books; the laws' own reading of them. -/
open PySem PySem.Spec PyProof.Rows L2 DL
namespace SH
section
variable {g : G} {P : D → G → Prop} {E : XE} {d : D}
theorem all_bls {α : Type} (B : α → Bool) (l : List α) : fAll [.lst (l.map fun d => D.bl (B d))] = some (.bl (l.all B)) := by
  have e2 : (l.map fun d => D.bl (B d)) = (l.map B).map D.bl := by rw [List.map_map]; rfl
  show (blsOf (l.map fun d => D.bl (B d))).map (fun bs => D.bl (bs.all id)) = _
  rw [e2, blsOf_map]
  show some (D.bl ((l.map B).all id)) = _
  rw [List.all_map]
  rfl
/-! ### the laws' own reading -/
theorem ones {α : Type} (B : α → Bool) (l : List α) : dEq (.lst ((l.filter fun d => !B d).map fun _ => D.int 1)) (.lst []) = some (.bl (l.all B)) := by
  have e : ((l.filter fun d => !B d).map fun _ => D.int 1) = ((l.filter fun d => !B d).map fun _ => (1 : Int)).map D.int := by rw [List.map_map]; rfl
  rw [e, show (D.lst [] : D) = .lst (([] : List Int).map D.int) from rfl, eq_ints]
  congr 2
  rw [Bool.eq_iff_iff, decide_eq_true_eq, List.map_eq_nil_iff, List.filter_eq_nil_iff, List.all_eq_true]
  simp
end
end SH
end
section
set_option Elab.async false
set_option linter.all false
set_option maxRecDepth 100000
set_option maxHeartbeats 2000000
/-! What is drawn: numbers, picks, rows mixed, plans. -/
open PySem PySem.Spec PyProof.Rows L2 DL
namespace SH
open DL.Enc (enc)
section
variable {g : G} {P : D → G → Prop} {E : XE} {d : D} {m : Nat}
theorem draw {n : Int} (hG : GI m g) (hm : 1 ≤ m) (h0 : 0 < n) (h1 : n ≤ 1000000) (k : ∀ (r : Nat) g', (r : Int) < n → GI (m - 1) g' → P (.int r) g') : (f__law_draw [.st, .int n] g).all P E := by
  obtain ⟨r, g', e, r0, r1, h⟩ := draw_ok (k := m - 1) h0 (by omega) (by rw [Nat.sub_add_cancel hm]; exact hG)
  obtain ⟨r, rfl⟩ := Int.eq_ofNat_of_zero_le r0
  exact R.all_of e (k r g' r1 h)
theorem pick {l : List D} (hG : GI m g) (hm : 1 ≤ m) (h0 : l ≠ []) (h1 : l.length ≤ 1000) (k : ∀ d g', d ∈ l → GI (m - 1) g' → P d g') : (f__law_pick [.st, .lst l] g).all P E := by
  refine w_fn ?_
  unfold t__law_pick
  walk_at "w"
  have := List.length_pos_iff.mpr h0
  refine draw hG hm (by omega) (by omega) fun r g' hr hG' => ?_
  walk_at "w"
  have hr : r < l.length := by omega
  exact w_ixL (List.getElem?_eq_getElem hr) (k _ g' (List.getElem_mem _) hG')
theorem w_popE {l : List D} {i : Nat} {x : D} {g : G} {T : List D × D → G → Prop} (e : l[i]? = some x) (hl : l.length ≤ 1000) (h : T (l.eraseIdx i, x) g) : OpP (hPop l [.int (i : Int)]) T g := by
  have hi := (List.getElem?_eq_some_iff.mp e).1
  have q : hPop l [.int (i : Int)] = some (l.eraseIdx i, x) := by
    have ix : ixN l.length (i : Int) = some i := by
      unfold ixN
      rw [if_pos (by omega), if_pos (by omega), Int.toNat_natCast]
    simp only [hPop, ix, e]
    rw [if_pos (by omega)]
  rw [q]
  exact h
theorem w_appE {l : List D} {x : D} {g : G} {T : List D × D → G → Prop} (hl : l.length < 1000) (h : T (l ++ [x], .non) g) : OpP (hAppend l [x]) T g := by
  have q : hAppend l [x] = some (l ++ [x], .non) := by
    simp only [hAppend]
    rw [if_pos (Nat.lt_of_lt_of_le hl (line_1000 (Nat.le_refl _)))]
  rw [q]
  exact h
theorem map_eraseIdx {α β : Type} (f : α → β) : ∀ (l : List α) (i : Nat), (l.map f).eraseIdx i = (l.eraseIdx i).map f
  | [], _ => rfl
  | _ :: _, 0 => rfl
  | a :: l, i + 1 => by
    show f a :: (l.map f).eraseIdx i = f a :: (l.eraseIdx i).map f
    rw [map_eraseIdx f l i]
theorem perm_erase {α : Type} : ∀ {l : List α} {i : Nat} {x : α}, l[i]? = some x → (x :: l.eraseIdx i).Perm l
  | [], i, x, h => by simp at h
  | a :: l, 0, x, h => by cases h; exact .refl _
  | a :: l, i + 1, x, h => by
    have h : l[i]? = some x := by simpa using h
    exact (List.Perm.swap a x _).trans ((perm_erase h).cons a)
theorem mixedF {α : Type} {φ : α → D} {xs : List α} {q : D} (hq : q = .lst (xs.map φ) ∨ q = .tup (xs.map φ)) (hl : xs.length ≤ 900) (hG : GI m g) (hm : xs.length ≤ m) (k : ∀ (ys : List α) g', ys.Perm xs → GI (m - xs.length) g' → P (.lst (ys.map φ)) g') : (f__law_mixed [.st, q] g).all P E := by
  refine w_fn ?_
  unfold t__law_mixed
  walk_at "w"
  have lst : ∀ {g : G} {T : D → G → Prop}, T (.lst (xs.map φ)) g → OpP (fList [q]) T g := fun h => by
    rcases hq with rfl | rfl
    · exact w_lstL h
    · exact w_lstT h
  refine lst ?_
  walk_at "w"
  refine w_while (fun n ρ g => ∃ left found : List α, ρ = [some (false, .st), some (false, q), some (true, .lst (left.map φ)), some (true, .lst (found.map φ))] ∧ left.length < n ∧ (found ++ left).Perm xs ∧ GI (m - found.length) g) ⟨xs, [], rfl, by omega, by simp, hG⟩ (fun ρ g ⟨_, _, _, h, _⟩ => by omega) ?_
  rintro n ρ g ⟨left, found, rfl, hn, hp, hG⟩
  have hlen : found.length + left.length = xs.length := by rw [← List.length_append]; exact hp.length_eq
  walk_at "w"
  refine op_some (dNeX_nil (left.map φ)) ?_
  walk_at "w"
  refine w_nb (fun he => ?_) fun he => ?_
  · have hpos : 0 < left.length := by
      cases left with
      | nil => cases he
      | cons => exact Nat.succ_pos _
    walk_at "w"
    refine draw hG (by omega) (by rw [List.length_map]; omega) (by rw [List.length_map]; omega) fun r g' hr hG' => ?_
    rw [List.length_map] at hr
    have hr : r < left.length := by omega
    walk_at "w"
    have e1 : (left.map φ)[r]? = some (φ left[r]) := by rw [List.getElem?_map, List.getElem?_eq_getElem hr]; rfl
    with_reducible refine w_popE e1 (by rw [List.length_map]; omega) ?_
    walk_at "w"
    with_reducible refine w_appE (by rw [List.length_map]; omega) ?_
    refine ⟨left.eraseIdx r, found ++ [left[r]], ?_, ?_, ?_, ?_⟩
    · rw [← map_eraseIdx, List.map_append]
      rfl
    · rw [List.length_eraseIdx, if_pos hr]
      omega
    · refine List.Perm.trans ?_ hp
      rw [List.append_assoc]
      exact List.Perm.append_left _ (perm_erase (List.getElem?_eq_getElem hr))
    · rw [List.length_append]
      exact hG'.mono (by show m - (found.length + 1) ≤ _; omega)
  · have he : left = [] := by
      cases left with
      | nil => rfl
      | cons => cases he
    subst he
    walk_at "w"
    rw [List.append_nil] at hp
    refine k found g hp (hG.mono ?_)
    have := hp.length_eq
    omega
end
end SH
end
section
set_option Elab.async false
set_option linter.all false
set_option maxRecDepth 100000
set_option maxHeartbeats 2000000
/-! Plans that are drawn. -/
open PySem PySem.Spec PyProof.Rows L2 DL
namespace SH
open DL.Enc (enc)
/-- a plan whose persons and desks are below w -/
structure PlanM (w : Int) (ps : Pl) : Prop where
  rng : ∀ p ∈ ps, 0 ≤ p.1 ∧ p.1 < w ∧ 0 ≤ p.2 ∧ p.2 < w
  srt : ps.Pairwise fun a b => a.1 < b.1
  nd : (ps.map (·.2)).Nodup
theorem PlanM.nd1 {w : Int} {ps : Pl} (h : PlanM w ps) : (ps.map (·.1)).Nodup := by
  rw [List.Nodup, List.pairwise_map]
  exact h.srt.imp fun h => by omega
theorem PlanM.mono {w v : Int} {ps : Pl} (h : PlanM w ps) (hv : w ≤ v) : PlanM v ps := ⟨fun p hp => by have := h.rng p hp; omega, h.srt, h.nd⟩
theorem sortP_id {ps : Pl} (h : ps.Pairwise fun a b => leP a b = true) : sortP ps = ps := List.mergeSort_of_pairwise h
theorem PlanM.leP {w : Int} {ps : Pl} (h : PlanM w ps) : ps.Pairwise fun a b => DL.leP a b = true := h.srt.imp fun {a b} h => by
  unfold DL.leP
  rw [decide_eq_true_eq]
  exact .inl h
theorem PlanM.apart {w : Int} {ps : Pl} (h : PlanM w ps) : SH.apart ps = true := by
  unfold SH.apart
  rw [decide_eq_true h.nd1, decide_eq_true h.nd]
  rfl
theorem strict_of {ps : Pl} (h : ps.Pairwise fun a b => leP a b = true) (n : (ps.map (·.1)).Nodup) : ps.Pairwise fun a b => a.1 < b.1 := by
  rw [List.Nodup, List.pairwise_map] at n
  refine (h.and n).imp fun {a b} ⟨h1, h2⟩ => ?_
  unfold leP at h1
  rw [decide_eq_true_eq] at h1
  rcases h1 with h1 | h1
  · exact h1
  · exact absurd h1.1 h2
theorem planB_pl {ps : Pl} (h : PlanM 8 ps) : planB (pl ps) = true := by
  show (match toPl (ps.map pr) with | some ps => decide (ps = sortP ps) && apart ps | none => false) = true
  rw [toPl_map fun p hp => by have := h.rng p hp; omega]
  show (decide (ps = sortP ps) && apart ps) = true
  rw [sortP_id h.leP, h.apart, decide_eq_true rfl]
  rfl
/-- persons unlike and below w: at most w -/
theorem PlanM.len {w : Int} {ps : Pl} (h : PlanM w ps) (hw : 0 ≤ w) : (ps.length : Int) ≤ w := by
  have h1 : ∀ (l : List Int) (lo : Int), l.Pairwise (· < ·) → (∀ x ∈ l, lo ≤ x ∧ x < w) → lo ≤ w → (l.length : Int) ≤ w - lo := by
    intro l
    induction l with
    | nil => intro lo _ _ hl; simp; omega
    | cons a l ih =>
      intro lo hp hr hl
      rw [List.pairwise_cons] at hp
      have ha := hr a List.mem_cons_self
      have := ih (a + 1) hp.2 (fun x hx => by have := hp.1 x hx; have := hr x (List.mem_cons_of_mem _ hx); omega) (by omega)
      rw [List.length_cons]
      omega
  have := h1 (ps.map (·.1)) 0 (by rw [List.pairwise_map]; exact h.srt) (fun x hx => by
    obtain ⟨p, hp, rfl⟩ := List.mem_map.mp hx
    have := h.rng p hp
    omega) hw
  rw [List.length_map] at this
  omega
def rangeI (n : Nat) : List Int := (List.range n).map fun i : Nat => (i : Int)
theorem rangeI_len (n : Nat) : (rangeI n).length = n := by unfold rangeI; rw [List.length_map, List.length_range]
theorem mem_rangeI {n : Nat} {i : Int} : i ∈ rangeI n ↔ 0 ≤ i ∧ i < n := by
  unfold rangeI
  rw [List.mem_map]
  constructor
  · rintro ⟨j, hj, rfl⟩
    have := List.mem_range.mp hj
    omega
  · intro h
    exact ⟨i.toNat, List.mem_range.mpr (by omega), by omega⟩
theorem rangeI_nodup (n : Nat) : (rangeI n).Nodup := by
  unfold rangeI
  rw [List.Nodup, List.pairwise_map]
  exact List.nodup_range.imp fun h e => h (by omega)
theorem cut_take (l : List D) (k : Nat) : DL.cutD l none (some (k : Int)) = l.take k := by
  unfold DL.cutD HT.sIx
  dsimp only
  rw [if_neg (by omega), List.drop_zero, Nat.sub_zero]
  by_cases h : k ≤ l.length
  · congr 1
    omega
  · rw [List.take_of_length_le (by omega), List.take_of_length_le (by omega)]
theorem fst_zip : ∀ xs ys : List Int, ((xs.zip ys).map (·.1)).Sublist xs
  | [], _ => by simp
  | _ :: _, [] => by simp
  | x :: xs, y :: ys => by
    rw [List.zip_cons_cons, List.map_cons]
    exact (fst_zip xs ys).cons_cons x
theorem snd_zip : ∀ xs ys : List Int, ((xs.zip ys).map (·.2)).Sublist ys
  | [], _ => by simp
  | _ :: _, [] => by simp
  | x :: xs, y :: ys => by
    rw [List.zip_cons_cons, List.map_cons]
    exact (snd_zip xs ys).cons_cons y
/-- two rows of unlike numbers laid together are a plan -/
theorem plan_zip {w : Int} {xs ys : List Int} (hx : xs.Nodup) (hy : ys.Nodup) (rx : ∀ i ∈ xs, 0 ≤ i ∧ i < w) (ry : ∀ i ∈ ys, 0 ≤ i ∧ i < w) : PlanM w (sortP (xs.zip ys)) := by
  have pm := sortP_perm (xs.zip ys)
  have key : ∀ (xs ys : List Int), xs.Nodup → ys.Nodup → ((xs.zip ys).map (·.1)).Nodup ∧ ((xs.zip ys).map (·.2)).Nodup := by
    intro xs ys hx hy
    constructor
    · exact (fst_zip xs ys).nodup hx
    · exact (snd_zip xs ys).nodup hy
  obtain ⟨n1, n2⟩ := key xs ys hx hy
  refine ⟨fun p hp => ?_, strict_of (sortP_pair _) ((pm.map _).nodup_iff.mpr n1), (pm.map _).nodup_iff.mpr n2⟩
  have hm := List.of_mem_zip (pm.mem_iff.mp hp)
  have h1 := rx _ hm.1
  have h2 := ry _ hm.2
  omega
section
variable {g : G} {P : D → G → Prop} {E : XE} {d : D} {m : Nat}
end
end SH
end
section
set_option Elab.async false
set_option linter.all false
set_option maxRecDepth 100000
set_option maxHeartbeats 2000000
/-! Books that are drawn; near plans. -/
open PySem PySem.Spec PyProof.Rows L2 DL
namespace SH
open DL.Enc (enc)
theorem nodup_len : ∀ {l m : List Int}, l.Nodup → (∀ x ∈ l, x ∈ m) → l.length ≤ m.length
  | [], _, _, _ => Nat.zero_le _
  | a :: l, m, h, s => by
    rw [List.nodup_cons] at h
    have ha := s a List.mem_cons_self
    have := nodup_len (l := l) (m := m.erase a) h.2 fun x hx => by
      have ne : x ≠ a := fun e => h.1 (e ▸ hx)
      exact (List.mem_erase_of_ne ne).mpr (s x (List.mem_cons_of_mem _ hx))
    rw [List.length_erase_of_mem ha] at this
    have := List.length_pos_of_mem ha
    rw [List.length_cons]
    omega
theorem of_allD {α : Type} {φ : α → D} {Q : α → Prop} : ∀ {r : List D}, (∀ y ∈ r, ∃ x, y = φ x ∧ Q x) → ∃ xs : List α, r = xs.map φ ∧ (∀ x ∈ xs, Q x) ∧ xs.length = r.length
  | [], _ => ⟨[], rfl, (fun _ h => nomatch h), rfl⟩
  | y :: r, h => by
    obtain ⟨x, rfl, hx⟩ := h y List.mem_cons_self
    obtain ⟨xs, rfl, hxs, hl⟩ := of_allD (r := r) fun z hz => h z (List.mem_cons_of_mem _ hz)
    refine ⟨x :: xs, rfl, fun z hz => ?_, by rw [List.length_cons, List.length_cons, hl]⟩
    rcases List.mem_cons.mp hz with rfl | hz
    · exact hx
    · exact hxs z hz
theorem cut_drop (l : List D) (k : Nat) : DL.cutD l (some (k : Int)) none = l.drop k := by
  unfold DL.cutD HT.sIx
  dsimp only
  rw [if_neg (by omega), Int.toNat_natCast]
  by_cases h : k ≤ l.length
  · rw [Nat.min_eq_left h, List.take_of_length_le]
    rw [List.length_drop]
    exact Nat.le_refl _
  · rw [Nat.min_eq_right (by omega), List.drop_of_length_le (Nat.le_refl _), List.drop_of_length_le (by omega), List.take_nil]
theorem cut_init (l : List D) : DL.cutD l none (some (-1)) = l.take (l.length - 1) := by
  unfold DL.cutD HT.sIx
  dsimp only
  rw [if_pos (by decide), show ((-1 : Int) + (l.length : Int)).toNat = l.length - 1 by omega, List.drop_zero, Nat.sub_zero]
section
variable {g : G} {P : D → G → Prop} {E : XE} {d : D} {m : Nat}
/-- the numbers below 8 that are not in l -/
abbrev rest8 (l : List Int) : List Int := (rangeI 8).filter fun i => !decide (i ∈ l)
theorem mem_rest8 {l : List Int} {i : Int} (h : i ∈ rest8 l) : 0 ≤ i ∧ i < 8 ∧ i ∉ l := by
  unfold rest8 at h
  rw [List.mem_filter] at h
  have := mem_rangeI.mp h.1
  refine ⟨this.1, by omega, by simpa using h.2⟩
end
end SH
end
section
set_option Elab.async false
set_option linter.all false
set_option maxRecDepth 100000
set_option maxHeartbeats 2000000
/-! Books that are drawn; values that are none. -/
open PySem PySem.Spec PyProof.Rows L2 DL
namespace SH
open DL.Enc (enc)
/-- a book -/
structure BookM (b : List Pl) : Prop where
  l1 : 1 ≤ b.length
  l2 : b.length ≤ 16
  pl : ∀ ps ∈ b, PlanM 8 ps
section
variable {g : G} {P : D → G → Prop} {E : XE} {d : D} {m : Nat}
theorem rows {t : D → DL.Env → Option DL.Env} {f : Ep} {ρ : DL.Env} {Pl' : List D → G → Prop} {Q : Pl → Prop} (c : Nat) {l : List D} {n : Nat} (hl : l.length = n) (hm : GI m g) (hc : c * n ≤ m) (hs : ∀ d ∈ l, ∀ m g, GI m g → c ≤ m → ∃ ρ1, t d ρ = some ρ1 ∧ (f ρ1 g).all (fun y g2 => (∃ ps, y = pl ps ∧ Q ps) ∧ GI (m - c) g2) XF)
    (h : ∀ (b : List Pl) g1, b.length = n → (∀ ps ∈ b, Q ps) → GI (m - c * n) g1 → Pl' (b.map pl) g1) : (sLcL ρ t sYes f l g).all Pl' E := by
  subst hl
  refine w_lcD c (fun y => ∃ ps, y = pl ps ∧ Q ps) hm hc hs fun r g1 h1 h2 h3 => ?_
  obtain ⟨b, rfl, hb, hl⟩ := of_allD h2
  exact h b g1 (by rw [hl, h1]) hb h3
end
end SH
end
section
set_option Elab.async false
set_option linter.all false
set_option maxRecDepth 100000
set_option maxHeartbeats 2000000
/-! Values that are no plan, no book. -/
open PySem PySem.Spec PyProof.Rows L2 DL
namespace SH
open DL.Enc (enc)
section
variable {g : G} {P : D → G → Prop} {E : XE} {d : D} {m : Nat}
theorem eq_ints0 (a : List Int) : dEq (.lst (a.map D.int)) (.lst []) = some (.bl (decide (a = []))) := eq_ints a []
end
end SH
end
section
set_option Elab.async false
set_option linter.all false
set_option maxRecDepth 100000
set_option maxHeartbeats 2000000
/-! Values that are no book; what a book must be; what is sure. -/
open PySem PySem.Spec PyProof.Rows L2 DL
namespace SH
open DL.Enc (enc)
section
variable {g : G} {P : D → G → Prop} {E : XE} {d : D} {m : Nat}
theorem w_mulT {v : D} {k : Int} (h0 : 0 ≤ k) (h1 : k ≤ 1000) (h : P (.tup (List.replicate k.toNat v)) g) : OpP (dMul (.tup [v]) (.int k)) P g := op_some (rep_tup h0 h1) h
/-! ### what a book must be -/
/-! ### what is sure -/
/-- how many plans have k pairs or more -/
def wideN (b : List Pl) (k : Int) : Nat := (b.filter fun ps => decide (k ≤ (ps.length : Int))).length
def reach (b : List Pl) (k : Int) : Bool := decide (2 * k - 1 ≤ (wideN b k : Int))
def sureZ (b : List Pl) : Int := [1, 2, 3, 4, 5, 6, 7, 8].foldl (fun f k => if reach b k = true then k else f) 0
end
/-! ### the law's own number -/
theorem w_repr {d : D} {p : PyData} {P : D → G → Prop} {g : G} (e : d.py = some p) (ho : okR p = true) (h : P (.str p.shown) g) : OpP (fRepr [d]) P g := by
  refine op_some ?_ h
  unfold fRepr
  dsimp only
  rw [e]
  dsimp only
  rw [if_pos ho]
theorem w_neSelf {x : Str} {P : D → G → Prop} {g : G} (h : P (.bl false) g) : OpP (dNe (.str x) (.str x)) P g := op_some (dNe_str_self x) h
end SH
end
section
set_option Elab.async false
set_option linter.all false
set_option maxRecDepth 100000
set_option maxHeartbeats 2000000
/-! Odd values; is_plan, is_book. -/
open PySem PySem.Spec PyProof.Rows L2 DL
namespace SH
open DL.Enc (enc)
section
variable {g : G} {P : D → G → Prop} {E : XE} {d : D} {m : Nat}
end
end SH
end
section
set_option Elab.async false
set_option linter.all false
set_option maxRecDepth 100000
set_option maxHeartbeats 2000000
/-! What plans tell. -/
open PySem PySem.Spec PyProof.Rows L2 DL
namespace SH
open DL.Enc (enc)
def ips (l : List Int) : D := .tup (l.map D.int)
def sw (p : Pr) : Pr := (p.2, p.1)
def turnP (ps : Pl) : Pl := sortP (ps.map sw)
section
variable {g : G} {P : D → G → Prop} {E : XE} {d : D} {m : Nat}
theorem need_plan (h : Ok 3 d) (k : planB d = true → P .non g) (kx : planB d = false → E "BadPlan" Str.empty [] g) : (f_need_plan [d] g).all P E := by
  unfold f_need_plan
  with_reducible refine w_fn ?_
  unfold t_need_plan
  walk_at "w"
  refine plans_right h ?_
  walk_at "w"
  refine w_nb (fun h => ?_) fun h => ?_
  · walk_at "w"
    exact kx h
  · exact k h
theorem PlanM.l8 {ps : Pl} (h : PlanM 8 ps) : ps.length ≤ 8 := by have := h.len (by decide); omega
theorem PlanM.ok {ps : Pl} (h : PlanM 8 ps) : Ok 2 (pl ps) := ok_pl _ (by have := h.l8; omega)
theorem turned_plan {ps : Pl} (hl : ps.length ≤ 1000) (k : P (pl (turnP ps)) g) : (f_turned_plan [pl ps] g).all P E := by
  unfold f_turned_plan
  with_reducible refine w_fn ?_
  unfold t_turned_plan pl
  walk_at "w"
  refine w_lcT (fun p => pr (sw p)) (fun p _ => ⟨_, rfl, ?_⟩) ?_
  · walk_at "w"
    exact ⟨by show 2 ≤ 1000; decide, rfl, rfl⟩
  rw [show (ps.map fun p => pr (sw p)) = (ps.map sw).map pr by rw [List.map_map]; rfl]
  walk_at "w"
  refine w_sortP (by rw [List.length_map]; exact hl) ?_
  walk_at "w"
  exact k
theorem turned {ps : Pl} (h : PlanM 8 ps) (k : P (pl (turnP ps)) g) : (f_turned [pl ps] g).all P E := by
  unfold f_turned
  with_reducible refine w_fn ?_
  unfold t_turned
  walk_at "w"
  refine need_plan (h.ok.mono (by decide)) (fun _ => ?_) fun q => by rw [planB_pl h] at q; cases q
  walk_at "w"
  exact turned_plan (by have := h.l8; omega) k
end
end SH
end
section
set_option Elab.async false
set_option linter.all false
set_option maxRecDepth 100000
set_option maxHeartbeats 2000000
/-! Texts of values: repr. -/
open PySem PySem.Spec PyProof.Rows L2 DL
namespace SH
/-- a text can be made of p -/
structure Rs (p : PyData) (w d : Nat) : Prop where
  s : p.showable = true
  l : p.leavesShort 13 = true
  w : p.weight ≤ w
  d : p.depth ≤ d
theorem Rs.ok {p : PyData} {w d : Nat} (r : Rs p w d) (hw : w ≤ 2 ^ 20) (hd : d ≤ 64) : okR p = true := by
  unfold okR
  rw [r.s, r.l, decide_eq_true (Nat.le_trans r.w hw), decide_eq_true (Nat.le_trans r.d hd)]
  rfl
theorem Rs.mono {p : PyData} {w d w' d' : Nat} (r : Rs p w d) (hw : w ≤ w') (hd : d ≤ d') : Rs p w' d' := ⟨r.s, r.l, Nat.le_trans r.w hw, Nat.le_trans r.d hd⟩
theorem rs_int {i : Int} (h0 : -100 ≤ i) (h1 : i ≤ 1000) : Rs (.int i) 20 0 := by
  have h : ∀ n ∈ List.range 1101, ((PyData.int ((n : Int) - 100)).showable && (PyData.int ((n : Int) - 100)).leavesShort 13 && decide ((PyData.int ((n : Int) - 100)).weight ≤ 20)) = true := by decide +kernel
  have e := h (i + 100).toNat (List.mem_range.mpr (by omega))
  have q : (((i + 100).toNat : Nat) : Int) - 100 = i := by omega
  rw [q, Bool.and_eq_true, Bool.and_eq_true, decide_eq_true_eq] at e
  exact ⟨e.1.1, e.1.2, e.2, by simp only [PyData.depth]; exact Nat.le_refl _⟩
theorem rs_bool (b : Bool) : Rs (.bool b) 20 0 := ⟨by simp only [PyData.showable], by simp only [PyData.leavesShort], by simp only [PyData.weight]; exact Nat.zero_le _, by simp only [PyData.depth]; exact Nat.le_refl _⟩
theorem rs_none : Rs .none 20 0 := ⟨by simp only [PyData.showable], by simp only [PyData.leavesShort], by simp only [PyData.weight]; exact Nat.zero_le _, by simp only [PyData.depth]; exact Nat.le_refl _⟩
theorem rs_all {w d : Nat} : ∀ {l : List PyData}, (∀ x ∈ l, Rs x w d) → PyData.showableAll l = true ∧ PyData.leavesShortAll 13 l = true ∧ PyData.weightAll l ≤ l.length * (w + 1) ∧ PyData.depthAll l ≤ d
  | [], _ => ⟨by simp only [PyData.showableAll], by simp only [PyData.leavesShortAll], by simp only [PyData.weightAll]; exact Nat.zero_le _, by simp only [PyData.depthAll]; exact Nat.zero_le _⟩
  | x :: l, h => by
    obtain ⟨h1, h2, h4, h5⟩ := rs_all (l := l) fun y hy => h y (List.mem_cons_of_mem _ hy)
    have r := h x List.mem_cons_self
    refine ⟨?_, ?_, ?_, ?_⟩
    · simp only [PyData.showableAll, r.s, h1, Bool.and_self]
    · simp only [PyData.leavesShortAll, r.l, h2, Bool.and_self]
    · simp only [PyData.weightAll, List.length_cons]
      have := r.w
      rw [Nat.add_mul, Nat.one_mul]
      omega
    · simp only [PyData.depthAll]
      exact Nat.max_le.mpr ⟨r.d, h5⟩
theorem rs_lst {w d n : Nat} {l : List PyData} (h : ∀ x ∈ l, Rs x w d) (hn : l.length ≤ n) : Rs (.list l) (n * (w + 1)) (d + 1) := by
  obtain ⟨h1, h2, h4, h5⟩ := rs_all h
  exact ⟨by simp only [PyData.showable]; exact h1, by simp only [PyData.leavesShort]; exact h2, by simp only [PyData.weight]; exact Nat.le_trans h4 (Nat.mul_le_mul_right _ hn), by simp only [PyData.depth]; omega⟩
/-- .. of a value of the layer -/
def RD (x : D) (w d : Nat) : Prop := ∃ p, x.py = some p ∧ Rs p w d
theorem rd_int {i : Int} (h0 : -100 ≤ i) (h1 : i ≤ 1000) : RD (.int i) 20 0 := ⟨_, by rw [D.py], rs_int h0 h1⟩
theorem rd_bool (b : Bool) : RD (.bl b) 20 0 := ⟨_, by rw [D.py], rs_bool b⟩
theorem rd_none : RD .non 20 0 := ⟨_, by rw [D.py], rs_none⟩
theorem rd_all {w d : Nat} : ∀ {l : List D}, (∀ x ∈ l, RD x w d) → ∃ ps, D.pys l = some ps ∧ (∀ p ∈ ps, Rs p w d) ∧ ps.length = l.length
  | [], _ => ⟨[], by rw [D.pys], (fun _ h => nomatch h), rfl⟩
  | x :: l, h => by
    obtain ⟨p, h1, h2⟩ := h x List.mem_cons_self
    obtain ⟨ps, h3, h4, h5⟩ := rd_all (l := l) fun y hy => h y (List.mem_cons_of_mem _ hy)
    refine ⟨p :: ps, by rw [D.pys, h1, h3], fun q hq => ?_, by rw [List.length_cons, List.length_cons, h5]⟩
    rcases List.mem_cons.mp hq with rfl | hq
    · exact h2
    · exact h4 q hq
theorem rd_lst {w d n : Nat} {l : List D} (h : ∀ x ∈ l, RD x w d) (hn : l.length ≤ n) : RD (.lst l) (n * (w + 1)) (d + 1) := by
  obtain ⟨ps, h1, h2, h3⟩ := rd_all h
  exact ⟨.list ps, by rw [D.py, h1], rs_lst h2 (by omega)⟩
theorem RD.mono {x : D} {w d w' d' : Nat} (r : RD x w d) (hw : w ≤ w') (hd : d ≤ d') : RD x w' d' := let ⟨p, h1, h2⟩ := r; ⟨p, h1, h2.mono hw hd⟩
theorem all2 {x y : D} {w d : Nat} (hx : RD x w d) (hy : RD y w d) : ∀ z ∈ [x, y], RD z w d := fun z hz => by
  rcases List.mem_cons.mp hz with rfl | hz
  · exact hx
  · rw [List.mem_singleton.mp hz]; exact hy
/-- the text -/
def reprS (x : D) : Str := match x.py with
  | some p => p.shown
  | none => Str.empty
theorem w_reprS {x : D} {w d : Nat} {P : D → G → Prop} {g : G} (r : RD x w d) (hw : w ≤ 2 ^ 20) (hd : d ≤ 64) (h : P (.str (reprS x)) g) : OpP (fRepr [x]) P g := by
  obtain ⟨p, h1, h2⟩ := r
  refine w_repr h1 (h2.ok hw hd) ?_
  unfold reprS at h
  rw [h1] at h
  exact h
end SH
end
section
set_option Elab.async false
set_option linter.all false
set_option maxRecDepth 100000
set_option maxHeartbeats 2000000
/-! Picks: values that may be picks, judged. -/
open PySem PySem.Spec PyProof.Rows L2 DL
namespace SH
open DL.Enc (enc)
section
variable {g : G} {P : D → G → Prop} {E : XE} {d : D} {m : Nat}
/-- a dict whose keys are ints, or with one key alone -/
structure PkOk (l : List (D × D)) : Prop where
  len : l.length ≤ 1000
  keys : (∃ ns : List Int, l.map (·.1) = ns.map D.int ∧ ns.Nodup) ∨ ∃ k y, l = [(k, y)] ∧ ∀ i, k ≠ .int i
  pl : ∀ e ∈ l, plain e.1
  vals : ∀ e ∈ l, Ok 3 e.2
theorem btw_int {d : D} {lo hi : Int} (h : btw d lo hi = true) : ∃ i, d = .int i ∧ lo ≤ i ∧ i ≤ hi := by
  unfold btw at h
  split at h
  · rename_i i
    rw [Bool.and_eq_true, decide_eq_true_eq, decide_eq_true_eq] at h
    exact ⟨i, rfl, h.1, h.2⟩
  · cases h
theorem look_ints : ∀ {l : List (D × D)} {ns : List Int}, l.map (·.1) = ns.map D.int → ns.Nodup → ∀ e ∈ l, look l e.1 = some e.2
  | [], _, _, _, e, he => nomatch he
  | p :: l, [], h, _, e, he => by simp at h
  | p :: l, n :: ns, h, nd, e, he => by
    obtain ⟨h1, h2⟩ := List.cons.inj h
    have h1 : p.1 = D.int n := h1
    obtain ⟨n1, n2⟩ := List.nodup_cons.mp nd
    unfold look
    rw [List.find?_cons]
    rcases List.mem_cons.mp he with rfl | he
    · rw [show keq e.1 e.1 = true by rw [h1]; show decide (n = n) = true; exact decide_eq_true rfl]
      rfl
    · have hm : e.1 ∈ ns.map D.int := h2 ▸ List.mem_map.mpr ⟨e, he, rfl⟩
      obtain ⟨j, hj, ej⟩ := List.mem_map.mp hm
      rw [show keq p.1 e.1 = false by rw [h1, ← ej]; show decide (n = j) = false; exact decide_eq_false fun w => n1 (w ▸ hj)]
      exact look_ints h2 n2 e he
/-- the keys stand in the book: the dict read -/
theorem PkOk.ix {l : List (D × D)} (h : PkOk l) {n : Int} (hk : (l.all fun e => btw e.1 0 n) = true) : ∀ e ∈ l, dIx (.dct l) e.1 = some e.2 := by
  intro e he
  obtain ⟨i, e1, _⟩ := btw_int (List.all_eq_true.mp hk e he)
  rcases h.keys with ⟨ns, h1, h2⟩ | ⟨k, y, rfl, hn⟩
  · have h3 := look_ints h1 h2 e he
    show (if kOk l e.1 = true then look l e.1 else none) = _
    rw [if_pos (show kOk l e.1 = true from by rw [e1]; show (intsOf (l.map (·.1))).isSome = true; rw [h1, intsOf_map]; rfl), h3]
  · rw [List.mem_singleton.mp he] at e1
    exact absurd e1 (hn i)
theorem ix_book {b : List Pl} {i : Int} (h0 : 0 ≤ i) (h1 : i ≤ (b.length : Int) - 1) : dIx (.tup (b.map pl)) (.int i) = some (pl (b.getD i.toNat [])) := by
  have hl : i.toNat < b.length := by omega
  show L2.atI (b.map pl) i = _
  unfold L2.atI ixN
  rw [if_pos h0, if_pos (by rw [List.length_map]; omega)]
  show (b.map pl)[i.toNat]? = _
  rw [List.getElem?_map, List.getElem?_eq_getElem hl, List.getD_eq_getElem?_getD, List.getElem?_eq_getElem hl]
  rfl
end
end SH
end
section
set_option Elab.async false
set_option linter.all false
set_option maxRecDepth 100000
set_option maxHeartbeats 2000000
/-! Picks drawn; odd values beside picks. -/
open PySem PySem.Spec PyProof.Rows L2 DL
namespace SH
open DL.Enc (enc)
section
variable {g : G} {P : D → G → Prop} {E : XE} {d : D} {m : Nat}
/-- a pick as a value -/
def pk (t : List (Int × Pr)) : D := .dct (t.map fun e => (.int e.1, pr e.2))
end
end SH
end
section
set_option Elab.async false
set_option linter.all false
set_option maxRecDepth 100000
set_option maxHeartbeats 2000000
/-! Rules for dicts: x[k] = v of one's own dict; puts of int keys. -/
namespace DL
open PySem PySem.Spec PyProof.Rows L2
section
variable {ρ : Env} {g : G} {nx ct bk : Env → G → Prop} {rt P : D → G → Prop} {E : XE} {fa fe : Ep} {i : Nat} {l : List (D × D)}
end
end DL
end
section
set_option Elab.async false
set_option linter.all false
set_option maxRecDepth 100000
set_option maxHeartbeats 2000000
/-! Picks in the sequence of their numbers. -/
open PySem PySem.Spec PyProof.Rows L2 DL
namespace SH
open DL.Enc (enc)
section
variable {g : G} {P : D → G → Prop} {E : XE} {d : D} {m : Nat}
abbrev pkl (t : List (Int × Pr)) : List (D × D) := t.map fun e => (D.int e.1, pr e.2)
def valAt (t : List (Int × Pr)) (x : Int) : Pr := match t.find? (fun e => decide (e.1 = x)) with
  | some e => e.2
  | none => (0, 0)
theorem pkl_keys (t : List (Int × Pr)) : (pkl t).map (·.1) = (t.map (·.1)).map D.int := by
  rw [List.map_map, List.map_map]
  rfl
theorem look_pk (t : List (Int × Pr)) {x : Int} (hx : x ∈ t.map (·.1)) : look (pkl t) (.int x) = some (pr (valAt t x)) := by
  induction t with
  | nil => cases hx
  | cons e t ih =>
    unfold look valAt
    rw [show pkl (e :: t) = (D.int e.1, pr e.2) :: pkl t from rfl, List.find?_cons, List.find?_cons]
    by_cases h : e.1 = x
    · rw [show keq (D.int e.1) (.int x) = true from by show decide (e.1 = x) = true; exact decide_eq_true h, show decide (e.1 = x) = true from decide_eq_true h]
      rfl
    · rw [show keq (D.int e.1) (.int x) = false from by show decide (e.1 = x) = false; exact decide_eq_false h, show decide (e.1 = x) = false from decide_eq_false h]
      have h2 : x ∈ t.map (·.1) := by
        rcases List.mem_cons.mp hx with w | w
        · exact absurd w.symm h
        · exact w
      exact ih h2
theorem ix_pk (t : List (Int × Pr)) {x : Int} (hx : x ∈ t.map (·.1)) : dIx (pk t) (.int x) = some (pr (valAt t x)) := by
  show (if kOk (pkl t) (.int x) = true then look (pkl t) (.int x) else none) = _
  rw [if_pos (show kOk (pkl t) (.int x) = true from by show (intsOf ((pkl t).map (·.1))).isSome = true; rw [pkl_keys, intsOf_map]; rfl), look_pk t hx]
end
end SH
end
section
set_option Elab.async false
set_option linter.all false
set_option maxRecDepth 100000
set_option maxHeartbeats 2000000
/-! Picks drawn. -/
open PySem PySem.Spec PyProof.Rows L2 DL
namespace SH
open DL.Enc (enc)
section
variable {g : G} {P : D → G → Prop} {E : XE} {d : D} {m : Nat}
/-- a pick of a book -/
structure PickM (b : List Pl) (t : List (Int × Pr)) : Prop where
  nd : (t.map (·.1)).Nodup
  key : ∀ e ∈ t, 0 ≤ e.1 ∧ e.1 < b.length ∧ e.2 ∈ b.getD e.1.toNat []
  ap : apart (t.map (·.2)) = true
theorem PickM.len {b : List Pl} {t : List (Int × Pr)} (h : PickM b t) : t.length ≤ b.length := by
  have := nodup_len (l := t.map (·.1)) (m := rangeI b.length) h.nd fun x hx => by
    obtain ⟨e, he, rfl⟩ := List.mem_map.mp hx
    have := h.key e he
    exact mem_rangeI.mpr ⟨this.1, this.2.1⟩
  rwa [List.length_map, rangeI_len] at this
theorem w_itK {t : List (Int × Pr)} {Q : List D → G → Prop} (h : Q ((t.map (·.1)).map D.int) g) : ItP Q (pk t) g := by
  show Q ((pkl t).map (·.1)) g
  rw [pkl_keys]
  exact h
theorem w_lenK {t : List (Int × Pr)} (h : P (.int t.length) g) : OpP (fLen [pk t]) P g := by
  refine w_lenD ?_
  rw [List.length_map]
  exact h
end
end SH
end
section
set_option Elab.async false
set_option linter.all false
set_option maxRecDepth 100000
set_option maxHeartbeats 2000000
/-! More rules of one step: pairs, picks. -/
open PySem PySem.Spec PyProof.Rows L2 DL
namespace SH
section
variable {g : G} {P : D → G → Prop} {q : Pr}
theorem w_ixP0 (h : P (.int q.1) g) : OpP (dIx (pr q) (.int 0)) P g := w_ix0 h
theorem w_ixP1 (h : P (.int q.2) g) : OpP (dIx (pr q) (.int 1)) P g := w_ix1 h
theorem w_lstPr (h : P (.lst [.int q.1, .int q.2]) g) : OpP (fList [pr q]) P g := h
theorem w_ixK {t : List (Int × Pr)} {x : Int} (hx : x ∈ t.map (·.1)) (h : P (pr (valAt t x)) g) : OpP (dIx (pk t) (.int x)) P g := op_some (ix_pk t hx) h
theorem w_mk1 {i : Int} {y : D} {T : List (D × D) → G → Prop} (h : T [(.int i, y)] g) : OpP (mkO [(.int i, y)]) T g := op_some rfl h
theorem w_mkO {k y : D} {T : List (D × D) → G → Prop} (ho : oddK k = true) (h : T [(k, y)] g) : OpP (mkO [(k, y)]) T g := op_some (show (if oddK k = true then some [(k, y)] else mkD [] [(k, y)]) = _ by rw [if_pos ho]) h
theorem w_modI8 {a : Int} (h : P (.int (a % 8)) g) : OpP (dMod (.int a) (.int 8)) P g := op_some rfl h
theorem w_ixBk {b : List Pl} {i : Int} (h0 : 0 ≤ i) (h1 : i < b.length) (h : P (pl (b.getD i.toNat [])) g) : OpP (dIx (.tup (b.map pl)) (.int i)) P g := op_some (ix_book h0 (by omega)) h
theorem w_lenPl {ps : Pl} (h : P (.int ps.length) g) : OpP (fLen [pl ps]) P g := by
  refine w_lenT ?_
  rw [List.length_map]
  exact h
theorem w_itPl {ps : Pl} {Q : List D → G → Prop} (h : Q (ps.map pr) g) : ItP Q (pl ps) g := h
theorem BookM.at {b : List Pl} (hb : BookM b) (i : Nat) : PlanM 8 (b.getD i []) := by
  rw [List.getD_eq_getElem?_getD]
  cases e : b[i]? with
  | none => exact ⟨fun _ h => (nomatch h), .nil, .nil⟩
  | some x => exact hb.pl x (List.mem_of_getElem? e)
end
end SH
end
section
set_option Elab.async false
set_option linter.all false
set_option maxRecDepth 100000
set_option maxHeartbeats 2000000
/-! Values that are no pick. -/
open PySem PySem.Spec PyProof.Rows L2 DL
namespace SH
open DL.Enc (enc)
local macro_rules | `(tactic| walk_at "k1") => `(tactic| first | walk_at "w2" | with_reducible refine w_ixP0 ?_ | with_reducible refine w_ixP1 ?_ | with_reducible refine w_lstPr ?_ | with_reducible refine w_lenK ?_ | with_reducible refine w_itK ?_ | with_reducible refine w_ixK (by assumption) ?_ | with_reducible refine w_mk1 ?_ | with_reducible refine w_mkO rfl ?_ | with_reducible refine w_modI8 ?_ | with_reducible refine w_addL (by walk_at "len") ?_ | with_reducible refine w_addT (by walk_at "len") ?_ | with_reducible refine w_ixBk (by walk_at "len") (by walk_at "len") ?_ | with_reducible refine w_lenPl ?_ | with_reducible refine w_itPl ?_ | with_reducible refine w_reprS (by assumption) (by decide) (by decide) ?_ | with_reducible refine w_neSelf ?_ | with_reducible refine w_tri0 ?_ | with_reducible refine w_tri1 ?_ | with_reducible refine w_tri2 ?_ | with_reducible refine w_appE (by walk_at "len") ?_)
local macro_rules | `(tactic| walk_at "k") => `(tactic| repeat walk_at "k1")
section
variable {g : G} {P : D → G → Prop} {E : XE} {d : D} {m : Nat}
end
end SH
end
section
set_option Elab.async false
set_option linter.all false
set_option maxRecDepth 100000
namespace SH
open PySem PySem.Spec PyProof.Rows L2 DL
end SH
end
section
set_option Elab.async false
set_option linter.all false
set_option maxRecDepth 100000
set_option maxHeartbeats 2000000
/-! What picks tell. -/
open PySem PySem.Spec PyProof.Rows L2 DL
namespace SH
open DL.Enc (enc)
local macro_rules | `(tactic| walk_at "k1") => `(tactic| first | walk_at "w2" | with_reducible refine w_ixP0 ?_ | with_reducible refine w_ixP1 ?_ | with_reducible refine w_lstPr ?_ | with_reducible refine w_lenK ?_ | with_reducible refine w_itK ?_ | with_reducible refine w_ixK (by assumption) ?_ | with_reducible refine w_mk1 ?_ | with_reducible refine w_mkO rfl ?_ | with_reducible refine w_modI8 ?_ | with_reducible refine w_addL (by walk_at "len") ?_ | with_reducible refine w_addT (by walk_at "len") ?_ | with_reducible refine w_ixBk (by walk_at "len") (by walk_at "len") ?_ | with_reducible refine w_lenPl ?_ | with_reducible refine w_itPl ?_ | with_reducible refine w_reprS (by assumption) (by decide) (by decide) ?_ | with_reducible refine w_neSelf ?_ | with_reducible refine w_tri0 ?_ | with_reducible refine w_tri1 ?_ | with_reducible refine w_tri2 ?_ | with_reducible refine w_appE (by walk_at "len") ?_)
local macro_rules | `(tactic| walk_at "k") => `(tactic| repeat walk_at "k1")
section
variable {g : G} {P : D → G → Prop} {E : XE} {d : D} {m : Nat} {b : List Pl} {t : List (Int × Pr)}
/-- the numbers of the unused plans -/
def unusedI (b : List Pl) (t : List (Int × Pr)) : List Int := (rangeI b.length).filter fun i => !decide (i ∈ t.map (·.1))
theorem PickM.rng (hb : BookM b) (h : PickM b t) : ∀ e ∈ t, 0 ≤ e.2.1 ∧ e.2.1 ≤ 7 ∧ 0 ≤ e.2.2 ∧ e.2.2 ≤ 7 := fun e he => by
  have := (hb.at e.1.toNat).rng e.2 (h.key e he).2.2
  omega
theorem unused_mem {i : Int} : i ∈ unusedI b t ↔ (0 ≤ i ∧ i < b.length) ∧ i ∉ t.map (·.1) := by
  unfold unusedI
  rw [List.mem_filter, mem_rangeI, Bool.not_eq_true', decide_eq_false_iff_not]
theorem unused_len : (unusedI b t).length ≤ b.length := by
  have := List.length_filter_le (fun i => !decide (i ∈ t.map (·.1))) (rangeI b.length)
  rwa [rangeI_len] at this
def tri (e : Int × Pr) : D := .tup [.int e.1, .int e.2.1, .int e.2.2]
end
end SH
end
section
set_option Elab.async false
set_option linter.all false
set_option maxRecDepth 100000
set_option maxHeartbeats 2000000
/-! Books, picks that are refused. -/
open PySem PySem.Spec PyProof.Rows L2 DL
namespace SH
open DL.Enc (enc)
local macro_rules | `(tactic| walk_at "k1") => `(tactic| first | walk_at "w2" | with_reducible refine w_ixP0 ?_ | with_reducible refine w_ixP1 ?_ | with_reducible refine w_lstPr ?_ | with_reducible refine w_lenK ?_ | with_reducible refine w_itK ?_ | with_reducible refine w_ixK (by assumption) ?_ | with_reducible refine w_mk1 ?_ | with_reducible refine w_mkO rfl ?_ | with_reducible refine w_modI8 ?_ | with_reducible refine w_addL (by walk_at "len") ?_ | with_reducible refine w_addT (by walk_at "len") ?_ | with_reducible refine w_ixBk (by walk_at "len") (by walk_at "len") ?_ | with_reducible refine w_lenPl ?_ | with_reducible refine w_itPl ?_ | with_reducible refine w_reprS (by assumption) (by decide) (by decide) ?_ | with_reducible refine w_neSelf ?_ | with_reducible refine w_tri0 ?_ | with_reducible refine w_tri1 ?_ | with_reducible refine w_tri2 ?_ | with_reducible refine w_appE (by walk_at "len") ?_)
local macro_rules | `(tactic| walk_at "k") => `(tactic| repeat walk_at "k1")
section
variable {g : G} {P : D → G → Prop} {E : XE} {d d2 : D} {m : Nat} {b : List Pl} {t : List (Int × Pr)} {ρ : DL.Env} {nx ct bkk : DL.Env → G → Prop} {rt : D → G → Prop} {u : Ss}
/-! texts -/
/-- what is raised, nothing else changed: one of the class cls -/
abbrev Rz (pks : List Str) (isi : List D → Option D) (cls : Str) (g : G) : XE := fun c n l g1 => (c ∈ pks ∧ isi [.exc c n l, .fn cls] = some (.bl true)) ∧ g1 = g
end
end SH
end
section
set_option Elab.async false
set_option linter.all false
set_option maxRecDepth 100000
set_option maxHeartbeats 2000000
/-! Chains, in plain Lean: the links, when they end, the way back, the pick that comes of it. -/
open PySem PySem.Spec PyProof.Rows L2 DL
namespace SH
abbrev Tk := List (Int × Pr)
def persT (t : Tk) : List Int := t.map (·.2.1)
def deskT (t : Tk) : List Int := t.map (·.2.2)
/-- the person who has a desk, the desk that a person has -/
def holder (t : Tk) (d : Int) : Int := match t.find? (fun e => decide (e.2.2 = d)) with
  | some e => e.2.1
  | none => 0
def deskOf (t : Tk) (p : Int) : Int := match t.find? (fun e => decide (e.2.1 = p)) with
  | some e => e.2.2
  | none => 0
theorem find_key {f : Int × Pr → Int} {t : Tk} (nd : (t.map f).Nodup) {e : Int × Pr} (he : e ∈ t) : t.find? (fun x => decide (f x = f e)) = some e := by
  induction t with
  | nil => cases he
  | cons x t ih =>
    obtain ⟨n1, n2⟩ := List.nodup_cons.mp (show (f x :: t.map f).Nodup from nd)
    rw [List.find?_cons]
    rcases List.mem_cons.mp he with rfl | he
    · rw [decide_eq_true rfl]
    · have hne : f x ≠ f e := fun w => n1 (w ▸ List.mem_map.mpr ⟨e, he, rfl⟩)
      rw [decide_eq_false hne]
      exact ih n2 he
theorem nodup_inj {f : Int × Pr → Int} {t : Tk} (nd : (t.map f).Nodup) {a b : Int × Pr} (ha : a ∈ t) (hb : b ∈ t) (e : f a = f b) : a = b := by
  have h1 := find_key nd ha
  have h2 := find_key nd hb
  rw [e, h2] at h1
  exact (Option.some.inj h1).symm
structure Ap (t : Tk) : Prop where
  p : (persT t).Nodup
  d : (deskT t).Nodup
theorem PickM.apt {b : List Pl} {t : Tk} (h : PickM b t) : Ap t := by
  have ha := h.ap
  unfold apart at ha
  rw [Bool.and_eq_true, decide_eq_true_eq, decide_eq_true_eq, List.map_map, List.map_map] at ha
  exact ⟨ha.1, ha.2⟩
theorem holder_at {t : Tk} (a : Ap t) {e : Int × Pr} (he : e ∈ t) : holder t e.2.2 = e.2.1 := by
  unfold holder
  rw [find_key (f := fun x => x.2.2) a.d he]
theorem deskOf_at {t : Tk} (a : Ap t) {e : Int × Pr} (he : e ∈ t) : deskOf t e.2.1 = e.2.2 := by
  unfold deskOf
  rw [find_key (f := fun x => x.2.1) a.p he]
theorem holder_mem {t : Tk} (a : Ap t) {d : Int} (h : d ∈ deskT t) : holder t d ∈ persT t ∧ deskOf t (holder t d) = d := by
  obtain ⟨e, he, rfl⟩ := List.mem_map.mp h
  rw [holder_at a he]
  exact ⟨List.mem_map.mpr ⟨e, he, rfl⟩, deskOf_at a he⟩
def toldP (q : Pl) (r s : List Int) : Pl := q.filter fun p => decide (p.1 ∈ r) && !decide (p.2 ∈ s)
def lastP (t : Tk) (q : Pl) (r s : List Int) : Pl := (toldP q r s).filter fun p => !decide (p.2 ∈ deskT t)
/-- the links of a chain: the order that is left, the persons reached, the desks seen, the links found -/
def links (b : List Pl) (t : Tk) : List Int → List Int → List Int → Tk → Tk × Bool
  | [], _, _, f => (f, false)
  | n :: o, r, s, f => match lastP t (b.getD n.toNat []) r s with
    | p :: _ => (f ++ [(n, p)], true)
    | [] => match toldP (b.getD n.toNat []) r s with
      | p :: _ => links b t o (r ++ [holder t p.2]) (s ++ [p.2]) (f ++ [(n, p)])
      | [] => links b t o r s f
def linksT (b : List Pl) (t : Tk) (o : List Int) : Tk × Bool := links b t o (rest8 (persT t)) [] []
/-- links found so far -/
structure Lk (b : List Pl) (t : Tk) (f : Tk) : Prop where
  nd : (f.map (·.1)).Nodup
  un : ∀ x ∈ f, x.1 ∈ unusedI b t ∧ x.2 ∈ b.getD x.1.toNat []
  dn : (deskT f).Nodup
  rc : ∀ pre x post, f = pre ++ x :: post → x.2.1 ∈ rest8 (persT t) ∨ ∃ y ∈ pre, y.2.2 ∈ deskT t ∧ holder t y.2.2 = x.2.1
theorem Lk.nil (b : List Pl) (t : Tk) : Lk b t [] := ⟨.nil, fun _ h => (nomatch h), .nil, fun pre x post e => by simp at e⟩
theorem append_cons_inj {α : Type} {f : List α} {y : α} {pre : List α} {x : α} {post : List α} (e : f ++ [y] = pre ++ x :: post) : (∃ post', f = pre ++ x :: post' ∧ post = post' ++ [y]) ∨ (f = pre ∧ y = x ∧ post = []) := by
  rcases List.eq_nil_or_concat post with rfl | ⟨p, z, rfl⟩
  · obtain ⟨h1, h2⟩ := List.append_inj' e rfl
    exact .inr ⟨h1, (List.cons.inj h2).1, rfl⟩
  · rw [List.concat_eq_append, ← List.cons_append, ← List.append_assoc] at e
    obtain ⟨h1, h2⟩ := List.append_inj' e rfl
    exact .inl ⟨p, h1, by rw [List.concat_eq_append, (List.cons.inj h2).1]⟩
theorem Lk.snoc {b : List Pl} {t f : Tk} {n : Int} {p : Pr} (h : Lk b t f) (hn : n ∉ f.map (·.1)) (hu : n ∈ unusedI b t) (hp : p ∈ b.getD n.toNat []) (hd : p.2 ∉ deskT f) (hr : p.1 ∈ rest8 (persT t) ∨ ∃ y ∈ f, y.2.2 ∈ deskT t ∧ holder t y.2.2 = p.1) : Lk b t (f ++ [(n, p)]) := by
  refine ⟨?_, fun x hx => ?_, ?_, fun pre x post e => ?_⟩
  · rw [List.map_append, List.nodup_append]
    exact ⟨h.nd, by simp, fun a ha c hc e => hn (by rw [List.mem_singleton.mp (show c ∈ [n] from hc)] at e; exact e ▸ ha)⟩
  · rcases List.mem_append.mp hx with hx | hx
    · exact h.un x hx
    · rw [List.mem_singleton.mp hx]
      exact ⟨hu, hp⟩
  · unfold deskT at hd ⊢
    rw [List.map_append, List.nodup_append]
    exact ⟨h.dn, by simp, fun a ha c hc e => hd (by rw [List.mem_singleton.mp (show c ∈ [p.2] from hc)] at e; exact e ▸ ha)⟩
  · rcases append_cons_inj e with ⟨post', e1, _⟩ | ⟨rfl, rfl, _⟩
    · exact h.rc pre x post' e1
    · exact hr
/-- what the links come to -/
structure Lks (b : List Pl) (t : Tk) (r : Tk × Bool) : Prop where
  lk : Lk b t r.1
  last : r.2 = true → ∃ pre x, r.1 = pre ++ [x] ∧ x.2.2 ∉ deskT t ∧ ∀ y ∈ pre, y.2.2 ∈ deskT t
  all : r.2 = false → ∀ y ∈ r.1, y.2.2 ∈ deskT t
end SH
end
section
set_option Elab.async false
set_option linter.all false
set_option maxRecDepth 100000
set_option maxHeartbeats 2000000
/-! Chains: the way back and the pick that comes of it. -/
open PySem PySem.Spec PyProof.Rows L2 DL
namespace SH
/-- each next link's person had the desk of the one ahead of it; the last desk is free -/
def Walk (t : Tk) : Tk → Prop
  | [] => False
  | x :: l => match l with
    | [] => x.2.2 ∉ deskT t
    | y :: _ => (y.2.1 ∈ persT t ∧ deskOf t y.2.1 = x.2.2) ∧ Walk t l
theorem Walk.one {t : Tk} {x : Int × Pr} : Walk t [x] ↔ x.2.2 ∉ deskT t := Iff.rfl
theorem Walk.cons {t : Tk} {x y : Int × Pr} {l : Tk} : Walk t (x :: y :: l) ↔ (y.2.1 ∈ persT t ∧ deskOf t y.2.1 = x.2.2) ∧ Walk t (y :: l) := Iff.rfl
theorem Walk.tail {t : Tk} : ∀ {x : Int × Pr} {l : Tk}, Walk t (x :: l) → ∀ y ∈ l, y.2.1 ∈ persT t
  | _, [], _, _, h => nomatch h
  | x, y :: l, h, z, hz => by
    rcases List.mem_cons.mp hz with rfl | hz
    · exact h.1.1
    · exact Walk.tail h.2 z hz
/-- the desks: those that the next persons had, then a free one -/
theorem Walk.desks {t : Tk} : ∀ {x : Int × Pr} {l : Tk}, Walk t (x :: l) → ∃ d, d ∉ deskT t ∧ deskT (x :: l) = (l.map fun y => deskOf t y.2.1) ++ [d]
  | x, [], h => ⟨x.2.2, h, rfl⟩
  | x, y :: l, h => by
    obtain ⟨d, h1, h2⟩ := Walk.desks h.2
    refine ⟨d, h1, ?_⟩
    show x.2.2 :: deskT (y :: l) = deskOf t y.2.1 :: ((l.map fun y => deskOf t y.2.1) ++ [d])
    rw [h2, h.1.2]
/-- a way through links: the links are unlike, unused; the first person stands nowhere -/
structure PathM (b : List Pl) (t w : Tk) : Prop where
  wk : Walk t w
  hd : ∀ x, w.head? = some x → x.2.1 ∉ persT t
  nd : (w.map (·.1)).Nodup
  un : ∀ x ∈ w, x.1 ∈ unusedI b t ∧ x.2 ∈ b.getD x.1.toNat []
  dn : (deskT w).Nodup
/-- the pairs that stay -/
def keptT (t w : Tk) : Tk := t.filter fun e => !decide (e.2.1 ∈ persT w)
theorem filt_nd {t : Tk} {B : Int × Pr → Bool} (f : Int × Pr → Int) (nd : (t.map f).Nodup) : ((t.filter B).map f).Nodup := (List.filter_sublist.map f).nodup nd
section
variable {b : List Pl} {t w : Tk}
theorem PathM.split (h : PathM b t w) : ∃ x l, w = x :: l ∧ x.2.1 ∉ persT t ∧ (∀ y ∈ l, y.2.1 ∈ persT t) ∧ ∃ d, d ∉ deskT t ∧ deskT w = (l.map fun y => deskOf t y.2.1) ++ [d] := by
  cases w with
  | nil => exact h.wk.elim
  | cons x l =>
    obtain ⟨d, h1, h2⟩ := h.wk.desks
    exact ⟨x, l, rfl, h.hd x rfl, h.wk.tail, d, h1, h2⟩
theorem PathM.persons (a : Ap t) (h : PathM b t w) : (persT w).Nodup := by
  obtain ⟨x, l, rfl, h1, h2, d, h3, h4⟩ := h.split
  have hn := h.dn
  rw [h4] at hn
  have h5 := (List.nodup_append.mp hn).1
  have h6 : (l.map fun y => y.2.1).Nodup := by
    have : (l.map fun y => deskOf t y.2.1) = (l.map fun y => y.2.1).map (deskOf t) := by rw [List.map_map]; rfl
    rw [this] at h5
    exact nodup_of_map _ h5
  refine List.nodup_cons.mpr ⟨fun w => ?_, h6⟩
  obtain ⟨y, hy, e⟩ := List.mem_map.mp w
  have h7 := h2 y hy
  rw [show y.2.1 = x.2.1 from e] at h7
  exact h1 h7
theorem nodup_perm {l m : List Int} (hl : l.Nodup) (hm : m.Nodup) (h : ∀ x, x ∈ l ↔ x ∈ m) : l.length = m.length :=
  Nat.le_antisymm (nodup_len hl fun x hx => (h x).mp hx) (nodup_len hm fun x hx => (h x).mpr hx)
theorem filter_split {α : Type} (B : α → Bool) : ∀ l : List α, (l.filter B).length + (l.filter fun x => !B x).length = l.length
  | [] => rfl
  | x :: l => by
    have := filter_split B l
    rw [List.filter_cons, List.filter_cons]
    cases B x <;> simp only [Bool.not_true, Bool.not_false, if_true, Bool.false_eq_true, if_false, List.length_cons] <;> omega
theorem PathM.len (a : Ap t) (h : PathM b t w) : (keptT t w).length + w.length = t.length + 1 := by
  have pn := h.persons a
  obtain ⟨x, l, rfl, h1, h2, d, h3, h4⟩ := h.split
  obtain ⟨n1, n2⟩ := List.nodup_cons.mp (show (x.2.1 :: l.map (·.2.1)).Nodup from pn)
  have h5 := filter_split (fun e : Int × Pr => decide (e.2.1 ∈ persT (x :: l))) t
  have h6 : (t.filter fun e => decide (e.2.1 ∈ persT (x :: l))).length = l.length := by
    have := nodup_perm (l := (t.filter fun e => decide (e.2.1 ∈ persT (x :: l))).map (·.2.1)) (m := l.map (·.2.1)) (filt_nd (fun x => x.2.1) a.p) n2 fun p => by
      rw [List.mem_map, List.mem_map]
      constructor
      · rintro ⟨e, he, rfl⟩
        obtain ⟨q1, q2⟩ := List.mem_filter.mp he
        obtain ⟨y, hy, e1⟩ := List.mem_map.mp (of_decide_eq_true q2)
        rcases List.mem_cons.mp hy with rfl | hy
        · exact absurd (e1 ▸ List.mem_map.mpr ⟨e, q1, rfl⟩) h1
        · exact ⟨y, hy, e1⟩
      · rintro ⟨y, hy, rfl⟩
        obtain ⟨e, he, e1⟩ := List.mem_map.mp (h2 y hy)
        refine ⟨e, List.mem_filter.mpr ⟨he, decide_eq_true ?_⟩, e1⟩
        rw [e1]
        exact List.mem_map.mpr ⟨y, List.mem_cons_of_mem _ hy, rfl⟩
    rwa [List.length_map, List.length_map] at this
  unfold keptT
  rw [List.length_cons]
  omega
end
/-! ### the way back -/
def linkAt (f : Tk) (d : Int) : Int × Pr := match f.find? (fun x => decide (x.2.2 = d)) with
  | some x => x
  | none => (0, 0, 0)
theorem linkAt_mem {f : Tk} (nd : (deskT f).Nodup) {x : Int × Pr} (h : x ∈ f) : linkAt f x.2.2 = x := by
  unfold linkAt
  rw [find_key (f := fun x => x.2.2) nd h]
/-- what is found going back -/
structure Bk (t f acc : Tk) (n : Nat) : Prop where
  ex : ∃ pre x post rest, f = pre ++ x :: post ∧ acc = x :: rest ∧ rest.Sublist post ∧ pre.length < n
  wk : Walk t acc
theorem Bk.step {b : List Pl} {t f acc : Tk} {n : Nat} (a : Ap t) (h : Lk b t f) (k : Bk t f acc (n + 1)) {x : Int × Pr} {rest : Tk} (e : acc = x :: rest) (hx : x.2.1 ∈ persT t) :
    (∃ y ∈ f, y.2.2 = deskOf t x.2.1) ∧ Bk t f (linkAt f (deskOf t x.2.1) :: acc) n := by
  obtain ⟨pre, x', post, rest', e1, e2, e3, e4⟩ := k.ex
  rw [e] at e2
  obtain ⟨rfl, rfl⟩ := List.cons.inj e2
  rcases h.rc pre x post e1 with w | ⟨y, hy, hd, hh⟩
  · exact absurd hx (mem_rest8 w).2.2
  · have ed : deskOf t x.2.1 = y.2.2 := by rw [← hh]; exact (holder_mem a hd).2
    have yf : y ∈ f := by rw [e1]; exact List.mem_append_left _ hy
    refine ⟨⟨y, yf, ed.symm⟩, ?_⟩
    rw [ed, linkAt_mem h.dn yf]
    obtain ⟨p1, p2, rfl⟩ := List.append_of_mem hy
    refine ⟨⟨p1, y, p2 ++ x :: post, acc, by rw [e1, List.append_assoc]; rfl, rfl, ?_, ?_⟩, ?_⟩
    · rw [e]
      exact (e3.cons₂ x).trans (List.sublist_append_right ..)
    · rw [List.length_append, List.length_cons] at e4
      omega
    · rw [e]
      exact ⟨⟨hx, ed⟩, e ▸ k.wk⟩
theorem Bk.start {b : List Pl} {t : Tk} {r : Tk × Bool} (h : Lks b t r) (he : r.2 = true) : ∃ pre x, r.1 = pre ++ [x] ∧ Bk t r.1 [x] (pre.length + 1) := by
  obtain ⟨pre, x, e1, e2, e3⟩ := h.last he
  exact ⟨pre, x, e1, ⟨pre, x, [], [], e1, rfl, List.Sublist.slnil, Nat.lt_succ_self _⟩, e2⟩
/-- the way, by so many steps at most -/
def back (t f : Tk) : Nat → Tk → Tk
  | 0, acc => acc
  | n + 1, acc => match acc with
    | [] => []
    | x :: r => if x.2.1 ∈ persT t then back t f n (linkAt f (deskOf t x.2.1) :: x :: r) else x :: r
/-- the way of a chain: none if it does not end -/
def pathT (b : List Pl) (t : Tk) (o : List Int) : Option Tk :=
  let r := linksT b t o
  if r.2 = true then match r.1.getLast? with
    | some x => some (back t r.1 r.1.length [x])
    | none => none
  else none
/-- the grown pick -/
def growT (b : List Pl) (t : Tk) (o : List Int) : Option Tk := (pathT b t o).map fun w => keptT t w ++ w
end SH
end
section
set_option Elab.async false
set_option linter.all false
set_option maxRecDepth 100000
set_option maxHeartbeats 2000000
/-! Chains: when they end. -/
open PySem PySem.Spec PyProof.Rows L2 DL
namespace SH
end SH
end
section
set_option Elab.async false
set_option linter.all false
set_option maxRecDepth 100000
namespace SH
open PySem PySem.Spec PyProof.Rows L2 DL
end SH
end
section
set_option Elab.async false
set_option linter.all false
set_option maxRecDepth 100000
set_option maxHeartbeats 2000000
/-! More rules: dict comprehensions with int keys, dicts read, starred items. -/
open PySem PySem.Spec PyProof.Rows L2 DL
namespace SH
section
variable {g : G} {P : D → G → Prop} {E : XE} {ρ : DL.Env} {f fa fb fk fv : Ep} {fs : Es} {S : List D → G → Prop}
end
end SH
end
section
set_option Elab.async false
set_option linter.all false
set_option maxRecDepth 100000
set_option maxHeartbeats 2000000
/-! Orders, picks sorted, the links of a chain. -/
open PySem PySem.Spec PyProof.Rows L2 DL
namespace SH
open DL.Enc (enc)
local macro_rules | `(tactic| walk_at "k1") => `(tactic| first | walk_at "w2" | with_reducible refine w_ixP0 ?_ | with_reducible refine w_ixP1 ?_ | with_reducible refine w_lstPr ?_ | with_reducible refine w_lenK ?_ | with_reducible refine w_itK ?_ | with_reducible refine w_ixK (by assumption) ?_ | with_reducible refine w_mk1 ?_ | with_reducible refine w_mkO rfl ?_ | with_reducible refine w_modI8 ?_ | with_reducible refine w_addL (by walk_at "len") ?_ | with_reducible refine w_addT (by walk_at "len") ?_ | with_reducible refine w_ixBk (by walk_at "len") (by walk_at "len") ?_ | with_reducible refine w_lenPl ?_ | with_reducible refine w_itPl ?_ | with_reducible refine w_reprS (by assumption) (by decide) (by decide) ?_ | with_reducible refine w_neSelf ?_ | with_reducible refine w_tri0 ?_ | with_reducible refine w_tri1 ?_ | with_reducible refine w_tri2 ?_ | with_reducible refine w_appE (by walk_at "len") ?_)
local macro_rules | `(tactic| walk_at "k") => `(tactic| repeat walk_at "k1")
section
variable {g : G} {P : D → G → Prop} {E : XE} {d d2 : D} {m : Nat} {b : List Pl} {t : Tk} {ρ : DL.Env}
end
end SH
end
section
set_option Elab.async false
set_option linter.all false
set_option maxRecDepth 100000
set_option maxHeartbeats 2000000
/-! The links of a chain. -/
open PySem PySem.Spec PyProof.Rows L2 DL
namespace SH
open DL.Enc (enc)
local macro_rules | `(tactic| walk_at "k1") => `(tactic| first | walk_at "w2" | with_reducible refine w_ixP0 ?_ | with_reducible refine w_ixP1 ?_ | with_reducible refine w_lstPr ?_ | with_reducible refine w_lenK ?_ | with_reducible refine w_itK ?_ | with_reducible refine w_ixK (by assumption) ?_ | with_reducible refine w_mk1 ?_ | with_reducible refine w_mkO rfl ?_ | with_reducible refine w_modI8 ?_ | with_reducible refine w_addL (by walk_at "len") ?_ | with_reducible refine w_addT (by walk_at "len") ?_ | with_reducible refine w_ixBk (by walk_at "len") (by walk_at "len") ?_ | with_reducible refine w_lenPl ?_ | with_reducible refine w_itPl ?_ | with_reducible refine w_reprS (by assumption) (by decide) (by decide) ?_ | with_reducible refine w_neSelf ?_ | with_reducible refine w_tri0 ?_ | with_reducible refine w_tri1 ?_ | with_reducible refine w_tri2 ?_ | with_reducible refine w_appE (by walk_at "len") ?_)
local macro_rules | `(tactic| walk_at "k") => `(tactic| repeat walk_at "k1")
section
variable {g : G} {P : D → G → Prop} {E : XE} {d d2 : D} {m : Nat} {b : List Pl} {t : Tk} {ρ : DL.Env}
end
end SH
end
section
set_option Elab.async false
set_option linter.all false
set_option maxRecDepth 100000
set_option maxHeartbeats 2000000
/-! More rules: triples, dict displays with stars, is None. -/
open PySem PySem.Spec PyProof.Rows L2 DL
namespace SH
section
variable {g : G} {P : D → G → Prop} {E : XE} {ρ : DL.Env} {f fa fb fk fv : Ep} {x : Int × Pr}
theorem w_tri0 (h : P (.int x.1) g) : OpP (dIx (tri x) (.int 0)) P g := w_ix0 h
theorem w_tri1 (h : P (.int x.2.1) g) : OpP (dIx (tri x) (.int 1)) P g := w_ix1 h
theorem w_tri2 (h : P (.int x.2.2) g) : OpP (dIx (tri x) (.int 2)) P g := w_ixT (i := 2) rfl h
end
end SH
end
section
set_option Elab.async false
set_option linter.all false
set_option maxRecDepth 100000
set_option maxHeartbeats 2000000
/-! Chains, ends, paths, what is grown. -/
open PySem PySem.Spec PyProof.Rows L2 DL
namespace SH
open DL.Enc (enc)
local macro_rules | `(tactic| walk_at "k1") => `(tactic| first | walk_at "w2" | with_reducible refine w_ixP0 ?_ | with_reducible refine w_ixP1 ?_ | with_reducible refine w_lstPr ?_ | with_reducible refine w_lenK ?_ | with_reducible refine w_itK ?_ | with_reducible refine w_ixK (by assumption) ?_ | with_reducible refine w_mk1 ?_ | with_reducible refine w_mkO rfl ?_ | with_reducible refine w_modI8 ?_ | with_reducible refine w_addL (by walk_at "len") ?_ | with_reducible refine w_addT (by walk_at "len") ?_ | with_reducible refine w_ixBk (by walk_at "len") (by walk_at "len") ?_ | with_reducible refine w_lenPl ?_ | with_reducible refine w_itPl ?_ | with_reducible refine w_reprS (by assumption) (by decide) (by decide) ?_ | with_reducible refine w_neSelf ?_ | with_reducible refine w_tri0 ?_ | with_reducible refine w_tri1 ?_ | with_reducible refine w_tri2 ?_ | with_reducible refine w_appE (by walk_at "len") ?_)
local macro_rules | `(tactic| walk_at "k") => `(tactic| repeat walk_at "k1")
section
variable {g : G} {P : D → G → Prop} {E : XE} {d d2 : D} {m : Nat} {b : List Pl} {t : Tk} {ρ : DL.Env} {o : List Int}
/-- an order of the unused plans -/
structure OrdM (b : List Pl) (t : Tk) (o : List Int) : Prop where
  pm : o.Perm (unusedI b t)
theorem unused_nodup : (unusedI b t).Nodup := List.filter_sublist.nodup (rangeI_nodup _)
theorem OrdM.mem (h : OrdM b t o) : ∀ n ∈ o, n ∈ unusedI b t := fun n hn => h.pm.mem_iff.mp hn
theorem OrdM.nd (h : OrdM b t o) : o.Nodup := h.pm.nodup_iff.mpr unused_nodup
theorem OrdM.len (hb : BookM b) (h : OrdM b t o) : o.length ≤ 16 := by
  rw [h.pm.length_eq]
  exact Nat.le_trans unused_len hb.l2
theorem OrdM.rng (hb : BookM b) (h : OrdM b t o) : ∀ i ∈ o, 0 ≤ i ∧ i ≤ 16 := fun i hi => by
  have := (unused_mem.mp (h.mem i hi)).1
  have := hb.l2
  omega
theorem OrdM.ok (hb : BookM b) (h : OrdM b t o) : Ok 1 (ips o) := .tup (by rw [List.length_map]; have := h.len hb; omega) fun x hx => by
  obtain ⟨i, _, rfl⟩ := List.mem_map.mp hx
  exact .int i
end
end SH
end
section
set_option Elab.async false
set_option linter.all false
set_option maxRecDepth 100000
set_option maxHeartbeats 2000000
/-! Picks of fewer pairs, books of plans of one size. -/
open PySem PySem.Spec PyProof.Rows L2 DL
namespace SH
open DL.Enc (enc)
local macro_rules | `(tactic| walk_at "k1") => `(tactic| first | walk_at "w2" | with_reducible refine w_ixP0 ?_ | with_reducible refine w_ixP1 ?_ | with_reducible refine w_lstPr ?_ | with_reducible refine w_lenK ?_ | with_reducible refine w_itK ?_ | with_reducible refine w_ixK (by assumption) ?_ | with_reducible refine w_mk1 ?_ | with_reducible refine w_mkO rfl ?_ | with_reducible refine w_modI8 ?_ | with_reducible refine w_addL (by walk_at "len") ?_ | with_reducible refine w_addT (by walk_at "len") ?_ | with_reducible refine w_ixBk (by walk_at "len") (by walk_at "len") ?_ | with_reducible refine w_lenPl ?_ | with_reducible refine w_itPl ?_ | with_reducible refine w_reprS (by assumption) (by decide) (by decide) ?_ | with_reducible refine w_neSelf ?_ | with_reducible refine w_tri0 ?_ | with_reducible refine w_tri1 ?_ | with_reducible refine w_tri2 ?_ | with_reducible refine w_appE (by walk_at "len") ?_)
local macro_rules | `(tactic| walk_at "k") => `(tactic| repeat walk_at "k1")
section
variable {g : G} {P : D → G → Prop} {E : XE} {d d2 : D} {m : Nat} {b : List Pl} {t u : Tk} {ρ : DL.Env} {o : List Int}
theorem nodup_sub {f : Int × Pr → Int} (ht : (t.map f).Nodup) (hu : (u.map (·.1)).Nodup) (sub : ∀ e ∈ u, e ∈ t) : (u.map f).Nodup := by
  have h1 : u.Pairwise fun a c => a.1 ≠ c.1 := List.pairwise_map.mp hu
  refine List.pairwise_map.mpr (h1.imp_of_mem fun {a c} ha hc h e => h ?_)
  rw [nodup_inj ht (sub a ha) (sub c hc) e]
theorem PickM.sub (h : PickM b t) (hu : (u.map (·.1)).Nodup) (sub : ∀ e ∈ u, e ∈ t) : PickM b u := by
  have a := h.apt
  refine ⟨hu, fun e he => h.key e (sub e he), ?_⟩
  unfold apart
  rw [Bool.and_eq_true, decide_eq_true_eq, decide_eq_true_eq, List.map_map, List.map_map]
  exact ⟨nodup_sub (f := fun e => e.2.1) a.p hu sub, nodup_sub (f := fun e => e.2.2) a.d hu sub⟩
/-- books of so many plans of k pairs -/
structure FullM (k : Nat) (b : List Pl) : Prop where
  len : b.length + 1 = 2 * k
  pl : ∀ ps ∈ b, PlanM 8 ps ∧ ps.length = k
end
end SH
end
section
set_option Elab.async false
set_option linter.all false
set_option maxRecDepth 100000
set_option maxHeartbeats 2000000
/-! Full books as they are drawn. -/
open PySem PySem.Spec PyProof.Rows L2 DL
namespace SH
open DL.Enc (enc)
local macro_rules | `(tactic| walk_at "k1") => `(tactic| first | walk_at "w2" | with_reducible refine w_ixP0 ?_ | with_reducible refine w_ixP1 ?_ | with_reducible refine w_lstPr ?_ | with_reducible refine w_lenK ?_ | with_reducible refine w_itK ?_ | with_reducible refine w_ixK (by assumption) ?_ | with_reducible refine w_mk1 ?_ | with_reducible refine w_mkO rfl ?_ | with_reducible refine w_modI8 ?_ | with_reducible refine w_addL (by walk_at "len") ?_ | with_reducible refine w_addT (by walk_at "len") ?_ | with_reducible refine w_ixBk (by walk_at "len") (by walk_at "len") ?_ | with_reducible refine w_lenPl ?_ | with_reducible refine w_itPl ?_ | with_reducible refine w_reprS (by assumption) (by decide) (by decide) ?_ | with_reducible refine w_neSelf ?_ | with_reducible refine w_tri0 ?_ | with_reducible refine w_tri1 ?_ | with_reducible refine w_tri2 ?_ | with_reducible refine w_appE (by walk_at "len") ?_)
local macro_rules | `(tactic| walk_at "k") => `(tactic| repeat walk_at "k1")
section
variable {g : G} {P : D → G → Prop} {E : XE} {d d2 : D} {m : Nat} {b : List Pl} {t u : Tk} {ρ : DL.Env} {o : List Int}
theorem w_mid {nx ct bk : DL.Env → G → Prop} {rt : D → G → Prop} {t : Ss} (Q : DL.Env → G → Prop) (h : (t ρ g).all (FP Q NE NE fun _ _ => False) E) (k : ∀ ρ g, Q ρ g → nx ρ g) : (t ρ g).all (FP nx ct bk rt) E :=
  R.all_imp h (fun f g hf => by
    cases f with
    | nx ρ => exact k ρ g hf
    | ct ρ => exact hf.elim
    | bk ρ => exact hf.elim
    | ret d => exact hf.elim) fun _ _ _ _ h => h
end
end SH
end
section
set_option Elab.async false
set_option linter.all false
set_option maxRecDepth 100000
set_option maxHeartbeats 2000000
/-! What is grown; how many plans are large enough. -/
open PySem PySem.Spec PyProof.Rows L2 DL
namespace SH
open DL.Enc (enc)
local macro_rules | `(tactic| walk_at "k1") => `(tactic| first | walk_at "w2" | with_reducible refine w_ixP0 ?_ | with_reducible refine w_ixP1 ?_ | with_reducible refine w_lstPr ?_ | with_reducible refine w_lenK ?_ | with_reducible refine w_itK ?_ | with_reducible refine w_ixK (by assumption) ?_ | with_reducible refine w_mk1 ?_ | with_reducible refine w_mkO rfl ?_ | with_reducible refine w_modI8 ?_ | with_reducible refine w_addL (by walk_at "len") ?_ | with_reducible refine w_addT (by walk_at "len") ?_ | with_reducible refine w_ixBk (by walk_at "len") (by walk_at "len") ?_ | with_reducible refine w_lenPl ?_ | with_reducible refine w_itPl ?_ | with_reducible refine w_reprS (by assumption) (by decide) (by decide) ?_ | with_reducible refine w_neSelf ?_ | with_reducible refine w_tri0 ?_ | with_reducible refine w_tri1 ?_ | with_reducible refine w_tri2 ?_ | with_reducible refine w_appE (by walk_at "len") ?_)
local macro_rules | `(tactic| walk_at "k") => `(tactic| repeat walk_at "k1")
section
variable {g : G} {P : D → G → Prop} {E : XE} {d d2 : D} {m : Nat} {b : List Pl} {t u w : Tk} {ρ : DL.Env} {o : List Int}
end
end SH
end
section
set_option Elab.async false
set_option linter.all false
set_option maxRecDepth 100000
set_option maxHeartbeats 2000000
/-! Unlike numbers. -/
open PySem PySem.Spec PyProof.Rows L2 DL
namespace SH
open DL.Enc (enc)
local macro_rules | `(tactic| walk_at "k1") => `(tactic| first | walk_at "w2" | with_reducible refine w_ixP0 ?_ | with_reducible refine w_ixP1 ?_ | with_reducible refine w_lstPr ?_ | with_reducible refine w_lenK ?_ | with_reducible refine w_itK ?_ | with_reducible refine w_ixK (by assumption) ?_ | with_reducible refine w_mk1 ?_ | with_reducible refine w_mkO rfl ?_ | with_reducible refine w_modI8 ?_ | with_reducible refine w_addL (by walk_at "len") ?_ | with_reducible refine w_addT (by walk_at "len") ?_ | with_reducible refine w_ixBk (by walk_at "len") (by walk_at "len") ?_ | with_reducible refine w_lenPl ?_ | with_reducible refine w_itPl ?_ | with_reducible refine w_reprS (by assumption) (by decide) (by decide) ?_ | with_reducible refine w_neSelf ?_ | with_reducible refine w_tri0 ?_ | with_reducible refine w_tri1 ?_ | with_reducible refine w_tri2 ?_ | with_reducible refine w_appE (by walk_at "len") ?_)
local macro_rules | `(tactic| walk_at "k") => `(tactic| repeat walk_at "k1")
section
variable {g : G} {P : D → G → Prop} {E : XE}
end
end SH
end
section
set_option Elab.async false
set_option linter.all false
set_option maxRecDepth 100000
set_option maxHeartbeats 2000000
/-! Picks grown again and again. -/
open PySem PySem.Spec PyProof.Rows L2 DL
namespace SH
open DL.Enc (enc)
local macro_rules | `(tactic| walk_at "k1") => `(tactic| first | walk_at "w2" | with_reducible refine w_ixP0 ?_ | with_reducible refine w_ixP1 ?_ | with_reducible refine w_lstPr ?_ | with_reducible refine w_lenK ?_ | with_reducible refine w_itK ?_ | with_reducible refine w_ixK (by assumption) ?_ | with_reducible refine w_mk1 ?_ | with_reducible refine w_mkO rfl ?_ | with_reducible refine w_modI8 ?_ | with_reducible refine w_addL (by walk_at "len") ?_ | with_reducible refine w_addT (by walk_at "len") ?_ | with_reducible refine w_ixBk (by walk_at "len") (by walk_at "len") ?_ | with_reducible refine w_lenPl ?_ | with_reducible refine w_itPl ?_ | with_reducible refine w_reprS (by assumption) (by decide) (by decide) ?_ | with_reducible refine w_neSelf ?_ | with_reducible refine w_tri0 ?_ | with_reducible refine w_tri1 ?_ | with_reducible refine w_tri2 ?_ | with_reducible refine w_appE (by walk_at "len") ?_)
local macro_rules | `(tactic| walk_at "k") => `(tactic| repeat walk_at "k1")
section
variable {g : G} {P : D → G → Prop} {E : XE} {d d2 : D} {m : Nat} {b : List Pl} {t u w : Tk} {ρ : DL.Env} {o : List Int}
/-- each pick has one pair more than the one ahead of it -/
structure StepM (b : List Pl) (t u : Tk) : Prop where
  one : PickM b t
  two : PickM b u
  len : u.length = t.length + 1
  stay : ∀ e ∈ t, e.2.1 ∈ persT u ∧ e.2.2 ∈ deskT u
/-- what the list of picks is -/
structure GrowsM (b : List Pl) (t : Tk) (l : List Tk) : Prop where
  hd : ∃ r, l = t :: r
  st : ∀ e ∈ l.zip (l.drop 1), StepM b e.1 e.2
  lst : ∃ pre z, l = pre ++ [z] ∧ PickM b z ∧ growT b z (unusedI b z) = none ∧ z.length = t.length + pre.length
end
end SH
end
section
set_option Elab.async false
set_option linter.all false
set_option maxRecDepth 100000
set_option maxHeartbeats 2000000
/-! Picks grown by orders. -/
open PySem PySem.Spec PyProof.Rows L2 DL
namespace SH
open DL.Enc (enc)
local macro_rules | `(tactic| walk_at "k1") => `(tactic| first | walk_at "w2" | with_reducible refine w_ixP0 ?_ | with_reducible refine w_ixP1 ?_ | with_reducible refine w_lstPr ?_ | with_reducible refine w_lenK ?_ | with_reducible refine w_itK ?_ | with_reducible refine w_ixK (by assumption) ?_ | with_reducible refine w_mk1 ?_ | with_reducible refine w_mkO rfl ?_ | with_reducible refine w_modI8 ?_ | with_reducible refine w_addL (by walk_at "len") ?_ | with_reducible refine w_addT (by walk_at "len") ?_ | with_reducible refine w_ixBk (by walk_at "len") (by walk_at "len") ?_ | with_reducible refine w_lenPl ?_ | with_reducible refine w_itPl ?_ | with_reducible refine w_reprS (by assumption) (by decide) (by decide) ?_ | with_reducible refine w_neSelf ?_ | with_reducible refine w_tri0 ?_ | with_reducible refine w_tri1 ?_ | with_reducible refine w_tri2 ?_ | with_reducible refine w_appE (by walk_at "len") ?_)
local macro_rules | `(tactic| walk_at "k") => `(tactic| repeat walk_at "k1")
section
variable {g : G} {P : D → G → Prop} {E : XE} {d d2 : D} {m : Nat} {b : List Pl} {t u w : Tk} {ρ : DL.Env} {o : List Int}
end
end SH
end
section
set_option Elab.async false
set_option linter.all false
set_option maxRecDepth 100000
set_option maxHeartbeats 2000000
/-! Lists of picks, two by two. -/
open PySem PySem.Spec PyProof.Rows L2 DL
namespace SH
open DL.Enc (enc)
local macro_rules | `(tactic| walk_at "k1") => `(tactic| first | walk_at "w2" | with_reducible refine w_ixP0 ?_ | with_reducible refine w_ixP1 ?_ | with_reducible refine w_lstPr ?_ | with_reducible refine w_lenK ?_ | with_reducible refine w_itK ?_ | with_reducible refine w_ixK (by assumption) ?_ | with_reducible refine w_mk1 ?_ | with_reducible refine w_mkO rfl ?_ | with_reducible refine w_modI8 ?_ | with_reducible refine w_addL (by walk_at "len") ?_ | with_reducible refine w_addT (by walk_at "len") ?_ | with_reducible refine w_ixBk (by walk_at "len") (by walk_at "len") ?_ | with_reducible refine w_lenPl ?_ | with_reducible refine w_itPl ?_ | with_reducible refine w_reprS (by assumption) (by decide) (by decide) ?_ | with_reducible refine w_neSelf ?_ | with_reducible refine w_tri0 ?_ | with_reducible refine w_tri1 ?_ | with_reducible refine w_tri2 ?_ | with_reducible refine w_appE (by walk_at "len") ?_)
local macro_rules | `(tactic| walk_at "k") => `(tactic| repeat walk_at "k1")
section
variable {g : G} {P : D → G → Prop} {S : List D → G → Prop} {E : XE} {f1 f2 : Ep} {b : List Pl} {t u w : Tk} {ρ : DL.Env} {o : List Int}
end
end SH
end
section
set_option Elab.async false
set_option linter.all false
set_option maxRecDepth 100000
namespace SH
open PySem PySem.Spec PyProof.Rows L2 DL
end SH
end
section
set_option Elab.async false
set_option linter.all false
set_option maxRecDepth 100000
set_option maxHeartbeats 2000000
/-! The law's own walk along a chain. -/
open PySem PySem.Spec PyProof.Rows L2 DL
namespace SH
open DL.Enc (enc)
local macro_rules | `(tactic| walk_at "k1") => `(tactic| first | walk_at "w2" | with_reducible refine w_ixP0 ?_ | with_reducible refine w_ixP1 ?_ | with_reducible refine w_lstPr ?_ | with_reducible refine w_lenK ?_ | with_reducible refine w_itK ?_ | with_reducible refine w_ixK (by assumption) ?_ | with_reducible refine w_mk1 ?_ | with_reducible refine w_mkO rfl ?_ | with_reducible refine w_modI8 ?_ | with_reducible refine w_addL (by walk_at "len") ?_ | with_reducible refine w_addT (by walk_at "len") ?_ | with_reducible refine w_ixBk (by walk_at "len") (by walk_at "len") ?_ | with_reducible refine w_lenPl ?_ | with_reducible refine w_itPl ?_ | with_reducible refine w_reprS (by assumption) (by decide) (by decide) ?_ | with_reducible refine w_neSelf ?_ | with_reducible refine w_tri0 ?_ | with_reducible refine w_tri1 ?_ | with_reducible refine w_tri2 ?_ | with_reducible refine w_appE (by walk_at "len") ?_)
local macro_rules | `(tactic| walk_at "k") => `(tactic| repeat walk_at "k1")
section
variable {g : G} {P : D → G → Prop} {E : XE} {d d2 q : D} {m : Nat} {b : List Pl} {t u w f : Tk} {ρ : DL.Env} {o : List Int}
end
end SH
end
section
set_option Elab.async false
set_option linter.all false
set_option maxRecDepth 100000
set_option maxHeartbeats 2000000
/-! The law's own way back and the pick that comes of it. -/
open PySem PySem.Spec PyProof.Rows L2 DL
namespace SH
open DL.Enc (enc)
local macro_rules | `(tactic| walk_at "k1") => `(tactic| first | walk_at "w2" | with_reducible refine w_ixP0 ?_ | with_reducible refine w_ixP1 ?_ | with_reducible refine w_lstPr ?_ | with_reducible refine w_lenK ?_ | with_reducible refine w_itK ?_ | with_reducible refine w_ixK (by assumption) ?_ | with_reducible refine w_mk1 ?_ | with_reducible refine w_mkO rfl ?_ | with_reducible refine w_modI8 ?_ | with_reducible refine w_addL (by walk_at "len") ?_ | with_reducible refine w_addT (by walk_at "len") ?_ | with_reducible refine w_ixBk (by walk_at "len") (by walk_at "len") ?_ | with_reducible refine w_lenPl ?_ | with_reducible refine w_itPl ?_ | with_reducible refine w_reprS (by assumption) (by decide) (by decide) ?_ | with_reducible refine w_neSelf ?_ | with_reducible refine w_tri0 ?_ | with_reducible refine w_tri1 ?_ | with_reducible refine w_tri2 ?_ | with_reducible refine w_appE (by walk_at "len") ?_)
local macro_rules | `(tactic| walk_at "k") => `(tactic| repeat walk_at "k1")
section
variable {g : G} {P : D → G → Prop} {E : XE} {d d2 q : D} {m : Nat} {b : List Pl} {t u w f : Tk} {ρ : DL.Env} {o : List Int}
end
end SH
end
section
set_option Elab.async false
set_option linter.all false
set_option maxRecDepth 100000
set_option maxHeartbeats 2000000
/-! All orders, all picks of small books. -/
open PySem PySem.Spec PyProof.Rows L2 DL
namespace SH
open DL.Enc (enc)
local macro_rules | `(tactic| walk_at "k1") => `(tactic| first | walk_at "w2" | with_reducible refine w_ixP0 ?_ | with_reducible refine w_ixP1 ?_ | with_reducible refine w_lstPr ?_ | with_reducible refine w_lenK ?_ | with_reducible refine w_itK ?_ | with_reducible refine w_ixK (by assumption) ?_ | with_reducible refine w_mk1 ?_ | with_reducible refine w_mkO rfl ?_ | with_reducible refine w_modI8 ?_ | with_reducible refine w_addL (by walk_at "len") ?_ | with_reducible refine w_addT (by walk_at "len") ?_ | with_reducible refine w_ixBk (by walk_at "len") (by walk_at "len") ?_ | with_reducible refine w_lenPl ?_ | with_reducible refine w_itPl ?_ | with_reducible refine w_reprS (by assumption) (by decide) (by decide) ?_ | with_reducible refine w_neSelf ?_ | with_reducible refine w_tri0 ?_ | with_reducible refine w_tri1 ?_ | with_reducible refine w_tri2 ?_ | with_reducible refine w_appE (by walk_at "len") ?_)
local macro_rules | `(tactic| walk_at "k") => `(tactic| repeat walk_at "k1")
section
variable {g : G} {P : D → G → Prop} {E : XE} {d d2 q : D} {m : Nat} {b : List Pl} {t u w f : Tk} {ρ : DL.Env} {o : List Int}
/-- parts of s, k long -/
structure PartM (s : List Int) (k : Nat) (o : List Int) : Prop where
  nd : o.Nodup
  sub : ∀ x ∈ o, x ∈ s
  len : o.length = k
end
end SH
end
section
set_option Elab.async false
set_option linter.all false
set_option maxRecDepth 100000
namespace SH
open PySem PySem.Spec PyProof.Rows L2 DL
end SH
end
section
set_option Elab.async false
set_option linter.all false
set_option maxRecDepth 100000
set_option maxHeartbeats 2000000
/-! Orders that are none; what chain, ends, path, grown say of values that are none. -/
open PySem PySem.Spec PyProof.Rows L2 DL
namespace SH
open DL.Enc (enc)
local macro_rules | `(tactic| walk_at "k1") => `(tactic| first | walk_at "w2" | with_reducible refine w_ixP0 ?_ | with_reducible refine w_ixP1 ?_ | with_reducible refine w_lstPr ?_ | with_reducible refine w_lenK ?_ | with_reducible refine w_itK ?_ | with_reducible refine w_ixK (by assumption) ?_ | with_reducible refine w_mk1 ?_ | with_reducible refine w_mkO rfl ?_ | with_reducible refine w_modI8 ?_ | with_reducible refine w_addL (by walk_at "len") ?_ | with_reducible refine w_addT (by walk_at "len") ?_ | with_reducible refine w_ixBk (by walk_at "len") (by walk_at "len") ?_ | with_reducible refine w_lenPl ?_ | with_reducible refine w_itPl ?_ | with_reducible refine w_reprS (by assumption) (by decide) (by decide) ?_ | with_reducible refine w_neSelf ?_ | with_reducible refine w_tri0 ?_ | with_reducible refine w_tri1 ?_ | with_reducible refine w_tri2 ?_ | with_reducible refine w_appE (by walk_at "len") ?_)
local macro_rules | `(tactic| walk_at "k") => `(tactic| repeat walk_at "k1")
section
variable {g : G} {P : D → G → Prop} {E : XE} {d d2 d3 q : D} {m : Nat} {b : List Pl} {t u w f : Tk} {ρ : DL.Env} {o : List Int}
/-! need_all's own steps -/
section
variable {n ct bkk : DL.Env → G → Prop} {nx : DL.Env → G → Prop} {rt : D → G → Prop} {uu : Ss}
end
end
end SH
end
section
set_option Elab.async false
set_option linter.all false
set_option maxRecDepth 100000
set_option maxHeartbeats 2000000
/-! Rules for what is cleared, flat results; paths that do not end. -/
open PySem PySem.Spec PyProof.Rows L2 DL
namespace SH
open DL.Enc (enc)
local macro_rules | `(tactic| walk_at "k1") => `(tactic| first | walk_at "w2" | with_reducible refine w_ixP0 ?_ | with_reducible refine w_ixP1 ?_ | with_reducible refine w_lstPr ?_ | with_reducible refine w_lenK ?_ | with_reducible refine w_itK ?_ | with_reducible refine w_ixK (by assumption) ?_ | with_reducible refine w_mk1 ?_ | with_reducible refine w_mkO rfl ?_ | with_reducible refine w_modI8 ?_ | with_reducible refine w_addL (by walk_at "len") ?_ | with_reducible refine w_addT (by walk_at "len") ?_ | with_reducible refine w_ixBk (by walk_at "len") (by walk_at "len") ?_ | with_reducible refine w_lenPl ?_ | with_reducible refine w_itPl ?_ | with_reducible refine w_reprS (by assumption) (by decide) (by decide) ?_ | with_reducible refine w_neSelf ?_ | with_reducible refine w_tri0 ?_ | with_reducible refine w_tri1 ?_ | with_reducible refine w_tri2 ?_ | with_reducible refine w_appE (by walk_at "len") ?_)
local macro_rules | `(tactic| walk_at "k") => `(tactic| repeat walk_at "k1")
section
variable {g : G} {P : D → G → Prop} {E : XE} {d d2 d3 q : D} {m i : Nat} {b : List Pl} {t u w : Tk} {ρ : DL.Env} {o : List Int} {f : Ep} {nx ct bkk : DL.Env → G → Prop} {rt : D → G → Prop}
end
end SH
end
section
set_option Elab.async false
set_option linter.all false
set_option maxRecDepth 100000
set_option maxHeartbeats 2000000
/-! Sizes, rising numbers, plans kept. -/
open PySem PySem.Spec PyProof.Rows L2 DL
namespace SH
open DL.Enc (enc)
local macro_rules | `(tactic| walk_at "k1") => `(tactic| first | walk_at "w2" | with_reducible refine w_ixP0 ?_ | with_reducible refine w_ixP1 ?_ | with_reducible refine w_lstPr ?_ | with_reducible refine w_lenK ?_ | with_reducible refine w_itK ?_ | with_reducible refine w_ixK (by assumption) ?_ | with_reducible refine w_mk1 ?_ | with_reducible refine w_mkO rfl ?_ | with_reducible refine w_modI8 ?_ | with_reducible refine w_addL (by walk_at "len") ?_ | with_reducible refine w_addT (by walk_at "len") ?_ | with_reducible refine w_ixBk (by walk_at "len") (by walk_at "len") ?_ | with_reducible refine w_lenPl ?_ | with_reducible refine w_itPl ?_ | with_reducible refine w_reprS (by assumption) (by decide) (by decide) ?_ | with_reducible refine w_neSelf ?_ | with_reducible refine w_tri0 ?_ | with_reducible refine w_tri1 ?_ | with_reducible refine w_tri2 ?_ | with_reducible refine w_appE (by walk_at "len") ?_)
local macro_rules | `(tactic| walk_at "k") => `(tactic| repeat walk_at "k1")
section
variable {g : G} {P : D → G → Prop} {E : XE} {d d2 q : D} {m : Nat} {b : List Pl} {t u w : Tk} {ρ : DL.Env} {o : List Int}
end
end SH
end
section
set_option Elab.async false
set_option linter.all false
set_option maxRecDepth 100000
set_option maxHeartbeats 2000000
/-! How many plans a pair stands in. -/
open PySem PySem.Spec PyProof.Rows L2 DL
namespace SH
open DL.Enc (enc)
local macro_rules | `(tactic| walk_at "k1") => `(tactic| first | walk_at "w2" | with_reducible refine w_ixP0 ?_ | with_reducible refine w_ixP1 ?_ | with_reducible refine w_lstPr ?_ | with_reducible refine w_lenK ?_ | with_reducible refine w_itK ?_ | with_reducible refine w_ixK (by assumption) ?_ | with_reducible refine w_mk1 ?_ | with_reducible refine w_mkO rfl ?_ | with_reducible refine w_modI8 ?_ | with_reducible refine w_addL (by walk_at "len") ?_ | with_reducible refine w_addT (by walk_at "len") ?_ | with_reducible refine w_ixBk (by walk_at "len") (by walk_at "len") ?_ | with_reducible refine w_lenPl ?_ | with_reducible refine w_itPl ?_ | with_reducible refine w_reprS (by assumption) (by decide) (by decide) ?_ | with_reducible refine w_neSelf ?_ | with_reducible refine w_tri0 ?_ | with_reducible refine w_tri1 ?_ | with_reducible refine w_tri2 ?_ | with_reducible refine w_appE (by walk_at "len") ?_)
local macro_rules | `(tactic| walk_at "k") => `(tactic| repeat walk_at "k1")
def cd (e : Pr × Int) : D × D := (pr e.1, .int e.2)
end SH
end
section
set_option Elab.async false
set_option linter.all false
set_option maxRecDepth 100000
set_option maxHeartbeats 2000000
/-! Counts of pairs: rules. -/
open PySem PySem.Spec PyProof.Rows L2 DL
namespace SH
open DL.Enc (enc)
local macro_rules | `(tactic| walk_at "k1") => `(tactic| first | walk_at "w2" | with_reducible refine w_ixP0 ?_ | with_reducible refine w_ixP1 ?_ | with_reducible refine w_lstPr ?_ | with_reducible refine w_lenK ?_ | with_reducible refine w_itK ?_ | with_reducible refine w_ixK (by assumption) ?_ | with_reducible refine w_mk1 ?_ | with_reducible refine w_mkO rfl ?_ | with_reducible refine w_modI8 ?_ | with_reducible refine w_addL (by walk_at "len") ?_ | with_reducible refine w_addT (by walk_at "len") ?_ | with_reducible refine w_ixBk (by walk_at "len") (by walk_at "len") ?_ | with_reducible refine w_lenPl ?_ | with_reducible refine w_itPl ?_ | with_reducible refine w_reprS (by assumption) (by decide) (by decide) ?_ | with_reducible refine w_neSelf ?_ | with_reducible refine w_tri0 ?_ | with_reducible refine w_tri1 ?_ | with_reducible refine w_tri2 ?_ | with_reducible refine w_appE (by walk_at "len") ?_)
local macro_rules | `(tactic| walk_at "k") => `(tactic| repeat walk_at "k1")
section
variable {g : G} {P : D → G → Prop} {E : XE} {ρ : DL.Env} {fo fk fx : Ep}
end
end SH
end
section
set_option Elab.async false
set_option linter.all false
set_option maxRecDepth 100000
set_option maxHeartbeats 2000000
/-! Dict comprehensions whose keys are pairs. -/
open PySem PySem.Spec PyProof.Rows L2 DL
namespace SH
open DL.Enc (enc)
local macro_rules | `(tactic| walk_at "k1") => `(tactic| first | walk_at "w2" | with_reducible refine w_ixP0 ?_ | with_reducible refine w_ixP1 ?_ | with_reducible refine w_lstPr ?_ | with_reducible refine w_lenK ?_ | with_reducible refine w_itK ?_ | with_reducible refine w_ixK (by assumption) ?_ | with_reducible refine w_mk1 ?_ | with_reducible refine w_mkO rfl ?_ | with_reducible refine w_modI8 ?_ | with_reducible refine w_addL (by walk_at "len") ?_ | with_reducible refine w_addT (by walk_at "len") ?_ | with_reducible refine w_ixBk (by walk_at "len") (by walk_at "len") ?_ | with_reducible refine w_lenPl ?_ | with_reducible refine w_itPl ?_ | with_reducible refine w_reprS (by assumption) (by decide) (by decide) ?_ | with_reducible refine w_neSelf ?_ | with_reducible refine w_tri0 ?_ | with_reducible refine w_tri1 ?_ | with_reducible refine w_tri2 ?_ | with_reducible refine w_appE (by walk_at "len") ?_)
local macro_rules | `(tactic| walk_at "k") => `(tactic| repeat walk_at "k1")
section
variable {g : G} {P : D → G → Prop} {E : XE} {ρ : DL.Env} {fk fv : Ep}
end
end SH
end
section
set_option Elab.async false
set_option linter.all false
set_option maxRecDepth 100000
set_option maxHeartbeats 2000000
/-! Counts: bounds, texts. -/
open PySem PySem.Spec PyProof.Rows L2 DL
namespace SH
open DL.Enc (enc)
local macro_rules | `(tactic| walk_at "k1") => `(tactic| first | walk_at "w2" | with_reducible refine w_ixP0 ?_ | with_reducible refine w_ixP1 ?_ | with_reducible refine w_lstPr ?_ | with_reducible refine w_lenK ?_ | with_reducible refine w_itK ?_ | with_reducible refine w_ixK (by assumption) ?_ | with_reducible refine w_mk1 ?_ | with_reducible refine w_mkO rfl ?_ | with_reducible refine w_modI8 ?_ | with_reducible refine w_addL (by walk_at "len") ?_ | with_reducible refine w_addT (by walk_at "len") ?_ | with_reducible refine w_ixBk (by walk_at "len") (by walk_at "len") ?_ | with_reducible refine w_lenPl ?_ | with_reducible refine w_itPl ?_ | with_reducible refine w_reprS (by assumption) (by decide) (by decide) ?_ | with_reducible refine w_neSelf ?_ | with_reducible refine w_tri0 ?_ | with_reducible refine w_tri1 ?_ | with_reducible refine w_tri2 ?_ | with_reducible refine w_appE (by walk_at "len") ?_)
local macro_rules | `(tactic| walk_at "k") => `(tactic| repeat walk_at "k1")
end SH
end
section
set_option Elab.async false
set_option linter.all false
set_option maxRecDepth 100000
set_option maxHeartbeats 2000000
/-! Selections of pairs out of plans, one by one; where something can be put, the chain ends. -/
namespace SH
open PySem PySem.Spec PyProof.Rows L2 DL
/-- pairs of some of the plans, whose persons and desks are unlike, none among A, B -/
def Sel : List Pl → List Int → List Int → Pl → Prop
  | [], _, _, S => S = []
  | q :: qs, A, B, S => Sel qs A B S ∨ ∃ p ∈ q, p.1 ∉ A ∧ p.2 ∉ B ∧ ∃ S', S = p :: S' ∧ Sel qs (A ++ [p.1]) (B ++ [p.2]) S'
theorem Sel.nil : ∀ (qs : List Pl) (A B : List Int), Sel qs A B []
  | [], _, _ => rfl
  | _ :: qs, A, B => .inl (Sel.nil qs A B)
theorem w_ifmidE {α : Type} {m1 m2 : R α} {P : α → G → Prop} {E : XE} {b : Bool} (Q : α → G → Prop) (h : if b = true then m1.all Q E else m2.all Q E) (k : ∀ d g, Q d g → P d g) : if b = true then m1.all P E else m2.all P E := by
  cases b with
  | true => exact R.all_imp h k fun _ _ _ _ h => h
  | false => exact R.all_imp h k fun _ _ _ _ h => h
end SH
end
section
set_option Elab.async false
set_option linter.all false
set_option maxRecDepth 100000
set_option maxHeartbeats 2000000
/-! Readings run: raise with a value, the field of an exception. -/
namespace DL
open PySem PySem.Spec PyProof.Rows L2
section
variable {ρ : Env} {g : G} {P : D → G → Prop} {E : XE} {nx ct bk : Env → G → Prop} {rt : D → G → Prop} {f : Ep} {x fld : Str}
theorem w_raiseV (h : (f ρ g).all (fun d g1 => E x fld [d] g1) E) : (sRaiseV x fld f ρ g).all (FP nx ct bk rt) E := by
  unfold sRaiseV
  cases q : f ρ g with
  | stuck => rw [q] at h; exact h
  | ok d g1 => rw [q] at h; exact h
  | exc c n l g1 => rw [q] at h; exact h
end
end DL
end
section
set_option Elab.async false
set_option linter.all false
set_option maxRecDepth 100000
namespace SH
open PySem PySem.Spec PyProof.Rows L2 DL
end SH
end
section
set_option Elab.async false
set_option linter.all false
set_option maxRecDepth 100000
set_option maxHeartbeats 2000000
/-! Books joined, rearranged. -/
open PySem PySem.Spec PyProof.Rows L2 DL
namespace SH
local macro_rules | `(tactic| walk_at "k1") => `(tactic| first | walk_at "w2" | with_reducible refine w_ixP0 ?_ | with_reducible refine w_ixP1 ?_ | with_reducible refine w_lstPr ?_ | with_reducible refine w_lenK ?_ | with_reducible refine w_itK ?_ | with_reducible refine w_ixK (by assumption) ?_ | with_reducible refine w_mk1 ?_ | with_reducible refine w_mkO rfl ?_ | with_reducible refine w_modI8 ?_ | with_reducible refine w_addL (by walk_at "len") ?_ | with_reducible refine w_addT (by walk_at "len") ?_ | with_reducible refine w_ixBk (by walk_at "len") (by walk_at "len") ?_ | with_reducible refine w_lenPl ?_ | with_reducible refine w_itPl ?_ | with_reducible refine w_reprS (by assumption) (by decide) (by decide) ?_ | with_reducible refine w_neSelf ?_ | with_reducible refine w_tri0 ?_ | with_reducible refine w_tri1 ?_ | with_reducible refine w_tri2 ?_ | with_reducible refine w_appE (by walk_at "len") ?_)
local macro_rules | `(tactic| walk_at "k") => `(tactic| repeat walk_at "k1")
local macro_rules | `(tactic| walk_at "q1") => `(tactic| first | walk_at "k1" | with_reducible refine w_raiseV ?_)
local macro_rules | `(tactic| walk_at "q") => `(tactic| repeat walk_at "q1")
section
variable {g : G} {P : D → G → Prop} {E : XE} {b c : List Pl} {d d2 : D} {o : List Int}
end
end SH
end
section
set_option Elab.async false
set_option linter.all false
set_option maxRecDepth 100000
set_option maxHeartbeats 2000000
/-! Pairs put to picks; picks without plans. -/
open PySem PySem.Spec PyProof.Rows L2 DL
namespace SH
local macro_rules | `(tactic| walk_at "k1") => `(tactic| first | walk_at "w2" | with_reducible refine w_ixP0 ?_ | with_reducible refine w_ixP1 ?_ | with_reducible refine w_lstPr ?_ | with_reducible refine w_lenK ?_ | with_reducible refine w_itK ?_ | with_reducible refine w_ixK (by assumption) ?_ | with_reducible refine w_mk1 ?_ | with_reducible refine w_mkO rfl ?_ | with_reducible refine w_modI8 ?_ | with_reducible refine w_addL (by walk_at "len") ?_ | with_reducible refine w_addT (by walk_at "len") ?_ | with_reducible refine w_ixBk (by walk_at "len") (by walk_at "len") ?_ | with_reducible refine w_lenPl ?_ | with_reducible refine w_itPl ?_ | with_reducible refine w_reprS (by assumption) (by decide) (by decide) ?_ | with_reducible refine w_neSelf ?_ | with_reducible refine w_tri0 ?_ | with_reducible refine w_tri1 ?_ | with_reducible refine w_tri2 ?_ | with_reducible refine w_appE (by walk_at "len") ?_)
local macro_rules | `(tactic| walk_at "k") => `(tactic| repeat walk_at "k1")
local macro_rules | `(tactic| walk_at "q1") => `(tactic| first | walk_at "k1" | with_reducible refine w_raiseV ?_)
local macro_rules | `(tactic| walk_at "q") => `(tactic| repeat walk_at "q1")
section
variable {g : G} {P : D → G → Prop} {E : XE} {b : List Pl} {t : Tk} {d d2 d3 d4 : D} {n : Int} {p : Pr}
end
end SH
end
section
set_option Elab.async false
set_option linter.all false
set_option maxRecDepth 100000
set_option maxHeartbeats 2000000
/-! Readings run: calls with looked-at arguments whose results are tuples of plain values. -/
namespace DL
open PySem PySem.Spec PyProof.Rows L2
section
variable {ρ : Env} {g : G} {P : D → G → Prop} {E : XE} {fs : Es} {m : M D} {cf : List D → M D}
theorem w_setUL {nx ct bk : Env → G → Prop} {rt : D → G → Prop} {fa fe : Ep} {i : Nat} {l : List D} (ho : ρ[i]? = some (some (true, .lst l)))
    (h : (fe ρ g).all (fun d g1 => (fa ρ g1).all (fun k g2 => ∃ j : Nat, k = .int (j : Int) ∧ j < l.length ∧ nx (ρ.set i (some (true, .lst (l.set j d)))) g2) E) E) : (sSetU i fa fe ρ g).all (FP nx ct bk rt) E := by
  have e : ownD ρ i = none := by unfold ownD; rw [ho]
  have e1 : ownL ρ i = some l := by unfold ownL; rw [ho]
  have e2 : sSetU i fa fe ρ g = sSetIx i fa fe ρ g := by unfold sSetU; rw [e]
  rw [e2]
  unfold sSetIx
  refine w_bind (R.all_imp h (fun d g1 h => ?_) fun _ _ _ _ h => h)
  rw [e1]
  refine w_bind (w_opt (op_some rfl ?_))
  refine w_bind (R.all_imp h (fun k g2 h => ?_) fun _ _ _ _ h => h)
  obtain ⟨j, rfl, hj, h⟩ := h
  show (((ofOpt (ixN l.length (j : Int)) : M Nat).bind fun j => M.pure (Fl.nx (ρ.set i (some (true, .lst (l.set j d)))))) g2).all _ E
  have q : ixN l.length (j : Int) = some j := by
    unfold ixN
    rw [if_pos (by omega), if_pos (by omega), Int.toNat_natCast]
  rw [q]
  exact h
end
end DL
end
section
set_option Elab.async false
set_option linter.all false
set_option maxRecDepth 100000
namespace SH
open PySem PySem.Spec PyProof.Rows L2 DL
end SH
end
section
set_option Elab.async false
set_option linter.all false
set_option maxRecDepth 100000
set_option maxHeartbeats 2000000
/-! Rings and lone books as they are drawn, longer plans. -/
open PySem PySem.Spec PyProof.Rows L2 DL
namespace SH
open DL.Enc (enc)
local macro_rules | `(tactic| walk_at "k1") => `(tactic| first | walk_at "w2" | with_reducible refine w_ixP0 ?_ | with_reducible refine w_ixP1 ?_ | with_reducible refine w_lstPr ?_ | with_reducible refine w_lenK ?_ | with_reducible refine w_itK ?_ | with_reducible refine w_ixK (by assumption) ?_ | with_reducible refine w_mk1 ?_ | with_reducible refine w_mkO rfl ?_ | with_reducible refine w_modI8 ?_ | with_reducible refine w_addL (by walk_at "len") ?_ | with_reducible refine w_addT (by walk_at "len") ?_ | with_reducible refine w_ixBk (by walk_at "len") (by walk_at "len") ?_ | with_reducible refine w_lenPl ?_ | with_reducible refine w_itPl ?_ | with_reducible refine w_reprS (by assumption) (by decide) (by decide) ?_ | with_reducible refine w_neSelf ?_ | with_reducible refine w_tri0 ?_ | with_reducible refine w_tri1 ?_ | with_reducible refine w_tri2 ?_ | with_reducible refine w_appE (by walk_at "len") ?_)
local macro_rules | `(tactic| walk_at "k") => `(tactic| repeat walk_at "k1")
local macro_rules | `(tactic| walk_at "q1") => `(tactic| first | walk_at "k1" | with_reducible refine w_raiseV ?_)
local macro_rules | `(tactic| walk_at "q") => `(tactic| repeat walk_at "q1")
mutual
theorem tupy_ints : ∀ l : List Int, D.tupys (l.map D.int) = true
  | [] => rfl
  | i :: l => by rw [List.map_cons, D.tupys, Bool.and_eq_true]; exact ⟨rfl, tupy_ints l⟩
end
/-- the desks moved on by one -/
def rot1 (Y : List Int) : List Int := Y.drop 1 ++ Y.take 1
theorem rot1_perm (Y : List Int) : (rot1 Y).Perm Y := List.perm_append_comm.trans (List.Perm.of_eq (List.take_append_drop 1 Y))
/-- a ring of k persons and desks -/
structure RowM (k : Nat) (X Y : List Int) : Prop where
  lx : X.length = k
  ly : Y.length = k
  nx : X.Nodup
  ny : Y.Nodup
  rx : ∀ i ∈ X, 0 ≤ i ∧ i < (8 : Int)
  ry : ∀ i ∈ Y, 0 ≤ i ∧ i < (8 : Int)
theorem RowM.one {k : Nat} {X Y : List Int} (h : RowM k X Y) : PlanM 8 (sortP (X.zip Y)) := plan_zip h.nx h.ny h.rx h.ry
theorem RowM.two {k : Nat} {X Y : List Int} (h : RowM k X Y) : PlanM 8 (sortP (X.zip (rot1 Y))) := plan_zip h.nx ((rot1_perm Y).nodup_iff.mpr h.ny) h.rx fun i hi => h.ry i ((rot1_perm Y).mem_iff.mp hi)
section
variable {g : G} {P : D → G → Prop} {E : XE} {d : D} {m k : Nat} {X Y : List Int}
/-- the lone book of a ring: one of the two plans at these numbers, the other elsewhere -/
def loneB (X Y N : List Int) (n : Nat) : List Pl := (rangeI n).map fun i => if i ∈ N then sortP (X.zip Y) else sortP (X.zip (rot1 Y))
theorem loneB_len (X Y N : List Int) (n : Nat) : (loneB X Y N n).length = n := by unfold loneB; rw [List.length_map, rangeI_len]
end
end SH
end
section
set_option Elab.async false
set_option linter.all false
set_option maxRecDepth 100000
set_option maxHeartbeats 2000000
/-! Close books as they are drawn. -/
open PySem PySem.Spec PyProof.Rows L2 DL
namespace SH
open DL.Enc (enc)
local macro_rules | `(tactic| walk_at "k1") => `(tactic| first | walk_at "w2" | with_reducible refine w_ixP0 ?_ | with_reducible refine w_ixP1 ?_ | with_reducible refine w_lstPr ?_ | with_reducible refine w_lenK ?_ | with_reducible refine w_itK ?_ | with_reducible refine w_ixK (by assumption) ?_ | with_reducible refine w_mk1 ?_ | with_reducible refine w_mkO rfl ?_ | with_reducible refine w_modI8 ?_ | with_reducible refine w_addL (by walk_at "len") ?_ | with_reducible refine w_addT (by walk_at "len") ?_ | with_reducible refine w_ixBk (by walk_at "len") (by walk_at "len") ?_ | with_reducible refine w_lenPl ?_ | with_reducible refine w_itPl ?_ | with_reducible refine w_reprS (by assumption) (by decide) (by decide) ?_ | with_reducible refine w_neSelf ?_ | with_reducible refine w_tri0 ?_ | with_reducible refine w_tri1 ?_ | with_reducible refine w_tri2 ?_ | with_reducible refine w_appE (by walk_at "len") ?_)
local macro_rules | `(tactic| walk_at "k") => `(tactic| repeat walk_at "k1")
local macro_rules | `(tactic| walk_at "q1") => `(tactic| first | walk_at "k1" | with_reducible refine w_raiseV ?_)
local macro_rules | `(tactic| walk_at "q") => `(tactic| repeat walk_at "q1")
section
variable {g : G} {P : D → G → Prop} {E : XE} {d : D} {m k : Nat}
/-- 2 k - 2 plans -/
structure CloseM (k : Nat) (B : List Pl) : Prop where
  len : B.length + 2 = 2 * k
  pl : ∀ ps ∈ B, PlanM 8 ps
theorem CloseM.set {B : List Pl} {ps : Pl} {j : Nat} (h : CloseM k B) (hp : PlanM 8 ps) : CloseM k (B.set j ps) := ⟨by rw [List.length_set]; exact h.len, fun qs hq => by
  rcases List.mem_or_eq_of_mem_set hq with hq | rfl
  · exact h.pl qs hq
  · exact hp⟩
end
end SH
end
section
set_option Elab.async false
set_option linter.all false
set_option maxRecDepth 100000
set_option maxHeartbeats 2000000
/-! Close and full books judged. -/
open PySem PySem.Spec PyProof.Rows L2 DL
namespace SH
open DL.Enc (enc)
local macro_rules | `(tactic| walk_at "k1") => `(tactic| first | walk_at "w2" | with_reducible refine w_ixP0 ?_ | with_reducible refine w_ixP1 ?_ | with_reducible refine w_lstPr ?_ | with_reducible refine w_lenK ?_ | with_reducible refine w_itK ?_ | with_reducible refine w_ixK (by assumption) ?_ | with_reducible refine w_mk1 ?_ | with_reducible refine w_mkO rfl ?_ | with_reducible refine w_modI8 ?_ | with_reducible refine w_addL (by walk_at "len") ?_ | with_reducible refine w_addT (by walk_at "len") ?_ | with_reducible refine w_ixBk (by walk_at "len") (by walk_at "len") ?_ | with_reducible refine w_lenPl ?_ | with_reducible refine w_itPl ?_ | with_reducible refine w_reprS (by assumption) (by decide) (by decide) ?_ | with_reducible refine w_neSelf ?_ | with_reducible refine w_tri0 ?_ | with_reducible refine w_tri1 ?_ | with_reducible refine w_tri2 ?_ | with_reducible refine w_appE (by walk_at "len") ?_)
local macro_rules | `(tactic| walk_at "k") => `(tactic| repeat walk_at "k1")
local macro_rules | `(tactic| walk_at "q1") => `(tactic| first | walk_at "k1" | with_reducible refine w_raiseV ?_)
local macro_rules | `(tactic| walk_at "q") => `(tactic| repeat walk_at "q1")
section
variable {g : G} {P : D → G → Prop} {E : XE} {d : D} {m k : Nat} {b : List Pl}
end
end SH
end
section
set_option Elab.async false
set_option linter.all false
set_option maxRecDepth 100000
set_option maxHeartbeats 2000000
/-! Rings, plain: a lone book has no pick of as many pairs as its ring has persons. -/
open PySem PySem.Spec PyProof.Rows L2 DL
namespace SH
/-- the next one on the ring -/
def nx (k i : Nat) : Nat := if i + 1 = k then 0 else i + 1
theorem nx_ne {k i : Nat} (h2 : 2 ≤ k) (h : i < k) : nx k i ≠ i := by unfold nx; split <;> omega
theorem rot1_get {Y : List Int} {i : Nat} (h : i < Y.length) : (rot1 Y)[i]? = Y[nx Y.length i]? := by
  unfold rot1 nx
  split
  · rename_i e
    rw [List.getElem?_append_right (by rw [List.length_drop]; omega), List.length_drop, List.getElem?_take, if_pos (by omega)]
    rw [show i - (Y.length - 1) = 0 by omega]
  · rw [List.getElem?_append_left (by rw [List.length_drop]; omega), List.getElem?_drop, Nat.add_comm]
/-- the pair at the i-th person of one plan, of the other -/
structure PairAt (X Y : List Int) (i : Nat) (o : Bool) (p : Pr) : Prop where
  lt : i < X.length
  x : X[i]? = some p.1
  y : Y[if o = true then nx X.length i else i]? = some p.2
theorem mem_one {k : Nat} {X Y : List Int} (h : RowM k X Y) {p : Pr} (hp : p ∈ sortP (X.zip Y)) : ∃ i, PairAt X Y i false p := by
  obtain ⟨i, hi⟩ := List.mem_iff_getElem?.mp ((sortP_perm _).mem_iff.mp hp)
  obtain ⟨x, y, e⟩ : ∃ x y, p = (x, y) := ⟨p.1, p.2, rfl⟩
  subst e
  obtain ⟨h1, h2⟩ := List.getElem?_zip_eq_some.mp hi
  exact ⟨i, (List.getElem?_eq_some_iff.mp h1).1, h1, h2⟩
theorem mem_two {k : Nat} {X Y : List Int} (h : RowM k X Y) {p : Pr} (hp : p ∈ sortP (X.zip (rot1 Y))) : ∃ i, PairAt X Y i true p := by
  obtain ⟨i, hi⟩ := List.mem_iff_getElem?.mp ((sortP_perm _).mem_iff.mp hp)
  obtain ⟨x, y, e⟩ : ∃ x y, p = (x, y) := ⟨p.1, p.2, rfl⟩
  subst e
  obtain ⟨h1, h2⟩ := List.getElem?_zip_eq_some.mp hi
  have lt := (List.getElem?_eq_some_iff.mp h1).1
  refine ⟨i, lt, h1, ?_⟩
  rw [rot1_get (by rw [h.ly, ← h.lx]; exact lt), h.ly, ← h.lx] at h2
  exact h2
theorem nd_idx {X : List Int} (nd : X.Nodup) {i j : Nat} {x : Int} (hi : X[i]? = some x) (hj : X[j]? = some x) : i = j := by
  obtain ⟨h1, e1⟩ := List.getElem?_eq_some_iff.mp hi
  obtain ⟨h2, e2⟩ := List.getElem?_eq_some_iff.mp hj
  exact (List.getElem_inj nd).mp (e1.trans e2.symm)
theorem PairAt.same {k : Nat} {X Y : List Int} (h : RowM k X Y) {i : Nat} {o : Bool} {p q : Pr} (a : PairAt X Y i o p) (b : PairAt X Y i o q) : p = q := by
  have e1 := a.x.symm.trans b.x
  have e2 := a.y.symm.trans b.y
  exact Prod.ext (Option.some.inj e1) (Option.some.inj e2)
theorem PairAt.apart {k : Nat} {X Y : List Int} (h : RowM k X Y) (h2 : 2 ≤ k) {i j : Nat} {p : Pr} (a : PairAt X Y i false p) (b : PairAt X Y j true p) : False := by
  have e := nd_idx h.nx a.x b.x
  subst e
  have e := nd_idx h.ny a.y b.y
  exact nx_ne (k := X.length) (by rw [h.lx]; exact h2) a.lt (show nx X.length i = i from e.symm)
theorem down_to {Q : Nat → Prop} {m : Nat} (st : ∀ i, i + 1 ≤ m → Q (i + 1) → Q i) : ∀ (n j : Nat), j + n = m → Q m → Q j
  | 0, j, e, h => by rw [show j = m by omega]; exact h
  | n + 1, j, e, h => st j (by omega) (down_to st n (j + 1) (by omega) h)
theorem around {Q : Nat → Prop} {k : Nat} (st : ∀ i, i < k → Q (nx k i) → Q i) {i j : Nat} (hi : i < k) (hj : j < k) (h : Q i) : Q j := by
  have s : ∀ m, m < k → ∀ i, i + 1 ≤ m → Q (i + 1) → Q i := fun m hm i hi hq => st i (by omega) (by unfold nx; rw [if_neg (by omega)]; exact hq)
  have q0 : Q 0 := down_to (m := i) (s i hi) i 0 (by omega) h
  have ql : Q (k - 1) := st (k - 1) (by omega) (by unfold nx; rw [if_pos (by omega)]; exact q0)
  exact down_to (m := k - 1) (s (k - 1) (by omega)) (k - 1 - j) j (by omega) ql
theorem loneB_get {X Y N : List Int} {n : Nat} {i : Int} (h0 : 0 ≤ i) (h1 : i < n) : (loneB X Y N n).getD i.toNat [] = if i ∈ N then sortP (X.zip Y) else sortP (X.zip (rot1 Y)) := by
  unfold loneB rangeI
  rw [List.map_map, List.getD_eq_getElem?_getD, List.getElem?_map, List.getElem?_range (by omega)]
  show (if ((i.toNat : Nat) : Int) ∈ N then _ else _) = _
  rw [show ((i.toNat : Nat) : Int) = i by omega]
/-- no pick of a lone book has as many pairs as there are persons -/
theorem no_full {k : Nat} {X Y N : List Int} {t : Tk} (h : RowM k X Y) (h2 : 2 ≤ k) (nN : N.Nodup) (lN : N.length + 1 = k) (rN : ∀ i ∈ N, 0 ≤ i ∧ i < ((2 * k - 2 : Nat) : Int)) (ht : PickM (loneB X Y N (2 * k - 2)) t) : t.length + 1 ≤ k := by
  by_cases hk : k ≤ t.length
  case neg => omega
  exfalso
  have ap := ht.apt
  have key : ∀ e ∈ t, (0 ≤ e.1 ∧ e.1 < ((2 * k - 2 : Nat) : Int)) ∧ ((e.1 ∈ N ∧ ∃ i, PairAt X Y i false e.2) ∨ (e.1 ∉ N ∧ ∃ i, PairAt X Y i true e.2)) := fun e he => by
    obtain ⟨h0, h1, hm⟩ := ht.key e he
    rw [loneB_len] at h1
    rw [loneB_get h0 h1] at hm
    refine ⟨⟨h0, h1⟩, ?_⟩
    by_cases hn : e.1 ∈ N
    · rw [if_pos hn] at hm
      exact .inl ⟨hn, mem_one h hm⟩
    · rw [if_neg hn] at hm
      exact .inr ⟨hn, mem_two h hm⟩
  have inX : ∀ p ∈ persT t, p ∈ X := fun p hp => by
    obtain ⟨e, he, rfl⟩ := List.mem_map.mp hp
    rcases (key e he).2 with ⟨_, i, a⟩ | ⟨_, i, a⟩ <;> exact List.mem_of_getElem? a.x
  have all : ∀ i, i < k → ∃ e ∈ t, ∃ o, PairAt X Y i o e.2 ∧ (o = false → e.1 ∈ N) ∧ (o = true → e.1 ∉ N) := fun i hi => by
    have hx : X[i]? = some (X[i]'(by rw [h.lx]; exact hi)) := List.getElem?_eq_getElem _
    generalize X[i]'(by rw [h.lx]; exact hi) = x at hx
    have hm : x ∈ persT t := by
      by_cases hn : x ∈ persT t
      · exact hn
      · have nd : (x :: persT t).Nodup := List.nodup_cons.mpr ⟨hn, ap.p⟩
        have := nodup_len (m := X) nd fun y hy => by
          rcases List.mem_cons.mp hy with rfl | hy
          · exact List.mem_of_getElem? hx
          · exact inX y hy
        rw [List.length_cons, h.lx] at this
        unfold persT at this
        rw [List.length_map] at this
        omega
    obtain ⟨e, he, ee⟩ := List.mem_map.mp hm
    rcases (key e he).2 with ⟨hn, j, a⟩ | ⟨hn, j, a⟩
    · have ej := nd_idx h.nx a.x (show X[i]? = some e.2.1 by rw [hx]; exact congrArg some ee.symm)
      subst ej
      exact ⟨e, he, false, a, fun _ => hn, fun w => (nomatch w)⟩
    · have ej := nd_idx h.nx a.x (show X[i]? = some e.2.1 by rw [hx]; exact congrArg some ee.symm)
      subst ej
      exact ⟨e, he, true, a, fun w => (nomatch w), fun _ => hn⟩
  have uniq : ∀ {i : Nat} {o : Bool} {e e' : Int × Pr}, e ∈ t → e' ∈ t → PairAt X Y i o e.2 → ∀ {o' : Bool}, PairAt X Y i o' e'.2 → e = e' := fun he he' a _ b =>
    nodup_inj (f := fun e => e.2.1) ap.p he he' (Option.some.inj (a.x.symm.trans b.x))
  let Q : Nat → Prop := fun i => ∃ e ∈ t, PairAt X Y i false e.2
  have st : ∀ i, i < k → Q (nx k i) → Q i := fun i hi ⟨e', he', a'⟩ => by
    obtain ⟨e, he, o, a, _⟩ := all i hi
    cases o with
    | false => exact ⟨e, he, a⟩
    | true =>
      have ed : e.2.2 = e'.2.2 := by
        have y1 := a.y
        have y2 := a'.y
        rw [if_pos rfl, h.lx] at y1
        rw [if_neg (by decide)] at y2
        exact Option.some.inj (y1.symm.trans y2)
      have ee := nodup_inj (f := fun e => e.2.2) ap.d he he' ed
      subst ee
      exact absurd (nd_idx h.nx a'.x a.x) (nx_ne h2 hi)
  by_cases hq : ∃ i, i < k ∧ Q i
  · obtain ⟨i, hi, q⟩ := hq
    have keys : ∀ x ∈ t.map (·.1), x ∈ N := fun x hx => by
      obtain ⟨e, he, rfl⟩ := List.mem_map.mp hx
      rcases (key e he).2 with ⟨hn, _⟩ | ⟨hn, j, a⟩
      · exact hn
      · obtain ⟨e', he', a'⟩ := around st hi (by rw [← h.lx]; exact a.lt) q
        have ee := uniq he he' a a'
        subst ee
        exact (a'.apart h h2 a).elim
    have := nodup_len ht.nd keys
    rw [List.length_map] at this
    omega
  · have keys : ∀ x ∈ t.map (·.1), x ∈ (rangeI (2 * k - 2)).filter fun i => !decide (i ∈ N) := fun x hx => by
      obtain ⟨e, he, rfl⟩ := List.mem_map.mp hx
      refine List.mem_filter.mpr ⟨mem_rangeI.mpr (key e he).1, ?_⟩
      rcases (key e he).2 with ⟨hn, j, a⟩ | ⟨hn, _⟩
      · exact absurd ⟨j, by rw [← h.lx]; exact a.lt, e, he, a⟩ hq
      · rw [decide_eq_false hn]; rfl
    have l1 := nodup_len ht.nd keys
    have l2 := filter_split (fun i => decide (i ∈ N)) (rangeI (2 * k - 2))
    have l3 : N.length ≤ ((rangeI (2 * k - 2)).filter fun i => decide (i ∈ N)).length := nodup_len nN fun x hx => List.mem_filter.mpr ⟨mem_rangeI.mpr (rN x hx), decide_eq_true hx⟩
    rw [rangeI_len] at l2
    rw [List.length_map] at l1
    omega
end SH
end
section
set_option Elab.async false
set_option linter.all false
set_option maxRecDepth 100000
set_option maxHeartbeats 2000000
/-! Plain: how many lots of pairs stand apart. -/
open PySem PySem.Spec PyProof.Rows L2 DL
namespace SH
def compat (x y : Pr) : Bool := decide (x.1 ≠ y.1) && decide (x.2 ≠ y.2)
def cbs (f : List Pr → Nat) : List Pr → Nat
  | [] => 1
  | x :: l => cbs f l + f (l.filter (compat x))
/-- how many lots of at most s pairs stand apart -/
def cb : Nat → List Pr → Nat
  | 0 => fun _ => 1
  | s + 1 => cbs (cb s)
end SH
end
section
set_option Elab.async false
set_option linter.all false
set_option maxRecDepth 100000
set_option maxHeartbeats 2000000
/-! Plain: the pairs of a ring beside a person and a desk. -/
open PySem PySem.Spec PyProof.Rows L2 DL
namespace SH
end SH
end
section
set_option Elab.async false
set_option linter.all false
set_option maxRecDepth 100000
set_option maxHeartbeats 2000000
/-! Plain: what is spared of a ring. -/
open PySem PySem.Spec PyProof.Rows L2 DL
namespace SH
end SH
end
section
set_option Elab.async false
set_option linter.all false
set_option maxRecDepth 100000
namespace SH
open PySem PySem.Spec PyProof.Rows L2 DL
end SH
end
section
set_option Elab.async false
set_option linter.all false
set_option maxRecDepth 100000
set_option maxHeartbeats 2000000
/-! The two plans of a lone book, all plans of a size, what is spared. -/
open PySem PySem.Spec PyProof.Rows L2 DL
namespace SH
open DL.Enc (enc)
local macro_rules | `(tactic| walk_at "k1") => `(tactic| first | walk_at "w2" | with_reducible refine w_ixP0 ?_ | with_reducible refine w_ixP1 ?_ | with_reducible refine w_lstPr ?_ | with_reducible refine w_lenK ?_ | with_reducible refine w_itK ?_ | with_reducible refine w_ixK (by assumption) ?_ | with_reducible refine w_mk1 ?_ | with_reducible refine w_mkO rfl ?_ | with_reducible refine w_modI8 ?_ | with_reducible refine w_addL (by walk_at "len") ?_ | with_reducible refine w_addT (by walk_at "len") ?_ | with_reducible refine w_ixBk (by walk_at "len") (by walk_at "len") ?_ | with_reducible refine w_lenPl ?_ | with_reducible refine w_itPl ?_ | with_reducible refine w_reprS (by assumption) (by decide) (by decide) ?_ | with_reducible refine w_neSelf ?_ | with_reducible refine w_tri0 ?_ | with_reducible refine w_tri1 ?_ | with_reducible refine w_tri2 ?_ | with_reducible refine w_appE (by walk_at "len") ?_)
local macro_rules | `(tactic| walk_at "k") => `(tactic| repeat walk_at "k1")
local macro_rules | `(tactic| walk_at "q1") => `(tactic| first | walk_at "k1" | with_reducible refine w_raiseV ?_)
local macro_rules | `(tactic| walk_at "q") => `(tactic| repeat walk_at "q1")
section
variable {g : G} {P : D → G → Prop} {E : XE} {d : D} {m k : Nat} {b : List Pl} {one other : Pl}
end
end SH
end
section
set_option Elab.async false
set_option linter.all false
set_option maxRecDepth 100000
set_option maxHeartbeats 2000000
/-! Lone books: their two plans, what is spared of them. -/
open PySem PySem.Spec PyProof.Rows L2 DL
namespace SH
open DL.Enc (enc)
local macro_rules | `(tactic| walk_at "k1") => `(tactic| first | walk_at "w2" | with_reducible refine w_ixP0 ?_ | with_reducible refine w_ixP1 ?_ | with_reducible refine w_lstPr ?_ | with_reducible refine w_lenK ?_ | with_reducible refine w_itK ?_ | with_reducible refine w_ixK (by assumption) ?_ | with_reducible refine w_mk1 ?_ | with_reducible refine w_mkO rfl ?_ | with_reducible refine w_modI8 ?_ | with_reducible refine w_addL (by walk_at "len") ?_ | with_reducible refine w_addT (by walk_at "len") ?_ | with_reducible refine w_ixBk (by walk_at "len") (by walk_at "len") ?_ | with_reducible refine w_lenPl ?_ | with_reducible refine w_itPl ?_ | with_reducible refine w_reprS (by assumption) (by decide) (by decide) ?_ | with_reducible refine w_neSelf ?_ | with_reducible refine w_tri0 ?_ | with_reducible refine w_tri1 ?_ | with_reducible refine w_tri2 ?_ | with_reducible refine w_appE (by walk_at "len") ?_)
local macro_rules | `(tactic| walk_at "k") => `(tactic| repeat walk_at "k1")
local macro_rules | `(tactic| walk_at "q1") => `(tactic| first | walk_at "k1" | with_reducible refine w_raiseV ?_)
local macro_rules | `(tactic| walk_at "q") => `(tactic| repeat walk_at "q1")
/-- a lone book as it is drawn -/
structure LoneM (k : Nat) (X Y N : List Int) : Prop where
  row : RowM k X Y
  h2 : 2 ≤ k
  h8 : k ≤ 8
  nN : N.Nodup
  lN : N.length + 1 = k
  rN : ∀ i ∈ N, 0 ≤ i ∧ i < ((2 * k - 2 : Nat) : Int)
abbrev loneK (k : Nat) (X Y N : List Int) : List Pl := loneB X Y N (2 * k - 2)
abbrev oneA (X Y : List Int) : Pl := sortP (X.zip Y)
abbrev twoA (X Y : List Int) : Pl := sortP (X.zip (rot1 Y))
/-- the plan at number nought, the other one -/
def oneL (X Y N : List Int) : Pl := if (0 : Int) ∈ N then oneA X Y else twoA X Y
def twoL (X Y N : List Int) : Pl := if (0 : Int) ∈ N then twoA X Y else oneA X Y
section
variable {g : G} {P : D → G → Prop} {E : XE} {d : D} {m k : Nat} {X Y N : List Int}
theorem LoneM.len (h : LoneM k X Y N) : (loneK k X Y N).length + 2 = 2 * k := by rw [loneB_len]; have := h.h2; omega
theorem LoneM.l1 (h : LoneM k X Y N) : (oneA X Y).length = k := by rw [(sortP_perm _).length_eq, List.length_zip, h.row.lx, h.row.ly]; omega
theorem LoneM.l2 (h : LoneM k X Y N) : (twoA X Y).length = k := by rw [(sortP_perm _).length_eq, List.length_zip, (rot1_perm Y).length_eq, h.row.lx, h.row.ly]; omega
theorem LoneM.un (h : LoneM k X Y N) {p : Pr} (h1 : p ∈ oneA X Y) (h2 : p ∈ twoA X Y) : False := by
  obtain ⟨i, a⟩ := mem_one h.row h1
  obtain ⟨j, b⟩ := mem_two h.row h2
  exact a.apart h.row h.h2 b
theorem LoneM.ne (h : LoneM k X Y N) : oneA X Y ≠ twoA X Y := fun e => by
  have hl := h.l1
  cases q : oneA X Y with
  | nil => rw [q, List.length_nil] at hl; have := h.h2; omega
  | cons p r => exact h.un (p := p) (by rw [q]; exact List.mem_cons_self) (by rw [← e, q]; exact List.mem_cons_self)
theorem LoneM.at (h : LoneM k X Y N) {i : Int} (h0 : 0 ≤ i) (h1 : i < ((2 * k - 2 : Nat) : Int)) : (loneK k X Y N).getD i.toNat [] = if i ∈ N then oneA X Y else twoA X Y := loneB_get h0 h1
theorem LoneM.first (h : LoneM k X Y N) : (loneK k X Y N)[0]? = some (oneL X Y N) := by
  have := h.at (i := 0) (Int.le_refl _) (by have := h.h2; omega)
  rw [List.getD_eq_getElem?_getD] at this
  have l : 0 < (loneK k X Y N).length := by have := h.len; have := h.h2; omega
  rw [List.getElem?_eq_getElem l]
  rw [show (0 : Int).toNat = 0 from rfl, List.getElem?_eq_getElem l] at this
  exact congrArg some this
theorem LoneM.mem (h : LoneM k X Y N) : ∀ ps ∈ loneK k X Y N, ps = oneL X Y N ∨ ps = twoL X Y N := fun ps hps => by
  obtain ⟨i, _, rfl⟩ := List.mem_map.mp hps
  unfold oneL twoL
  by_cases hi : i ∈ N
  · rw [if_pos hi]
    split
    · exact .inl rfl
    · exact .inr rfl
  · rw [if_neg hi]
    split
    · exact .inr rfl
    · exact .inl rfl
/-- how many stand beside the N -/
theorem LoneM.other (h : LoneM k X Y N) : ((rangeI (2 * k - 2)).filter fun i => !decide (i ∈ N)).length + 1 = k := by
  have l2 := filter_split (fun i => decide (i ∈ N)) (rangeI (2 * k - 2))
  have l3 : N.length ≤ ((rangeI (2 * k - 2)).filter fun i => decide (i ∈ N)).length := nodup_len h.nN fun x hx => List.mem_filter.mpr ⟨mem_rangeI.mpr (h.rN x hx), decide_eq_true hx⟩
  have l4 : ((rangeI (2 * k - 2)).filter fun i => decide (i ∈ N)).length ≤ N.length := nodup_len (List.filter_sublist.nodup (rangeI_nodup _)) fun x hx => of_decide_eq_true (List.mem_filter.mp hx).2
  have l5 := h.lN
  have l6 := h.h2
  rw [rangeI_len] at l2
  omega
theorem LoneM.two (h : LoneM k X Y N) : ∃ ps ∈ loneK k X Y N, ps ≠ oneL X Y N := by
  by_cases h0 : (0 : Int) ∈ N
  · have l := h.other
    have : ∃ i, i ∈ (rangeI (2 * k - 2)).filter fun i => !decide (i ∈ N) := by
      cases q : (rangeI (2 * k - 2)).filter fun i => !decide (i ∈ N) with
      | nil => rw [q, List.length_nil] at l; have := h.h2; omega
      | cons i r => exact ⟨i, List.mem_cons_self⟩
    obtain ⟨i, hi⟩ := this
    obtain ⟨h1, h2⟩ := List.mem_filter.mp hi
    have hn : i ∉ N := by simpa using h2
    refine ⟨twoA X Y, List.mem_map.mpr ⟨i, h1, by rw [if_neg hn]⟩, ?_⟩
    unfold oneL
    rw [if_pos h0]
    exact fun e => h.ne e.symm
  · have : ∃ i, i ∈ N := by
      cases q : N with
      | nil => have l := h.lN; rw [q, List.length_nil] at l; have := h.h2; omega
      | cons i r => exact ⟨i, List.mem_cons_self⟩
    obtain ⟨i, hi⟩ := this
    refine ⟨oneA X Y, List.mem_map.mpr ⟨i, mem_rangeI.mpr (h.rN i hi), by rw [if_pos hi]⟩, ?_⟩
    unfold oneL
    rw [if_neg h0]
    exact h.ne
end
end SH
end
section
set_option Elab.async false
set_option linter.all false
set_option maxRecDepth 100000
set_option maxHeartbeats 2000000
/-! Lone books: a greatest pick as it is dealt. -/
open PySem PySem.Spec PyProof.Rows L2 DL
namespace SH
open DL.Enc (enc)
local macro_rules | `(tactic| walk_at "k1") => `(tactic| first | walk_at "w2" | with_reducible refine w_ixP0 ?_ | with_reducible refine w_ixP1 ?_ | with_reducible refine w_lstPr ?_ | with_reducible refine w_lenK ?_ | with_reducible refine w_itK ?_ | with_reducible refine w_ixK (by assumption) ?_ | with_reducible refine w_mk1 ?_ | with_reducible refine w_mkO rfl ?_ | with_reducible refine w_modI8 ?_ | with_reducible refine w_addL (by walk_at "len") ?_ | with_reducible refine w_addT (by walk_at "len") ?_ | with_reducible refine w_ixBk (by walk_at "len") (by walk_at "len") ?_ | with_reducible refine w_lenPl ?_ | with_reducible refine w_itPl ?_ | with_reducible refine w_reprS (by assumption) (by decide) (by decide) ?_ | with_reducible refine w_neSelf ?_ | with_reducible refine w_tri0 ?_ | with_reducible refine w_tri1 ?_ | with_reducible refine w_tri2 ?_ | with_reducible refine w_appE (by walk_at "len") ?_)
local macro_rules | `(tactic| walk_at "k") => `(tactic| repeat walk_at "k1")
local macro_rules | `(tactic| walk_at "q1") => `(tactic| first | walk_at "k1" | with_reducible refine w_raiseV ?_)
local macro_rules | `(tactic| walk_at "q") => `(tactic| repeat walk_at "q1")
section
variable {g : G} {P : D → G → Prop} {E : XE} {d : D} {m k : Nat} {X Y N : List Int}
theorem LoneM.inX (h : LoneM k X Y N) {p : Pr} (hp : p ∈ oneL X Y N ∨ p ∈ twoL X Y N) : p.1 ∈ X ∧ p.2 ∈ Y := by
  have key : p ∈ oneA X Y ∨ p ∈ twoA X Y := by
    unfold oneL twoL at hp
    split at hp
    · exact hp
    · exact hp.symm
  rcases key with hp | hp
  · obtain ⟨i, a⟩ := mem_one h.row hp
    exact ⟨List.mem_of_getElem? a.x, List.mem_of_getElem? a.y⟩
  · obtain ⟨i, a⟩ := mem_two h.row hp
    exact ⟨List.mem_of_getElem? a.x, List.mem_of_getElem? a.y⟩
/-- the numbers of the plans that have a pair: as many as one fewer than the persons -/
theorem LoneM.room (h : LoneM k X Y N) {p : Pr} (hp : p ∈ oneL X Y N ∨ p ∈ twoL X Y N) {t : Tk} (hl : t.length + 1 < k) : ∃ n, n ∈ (rangeI (2 * k - 2)).filter fun n => decide (p ∈ (loneK k X Y N).getD n.toNat []) && !decide (n ∈ t.map (·.1)) := by
  have key : p ∈ oneA X Y ∨ p ∈ twoA X Y := by
    unfold oneL twoL at hp
    split at hp
    · exact hp
    · exact hp.symm
  have main : ∀ S : List Int, S.Nodup → S.length + 1 = k → (∀ n ∈ S, (0 ≤ n ∧ n < ((2 * k - 2 : Nat) : Int)) ∧ p ∈ (loneK k X Y N).getD n.toNat []) → ∃ n, n ∈ (rangeI (2 * k - 2)).filter fun n => decide (p ∈ (loneK k X Y N).getD n.toNat []) && !decide (n ∈ t.map (·.1)) := fun S nd lS hS => by
    by_cases hx : ∃ n ∈ S, n ∉ t.map (·.1)
    · obtain ⟨n, hn, hu⟩ := hx
      have hq := hS n hn
      exact ⟨n, List.mem_filter.mpr ⟨mem_rangeI.mpr hq.1, by rw [decide_eq_true hq.2, decide_eq_false hu]; rfl⟩⟩
    · have := nodup_len (m := t.map (·.1)) nd fun n hn => by
        by_cases hu : n ∈ t.map (·.1)
        · exact hu
        · exact absurd ⟨n, hn, hu⟩ hx
      rw [List.length_map] at this
      omega
  rcases key with hp | hp
  · refine main N h.nN h.lN fun n hn => ⟨h.rN n hn, ?_⟩
    rw [h.at (h.rN n hn).1 (h.rN n hn).2, if_pos hn]
    exact hp
  · refine main _ (List.filter_sublist.nodup (rangeI_nodup _)) h.other fun n hn => ?_
    obtain ⟨h1, h2⟩ := List.mem_filter.mp hn
    have h1 := mem_rangeI.mp h1
    have h3 : n ∉ N := by simpa using h2
    refine ⟨h1, ?_⟩
    rw [h.at h1.1 h1.2, if_neg h3]
    exact hp
end
end SH
end
section
set_option Elab.async false
set_option linter.all false
set_option maxRecDepth 100000
set_option maxHeartbeats 2000000
/-! Lone books, plain: how far their picks grow. -/
open PySem PySem.Spec PyProof.Rows L2 DL
namespace SH
section
variable {k : Nat} {X Y N : List Int} {t : Tk} {o : List Int}
theorem LoneM.most (h : LoneM k X Y N) (ht : PickM (loneK k X Y N) t) : t.length + 1 ≤ k := no_full h.row h.h2 h.nN h.lN h.rN ht
end
end SH
end
section
set_option Elab.async false
set_option linter.all false
set_option maxRecDepth 100000
set_option maxHeartbeats 2000000
/-! Lone books with one plan more, plain. -/
open PySem PySem.Spec PyProof.Rows L2 DL
namespace SH
section
variable {k : Nat} {X Y N : List Int} {t : Tk} {q : Pl}
end
end SH
end
section
set_option Elab.async false
set_option linter.all false
set_option maxRecDepth 100000
set_option maxHeartbeats 2000000
/-! Rules of x.index(y), x.count(y), of calls of a name that holds a def. -/
namespace DL
open PySem PySem.Spec PyProof.Rows L2
open DL.Enc (enc)
/-- of a row, as it is -/
def RowP (P : D → G → Prop) (d : D) (g : G) : Prop := match d with
  | .lst l => P (.lst l) g
  | .tup l => P (.tup l) g
  | _ => False
theorem w_rwL {P : D → G → Prop} {l : List D} {g : G} (h : P (.lst l) g) : RowP P (.lst l) g := h
theorem w_rwT {P : D → G → Prop} {l : List D} {g : G} (h : P (.tup l) g) : RowP P (.tup l) g := h
section
variable {ρ : Env} {g : G} {P : D → G → Prop} {E : XE} {fo fx fv : Ep} {fs : Es}
theorem w_row {op : D → D → Option D} (h : (fo ρ g).all (RowP fun c g1 => (fx ρ g1).all (fun x g2 => OpP (op c x) P g2) E) E) : (eRow op fo fx ρ g).all P E := by
  refine w_bind (R.all_imp h (fun c g1 h => ?_) fun _ _ _ _ h => h)
  cases c <;> first | exact h.elim | skip
  · exact w_bind (w_opt (op_some (show rowL (.tup _) = some _ from rfl) (w_bind (R.all_imp (show (fx ρ g1).all _ E from h) (fun _ _ h => w_opt h) fun _ _ _ _ h => h))))
  · exact w_bind (w_opt (op_some (show rowL (.lst _) = some _ from rfl) (w_bind (R.all_imp (show (fx ρ g1).all _ E from h) (fun _ _ h => w_opt h) fun _ _ _ _ h => h))))
theorem w_callV {T : List (Str × (List D → M D))} (h : (fv ρ g).all (fun d g1 => OpP (fnT T d) (fun cf g2 => (fs ρ g2).all (fun ds g3 => (cf ds g3).all P E) E) g1) E) : (eCallV T fv fs ρ g).all P E := by
  refine w_bind (R.all_imp h (fun d g1 h => ?_) fun _ _ _ _ h => h)
  cases q : fnT T d with
  | none => rw [q] at h; exact h.elim
  | some cf =>
    rw [q] at h
    exact w_bind (w_opt (op_some rfl (w_bind h)))
end
section
variable {α : Type} [DecidableEq α] [Enc α]
end
section
variable {g : G} {P : D → G → Prop}
end
end DL
end
section
set_option Elab.async false
set_option linter.all false
set_option maxRecDepth 100000
namespace SH
open PySem PySem.Spec PyProof.Rows L2 DL
end SH
end
section
set_option Elab.async false
set_option linter.all false
set_option maxRecDepth 100000
set_option maxHeartbeats 2000000
/-! Books by other names, turned. -/
open PySem PySem.Spec PyProof.Rows L2 DL
namespace SH
local macro_rules | `(tactic| walk_at "k1") => `(tactic| first | walk_at "w2" | with_reducible refine w_ixP0 ?_ | with_reducible refine w_ixP1 ?_ | with_reducible refine w_lstPr ?_ | with_reducible refine w_lenK ?_ | with_reducible refine w_itK ?_ | with_reducible refine w_ixK (by assumption) ?_ | with_reducible refine w_mk1 ?_ | with_reducible refine w_mkO rfl ?_ | with_reducible refine w_modI8 ?_ | with_reducible refine w_addL (by walk_at "len") ?_ | with_reducible refine w_addT (by walk_at "len") ?_ | with_reducible refine w_ixBk (by walk_at "len") (by walk_at "len") ?_ | with_reducible refine w_lenPl ?_ | with_reducible refine w_itPl ?_ | with_reducible refine w_reprS (by assumption) (by decide) (by decide) ?_ | with_reducible refine w_neSelf ?_ | with_reducible refine w_tri0 ?_ | with_reducible refine w_tri1 ?_ | with_reducible refine w_tri2 ?_ | with_reducible refine w_appE (by walk_at "len") ?_)
local macro_rules | `(tactic| walk_at "k") => `(tactic| repeat walk_at "k1")
local macro_rules | `(tactic| walk_at "q1") => `(tactic| first | walk_at "k1" | with_reducible refine w_raiseV ?_)
local macro_rules | `(tactic| walk_at "q") => `(tactic| repeat walk_at "q1")
local macro_rules | `(tactic| walk_at "r1") => `(tactic| first | walk_at "q1" | with_reducible refine w_row ?_ | with_reducible refine w_rwL ?_ | with_reducible refine w_rwT ?_ | with_reducible refine w_callV ?_ | (with_reducible show OpP (gT _ _ _) _ _; with_reducible refine op_some (by with_unfolding_all exact rfl) ?_))
local macro_rules | `(tactic| walk_at "r") => `(tactic| repeat walk_at "r1")
/-! ### new numbers, plain -/
abbrev P8 (p : List Int) : Prop := p.Perm (rangeI 8)
theorem P8.len {p : List Int} (h : P8 p) : p.length = 8 := by rw [h.length_eq, rangeI_len]
theorem P8.nd {p : List Int} (h : P8 p) : p.Nodup := h.nodup_iff.mpr (rangeI_nodup 8)
theorem P8.rng {p : List Int} (h : P8 p) {x : Int} (hx : x ∈ p) : 0 ≤ x ∧ x < 8 := mem_rangeI.mp (h.mem_iff.mp hx)
theorem P8.mem {p : List Int} (h : P8 p) {x : Int} (h0 : 0 ≤ x) (h8 : x < 8) : x ∈ p := h.mem_iff.mpr (mem_rangeI.mpr ⟨h0, h8⟩)
theorem getD_map {b : List Pl} {f : Pl → Pl} {i : Nat} (h : i < b.length) : (b.map f).getD i [] = f (b.getD i []) := by
  rw [List.getD_eq_getElem?_getD, List.getD_eq_getElem?_getD, List.getElem?_map, List.getElem?_eq_getElem h]
  rfl
/-- a pick with its pairs changed -/
def rePk (f : Pr → Pr) (t : List (Int × Pr)) : List (Int × Pr) := t.map fun e => (e.1, f e.2)
theorem rePk_keys (f : Pr → Pr) (t : List (Int × Pr)) : (rePk f t).map (·.1) = t.map (·.1) := by unfold rePk; rw [List.map_map]; rfl
theorem rePk_vals (f : Pr → Pr) (t : List (Int × Pr)) : (rePk f t).map (·.2) = (t.map (·.2)).map f := by unfold rePk; rw [List.map_map, List.map_map]; rfl
theorem PickM.re {b : List Pl} {t : List (Int × Pr)} {F : Pl → Pl} {f : Pr → Pr} (hb : BookM b) (h : PickM b t) (hF : ∀ ps, ∀ x ∈ ps, f x ∈ F ps) (hap : ∀ ps : Pl, (∀ x ∈ ps, 0 ≤ x.1 ∧ x.1 < 8 ∧ 0 ≤ x.2 ∧ x.2 < 8) → apart ps = true → apart (ps.map f) = true) : PickM (b.map F) (rePk f t) := by
  refine ⟨by rw [rePk_keys]; exact h.nd, fun e he => ?_, ?_⟩
  · obtain ⟨e', he', rfl⟩ := List.mem_map.mp he
    obtain ⟨h0, h1, h2⟩ := h.key e' he'
    refine ⟨h0, by rw [List.length_map]; exact h1, ?_⟩
    show f e'.2 ∈ (b.map F).getD e'.1.toNat []
    rw [getD_map (by omega)]
    exact hF _ _ h2
  · rw [rePk_vals]
    refine hap _ (fun x hx => ?_) h.ap
    obtain ⟨e, he, rfl⟩ := List.mem_map.mp hx
    obtain ⟨h0, h1, h2⟩ := h.key e he
    exact (hb.at _).rng _ h2
theorem apart_iff {ps : Pl} : apart ps = true ↔ (ps.map (·.1)).Nodup ∧ (ps.map (·.2)).Nodup := by
  unfold apart
  rw [Bool.and_eq_true, decide_eq_true_eq, decide_eq_true_eq]
theorem apart_sw (ps : Pl) (h : apart ps = true) : apart (ps.map sw) = true := by
  obtain ⟨h1, h2⟩ := apart_iff.mp h
  refine apart_iff.mpr ⟨?_, ?_⟩
  · rw [List.map_map]; exact h2
  · rw [List.map_map]; exact h1
theorem PickM.turn {b : List Pl} {t : List (Int × Pr)} (hb : BookM b) (h : PickM b t) : PickM (b.map turnP) (rePk sw t) :=
  h.re hb (fun ps x hx => (sortP_perm _).mem_iff.mpr (List.mem_map.mpr ⟨x, hx, rfl⟩)) fun ps _ ha => apart_sw ps ha
section
variable {g : G} {P : D → G → Prop} {E : XE} {b : List Pl} {p q : List Int} {d d1 d2 : D}
end
end SH
end
section
set_option Elab.async false
set_option linter.all false
set_option maxRecDepth 100000
set_option maxHeartbeats 2000000
/-! What is sure, in other sequences, with plans more; picks grown to it. -/
open PySem PySem.Spec PyProof.Rows L2 DL
namespace SH
local macro_rules | `(tactic| walk_at "k1") => `(tactic| first | walk_at "w2" | with_reducible refine w_ixP0 ?_ | with_reducible refine w_ixP1 ?_ | with_reducible refine w_lstPr ?_ | with_reducible refine w_lenK ?_ | with_reducible refine w_itK ?_ | with_reducible refine w_ixK (by assumption) ?_ | with_reducible refine w_mk1 ?_ | with_reducible refine w_mkO rfl ?_ | with_reducible refine w_modI8 ?_ | with_reducible refine w_addL (by walk_at "len") ?_ | with_reducible refine w_addT (by walk_at "len") ?_ | with_reducible refine w_ixBk (by walk_at "len") (by walk_at "len") ?_ | with_reducible refine w_lenPl ?_ | with_reducible refine w_itPl ?_ | with_reducible refine w_reprS (by assumption) (by decide) (by decide) ?_ | with_reducible refine w_neSelf ?_ | with_reducible refine w_tri0 ?_ | with_reducible refine w_tri1 ?_ | with_reducible refine w_tri2 ?_ | with_reducible refine w_appE (by walk_at "len") ?_)
local macro_rules | `(tactic| walk_at "k") => `(tactic| repeat walk_at "k1")
local macro_rules | `(tactic| walk_at "q1") => `(tactic| first | walk_at "k1" | with_reducible refine w_raiseV ?_)
local macro_rules | `(tactic| walk_at "q") => `(tactic| repeat walk_at "q1")
local macro_rules | `(tactic| walk_at "r1") => `(tactic| first | walk_at "q1" | with_reducible refine w_row ?_ | with_reducible refine w_rwL ?_ | with_reducible refine w_rwT ?_ | with_reducible refine w_callV ?_ | (with_reducible show OpP (gT _ _ _) _ _; with_reducible refine op_some (by with_unfolding_all exact rfl) ?_))
local macro_rules | `(tactic| walk_at "r") => `(tactic| repeat walk_at "r1")
/-- the list of grow: picks, the last one as great as is sure -/
structure GrownM (b : List Pl) (t : Tk) (fs pre : List Tk) (z : Tk) : Prop where
  eq : fs = pre ++ [z]
  all : ∀ u ∈ fs, PickM b u
  last : sureZ b ≤ z.length
  len : z.length = t.length + pre.length
section
variable {g : G} {P : D → G → Prop} {E : XE} {b : List Pl} {t : Tk}
end
end SH
end
section
set_option Elab.async false
set_option linter.all false
set_option maxRecDepth 100000
set_option maxHeartbeats 2000000
/-! Wide chains, in plain Lean: the links, when they end, the way back. -/
open PySem PySem.Spec PyProof.Rows L2 DL
namespace SH
/-- links of whatever kind: R, which of two comes ahead -/
structure LG (b : List Pl) (t f : Tk) (R : Int × Pr → Int × Pr → Prop) : Prop where
  un : ∀ x ∈ f, x.1 ∈ unusedI b t ∧ x.2 ∈ b.getD x.1.toNat []
  dn : (deskT f).Nodup
  rc : ∀ pre x post, f = pre ++ x :: post → x.2.1 ∈ rest8 (persT t) ∨ ∃ y ∈ pre, R y x ∧ y.2.2 ∈ deskT t ∧ holder t y.2.2 = x.2.1
  tr : ∀ x y z, R x y → R y z → R x z
  ne : ∀ x y, R x y → x.1 ≠ y.1
/-- what is found going back -/
structure BkG (t f acc : Tk) (R : Int × Pr → Int × Pr → Prop) (n : Nat) : Prop where
  ex : ∃ pre x post rest, f = pre ++ x :: post ∧ acc = x :: rest ∧ rest.Sublist post ∧ pre.length < n
  wk : Walk t acc
  pw : acc.Pairwise R
section
variable {b : List Pl} {t f acc : Tk} {R : Int × Pr → Int × Pr → Prop} {n : Nat}
theorem BkG.step (a : Ap t) (h : LG b t f R) (k : BkG t f acc R (n + 1)) {x : Int × Pr} {rest : Tk} (e : acc = x :: rest) (hx : x.2.1 ∈ persT t) :
    (∃ y ∈ f, y.2.2 = deskOf t x.2.1) ∧ BkG t f (linkAt f (deskOf t x.2.1) :: acc) R n := by
  obtain ⟨pre, x', post, rest', e1, e2, e3, e4⟩ := k.ex
  rw [e] at e2
  obtain ⟨rfl, rfl⟩ := List.cons.inj e2
  rcases h.rc pre x post e1 with w | ⟨y, hy, hR, hd, hh⟩
  · exact absurd hx (mem_rest8 w).2.2
  · have ed : deskOf t x.2.1 = y.2.2 := by rw [← hh]; exact (holder_mem a hd).2
    have yf : y ∈ f := by rw [e1]; exact List.mem_append_left _ hy
    refine ⟨⟨y, yf, ed.symm⟩, ?_⟩
    rw [ed, linkAt_mem h.dn yf]
    obtain ⟨p1, p2, rfl⟩ := List.append_of_mem hy
    have pw := k.pw
    rw [e] at pw
    refine ⟨⟨p1, y, p2 ++ x :: post, acc, by rw [e1, List.append_assoc]; rfl, rfl, ?_, ?_⟩, ?_, ?_⟩
    · rw [e]
      exact (e3.cons₂ x).trans (List.sublist_append_right ..)
    · rw [List.length_append, List.length_cons] at e4
      omega
    · rw [e]
      exact ⟨⟨hx, ed⟩, e ▸ k.wk⟩
    · rw [e]
      refine List.pairwise_cons.mpr ⟨fun z hz => ?_, pw⟩
      rcases List.mem_cons.mp hz with rfl | hz
      · exact hR
      · exact h.tr _ _ _ hR ((List.pairwise_cons.mp pw).1 z hz)
end
/-- ahead in the order -/
def Ahd (O : List Int) (x y : Int × Pr) : Prop := O.idxOf x.1 < O.idxOf y.1
/-- links found so far, of the plans p ahead in the order -/
structure Lw (b : List Pl) (t : Tk) (O p : List Int) (f : Tk) : Prop where
  un : ∀ x ∈ f, x.1 ∈ p ∧ x.1 ∈ unusedI b t ∧ x.2 ∈ b.getD x.1.toNat []
  dn : (deskT f).Nodup
  rc : ∀ pre x post, f = pre ++ x :: post → x.2.1 ∈ rest8 (persT t) ∨ ∃ y ∈ pre, Ahd O y x ∧ y.2.2 ∈ deskT t ∧ holder t y.2.2 = x.2.1
theorem append_split {α : Type} {f w : List α} {pre : List α} {x : α} {post : List α} (e : f ++ w = pre ++ x :: post) : (∃ post', f = pre ++ x :: post') ∨ ∃ pre', pre = f ++ pre' ∧ w = pre' ++ x :: post := by
  rcases List.append_eq_append_iff.mp e with ⟨a, h1, h2⟩ | ⟨c, h1, h2⟩
  · exact .inr ⟨a, h1, h2⟩
  · cases c with
    | nil =>
      rw [List.append_nil] at h1
      exact .inr ⟨[], by rw [List.append_nil]; exact h1.symm, h2.symm⟩
    | cons y c =>
      injection h2 with h2 h3
      subst h2
      exact .inl ⟨c, h1⟩
/-- the plan of the number n told -/
theorem Lw.more {b : List Pl} {t : Tk} {O p : List Int} {f w : Tk} {n : Int} (hb : BookM b) (h : Lw b t O p f) (hO : ∃ q, O = p ++ n :: q) (nO : O.Nodup) (hn : n ∈ unusedI b t) (sub : w.Sublist ((b.getD n.toNat []).map fun x => (n, x)))
    (hd : ∀ x ∈ w, x.2.2 ∉ deskT f) (hr : ∀ x ∈ w, x.2.1 ∈ rest8 (persT t) ∨ ∃ y ∈ f, y.2.2 ∈ deskT t ∧ holder t y.2.2 = x.2.1) : Lw b t O (p ++ [n]) (f ++ w) := by
  obtain ⟨q, hO⟩ := hO
  have hw : ∀ x ∈ w, x.1 = n ∧ x.2 ∈ b.getD n.toNat [] := fun x hx => by
    obtain ⟨y, hy, rfl⟩ := List.mem_map.mp (sub.subset hx)
    exact ⟨rfl, hy⟩
  refine ⟨fun x hx => ?_, ?_, fun pre x post e => ?_⟩
  · rcases List.mem_append.mp hx with hx | hx
    · obtain ⟨h1, h2⟩ := h.un x hx
      exact ⟨List.mem_append_left _ h1, h2⟩
    · obtain ⟨h1, h2⟩ := hw x hx
      rw [h1]
      exact ⟨List.mem_append_right _ List.mem_cons_self, hn, h2⟩
  · unfold deskT
    rw [List.map_append, List.nodup_append]
    refine ⟨h.dn, (sub.map _).nodup ?_, fun x hx y hy e => ?_⟩
    · rw [List.map_map]
      exact (hb.at _).nd
    · obtain ⟨z, hz, rfl⟩ := List.mem_map.mp hy
      rw [e] at hx
      exact hd z hz hx
  · rcases append_split e with ⟨post', e1⟩ | ⟨pre', e1, e2⟩
    · exact h.rc pre x post' e1
    · have hx : x ∈ w := by rw [e2]; exact List.mem_append_right _ List.mem_cons_self
      rcases hr x hx with w1 | ⟨y, hy, h1, h2⟩
      · exact .inl w1
      · refine .inr ⟨y, by rw [e1]; exact List.mem_append_left _ hy, ?_, h1, h2⟩
        unfold Ahd
        have hp := (h.un y hy).1
        rw [(hw x hx).1, hO, List.idxOf_append, if_pos hp]
        have hnp : n ∉ p := fun w2 => by
          rw [hO] at nO
          exact (List.nodup_append.mp nO).2.2 n w2 n List.mem_cons_self rfl
        rw [List.idxOf_append, if_neg hnp, List.idxOf_cons_self]
        have := List.idxOf_lt_length_iff.mpr hp
        omega
/-- what the links come to -/
structure Lws (b : List Pl) (t : Tk) (O : List Int) (r : Tk × Bool) : Prop where
  lk : Lw b t O O r.1
  last : r.2 = true → ∃ pre x, r.1 = pre ++ [x] ∧ x.2.2 ∉ deskT t ∧ ∀ y ∈ pre, y.2.2 ∈ deskT t
  all : r.2 = false → ∀ y ∈ r.1, y.2.2 ∈ deskT t
theorem Lw.mono {b : List Pl} {t : Tk} {O p q : List Int} {f : Tk} (h : Lw b t O p f) (hs : ∀ x ∈ p, x ∈ q) : Lw b t O q f := ⟨fun x hx => ⟨hs _ (h.un x hx).1, (h.un x hx).2⟩, h.dn, h.rc⟩
theorem BkG.start {b : List Pl} {t : Tk} {O : List Int} {r : Tk × Bool} (h : Lws b t O r) (he : r.2 = true) : ∃ pre x, r.1 = pre ++ [x] ∧ BkG t r.1 [x] (Ahd O) (pre.length + 1) := by
  obtain ⟨pre, x, e1, e2, e3⟩ := h.last he
  exact ⟨pre, x, e1, ⟨pre, x, [], [], e1, rfl, List.Sublist.slnil, Nat.lt_succ_self _⟩, e2, List.pairwise_singleton ..⟩
end SH
end
section
set_option Elab.async false
set_option linter.all false
set_option maxRecDepth 100000
namespace SH
open PySem PySem.Spec PyProof.Rows L2 DL
end SH
end
section
set_option Elab.async false
set_option linter.all false
set_option maxRecDepth 100000
set_option maxHeartbeats 2000000
/-! Wide chains: links, ways, what is grown. -/
open PySem PySem.Spec PyProof.Rows L2 DL
namespace SH
open DL.Enc (enc)
local macro_rules | `(tactic| walk_at "k1") => `(tactic| first | walk_at "w2" | with_reducible refine w_ixP0 ?_ | with_reducible refine w_ixP1 ?_ | with_reducible refine w_lstPr ?_ | with_reducible refine w_lenK ?_ | with_reducible refine w_itK ?_ | with_reducible refine w_ixK (by assumption) ?_ | with_reducible refine w_mk1 ?_ | with_reducible refine w_mkO rfl ?_ | with_reducible refine w_modI8 ?_ | with_reducible refine w_addL (by walk_at "len") ?_ | with_reducible refine w_addT (by walk_at "len") ?_ | with_reducible refine w_ixBk (by walk_at "len") (by walk_at "len") ?_ | with_reducible refine w_lenPl ?_ | with_reducible refine w_itPl ?_ | with_reducible refine w_reprS (by assumption) (by decide) (by decide) ?_ | with_reducible refine w_neSelf ?_ | with_reducible refine w_tri0 ?_ | with_reducible refine w_tri1 ?_ | with_reducible refine w_tri2 ?_ | with_reducible refine w_appE (by walk_at "len") ?_)
local macro_rules | `(tactic| walk_at "k") => `(tactic| repeat walk_at "k1")
local macro_rules | `(tactic| walk_at "q1") => `(tactic| first | walk_at "k1" | with_reducible refine w_raiseV ?_)
local macro_rules | `(tactic| walk_at "q") => `(tactic| repeat walk_at "q1")
local macro_rules | `(tactic| walk_at "r1") => `(tactic| first | walk_at "q1" | with_reducible refine w_row ?_ | with_reducible refine w_rwL ?_ | with_reducible refine w_rwT ?_ | with_reducible refine w_callV ?_ | (with_reducible show OpP (gT _ _ _) _ _; with_reducible refine op_some (by with_unfolding_all exact rfl) ?_))
local macro_rules | `(tactic| walk_at "r") => `(tactic| repeat walk_at "r1")
section
variable {g : G} {P : D → G → Prop} {E : XE} {d d2 : D} {m : Nat} {b : List Pl} {t : Tk} {ρ : DL.Env} {o : List Int}
end
end SH
end
section
set_option Elab.async false
set_option linter.all false
set_option maxRecDepth 100000
set_option maxHeartbeats 2000000
/-! Wide chains, ends, ways, what is grown. -/
open PySem PySem.Spec PyProof.Rows L2 DL
namespace SH
open DL.Enc (enc)
local macro_rules | `(tactic| walk_at "k1") => `(tactic| first | walk_at "w2" | with_reducible refine w_ixP0 ?_ | with_reducible refine w_ixP1 ?_ | with_reducible refine w_lstPr ?_ | with_reducible refine w_lenK ?_ | with_reducible refine w_itK ?_ | with_reducible refine w_ixK (by assumption) ?_ | with_reducible refine w_mk1 ?_ | with_reducible refine w_mkO rfl ?_ | with_reducible refine w_modI8 ?_ | with_reducible refine w_addL (by walk_at "len") ?_ | with_reducible refine w_addT (by walk_at "len") ?_ | with_reducible refine w_ixBk (by walk_at "len") (by walk_at "len") ?_ | with_reducible refine w_lenPl ?_ | with_reducible refine w_itPl ?_ | with_reducible refine w_reprS (by assumption) (by decide) (by decide) ?_ | with_reducible refine w_neSelf ?_ | with_reducible refine w_tri0 ?_ | with_reducible refine w_tri1 ?_ | with_reducible refine w_tri2 ?_ | with_reducible refine w_appE (by walk_at "len") ?_)
local macro_rules | `(tactic| walk_at "k") => `(tactic| repeat walk_at "k1")
local macro_rules | `(tactic| walk_at "q1") => `(tactic| first | walk_at "k1" | with_reducible refine w_raiseV ?_)
local macro_rules | `(tactic| walk_at "q") => `(tactic| repeat walk_at "q1")
local macro_rules | `(tactic| walk_at "r1") => `(tactic| first | walk_at "q1" | with_reducible refine w_row ?_ | with_reducible refine w_rwL ?_ | with_reducible refine w_rwT ?_ | with_reducible refine w_callV ?_ | (with_reducible show OpP (gT _ _ _) _ _; with_reducible refine op_some (by with_unfolding_all exact rfl) ?_))
local macro_rules | `(tactic| walk_at "r") => `(tactic| repeat walk_at "r1")
section
variable {g : G} {P : D → G → Prop} {E : XE} {d d2 d3 : D} {m : Nat} {b : List Pl} {t w : Tk} {ρ : DL.Env} {o : List Int}
section
variable {f : List D → M D}
end
end
end SH
end
section
set_option Elab.async false
set_option linter.all false
set_option maxRecDepth 100000
set_option maxHeartbeats 2000000
/-! The law's own wide chains. -/
open PySem PySem.Spec PyProof.Rows L2 DL
namespace SH
open DL.Enc (enc)
local macro_rules | `(tactic| walk_at "k1") => `(tactic| first | walk_at "w2" | with_reducible refine w_ixP0 ?_ | with_reducible refine w_ixP1 ?_ | with_reducible refine w_lstPr ?_ | with_reducible refine w_lenK ?_ | with_reducible refine w_itK ?_ | with_reducible refine w_ixK (by assumption) ?_ | with_reducible refine w_mk1 ?_ | with_reducible refine w_mkO rfl ?_ | with_reducible refine w_modI8 ?_ | with_reducible refine w_addL (by walk_at "len") ?_ | with_reducible refine w_addT (by walk_at "len") ?_ | with_reducible refine w_ixBk (by walk_at "len") (by walk_at "len") ?_ | with_reducible refine w_lenPl ?_ | with_reducible refine w_itPl ?_ | with_reducible refine w_reprS (by assumption) (by decide) (by decide) ?_ | with_reducible refine w_neSelf ?_ | with_reducible refine w_tri0 ?_ | with_reducible refine w_tri1 ?_ | with_reducible refine w_tri2 ?_ | with_reducible refine w_appE (by walk_at "len") ?_)
local macro_rules | `(tactic| walk_at "k") => `(tactic| repeat walk_at "k1")
local macro_rules | `(tactic| walk_at "q1") => `(tactic| first | walk_at "k1" | with_reducible refine w_raiseV ?_)
local macro_rules | `(tactic| walk_at "q") => `(tactic| repeat walk_at "q1")
local macro_rules | `(tactic| walk_at "r1") => `(tactic| first | walk_at "q1" | with_reducible refine w_row ?_ | with_reducible refine w_rwL ?_ | with_reducible refine w_rwT ?_ | with_reducible refine w_callV ?_ | (with_reducible show OpP (gT _ _ _) _ _; with_reducible refine op_some (by with_unfolding_all exact rfl) ?_))
local macro_rules | `(tactic| walk_at "r") => `(tactic| repeat walk_at "r1")
section
variable {g : G} {P : D → G → Prop} {E : XE} {d d2 q : D} {m : Nat} {b : List Pl} {t u w f : Tk} {ρ : DL.Env} {o : List Int}
end
end SH
end
section
set_option Elab.async false
set_option linter.all false
set_option maxRecDepth 100000
set_option maxHeartbeats 2000000
/-! Plans within a ring, as they are drawn. -/
open PySem PySem.Spec PyProof.Rows L2 DL
namespace SH
open DL.Enc (enc)
local macro_rules | `(tactic| walk_at "k1") => `(tactic| first | walk_at "w2" | with_reducible refine w_ixP0 ?_ | with_reducible refine w_ixP1 ?_ | with_reducible refine w_lstPr ?_ | with_reducible refine w_lenK ?_ | with_reducible refine w_itK ?_ | with_reducible refine w_ixK (by assumption) ?_ | with_reducible refine w_mk1 ?_ | with_reducible refine w_mkO rfl ?_ | with_reducible refine w_modI8 ?_ | with_reducible refine w_addL (by walk_at "len") ?_ | with_reducible refine w_addT (by walk_at "len") ?_ | with_reducible refine w_ixBk (by walk_at "len") (by walk_at "len") ?_ | with_reducible refine w_lenPl ?_ | with_reducible refine w_itPl ?_ | with_reducible refine w_reprS (by assumption) (by decide) (by decide) ?_ | with_reducible refine w_neSelf ?_ | with_reducible refine w_tri0 ?_ | with_reducible refine w_tri1 ?_ | with_reducible refine w_tri2 ?_ | with_reducible refine w_appE (by walk_at "len") ?_)
local macro_rules | `(tactic| walk_at "k") => `(tactic| repeat walk_at "k1")
local macro_rules | `(tactic| walk_at "q1") => `(tactic| first | walk_at "k1" | with_reducible refine w_raiseV ?_)
local macro_rules | `(tactic| walk_at "q") => `(tactic| repeat walk_at "q1")
local macro_rules | `(tactic| walk_at "r1") => `(tactic| first | walk_at "q1" | with_reducible refine w_row ?_ | with_reducible refine w_rwL ?_ | with_reducible refine w_rwT ?_ | with_reducible refine w_callV ?_ | (with_reducible show OpP (gT _ _ _) _ _; with_reducible refine op_some (by with_unfolding_all exact rfl) ?_))
local macro_rules | `(tactic| walk_at "r") => `(tactic| repeat walk_at "r1")
section
variable {g : G} {P : D → G → Prop} {E : XE} {d d2 q : D} {m : Nat} {b : List Pl} {t u w f : Tk} {ρ : DL.Env} {o : List Int} {ps A B : Pl}
end
end SH
end
section
set_option Elab.async false
set_option linter.all false
set_option maxRecDepth 100000
set_option maxHeartbeats 2000000
/-! Wide chains: what the law asks of them. -/
open PySem PySem.Spec PyProof.Rows L2 DL
namespace SH
open DL.Enc (enc)
local macro_rules | `(tactic| walk_at "k1") => `(tactic| first | walk_at "w2" | with_reducible refine w_ixP0 ?_ | with_reducible refine w_ixP1 ?_ | with_reducible refine w_lstPr ?_ | with_reducible refine w_lenK ?_ | with_reducible refine w_itK ?_ | with_reducible refine w_ixK (by assumption) ?_ | with_reducible refine w_mk1 ?_ | with_reducible refine w_mkO rfl ?_ | with_reducible refine w_modI8 ?_ | with_reducible refine w_addL (by walk_at "len") ?_ | with_reducible refine w_addT (by walk_at "len") ?_ | with_reducible refine w_ixBk (by walk_at "len") (by walk_at "len") ?_ | with_reducible refine w_lenPl ?_ | with_reducible refine w_itPl ?_ | with_reducible refine w_reprS (by assumption) (by decide) (by decide) ?_ | with_reducible refine w_neSelf ?_ | with_reducible refine w_tri0 ?_ | with_reducible refine w_tri1 ?_ | with_reducible refine w_tri2 ?_ | with_reducible refine w_appE (by walk_at "len") ?_)
local macro_rules | `(tactic| walk_at "k") => `(tactic| repeat walk_at "k1")
local macro_rules | `(tactic| walk_at "q1") => `(tactic| first | walk_at "k1" | with_reducible refine w_raiseV ?_)
local macro_rules | `(tactic| walk_at "q") => `(tactic| repeat walk_at "q1")
local macro_rules | `(tactic| walk_at "r1") => `(tactic| first | walk_at "q1" | with_reducible refine w_row ?_ | with_reducible refine w_rwL ?_ | with_reducible refine w_rwT ?_ | with_reducible refine w_callV ?_ | (with_reducible show OpP (gT _ _ _) _ _; with_reducible refine op_some (by with_unfolding_all exact rfl) ?_))
local macro_rules | `(tactic| walk_at "r") => `(tactic| repeat walk_at "r1")
section
variable {g : G} {P : D → G → Prop} {E : XE} {d d2 d3 q : D} {m : Nat} {b : List Pl} {t u w f : Tk} {ρ : DL.Env} {o : List Int}
end
end SH
end
section
set_option Elab.async false
set_option linter.all false
set_option maxRecDepth 100000
namespace SH
open PySem PySem.Spec PyProof.Rows L2 DL
end SH
end
section
set_option Elab.async false
set_option linter.all false
set_option maxRecDepth 100000
set_option maxHeartbeats 2000000
/-! Pieces of two plans, in plain Lean. -/
open PySem PySem.Spec PyProof.Rows L2 DL
namespace SH
/-- two persons hang together along some pairs -/
inductive Conn (L : Pl) (p : Int) : Int → Prop
  | refl : Conn L p p
  | step {q r d : Int} : Conn L p q → (q, d) ∈ L → (r, d) ∈ L → Conn L p r
section
variable {L : Pl} {p q r : Int}
theorem Conn.trans (h : Conn L p q) (k : Conn L q r) : Conn L p r := by
  induction k with
  | refl => exact h
  | step _ h1 h2 ih => exact .step ih h1 h2
theorem Conn.symm (h : Conn L p q) : Conn L q p := by
  induction h with
  | refl => exact .refl
  | step _ h1 h2 ih => exact (Conn.step .refl h2 h1).trans ih
theorem Conn.mono {M : Pl} (hs : ∀ x ∈ L, x ∈ M) (h : Conn L p q) : Conn M p q := by
  induction h with
  | refl => exact .refl
  | step _ h1 h2 ih => exact .step ih (hs _ h1) (hs _ h2)
end
/-- the piece of a person -/
structure PieceM (L : Pl) (p : Int) (P Q : List Int) : Prop where
  rp : P.Pairwise (· < ·)
  rq : Q.Pairwise (· < ·)
  mp : ∀ q, q ∈ P ↔ Conn L p q
  mq : ∀ d, d ∈ Q ↔ ∃ q, Conn L p q ∧ (q, d) ∈ L
  c1 : P.length ≤ Q.length + 1
  c2 : Q.length ≤ P.length + 1
theorem PieceM.same {L M : Pl} {p q : Int} {P Q P' Q' : List Int} (h : PieceM L p P Q) (k : PieceM M q P' Q') (e : ∀ x, x ∈ L ↔ x ∈ M) (hq : q ∈ P) : P' = P ∧ Q' = Q := by
  have c := (h.mp q).mp hq
  have c' : Conn M p q := c.mono fun x hx => (e x).mp hx
  have key : ∀ r, Conn M q r ↔ Conn L p r := fun r => ⟨fun w => c.trans (w.mono fun x hx => (e x).mpr hx), fun w => c'.symm.trans (w.mono fun x hx => (e x).mp hx)⟩
  refine ⟨rise_eq k.rp h.rp fun r => by rw [k.mp, h.mp, key], rise_eq k.rq h.rq fun d => ?_⟩
  rw [k.mq, h.mq]
  constructor
  · rintro ⟨r, h1, h2⟩
    exact ⟨r, (key r).mp h1, (e _).mpr h2⟩
  · rintro ⟨r, h1, h2⟩
    exact ⟨r, (key r).mpr h1, (e _).mp h2⟩
/-- the pairs of two plans: a person or a desk has at most two -/
structure TwoPl (L : Pl) : Prop where
  per : ∀ q, (L.filter fun x => decide (x.1 = q)).length ≤ 2
  dsk : ∀ d, (L.filter fun x => decide (x.2 = d)).length ≤ 2
/-- where the search stands: persons, desks, the line -/
structure SpM (L : Pl) (p : Int) (S T line : List Int) : Prop where
  ns : S.Nodup
  nt : T.Nodup
  nl : line.Nodup
  ps : p ∈ S
  cs : ∀ q ∈ S, Conn L p q
  ls : ∀ q ∈ line, q ∈ S
  td : ∀ d ∈ T, ∃ q ∈ S, (q, d) ∈ L
  bk : ∀ x ∈ L, x.2 ∈ T → x.1 ∈ S
  c1 : S.length ≤ T.length + 1
  st : ∀ q ∈ line, (q = p ∧ T = []) ∨ ∃ d ∈ T, (q, d) ∈ L
/-- between two turns -/
structure SpW (L : Pl) (p : Int) (S T line : List Int) : Prop where
  m : SpM L p S T line
  cl : ∀ x ∈ L, x.1 ∈ S → x.1 ∉ line → x.2 ∈ T
  c2 : T.length + line.length ≤ S.length + 1
/-- the desks of a person that are still to come -/
def todo (h : Int) (T : List Int) (xs : Pl) : Nat := (xs.filter fun x => decide (x.1 = h) && !decide (x.2 ∈ T)).length
/-- within a turn: the person h, the pairs xs to come -/
structure SpF (L : Pl) (p h : Int) (S T line : List Int) (xs : Pl) : Prop where
  ns : S.Nodup
  nt : T.Nodup
  nl : line.Nodup
  ps : p ∈ S
  hs : h ∈ S
  hl : h ∉ line
  cs : ∀ q ∈ S, Conn L p q
  ls : ∀ q ∈ line, q ∈ S
  td : ∀ d ∈ T, ∃ q ∈ S, (q, d) ∈ L
  bk : ∀ x ∈ L, x.2 ∈ T → x.1 ∈ S
  c1 : S.length ≤ T.length + 1
  st : ∀ q ∈ line, ∃ d ∈ T, (q, d) ∈ L
  cl : ∀ x ∈ L, x.1 ∈ S → x.1 ∉ line → x.2 ∈ T ∨ (x.1 = h ∧ x ∈ xs)
  c2 : T.length + line.length + todo h T xs ≤ S.length + 1
  sub : ∀ x ∈ xs, x ∈ L
end SH
end
section
set_option Elab.async false
set_option linter.all false
set_option maxRecDepth 100000
set_option maxHeartbeats 2000000
/-! Pieces of two plans: the search keeps what it is to keep. -/
open PySem PySem.Spec PyProof.Rows L2 DL
namespace SH
section
variable {L xs : Pl} {p h d : Int} {S T line : List Int} {x : Pr}
theorem filt_le {α : Type} {a b : α → Bool} : ∀ {l : List α}, (∀ x ∈ l, a x = true → b x = true) → (l.filter a).length ≤ (l.filter b).length
  | [], _ => Nat.le_refl _
  | y :: l, hs => by
    have ih := filt_le (a := a) (b := b) (l := l) fun x h => hs x (List.mem_cons_of_mem _ h)
    have hy := hs y List.mem_cons_self
    rw [List.filter_cons, List.filter_cons]
    cases e : a y with
    | true =>
      rw [hy e, if_pos rfl, if_pos rfl, List.length_cons, List.length_cons]
      omega
    | false =>
      rw [if_neg (by decide)]
      split
      · rw [List.length_cons]
        omega
      · exact ih
theorem filt_lt {α : Type} {a b : α → Bool} : ∀ {l : List α}, (∀ x ∈ l, a x = true → b x = true) → (∃ x ∈ l, b x = true ∧ a x = false) → (l.filter a).length < (l.filter b).length
  | [], _, ⟨_, h, _⟩ => nomatch h
  | y :: l, hs, ⟨x, hx, h1, h2⟩ => by
    have le := filt_le (a := a) (b := b) (l := l) fun x h => hs x (List.mem_cons_of_mem _ h)
    have hy := hs y List.mem_cons_self
    rw [List.filter_cons, List.filter_cons]
    rcases List.mem_cons.mp hx with rfl | hx
    · rw [h1, h2, if_pos rfl, if_neg (by decide), List.length_cons]
      omega
    · have ih := filt_lt (a := a) (b := b) (l := l) (fun x h => hs x (List.mem_cons_of_mem _ h)) ⟨x, hx, h1, h2⟩
      cases e : a y with
      | true =>
        rw [hy e, if_pos rfl, if_pos rfl, List.length_cons, List.length_cons]
        omega
      | false =>
        rw [if_neg (by decide)]
        split
        · rw [List.length_cons]
          omega
        · exact ih
theorem sortI_lt {l : List Int} (nd : l.Nodup) : (sortI l).Pairwise (· < ·) :=
  (List.Pairwise.and (sortI_pair l) ((sortI_perm l).nodup_iff.mpr nd)).imp fun ⟨h1, h2⟩ => by omega
theorem todo_le (t2 : TwoPl L) : todo h T L ≤ 2 := Nat.le_trans (filt_le fun x _ w => (Bool.and_eq_true_iff.mp w).1) (t2.per h)
theorem todo_one (t2 : TwoPl L) (hx : (h, d) ∈ L) (hd : d ∈ T) : todo h T L ≤ 1 := by
  have h1 := t2.per h
  have h2 : todo h T L < (L.filter fun x => decide (x.1 = h)).length := filt_lt (fun x _ w => (Bool.and_eq_true_iff.mp w).1) ⟨(h, d), hx, decide_eq_true rfl, by rw [decide_eq_true hd]; exact Bool.and_false _⟩
  omega
theorem SpW.pop (t2 : TwoPl L) (w : SpW L p S T (line ++ [h])) : SpF L p h S T line L := by
  have m := w.m
  obtain ⟨n1, n2, n3⟩ := List.nodup_append.mp m.nl
  have hl : h ∉ line := fun c => n3 h c h List.mem_cons_self rfl
  have hs : h ∈ S := m.ls h (List.mem_append_right _ List.mem_cons_self)
  have st : ∀ q ∈ line, ∃ d ∈ T, (q, d) ∈ L := fun q hq => by
    rcases m.st q (List.mem_append_left _ hq) with ⟨e1, e2⟩ | c
    · rcases m.st h (List.mem_append_right _ List.mem_cons_self) with ⟨e3, _⟩ | ⟨d, hd, _⟩
      · exact absurd (by rw [e3, ← e1]; exact hq) hl
      · rw [e2] at hd; cases hd
    · exact c
  have c2 := w.c2
  rw [List.length_append] at c2
  have e1 : ([h] : List Int).length = 1 := rfl
  refine ⟨m.ns, m.nt, n1, m.ps, hs, hl, m.cs, fun q hq => m.ls q (List.mem_append_left _ hq), m.td, m.bk, m.c1, st, fun x hx h1 h2 => ?_, ?_, fun x hx => hx⟩
  · by_cases e : x.1 = h
    · exact .inr ⟨e, hx⟩
    · exact .inl (w.cl x hx h1 fun c => by
        rcases List.mem_append.mp c with c | c
        · exact h2 c
        · exact e (List.mem_singleton.mp c))
  · rcases m.st h (List.mem_append_right _ List.mem_cons_self) with ⟨e3, e4⟩ | ⟨d, hd, hx⟩
    · have el : line = [] := by
        cases line with
        | nil => rfl
        | cons q r =>
          obtain ⟨d, hd, _⟩ := st q List.mem_cons_self
          rw [e4] at hd
          cases hd
      have := todo_le (h := h) (T := T) t2
      have : 1 ≤ S.length := List.length_pos_of_mem m.ps
      rw [e4, el] at *
      simp only [List.length_nil] at *
      omega
    · have := todo_one t2 hx hd
      omega
theorem SpF.skip (w : SpF L p h S T line (x :: xs)) (hx : ¬ (x.1 = h ∧ x.2 ∉ T)) : SpF L p h S T line xs := by
  refine { w with cl := fun y hy h1 h2 => ?_, c2 := ?_, sub := fun y hy => w.sub y (List.mem_cons_of_mem _ hy) }
  · rcases w.cl y hy h1 h2 with c | ⟨e, c⟩
    · exact .inl c
    · rcases List.mem_cons.mp c with rfl | c
      · exact .inl (Classical.byContradiction fun z => hx ⟨e, z⟩)
      · exact .inr ⟨e, c⟩
  · have := w.c2
    have : todo h T xs ≤ todo h T (x :: xs) := (List.Sublist.filter _ (List.sublist_cons_self x xs)).length_le
    omega
/-- the persons at a desk that are new -/
def moreP (L : Pl) (S : List Int) (d : Int) : List Int := (L.filter fun x => decide (x.2 = d) && !decide (x.1 ∈ S)).map (·.1)
theorem moreP_len (t2 : TwoPl L) (hx : (h, d) ∈ L) (hs : h ∈ S) : (moreP L S d).length ≤ 1 := by
  have h1 := t2.dsk d
  have h2 : (L.filter fun x => decide (x.2 = d) && !decide (x.1 ∈ S)).length < (L.filter fun x => decide (x.2 = d)).length := filt_lt (fun x _ w => (Bool.and_eq_true_iff.mp w).1) ⟨(h, d), hx, decide_eq_true rfl, by rw [decide_eq_true hs]; exact Bool.and_false _⟩
  unfold moreP
  rw [List.length_map]
  omega
theorem mem_moreP {q : Int} : q ∈ moreP L S d ↔ (q, d) ∈ L ∧ q ∉ S := by
  unfold moreP
  rw [List.mem_map]
  constructor
  · rintro ⟨x, hx, rfl⟩
    obtain ⟨h1, h2⟩ := List.mem_filter.mp hx
    obtain ⟨h3, h4⟩ := Bool.and_eq_true_iff.mp h2
    rw [Bool.not_eq_true', decide_eq_false_iff_not] at h4
    rw [← of_decide_eq_true h3]
    exact ⟨h1, h4⟩
  · rintro ⟨h1, h2⟩
    exact ⟨(q, d), List.mem_filter.mpr ⟨h1, by rw [decide_eq_true rfl, decide_eq_false h2]; rfl⟩, rfl⟩
theorem rise_nodup (l : List Int) : (riseL l).Nodup := (riseL_pair l).imp fun h e => by omega
theorem rise_len (l : List Int) : (riseL l).length ≤ l.length := nodup_len (rise_nodup l) fun x hx => mem_riseL.mp hx
theorem SpF.take (t2 : TwoPl L) (w : SpF L p h S T line ((h, d) :: xs)) (hd : d ∉ T) : SpF L p h (S ++ riseL (moreP L S d)) (T ++ [d]) (line ++ riseL (moreP L S d)) xs := by
  have hx : (h, d) ∈ L := w.sub _ List.mem_cons_self
  have mr : ∀ q, q ∈ riseL (moreP L S d) ↔ (q, d) ∈ L ∧ q ∉ S := fun q => mem_riseL.trans mem_moreP
  have lr := Nat.le_trans (rise_len (moreP L S d)) (moreP_len t2 hx w.hs)
  have nr := rise_nodup (moreP L S d)
  generalize riseL (moreP L S d) = R at mr lr nr
  have c1 := w.c1
  have c2 := w.c2
  refine ⟨List.nodup_append.mpr ⟨w.ns, nr, fun a ha b hb e => ((mr b).mp hb).2 (e ▸ ha)⟩, List.nodup_append.mpr ⟨w.nt, List.pairwise_singleton .., fun a ha b hb e => hd (by rw [← List.mem_singleton.mp hb, ← e]; exact ha)⟩,
    List.nodup_append.mpr ⟨w.nl, nr, fun a ha b hb e => ((mr b).mp hb).2 (e ▸ w.ls a ha)⟩, List.mem_append_left _ w.ps, List.mem_append_left _ w.hs, fun c => ?_, fun q hq => ?_, fun q hq => ?_, fun e he => ?_, fun y hy h1 => ?_, ?_, fun q hq => ?_, fun y hy h1 h2 => ?_, ?_, fun y hy => w.sub y (List.mem_cons_of_mem _ hy)⟩
  · rcases List.mem_append.mp c with c | c
    · exact w.hl c
    · exact ((mr h).mp c).2 w.hs
  · rcases List.mem_append.mp hq with c | c
    · exact w.cs q c
    · exact .step (w.cs h w.hs) hx ((mr q).mp c).1
  · rcases List.mem_append.mp hq with c | c
    · exact List.mem_append_left _ (w.ls q c)
    · exact List.mem_append_right _ c
  · rcases List.mem_append.mp he with c | c
    · obtain ⟨q, h1, h2⟩ := w.td e c
      exact ⟨q, List.mem_append_left _ h1, h2⟩
    · rw [List.mem_singleton.mp c]
      exact ⟨h, List.mem_append_left _ w.hs, hx⟩
  · rcases List.mem_append.mp h1 with c | c
    · exact List.mem_append_left _ (w.bk y hy c)
    · by_cases e : y.1 ∈ S
      · exact List.mem_append_left _ e
      · exact List.mem_append_right _ ((mr _).mpr ⟨by rw [← List.mem_singleton.mp c]; exact hy, e⟩)
  · rw [List.length_append, List.length_append]
    show _ + _ ≤ _ + 1 + 1
    omega
  · rcases List.mem_append.mp hq with c | c
    · obtain ⟨e, h1, h2⟩ := w.st q c
      exact ⟨e, List.mem_append_left _ h1, h2⟩
    · exact ⟨d, List.mem_append_right _ List.mem_cons_self, ((mr q).mp c).1⟩
  · rcases List.mem_append.mp h1 with c | c
    · rcases w.cl y hy c fun z => h2 (List.mem_append_left _ z) with z | ⟨z1, z2⟩
      · exact .inl (List.mem_append_left _ z)
      · rcases List.mem_cons.mp z2 with rfl | z2
        · exact .inl (List.mem_append_right _ List.mem_cons_self)
        · exact .inr ⟨z1, z2⟩
    · exact absurd (List.mem_append_right _ c) h2
  · have e1 : todo h T ((h, d) :: xs) = todo h T xs + 1 := by
      unfold todo
      rw [List.filter_cons_of_pos (by rw [decide_eq_true rfl, decide_eq_false hd]; rfl)]
      rfl
    have e2 : todo h (T ++ [d]) xs ≤ todo h T xs := by
      unfold todo
      refine List.Sublist.length_le ?_
      rw [show (xs.filter fun x => decide (x.1 = h) && !decide (x.2 ∈ T ++ [d])) = (xs.filter fun x => decide (x.1 = h) && !decide (x.2 ∈ T)).filter fun x => !decide (x.2 = d) from by
        rw [List.filter_filter]
        refine List.filter_congr fun y _ => ?_
        rw [show decide (y.2 ∈ T ++ [d]) = (decide (y.2 ∈ T) || decide (y.2 = d)) from by simp [List.mem_append]]
        cases decide (y.1 = h) <;> cases decide (y.2 ∈ T) <;> cases decide (y.2 = d) <;> rfl]
      exact List.filter_sublist
    rw [List.length_append, List.length_append, List.length_append]
    show _ + 1 + _ + _ ≤ _
    omega
theorem SpF.done (w : SpF L p h S T line []) : SpW L p S T line :=
  ⟨⟨w.ns, w.nt, w.nl, w.ps, w.cs, w.ls, w.td, w.bk, w.c1, fun q hq => .inr (w.st q hq)⟩, fun x hx h1 h2 => (w.cl x hx h1 h2).resolve_right fun c => (nomatch c.2), by have := w.c2; have e : todo h T [] = 0 := rfl; omega⟩
theorem SpW.last (w : SpW L p S T []) : PieceM L p (sortI S) (sortI T) := by
  have m := w.m
  have all : ∀ q, Conn L p q → q ∈ S := fun q c => by
    induction c with
    | refl => exact m.ps
    | step _ h1 h2 ih =>
      have hd := w.cl _ h1 ih fun z => (nomatch z)
      exact m.bk _ h2 hd
  have mS : ∀ q, q ∈ sortI S ↔ q ∈ S := fun q => (sortI_perm S).mem_iff
  have mT : ∀ q, q ∈ sortI T ↔ q ∈ T := fun q => (sortI_perm T).mem_iff
  have c2 := w.c2
  have c1 := m.c1
  refine ⟨sortI_lt m.ns, sortI_lt m.nt, fun q => (mS q).trans ⟨m.cs q, all q⟩, fun d => (mT d).trans ⟨fun hd => ?_, fun ⟨q, h1, h2⟩ => w.cl _ h2 (all q h1) fun z => (nomatch z)⟩, ?_, ?_⟩
  · obtain ⟨q, h1, h2⟩ := m.td d hd
    exact ⟨q, m.cs q h1, h2⟩
  · rw [(sortI_perm S).length_eq, (sortI_perm T).length_eq]
    exact c1
  · rw [(sortI_perm S).length_eq, (sortI_perm T).length_eq]
    simp only [List.length_nil] at c2
    omega
end
end SH
end
section
set_option Elab.async false
set_option linter.all false
set_option maxRecDepth 100000
set_option maxHeartbeats 2000000
/-! Pieces of two plans: the readings. -/
open PySem PySem.Spec PyProof.Rows L2 DL
namespace SH
open DL.Enc (enc)
local macro_rules | `(tactic| walk_at "k1") => `(tactic| first | walk_at "w2" | with_reducible refine w_ixP0 ?_ | with_reducible refine w_ixP1 ?_ | with_reducible refine w_lstPr ?_ | with_reducible refine w_lenK ?_ | with_reducible refine w_itK ?_ | with_reducible refine w_ixK (by assumption) ?_ | with_reducible refine w_mk1 ?_ | with_reducible refine w_mkO rfl ?_ | with_reducible refine w_modI8 ?_ | with_reducible refine w_addL (by walk_at "len") ?_ | with_reducible refine w_addT (by walk_at "len") ?_ | with_reducible refine w_ixBk (by walk_at "len") (by walk_at "len") ?_ | with_reducible refine w_lenPl ?_ | with_reducible refine w_itPl ?_ | with_reducible refine w_reprS (by assumption) (by decide) (by decide) ?_ | with_reducible refine w_neSelf ?_ | with_reducible refine w_tri0 ?_ | with_reducible refine w_tri1 ?_ | with_reducible refine w_tri2 ?_ | with_reducible refine w_appE (by walk_at "len") ?_)
local macro_rules | `(tactic| walk_at "k") => `(tactic| repeat walk_at "k1")
local macro_rules | `(tactic| walk_at "q1") => `(tactic| first | walk_at "k1" | with_reducible refine w_raiseV ?_)
local macro_rules | `(tactic| walk_at "q") => `(tactic| repeat walk_at "q1")
local macro_rules | `(tactic| walk_at "r1") => `(tactic| first | walk_at "q1" | with_reducible refine w_row ?_ | with_reducible refine w_rwL ?_ | with_reducible refine w_rwT ?_ | with_reducible refine w_callV ?_ | (with_reducible show OpP (gT _ _ _) _ _; with_reducible refine op_some (by with_unfolding_all exact rfl) ?_))
local macro_rules | `(tactic| walk_at "r") => `(tactic| repeat walk_at "r1")
section
variable {g : G} {P' : D → G → Prop} {E : XE} {A B L xs : Pl} {p h d : Int} {S T line : List Int}
theorem per_len (h : ∀ q ∈ S, 0 ≤ q ∧ q < (8 : Int)) (nd : S.Nodup) : S.length ≤ 8 := by
  have := nodup_len (m := rangeI 8) nd fun q hq => mem_rangeI.mpr (h q hq)
  rwa [rangeI_len] at this
end
end SH
end
section
set_option Elab.async false
set_option linter.all false
set_option maxRecDepth 100000
set_option maxHeartbeats 2000000
/-! Pieces of two plans: their kinds, all of them. -/
open PySem PySem.Spec PyProof.Rows L2 DL
namespace SH
open DL.Enc (enc)
local macro_rules | `(tactic| walk_at "k1") => `(tactic| first | walk_at "w2" | with_reducible refine w_ixP0 ?_ | with_reducible refine w_ixP1 ?_ | with_reducible refine w_lstPr ?_ | with_reducible refine w_lenK ?_ | with_reducible refine w_itK ?_ | with_reducible refine w_ixK (by assumption) ?_ | with_reducible refine w_mk1 ?_ | with_reducible refine w_mkO rfl ?_ | with_reducible refine w_modI8 ?_ | with_reducible refine w_addL (by walk_at "len") ?_ | with_reducible refine w_addT (by walk_at "len") ?_ | with_reducible refine w_ixBk (by walk_at "len") (by walk_at "len") ?_ | with_reducible refine w_lenPl ?_ | with_reducible refine w_itPl ?_ | with_reducible refine w_reprS (by assumption) (by decide) (by decide) ?_ | with_reducible refine w_neSelf ?_ | with_reducible refine w_tri0 ?_ | with_reducible refine w_tri1 ?_ | with_reducible refine w_tri2 ?_ | with_reducible refine w_appE (by walk_at "len") ?_)
local macro_rules | `(tactic| walk_at "k") => `(tactic| repeat walk_at "k1")
local macro_rules | `(tactic| walk_at "q1") => `(tactic| first | walk_at "k1" | with_reducible refine w_raiseV ?_)
local macro_rules | `(tactic| walk_at "q") => `(tactic| repeat walk_at "q1")
local macro_rules | `(tactic| walk_at "r1") => `(tactic| first | walk_at "q1" | with_reducible refine w_row ?_ | with_reducible refine w_rwL ?_ | with_reducible refine w_rwT ?_ | with_reducible refine w_callV ?_ | (with_reducible show OpP (gT _ _ _) _ _; with_reducible refine op_some (by with_unfolding_all exact rfl) ?_))
local macro_rules | `(tactic| walk_at "r") => `(tactic| repeat walk_at "r1")
section
variable {g : G} {P' : D → G → Prop} {E : XE} {A B L xs : Pl} {p h d : Int} {S T line P Q : List Int} {ρ : DL.Env} {f : Ep} {d' d2 d3 : D}
/-- what a piece is as pieces tells it -/
structure PcM (A B : Pl) (e : List Int × List Int × Str) : Prop where
  pc : ∃ p, p ∈ (A ++ B).map (·.1) ∧ PieceM (A ++ B) p e.1 e.2.1
  ring : e.2.2 = "ring" → e.1.length = e.2.1.length ∧ 2 ≤ e.1.length
end
end SH
end
section
set_option Elab.async false
set_option linter.all false
set_option maxRecDepth 100000
set_option maxHeartbeats 2000000
/-! Swaps: what the law asks of them; two plans as they are drawn. -/
open PySem PySem.Spec PyProof.Rows L2 DL
namespace SH
open DL.Enc (enc)
local macro_rules | `(tactic| walk_at "k1") => `(tactic| first | walk_at "w2" | with_reducible refine w_ixP0 ?_ | with_reducible refine w_ixP1 ?_ | with_reducible refine w_lstPr ?_ | with_reducible refine w_lenK ?_ | with_reducible refine w_itK ?_ | with_reducible refine w_ixK (by assumption) ?_ | with_reducible refine w_mk1 ?_ | with_reducible refine w_mkO rfl ?_ | with_reducible refine w_modI8 ?_ | with_reducible refine w_addL (by walk_at "len") ?_ | with_reducible refine w_addT (by walk_at "len") ?_ | with_reducible refine w_ixBk (by walk_at "len") (by walk_at "len") ?_ | with_reducible refine w_lenPl ?_ | with_reducible refine w_itPl ?_ | with_reducible refine w_reprS (by assumption) (by decide) (by decide) ?_ | with_reducible refine w_neSelf ?_ | with_reducible refine w_tri0 ?_ | with_reducible refine w_tri1 ?_ | with_reducible refine w_tri2 ?_ | with_reducible refine w_appE (by walk_at "len") ?_)
local macro_rules | `(tactic| walk_at "k") => `(tactic| repeat walk_at "k1")
local macro_rules | `(tactic| walk_at "q1") => `(tactic| first | walk_at "k1" | with_reducible refine w_raiseV ?_)
local macro_rules | `(tactic| walk_at "q") => `(tactic| repeat walk_at "q1")
local macro_rules | `(tactic| walk_at "r1") => `(tactic| first | walk_at "q1" | with_reducible refine w_row ?_ | with_reducible refine w_rwL ?_ | with_reducible refine w_rwT ?_ | with_reducible refine w_callV ?_ | (with_reducible show OpP (gT _ _ _) _ _; with_reducible refine op_some (by with_unfolding_all exact rfl) ?_))
local macro_rules | `(tactic| walk_at "r") => `(tactic| repeat walk_at "r1")
section
variable {g : G} {P' : D → G → Prop} {E : XE} {A B L xs : Pl} {p h d : Int} {S T line P Q : List Int} {ρ : DL.Env} {f : Ep} {d' d2 d3 : D} {m : Nat}
end
end SH
end
section
set_option Elab.async false
set_option linter.all false
set_option maxRecDepth 100000
set_option maxHeartbeats 2000000
/-! Two plans as they are drawn. -/
open PySem PySem.Spec PyProof.Rows L2 DL
namespace SH
open DL.Enc (enc)
local macro_rules | `(tactic| walk_at "k1") => `(tactic| first | walk_at "w2" | with_reducible refine w_ixP0 ?_ | with_reducible refine w_ixP1 ?_ | with_reducible refine w_lstPr ?_ | with_reducible refine w_lenK ?_ | with_reducible refine w_itK ?_ | with_reducible refine w_ixK (by assumption) ?_ | with_reducible refine w_mk1 ?_ | with_reducible refine w_mkO rfl ?_ | with_reducible refine w_modI8 ?_ | with_reducible refine w_addL (by walk_at "len") ?_ | with_reducible refine w_addT (by walk_at "len") ?_ | with_reducible refine w_ixBk (by walk_at "len") (by walk_at "len") ?_ | with_reducible refine w_lenPl ?_ | with_reducible refine w_itPl ?_ | with_reducible refine w_reprS (by assumption) (by decide) (by decide) ?_ | with_reducible refine w_neSelf ?_ | with_reducible refine w_tri0 ?_ | with_reducible refine w_tri1 ?_ | with_reducible refine w_tri2 ?_ | with_reducible refine w_appE (by walk_at "len") ?_)
local macro_rules | `(tactic| walk_at "k") => `(tactic| repeat walk_at "k1")
local macro_rules | `(tactic| walk_at "q1") => `(tactic| first | walk_at "k1" | with_reducible refine w_raiseV ?_)
local macro_rules | `(tactic| walk_at "q") => `(tactic| repeat walk_at "q1")
local macro_rules | `(tactic| walk_at "r1") => `(tactic| first | walk_at "q1" | with_reducible refine w_row ?_ | with_reducible refine w_rwL ?_ | with_reducible refine w_rwT ?_ | with_reducible refine w_callV ?_ | (with_reducible show OpP (gT _ _ _) _ _; with_reducible refine op_some (by with_unfolding_all exact rfl) ?_))
local macro_rules | `(tactic| walk_at "r") => `(tactic| repeat walk_at "r1")
section
variable {g : G} {P' : D → G → Prop} {SS : List D → G → Prop} {E : XE} {A B : Pl} {f1 f2 : Ep} {ρ : DL.Env} {m : Nat}
end
end SH
end
section
set_option Elab.async false
set_option linter.all false
set_option maxRecDepth 100000
namespace SH
open PySem PySem.Spec PyProof.Rows L2 DL
end SH
end
section
set_option Elab.async false
set_option linter.all false
set_option maxRecDepth 100000
set_option maxHeartbeats 2000000
/-! Picks drawn that stay one's own, books of told sizes. -/
open PySem PySem.Spec PyProof.Rows L2 DL
namespace SH
open DL.Enc (enc)
local macro_rules | `(tactic| walk_at "k1") => `(tactic| first | walk_at "w2" | with_reducible refine w_ixP0 ?_ | with_reducible refine w_ixP1 ?_ | with_reducible refine w_lstPr ?_ | with_reducible refine w_lenK ?_ | with_reducible refine w_itK ?_ | with_reducible refine w_ixK (by assumption) ?_ | with_reducible refine w_mk1 ?_ | with_reducible refine w_mkO rfl ?_ | with_reducible refine w_modI8 ?_ | with_reducible refine w_addL (by walk_at "len") ?_ | with_reducible refine w_addT (by walk_at "len") ?_ | with_reducible refine w_ixBk (by walk_at "len") (by walk_at "len") ?_ | with_reducible refine w_lenPl ?_ | with_reducible refine w_itPl ?_ | with_reducible refine w_reprS (by assumption) (by decide) (by decide) ?_ | with_reducible refine w_neSelf ?_ | with_reducible refine w_tri0 ?_ | with_reducible refine w_tri1 ?_ | with_reducible refine w_tri2 ?_ | with_reducible refine w_appE (by walk_at "len") ?_)
local macro_rules | `(tactic| walk_at "k") => `(tactic| repeat walk_at "k1")
local macro_rules | `(tactic| walk_at "q1") => `(tactic| first | walk_at "k1" | with_reducible refine w_raiseV ?_)
local macro_rules | `(tactic| walk_at "q") => `(tactic| repeat walk_at "q1")
local macro_rules | `(tactic| walk_at "r1") => `(tactic| first | walk_at "q1" | with_reducible refine w_row ?_ | with_reducible refine w_rwL ?_ | with_reducible refine w_rwT ?_ | with_reducible refine w_callV ?_ | (with_reducible show OpP (gT _ _ _) _ _; with_reducible refine op_some (by with_unfolding_all exact rfl) ?_))
local macro_rules | `(tactic| walk_at "r") => `(tactic| repeat walk_at "r1")
section
variable {g : G} {P : D → G → Prop} {E : XE} {d : D} {m : Nat}
end
end SH
end
section
set_option Elab.async false
set_option linter.all false
set_option maxRecDepth 100000
set_option maxHeartbeats 2000000
/-! Books of told sizes, as they are drawn. -/
open PySem PySem.Spec PyProof.Rows L2 DL
namespace SH
open DL.Enc (enc)
local macro_rules | `(tactic| walk_at "k1") => `(tactic| first | walk_at "w2" | with_reducible refine w_ixP0 ?_ | with_reducible refine w_ixP1 ?_ | with_reducible refine w_lstPr ?_ | with_reducible refine w_lenK ?_ | with_reducible refine w_itK ?_ | with_reducible refine w_ixK (by assumption) ?_ | with_reducible refine w_mk1 ?_ | with_reducible refine w_mkO rfl ?_ | with_reducible refine w_modI8 ?_ | with_reducible refine w_addL (by walk_at "len") ?_ | with_reducible refine w_addT (by walk_at "len") ?_ | with_reducible refine w_ixBk (by walk_at "len") (by walk_at "len") ?_ | with_reducible refine w_lenPl ?_ | with_reducible refine w_itPl ?_ | with_reducible refine w_reprS (by assumption) (by decide) (by decide) ?_ | with_reducible refine w_neSelf ?_ | with_reducible refine w_tri0 ?_ | with_reducible refine w_tri1 ?_ | with_reducible refine w_tri2 ?_ | with_reducible refine w_appE (by walk_at "len") ?_)
local macro_rules | `(tactic| walk_at "k") => `(tactic| repeat walk_at "k1")
local macro_rules | `(tactic| walk_at "q1") => `(tactic| first | walk_at "k1" | with_reducible refine w_raiseV ?_)
local macro_rules | `(tactic| walk_at "q") => `(tactic| repeat walk_at "q1")
local macro_rules | `(tactic| walk_at "r1") => `(tactic| first | walk_at "q1" | with_reducible refine w_row ?_ | with_reducible refine w_rwL ?_ | with_reducible refine w_rwT ?_ | with_reducible refine w_callV ?_ | (with_reducible show OpP (gT _ _ _) _ _; with_reducible refine op_some (by with_unfolding_all exact rfl) ?_))
local macro_rules | `(tactic| walk_at "r") => `(tactic| repeat walk_at "r1")
section
variable {t : D → DL.Env → Option DL.Env} {f : Ep} {ρ : DL.Env}
end
section
variable {g : G} {P : D → G → Prop} {E : XE} {d : D} {m : Nat}
theorem fold_great : ∀ (l : List Int) (n : Int), n ≤ l.foldl (fun a b => if b > a then b else a) n ∧ (∀ x ∈ l, x ≤ l.foldl (fun a b => if b > a then b else a) n) ∧ (l.foldl (fun a b => if b > a then b else a) n = n ∨ l.foldl (fun a b => if b > a then b else a) n ∈ l)
  | [], n => ⟨Int.le_refl _, (fun _ h => nomatch h), .inl rfl⟩
  | a :: l, n => by
    rw [List.foldl_cons]
    obtain ⟨h1, h2, h3⟩ := fold_great l (if a > n then a else n)
    generalize l.foldl (fun a b => if b > a then b else a) (if a > n then a else n) = M at h1 h2 h3
    by_cases h : a > n
    · rw [if_pos h] at h1 h3
      refine ⟨by omega, fun x hx => ?_, .inr ?_⟩
      · rcases List.mem_cons.mp hx with rfl | hx
        · exact h1
        · exact h2 x hx
      · rcases h3 with h3 | h3
        · rw [h3]; exact List.mem_cons_self
        · exact List.mem_cons_of_mem _ h3
    · rw [if_neg h] at h1 h3
      refine ⟨h1, fun x hx => ?_, h3.imp id (List.mem_cons_of_mem _)⟩
      rcases List.mem_cons.mp hx with rfl | hx
      · omega
      · exact h2 x hx
theorem max_ips {S : List Int} (h : S ≠ []) : ∃ M, fMaxS [ips S] = some (.int M) ∧ M ∈ S ∧ ∀ x ∈ S, x ≤ M := by
  cases S with
  | nil => exact absurd rfl h
  | cons n l =>
    obtain ⟨h1, h2, h3⟩ := fold_great l n
    refine ⟨l.foldl (fun a b => if b > a then b else a) n, ?_, ?_, fun x hx => ?_⟩
    · show ((intsOf ((n :: l).map D.int)).bind greatest).map D.int = _
      rw [intsOf_map]
      rfl
    · rcases h3 with h3 | h3
      · rw [h3]; exact List.mem_cons_self
      · exact List.mem_cons_of_mem _ h3
    · rcases List.mem_cons.mp hx with rfl | hx
      · exact h1
      · exact h2 x hx
end
end SH
end
section
set_option Elab.async false
set_option linter.all false
set_option maxRecDepth 100000
set_option maxHeartbeats 2000000
/-! Wide chains, in plain Lean: how many pairs of a plan count, and when a chain ends. -/
open PySem PySem.Spec PyProof.Rows L2 DL
namespace SH
section
variable {b : List Pl} {t : Tk} {O : List Int}
end
end SH
end
section
set_option Elab.async false
set_option linter.all false
set_option maxRecDepth 100000
set_option maxHeartbeats 2000000
/-! Pairs dropped from a pick; what k37 asks. -/
open PySem PySem.Spec PyProof.Rows L2 DL
namespace SH
open DL.Enc (enc)
local macro_rules | `(tactic| walk_at "k1") => `(tactic| first | walk_at "w2" | with_reducible refine w_ixP0 ?_ | with_reducible refine w_ixP1 ?_ | with_reducible refine w_lstPr ?_ | with_reducible refine w_lenK ?_ | with_reducible refine w_itK ?_ | with_reducible refine w_ixK (by assumption) ?_ | with_reducible refine w_mk1 ?_ | with_reducible refine w_mkO rfl ?_ | with_reducible refine w_modI8 ?_ | with_reducible refine w_addL (by walk_at "len") ?_ | with_reducible refine w_addT (by walk_at "len") ?_ | with_reducible refine w_ixBk (by walk_at "len") (by walk_at "len") ?_ | with_reducible refine w_lenPl ?_ | with_reducible refine w_itPl ?_ | with_reducible refine w_reprS (by assumption) (by decide) (by decide) ?_ | with_reducible refine w_neSelf ?_ | with_reducible refine w_tri0 ?_ | with_reducible refine w_tri1 ?_ | with_reducible refine w_tri2 ?_ | with_reducible refine w_appE (by walk_at "len") ?_)
local macro_rules | `(tactic| walk_at "k") => `(tactic| repeat walk_at "k1")
local macro_rules | `(tactic| walk_at "q1") => `(tactic| first | walk_at "k1" | with_reducible refine w_raiseV ?_)
local macro_rules | `(tactic| walk_at "q") => `(tactic| repeat walk_at "q1")
local macro_rules | `(tactic| walk_at "r1") => `(tactic| first | walk_at "q1" | with_reducible refine w_row ?_ | with_reducible refine w_rwL ?_ | with_reducible refine w_rwT ?_ | with_reducible refine w_callV ?_ | (with_reducible show OpP (gT _ _ _) _ _; with_reducible refine op_some (by with_unfolding_all exact rfl) ?_))
local macro_rules | `(tactic| walk_at "r") => `(tactic| repeat walk_at "r1")
section
variable {g : G} {E : XE} {nx ct bk' : DL.Env → G → Prop} {rt : D → G → Prop} {ρ : DL.Env} {i : Nat} {fa : Ep} {l : List (D × D)} {b : List Pl} {t u : Tk}
theorem PickM.less {B : Int × Pr → Bool} (h : PickM b t) : PickM b (t.filter B) :=
  h.sub ((List.filter_sublist.map _).nodup h.nd) fun e he => (List.mem_filter.mp he).1
end
end SH
end
section
set_option Elab.async false
set_option linter.all false
set_option maxRecDepth 100000
set_option maxHeartbeats 2000000
/-! A new list whose first item is changed; lists of picks that grow, told wrong books, picks, orders. -/
open PySem PySem.Spec PyProof.Rows L2 DL
namespace SH
open DL.Enc (enc)
local macro_rules | `(tactic| walk_at "k1") => `(tactic| first | walk_at "w2" | with_reducible refine w_ixP0 ?_ | with_reducible refine w_ixP1 ?_ | with_reducible refine w_lstPr ?_ | with_reducible refine w_lenK ?_ | with_reducible refine w_itK ?_ | with_reducible refine w_ixK (by assumption) ?_ | with_reducible refine w_mk1 ?_ | with_reducible refine w_mkO rfl ?_ | with_reducible refine w_modI8 ?_ | with_reducible refine w_addL (by walk_at "len") ?_ | with_reducible refine w_addT (by walk_at "len") ?_ | with_reducible refine w_ixBk (by walk_at "len") (by walk_at "len") ?_ | with_reducible refine w_lenPl ?_ | with_reducible refine w_itPl ?_ | with_reducible refine w_reprS (by assumption) (by decide) (by decide) ?_ | with_reducible refine w_neSelf ?_ | with_reducible refine w_tri0 ?_ | with_reducible refine w_tri1 ?_ | with_reducible refine w_tri2 ?_ | with_reducible refine w_appE (by walk_at "len") ?_)
local macro_rules | `(tactic| walk_at "k") => `(tactic| repeat walk_at "k1")
local macro_rules | `(tactic| walk_at "q1") => `(tactic| first | walk_at "k1" | with_reducible refine w_raiseV ?_)
local macro_rules | `(tactic| walk_at "q") => `(tactic| repeat walk_at "q1")
local macro_rules | `(tactic| walk_at "r1") => `(tactic| first | walk_at "q1" | with_reducible refine w_row ?_ | with_reducible refine w_rwL ?_ | with_reducible refine w_rwT ?_ | with_reducible refine w_callV ?_ | (with_reducible show OpP (gT _ _ _) _ _; with_reducible refine op_some (by with_unfolding_all exact rfl) ?_))
local macro_rules | `(tactic| walk_at "r") => `(tactic| repeat walk_at "r1")
section
variable {g : G} {E : XE} {P : D → G → Prop} {nx ct bk' : DL.Env → G → Prop} {rt : D → G → Prop} {ρ : DL.Env} {i m : Nat} {f fa fe : Ep} {d d2 d3 : D} {l : List (D × D)} {b : List Pl} {t u : Tk}
theorem PickM.l8 (hb : BookM b) (ht : PickM b t) : t.length ≤ 8 := by
  have h := per_len (S := persT t) (fun x hx => by
    obtain ⟨e, he, rfl⟩ := List.mem_map.mp hx
    have hk := ht.key e he
    have hr := (hb.at e.1.toNat).rng e.2 hk.2.2
    omega) ht.apt.p
  unfold persT at h
  rwa [List.length_map] at h
end
end SH
end
section
set_option Elab.async false
set_option linter.all false
set_option maxRecDepth 100000
namespace SH
open PySem PySem.Spec PyProof.Rows L2 DL
def t_are_sizes : Ss :=
  (sSeq (sIf (bOr (bNot (eTr (eCall isi0 (sCons (eVar 0) (sCons (eC (.ty "tuple")) sNil))))) (bNot (eTr (eChain dLe dLe (eC (.int 1)) (eCall fLen (sCons (eVar 0) sNil)) (eC (.int 16))))))
  (sRet (eC (.bl false)))
  (fun ρ => M.pure (.nx ρ)))
  (sRet (eCall fAll (sCons (eLc (sItems (eVar 0)) (gN 1) sYes (eCallF f_is_between (sCons (eVar 1) (sCons (eC (.int 0)) (sCons (eBin dAdd (eC (.int 7)) (eC (.int 1))) sNil)))) [1]) sNil))))
def f_are_sizes : List D → M D := fnB t_are_sizes 2
def t_need_sizes : Ss :=
  (sIf (bNot (eTr (eCallF f_are_sizes (sCons (eVar 0) sNil))))
  (sRaise "BadSizes")
  (fun ρ => M.pure (.nx ρ)))
def f_need_sizes : List D → M D := fnB t_need_sizes 1
def t__law_rising : Ss :=
  (sSeq (sSet false 2 (eBin dAdd (eLstRg (eRg2 (eC (.int 1)) (eVar 1))) (eBin dMul (eLst (sCons (eVar 1) sNil)) (eVar 1))))
  (sSeq (sIf (eTr (eBin dEq (eCallF f__law_draw (sCons (eVar 0) (sCons (eC (.int 2)) sNil))) (eC (.int 0))))
  (sSet false 2 (eLc (sItems (eVar 2)) (gN 4) sYes (eBin dAdd (eVar 4) (eCallF f__law_draw (sCons (eVar 0) (sCons (eBin dAdd (eBin dSub (eVar 1) (eVar 4)) (eC (.int 1))) sNil)))) [4]))
  (fun ρ => M.pure (.nx ρ)))
  (sSeq (sSet false 3 (eIf (eTr (eBin dLt (eCall fLen (sCons (eVar 2) sNil)) (eC (.int 14)))) (eCallF f__law_draw (sCons (eVar 0) (sCons (eC (.int 3)) sNil))) (eC (.int 0))))
  (sRet (eCall fTuple (sCons (eCallF f__law_mixed (sCons (eVar 0) (sCons (eBin dAdd (eVar 2) (eLc (sRange1 (eVar 3)) (gN 5) sYes (eCallF f__law_draw (sCons (eVar 0) (sCons (eBin dAdd (eVar 1) (eC (.int 1))) sNil))) [5])) sNil))) sNil))))))
def f__law_rising : List D → M D := fnB t__law_rising 6
def t__law_any_sizes : Ss :=
  (sSeq (sIf (eTr (eBin dEq (eCallF f__law_draw (sCons (eVar 0) (sCons (eC (.int 3)) sNil))) (eC (.int 0))))
  (sRet (eCall fTuple (sCons (eLc (sRange1 (eBin dAdd (eC (.int 1)) (eCallF f__law_draw (sCons (eVar 0) (sCons (eC (.int 16)) sNil))))) (gN 2) sYes (eCallF f__law_draw (sCons (eVar 0) (sCons (eBin dAdd (eVar 1) (eC (.int 1))) sNil))) [2]) sNil)))
  (fun ρ => M.pure (.nx ρ)))
  (sSeq (sSet true 3 (eCall fList (sCons (eCallF f__law_rising (sCons (eVar 0) (sCons (eVar 1) sNil))) sNil)))
  (sSeq (sFor (sRange1 (eCallF f__law_draw (sCons (eVar 0) (sCons (eC (.int 3)) sNil)))) (gN 2)
  (sSeq (sSet false 4 (eCallF f__law_draw (sCons (eVar 0) (sCons (eCall fLen (sCons (ePeek 3) sNil)) sNil))))
  (sSetU 3 (eVar 4) (eCall fMax2 (sCons (eC (.int 0)) (sCons (eBin dSub (eBin dSub (eBin dIx (ePeek 3) (eVar 4)) (eC (.int 1))) (eCallF f__law_draw (sCons (eVar 0) (sCons (eC (.int 2)) sNil)))) sNil))))))
  (sSeq (sIf (bAnd (eTr (eBin dGt (eCall fLen (sCons (ePeek 3) sNil)) (eC (.int 1)))) (eTr (eBin dEq (eCallF f__law_draw (sCons (eVar 0) (sCons (eC (.int 4)) sNil))) (eC (.int 0)))))
  (sExprM (eMeth 3 hPop (mCons (mPure (eCallF f__law_draw (sCons (eVar 0) (sCons (eCall fLen (sCons (ePeek 3) sNil)) sNil)))) mNil)))
  (fun ρ => M.pure (.nx ρ)))
  (sRet (eCall fTuple (sCons (ePeek 3) sNil)))))))
def f__law_any_sizes : List D → M D := fnB t__law_any_sizes 5
end SH
end
section
set_option Elab.async false
set_option linter.all false
set_option maxRecDepth 100000
set_option maxHeartbeats 2000000
/-! Picks grown by wide chains again and again; what sizes make sure of. -/
open PySem PySem.Spec PyProof.Rows L2 DL
namespace SH
open DL.Enc (enc)
local macro_rules | `(tactic| walk_at "k1") => `(tactic| first | walk_at "w2" | with_reducible refine w_ixP0 ?_ | with_reducible refine w_ixP1 ?_ | with_reducible refine w_lstPr ?_ | with_reducible refine w_lenK ?_ | with_reducible refine w_itK ?_ | with_reducible refine w_ixK (by assumption) ?_ | with_reducible refine w_mk1 ?_ | with_reducible refine w_mkO rfl ?_ | with_reducible refine w_modI8 ?_ | with_reducible refine w_addL (by walk_at "len") ?_ | with_reducible refine w_addT (by walk_at "len") ?_ | with_reducible refine w_ixBk (by walk_at "len") (by walk_at "len") ?_ | with_reducible refine w_lenPl ?_ | with_reducible refine w_itPl ?_ | with_reducible refine w_reprS (by assumption) (by decide) (by decide) ?_ | with_reducible refine w_neSelf ?_ | with_reducible refine w_tri0 ?_ | with_reducible refine w_tri1 ?_ | with_reducible refine w_tri2 ?_ | with_reducible refine w_appE (by walk_at "len") ?_)
local macro_rules | `(tactic| walk_at "k") => `(tactic| repeat walk_at "k1")
local macro_rules | `(tactic| walk_at "q1") => `(tactic| first | walk_at "k1" | with_reducible refine w_raiseV ?_)
local macro_rules | `(tactic| walk_at "q") => `(tactic| repeat walk_at "q1")
local macro_rules | `(tactic| walk_at "r1") => `(tactic| first | walk_at "q1" | with_reducible refine w_row ?_ | with_reducible refine w_rwL ?_ | with_reducible refine w_rwT ?_ | with_reducible refine w_callV ?_ | (with_reducible show OpP (gT _ _ _) _ _; with_reducible refine op_some (by with_unfolding_all exact rfl) ?_))
local macro_rules | `(tactic| walk_at "r") => `(tactic| repeat walk_at "r1")
section
variable {g : G} {P : D → G → Prop} {E : XE} {d d2 : D} {m : Nat} {b : List Pl} {t u w : Tk} {ρ : DL.Env} {o S : List Int}
/-- is it a tuple of sizes -/
def szB (d : D) : Bool := match d with
  | .tup l => decide (1 ≤ l.length) && decide (l.length ≤ 16) && l.all fun x => btw x 0 8
  | _ => false
theorem are_sizes (h : Ok 2 d) (k : P (.bl (szB d)) g) : (f_are_sizes [d] g).all P E := by
  unfold f_are_sizes
  with_reducible refine w_fn ?_
  unfold t_are_sizes
  walk_at "w"
  refine w_isiTup h.plain ?_
  cases d <;> first | exact k | skip
  rename_i l
  cases h with | tup hl hx =>
  walk_at "r"
  change P (.bl (decide (1 ≤ l.length) && decide (l.length ≤ 16) && l.all fun x => btw x 0 8)) g at k
  have main : l.length ≤ 16 → 1 ≤ l.length → (sRet (eCall fAll (sCons (eLc (sItems (eVar 0)) (gN 1) sYes (eCallF f_is_between (sCons (eVar 1) (sCons (eC (.int 0)) (sCons (eBin dAdd (eC (.int 7)) (eC (.int 1))) sNil)))) [1]) sNil)) (startE 2 [.tup l]) g).all (FP (fun _ g1 => P .non g1) NE NE P) E := fun h2 h1 => by
    rw [decide_eq_true h1, decide_eq_true h2] at k
    walk_at "r"
    refine w_lcM (fun d => .bl (btw d 0 8)) (fun d hd => ⟨_, rfl, ?_⟩) ?_
    · walk_at "r"
      exact is_between (hx d hd).plain ⟨rfl, rfl⟩
    · walk_at "r"
      exact op_some (all_bls (fun d => btw d 0 8) l) k
  refine w_dec (fun h1 => ?_) fun h1 => ?_
  · walk_at "r"
    refine w_ndec (fun h2 => ?_) fun h2 => ?_
    · walk_at "r"
      rw [decide_eq_false (show ¬ l.length ≤ 16 by omega), Bool.and_false, Bool.false_and] at k
      exact k
    · walk_at "w1"
      exact main (by omega) (by omega)
  · walk_at "r"
    rw [decide_eq_false (show ¬ 1 ≤ l.length by omega), Bool.false_and, Bool.false_and] at k
    exact k
theorem szB_ips (h1 : 1 ≤ S.length) (h16 : S.length ≤ 16) (hs : ∀ x ∈ S, 0 ≤ x ∧ x ≤ 8) : szB (ips S) = true := by
  show (decide (1 ≤ (S.map D.int).length) && decide ((S.map D.int).length ≤ 16) && (S.map D.int).all fun x => btw x 0 8) = true
  rw [List.length_map, decide_eq_true h1, decide_eq_true h16, List.all_map]
  refine List.all_eq_true.mpr fun x hx => ?_
  show (decide (0 ≤ x) && decide (x ≤ 8)) = true
  rw [decide_eq_true (hs x hx).1, decide_eq_true (hs x hx).2]
  rfl
theorem need_sizes (h : Ok 2 d) (k : szB d = true → P .non g) (kx : szB d = false → E "BadSizes" Str.empty [] g) : (f_need_sizes [d] g).all P E := by
  unfold f_need_sizes
  with_reducible refine w_fn ?_
  unfold t_need_sizes
  walk_at "r"
  with_reducible refine are_sizes h ?_
  walk_at "r"
  refine w_nb (fun w => ?_) fun w => ?_
  · walk_at "r"
    exact kx w
  · walk_at "r"
    exact k w
theorem ok_ips (h : S.length ≤ 1000) : Ok 2 (ips S) := .tup (by rw [List.length_map]; exact h) fun x hx => by
  obtain ⟨i, _, rfl⟩ := List.mem_map.mp hx
  exact .int i
theorem need_sizes_ok (h1 : 1 ≤ S.length) (h16 : S.length ≤ 16) (hs : ∀ x ∈ S, 0 ≤ x ∧ x ≤ 8) (k : P .non g) : (f_need_sizes [ips S] g).all P E :=
  need_sizes (ok_ips (by omega)) (fun _ => k) fun w => by rw [szB_ips h1 h16 hs] at w; cases w
end
end SH
end
section
set_option Elab.async false
set_option linter.all false
set_option maxRecDepth 100000
set_option maxHeartbeats 2000000
/-! Sizes drawn. -/
open PySem PySem.Spec PyProof.Rows L2 DL
namespace SH
open DL.Enc (enc)
local macro_rules | `(tactic| walk_at "k1") => `(tactic| first | walk_at "w2" | with_reducible refine w_ixP0 ?_ | with_reducible refine w_ixP1 ?_ | with_reducible refine w_lstPr ?_ | with_reducible refine w_lenK ?_ | with_reducible refine w_itK ?_ | with_reducible refine w_ixK (by assumption) ?_ | with_reducible refine w_mk1 ?_ | with_reducible refine w_mkO rfl ?_ | with_reducible refine w_modI8 ?_ | with_reducible refine w_addL (by walk_at "len") ?_ | with_reducible refine w_addT (by walk_at "len") ?_ | with_reducible refine w_ixBk (by walk_at "len") (by walk_at "len") ?_ | with_reducible refine w_lenPl ?_ | with_reducible refine w_itPl ?_ | with_reducible refine w_reprS (by assumption) (by decide) (by decide) ?_ | with_reducible refine w_neSelf ?_ | with_reducible refine w_tri0 ?_ | with_reducible refine w_tri1 ?_ | with_reducible refine w_tri2 ?_ | with_reducible refine w_appE (by walk_at "len") ?_)
local macro_rules | `(tactic| walk_at "k") => `(tactic| repeat walk_at "k1")
local macro_rules | `(tactic| walk_at "q1") => `(tactic| first | walk_at "k1" | with_reducible refine w_raiseV ?_)
local macro_rules | `(tactic| walk_at "q") => `(tactic| repeat walk_at "q1")
local macro_rules | `(tactic| walk_at "r1") => `(tactic| first | walk_at "q1" | with_reducible refine w_row ?_ | with_reducible refine w_rwL ?_ | with_reducible refine w_rwT ?_ | with_reducible refine w_callV ?_ | (with_reducible show OpP (gT _ _ _) _ _; with_reducible refine op_some (by with_unfolding_all exact rfl) ?_))
local macro_rules | `(tactic| walk_at "r") => `(tactic| repeat walk_at "r1")
section
variable {g : G} {P : D → G → Prop} {E : XE} {m : Nat}
theorem w_mulL1 {v : D} {k : Int} (h0 : 0 ≤ k) (h1 : k ≤ 1000) (h : P (.lst (List.replicate k.toNat v)) g) : OpP (dMul (.lst [v]) (.int k)) P g := op_some (by
  unfold dMul
  dsimp only
  rw [if_pos ⟨by omega, by omega, by rw [sizeLine_eq]; show 1 * _ ≤ _; omega⟩]
  congr 2
  generalize k.toNat = q
  induction q with
  | zero => rfl
  | succ q ih => rw [List.replicate_succ, List.flatten_cons, ih, List.replicate_succ]; rfl) h
theorem law_sizes_rising {n : Int} (hn : 1 ≤ n ∧ n ≤ 8) (hG : GI m g) (hm : 60 ≤ m) (k : ∀ (S : List Int) g', 1 ≤ S.length → S.length ≤ 16 → (∀ x ∈ S, 0 ≤ x ∧ x ≤ 8) → GI (m - 60) g' → P (ips S) g') : (f__law_rising [.st, .int n] g).all P E := by
  unfold f__law_rising
  with_reducible refine w_fn ?_
  unfold t__law_rising
  walk_at "r"
  refine w_mulL1 (by omega) (by omega) ?_
  refine w_addL (by rw [rangeL_len, List.length_replicate]; omega) ?_
  have hall : ∀ y ∈ rangeL 1 (n - 1).toNat ++ List.replicate n.toNat (D.int n), ∃ i : Int, y = .int i ∧ 1 ≤ i ∧ i ≤ n := fun y hy => by
    rcases List.mem_append.mp hy with hy | hy
    · unfold rangeL at hy
      obtain ⟨j, hj, rfl⟩ := List.mem_map.mp hy
      have := List.mem_range.mp hj
      exact ⟨_, rfl, by omega, by omega⟩
    · exact ⟨n, (List.mem_replicate.mp hy).2, by omega, by omega⟩
  obtain ⟨X, eX, hX, lX⟩ := of_allD hall
  rw [List.length_append, rangeL_len, List.length_replicate] at lX
  rw [eX]
  have xl : X.length ≤ 15 := by omega
  have x1 : 1 ≤ X.length := by omega
  clear eX hall lX
  walk_at "r"
  with_reducible refine draw hG (by omega) (by omega) (by omega) fun r g1 hr hG1 => ?_
  walk_at "r"
  have fin : ∀ {Y : List Int} {g' : G} {a4 a5 : Option (Bool × D)}, Y.length = X.length → (∀ x ∈ Y, 1 ≤ x ∧ x ≤ n) → GI (m - 20) g' →
      (sSeq (sSet false 3 (eIf (eTr (eBin dLt (eCall fLen (sCons (eVar 2) sNil)) (eC (.int 14)))) (eCallF f__law_draw (sCons (eVar 0) (sCons (eC (.int 3)) sNil))) (eC (.int 0))))
        (sRet (eCall fTuple (sCons (eCallF f__law_mixed (sCons (eVar 0) (sCons (eBin dAdd (eVar 2) (eLc (sRange1 (eVar 3)) (gN 5) sYes (eCallF f__law_draw (sCons (eVar 0) (sCons (eBin dAdd (eVar 1) (eC (.int 1))) sNil))) [5])) sNil))) sNil)))
        [some (false, .st), some (false, .int n), some (false, .lst (Y.map D.int)), none, a4, a5] g').all (FP (fun _ g1 => P .non g1) NE NE P) E := by
    intro Y g' a4 a5 hl hY hg
    have last : ∀ {ρ' : DL.Env} {e : Nat} {g2 : G}, ρ' = [some (false, .st), some (false, .int n), some (false, .lst (Y.map D.int)), some (false, .int (e : Int)), a4, a5] → Y.length + e ≤ 16 → e ≤ 2 → GI (m - 21) g2 → (sRet (eCall fTuple (sCons (eCallF f__law_mixed (sCons (eVar 0) (sCons (eBin dAdd (eVar 2) (eLc (sRange1 (eVar 3)) (gN 5) sYes (eCallF f__law_draw (sCons (eVar 0) (sCons (eBin dAdd (eVar 1) (eC (.int 1))) sNil))) [5])) sNil))) sNil))
        ρ' g2).all (FP (fun _ g1 => P .non g1) NE NE P) E := by
      rintro ρ' e g2 rfl hle he hg2
      walk_at "r"
      with_reducible refine And.intro (by rw [rangeL_len]; omega) ?_
      with_reducible refine w_lcD 2 (fun y => ∃ i : Int, y = .int i ∧ 0 ≤ i ∧ i ≤ 8) hg2 (by rw [rangeL_len]; omega) (fun d hd m g hg hm => ⟨_, rfl, ?_⟩) fun rr g3 hlr hrr hg3 => ?_
      · walk_at "r"
        with_reducible refine draw hg (by omega) (by omega) (by omega) fun a g' ha hg' => ?_
        exact ⟨⟨_, rfl, by omega, by omega⟩, hg'.mono (by omega)⟩
      rw [rangeL_len] at hlr hg3
      obtain ⟨Z, rfl, hZ, lZ⟩ := of_allD hrr
      have zl : Z.length ≤ 2 := by omega
      refine w_addL (by rw [List.length_map, List.length_map]; omega) ?_
      rw [← List.map_append]
      refine mixedF (φ := D.int) (.inl rfl) (by rw [List.length_append]; omega) hg3 (by rw [List.length_append]; omega) fun W g4 pW hg4 => ?_
      have lW := pW.length_eq
      rw [List.length_append] at lW hg4
      walk_at "r"
      refine k W g4 (by omega) (by omega) (fun x hx => ?_) (hg4.mono (by omega))
      rcases List.mem_append.mp (pW.mem_iff.mp hx) with h | h
      · have := hY x h; omega
      · exact hZ x h
    walk_at "r"
    rw [List.length_map]
    refine w_dec (fun h14 => ?_) fun h14 => ?_
    · walk_at "r"
      with_reducible refine draw hg (by omega) (by omega) (by omega) fun c g2 hc hg2 => ?_
      with_reducible refine last (e := c) ?_ (by omega) (by omega) (hg2.mono (by omega))
      rfl
    · exact last (e := 0) rfl (by omega) (by omega) (hg.mono (by omega))
  refine w_dec (fun h0 => ?_) fun h0 => ?_
  · walk_at "r"
    with_reducible refine w_lcD 1 (fun y => ∃ i : Int, y = .int i ∧ 1 ≤ i ∧ i ≤ n) hG1 (by rw [List.length_map]; omega) (fun d hd m g hg hm => ?_) fun rr g3 hlr hrr hG3 => ?_
    · obtain ⟨i, hi, rfl⟩ := List.mem_map.mp hd
      have := hX i hi
      refine ⟨_, rfl, ?_⟩
      walk_at "r"
      with_reducible refine draw hg (by omega) (by omega) (by omega) fun a g' ha hg' => ?_
      walk_at "r"
      exact ⟨⟨_, rfl, by omega, by omega⟩, hg'.mono (by omega)⟩
    rw [List.length_map] at hlr hG3
    obtain ⟨Z, rfl, hZ, lZ⟩ := of_allD hrr
    exact fin (by omega) hZ (hG3.mono (by omega))
  · exact fin rfl hX (hG1.mono (by omega))
theorem law_any_sizes {n : Int} (hn : 1 ≤ n ∧ n ≤ 8) (hG : GI m g) (hm : 80 ≤ m) (k : ∀ (S : List Int) g', 1 ≤ S.length → S.length ≤ 16 → (∀ x ∈ S, 0 ≤ x ∧ x ≤ 8) → GI (m - 80) g' → P (ips S) g') : (f__law_any_sizes [.st, .int n] g).all P E := by
  unfold f__law_any_sizes
  with_reducible refine w_fn ?_
  unfold t__law_any_sizes
  walk_at "r"
  with_reducible refine draw hG (by omega) (by omega) (by omega) fun r g1 hr hG1 => ?_
  walk_at "r"
  refine w_dec (fun h0 => ?_) fun h0 => ?_
  · walk_at "r"
    with_reducible refine draw hG1 (by omega) (by omega) (by omega) fun r2 g2 hr2 hG2 => ?_
    walk_at "r"
    with_reducible refine And.intro (by rw [rangeL_len]; omega) ?_
    with_reducible refine w_lcD 2 (fun y => ∃ i : Int, y = .int i ∧ 0 ≤ i ∧ i ≤ 8) hG2 (by rw [rangeL_len]; omega) (fun d hd m g hg hm => ⟨_, rfl, ?_⟩) fun rr g3 hlr hrr hG3 => ?_
    · walk_at "r"
      with_reducible refine draw hg (by omega) (by omega) (by omega) fun a g' ha hg' => ?_
      exact ⟨⟨_, rfl, by omega, by omega⟩, hg'.mono (by omega)⟩
    rw [rangeL_len] at hlr hG3
    obtain ⟨Z, rfl, hZ, lZ⟩ := of_allD hrr
    walk_at "r"
    exact k Z g3 (by omega) (by omega) hZ (hG3.mono (by omega))
  walk_at "r"
  with_reducible refine law_sizes_rising hn hG1 (by omega) fun S g2 s1 s16 hS hG2 => ?_
  rw [show ips S = .tup (S.map D.int) from rfl]
  walk_at "r"
  with_reducible refine w_for (fun l' ρ g' => ∃ (X : List Int) (a2 a4 : Option (Bool × D)), 1 ≤ X.length ∧ X.length ≤ 16 ∧ (∀ x ∈ X, 0 ≤ x ∧ x ≤ 8) ∧ GI (m - 70 + 2 * l'.length) g' ∧
    ρ = [some (false, .st), some (false, .int n), a2, some (true, .lst (X.map D.int)), a4]) ?_ ?_ ?_
  · walk_at "r"
    with_reducible refine draw hG2 (by omega) (by omega) (by omega) fun r2 g3 hr2 hG3 => ?_
    walk_at "r"
    exact ⟨S, _, _, s1, s16, hS, hG3.mono (by rw [rangeL_len]; omega), rfl⟩
  · rintro d l' ρ g' ⟨X, a2, a4, x1, x16, hX, hg, rfl⟩
    rw [List.length_cons] at hg
    refine ⟨_, rfl, ?_⟩
    walk_at "r"
    rw [List.length_map]
    with_reducible refine draw hg (by omega) (by omega) (by omega) fun c g3 hc hg3 => ?_
    walk_at "r"
    refine w_setUL rfl ?_
    walk_at "r"
    have hcl : c < X.length := by omega
    refine w_ixL (x := D.int X[c]) (by rw [List.getElem?_map, List.getElem?_eq_getElem hcl]; rfl) ?_
    walk_at "r"
    with_reducible refine draw hg3 (by omega) (by omega) (by omega) fun a g4 ha hg4 => ?_
    walk_at "r"
    have hXc := hX X[c] (List.getElem_mem hcl)
    refine ⟨c, rfl, by rw [List.length_map]; exact hcl, X.set c (if X[c] - 1 - (a : Int) > 0 then X[c] - 1 - (a : Int) else 0), _, _, by rw [List.length_set]; exact x1, by rw [List.length_set]; exact x16, fun x hx => ?_, hg4.mono (by omega), by rw [List.map_set]; rfl⟩
    rcases List.mem_or_eq_of_mem_set hx with h | h
    · exact hX x h
    · rw [h]
      split <;> omega
  · rintro ρ g' ⟨X, a2, a4, x1, x16, hX, hg, rfl⟩
    walk_at "r"
    rw [List.length_map]
    have fin : ∀ {Y : List Int} {a4 : Option (Bool × D)} {g' : G} {ρ' : DL.Env}, ρ' = [some (false, .st), some (false, .int n), a2, some (true, .lst (Y.map D.int)), a4] → 1 ≤ Y.length → Y.length ≤ 16 → (∀ x ∈ Y, 0 ≤ x ∧ x ≤ 8) → GI (m - 80) g' →
        (sRet (eCall fTuple (sCons (ePeek 3) sNil)) ρ' g').all (FP (fun _ g1 => P .non g1) NE NE P) E := by
      rintro Y a4 g' ρ' rfl y1 y16 hY hg'
      walk_at "r"
      exact k Y g' y1 y16 hY hg'
    refine w_dec (fun h1 => ?_) fun h1 => ?_
    · walk_at "r"
      with_reducible refine draw hg (by omega) (by omega) (by omega) fun c g3 hc hg3 => ?_
      walk_at "r"
      refine w_dec (fun h2 => ?_) fun h2 => ?_
      · walk_at "r"
        rw [List.length_map]
        with_reducible refine draw hg3 (by omega) (by omega) (by omega) fun e g4 he hg4 => ?_
        have hel : e < X.length := by omega
        walk_at "r"
        have e1 : (X.map D.int)[e]? = some (D.int X[e]) := by rw [List.getElem?_map, List.getElem?_eq_getElem hel]; rfl
        with_reducible refine w_popE e1 (by rw [List.length_map]; omega) ?_
        rw [show (X.map D.int).eraseIdx e = (X.eraseIdx e).map D.int by first | exact map_eraseIdx _ _ _ | exact (map_eraseIdx _ _ _).symm | simp [map_eraseIdx]]
        refine fin (Y := X.eraseIdx e) (a4 := a4) rfl ?_ ?_ (fun x hx => hX x (List.mem_of_mem_eraseIdx hx)) (hg4.mono (by omega))
        · rw [List.length_eraseIdx, if_pos hel]; omega
        · rw [List.length_eraseIdx, if_pos hel]; omega
      · exact fin (a4 := a4) rfl x1 x16 hX (hg3.mono (by omega))
    · rw [if_neg (by decide)]
      exact fin (a4 := a4) rfl x1 x16 hX (hg.mono (by omega))
end
end SH
end
section
set_option Elab.async false
set_option linter.all false
set_option maxRecDepth 100000
set_option maxHeartbeats 2000000
/-! Wide chains and what sizes make sure of. -/
open PySem PySem.Spec PyProof.Rows L2 DL
namespace SH
section
variable {b : List Pl} {t z : Tk}
end
end SH
end
section
set_option Elab.async false
set_option linter.all false
set_option maxRecDepth 100000
set_option maxHeartbeats 2000000
/-! The law's own wide chains, the order a list. -/
open PySem PySem.Spec PyProof.Rows L2 DL
namespace SH
open DL.Enc (enc)
local macro_rules | `(tactic| walk_at "k1") => `(tactic| first | walk_at "w2" | with_reducible refine w_ixP0 ?_ | with_reducible refine w_ixP1 ?_ | with_reducible refine w_lstPr ?_ | with_reducible refine w_lenK ?_ | with_reducible refine w_itK ?_ | with_reducible refine w_ixK (by assumption) ?_ | with_reducible refine w_mk1 ?_ | with_reducible refine w_mkO rfl ?_ | with_reducible refine w_modI8 ?_ | with_reducible refine w_addL (by walk_at "len") ?_ | with_reducible refine w_addT (by walk_at "len") ?_ | with_reducible refine w_ixBk (by walk_at "len") (by walk_at "len") ?_ | with_reducible refine w_lenPl ?_ | with_reducible refine w_itPl ?_ | with_reducible refine w_reprS (by assumption) (by decide) (by decide) ?_ | with_reducible refine w_neSelf ?_ | with_reducible refine w_tri0 ?_ | with_reducible refine w_tri1 ?_ | with_reducible refine w_tri2 ?_ | with_reducible refine w_appE (by walk_at "len") ?_)
local macro_rules | `(tactic| walk_at "k") => `(tactic| repeat walk_at "k1")
local macro_rules | `(tactic| walk_at "q1") => `(tactic| first | walk_at "k1" | with_reducible refine w_raiseV ?_)
local macro_rules | `(tactic| walk_at "q") => `(tactic| repeat walk_at "q1")
local macro_rules | `(tactic| walk_at "r1") => `(tactic| first | walk_at "q1" | with_reducible refine w_row ?_ | with_reducible refine w_rwL ?_ | with_reducible refine w_rwT ?_ | with_reducible refine w_callV ?_ | (with_reducible show OpP (gT _ _ _) _ _; with_reducible refine op_some (by with_unfolding_all exact rfl) ?_))
local macro_rules | `(tactic| walk_at "r") => `(tactic| repeat walk_at "r1")
section
variable {g : G} {P : D → G → Prop} {E : XE} {d d2 q : D} {m : Nat} {b : List Pl} {t u w f : Tk} {ρ : DL.Env} {o : List Int}
end
end SH
end
set_option Elab.async false
set_option linter.all false
set_option maxRecDepth 100000
set_option maxHeartbeats 4000000
namespace K40
open PySem PySem.Spec PyProof.Rows L2 DL
abbrev pw : Program := PySem.Challenge.pw_pairpicks_k40_rising_sizes_told
def top (i : Nat) : Stmt := pw.main.body.getD i (.Pass ⟨0, 0, 0, 0⟩)
theorem nogd {A : Around} {b : Heap} : false = true → GdOk A b := fun h => by cases h

abbrev s__law_begun : Stmt := top 20
abbrev s__law_caught : Stmt := top 24
theorem b__law_caught : BindsT "_law_caught" s__law_caught ["_law_work"] := fun _ _ _ _ _ _ us hl => match us, hl with | [_], _ => rfl
theorem ca_ok : CaughtT s__law_caught "_law_work" "_law_caught_here" "PickError" "error" := ⟨⟨_, _, _, _, _, _, _, _, _, _, _, _, _, _, _, rfl⟩, ⟨rfl, rfl, rfl, by decide +kernel, rfl, by decide +kernel, by decide +kernel⟩, rfl, rfl, rfl, rfl, by decide, by decide, by decide, by decide, by decide, by decide, by decide⟩
theorem b__law_begun : BindsT "_law_begun" s__law_begun ["_law_script"] := fun _ _ _ _ _ _ us hl => match us, hl with | [_], _ => rfl
def pks : List Str := ["BadNumber", "BadSizes"]
def isiT : List (Str × Str × Bool) := [(("BadNumber" : Str), ("BadNumber" : Str), true), (("BadNumber" : Str), ("BadSizes" : Str), false), (("BadSizes" : Str), ("BadNumber" : Str), false), (("BadSizes" : Str), ("BadSizes" : Str), true)]
def isiC : List Str := ["BadNumber", "BadSizes"]
abbrev isi : List D → Option D := fIsi (subOf isiT) (fun c => isiC.contains c)
abbrev s_is_between : Stmt := top 7
abbrev N_is_between : List Str := ["thing", "low", "high"]
abbrev t_is_between : Ss := SH.t_is_between
abbrev f_is_between : List D → M D := SH.f_is_between
theorem sc_is_between : FnScope N_is_between ["thing", "low", "high"] (defScope s_is_between) := ⟨rfl, rfl, rfl, by decide +kernel, rfl, by decide +kernel, by decide +kernel⟩
theorem b_is_between : BindsT "is_between" s_is_between ["thing", "low", "high"] := fun _ _ _ _ _ _ us hl => match us, hl with | [_, _, _], _ => rfl
abbrev s_are_sizes : Stmt := top 9
abbrev N_are_sizes : List Str := ["thing", "item"]
abbrev t_are_sizes : Ss := SH.t_are_sizes
abbrev f_are_sizes : List D → M D := SH.f_are_sizes
theorem sc_are_sizes : FnScope N_are_sizes ["thing"] (defScope s_are_sizes) := ⟨rfl, rfl, rfl, by decide +kernel, rfl, by decide +kernel, by decide +kernel⟩
theorem b_are_sizes : BindsT "are_sizes" s_are_sizes ["thing"] := fun _ _ _ _ _ _ us hl => match us, hl with | [_], _ => rfl
abbrev s_need_sizes : Stmt := top 10
abbrev N_need_sizes : List Str := ["thing"]
abbrev t_need_sizes : Ss := SH.t_need_sizes
abbrev f_need_sizes : List D → M D := SH.f_need_sizes
theorem sc_need_sizes : FnScope N_need_sizes ["thing"] (defScope s_need_sizes) := ⟨rfl, rfl, rfl, by decide +kernel, rfl, by decide +kernel, by decide +kernel⟩
theorem b_need_sizes : BindsT "need_sizes" s_need_sizes ["thing"] := fun _ _ _ _ _ _ us hl => match us, hl with | [_], _ => rfl
abbrev s_need_pairs : Stmt := top 12
abbrev N_need_pairs : List Str := ["number"]
def t_need_pairs : Ss :=
  (sIf (bNot (eTr (eCallF f_is_between (sCons (eVar 0) (sCons (eC (.int 1)) (sCons (eBin dAdd (eC (.int 7)) (eC (.int 1))) sNil))))))
  (sRaise "BadNumber")
  (fun ρ => M.pure (.nx ρ)))
def f_need_pairs : List D → M D := fnB t_need_pairs 1
theorem sc_need_pairs : FnScope N_need_pairs ["number"] (defScope s_need_pairs) := ⟨rfl, rfl, rfl, by decide +kernel, rfl, by decide +kernel, by decide +kernel⟩
theorem b_need_pairs : BindsT "need_pairs" s_need_pairs ["number"] := fun _ _ _ _ _ _ us hl => match us, hl with | [_], _ => rfl
abbrev s_lack_at : Stmt := top 13
abbrev N_lack_at : List Str := ["sizes", "number", "least", "size"]
def t_lack_at : Ss :=
  (sRet (eBin dSub (eBin dSub (eBin dMul (eC (.int 2)) (eVar 1)) (eVar 2)) (eCall fLen (sCons (eLc (sItems (eVar 0)) (gN 3) (eTr (eBin dGe (eVar 3) (eVar 2))) (eVar 3) [3]) sNil))))
def f_lack_at : List D → M D := fnB t_lack_at 4
theorem sc_lack_at : FnScope N_lack_at ["sizes", "number", "least"] (defScope s_lack_at) := ⟨rfl, rfl, rfl, by decide +kernel, rfl, by decide +kernel, by decide +kernel⟩
theorem b_lack_at : BindsT "lack_at" s_lack_at ["sizes", "number", "least"] := fun _ _ _ _ _ _ us hl => match us, hl with | [_, _, _], _ => rfl
abbrev s_first_short : Stmt := top 14
abbrev N_first_short : List Str := ["sizes", "number", "least"]
def t_first_short : Ss :=
  (sSeq (sFor (sRange2 (eC (.int 1)) (eBin dAdd (eVar 1) (eC (.int 1)))) (gN 2)
  (sIf (eTr (eBin dGt (eCallF f_lack_at (sCons (eVar 0) (sCons (eVar 1) (sCons (eVar 2) sNil)))) (eC (.int 0))))
  (sRet (eVar 2))
  (fun ρ => M.pure (.nx ρ))))
  (sRet (eC .non)))
def f_first_short : List D → M D := fnB t_first_short 3
theorem sc_first_short : FnScope N_first_short ["sizes", "number"] (defScope s_first_short) := ⟨rfl, rfl, rfl, by decide +kernel, rfl, by decide +kernel, by decide +kernel⟩
theorem b_first_short : BindsT "first_short" s_first_short ["sizes", "number"] := fun _ _ _ _ _ _ us hl => match us, hl with | [_, _], _ => rfl
abbrev s_rises : Stmt := top 15
abbrev N_rises : List Str := ["sizes", "number"]
def t_rises : Ss :=
  (sSeq (sExpr (eCallF f_need_sizes (sCons (eVar 0) sNil)))
  (sSeq (sExpr (eCallF f_need_pairs (sCons (eVar 1) sNil)))
  (sRet (eBin dIs (eCallF f_first_short (sCons (eVar 0) (sCons (eVar 1) sNil))) (eC .non)))))
def f_rises : List D → M D := fnB t_rises 2
theorem sc_rises : FnScope N_rises ["sizes", "number"] (defScope s_rises) := ⟨rfl, rfl, rfl, by decide +kernel, rfl, by decide +kernel, by decide +kernel⟩
theorem b_rises : BindsT "rises" s_rises ["sizes", "number"] := fun _ _ _ _ _ _ us hl => match us, hl with | [_, _], _ => rfl
abbrev s_short_size : Stmt := top 16
abbrev N_short_size : List Str := ["sizes", "number"]
def t_short_size : Ss :=
  (sSeq (sExpr (eCallF f_need_sizes (sCons (eVar 0) sNil)))
  (sSeq (sExpr (eCallF f_need_pairs (sCons (eVar 1) sNil)))
  (sRet (eCallF f_first_short (sCons (eVar 0) (sCons (eVar 1) sNil))))))
def f_short_size : List D → M D := fnB t_short_size 2
theorem sc_short_size : FnScope N_short_size ["sizes", "number"] (defScope s_short_size) := ⟨rfl, rfl, rfl, by decide +kernel, rfl, by decide +kernel, by decide +kernel⟩
theorem b_short_size : BindsT "short_size" s_short_size ["sizes", "number"] := fun _ _ _ _ _ _ us hl => match us, hl with | [_, _], _ => rfl
abbrev s_rises_to : Stmt := top 17
abbrev N_rises_to : List Str := ["sizes", "found"]
def t_rises_to : Ss :=
  (sSeq (sExpr (eCallF f_need_sizes (sCons (eVar 0) sNil)))
  (sSeq (sSet false 1 (eC (.int 0)))
  (sSeq (sWhile (bAnd (eTr (eBin dLe (eVar 1) (eC (.int 7)))) (eTr (eBin dIs (eCallF f_first_short (sCons (eVar 0) (sCons (eBin dAdd (eVar 1) (eC (.int 1))) sNil))) (eC .non))))
  (sSet false 1 (eBin dAdd (eVar 1) (eC (.int 1)))) 66)
  (sRet (eVar 1)))))
def f_rises_to : List D → M D := fnB t_rises_to 2
theorem sc_rises_to : FnScope N_rises_to ["sizes"] (defScope s_rises_to) := ⟨rfl, rfl, rfl, by decide +kernel, rfl, by decide +kernel, by decide +kernel⟩
theorem b_rises_to : BindsT "rises_to" s_rises_to ["sizes"] := fun _ _ _ _ _ _ us hl => match us, hl with | [_], _ => rfl
abbrev s_deficit : Stmt := top 18
abbrev N_deficit : List Str := ["sizes", "number", "least"]
def t_deficit : Ss :=
  (sSeq (sExpr (eCallF f_need_sizes (sCons (eVar 0) sNil)))
  (sSeq (sExpr (eCallF f_need_pairs (sCons (eVar 1) sNil)))
  (sSeq (sIf (eTr (eBin dGt (eCall fMaxS (sCons (eVar 0) sNil)) (eVar 1)))
  (sRaise "BadSizes")
  (fun ρ => M.pure (.nx ρ)))
  (sRet (eCall fMaxS (sCons (eBin dAdd (eLst (sCons (eC (.int 0)) sNil)) (eLc (sRange2 (eC (.int 1)) (eBin dAdd (eVar 1) (eC (.int 1)))) (gN 2) sYes (eCallF f_lack_at (sCons (eVar 0) (sCons (eVar 1) (sCons (eVar 2) sNil)))) [2])) sNil))))))
def f_deficit : List D → M D := fnB t_deficit 3
theorem sc_deficit : FnScope N_deficit ["sizes", "number"] (defScope s_deficit) := ⟨rfl, rfl, rfl, by decide +kernel, rfl, by decide +kernel, by decide +kernel⟩
theorem b_deficit : BindsT "deficit" s_deficit ["sizes", "number"] := fun _ _ _ _ _ _ us hl => match us, hl with | [_, _], _ => rfl
abbrev s__law_draw : Stmt := top 21
abbrev N__law_draw : List Str := ["_law_state", "_law_size_here", "_law_found", "_law_turn", "_law_cell", "_law_mixed_here"]
abbrev t__law_draw : Ss := SH.t__law_draw
abbrev f__law_draw : List D → M D := SH.f__law_draw
theorem sc__law_draw : FnScope N__law_draw ["_law_state", "_law_size_here"] (defScope s__law_draw) := ⟨rfl, rfl, rfl, by decide +kernel, rfl, by decide +kernel, by decide +kernel⟩
theorem b__law_draw : BindsT "_law_draw" s__law_draw ["_law_state", "_law_size_here"] := fun _ _ _ _ _ _ us hl => match us, hl with | [_, _], _ => rfl
abbrev s__law_pick : Stmt := top 22
abbrev N__law_pick : List Str := ["_law_state", "_law_several"]
abbrev t__law_pick : Ss := SH.t__law_pick
abbrev f__law_pick : List D → M D := SH.f__law_pick
theorem sc__law_pick : FnScope N__law_pick ["_law_state", "_law_several"] (defScope s__law_pick) := ⟨rfl, rfl, rfl, by decide +kernel, rfl, by decide +kernel, by decide +kernel⟩
theorem b__law_pick : BindsT "_law_pick" s__law_pick ["_law_state", "_law_several"] := fun _ _ _ _ _ _ us hl => match us, hl with | [_, _], _ => rfl
abbrev s__law_mixed : Stmt := top 23
abbrev N__law_mixed : List Str := ["_law_state", "_law_several", "_law_left", "_law_found"]
abbrev t__law_mixed : Ss := SH.t__law_mixed
abbrev f__law_mixed : List D → M D := SH.f__law_mixed
theorem sc__law_mixed : FnScope N__law_mixed ["_law_state", "_law_several"] (defScope s__law_mixed) := ⟨rfl, rfl, rfl, by decide +kernel, rfl, by decide +kernel, by decide +kernel⟩
theorem b__law_mixed : BindsT "_law_mixed" s__law_mixed ["_law_state", "_law_several"] := fun _ _ _ _ _ _ us hl => match us, hl with | [_, _], _ => rfl
abbrev s__law_wrong_sizes : Stmt := top 25
abbrev N__law_wrong_sizes : List Str := ["_law_state", "_law_sizes_here", "_law_spot", "_law_some", "_law_item"]
def t__law_wrong_sizes : Ss :=
  (sSeq (sSet false 2 (eCallF f__law_draw (sCons (eVar 0) (sCons (eCall fLen (sCons (eVar 1) sNil)) sNil))))
  (sSeq (sSet false 3 (eLc (sItems (eLst (sCons (eC (.int 9)) (sCons (eUn uNeg (eC (.int 1))) (sCons (eC .non) (sCons (eC (.bl true)) (sCons (eC (.str "1")) sNil))))))) (gN 4) sYes (eBin dAdd (eBin dAdd (eSl (eVar 1) oNone (oSome (eVar 2))) (eTup (sCons (eVar 4) sNil))) (eSl (eVar 1) (oSome (eBin dAdd (eVar 2) (eC (.int 1)))) oNone)) [4]))
  (sRet (eCallF f__law_pick (sCons (eVar 0) (sCons (eBin dAdd (eVar 3) (eLst (sCons (eCall fList (sCons (eVar 1) sNil)) (sCons (eTup sNil) (sCons (eBin dMul (eTup (sCons (eC (.int 1)) sNil)) (eC (.int 17))) (sCons (eC .non) (sCons (eC (.int 5)) (sCons (eC (.dct [])) (sCons (eC (.str "12")) sNil))))))))) sNil))))))
def f__law_wrong_sizes : List D → M D := fnB t__law_wrong_sizes 5
theorem sc__law_wrong_sizes : FnScope N__law_wrong_sizes ["_law_state", "_law_sizes_here"] (defScope s__law_wrong_sizes) := ⟨rfl, rfl, rfl, by decide +kernel, rfl, by decide +kernel, by decide +kernel⟩
theorem b__law_wrong_sizes : BindsT "_law_wrong_sizes" s__law_wrong_sizes ["_law_state", "_law_sizes_here"] := fun _ _ _ _ _ _ us hl => match us, hl with | [_, _], _ => rfl
abbrev s__law_lack : Stmt := top 26
abbrev N__law_lack : List Str := ["_law_sizes_here", "_law_number", "_law_least", "_law_size_here"]
def t__law_lack : Ss :=
  (sRet (eBin dSub (eBin dSub (eBin dMul (eC (.int 2)) (eVar 1)) (eVar 2)) (eCall fLen (sCons (eLc (sItems (eVar 0)) (gN 3) (eTr (eBin dGe (eVar 3) (eVar 2))) (eC (.int 1)) [3]) sNil))))
def f__law_lack : List D → M D := fnB t__law_lack 4
theorem sc__law_lack : FnScope N__law_lack ["_law_sizes_here", "_law_number", "_law_least"] (defScope s__law_lack) := ⟨rfl, rfl, rfl, by decide +kernel, rfl, by decide +kernel, by decide +kernel⟩
theorem b__law_lack : BindsT "_law_lack" s__law_lack ["_law_sizes_here", "_law_number", "_law_least"] := fun _ _ _ _ _ _ us hl => match us, hl with | [_, _, _], _ => rfl
abbrev s__law_short_sizes : Stmt := top 27
abbrev N__law_short_sizes : List Str := ["_law_sizes_here", "_law_number", "_law_least"]
def t__law_short_sizes : Ss :=
  (sRet (eLc (sRange2 (eC (.int 1)) (eBin dAdd (eVar 1) (eC (.int 1)))) (gN 2) (eTr (eBin dGt (eCallF f__law_lack (sCons (eVar 0) (sCons (eVar 1) (sCons (eVar 2) sNil)))) (eC (.int 0)))) (eVar 2) [2]))
def f__law_short_sizes : List D → M D := fnB t__law_short_sizes 3
theorem sc__law_short_sizes : FnScope N__law_short_sizes ["_law_sizes_here", "_law_number"] (defScope s__law_short_sizes) := ⟨rfl, rfl, rfl, by decide +kernel, rfl, by decide +kernel, by decide +kernel⟩
theorem b__law_short_sizes : BindsT "_law_short_sizes" s__law_short_sizes ["_law_sizes_here", "_law_number"] := fun _ _ _ _ _ _ us hl => match us, hl with | [_, _], _ => rfl
abbrev s__law_rising : Stmt := top 28
abbrev N__law_rising : List Str := ["_law_state", "_law_number", "_law_found", "_law_extra", "_law_size_here", "_law_lap"]
abbrev t__law_rising : Ss := SH.t__law_rising
abbrev f__law_rising : List D → M D := SH.f__law_rising
theorem sc__law_rising : FnScope N__law_rising ["_law_state", "_law_number"] (defScope s__law_rising) := ⟨rfl, rfl, rfl, by decide +kernel, rfl, by decide +kernel, by decide +kernel⟩
theorem b__law_rising : BindsT "_law_rising" s__law_rising ["_law_state", "_law_number"] := fun _ _ _ _ _ _ us hl => match us, hl with | [_, _], _ => rfl
abbrev s__law_any_sizes : Stmt := top 29
abbrev N__law_any_sizes : List Str := ["_law_state", "_law_number", "_law_lap", "_law_found", "_law_spot"]
abbrev t__law_any_sizes : Ss := SH.t__law_any_sizes
abbrev f__law_any_sizes : List D → M D := SH.f__law_any_sizes
theorem sc__law_any_sizes : FnScope N__law_any_sizes ["_law_state", "_law_number"] (defScope s__law_any_sizes) := ⟨rfl, rfl, rfl, by decide +kernel, rfl, by decide +kernel, by decide +kernel⟩
theorem b__law_any_sizes : BindsT "_law_any_sizes" s__law_any_sizes ["_law_state", "_law_number"] := fun _ _ _ _ _ _ us hl => match us, hl with | [_, _], _ => rfl
abbrev s__law_wrong_number : Stmt := top 30
abbrev N__law_wrong_number : List Str := ["_law_state"]
def t__law_wrong_number : Ss :=
  (sRet (eCallF f__law_pick (sCons (eVar 0) (sCons (eLst (sCons (eC (.int 0)) (sCons (eC (.int 9)) (sCons (eUn uNeg (eC (.int 1))) (sCons (eC .non) (sCons (eC (.bl true)) (sCons (eC (.str "2")) (sCons (eTup (sCons (eC (.int 2)) sNil)) (sCons (eLst (sCons (eC (.int 2)) sNil)) (sCons (eBin dPow (eC (.int 10)) (eC (.int 6))) sNil)))))))))) sNil))))
def f__law_wrong_number : List D → M D := fnB t__law_wrong_number 1
theorem sc__law_wrong_number : FnScope N__law_wrong_number ["_law_state"] (defScope s__law_wrong_number) := ⟨rfl, rfl, rfl, by decide +kernel, rfl, by decide +kernel, by decide +kernel⟩
theorem b__law_wrong_number : BindsT "_law_wrong_number" s__law_wrong_number ["_law_state"] := fun _ _ _ _ _ _ us hl => match us, hl with | [_], _ => rfl
abbrev s_law : Stmt := top 31
abbrev N_law : List Str := ["_law_script", "_law_state", "_law_turn", "_law_short", "_law_due", "_law_first", "_law_all_here", "_law_lacks", "_law_more", "_law_number", "_law_odd", "_law_sizes_here", "_law_work", "_law_wrong", "_law_item", "_law_least"]
def t_law : Ss :=
  (sSeq (sFor (sRange1 (eBin dAdd (eC (.int 3)) (eCall fMin2 (sCons (eCall fLen (sCons (eVar 0) sNil)) (sCons (eC (.int 8)) sNil))))) (gN 2)
  (sSeq (sSet false 9 (eBin dAdd (eC (.int 1)) (eCallF f__law_draw (sCons (eVar 1) (sCons (eC (.int 8)) sNil)))))
  (sSeq (sSet false 11 (eIf (eTr (eBin dEq (eCallF f__law_draw (sCons (eVar 1) (sCons (eC (.int 3)) sNil))) (eC (.int 0)))) (eCallF f__law_any_sizes (sCons (eVar 1) (sCons (eBin dAdd (eC (.int 1)) (eCallF f__law_draw (sCons (eVar 1) (sCons (eC (.int 8)) sNil)))) sNil))) (eCallF f__law_any_sizes (sCons (eVar 1) (sCons (eVar 9) sNil)))))
  (sSeq (sSet false 3 (eCallF f__law_short_sizes (sCons (eVar 11) (sCons (eVar 9) sNil))))
  (sSeq (sSet false 4 (eBin dEq (eVar 3) (eLst sNil)))
  (sSeq (sIf (eTr (eBin dNe (eCall fRepr (sCons (eLst (sCons (eCallF f_rises (sCons (eVar 11) (sCons (eVar 9) sNil))) (sCons (eCallK f_rises [1, 0] sNil (sCons (eVar 9) (sCons (eVar 11) sNil))) sNil))) sNil)) (eCall fRepr (sCons (eLst (sCons (eVar 4) (sCons (eVar 4) sNil))) sNil))))
  (sRet (eC (.bl false)))
  (fun ρ => M.pure (.nx ρ)))
  (sSeq (sSet false 5 (eIf (eTr (eBin dNe (eVar 3) (eLst sNil))) (eBin dIx (eVar 3) (eC (.int 0))) (eC .non)))
  (sSeq (sIf (eTr (eBin dNe (eCall fRepr (sCons (eLst (sCons (eCallF f_short_size (sCons (eVar 11) (sCons (eVar 9) sNil))) (sCons (eCallK f_short_size [1, 0] sNil (sCons (eVar 9) (sCons (eVar 11) sNil))) sNil))) sNil)) (eCall fRepr (sCons (eLst (sCons (eVar 5) (sCons (eVar 5) sNil))) sNil))))
  (sRet (eC (.bl false)))
  (fun ρ => M.pure (.nx ρ)))
  (sSeq (sSet false 6 (eLc (sRange2 (eC (.int 1)) (eC (.int 9))) (gN 14) (eTr (eBin dEq (eCallF f__law_short_sizes (sCons (eVar 11) (sCons (eVar 14) sNil))) (eLst sNil))) (eVar 14) [14]))
  (sSeq (sIf (eTr (eBin dNe (eVar 6) (eLstRg (eRg2 (eC (.int 1)) (eBin dAdd (eCall fLen (sCons (eVar 6) sNil)) (eC (.int 1)))))))
  (sRet (eC (.bl false)))
  (fun ρ => M.pure (.nx ρ)))
  (sSeq (sIf (eTr (eBin dNe (eCall fRepr (sCons (eLst (sCons (eCallF f_rises_to (sCons (eVar 11) sNil)) (sCons (eCallK f_rises_to [0] sNil (sCons (eVar 11) sNil)) sNil))) sNil)) (eCall fRepr (sCons (eBin dMul (eLst (sCons (eCall fLen (sCons (eVar 6) sNil)) sNil)) (eC (.int 2))) sNil))))
  (sRet (eC (.bl false)))
  (fun ρ => M.pure (.nx ρ)))
  (sSeq (sIf (eTr (eBin dGt (eCall fMaxS (sCons (eVar 11) sNil)) (eVar 9)))
  (sIf (bNot (eTr (eCall isi (sCons (eCaught pks (eCallF f_deficit (sCons (eVar 11) (sCons (eVar 9) sNil)))) (sCons (eC (.fn "BadSizes")) sNil)))))
  (sRet (eC (.bl false)))
  (fun ρ => M.pure (.nx ρ)))
  (sSeq (sSet false 7 (eBin dAdd (eLst (sCons (eC (.int 0)) sNil)) (eLc (sRange2 (eC (.int 1)) (eBin dAdd (eVar 9) (eC (.int 1)))) (gN 15) sYes (eCallF f__law_lack (sCons (eVar 11) (sCons (eVar 9) (sCons (eVar 15) sNil)))) [15])))
  (sSeq (sIf (eTr (eBin dNe (eCall fRepr (sCons (eLst (sCons (eCallF f_deficit (sCons (eVar 11) (sCons (eVar 9) sNil))) (sCons (eCallK f_deficit [1, 0] sNil (sCons (eVar 9) (sCons (eVar 11) sNil))) sNil))) sNil)) (eCall fRepr (sCons (eBin dMul (eLst (sCons (eCall fMaxS (sCons (eVar 7) sNil)) sNil)) (eC (.int 2))) sNil))))
  (sRet (eC (.bl false)))
  (fun ρ => M.pure (.nx ρ)))
  (sSeq (sSet false 8 (eBin dAdd (eVar 11) (eBin dMul (eTup (sCons (eVar 9) sNil)) (eCall fMaxS (sCons (eVar 7) sNil)))))
  (sSeq (sIf (bOr (eTr (eBin dNe (eCallF f__law_short_sizes (sCons (eVar 8) (sCons (eVar 9) sNil))) (eLst sNil))) (bAnd (eTr (eBin dGt (eCall fMaxS (sCons (eVar 7) sNil)) (eC (.int 0)))) (eTr (eBin dEq (eCallF f__law_short_sizes (sCons (eSl (eVar 8) oNone (oSome (eUn uNeg (eC (.int 1))))) (sCons (eVar 9) sNil))) (eLst sNil)))))
  (sRet (eC (.bl false)))
  (fun ρ => M.pure (.nx ρ)))
  (sIf (bAnd (eTr (eBin dLt (eCall fLen (sCons (eVar 8) sNil)) (eC (.int 17)))) (eTr (eBin dIsN (eCallF f_rises (sCons (eVar 8) (sCons (eVar 9) sNil))) (eC (.bl true)))))
  (sRet (eC (.bl false)))
  (fun ρ => M.pure (.nx ρ))))))))
  (sSeq (sAsg (eTup (sCons (eCallF f__law_wrong_sizes (sCons (eVar 1) (sCons (eVar 11) sNil))) (sCons (eCallF f__law_wrong_number (sCons (eVar 1) sNil)) sNil))) (gT (gCs (gN 13) (gCs (gN 10) gNl))))
  (sSeq (sFor (sItems (eLst (sCons (eC (.fn "rises")) (sCons (eC (.fn "short_size")) (sCons (eC (.fn "deficit")) (sCons (eC (.lam 0)) sNil)))))) (gN 12)
  (sIf (bNot (eTr (eCall isi (sCons (eCaught pks (eCallVL [("rises", f_rises), ("short_size", f_short_size), ("deficit", f_deficit)] [(0, fun ds => (eCallF f_rises_to (sCons (eVar 0) sNil)) (startE ["_law_one", "_law_two"].length ds))] (eVar 12) (sCons (eVar 13) (sCons (eVar 10) sNil)))) (sCons (eC (.fn "BadSizes")) sNil)))))
  (sRet (eC (.bl false)))
  (fun ρ => M.pure (.nx ρ))))
  (sFor (sItems (eLst (sCons (eC (.fn "rises")) (sCons (eC (.fn "short_size")) (sCons (eC (.fn "deficit")) sNil))))) (gN 12)
  (sIf (bNot (eTr (eCall isi (sCons (eCaught pks (eCallVL [("rises", f_rises), ("short_size", f_short_size), ("deficit", f_deficit)] [(0, fun ds => (eCallF f_rises_to (sCons (eVar 0) sNil)) (startE ["_law_one", "_law_two"].length ds))] (eVar 12) (sCons (eVar 11) (sCons (eVar 10) sNil)))) (sCons (eC (.fn "BadNumber")) sNil)))))
  (sRet (eC (.bl false)))
  (fun ρ => M.pure (.nx ρ))))))))))))))))))
  (sRet (eC (.bl true))))
def f_law : List D → M D := fnB t_law 16
theorem sc_law : FnScope N_law ["_law_script"] (defScope s_law) := ⟨rfl, rfl, rfl, by decide +kernel, rfl, by decide +kernel, by decide +kernel⟩
theorem b_law : BindsT "law" s_law ["_law_script"] := fun _ _ _ _ _ _ us hl => match us, hl with | [_], _ => rfl
theorem kb_rises_number_sizes : KBindsT "rises" s_rises ["sizes", "number"] ["number", "sizes"] [1, 0] 0 := fun _ _ _ _ _ _ us ws h1 h2 => match us, ws, h1, h2 with | [], [_, _], _, _ => ⟨rfl, rfl⟩
theorem kb_short_size_number_sizes : KBindsT "short_size" s_short_size ["sizes", "number"] ["number", "sizes"] [1, 0] 0 := fun _ _ _ _ _ _ us ws h1 h2 => match us, ws, h1, h2 with | [], [_, _], _, _ => ⟨rfl, rfl⟩
theorem kb_rises_to_sizes : KBindsT "rises_to" s_rises_to ["sizes"] ["sizes"] [0] 0 := fun _ _ _ _ _ _ us ws h1 h2 => match us, ws, h1, h2 with | [], [_], _, _ => ⟨rfl, rfl⟩
theorem kb_deficit_number_sizes : KBindsT "deficit" s_deficit ["sizes", "number"] ["number", "sizes"] [1, 0] 0 := fun _ _ _ _ _ _ us ws h1 h2 => match us, ws, h1, h2 with | [], [_, _], _, _ => ⟨rfl, rfl⟩
/-- what the top has written -/
structure Tx (K : PySem.W.Frag) (mg : Str → Option Value) (cL : Addr) : Prop where
  F_is_between : IsFn K mg "is_between" s_is_between
  F_are_sizes : IsFn K mg "are_sizes" s_are_sizes
  F_need_sizes : IsFn K mg "need_sizes" s_need_sizes
  F_need_pairs : IsFn K mg "need_pairs" s_need_pairs
  F_lack_at : IsFn K mg "lack_at" s_lack_at
  F_first_short : IsFn K mg "first_short" s_first_short
  F_rises : IsFn K mg "rises" s_rises
  F_short_size : IsFn K mg "short_size" s_short_size
  F_rises_to : IsFn K mg "rises_to" s_rises_to
  F_deficit : IsFn K mg "deficit" s_deficit
  F__law_begun : IsFn K mg "_law_begun" s__law_begun
  F__law_draw : IsFn K mg "_law_draw" s__law_draw
  F__law_pick : IsFn K mg "_law_pick" s__law_pick
  F__law_mixed : IsFn K mg "_law_mixed" s__law_mixed
  F__law_caught : IsFn K mg "_law_caught" s__law_caught
  F__law_wrong_sizes : IsFn K mg "_law_wrong_sizes" s__law_wrong_sizes
  F__law_lack : IsFn K mg "_law_lack" s__law_lack
  F__law_short_sizes : IsFn K mg "_law_short_sizes" s__law_short_sizes
  F__law_rising : IsFn K mg "_law_rising" s__law_rising
  F__law_any_sizes : IsFn K mg "_law_any_sizes" s__law_any_sizes
  F__law_wrong_number : IsFn K mg "_law_wrong_number" s__law_wrong_number
  F_law : IsFnL K mg "law" s_law cL
  E_BadNumber : IsExc K mg "BadNumber"
  E_BadSizes : IsExc K mg "BadSizes"
  I_MOST_NUMBER : IsInt mg "MOST_NUMBER" 7
  I_MOST_PLANS : IsInt mg "MOST_PLANS" 16
  n_abs : mg "abs" = none
  n_all : mg "all" = none
  n_bool : mg "bool" = none
  n_int : mg "int" = none
  n_isinstance : mg "isinstance" = none
  n_len : mg "len" = none
  n_list : mg "list" = none
  n_max : mg "max" = none
  n_min : mg "min" = none
  n_range : mg "range" = none
  n_repr : mg "repr" = none
  n_tuple : mg "tuple" = none
  isi : IsiOk K mg (subOf isiT) (fun c => isiC.contains c)
  pk : PkOk K mg "PickError" pks
section
variable {P : Program} {w : World} {K : PySem.W.Frag} {mg : Str → Option Value} {base : Heap} {T : List (Addr × Str)} {cL : Addr}
theorem ok_is_between (X0 : Tx K mg cL) : Cal false P w K mg base T 1 "is_between" s_is_between ["thing", "low", "high"] .sh f_is_between := by
  refine cal_of (t := t_is_between) X0.F_is_between sc_is_between (fun f cdv A outer s H E n hX hr tk hgdT hk hTm => ?_)
  exact (ds_one (ds_retS hk (DE.sh (de_and (de_callB (call_isi' isi0_ok) rfl X0.n_isinstance rfl (da_cons (de_var (pv 0)) (da_cons (de_ty rfl X0.n_int rfl) da_nil))) (de_and (de_not (de_callB (call_isi' isi0_ok) rfl X0.n_isinstance rfl (da_cons (de_var (pv 0)) (da_cons (de_ty rfl X0.n_bool rfl) da_nil)))) (de_one (de_chain op_dLe op_dLe (de_var (pv 1)) (de_var (pv 0)) (de_var (pv 2)))))))))
theorem ok_are_sizes (X0 : Tx K mg cL) : Cal false P w K mg base T 2 "are_sizes" s_are_sizes ["thing"] .sh f_are_sizes := by
  refine cal_of (t := t_are_sizes) X0.F_are_sizes sc_are_sizes (fun f cdv A outer s H E n hX hr tk hgdT hk hTm => ?_)
  exact (ds_cons (ds_if (dt_w (dw_or (dt_not (dt_of (de_callB (call_isi' isi0_ok) rfl X0.n_isinstance rfl (da_cons (de_var (pv 0)) (da_cons (de_ty rfl X0.n_tuple rfl) da_nil))))) (dw_or1 (dt_not (dt_chain op_dLe op_dLe de_int (de_callB call_len' rfl X0.n_len rfl (da_cons (de_var (pv 0)) da_nil)) (de_gint X0.I_MOST_PLANS rfl)))))) (ds_one (ds_retS hk (DE.sh de_bl))) ds_nil) (ds_one (ds_retS hk (DE.sh (de_callB (call_all' hX) rfl X0.n_all rfl (da_cons (de_lc (own := [("item", 1)]) hX (di_seq (DE.peek (de_var (pv 0)))) (blkOk_by (by kernel_rfl)) (by decide) (fun _ _ _ _ _ => (tg_name (XG.blk hX).nd rfl (.inl rfl))) (fun _ _ _ _ _ => dts_nil) (fun _ _ _ _ _ => (de_cal (ok_is_between X0) b_is_between nogd LamX.takes0 hr (by decide) rfl (das_cons (de_var (pv 1)) (das_cons (DE.sh de_int) (das_cons (DE.sh (de_bin op_dAdd (de_gint X0.I_MOST_NUMBER rfl) de_int)) das_nil))) (al_cons (al_cons (al_cons al_nil)))))) da_nil))))))
theorem ok_need_sizes (X0 : Tx K mg cL) : Cal false P w K mg base T 3 "need_sizes" s_need_sizes ["thing"] .sh f_need_sizes := by
  refine cal_of (t := t_need_sizes) X0.F_need_sizes sc_need_sizes (fun f cdv A outer s H E n hX hr tk hgdT hk hTm => ?_)
  exact (ds_one (ds_if (dt_not (dt_of (de_cal (ok_are_sizes X0) b_are_sizes nogd tk hr (by decide) rfl (das_cons (de_var (pv 0)) das_nil) (al_cons al_nil)))) (ds_one (ds_raiseC hX tk X0.E_BadSizes rfl)) ds_nil))
theorem ok_need_pairs (X0 : Tx K mg cL) : Cal false P w K mg base T 2 "need_pairs" s_need_pairs ["number"] .sh f_need_pairs := by
  refine cal_of (t := t_need_pairs) X0.F_need_pairs sc_need_pairs (fun f cdv A outer s H E n hX hr tk hgdT hk hTm => ?_)
  exact (ds_one (ds_if (dt_not (dt_of (de_cal (ok_is_between X0) b_is_between nogd tk hr (by decide) rfl (das_cons (de_var (pv 0)) (das_cons (DE.sh de_int) (das_cons (DE.sh (de_bin op_dAdd (de_gint X0.I_MOST_NUMBER rfl) de_int)) das_nil))) (al_cons (al_cons (al_cons al_nil)))))) (ds_one (ds_raiseC hX tk X0.E_BadNumber rfl)) ds_nil))
theorem ok_lack_at (X0 : Tx K mg cL) : Cal false P w K mg base T 1 "lack_at" s_lack_at ["sizes", "number", "least"] .sh f_lack_at := by
  refine cal_of (t := t_lack_at) X0.F_lack_at sc_lack_at (fun f cdv A outer s H E n hX hr tk hgdT hk hTm => ?_)
  exact (ds_one (ds_retS hk (DE.sh (de_bin op_dSub (de_bin op_dSub (de_bin op_dMul de_int (de_var (pv 1))) (de_var (pv 2))) (de_callB call_len' rfl X0.n_len rfl (da_cons (de_lc (own := [("size", 3)]) hX (di_seq (DE.peek (de_var (pv 0)))) (blkOk_by (by kernel_rfl)) (by decide) (fun _ _ _ _ _ => (tg_name (XG.blk hX).nd rfl (.inl rfl))) (fun _ _ _ _ _ => (dts_one (dt_cmp op_dGe (de_var (pv 3)) (de_var (pv 2)) (nomark _)))) (fun _ _ _ _ _ => (de_var (pv 3)))) da_nil))))))
theorem ok_first_short (X0 : Tx K mg cL) : Cal false P w K mg base T 2 "first_short" s_first_short ["sizes", "number"] .sh f_first_short := by
  refine cal_of (t := t_first_short) X0.F_first_short sc_first_short (fun f cdv A outer s H E n hX hr tk hgdT hk hTm => ?_)
  exact (ds_cons (ds_for (passes_of rfl) hX.calm (di_range2 rfl X0.n_range de_int (de_bin op_dAdd (de_var (pv 1)) de_int)) (tg_name hX.nd rfl (.inl rfl)) (fun _ _ => (ds_one (ds_if (dt_cmp op_dGt (de_cal (ok_lack_at X0) b_lack_at nogd tk hr (by decide) rfl (das_cons (de_var (pv 0)) (das_cons (de_var (pv 1)) (das_cons (de_var (pv 2)) das_nil))) (al_cons (al_cons (al_cons al_nil)))) de_int (nomark _)) (ds_one (ds_retS hk (de_var (pv 2)))) ds_nil)))) (ds_one (ds_retS hk (DE.sh de_non))))
theorem ok_rises (X0 : Tx K mg cL) : Cal false P w K mg base T 4 "rises" s_rises ["sizes", "number"] .sh f_rises := by
  refine cal_of (t := t_rises) X0.F_rises sc_rises (fun f cdv A outer s H E n hX hr tk hgdT hk hTm => ?_)
  exact (ds_cons (ds_expr (de_cal (ok_need_sizes X0) b_need_sizes nogd tk hr (by decide) rfl (das_cons (de_var (pv 0)) das_nil) (al_cons al_nil))) (ds_cons (ds_expr (de_cal (ok_need_pairs X0) b_need_pairs nogd tk hr (by decide) rfl (das_cons (de_var (pv 1)) das_nil) (al_cons al_nil))) (ds_one (ds_retS hk (DE.sh (de_cmp op_dIs (de_cal (ok_first_short X0) b_first_short nogd tk hr (by decide) rfl (das_cons (de_var (pv 0)) (das_cons (de_var (pv 1)) das_nil)) (al_cons (al_cons al_nil))) de_non (nomark _)))))))
theorem ok_short_size (X0 : Tx K mg cL) : Cal false P w K mg base T 4 "short_size" s_short_size ["sizes", "number"] .sh f_short_size := by
  refine cal_of (t := t_short_size) X0.F_short_size sc_short_size (fun f cdv A outer s H E n hX hr tk hgdT hk hTm => ?_)
  exact (ds_cons (ds_expr (de_cal (ok_need_sizes X0) b_need_sizes nogd tk hr (by decide) rfl (das_cons (de_var (pv 0)) das_nil) (al_cons al_nil))) (ds_cons (ds_expr (de_cal (ok_need_pairs X0) b_need_pairs nogd tk hr (by decide) rfl (das_cons (de_var (pv 1)) das_nil) (al_cons al_nil))) (ds_one (ds_retS hk (de_cal (ok_first_short X0) b_first_short nogd tk hr (by decide) rfl (das_cons (de_var (pv 0)) (das_cons (de_var (pv 1)) das_nil)) (al_cons (al_cons al_nil)))))))
theorem ok_rises_to (X0 : Tx K mg cL) : Cal false P w K mg base T 4 "rises_to" s_rises_to ["sizes"] .sh f_rises_to := by
  refine cal_of (t := t_rises_to) X0.F_rises_to sc_rises_to (fun f cdv A outer s H E n hX hr tk hgdT hk hTm => ?_)
  exact (ds_cons (ds_expr (de_cal (ok_need_sizes X0) b_need_sizes nogd tk hr (by decide) rfl (das_cons (de_var (pv 0)) das_nil) (al_cons al_nil))) (ds_cons (ds_set false hX.nd rfl (.inl rfl) (DE.sh de_int)) (ds_cons (ds_while 66 (passes_of rfl) (dt_w (dw_and (dt_cmp op_dLe (de_var (pv 1)) (de_gint X0.I_MOST_NUMBER rfl) (nomark _)) (dw_and1 (dt_cmp op_dIs (de_cal (ok_first_short X0) b_first_short nogd tk hr (by decide) rfl (das_cons (de_var (pv 0)) (das_cons (DE.sh (de_bin op_dAdd (de_var (pv 1)) de_int)) das_nil)) (al_cons (al_cons al_nil))) de_non (nomark _))))) (ds_one (ds_set false hX.nd rfl (.inl rfl) (DE.sh (de_bin op_dAdd (de_var (pv 1)) de_int))))) (ds_one (ds_retS hk (de_var (pv 1)))))))
theorem ok_deficit (X0 : Tx K mg cL) : Cal false P w K mg base T 4 "deficit" s_deficit ["sizes", "number"] .sh f_deficit := by
  refine cal_of (t := t_deficit) X0.F_deficit sc_deficit (fun f cdv A outer s H E n hX hr tk hgdT hk hTm => ?_)
  exact (ds_cons (ds_expr (de_cal (ok_need_sizes X0) b_need_sizes nogd tk hr (by decide) rfl (das_cons (de_var (pv 0)) das_nil) (al_cons al_nil))) (ds_cons (ds_expr (de_cal (ok_need_pairs X0) b_need_pairs nogd tk hr (by decide) rfl (das_cons (de_var (pv 1)) das_nil) (al_cons al_nil))) (ds_cons (ds_if (dt_cmp op_dGt (de_callB (call_maxS' hX) rfl X0.n_max rfl (da_cons (de_var (pv 0)) da_nil)) (de_var (pv 1)) (nomark _)) (ds_one (ds_raiseC hX tk X0.E_BadSizes rfl)) ds_nil) (ds_one (ds_retS hk (DE.sh (de_callB (call_maxS' hX) rfl X0.n_max rfl (da_cons (de_bin op_dAdd (de_lst (das_cons (DE.sh de_int) das_nil)) (de_lc (own := [("least", 2)]) hX (di_range2 rfl X0.n_range de_int (de_bin op_dAdd (de_var (pv 1)) de_int)) (blkOk_by (by kernel_rfl)) (by decide) (fun _ _ _ _ _ => (tg_name (XG.blk hX).nd rfl (.inl rfl))) (fun _ _ _ _ _ => dts_nil) (fun _ _ _ _ _ => (de_cal (ok_lack_at X0) b_lack_at nogd LamX.takes0 hr (by decide) rfl (das_cons (de_var (pv 0)) (das_cons (de_var (pv 1)) (das_cons (de_var (pv 2)) das_nil))) (al_cons (al_cons (al_cons al_nil))))))) da_nil))))))))
theorem ok__law_draw (X0 : Tx K mg cL) : Cal false P w K mg base T 1 "_law_draw" s__law_draw ["_law_state", "_law_size_here"] .sh f__law_draw := by
  refine cal_of (t := t__law_draw) X0.F__law_draw sc__law_draw (fun f cdv A outer s H E n hX hr tk hgdT hk hTm => ?_)
  exact (ds_cons (ds_while 66 (passes_of rfl) (dt_w (dw_and (dt_cmp (op_dEq hX) (de_stL hX (pv 0)) de_int (nomark _)) (dw_and1 (dt_large hX (pv 0))))) (ds_one (ds_stL hX (pv 0) (de_popL hX (pv 0))))) (ds_cons (ds_if (dt_cmp op_dGt (de_stL hX (pv 0)) de_int (nomark _)) (ds_cons (ds_set false hX.nd rfl (.inl rfl) (DE.sh (de_bin op_dMod (de_callTy call_int' rfl X0.n_int rfl (da_cons (de_stL hX (pv 0)) da_nil)) (de_var (pv 1))))) (ds_cons (ds_stL hX (pv 0) (de_bin op_dFdiv (de_stL hX (pv 0)) (de_var (pv 1)))) (ds_one (ds_retS hk (de_var (pv 2)))))) ds_nil) (ds_cons (ds_set false hX.nd rfl (.inl rfl) (DE.sh (de_bin op_dAdd (de_stT hX (pv 0)) de_int))) (ds_cons (ds_stT hX (pv 0) (de_var (pv 3))) (ds_cons (ds_set false hX.nd rfl (.inl rfl) (DE.sh (de_if (dt_cells hX (pv 0)) (de_cellIx hX (pv 0) (de_bin op_dMod (de_callTy call_int' rfl X0.n_int rfl (da_cons (de_var (pv 3)) da_nil)) (de_cellLen hX rfl X0.n_len (pv 0)))) de_int))) (ds_cons (ds_set false hX.nd rfl (.inl rfl) (DE.sh (de_bin op_dMod (de_callTy call_int' rfl X0.n_int rfl (da_cons (de_bin op_dPow (de_bin op_dAdd (de_bin op_dAdd (de_bin op_dMod (de_callTy call_int' rfl X0.n_int rfl (da_cons (de_var (pv 4)) da_nil)) de_int) (de_bin op_dMul de_int (de_var (pv 3)))) de_int) de_int) da_nil)) de_int))) (ds_one (ds_retS hk (DE.sh (de_bin op_dMod (de_callTy call_int' rfl X0.n_int rfl (da_cons (de_bin op_dFdiv (de_bin op_dMod (de_callTy call_int' rfl X0.n_int rfl (da_cons (de_bin op_dPow (de_bin op_dAdd (de_var (pv 5)) (de_bin op_dMul de_int (de_var (pv 3)))) de_int) da_nil)) de_int) de_int) da_nil)) (de_var (pv 1))))))))))))
theorem ok__law_pick (X0 : Tx K mg cL) : Cal false P w K mg base T 2 "_law_pick" s__law_pick ["_law_state", "_law_several"] .sh f__law_pick := by
  refine cal_of (t := t__law_pick) X0.F__law_pick sc__law_pick (fun f cdv A outer s H E n hX hr tk hgdT hk hTm => ?_)
  exact (ds_one (ds_retS hk (de_ix (ix_seq' hX) (de_var (pv 1)) (de_cal (ok__law_draw X0) b__law_draw nogd tk hr (by decide) rfl (das_cons (de_var (pv 0)) (das_cons (DE.sh (de_callB call_len' rfl X0.n_len rfl (da_cons (de_var (pv 1)) da_nil))) das_nil)) (al_cons (al_cons al_nil))))))
theorem ok__law_mixed (X0 : Tx K mg cL) : Cal false P w K mg base T 2 "_law_mixed" s__law_mixed ["_law_state", "_law_several"] .sh f__law_mixed := by
  refine cal_of (t := t__law_mixed) X0.F__law_mixed sc__law_mixed (fun f cdv A outer s H E n hX hr tk hgdT hk hTm => ?_)
  exact (ds_cons (ds_par2 (o1 := true) (o2 := true) (i := 2) (j := 3) hX rfl rfl (by decide) rfl rfl (de_callTy call_list' rfl X0.n_list rfl (da_cons (de_var (pv 1)) da_nil)) (de_lst das_nil)) (ds_cons (ds_while 1000 (passes_of rfl) (dt_cmp (op_dNeX hX) (de_peek (pv 2)) (de_lst das_nil) (nomark _)) (ds_one (ds_exprM (me_meth1 PySem.F.slot_list_append PySem.F.type_list_append mt_append lm_append (pv 3) (me_meth1 PySem.F.slot_list_pop PySem.F.type_list_pop mt_popAt lm_pop (pv 2) (me_of (de_cal (ok__law_draw X0) b__law_draw nogd tk hr (by decide) rfl (das_cons (de_var (pv 0)) (das_cons (DE.sh (de_callB call_len' rfl X0.n_len rfl (da_cons (de_peek (pv 2)) da_nil))) das_nil)) (al_cons (al_cons al_nil))))))))) (ds_one (ds_frz [3] (ds_retS hk (de_var (pv 3)))))))
theorem ok__law_wrong_sizes (X0 : Tx K mg cL) : Cal false P w K mg base T 3 "_law_wrong_sizes" s__law_wrong_sizes ["_law_state", "_law_sizes_here"] .sh f__law_wrong_sizes := by
  refine cal_of (t := t__law_wrong_sizes) X0.F__law_wrong_sizes sc__law_wrong_sizes (fun f cdv A outer s H E n hX hr tk hgdT hk hTm => ?_)
  exact (ds_cons (ds_set false hX.nd rfl (.inr rfl) (de_cal (ok__law_draw X0) b__law_draw nogd tk hr (by decide) rfl (das_cons (de_var (pv 0)) (das_cons (DE.sh (de_callB call_len' rfl X0.n_len rfl (da_cons (de_var (pv 1)) da_nil))) das_nil)) (al_cons (al_cons al_nil)))) (ds_cons (ds_setLcS (own := [("_law_item", 4)]) hX rfl rfl rfl (di_seq (DE.peek (de_lst (das_cons (DE.sh de_int) (das_cons (DE.sh (de_un op_neg de_int)) (das_cons (DE.sh de_non) (das_cons (DE.sh de_bl) (das_cons (DE.sh de_str) das_nil)))))))) (blkOk_by (by kernel_rfl)) (by decide) (fun _ _ _ _ _ => (tg_name (XG.blk hX).nd rfl (.inl rfl))) (fun _ _ _ _ _ => dts_nil) (fun _ _ _ _ _ => (DE.sh (de_bin op_dAdd (de_bin op_dAdd (de_sl (de_var (pv 1)) do_none (do_some (de_var (pv 2)))) (de_tup (das_cons (de_var (pv 4)) das_nil))) (de_sl (de_var (pv 1)) (do_some (de_bin op_dAdd (de_var (pv 2)) de_int)) do_none))))) (ds_one (ds_retS hk (de_cal (ok__law_pick X0) b__law_pick nogd tk hr (by decide) rfl (das_cons (de_var (pv 0)) (das_cons (DE.sh (de_bin op_dAdd (de_var (pv 3)) (de_lst (das_cons (DE.sh (de_callTy call_list' rfl X0.n_list rfl (da_cons (de_var (pv 1)) da_nil))) (das_cons (DE.sh (de_tup das_nil)) (das_cons (DE.sh (de_bin op_dMul (de_tup (das_cons (DE.sh de_int) das_nil)) de_int)) (das_cons (DE.sh de_non) (das_cons (DE.sh de_int) (das_cons (DE.sh de_dct0) (das_cons (DE.sh de_str) das_nil)))))))))) das_nil)) (al_cons (al_cons al_nil)))))))
theorem ok__law_lack (X0 : Tx K mg cL) : Cal false P w K mg base T 1 "_law_lack" s__law_lack ["_law_sizes_here", "_law_number", "_law_least"] .sh f__law_lack := by
  refine cal_of (t := t__law_lack) X0.F__law_lack sc__law_lack (fun f cdv A outer s H E n hX hr tk hgdT hk hTm => ?_)
  exact (ds_one (ds_retS hk (DE.sh (de_bin op_dSub (de_bin op_dSub (de_bin op_dMul de_int (de_var (pv 1))) (de_var (pv 2))) (de_callB call_len' rfl X0.n_len rfl (da_cons (de_lc (own := [("_law_size_here", 3)]) hX (di_seq (DE.peek (de_var (pv 0)))) (blkOk_by (by kernel_rfl)) (by decide) (fun _ _ _ _ _ => (tg_name (XG.blk hX).nd rfl (.inl rfl))) (fun _ _ _ _ _ => (dts_one (dt_cmp op_dGe (de_var (pv 3)) (de_var (pv 2)) (nomark _)))) (fun _ _ _ _ _ => (DE.sh de_int))) da_nil))))))
theorem ok__law_short_sizes (X0 : Tx K mg cL) : Cal false P w K mg base T 2 "_law_short_sizes" s__law_short_sizes ["_law_sizes_here", "_law_number"] .sh f__law_short_sizes := by
  refine cal_of (t := t__law_short_sizes) X0.F__law_short_sizes sc__law_short_sizes (fun f cdv A outer s H E n hX hr tk hgdT hk hTm => ?_)
  exact (ds_one (ds_retS hk (DE.sh (de_lc (own := [("_law_least", 2)]) hX (di_range2 rfl X0.n_range de_int (de_bin op_dAdd (de_var (pv 1)) de_int)) (blkOk_by (by kernel_rfl)) (by decide) (fun _ _ _ _ _ => (tg_name (XG.blk hX).nd rfl (.inl rfl))) (fun _ _ _ _ _ => (dts_one (dt_cmp op_dGt (de_cal (ok__law_lack X0) b__law_lack nogd LamX.takes0 hr (by decide) rfl (das_cons (de_var (pv 0)) (das_cons (de_var (pv 1)) (das_cons (de_var (pv 2)) das_nil))) (al_cons (al_cons (al_cons al_nil)))) de_int (nomark _)))) (fun _ _ _ _ _ => (de_var (pv 2)))))))
theorem ok__law_rising (X0 : Tx K mg cL) : Cal false P w K mg base T 3 "_law_rising" s__law_rising ["_law_state", "_law_number"] .sh f__law_rising := by
  refine cal_of (t := t__law_rising) X0.F__law_rising sc__law_rising (fun f cdv A outer s H E n hX hr tk hgdT hk hTm => ?_)
  exact (ds_cons (ds_set false hX.nd rfl (.inl rfl) (DE.sh (de_bin op_dAdd (de_listRg hX rfl X0.n_list (drg_2 rfl X0.n_range de_int (de_var (pv 1)))) (de_bin op_dMul (de_lst (das_cons (de_var (pv 1)) das_nil)) (de_var (pv 1)))))) (ds_cons (ds_if (dt_cmp (op_dEq hX) (de_cal (ok__law_draw X0) b__law_draw nogd tk hr (by decide) rfl (das_cons (de_var (pv 0)) (das_cons (DE.sh de_int) das_nil)) (al_cons (al_cons al_nil))) de_int (nomark _)) (ds_one (ds_setLcS (own := [("_law_size_here", 4)]) hX rfl rfl rfl (di_seq (DE.peek (de_var (pv 2)))) (blkOk_by (by kernel_rfl)) (by decide) (fun _ _ _ _ _ => (tg_name (XG.blk hX).nd rfl (.inl rfl))) (fun _ _ _ _ _ => dts_nil) (fun _ _ _ _ _ => (DE.sh (de_bin op_dAdd (de_var (pv 4)) (de_cal (ok__law_draw X0) b__law_draw nogd LamX.takes0 hr (by decide) rfl (das_cons (de_var (pv 0)) (das_cons (DE.sh (de_bin op_dAdd (de_bin op_dSub (de_var (pv 1)) (de_var (pv 4))) de_int)) das_nil)) (al_cons (al_cons al_nil)))))))) ds_nil) (ds_cons (ds_set false hX.nd rfl (.inl rfl) (de_if (dt_cmp op_dLt (de_callB call_len' rfl X0.n_len rfl (da_cons (de_var (pv 2)) da_nil)) de_int (nomark _)) (de_cal (ok__law_draw X0) b__law_draw nogd tk hr (by decide) rfl (das_cons (de_var (pv 0)) (das_cons (DE.sh de_int) das_nil)) (al_cons (al_cons al_nil))) (DE.sh de_int))) (ds_one (ds_retS hk (DE.sh (de_callTy call_tuple' rfl X0.n_tuple rfl (da_cons (de_cal (ok__law_mixed X0) b__law_mixed nogd tk hr (by decide) rfl (das_cons (de_var (pv 0)) (das_cons (DE.sh (de_bin op_dAdd (de_var (pv 2)) (de_lc (own := [("_law_lap", 5)]) hX (di_range1 rfl X0.n_range (de_var (pv 3))) (blkOk_by (by kernel_rfl)) (by decide) (fun _ _ _ _ _ => (tg_name (XG.blk hX).nd rfl (.inl rfl))) (fun _ _ _ _ _ => dts_nil) (fun _ _ _ _ _ => (de_cal (ok__law_draw X0) b__law_draw nogd LamX.takes0 hr (by decide) rfl (das_cons (de_var (pv 0)) (das_cons (DE.sh (de_bin op_dAdd (de_var (pv 1)) de_int)) das_nil)) (al_cons (al_cons al_nil))))))) das_nil)) (al_cons (al_cons al_nil))) da_nil))))))))
theorem ok__law_any_sizes (X0 : Tx K mg cL) : Cal false P w K mg base T 4 "_law_any_sizes" s__law_any_sizes ["_law_state", "_law_number"] .sh f__law_any_sizes := by
  refine cal_of (t := t__law_any_sizes) X0.F__law_any_sizes sc__law_any_sizes (fun f cdv A outer s H E n hX hr tk hgdT hk hTm => ?_)
  exact (ds_cons (ds_if (dt_cmp (op_dEq hX) (de_cal (ok__law_draw X0) b__law_draw nogd tk hr (by decide) rfl (das_cons (de_var (pv 0)) (das_cons (DE.sh de_int) das_nil)) (al_cons (al_cons al_nil))) de_int (nomark _)) (ds_one (ds_retS hk (DE.sh (de_callTy call_tuple' rfl X0.n_tuple rfl (da_cons (de_lc (own := [("_law_lap", 2)]) hX (di_range1 rfl X0.n_range (de_bin op_dAdd de_int (de_cal (ok__law_draw X0) b__law_draw nogd tk hr (by decide) rfl (das_cons (de_var (pv 0)) (das_cons (DE.sh de_int) das_nil)) (al_cons (al_cons al_nil))))) (blkOk_by (by kernel_rfl)) (by decide) (fun _ _ _ _ _ => (tg_name (XG.blk hX).nd rfl (.inl rfl))) (fun _ _ _ _ _ => dts_nil) (fun _ _ _ _ _ => (de_cal (ok__law_draw X0) b__law_draw nogd LamX.takes0 hr (by decide) rfl (das_cons (de_var (pv 0)) (das_cons (DE.sh (de_bin op_dAdd (de_var (pv 1)) de_int)) das_nil)) (al_cons (al_cons al_nil))))) da_nil))))) ds_nil) (ds_cons (ds_set true hX.nd rfl (.inl rfl) (de_callTy call_list' rfl X0.n_list rfl (da_cons (de_cal (ok__law_rising X0) b__law_rising nogd tk hr (by decide) rfl (das_cons (de_var (pv 0)) (das_cons (de_var (pv 1)) das_nil)) (al_cons (al_cons al_nil))) da_nil))) (ds_cons (ds_for (passes_of rfl) hX.calm (di_range1 rfl X0.n_range (de_cal (ok__law_draw X0) b__law_draw nogd tk hr (by decide) rfl (das_cons (de_var (pv 0)) (das_cons (DE.sh de_int) das_nil)) (al_cons (al_cons al_nil)))) (tg_name hX.nd rfl (.inl rfl)) (fun _ _ => (ds_cons (ds_set false hX.nd rfl (.inl rfl) (de_cal (ok__law_draw X0) b__law_draw nogd tk hr (by decide) rfl (das_cons (de_var (pv 0)) (das_cons (DE.sh (de_callB call_len' rfl X0.n_len rfl (da_cons (de_peek (pv 3)) da_nil))) das_nil)) (al_cons (al_cons al_nil)))) (ds_one (ds_setU hX (pv 3) (de_var (pv 4)) (DE.sh (de_callB (call_max2' hX) rfl X0.n_max rfl (da_cons de_int (da_cons (de_bin op_dSub (de_bin op_dSub (de_ix (ix_seq' hX) (de_peek (pv 3)) (de_var (pv 4))) de_int) (de_cal (ok__law_draw X0) b__law_draw nogd tk hr (by decide) rfl (das_cons (de_var (pv 0)) (das_cons (DE.sh de_int) das_nil)) (al_cons (al_cons al_nil)))) da_nil))))))))) (ds_cons (ds_if (dt_w (dw_and (dt_cmp op_dGt (de_callB call_len' rfl X0.n_len rfl (da_cons (de_peek (pv 3)) da_nil)) de_int (nomark _)) (dw_and1 (dt_cmp (op_dEq hX) (de_cal (ok__law_draw X0) b__law_draw nogd tk hr (by decide) rfl (das_cons (de_var (pv 0)) (das_cons (DE.sh de_int) das_nil)) (al_cons (al_cons al_nil))) de_int (nomark _))))) (ds_one (ds_exprM (me_meth1 PySem.F.slot_list_pop PySem.F.type_list_pop mt_popAt lm_pop (pv 3) (me_of (de_cal (ok__law_draw X0) b__law_draw nogd tk hr (by decide) rfl (das_cons (de_var (pv 0)) (das_cons (DE.sh (de_callB call_len' rfl X0.n_len rfl (da_cons (de_peek (pv 3)) da_nil))) das_nil)) (al_cons (al_cons al_nil))))))) ds_nil) (ds_one (ds_retS hk (DE.sh (de_callTy call_tuple' rfl X0.n_tuple rfl (da_cons (de_peek (pv 3)) da_nil)))))))))
theorem ok__law_wrong_number (X0 : Tx K mg cL) : Cal false P w K mg base T 3 "_law_wrong_number" s__law_wrong_number ["_law_state"] .sh f__law_wrong_number := by
  refine cal_of (t := t__law_wrong_number) X0.F__law_wrong_number sc__law_wrong_number (fun f cdv A outer s H E n hX hr tk hgdT hk hTm => ?_)
  exact (ds_one (ds_retS hk (de_cal (ok__law_pick X0) b__law_pick nogd tk hr (by decide) rfl (das_cons (de_var (pv 0)) (das_cons (DE.sh (de_lst (das_cons (DE.sh de_int) (das_cons (DE.sh de_int) (das_cons (DE.sh (de_un op_neg de_int)) (das_cons (DE.sh de_non) (das_cons (DE.sh de_bl) (das_cons (DE.sh de_str) (das_cons (DE.sh (de_tup (das_cons (DE.sh de_int) das_nil))) (das_cons (DE.sh (de_lst (das_cons (DE.sh de_int) das_nil))) (das_cons (DE.sh (de_bin op_dPow de_int de_int)) das_nil))))))))))) das_nil)) (al_cons (al_cons al_nil)))))
theorem sc__law_begun : FnScope ["_law_script", "_law_cells_here", "_law_large", "_law_cell"] ["_law_script"] (defScope s__law_begun) := ⟨rfl, rfl, rfl, by decide +kernel, rfl, by decide +kernel, by decide +kernel⟩
theorem ok__law_begun (X0 : Tx K mg cL) : ∃ (f : Addr) (kV dc pm : Value) (an : Option Addr) (cd ct : Value), mg "_law_begun" = some (.ref f) ∧ PySem.W.keepIn K (.ref f) = true ∧ FnOk P w K mg base (L2.CX P w) 2 f (FDn "_law_begun" s__law_begun kV dc pm an cd ct) ["_law_script"] (spBegun K T) := by
  obtain ⟨f, oc, od, kV, dc, pm, an, cd, ct, sl, h1, h2, h3, h4⟩ := X0.F__law_begun
  refine ⟨f, kV, dc, pm, an, cd, ct, h1, h2, fn_of (N := ["_law_script", "_law_cells_here", "_law_large", "_law_cell"]) h3 h4 sc__law_begun (fun vs H Q E h => ?_) fun A outer s H vs Q E hr h => ⟨t_begun K, ?_, pure_begun vs H Q E h⟩⟩
  · obtain ⟨a, ns, rfl, _⟩ := h
    rfl
  · exact pss_cons (ps_setLc (own := [("_law_cell", 3)]) rfl sc__law_begun.nd rfl rfl rfl (pi_list (pv 0)) (blkOk_by (by kernel_rfl)) (fun _ _ _ _ _ => pg_name (i := 3) sc__law_begun.nd rfl (.inl rfl)) (fun _ _ _ _ _ => pts_nil) (fun _ _ _ _ _ => pe_callB call_abs rfl X0.n_abs rfl (pa_cons (pv 3) pa_nil)))
      (pss_cons (ps_setLc (own := [("_law_cell", 3)]) rfl sc__law_begun.nd rfl rfl rfl (pi_list (pv 1)) (blkOk_by (by kernel_rfl)) (fun _ _ _ _ _ => pg_name (i := 3) sc__law_begun.nd rfl (.inl rfl)) (fun _ _ _ _ _ => pts_one (pt_cmpR op_ge (pv 3) (pe_op op_pow pe_int pe_int) (nomark _))) (fun _ _ _ _ _ => pe_op op_sub (pv 3) (pe_op op_pow pe_int pe_int)))
      (pss_one (ps_ret (pe_disp (pps_cons pe_str (pv 2) (pps_cons pe_str (pv 1) (pps_cons pe_str pe_int (pps_cons pe_str pe_int pps_nil)))) rfl rfl (List.cons_ne_nil _ _) (by decide)))))
theorem law_end {h : Heap} {fa pL : Addr} {l : PySem.W.OpenLaw} (hprog : l.prog = P) (X0 : Tx K mg cL) (hfa : mg "law" = some (.ref fa)) (nP : K.lookup pL = none) (tP : h.get? pL = some tab0) (C : PySem.W.CodeHd h cL pL) (pure_ : ∀ ns : List Int, ns.length ≤ 63 → ∃ g', t_law (startLaw 16 ns.length) (g0 ns) = .ok (.ret (.bl true)) g') : LawEnd l w K 63 mg fa h := by
  subst hprog
  refine ⟨[(cL, pL)], fun p hp => (by rw [List.mem_singleton.mp hp]; exact tP), fun p hp => (by rw [List.mem_singleton.mp hp]; exact nP), fun p hp => (by rw [List.mem_singleton.mp hp]; exact C), fun s a ns base H hl kin hns TBs e0 hcs hS hsd => ?_⟩
  obtain ⟨f, oc, od, kV, dc, pm, an, ct, sl, h1, h2, h3, h4⟩ := X0.F_law
  cases hfa.symm.trans h1
  have TB := TBs (cL, pL) List.mem_cons_self
  obtain ⟨fb, kVb, dcb, pmb, anb, cdb, ctb, g1, g2, g3⟩ := ok__law_begun (P := l.prog) (w := w) (base := base) (T := [(pL, (("law" : Str) ++ (".<locals>." : Str)) ++ ("<lambda>" : Str))]) X0
  have hgdT : true = true → GdOk callerA base := fun _ => ⟨rfl, hsd⟩
  have hgd := hgdT rfl
  refine law_run (lms := lamsL (defBody s_law)) (T := [(pL, (("law" : Str) ++ (".<locals>." : Str)) ++ ("<lambda>" : Str))]) (cs := [(cL, pL)]) (m := 63) (k := 7) (N := N_law) h3 h4 sc_law rfl (by decide) b_law (by decide) (fun hr => ?h0) (fun n hX hr tk hk hTm hL => ?rest) ⟨rfl, by decide, by decide⟩ e0 (fun p hp => ⟨(cL, pL), List.mem_cons_self, (by rw [List.mem_singleton.mp hp])⟩) hcs hS hl pure_
  case h0 => exact ps_set (i := 1) sc_law.nd rfl (.inl rfl) (pe_callS g3 (hr.mono (by decide)) rfl g1 g2 (.all (b__law_begun kVb dcb pmb anb cdb ctb)) (fun σ => passAt LamX.takes0 σ) (pa_cons (pv 0) pa_nil))
  case rest =>
    exact (ds_cons (ds_for (passes_of rfl) hX.calm (di_range1 rfl X0.n_range (de_bin op_dAdd de_int (de_callB (call_min2' hX) rfl X0.n_min rfl (da_cons (de_callB call_len' rfl X0.n_len rfl (da_cons (de_var (pv 0)) da_nil)) (da_cons de_int da_nil))))) (tg_name hX.nd rfl (.inl rfl)) (fun _ _ => (ds_cons (ds_set false hX.nd rfl (.inr rfl) (DE.sh (de_bin op_dAdd de_int (de_cal (ok__law_draw X0) b__law_draw nogd tk hr (by decide) rfl (das_cons (de_var (pv 1)) (das_cons (DE.sh de_int) das_nil)) (al_cons (al_cons al_nil)))))) (ds_cons (ds_set false hX.nd rfl (.inr rfl) (de_if (dt_cmp (op_dEq hX) (de_cal (ok__law_draw X0) b__law_draw nogd tk hr (by decide) rfl (das_cons (de_var (pv 1)) (das_cons (DE.sh de_int) das_nil)) (al_cons (al_cons al_nil))) de_int (nomark _)) (de_cal (ok__law_any_sizes X0) b__law_any_sizes nogd tk hr (by decide) rfl (das_cons (de_var (pv 1)) (das_cons (DE.sh (de_bin op_dAdd de_int (de_cal (ok__law_draw X0) b__law_draw nogd tk hr (by decide) rfl (das_cons (de_var (pv 1)) (das_cons (DE.sh de_int) das_nil)) (al_cons (al_cons al_nil))))) das_nil)) (al_cons (al_cons al_nil))) (de_cal (ok__law_any_sizes X0) b__law_any_sizes nogd tk hr (by decide) rfl (das_cons (de_var (pv 1)) (das_cons (de_var (pv 9)) das_nil)) (al_cons (al_cons al_nil))))) (ds_cons (ds_set false hX.nd rfl (.inl rfl) (de_cal (ok__law_short_sizes X0) b__law_short_sizes nogd tk hr (by decide) rfl (das_cons (de_var (pv 11)) (das_cons (de_var (pv 9)) das_nil)) (al_cons (al_cons al_nil)))) (ds_cons (ds_set false hX.nd rfl (.inl rfl) (DE.sh (de_cmp (op_dEq hX) (de_var (pv 3)) (de_lst das_nil) (nomark _)))) (ds_cons (ds_if (dt_cmp (op_dNe hX) (de_callB (call_repr' hgd hX) rfl X0.n_repr rfl (da_cons (de_lst (das_cons (de_cal (ok_rises X0) b_rises nogd tk hr (by decide) rfl (das_cons (de_var (pv 11)) (das_cons (de_var (pv 9)) das_nil)) (al_cons (al_cons al_nil))) (das_cons (de_calK0 (ok_rises X0) kb_rises_number_sizes nogd tk hr (by decide) rfl (dk_cons (de_var (pv 9)) (dk_cons (de_var (pv 11)) dk_nil)) (al_cons (al_cons al_nil))) das_nil))) da_nil)) (de_callB (call_repr' hgd hX) rfl X0.n_repr rfl (da_cons (de_lst (das_cons (de_var (pv 4)) (das_cons (de_var (pv 4)) das_nil))) da_nil)) (nomark _)) (ds_one (ds_retS hk (DE.sh de_bl))) ds_nil) (ds_cons (ds_set false hX.nd rfl (.inl rfl) (de_if (dt_cmp (op_dNe hX) (de_var (pv 3)) (de_lst das_nil) (nomark _)) (de_ix (ix_seq' hX) (de_var (pv 3)) de_int) (DE.sh de_non))) (ds_cons (ds_if (dt_cmp (op_dNe hX) (de_callB (call_repr' hgd hX) rfl X0.n_repr rfl (da_cons (de_lst (das_cons (de_cal (ok_short_size X0) b_short_size nogd tk hr (by decide) rfl (das_cons (de_var (pv 11)) (das_cons (de_var (pv 9)) das_nil)) (al_cons (al_cons al_nil))) (das_cons (de_calK0 (ok_short_size X0) kb_short_size_number_sizes nogd tk hr (by decide) rfl (dk_cons (de_var (pv 9)) (dk_cons (de_var (pv 11)) dk_nil)) (al_cons (al_cons al_nil))) das_nil))) da_nil)) (de_callB (call_repr' hgd hX) rfl X0.n_repr rfl (da_cons (de_lst (das_cons (de_var (pv 5)) (das_cons (de_var (pv 5)) das_nil))) da_nil)) (nomark _)) (ds_one (ds_retS hk (DE.sh de_bl))) ds_nil) (ds_cons (ds_setLcS (own := [("_law_item", 14)]) hX rfl rfl rfl (di_range2 rfl X0.n_range de_int de_int) (blkOk_by (by kernel_rfl)) (by decide) (fun _ _ _ _ _ => (tg_name (XG.blk hX).nd rfl (.inl rfl))) (fun _ _ _ _ _ => (dts_one (dt_cmp (op_dEq (XG.blk hX)) (de_cal (ok__law_short_sizes X0) b__law_short_sizes nogd LamX.takes0 hr (by decide) rfl (das_cons (de_var (pv 11)) (das_cons (de_var (pv 14)) das_nil)) (al_cons (al_cons al_nil))) (de_lst das_nil) (nomark _)))) (fun _ _ _ _ _ => (de_var (pv 14)))) (ds_cons (ds_if (dt_cmp (op_dNe hX) (de_var (pv 6)) (de_listRg hX rfl X0.n_list (drg_2 rfl X0.n_range de_int (de_bin op_dAdd (de_callB call_len' rfl X0.n_len rfl (da_cons (de_var (pv 6)) da_nil)) de_int))) (nomark _)) (ds_one (ds_retS hk (DE.sh de_bl))) ds_nil) (ds_cons (ds_if (dt_cmp (op_dNe hX) (de_callB (call_repr' hgd hX) rfl X0.n_repr rfl (da_cons (de_lst (das_cons (de_cal (ok_rises_to X0) b_rises_to nogd tk hr (by decide) rfl (das_cons (de_var (pv 11)) das_nil) (al_cons al_nil)) (das_cons (de_calK0 (ok_rises_to X0) kb_rises_to_sizes nogd tk hr (by decide) rfl (dk_cons (de_var (pv 11)) dk_nil) (al_cons al_nil)) das_nil))) da_nil)) (de_callB (call_repr' hgd hX) rfl X0.n_repr rfl (da_cons (de_bin op_dMul (de_lst (das_cons (DE.sh (de_callB call_len' rfl X0.n_len rfl (da_cons (de_var (pv 6)) da_nil))) das_nil)) de_int) da_nil)) (nomark _)) (ds_one (ds_retS hk (DE.sh de_bl))) ds_nil) (ds_cons (ds_if (dt_cmp op_dGt (de_callB (call_maxS' hX) rfl X0.n_max rfl (da_cons (de_var (pv 11)) da_nil)) (de_var (pv 9)) (nomark _)) (ds_one (ds_if (dt_not (dt_of (de_callB (call_isi' X0.isi) rfl X0.n_isinstance rfl (da_cons (de_caughtT (k := 4) X0.F__law_caught ca_ok b__law_caught X0.pk rfl TB rfl hTm (hr.mono (by decide)) (LamX.lamS_by (by kernel_rfl)) (fun _ _ _ _ _ _ _ hrL tkL => (de_cal (ok_deficit X0) b_deficit nogd tkL hrL (by decide) rfl (das_cons (de_var (pv 11)) (das_cons (de_var (pv 9)) das_nil)) (al_cons (al_cons al_nil))))) (da_cons (de_cls X0.E_BadSizes rfl) da_nil))))) (ds_one (ds_retS hk (DE.sh de_bl))) ds_nil)) (ds_cons (ds_set false hX.nd rfl (.inl rfl) (DE.sh (de_bin op_dAdd (de_lst (das_cons (DE.sh de_int) das_nil)) (de_lc (own := [("_law_least", 15)]) hX (di_range2 rfl X0.n_range de_int (de_bin op_dAdd (de_var (pv 9)) de_int)) (blkOk_by (by kernel_rfl)) (by decide) (fun _ _ _ _ _ => (tg_name (XG.blk hX).nd rfl (.inl rfl))) (fun _ _ _ _ _ => dts_nil) (fun _ _ _ _ _ => (de_cal (ok__law_lack X0) b__law_lack nogd LamX.takes0 hr (by decide) rfl (das_cons (de_var (pv 11)) (das_cons (de_var (pv 9)) (das_cons (de_var (pv 15)) das_nil))) (al_cons (al_cons (al_cons al_nil))))))))) (ds_cons (ds_if (dt_cmp (op_dNe hX) (de_callB (call_repr' hgd hX) rfl X0.n_repr rfl (da_cons (de_lst (das_cons (de_cal (ok_deficit X0) b_deficit nogd tk hr (by decide) rfl (das_cons (de_var (pv 11)) (das_cons (de_var (pv 9)) das_nil)) (al_cons (al_cons al_nil))) (das_cons (de_calK0 (ok_deficit X0) kb_deficit_number_sizes nogd tk hr (by decide) rfl (dk_cons (de_var (pv 9)) (dk_cons (de_var (pv 11)) dk_nil)) (al_cons (al_cons al_nil))) das_nil))) da_nil)) (de_callB (call_repr' hgd hX) rfl X0.n_repr rfl (da_cons (de_bin op_dMul (de_lst (das_cons (DE.sh (de_callB (call_maxS' hX) rfl X0.n_max rfl (da_cons (de_var (pv 7)) da_nil))) das_nil)) de_int) da_nil)) (nomark _)) (ds_one (ds_retS hk (DE.sh de_bl))) ds_nil) (ds_cons (ds_set false hX.nd rfl (.inl rfl) (DE.sh (de_bin op_dAdd (de_var (pv 11)) (de_bin op_dMul (de_tup (das_cons (de_var (pv 9)) das_nil)) (de_callB (call_maxS' hX) rfl X0.n_max rfl (da_cons (de_var (pv 7)) da_nil)))))) (ds_cons (ds_if (dt_w (dw_or (dt_cmp (op_dNe hX) (de_cal (ok__law_short_sizes X0) b__law_short_sizes nogd tk hr (by decide) rfl (das_cons (de_var (pv 8)) (das_cons (de_var (pv 9)) das_nil)) (al_cons (al_cons al_nil))) (de_lst das_nil) (nomark _)) (dw_or1 (dt_w (dw_and (dt_cmp op_dGt (de_callB (call_maxS' hX) rfl X0.n_max rfl (da_cons (de_var (pv 7)) da_nil)) de_int (nomark _)) (dw_and1 (dt_cmp (op_dEq hX) (de_cal (ok__law_short_sizes X0) b__law_short_sizes nogd tk hr (by decide) rfl (das_cons (DE.sh (de_sl (de_var (pv 8)) do_none (do_some (de_un op_neg de_int)))) (das_cons (de_var (pv 9)) das_nil)) (al_cons (al_cons al_nil))) (de_lst das_nil) (nomark _)))))))) (ds_one (ds_retS hk (DE.sh de_bl))) ds_nil) (ds_one (ds_if (dt_w (dw_and (dt_cmp op_dLt (de_callB call_len' rfl X0.n_len rfl (da_cons (de_var (pv 8)) da_nil)) de_int (nomark _)) (dw_and1 (dt_cmp op_dIsN (de_cal (ok_rises X0) b_rises nogd tk hr (by decide) rfl (das_cons (de_var (pv 8)) (das_cons (de_var (pv 9)) das_nil)) (al_cons (al_cons al_nil))) de_bl (nomark _))))) (ds_one (ds_retS hk (DE.sh de_bl))) ds_nil))))))) (ds_cons (ds_asg (DE.sh (de_tup (das_cons (de_cal (ok__law_wrong_sizes X0) b__law_wrong_sizes nogd tk hr (by decide) rfl (das_cons (de_var (pv 1)) (das_cons (de_var (pv 11)) das_nil)) (al_cons (al_cons al_nil))) (das_cons (de_cal (ok__law_wrong_number X0) b__law_wrong_number nogd tk hr (by decide) rfl (das_cons (de_var (pv 1)) das_nil) (al_cons al_nil)) das_nil)))) (tg_names2 K 13 10 rfl hX.calm hX.nd rfl rfl (.inr rfl) (.inr rfl) (by first | exact .inl rfl | exact .inr rfl) (by first | exact .inl rfl | exact .inr rfl))) (ds_cons (ds_for (passes_of rfl) hX.calm (di_seq (DE.sh (de_lst (das_cons (DE.sh (de_fnv X0.F_rises rfl)) (das_cons (DE.sh (de_fnv X0.F_short_size rfl)) (das_cons (DE.sh (de_fnv X0.F_deficit rfl)) (das_cons (de_lamP (i := 0) (N := ["_law_one", "_law_two"]) (ps := ["_law_one", "_law_two"]) hL TB rfl hTm (by exact ⟨rfl, rfl, rfl, by decide +kernel, rfl, by decide +kernel, by decide +kernel⟩) (by kernel_rfl)) das_nil))))))) (tg_name hX.nd rfl (.inr rfl)) (fun _ _ => (ds_one (ds_if (dt_not (dt_of (de_callB (call_isi' X0.isi) rfl X0.n_isinstance rfl (da_cons (de_caughtT (k := 5) X0.F__law_caught ca_ok b__law_caught X0.pk rfl TB rfl hTm (hr.mono (by decide)) (LamX.lamS_by (by kernel_rfl)) (fun _ _ _ _ _ _ _ hrL tkL => (de_calVL (cvs_cons (calv_of (ok_rises X0) b_rises nogd (by decide)) (cvs_cons (calv_of (ok_short_size X0) b_short_size nogd (by decide)) (cvs_cons (calv_of (ok_deficit X0) b_deficit nogd (by decide)) cvs_nil))) (lps_cons (lamp_of (i := 0) (N := ["_law_one", "_law_two"]) (ps := ["_law_one", "_law_two"]) (kb := .sh) hL ⟨by exact ⟨rfl, rfl, rfl, by decide +kernel, rfl, by decide +kernel, by decide +kernel⟩, (fun q pm cv ctv us hl => match us, hl with | [_, _], _ => rfl), fun _ _ _ _ _ _ _ hXp hrp tkp => (de_cal (ok_rises_to X0) b_rises_to nogd tkp hrp (by decide) rfl (das_cons (de_var (pv 0)) das_nil) (al_cons al_nil))⟩) lps_nil) tkL hrL (de_var (pv 12)) (das_cons (de_var (pv 13)) (das_cons (de_var (pv 10)) das_nil)) (al_cons (al_cons al_nil))))) (da_cons (de_cls X0.E_BadSizes rfl) da_nil))))) (ds_one (ds_retS hk (DE.sh de_bl))) ds_nil)))) (ds_one (ds_for (passes_of rfl) hX.calm (di_seq (DE.sh (de_lst (das_cons (DE.sh (de_fnv X0.F_rises rfl)) (das_cons (DE.sh (de_fnv X0.F_short_size rfl)) (das_cons (DE.sh (de_fnv X0.F_deficit rfl)) das_nil)))))) (tg_name hX.nd rfl (.inr rfl)) (fun _ _ => (ds_one (ds_if (dt_not (dt_of (de_callB (call_isi' X0.isi) rfl X0.n_isinstance rfl (da_cons (de_caughtT (k := 5) X0.F__law_caught ca_ok b__law_caught X0.pk rfl TB rfl hTm (hr.mono (by decide)) (LamX.lamS_by (by kernel_rfl)) (fun _ _ _ _ _ _ _ hrL tkL => (de_calVL (cvs_cons (calv_of (ok_rises X0) b_rises nogd (by decide)) (cvs_cons (calv_of (ok_short_size X0) b_short_size nogd (by decide)) (cvs_cons (calv_of (ok_deficit X0) b_deficit nogd (by decide)) cvs_nil))) (lps_cons (lamp_of (i := 0) (N := ["_law_one", "_law_two"]) (ps := ["_law_one", "_law_two"]) (kb := .sh) hL ⟨by exact ⟨rfl, rfl, rfl, by decide +kernel, rfl, by decide +kernel, by decide +kernel⟩, (fun q pm cv ctv us hl => match us, hl with | [_, _], _ => rfl), fun _ _ _ _ _ _ _ hXp hrp tkp => (de_cal (ok_rises_to X0) b_rises_to nogd tkp hrp (by decide) rfl (das_cons (de_var (pv 0)) das_nil) (al_cons al_nil))⟩) lps_nil) tkL hrL (de_var (pv 12)) (das_cons (de_var (pv 11)) (das_cons (de_var (pv 10)) das_nil)) (al_cons (al_cons al_nil))))) (da_cons (de_cls X0.E_BadNumber rfl) da_nil))))) (ds_one (ds_retS hk (DE.sh de_bl))) ds_nil)))))))))))))))))))) (ds_one (ds_retS hk (DE.sh de_bl))))
theorem mem2 {α : Type} {a : α} {l : List α} {p : α → Prop} (h : p a) (t : ∀ x ∈ l, p x) : ∀ x ∈ a :: l, p x := fun x hx => (List.mem_cons.mp hx).elim (fun e => e ▸ h) (t x)
theorem law_all {l : PySem.W.OpenLaw} {h : Heap} {fa pL : Addr} {f_is_between : Addr} {oc_is_between kV_is_between dc_is_between pm_is_between cd_is_between ct_is_between : Value} {od_is_between an_is_between : Option Addr} {sl_is_between : Array (Option Value)} {f_are_sizes : Addr} {oc_are_sizes kV_are_sizes dc_are_sizes pm_are_sizes cd_are_sizes ct_are_sizes : Value} {od_are_sizes an_are_sizes : Option Addr} {sl_are_sizes : Array (Option Value)} {f_need_sizes : Addr} {oc_need_sizes kV_need_sizes dc_need_sizes pm_need_sizes cd_need_sizes ct_need_sizes : Value} {od_need_sizes an_need_sizes : Option Addr} {sl_need_sizes : Array (Option Value)} {f_need_pairs : Addr} {oc_need_pairs kV_need_pairs dc_need_pairs pm_need_pairs cd_need_pairs ct_need_pairs : Value} {od_need_pairs an_need_pairs : Option Addr} {sl_need_pairs : Array (Option Value)} {f_lack_at : Addr} {oc_lack_at kV_lack_at dc_lack_at pm_lack_at cd_lack_at ct_lack_at : Value} {od_lack_at an_lack_at : Option Addr} {sl_lack_at : Array (Option Value)} {f_first_short : Addr} {oc_first_short kV_first_short dc_first_short pm_first_short cd_first_short ct_first_short : Value} {od_first_short an_first_short : Option Addr} {sl_first_short : Array (Option Value)} {f_rises : Addr} {oc_rises kV_rises dc_rises pm_rises cd_rises ct_rises : Value} {od_rises an_rises : Option Addr} {sl_rises : Array (Option Value)} {f_short_size : Addr} {oc_short_size kV_short_size dc_short_size pm_short_size cd_short_size ct_short_size : Value} {od_short_size an_short_size : Option Addr} {sl_short_size : Array (Option Value)} {f_rises_to : Addr} {oc_rises_to kV_rises_to dc_rises_to pm_rises_to cd_rises_to ct_rises_to : Value} {od_rises_to an_rises_to : Option Addr} {sl_rises_to : Array (Option Value)} {f_deficit : Addr} {oc_deficit kV_deficit dc_deficit pm_deficit cd_deficit ct_deficit : Value} {od_deficit an_deficit : Option Addr} {sl_deficit : Array (Option Value)} {f__law_begun : Addr} {oc__law_begun kV__law_begun dc__law_begun pm__law_begun cd__law_begun ct__law_begun : Value} {od__law_begun an__law_begun : Option Addr} {sl__law_begun : Array (Option Value)} {f__law_draw : Addr} {oc__law_draw kV__law_draw dc__law_draw pm__law_draw cd__law_draw ct__law_draw : Value} {od__law_draw an__law_draw : Option Addr} {sl__law_draw : Array (Option Value)} {f__law_pick : Addr} {oc__law_pick kV__law_pick dc__law_pick pm__law_pick cd__law_pick ct__law_pick : Value} {od__law_pick an__law_pick : Option Addr} {sl__law_pick : Array (Option Value)} {f__law_mixed : Addr} {oc__law_mixed kV__law_mixed dc__law_mixed pm__law_mixed cd__law_mixed ct__law_mixed : Value} {od__law_mixed an__law_mixed : Option Addr} {sl__law_mixed : Array (Option Value)} {f__law_caught : Addr} {oc__law_caught kV__law_caught dc__law_caught pm__law_caught cd__law_caught ct__law_caught : Value} {od__law_caught an__law_caught : Option Addr} {sl__law_caught : Array (Option Value)} {f__law_wrong_sizes : Addr} {oc__law_wrong_sizes kV__law_wrong_sizes dc__law_wrong_sizes pm__law_wrong_sizes cd__law_wrong_sizes ct__law_wrong_sizes : Value} {od__law_wrong_sizes an__law_wrong_sizes : Option Addr} {sl__law_wrong_sizes : Array (Option Value)} {f__law_lack : Addr} {oc__law_lack kV__law_lack dc__law_lack pm__law_lack cd__law_lack ct__law_lack : Value} {od__law_lack an__law_lack : Option Addr} {sl__law_lack : Array (Option Value)} {f__law_short_sizes : Addr} {oc__law_short_sizes kV__law_short_sizes dc__law_short_sizes pm__law_short_sizes cd__law_short_sizes ct__law_short_sizes : Value} {od__law_short_sizes an__law_short_sizes : Option Addr} {sl__law_short_sizes : Array (Option Value)} {f__law_rising : Addr} {oc__law_rising kV__law_rising dc__law_rising pm__law_rising cd__law_rising ct__law_rising : Value} {od__law_rising an__law_rising : Option Addr} {sl__law_rising : Array (Option Value)} {f__law_any_sizes : Addr} {oc__law_any_sizes kV__law_any_sizes dc__law_any_sizes pm__law_any_sizes cd__law_any_sizes ct__law_any_sizes : Value} {od__law_any_sizes an__law_any_sizes : Option Addr} {sl__law_any_sizes : Array (Option Value)} {f__law_wrong_number : Addr} {oc__law_wrong_number kV__law_wrong_number dc__law_wrong_number pm__law_wrong_number cd__law_wrong_number ct__law_wrong_number : Value} {od__law_wrong_number an__law_wrong_number : Option Addr} {sl__law_wrong_number : Array (Option Value)} {f_law : Addr} {oc_law kV_law dc_law pm_law ct_law : Value} {od_law an_law : Option Addr} {sl_law : Array (Option Value)} {eL : Value} {ddL : Option Addr} {usL : Array Value} {slL : Array (Option Value)} {C_BadNumber : Addr} {C_BadSizes : Addr} {C_PickError : Addr} {t_MOST_NUMBER : Tok} {t_MOST_PLANS : Tok} (hprog : l.prog = P) (pure_ : ∀ ns : List Int, ns.length ≤ 63 → ∃ g', t_law (startLaw 16 ns.length) (g0 ns) = .ok (.ret (.bl true)) g') (X : K.In h) (G : h.Ns mainGlobals mg) (hfa : mg "law" = some (.ref fa)) (own : OwnT K "law" mg h)
    (a_is_between : PySem.W.nsIn K mainGlobals "is_between" = some (some (.ref f_is_between)))
    (l_is_between : K.lookup f_is_between = some ⟨oc_is_between, od_is_between, .func (FDn "is_between" s_is_between kV_is_between dc_is_between pm_is_between an_is_between cd_is_between ct_is_between), sl_is_between⟩)
    (c_is_between : PySem.W.codeIn K cd_is_between "is_between" = true)
    (k_is_between : PySem.W.keepIn K (.ref f_is_between) = true)
    (a_are_sizes : PySem.W.nsIn K mainGlobals "are_sizes" = some (some (.ref f_are_sizes)))
    (l_are_sizes : K.lookup f_are_sizes = some ⟨oc_are_sizes, od_are_sizes, .func (FDn "are_sizes" s_are_sizes kV_are_sizes dc_are_sizes pm_are_sizes an_are_sizes cd_are_sizes ct_are_sizes), sl_are_sizes⟩)
    (c_are_sizes : PySem.W.codeIn K cd_are_sizes "are_sizes" = true)
    (k_are_sizes : PySem.W.keepIn K (.ref f_are_sizes) = true)
    (a_need_sizes : PySem.W.nsIn K mainGlobals "need_sizes" = some (some (.ref f_need_sizes)))
    (l_need_sizes : K.lookup f_need_sizes = some ⟨oc_need_sizes, od_need_sizes, .func (FDn "need_sizes" s_need_sizes kV_need_sizes dc_need_sizes pm_need_sizes an_need_sizes cd_need_sizes ct_need_sizes), sl_need_sizes⟩)
    (c_need_sizes : PySem.W.codeIn K cd_need_sizes "need_sizes" = true)
    (k_need_sizes : PySem.W.keepIn K (.ref f_need_sizes) = true)
    (a_need_pairs : PySem.W.nsIn K mainGlobals "need_pairs" = some (some (.ref f_need_pairs)))
    (l_need_pairs : K.lookup f_need_pairs = some ⟨oc_need_pairs, od_need_pairs, .func (FDn "need_pairs" s_need_pairs kV_need_pairs dc_need_pairs pm_need_pairs an_need_pairs cd_need_pairs ct_need_pairs), sl_need_pairs⟩)
    (c_need_pairs : PySem.W.codeIn K cd_need_pairs "need_pairs" = true)
    (k_need_pairs : PySem.W.keepIn K (.ref f_need_pairs) = true)
    (a_lack_at : PySem.W.nsIn K mainGlobals "lack_at" = some (some (.ref f_lack_at)))
    (l_lack_at : K.lookup f_lack_at = some ⟨oc_lack_at, od_lack_at, .func (FDn "lack_at" s_lack_at kV_lack_at dc_lack_at pm_lack_at an_lack_at cd_lack_at ct_lack_at), sl_lack_at⟩)
    (c_lack_at : PySem.W.codeIn K cd_lack_at "lack_at" = true)
    (k_lack_at : PySem.W.keepIn K (.ref f_lack_at) = true)
    (a_first_short : PySem.W.nsIn K mainGlobals "first_short" = some (some (.ref f_first_short)))
    (l_first_short : K.lookup f_first_short = some ⟨oc_first_short, od_first_short, .func (FDn "first_short" s_first_short kV_first_short dc_first_short pm_first_short an_first_short cd_first_short ct_first_short), sl_first_short⟩)
    (c_first_short : PySem.W.codeIn K cd_first_short "first_short" = true)
    (k_first_short : PySem.W.keepIn K (.ref f_first_short) = true)
    (a_rises : PySem.W.nsIn K mainGlobals "rises" = some (some (.ref f_rises)))
    (l_rises : K.lookup f_rises = some ⟨oc_rises, od_rises, .func (FDn "rises" s_rises kV_rises dc_rises pm_rises an_rises cd_rises ct_rises), sl_rises⟩)
    (c_rises : PySem.W.codeIn K cd_rises "rises" = true)
    (k_rises : PySem.W.keepIn K (.ref f_rises) = true)
    (a_short_size : PySem.W.nsIn K mainGlobals "short_size" = some (some (.ref f_short_size)))
    (l_short_size : K.lookup f_short_size = some ⟨oc_short_size, od_short_size, .func (FDn "short_size" s_short_size kV_short_size dc_short_size pm_short_size an_short_size cd_short_size ct_short_size), sl_short_size⟩)
    (c_short_size : PySem.W.codeIn K cd_short_size "short_size" = true)
    (k_short_size : PySem.W.keepIn K (.ref f_short_size) = true)
    (a_rises_to : PySem.W.nsIn K mainGlobals "rises_to" = some (some (.ref f_rises_to)))
    (l_rises_to : K.lookup f_rises_to = some ⟨oc_rises_to, od_rises_to, .func (FDn "rises_to" s_rises_to kV_rises_to dc_rises_to pm_rises_to an_rises_to cd_rises_to ct_rises_to), sl_rises_to⟩)
    (c_rises_to : PySem.W.codeIn K cd_rises_to "rises_to" = true)
    (k_rises_to : PySem.W.keepIn K (.ref f_rises_to) = true)
    (a_deficit : PySem.W.nsIn K mainGlobals "deficit" = some (some (.ref f_deficit)))
    (l_deficit : K.lookup f_deficit = some ⟨oc_deficit, od_deficit, .func (FDn "deficit" s_deficit kV_deficit dc_deficit pm_deficit an_deficit cd_deficit ct_deficit), sl_deficit⟩)
    (c_deficit : PySem.W.codeIn K cd_deficit "deficit" = true)
    (k_deficit : PySem.W.keepIn K (.ref f_deficit) = true)
    (a__law_begun : PySem.W.nsIn K mainGlobals "_law_begun" = some (some (.ref f__law_begun)))
    (l__law_begun : K.lookup f__law_begun = some ⟨oc__law_begun, od__law_begun, .func (FDn "_law_begun" s__law_begun kV__law_begun dc__law_begun pm__law_begun an__law_begun cd__law_begun ct__law_begun), sl__law_begun⟩)
    (c__law_begun : PySem.W.codeIn K cd__law_begun "_law_begun" = true)
    (k__law_begun : PySem.W.keepIn K (.ref f__law_begun) = true)
    (a__law_draw : PySem.W.nsIn K mainGlobals "_law_draw" = some (some (.ref f__law_draw)))
    (l__law_draw : K.lookup f__law_draw = some ⟨oc__law_draw, od__law_draw, .func (FDn "_law_draw" s__law_draw kV__law_draw dc__law_draw pm__law_draw an__law_draw cd__law_draw ct__law_draw), sl__law_draw⟩)
    (c__law_draw : PySem.W.codeIn K cd__law_draw "_law_draw" = true)
    (k__law_draw : PySem.W.keepIn K (.ref f__law_draw) = true)
    (a__law_pick : PySem.W.nsIn K mainGlobals "_law_pick" = some (some (.ref f__law_pick)))
    (l__law_pick : K.lookup f__law_pick = some ⟨oc__law_pick, od__law_pick, .func (FDn "_law_pick" s__law_pick kV__law_pick dc__law_pick pm__law_pick an__law_pick cd__law_pick ct__law_pick), sl__law_pick⟩)
    (c__law_pick : PySem.W.codeIn K cd__law_pick "_law_pick" = true)
    (k__law_pick : PySem.W.keepIn K (.ref f__law_pick) = true)
    (a__law_mixed : PySem.W.nsIn K mainGlobals "_law_mixed" = some (some (.ref f__law_mixed)))
    (l__law_mixed : K.lookup f__law_mixed = some ⟨oc__law_mixed, od__law_mixed, .func (FDn "_law_mixed" s__law_mixed kV__law_mixed dc__law_mixed pm__law_mixed an__law_mixed cd__law_mixed ct__law_mixed), sl__law_mixed⟩)
    (c__law_mixed : PySem.W.codeIn K cd__law_mixed "_law_mixed" = true)
    (k__law_mixed : PySem.W.keepIn K (.ref f__law_mixed) = true)
    (a__law_caught : PySem.W.nsIn K mainGlobals "_law_caught" = some (some (.ref f__law_caught)))
    (l__law_caught : K.lookup f__law_caught = some ⟨oc__law_caught, od__law_caught, .func (FDn "_law_caught" s__law_caught kV__law_caught dc__law_caught pm__law_caught an__law_caught cd__law_caught ct__law_caught), sl__law_caught⟩)
    (c__law_caught : PySem.W.codeIn K cd__law_caught "_law_caught" = true)
    (k__law_caught : PySem.W.keepIn K (.ref f__law_caught) = true)
    (a__law_wrong_sizes : PySem.W.nsIn K mainGlobals "_law_wrong_sizes" = some (some (.ref f__law_wrong_sizes)))
    (l__law_wrong_sizes : K.lookup f__law_wrong_sizes = some ⟨oc__law_wrong_sizes, od__law_wrong_sizes, .func (FDn "_law_wrong_sizes" s__law_wrong_sizes kV__law_wrong_sizes dc__law_wrong_sizes pm__law_wrong_sizes an__law_wrong_sizes cd__law_wrong_sizes ct__law_wrong_sizes), sl__law_wrong_sizes⟩)
    (c__law_wrong_sizes : PySem.W.codeIn K cd__law_wrong_sizes "_law_wrong_sizes" = true)
    (k__law_wrong_sizes : PySem.W.keepIn K (.ref f__law_wrong_sizes) = true)
    (a__law_lack : PySem.W.nsIn K mainGlobals "_law_lack" = some (some (.ref f__law_lack)))
    (l__law_lack : K.lookup f__law_lack = some ⟨oc__law_lack, od__law_lack, .func (FDn "_law_lack" s__law_lack kV__law_lack dc__law_lack pm__law_lack an__law_lack cd__law_lack ct__law_lack), sl__law_lack⟩)
    (c__law_lack : PySem.W.codeIn K cd__law_lack "_law_lack" = true)
    (k__law_lack : PySem.W.keepIn K (.ref f__law_lack) = true)
    (a__law_short_sizes : PySem.W.nsIn K mainGlobals "_law_short_sizes" = some (some (.ref f__law_short_sizes)))
    (l__law_short_sizes : K.lookup f__law_short_sizes = some ⟨oc__law_short_sizes, od__law_short_sizes, .func (FDn "_law_short_sizes" s__law_short_sizes kV__law_short_sizes dc__law_short_sizes pm__law_short_sizes an__law_short_sizes cd__law_short_sizes ct__law_short_sizes), sl__law_short_sizes⟩)
    (c__law_short_sizes : PySem.W.codeIn K cd__law_short_sizes "_law_short_sizes" = true)
    (k__law_short_sizes : PySem.W.keepIn K (.ref f__law_short_sizes) = true)
    (a__law_rising : PySem.W.nsIn K mainGlobals "_law_rising" = some (some (.ref f__law_rising)))
    (l__law_rising : K.lookup f__law_rising = some ⟨oc__law_rising, od__law_rising, .func (FDn "_law_rising" s__law_rising kV__law_rising dc__law_rising pm__law_rising an__law_rising cd__law_rising ct__law_rising), sl__law_rising⟩)
    (c__law_rising : PySem.W.codeIn K cd__law_rising "_law_rising" = true)
    (k__law_rising : PySem.W.keepIn K (.ref f__law_rising) = true)
    (a__law_any_sizes : PySem.W.nsIn K mainGlobals "_law_any_sizes" = some (some (.ref f__law_any_sizes)))
    (l__law_any_sizes : K.lookup f__law_any_sizes = some ⟨oc__law_any_sizes, od__law_any_sizes, .func (FDn "_law_any_sizes" s__law_any_sizes kV__law_any_sizes dc__law_any_sizes pm__law_any_sizes an__law_any_sizes cd__law_any_sizes ct__law_any_sizes), sl__law_any_sizes⟩)
    (c__law_any_sizes : PySem.W.codeIn K cd__law_any_sizes "_law_any_sizes" = true)
    (k__law_any_sizes : PySem.W.keepIn K (.ref f__law_any_sizes) = true)
    (a__law_wrong_number : PySem.W.nsIn K mainGlobals "_law_wrong_number" = some (some (.ref f__law_wrong_number)))
    (l__law_wrong_number : K.lookup f__law_wrong_number = some ⟨oc__law_wrong_number, od__law_wrong_number, .func (FDn "_law_wrong_number" s__law_wrong_number kV__law_wrong_number dc__law_wrong_number pm__law_wrong_number an__law_wrong_number cd__law_wrong_number ct__law_wrong_number), sl__law_wrong_number⟩)
    (c__law_wrong_number : PySem.W.codeIn K cd__law_wrong_number "_law_wrong_number" = true)
    (k__law_wrong_number : PySem.W.keepIn K (.ref f__law_wrong_number) = true)
    (a_law : PySem.W.nsIn K mainGlobals "law" = some (some (.ref f_law)))
    (l_law : K.lookup f_law = some ⟨oc_law, od_law, .func (FDn "law" s_law kV_law dc_law pm_law an_law (.ref cL) ct_law), sl_law⟩)
    (c_law : PySem.W.codeIn K (.ref cL) "law" = true)
    (k_law : PySem.W.keepIn K (.ref f_law) = true)
    (l_code : K.lookup cL = some ⟨eL, ddL, .fields usL, slL⟩)
    (u_code : usL[11]? = some (.ref pL))
    (h_code : PySem.W.codeHdIn K cL pL = true)
    (p_code : K.lookup pL = none)
    (g_BadNumber : PySem.W.nsIn K mainGlobals "BadNumber" = some (some (.ref C_BadNumber)))
    (x_BadNumber : PySem.W.excIn K C_BadNumber [.type "ValueError", .type "Exception", .type "BaseException", .type "object"] "ValueError.__new__" = true)
    (kp_BadNumber : PySem.W.keepIn K (.ref C_BadNumber) = true)
    (ty_BadNumber : PySem.W.typeIn K (.ref C_BadNumber) = some (.type "type"))
    (e1_BadNumber : PySem.W.findIn K (.ref C_BadNumber) "__getattribute__" = some (some (.builtin "BaseException.__getattribute__")))
    (e2_BadNumber : PySem.W.findIn K (.ref C_BadNumber) "__getattr__" = some none)
    (e3_BadNumber : PySem.W.subIn K (.ref C_BadNumber) (.type "BaseException") = some true)
    (e4_BadNumber : PySem.W.hasDictIn K C_BadNumber = true)
    (e5_BadNumber : PySem.W.findIn K (.ref C_BadNumber) "__class__" = some (some (.builtin "object.__class__")))
    (e6_BadNumber : PySem.W.mroIn K C_BadNumber (.type "object") = some true)
    (g_BadSizes : PySem.W.nsIn K mainGlobals "BadSizes" = some (some (.ref C_BadSizes)))
    (x_BadSizes : PySem.W.excIn K C_BadSizes [.type "ValueError", .type "Exception", .type "BaseException", .type "object"] "ValueError.__new__" = true)
    (kp_BadSizes : PySem.W.keepIn K (.ref C_BadSizes) = true)
    (ty_BadSizes : PySem.W.typeIn K (.ref C_BadSizes) = some (.type "type"))
    (e1_BadSizes : PySem.W.findIn K (.ref C_BadSizes) "__getattribute__" = some (some (.builtin "BaseException.__getattribute__")))
    (e2_BadSizes : PySem.W.findIn K (.ref C_BadSizes) "__getattr__" = some none)
    (e3_BadSizes : PySem.W.subIn K (.ref C_BadSizes) (.type "BaseException") = some true)
    (e4_BadSizes : PySem.W.hasDictIn K C_BadSizes = true)
    (e5_BadSizes : PySem.W.findIn K (.ref C_BadSizes) "__class__" = some (some (.builtin "object.__class__")))
    (e6_BadSizes : PySem.W.mroIn K C_BadSizes (.type "object") = some true)
    (g_PickError : PySem.W.nsIn K mainGlobals "PickError" = some (some (.ref C_PickError)))
    (x_PickError : PySem.W.excIn K C_PickError [.type "ValueError", .type "Exception", .type "BaseException", .type "object"] "ValueError.__new__" = true)
    (kp_PickError : PySem.W.keepIn K (.ref C_PickError) = true)
    (ty_PickError : PySem.W.typeIn K (.ref C_PickError) = some (.type "type"))
    (e1_PickError : PySem.W.findIn K (.ref C_PickError) "__getattribute__" = some (some (.builtin "BaseException.__getattribute__")))
    (e2_PickError : PySem.W.findIn K (.ref C_PickError) "__getattr__" = some none)
    (e3_PickError : PySem.W.subIn K (.ref C_PickError) (.type "BaseException") = some true)
    (e4_PickError : PySem.W.hasDictIn K C_PickError = true)
    (e5_PickError : PySem.W.findIn K (.ref C_PickError) "__class__" = some (some (.builtin "object.__class__")))
    (e6_PickError : PySem.W.mroIn K C_PickError (.type "object") = some true)
    (e7 : PySem.W.specialIn K (.builtin "object.__class__") "__get__" = some (some (.builtin "getset_descriptor.__get__")))
    (e8 : PySem.W.takesIn K (.builtin "object.__class__") = some true)
    (i_MOST_NUMBER : PySem.W.nsIn K mainGlobals "MOST_NUMBER" = some (some (.int 7 t_MOST_NUMBER)))
    (i_MOST_PLANS : PySem.W.nsIn K mainGlobals "MOST_PLANS" = some (some (.int 16 t_MOST_PLANS)))
    (z_abs : PySem.W.nsIn K mainGlobals "abs" = some none)
    (z_all : PySem.W.nsIn K mainGlobals "all" = some none)
    (z_bool : PySem.W.nsIn K mainGlobals "bool" = some none)
    (z_int : PySem.W.nsIn K mainGlobals "int" = some none)
    (z_isinstance : PySem.W.nsIn K mainGlobals "isinstance" = some none)
    (z_len : PySem.W.nsIn K mainGlobals "len" = some none)
    (z_list : PySem.W.nsIn K mainGlobals "list" = some none)
    (z_max : PySem.W.nsIn K mainGlobals "max" = some none)
    (z_min : PySem.W.nsIn K mainGlobals "min" = some none)
    (z_range : PySem.W.nsIn K mainGlobals "range" = some none)
    (z_repr : PySem.W.nsIn K mainGlobals "repr" = some none)
    (z_tuple : PySem.W.nsIn K mainGlobals "tuple" = some none)
    (s_BadNumber_BadSizes : PySem.W.subIn K (.ref C_BadNumber) (.ref C_BadSizes) = some false)
    (ne_BadNumber_BadSizes : ((Value.ref C_BadNumber) == .ref C_BadSizes) = false)
    (s_BadSizes_BadNumber : PySem.W.subIn K (.ref C_BadSizes) (.ref C_BadNumber) = some false)
    (ne_BadSizes_BadNumber : ((Value.ref C_BadSizes) == .ref C_BadNumber) = false)
    (y_NoneType_BadNumber : PySem.W.subIn K (.type "NoneType") (.ref C_BadNumber) = some false)
    (y_bool_BadNumber : PySem.W.subIn K (.type "bool") (.ref C_BadNumber) = some false)
    (y_int_BadNumber : PySem.W.subIn K (.type "int") (.ref C_BadNumber) = some false)
    (y_str_BadNumber : PySem.W.subIn K (.type "str") (.ref C_BadNumber) = some false)
    (y_tuple_BadNumber : PySem.W.subIn K (.type "tuple") (.ref C_BadNumber) = some false)
    (y_list_BadNumber : PySem.W.subIn K (.type "list") (.ref C_BadNumber) = some false)
    (y_dict_BadNumber : PySem.W.subIn K (.type "dict") (.ref C_BadNumber) = some false)
    (y_NoneType_BadSizes : PySem.W.subIn K (.type "NoneType") (.ref C_BadSizes) = some false)
    (y_bool_BadSizes : PySem.W.subIn K (.type "bool") (.ref C_BadSizes) = some false)
    (y_int_BadSizes : PySem.W.subIn K (.type "int") (.ref C_BadSizes) = some false)
    (y_str_BadSizes : PySem.W.subIn K (.type "str") (.ref C_BadSizes) = some false)
    (y_tuple_BadSizes : PySem.W.subIn K (.type "tuple") (.ref C_BadSizes) = some false)
    (y_list_BadSizes : PySem.W.subIn K (.type "list") (.ref C_BadSizes) = some false)
    (y_dict_BadSizes : PySem.W.subIn K (.type "dict") (.ref C_BadSizes) = some false)
    (q_BadNumber : PySem.W.subIn K (.ref C_BadNumber) (.ref C_PickError) = some true)
    (q_BadSizes : PySem.W.subIn K (.ref C_BadSizes) (.ref C_PickError) = some true) : LawEnd l w K 63 mg fa h := by
  have X0 : Tx K mg cL := ⟨⟨_, _, _, _, _, _, _, _, _, _, PySem.W.mg_of X G a_is_between, k_is_between, l_is_between, c_is_between⟩,
    ⟨_, _, _, _, _, _, _, _, _, _, PySem.W.mg_of X G a_are_sizes, k_are_sizes, l_are_sizes, c_are_sizes⟩,
    ⟨_, _, _, _, _, _, _, _, _, _, PySem.W.mg_of X G a_need_sizes, k_need_sizes, l_need_sizes, c_need_sizes⟩,
    ⟨_, _, _, _, _, _, _, _, _, _, PySem.W.mg_of X G a_need_pairs, k_need_pairs, l_need_pairs, c_need_pairs⟩,
    ⟨_, _, _, _, _, _, _, _, _, _, PySem.W.mg_of X G a_lack_at, k_lack_at, l_lack_at, c_lack_at⟩,
    ⟨_, _, _, _, _, _, _, _, _, _, PySem.W.mg_of X G a_first_short, k_first_short, l_first_short, c_first_short⟩,
    ⟨_, _, _, _, _, _, _, _, _, _, PySem.W.mg_of X G a_rises, k_rises, l_rises, c_rises⟩,
    ⟨_, _, _, _, _, _, _, _, _, _, PySem.W.mg_of X G a_short_size, k_short_size, l_short_size, c_short_size⟩,
    ⟨_, _, _, _, _, _, _, _, _, _, PySem.W.mg_of X G a_rises_to, k_rises_to, l_rises_to, c_rises_to⟩,
    ⟨_, _, _, _, _, _, _, _, _, _, PySem.W.mg_of X G a_deficit, k_deficit, l_deficit, c_deficit⟩,
    ⟨_, _, _, _, _, _, _, _, _, _, PySem.W.mg_of X G a__law_begun, k__law_begun, l__law_begun, c__law_begun⟩,
    ⟨_, _, _, _, _, _, _, _, _, _, PySem.W.mg_of X G a__law_draw, k__law_draw, l__law_draw, c__law_draw⟩,
    ⟨_, _, _, _, _, _, _, _, _, _, PySem.W.mg_of X G a__law_pick, k__law_pick, l__law_pick, c__law_pick⟩,
    ⟨_, _, _, _, _, _, _, _, _, _, PySem.W.mg_of X G a__law_mixed, k__law_mixed, l__law_mixed, c__law_mixed⟩,
    ⟨_, _, _, _, _, _, _, _, _, _, PySem.W.mg_of X G a__law_caught, k__law_caught, l__law_caught, c__law_caught⟩,
    ⟨_, _, _, _, _, _, _, _, _, _, PySem.W.mg_of X G a__law_wrong_sizes, k__law_wrong_sizes, l__law_wrong_sizes, c__law_wrong_sizes⟩,
    ⟨_, _, _, _, _, _, _, _, _, _, PySem.W.mg_of X G a__law_lack, k__law_lack, l__law_lack, c__law_lack⟩,
    ⟨_, _, _, _, _, _, _, _, _, _, PySem.W.mg_of X G a__law_short_sizes, k__law_short_sizes, l__law_short_sizes, c__law_short_sizes⟩,
    ⟨_, _, _, _, _, _, _, _, _, _, PySem.W.mg_of X G a__law_rising, k__law_rising, l__law_rising, c__law_rising⟩,
    ⟨_, _, _, _, _, _, _, _, _, _, PySem.W.mg_of X G a__law_any_sizes, k__law_any_sizes, l__law_any_sizes, c__law_any_sizes⟩,
    ⟨_, _, _, _, _, _, _, _, _, _, PySem.W.mg_of X G a__law_wrong_number, k__law_wrong_number, l__law_wrong_number, c__law_wrong_number⟩,
    ⟨_, _, _, _, _, _, _, _, _, PySem.W.mg_of X G a_law, k_law, l_law, c_law⟩,
    ⟨C_BadNumber, PySem.W.mg_of X G g_BadNumber, ⟨x_BadNumber, kp_BadNumber, ty_BadNumber, ⟨e1_BadNumber, e2_BadNumber, e3_BadNumber, e4_BadNumber, e5_BadNumber, e7, e8, e6_BadNumber⟩⟩⟩,
    ⟨C_BadSizes, PySem.W.mg_of X G g_BadSizes, ⟨x_BadSizes, kp_BadSizes, ty_BadSizes, ⟨e1_BadSizes, e2_BadSizes, e3_BadSizes, e4_BadSizes, e5_BadSizes, e7, e8, e6_BadSizes⟩⟩⟩,
    ⟨t_MOST_NUMBER, PySem.W.mg_of X G i_MOST_NUMBER⟩,
    ⟨t_MOST_PLANS, PySem.W.mg_of X G i_MOST_PLANS⟩,
    PySem.W.mg_none_of X G z_abs,
    PySem.W.mg_none_of X G z_all,
    PySem.W.mg_none_of X G z_bool,
    PySem.W.mg_none_of X G z_int,
    PySem.W.mg_none_of X G z_isinstance,
    PySem.W.mg_none_of X G z_len,
    PySem.W.mg_none_of X G z_list,
    PySem.W.mg_none_of X G z_max,
    PySem.W.mg_none_of X G z_min,
    PySem.W.mg_none_of X G z_range,
    PySem.W.mg_none_of X G z_repr,
    PySem.W.mg_none_of X G z_tuple,
    isi_of (mem2 (fun C C' h1 h2 => by
      cases (PySem.W.mg_of X G g_BadNumber).symm.trans h1
      cases (PySem.W.mg_of X G g_BadNumber).symm.trans h2
      exact ⟨(⟨e1_BadNumber, e2_BadNumber, e3_BadNumber, e4_BadNumber, e5_BadNumber, e7, e8, e6_BadNumber⟩ : ExcC K C_BadNumber), if_pos (beq_self_eq_true _)⟩)
    (mem2 (fun C C' h1 h2 => by
      cases (PySem.W.mg_of X G g_BadNumber).symm.trans h1
      cases (PySem.W.mg_of X G g_BadSizes).symm.trans h2
      exact ⟨(⟨e1_BadNumber, e2_BadNumber, e3_BadNumber, e4_BadNumber, e5_BadNumber, e7, e8, e6_BadNumber⟩ : ExcC K C_BadNumber), kit_own e4_BadSizes ty_BadSizes ne_BadNumber_BadSizes s_BadNumber_BadSizes⟩)
    (mem2 (fun C C' h1 h2 => by
      cases (PySem.W.mg_of X G g_BadSizes).symm.trans h1
      cases (PySem.W.mg_of X G g_BadNumber).symm.trans h2
      exact ⟨(⟨e1_BadSizes, e2_BadSizes, e3_BadSizes, e4_BadSizes, e5_BadSizes, e7, e8, e6_BadSizes⟩ : ExcC K C_BadSizes), kit_own e4_BadNumber ty_BadNumber ne_BadSizes_BadNumber s_BadSizes_BadNumber⟩)
    (mem2 (fun C C' h1 h2 => by
      cases (PySem.W.mg_of X G g_BadSizes).symm.trans h1
      cases (PySem.W.mg_of X G g_BadSizes).symm.trans h2
      exact ⟨(⟨e1_BadSizes, e2_BadSizes, e3_BadSizes, e4_BadSizes, e5_BadSizes, e7, e8, e6_BadSizes⟩ : ExcC K C_BadSizes), if_pos (beq_self_eq_true _)⟩)
    (fun _ h => nomatch h)))))
    (mem2 (fun C' h t ht => by
      cases (PySem.W.mg_of X G g_BadNumber).symm.trans h
      simp only [List.mem_cons, List.not_mem_nil, or_false] at ht
      rcases ht with rfl | rfl | rfl | rfl | rfl | rfl | rfl
      · exact kit_own e4_BadNumber ty_BadNumber rfl y_NoneType_BadNumber
      · exact kit_own e4_BadNumber ty_BadNumber rfl y_bool_BadNumber
      · exact kit_own e4_BadNumber ty_BadNumber rfl y_int_BadNumber
      · exact kit_own e4_BadNumber ty_BadNumber rfl y_str_BadNumber
      · exact kit_own e4_BadNumber ty_BadNumber rfl y_tuple_BadNumber
      · exact kit_own e4_BadNumber ty_BadNumber rfl y_list_BadNumber
      · exact kit_own e4_BadNumber ty_BadNumber rfl y_dict_BadNumber)
    (mem2 (fun C' h t ht => by
      cases (PySem.W.mg_of X G g_BadSizes).symm.trans h
      simp only [List.mem_cons, List.not_mem_nil, or_false] at ht
      rcases ht with rfl | rfl | rfl | rfl | rfl | rfl | rfl
      · exact kit_own e4_BadSizes ty_BadSizes rfl y_NoneType_BadSizes
      · exact kit_own e4_BadSizes ty_BadSizes rfl y_bool_BadSizes
      · exact kit_own e4_BadSizes ty_BadSizes rfl y_int_BadSizes
      · exact kit_own e4_BadSizes ty_BadSizes rfl y_str_BadSizes
      · exact kit_own e4_BadSizes ty_BadSizes rfl y_tuple_BadSizes
      · exact kit_own e4_BadSizes ty_BadSizes rfl y_list_BadSizes
      · exact kit_own e4_BadSizes ty_BadSizes rfl y_dict_BadSizes)
    (fun _ h => nomatch h))),
    ⟨C_PickError, PySem.W.mg_of X G g_PickError, (mem2 (fun C h => by
      cases (PySem.W.mg_of X G g_BadNumber).symm.trans h
      exact PySem.W.exm_ref e3_PickError e4_PickError ty_PickError q_BadNumber)
    (mem2 (fun C h => by
      cases (PySem.W.mg_of X G g_BadSizes).symm.trans h
      exact PySem.W.exm_ref e3_PickError e4_PickError ty_PickError q_BadSizes)
    (fun _ h => nomatch h)))⟩⟩
  exact law_end (P := P) hprog X0 hfa p_code (own f_law cL pL _ _ _ _ _ _ (PySem.W.mg_of X G a_law) l_law rfl rfl l_code u_code) (PySem.W.codeHd_of_K X h_code) pure_
end
end K40
set_option Elab.async false
set_option linter.all false
set_option maxRecDepth 100000
set_option maxHeartbeats 2000000
/-! The law k40 on its readings. -/
open PySem PySem.Spec PyProof.Rows L2 DL SH
local macro_rules | `(tactic| walk_at "k1") => `(tactic| first | walk_at "w2" | with_reducible refine w_ixP0 ?_ | with_reducible refine w_ixP1 ?_ | with_reducible refine w_lstPr ?_ | with_reducible refine w_lenK ?_ | with_reducible refine w_itK ?_ | with_reducible refine w_ixK (by assumption) ?_ | with_reducible refine w_mk1 ?_ | with_reducible refine w_mkO rfl ?_ | with_reducible refine w_modI8 ?_ | with_reducible refine w_addL (by walk_at "len") ?_ | with_reducible refine w_addT (by walk_at "len") ?_ | with_reducible refine w_ixBk (by walk_at "len") (by walk_at "len") ?_ | with_reducible refine w_lenPl ?_ | with_reducible refine w_itPl ?_ | with_reducible refine w_reprS (by assumption) (by decide) (by decide) ?_ | with_reducible refine w_neSelf ?_ | with_reducible refine w_tri0 ?_ | with_reducible refine w_tri1 ?_ | with_reducible refine w_tri2 ?_ | with_reducible refine w_appE (by walk_at "len") ?_)
local macro_rules | `(tactic| walk_at "k") => `(tactic| repeat walk_at "k1")
local macro_rules | `(tactic| walk_at "q1") => `(tactic| first | walk_at "k1" | with_reducible refine w_raiseV ?_)
local macro_rules | `(tactic| walk_at "q") => `(tactic| repeat walk_at "q1")
local macro_rules | `(tactic| walk_at "r1") => `(tactic| first | walk_at "q1" | with_reducible refine w_row ?_ | with_reducible refine w_rwL ?_ | with_reducible refine w_rwT ?_ | with_reducible refine w_callV ?_ | (with_reducible show OpP (gT _ _ _) _ _; with_reducible refine op_some (by with_unfolding_all exact rfl) ?_))
local macro_rules | `(tactic| walk_at "r") => `(tactic| repeat walk_at "r1")
namespace K40
abbrev Vr := Option (Bool × D)
abbrev row (n : Nat) (a2 a3 a4 a5 a6 a7 a8 a9 a10 a11 a12 a13 a14 a15 : Vr) : DL.Env := [some (false, .scr n), some (false, .st), a2, a3, a4, a5, a6, a7, a8, a9, a10, a11, a12, a13, a14, a15]
theorem m_BadSizes : ("BadSizes" : Str) ∈ pks := by decide
theorem isi_BadSizes : isi [.exc "BadSizes" Str.empty [], .fn "BadSizes"] = some (.bl true) := by
  show (subOf isiT "BadSizes" "BadSizes").map D.bl = _
  rw [show subOf isiT "BadSizes" "BadSizes" = some true by decide]
  rfl
theorem m_BadNumber : ("BadNumber" : Str) ∈ pks := by decide
theorem isi_BadNumber : isi [.exc "BadNumber" Str.empty [], .fn "BadNumber"] = some (.bl true) := by
  show (subOf isiT "BadNumber" "BadNumber").map D.bl = _
  rw [show subOf isiT "BadNumber" "BadNumber" = some true by decide]
  rfl
/-- how many sizes of s or more lack -/
def lackZ (S : List Int) (n s : Int) : Int := 2 * n - s - ((S.filter fun x => decide (s ≤ x)).length : Int)
def spanZ (n : Nat) : List Int := (List.range n).map fun i : Nat => (1 : Int) + (i : Int)
def shortL (S : List Int) (n : Nat) : List Int := (spanZ n).filter fun s => decide (0 < lackZ S n s)
def firstD (S : List Int) (n : Nat) : D := match shortL S n with
  | [] => .non
  | s :: _ => .int s
section
variable {g : G} {P : D → G → Prop} {E : XE} {S : List Int} {m : Nat} {d d2 : D}
theorem rangeL_span (n : Nat) : rangeL 1 n = (spanZ n).map D.int := by
  unfold rangeL spanZ
  rw [List.map_map]
  rfl
theorem span_len (n : Nat) : (spanZ n).length = n := by unfold spanZ; rw [List.length_map, List.length_range]
theorem mem_span {n : Nat} {s : Int} : s ∈ spanZ n ↔ 1 ≤ s ∧ s ≤ n := by
  unfold spanZ
  rw [List.mem_map]
  constructor
  · rintro ⟨i, hi, rfl⟩
    have := List.mem_range.mp hi
    omega
  · intro h
    exact ⟨(s - 1).toNat, List.mem_range.mpr (by omega), by omega⟩
theorem lack_at {n s : Int} (hl : S.length ≤ 900) (hn : 0 ≤ n ∧ n ≤ 9) (k : P (.int (lackZ S n s)) g) : (f_lack_at [ips S, .int n, .int s] g).all P E := by
  unfold f_lack_at
  with_reducible refine w_fn ?_
  unfold t_lack_at
  rw [show ips S = .tup (S.map D.int) from rfl]
  walk_at "r"
  refine w_mulI (.inl ⟨by decide, by decide⟩) ?_
  walk_at "r"
  refine w_lcTF (fun x : Int => decide (s ≤ x)) (fun x : Int => .int x) (fun x _ => ⟨_, rfl, ?_⟩) ?_
  · walk_at "r"
    refine ⟨⟨rfl, rfl⟩, fun _ => ?_⟩
    walk_at "r"
    exact ⟨rfl, rfl⟩
  walk_at "r"
  rw [List.length_map]
  exact k
theorem law_lack {n s : Int} (hl : S.length ≤ 900) (hn : 0 ≤ n ∧ n ≤ 9) (k : P (.int (lackZ S n s)) g) : (f__law_lack [ips S, .int n, .int s] g).all P E := by
  unfold f__law_lack
  with_reducible refine w_fn ?_
  unfold t__law_lack
  rw [show ips S = .tup (S.map D.int) from rfl]
  walk_at "r"
  refine w_mulI (.inl ⟨by decide, by decide⟩) ?_
  walk_at "r"
  refine w_lcTF (fun x : Int => decide (s ≤ x)) (fun _ => .int 1) (fun x _ => ⟨_, rfl, ?_⟩) ?_
  · walk_at "r"
    refine ⟨⟨rfl, rfl⟩, fun _ => ?_⟩
    walk_at "r"
    exact ⟨rfl, rfl⟩
  walk_at "r"
  rw [List.length_map]
  exact k
theorem law_short {n : Nat} (hl : S.length ≤ 900) (hn : n ≤ 9) (k : P (.lst ((shortL S n).map D.int)) g) : (f__law_short_sizes [ips S, .int (n : Int)] g).all P E := by
  unfold f__law_short_sizes
  with_reducible refine w_fn ?_
  unfold t__law_short_sizes
  walk_at "r"
  refine ⟨by rw [rangeL_len]; omega, ?_⟩
  rw [show ((n : Int) + 1 - 1).toNat = n by omega, rangeL_span]
  refine w_lcTF (fun s : Int => decide (0 < lackZ S n s)) D.int (fun s hs => ⟨_, rfl, ?_⟩) ?_
  · walk_at "r"
    with_reducible refine law_lack hl (by omega) ?_
    walk_at "r"
    refine ⟨⟨rfl, rfl⟩, fun _ => ?_⟩
    walk_at "r"
    exact ⟨rfl, rfl⟩
  walk_at "r"
  exact k
theorem first_short {n : Nat} (hl : S.length ≤ 900) (hn : n ≤ 9) (k : P (firstD S n) g) : (f_first_short [ips S, .int (n : Int)] g).all P E := by
  unfold f_first_short
  with_reducible refine w_fn ?_
  unfold t_first_short
  walk_at "r"
  with_reducible refine w_for (fun l' ρ g' => ∃ (ss : List Int) (a2 : Vr), g' = g ∧ l' = ss.map D.int ∧ (∀ s ∈ ss, 1 ≤ s ∧ s ≤ n) ∧ ρ = [some (false, ips S), some (false, .int (n : Int)), a2] ∧ (match ss.filter fun s => decide (0 < lackZ S n s) with | [] => D.non | s :: _ => .int s) = firstD S n) ?_ ?_ ?_
  · walk_at "r"
    rw [show ((n : Int) + 1 - 1).toNat = n by omega, rangeL_span]
    exact ⟨spanZ n, _, rfl, rfl, fun s hs => mem_span.mp hs, rfl, rfl⟩
  · rintro d0 l' ρ g' ⟨ss, a2, rfl, e0, hs, rfl, he⟩
    cases ss with
    | nil => cases e0
    | cons s ss =>
    obtain ⟨rfl, rfl⟩ := List.cons.inj e0
    refine ⟨_, rfl, ?_⟩
    walk_at "r"
    with_reducible refine lack_at hl (by omega) ?_
    walk_at "r"
    refine w_dec (fun h => ?_) fun h => ?_
    · rw [List.filter_cons_of_pos (by exact decide_eq_true h)] at he
      walk_at "r"
      have he : D.int s = firstD S n := he
      rw [he]
      exact k
    · rw [List.filter_cons_of_neg (by rw [decide_eq_true_eq]; exact h)] at he
      walk_at "r"
      exact ⟨ss, _, rfl, rfl, fun x hx => hs x (List.mem_cons_of_mem _ hx), rfl, he⟩
  · rintro ρ g' ⟨ss, a2, rfl, e0, hs, rfl, he⟩
    have : ss = [] := by
      cases ss with
      | nil => rfl
      | cons s ss => cases e0
    subst this
    walk_at "r"
    have he : D.non = firstD S n := he
    rw [he]
    exact k
end
structure SzM (S : List Int) : Prop where
  l1 : 1 ≤ S.length
  l2 : S.length ≤ 16
  r : ∀ x ∈ S, 0 ≤ x ∧ x ≤ 8
theorem max_lst {S : List Int} (h : S ≠ []) : ∃ M, fMaxS [.lst (S.map D.int)] = some (.int M) ∧ M ∈ S ∧ ∀ x ∈ S, x ≤ M := max_ips h
theorem is_first (S : List Int) (n : Nat) : dIs (firstD S n) .non = some (.bl (decide (shortL S n = []))) := by
  unfold firstD
  cases shortL S n with
  | nil => rfl
  | cons s l => rw [decide_eq_false (List.cons_ne_nil _ _)]; rfl
section
variable {g : G} {P : D → G → Prop} {E : XE} {S : List Int} {m n : Nat} {d d2 : D}
theorem need_pairs (hn : 1 ≤ n ∧ n ≤ 8) (k : P .non g) : (f_need_pairs [.int (n : Int)] g).all P E := by
  unfold f_need_pairs
  with_reducible refine w_fn ?_
  unfold t_need_pairs
  walk_at "r"
  refine is_between rfl ?_
  rw [show btw (.int (n : Int)) 1 (7 + 1) = true by show (decide (1 ≤ (n : Int)) && decide ((n : Int) ≤ 7 + 1)) = true; rw [decide_eq_true (by omega), decide_eq_true (by omega)]; rfl]
  walk_at "r"
  exact k
theorem need_pairs_bad (hp : plain d) (hn : btw d 1 8 = false) (k : E "BadNumber" Str.empty [] g) : (f_need_pairs [d] g).all P E := by
  unfold f_need_pairs
  with_reducible refine w_fn ?_
  unfold t_need_pairs
  walk_at "r"
  refine is_between hp ?_
  rw [show btw d 1 (7 + 1) = false from hn]
  walk_at "r"
  exact k
theorem rises (hS : SzM S) (hn : 1 ≤ n ∧ n ≤ 8) (k : P (.bl (decide (shortL S n = []))) g) : (f_rises [ips S, .int (n : Int)] g).all P E := by
  have h2 := hS.l2
  unfold f_rises
  with_reducible refine w_fn ?_
  unfold t_rises
  walk_at "r"
  with_reducible refine need_sizes_ok hS.l1 hS.l2 hS.r ?_
  walk_at "r"
  with_reducible refine need_pairs hn ?_
  walk_at "r"
  with_reducible refine first_short (by omega) (by omega) ?_
  walk_at "r"
  refine op_some (is_first S n) ?_
  exact k
theorem short_size (hS : SzM S) (hn : 1 ≤ n ∧ n ≤ 8) (k : P (firstD S n) g) : (f_short_size [ips S, .int (n : Int)] g).all P E := by
  have h2 := hS.l2
  unfold f_short_size
  with_reducible refine w_fn ?_
  unfold t_short_size
  walk_at "r"
  with_reducible refine need_sizes_ok hS.l1 hS.l2 hS.r ?_
  walk_at "r"
  with_reducible refine need_pairs hn ?_
  walk_at "r"
  with_reducible exact first_short (by omega) (by omega) k
theorem rises_to (hS : SzM S) (k : ∀ M : Nat, M ≤ 8 → (∀ i, 1 ≤ i → i ≤ M → shortL S i = []) → (M = 8 ∨ shortL S (M + 1) ≠ []) → P (.int (M : Int)) g) : (f_rises_to [ips S] g).all P E := by
  have h2 := hS.l2
  unfold f_rises_to
  with_reducible refine w_fn ?_
  unfold t_rises_to
  walk_at "r"
  with_reducible refine need_sizes_ok hS.l1 hS.l2 hS.r ?_
  walk_at "r"
  with_reducible refine w_while (fun n ρ g' => ∃ M : Nat, g' = g ∧ M ≤ 8 ∧ n + M = 66 ∧ (∀ i, 1 ≤ i → i ≤ M → shortL S i = []) ∧ ρ = [some (false, ips S), some (false, .int (M : Int))]) ?_ ?_ ?_
  · exact ⟨0, rfl, Nat.zero_le _, rfl, fun i h1 h2 => by omega, rfl⟩
  · rintro ρ g' ⟨M, _, h, h2, _⟩
    omega
  · rintro n ρ g' ⟨M, rfl, hM, hn, hj, rfl⟩
    walk_at "r"
    refine w_dec (fun h7 => ?_) fun h7 => ?_
    · walk_at "r"
      rw [show (M : Int) + 1 = ((M + 1 : Nat) : Int) by omega]
      with_reducible refine first_short (by omega) (by omega) ?_
      walk_at "r"
      refine op_some (is_first S (M + 1)) ?_
      refine w_dec (fun hs => ?_) fun hs => ?_
      · walk_at "r"
        exact ⟨M + 1, rfl, by omega, by omega, fun i h1 h2 => by
          by_cases he : i = M + 1
          · rw [he]; exact hs
          · exact hj i h1 (by omega), rfl⟩
      · walk_at "r"
        exact k M hM hj (.inr hs)
    · walk_at "r"
      exact k M hM hj (.inl (by omega))
theorem deficit_ok (hS : SzM S) (hn : 1 ≤ n ∧ n ≤ 8) (hmx : ∀ x ∈ S, x ≤ n) {dm : Int} (hd : fMaxS [.lst ((0 :: (spanZ n).map (lackZ S n)).map D.int)] = some (.int dm)) (k : P (.int dm) g) : (f_deficit [ips S, .int (n : Int)] g).all P E := by
  have h1 := hS.l1
  have h2 := hS.l2
  obtain ⟨M, hM, hMm, hMx⟩ := max_ips (S := S) (fun e => by rw [e] at h1; simp at h1)
  have hMn := hmx M hMm
  unfold f_deficit
  with_reducible refine w_fn ?_
  unfold t_deficit
  walk_at "r"
  with_reducible refine need_sizes_ok hS.l1 hS.l2 hS.r ?_
  walk_at "r"
  with_reducible refine need_pairs hn ?_
  walk_at "r"
  refine op_some hM ?_
  walk_at "r"
  rw [if_neg (by rw [decide_eq_true_eq]; omega)]
  walk_at "r"
  refine ⟨by rw [rangeL_len]; omega, ?_⟩
  rw [show ((n : Int) + 1 - 1).toNat = n by omega, rangeL_span]
  refine w_lcT (fun s : Int => .int (lackZ S n s)) (fun s hs => ⟨_, rfl, ?_⟩) ?_
  · walk_at "r"
    with_reducible refine lack_at (by omega) (by omega) ?_
    exact ⟨rfl, rfl⟩
  walk_at "r"
  refine w_addL (by rw [List.length_map, span_len]; show 1 + _ ≤ _; omega) ?_
  rw [show [D.int 0] ++ (spanZ n).map (fun s => D.int (lackZ S n s)) = (0 :: (spanZ n).map (lackZ S n)).map D.int by rw [List.map_cons, List.map_map]; rfl]
  walk_at "r"
  exact op_some hd k
theorem deficit_big (hS : SzM S) (hn : 1 ≤ n ∧ n ≤ 8) {x : Int} (hx : x ∈ S) (hb : (n : Int) < x) (k : E "BadSizes" Str.empty [] g) : (f_deficit [ips S, .int (n : Int)] g).all P E := by
  have h1 := hS.l1
  have h2 := hS.l2
  obtain ⟨M, hM, hMm, hMx⟩ := max_ips (S := S) (fun e => by rw [e] at h1; simp at h1)
  have hMn := hMx x hx
  unfold f_deficit
  with_reducible refine w_fn ?_
  unfold t_deficit
  walk_at "r"
  with_reducible refine need_sizes_ok hS.l1 hS.l2 hS.r ?_
  walk_at "r"
  with_reducible refine need_pairs hn ?_
  walk_at "r"
  refine op_some hM ?_
  walk_at "r"
  rw [if_pos (decide_eq_true (by omega))]
  walk_at "r"
  exact k
end
section
variable {g : G} {P : D → G → Prop} {E : XE} {S : List Int} {m n : Nat} {d d2 : D}
theorem rises_x1 (h : Ok 2 d) (hs : szB d = false) (k : E "BadSizes" Str.empty [] g) : (f_rises [d, d2] g).all P E := by
  unfold f_rises
  with_reducible refine w_fn ?_
  unfold t_rises
  walk_at "r"
  refine SH.need_sizes h (fun w => by rw [hs] at w; cases w) fun _ => k
theorem short_x1 (h : Ok 2 d) (hs : szB d = false) (k : E "BadSizes" Str.empty [] g) : (f_short_size [d, d2] g).all P E := by
  unfold f_short_size
  with_reducible refine w_fn ?_
  unfold t_short_size
  walk_at "r"
  refine SH.need_sizes h (fun w => by rw [hs] at w; cases w) fun _ => k
theorem deficit_x1 (h : Ok 2 d) (hs : szB d = false) (k : E "BadSizes" Str.empty [] g) : (f_deficit [d, d2] g).all P E := by
  unfold f_deficit
  with_reducible refine w_fn ?_
  unfold t_deficit
  walk_at "r"
  refine SH.need_sizes h (fun w => by rw [hs] at w; cases w) fun _ => k
theorem rises_to_x1 (h : Ok 2 d) (hs : szB d = false) (k : E "BadSizes" Str.empty [] g) : (f_rises_to [d] g).all P E := by
  unfold f_rises_to
  with_reducible refine w_fn ?_
  unfold t_rises_to
  walk_at "r"
  refine SH.need_sizes h (fun w => by rw [hs] at w; cases w) fun _ => k
theorem rises_x2 (hS : SzM S) (hp : plain d) (hn : btw d 1 8 = false) (k : E "BadNumber" Str.empty [] g) : (f_rises [ips S, d] g).all P E := by
  unfold f_rises
  with_reducible refine w_fn ?_
  unfold t_rises
  walk_at "r"
  with_reducible refine need_sizes_ok hS.l1 hS.l2 hS.r ?_
  walk_at "r"
  with_reducible refine need_pairs_bad hp hn ?_
  exact k
theorem short_x2 (hS : SzM S) (hp : plain d) (hn : btw d 1 8 = false) (k : E "BadNumber" Str.empty [] g) : (f_short_size [ips S, d] g).all P E := by
  unfold f_short_size
  with_reducible refine w_fn ?_
  unfold t_short_size
  walk_at "r"
  with_reducible refine need_sizes_ok hS.l1 hS.l2 hS.r ?_
  walk_at "r"
  with_reducible refine need_pairs_bad hp hn ?_
  exact k
theorem deficit_x2 (hS : SzM S) (hp : plain d) (hn : btw d 1 8 = false) (k : E "BadNumber" Str.empty [] g) : (f_deficit [ips S, d] g).all P E := by
  unfold f_deficit
  with_reducible refine w_fn ?_
  unfold t_deficit
  walk_at "r"
  with_reducible refine need_sizes_ok hS.l1 hS.l2 hS.r ?_
  walk_at "r"
  with_reducible refine need_pairs_bad hp hn ?_
  exact k
theorem w_callVL {T : List (Str × (List D → M D))} {L : List (Nat × (List D → M D))} {fv : Ep} {fs : Es} {ρ : DL.Env} (h : (fv ρ g).all (fun d g1 => OpP (fnTL T L d) (fun cf g2 => (fs ρ g2).all (fun ds g3 => (cf ds g3).all P E) E) g1) E) : (eCallVL T L fv fs ρ g).all P E := by
  refine w_bind (R.all_imp h (fun d g1 h => ?_) fun _ _ _ _ h => h)
  cases q : fnTL T L d with
  | none => rw [q] at h; exact h.elim
  | some cf =>
    rw [q] at h
    exact w_bind (w_opt (op_some rfl (w_bind h)))
theorem law_wrong_number (hG : GI m g) (hm : 1 ≤ m) (k : ∀ d g', plain d → btw d 1 8 = false → GI (m - 1) g' → P d g') : (f__law_wrong_number [.st] g).all P E := by
  unfold f__law_wrong_number
  with_reducible refine w_fn ?_
  unfold t__law_wrong_number
  walk_at "r"
  refine op_some (show dPow (.int 10) (.int 6) = some (.int 1000000) from rfl) ?_
  walk_at "r"
  with_reducible refine pick hG hm (by simp) (by simp) fun d g' hd hG' => ?_
  simp only [List.mem_cons, List.not_mem_nil, or_false] at hd
  rcases hd with rfl | rfl | rfl | rfl | rfl | rfl | rfl | rfl | rfl
  all_goals exact k _ g' rfl rfl hG'
theorem law_wrong_sizes (hS : SzM S) (hG : GI m g) (hm : 2 ≤ m) (k : ∀ d g', Ok 2 d → szB d = false → GI (m - 2) g' → P d g') : (f__law_wrong_sizes [.st, ips S] g).all P E := by
  have h1 := hS.l1
  have h2 := hS.l2
  unfold f__law_wrong_sizes
  with_reducible refine w_fn ?_
  unfold t__law_wrong_sizes
  rw [show ips S = .tup (S.map D.int) from rfl]
  walk_at "r"
  rw [List.length_map]
  with_reducible refine draw hG (by omega) (by omega) (by omega) fun c g1 hc hG1 => ?_
  walk_at "r"
  have lt : ((S.map D.int).take c).length + 1 ≤ 17 := by rw [List.length_take, List.length_map]; omega
  have ld : ((S.map D.int).drop (c + 1)).length ≤ 16 := by rw [List.length_drop, List.length_map]; omega
  refine w_lcM (fun x : D => D.tup ((S.map D.int).take c ++ [x] ++ (S.map D.int).drop (c + 1))) (fun x hx => ⟨_, rfl, ?_⟩) ?_
  · walk_at "r"
    rw [cut_take]
    refine w_addT (by show _ + 1 ≤ _; omega) ?_
    walk_at "r"
    rw [show (c : Int) + 1 = ((c + 1 : Nat) : Int) by omega, cut_drop]
    refine w_addT (by rw [List.length_append]; show _ + 1 + _ ≤ _; omega) ?_
    walk_at "r"
    exact ⟨rfl, rfl⟩
  walk_at "r"
  refine w_mulT (by decide) (by decide) ?_
  have hk : ∀ x ∈ [D.int 9, D.int (-1), D.non, D.bl true, D.str "1"].map (fun x => D.tup ((S.map D.int).take c ++ [x] ++ (S.map D.int).drop (c + 1))), Ok 2 x ∧ szB x = false := fun y hy => by
    obtain ⟨x, hx, rfl⟩ := List.mem_map.mp hy
    have hb : Ok 1 x ∧ btw x 0 8 = false := by
      simp only [List.mem_cons, List.not_mem_nil, or_false] at hx
      rcases hx with rfl | rfl | rfl | rfl | rfl
      · exact ⟨.int _, rfl⟩
      · exact ⟨.int _, rfl⟩
      · exact ⟨.non, rfl⟩
      · exact ⟨.bl _, rfl⟩
      · exact ⟨.str _, rfl⟩
    have hmem : x ∈ (S.map D.int).take c ++ [x] ++ (S.map D.int).drop (c + 1) := List.mem_append_left _ (List.mem_append_right _ List.mem_cons_self)
    have hall : ∀ z ∈ (S.map D.int).take c ++ [x] ++ (S.map D.int).drop (c + 1), Ok 1 z := fun z hz => by
      have isI : z ∈ S.map D.int → Ok 1 z := fun h => by obtain ⟨i, _, rfl⟩ := List.mem_map.mp h; exact .int i
      rcases List.mem_append.mp hz with hz | hz
      · rcases List.mem_append.mp hz with hz | hz
        · exact isI (List.mem_of_mem_take hz)
        · rw [List.mem_singleton.mp hz]; exact hb.1
      · exact isI (List.mem_of_mem_drop hz)
    have hlen : ((S.map D.int).take c ++ [x] ++ (S.map D.int).drop (c + 1)).length ≤ 1000 := by
      rw [List.length_append, List.length_append]
      show _ + 1 + _ ≤ _
      omega
    generalize (S.map D.int).take c ++ [x] ++ (S.map D.int).drop (c + 1) = L at hmem hall hlen
    refine ⟨.tup hlen hall, ?_⟩
    show (decide (1 ≤ L.length) && decide (L.length ≤ 16) && L.all fun x => btw x 0 8) = false
    rw [show (L.all fun x => btw x 0 8) = false from List.all_eq_false.mpr ⟨x, hmem, by rw [hb.2]; decide⟩, Bool.and_false]
  have lk : ([D.int 9, D.int (-1), D.non, D.bl true, D.str "1"].map (fun x => D.tup ((S.map D.int).take c ++ [x] ++ (S.map D.int).drop (c + 1)))).length = 5 := by rw [List.length_map]; rfl
  generalize [D.int 9, D.int (-1), D.non, D.bl true, D.str "1"].map (fun x => D.tup ((S.map D.int).take c ++ [x] ++ (S.map D.int).drop (c + 1))) = L1 at hk lk
  walk_at "r"
  with_reducible refine pick hG1 (by omega) (by simp) (by rw [List.length_append, lk]; simp only [List.length_cons, List.length_nil]; omega) fun d g' hd hG' => ?_
  rcases List.mem_append.mp hd with hd | hd
  · exact k d g' (hk d hd).1 (hk d hd).2 (hG'.mono (by omega))
  · simp only [List.mem_cons, List.not_mem_nil, or_false] at hd
    have hG2 : GI (m - 2) g' := hG'.mono (by omega)
    rcases hd with rfl | rfl | rfl | rfl | rfl | rfl | rfl
    · exact k _ g' (.lst (by rw [List.length_map]; omega) fun x hx => by obtain ⟨i, _, rfl⟩ := List.mem_map.mp hx; exact .int i) rfl hG2
    · exact k _ g' (.tup (by decide) fun x hx => by cases hx) rfl hG2
    · exact k _ g' (.tup (by rw [List.length_replicate]; decide) fun x hx => by rw [(List.mem_replicate.mp hx).2]; exact .int _) rfl hG2
    · exact k _ g' .non rfl hG2
    · exact k _ g' (.int _) rfl hG2
    · exact k _ g' .dct0 rfl hG2
    · exact k _ g' (.str _) rfl hG2
end
theorem w_midX {α : Type} {nx ct bk : DL.Env → G → Prop} {rt : D → G → Prop} {t : Ss} {ρ : DL.Env} {g : G} {E : XE} (ρf : α → DL.Env) (Q : α → G → Prop) (h : (t ρ g).all (FP (fun ρ' g' => ∃ a, ρ' = ρf a ∧ Q a g') NE NE fun _ _ => False) E) (k : ∀ a g', Q a g' → nx (ρf a) g') : (t ρ g).all (FP nx ct bk rt) E :=
  w_mid _ h fun ρ' g' ⟨a, e, q⟩ => e ▸ k a g' q
theorem w_ifval {α : Type} {m1 m2 : R α} {P : α → G → Prop} {E : XE} {b : Bool} (v : α) (g0 : G) (h : if b = true then m1.all (fun d g' => d = v ∧ g' = g0) E else m2.all (fun d g' => d = v ∧ g' = g0) E) (k : P v g0) : if b = true then m1.all P E else m2.all P E :=
  w_ifmidE (fun d g' => d = v ∧ g' = g0) h fun d g' hd => by rw [hd.1, hd.2]; exact k
theorem short_nil {S : List Int} {n : Nat} : shortL S n = [] ↔ ∀ s : Int, 1 ≤ s → s ≤ n → lackZ S n s ≤ 0 := by
  unfold shortL
  rw [List.filter_eq_nil_iff]
  constructor
  · intro h s h1 h2
    have := h s (mem_span.mpr ⟨h1, h2⟩)
    rw [decide_eq_true_eq] at this
    omega
  · intro h s hs
    have := h s (mem_span.mp hs).1 (mem_span.mp hs).2
    rw [decide_eq_true_eq]
    omega
theorem short_mono {S : List Int} {n k : Nat} (hk : k ≤ n) (h : shortL S n = []) : shortL S k = [] := short_nil.mpr fun s h1 h2 => by
  have := short_nil.mp h s h1 (by omega)
  unfold lackZ at this ⊢
  omega
theorem pref_ok (S : List Int) : ∀ k : Nat, ∃ M, M ≤ k ∧ ((List.range k).map (· + 1)).filter (fun i => decide (shortL S i = [])) = (List.range M).map (· + 1) ∧ (∀ i, 1 ≤ i → i ≤ M → shortL S i = []) ∧ (M = k ∨ shortL S (M + 1) ≠ [])
  | 0 => ⟨0, Nat.le_refl _, rfl, fun i h1 h2 => by omega, .inl rfl⟩
  | k + 1 => by
    obtain ⟨M, h1, h2, h3, h4⟩ := pref_ok S k
    rw [List.range_succ, List.map_append, List.filter_append, h2]
    by_cases hk : shortL S (k + 1) = []
    · have hM : M = k := h4.resolve_right fun w => w (short_mono (by omega) hk)
      subst hM
      refine ⟨M + 1, Nat.le_refl _, ?_, fun i i1 i2 => short_mono i2 hk, .inl rfl⟩
      rw [List.range_succ, List.map_append]
      congr 1
      show List.filter _ [M + 1] = [M + 1]
      rw [List.filter_cons_of_pos (by exact decide_eq_true hk)]
      rfl
    · refine ⟨M, by omega, ?_, h3, .inr ?_⟩
      · show _ ++ List.filter _ [k + 1] = _
        rw [List.filter_cons_of_neg (by rw [decide_eq_true_eq]; exact hk), List.filter_nil, List.append_nil]
      · rcases h4 with rfl | h4
        · exact hk
        · exact h4
theorem pref_eq {S : List Int} {M M' k : Nat} (h1 : M ≤ k) (h2 : ∀ i, 1 ≤ i → i ≤ M → shortL S i = []) (h3 : M = k ∨ shortL S (M + 1) ≠ []) (g1 : M' ≤ k) (g2 : ∀ i, 1 ≤ i → i ≤ M' → shortL S i = []) (g3 : M' = k ∨ shortL S (M' + 1) ≠ []) : M = M' := by
  rcases Nat.lt_trichotomy M M' with h | h | h
  · rcases h3 with h3 | h3
    · omega
    · exact absurd (g2 (M + 1) (by omega) (by omega)) h3
  · exact h
  · rcases g3 with g3 | g3
    · omega
    · exact absurd (h2 (M' + 1) (by omega) (by omega)) g3
theorem w_ifand {c : Bool} {m1 : R Bool} {K : Bool → G → Prop} {E : XE} (g0 : G) (h : c = true → m1.all (fun b g' => b = false ∧ g' = g0) E) (k : K false g0) : if c = true then m1.all K E else K false g0 := by
  cases c with
  | false => exact k
  | true => exact R.all_imp (h rfl) (fun b g' hb => by rw [hb.1, hb.2]; exact k) fun _ _ _ _ h => h
theorem lack_more {S : List Int} {n q : Nat} {s : Int} (h2 : s ≤ n) : lackZ (S ++ List.replicate q (n : Int)) n s = lackZ S n s - q := by
  unfold lackZ
  rw [List.filter_append, List.length_append, show (List.replicate q (n : Int)).filter (fun x => decide (s ≤ x)) = List.replicate q (n : Int) from List.filter_eq_self.mpr fun x hx => decide_eq_true (by rw [(List.mem_replicate.mp hx).2]; exact h2), List.length_replicate]
  omega
theorem lacks_max (S : List Int) {n : Nat} (hn : 1 ≤ n ∧ n ≤ 8) : ∃ dm : Nat, fMaxS [.lst ((0 :: (spanZ n).map (lackZ S n)).map D.int)] = some (.int (dm : Int)) ∧ dm ≤ 16 ∧ (∀ s : Int, 1 ≤ s → s ≤ n → lackZ S n s ≤ dm) ∧ (0 < dm → ∃ s : Int, 1 ≤ s ∧ s ≤ n ∧ lackZ S n s = dm) := by
  obtain ⟨dm, hdm, hdmm, hdmx⟩ := max_lst (S := 0 :: (spanZ n).map (lackZ S n)) (List.cons_ne_nil _ _)
  have hd0 : 0 ≤ dm := hdmx 0 List.mem_cons_self
  have hin : dm = 0 ∨ ∃ s : Int, 1 ≤ s ∧ s ≤ n ∧ lackZ S n s = dm := by
    rcases List.mem_cons.mp hdmm with h | h
    · exact .inl h
    · obtain ⟨s, hs, e⟩ := List.mem_map.mp h
      exact .inr ⟨s, (mem_span.mp hs).1, (mem_span.mp hs).2, e⟩
  refine ⟨dm.toNat, by rw [Int.toNat_of_nonneg hd0]; exact hdm, ?_, fun s h1 h2 => ?_, fun hp => ?_⟩
  · rcases hin with h | ⟨s, h1, h2, h3⟩
    · omega
    · unfold lackZ at h3
      omega
  · have := hdmx _ (List.mem_cons_of_mem _ (List.mem_map.mpr ⟨s, mem_span.mpr ⟨h1, h2⟩, rfl⟩))
    omega
  · rcases hin with h | ⟨s, h1, h2, h3⟩
    · omega
    · exact ⟨s, h1, h2, by omega⟩
theorem more_ok {S : List Int} {n dm : Nat} (h : ∀ s : Int, 1 ≤ s → s ≤ n → lackZ S n s ≤ dm) : shortL (S ++ List.replicate dm (n : Int)) n = [] := short_nil.mpr fun s h1 h2 => by
  rw [lack_more h2]
  have := h s h1 h2
  omega
theorem more_no {S : List Int} {n dm : Nat} (h0 : 0 < dm) (h : ∃ s : Int, 1 ≤ s ∧ s ≤ n ∧ lackZ S n s = dm) : shortL (S ++ List.replicate (dm - 1) (n : Int)) n ≠ [] := fun w => by
  obtain ⟨s, h1, h2, h3⟩ := h
  have := short_nil.mp w s h1 h2
  rw [lack_more h2, h3] at this
  omega
theorem more_sz {S : List Int} {n dm : Nat} (hS : SzM S) (hn : n ≤ 8) (hl : (S ++ List.replicate dm (n : Int)).length ≤ 16) : SzM (S ++ List.replicate dm (n : Int)) := ⟨by rw [List.length_append]; have := hS.l1; omega, hl, fun x hx => by
  rcases List.mem_append.mp hx with h | h
  · exact hS.r x h
  · rw [(List.mem_replicate.mp h).2]; omega⟩
theorem more_init {S : List Int} {n dm : Nat} (h0 : 0 < dm) : ((S ++ List.replicate dm (n : Int)).map D.int).take (((S ++ List.replicate dm (n : Int)).map D.int).length - 1) = (S ++ List.replicate (dm - 1) (n : Int)).map D.int := by
  rw [← List.map_take, List.length_map]
  congr 1
  obtain ⟨q, rfl⟩ : ∃ q, dm = q + 1 := ⟨dm - 1, by omega⟩
  rw [show List.replicate (q + 1) (n : Int) = List.replicate q (n : Int) ++ [(n : Int)] from List.replicate_succ' .., ← List.append_assoc, List.length_append]
  show List.take (_ + 1 - 1) _ = _
  rw [Nat.add_sub_cancel, List.take_left']
  · rfl
  · rfl
open Classical in
noncomputable def dmN (S : List Int) (n : Nat) : Nat := if h : 1 ≤ n ∧ n ≤ 8 then Classical.choose (lacks_max S h) else 0
theorem dm_spec (S : List Int) {n : Nat} (hn : 1 ≤ n ∧ n ≤ 8) : fMaxS [.lst ((0 :: (spanZ n).map (lackZ S n)).map D.int)] = some (.int (dmN S n : Int)) ∧ dmN S n ≤ 16 ∧ (∀ s : Int, 1 ≤ s → s ≤ n → lackZ S n s ≤ dmN S n) ∧ (0 < dmN S n → ∃ s : Int, 1 ≤ s ∧ s ≤ n ∧ lackZ S n s = dmN S n) := by
  unfold dmN
  rw [dif_pos hn]
  exact Classical.choose_spec (lacks_max S hn)
/-- a loop over values, for each of which something raises -/
theorem w_valLoop {nx ct bkk : DL.Env → G → Prop} {rt : D → G → Prop} {ρ : DL.Env} {g : G} {E : XE} {pks : List Str} {isi : List D → Option D} {fb : Ep} {fs : Es} {i : Nat} {cls : Str} (ds : List D) (hi : i < ρ.length) (h0 : (fs ρ g).all (fun l g1 => l = ds ∧ g1 = g) XF)
    (hs : ∀ d ∈ ds, (fb (ρ.set i (some (false, d))) g).all (fun _ _ => False) (Rz pks isi cls g)) (k : ∀ v, nx (ρ.set i v) g) :
    (sFor fs (gN i) (sIf (bNot (eTr (eCall isi (sCons (eCaught pks fb) (sCons (eC (.fn cls)) sNil))))) (sRet (eC (.bl false))) (fun ρ => M.pure (.nx ρ))) ρ g).all (FP nx ct bkk rt) E := by
  have e0 : ∃ v, ρ = ρ.set i v := ⟨ρ[i], (List.set_getElem_self hi).symm⟩
  with_reducible refine w_for (fun l ρ' g' => (∃ v, ρ' = ρ.set i v) ∧ g' = g ∧ ∀ d ∈ l, d ∈ ds) ?_ ?_ ?_
  · refine R.all_imp h0 (fun l g1 h => ?_) fun _ _ _ _ h => h.elim
    obtain ⟨rfl, rfl⟩ := h
    exact ⟨e0, rfl, fun d hd => hd⟩
  · rintro d l ρ' g' ⟨⟨v, rfl⟩, rfl, hl⟩
    have hr := hs d (hl d List.mem_cons_self)
    refine ⟨ρ.set i (some (false, d)), by show some _ = some _; rw [List.set_set], ?_⟩
    walk_at "w"
    refine w_caught (R.all_imp hr (fun _ _ h => h.elim) fun c n l g1 h => ?_)
    obtain ⟨⟨h1, h2⟩, h3⟩ := h
    refine ⟨h1, ?_⟩
    walk_at "w"
    refine op_some h2 ?_
    walk_at "w"
    exact ⟨⟨_, rfl⟩, h3, fun d hd => hl d (List.mem_cons_of_mem _ hd)⟩
  · rintro ρ' g' ⟨⟨v, rfl⟩, rfl, _⟩
    exact k v
theorem law_runs {ns : List Int} (hns : ns.length ≤ 63) : (t_law (startLaw 16 ns.length) (g0 ns)).all (FP NE NE NE fun d _ => d = .bl true) XF := by
  unfold t_law
  with_reducible refine w_seq ?_
  with_reducible refine w_for (fun l ρ g => (∃ a2 a3 a4 a5 a6 a7 a8 a9 a10 a11 a12 a13 a14 a15, ρ = row ns.length a2 a3 a4 a5 a6 a7 a8 a9 a10 a11 a12 a13 a14 a15) ∧ GI (3000 * l.length + 10) g) ?_ ?_ ?_
  · walk_at "w"
    have hG := gi0 hns
    have hc : ∀ k : Int, 0 ≤ k → k ≤ 8 → ((∃ a2 a3 a4 a5 a6 a7 a8 a9 a10 a11 a12 a13 a14 a15, startLaw 16 ns.length = row ns.length a2 a3 a4 a5 a6 a7 a8 a9 a10 a11 a12 a13 a14 a15) ∧ GI (3000 * (rangeL 0 (3 + k).toNat).length + 10) (g0 ns)) := fun k h0 h8 =>
      ⟨⟨_, _, _, _, _, _, _, _, _, _, _, _, _, _, rfl⟩, hG.mono (by rw [rangeL_len]; omega)⟩
    refine hc _ ?_ ?_
    · split <;> omega
    · split <;> omega
  · rintro d0 l ρ g ⟨⟨a2, a3, a4, a5, a6, a7, a8, a9, a10, a11, a12, a13, a14, a15, rfl⟩, hG⟩
    refine ⟨_, rfl, ?_⟩
    rw [List.length_cons] at hG
    generalize hm : 3000 * (l.length + 1) + 10 = m at hG
    have fin : ∀ {g' : G} {ρ' : DL.Env} {c : Nat}, GI (m - c) g' → c ≤ 3000 → (∃ a2 a3 a4 a5 a6 a7 a8 a9 a10 a11 a12 a13 a14 a15, ρ' = row ns.length a2 a3 a4 a5 a6 a7 a8 a9 a10 a11 a12 a13 a14 a15) → (∃ a2 a3 a4 a5 a6 a7 a8 a9 a10 a11 a12 a13 a14 a15, ρ' = row ns.length a2 a3 a4 a5 a6 a7 a8 a9 a10 a11 a12 a13 a14 a15) ∧ GI (3000 * l.length + 10) g' := fun h1 h2 h3 => ⟨h3, h1.mono (by omega)⟩
    have hm3 : 3000 ≤ m := by omega
    clear hm
    walk_at "r"
    with_reducible refine draw hG (by omega) (by omega) (by omega) fun r g1 hr hG1 => ?_
    refine w_addI ?_
    rw [show (1 : Int) + (r : Int) = ((1 + r : Nat) : Int) by omega]
    have hn : 1 ≤ 1 + r ∧ 1 + r ≤ 8 := by omega
    generalize 1 + r = n at hn
    clear hr r
    refine w_seq (w_midX (fun S : List Int => row ns.length (some (false, d0)) a3 a4 a5 a6 a7 a8 (some (false, .int (n : Int))) a10 (some (false, ips S)) a12 a13 a14 a15) (fun S g' => SzM S ∧ GI (m - 200) g') ?_ ?_)
    · walk_at "r"
      with_reducible refine draw hG1 (by omega) (by omega) (by omega) fun c g2 hc hG2 => ?_
      walk_at "r"
      refine w_dec (fun h1 => ?_) fun h1 => ?_
      · walk_at "r"
        with_reducible refine draw hG2 (by omega) (by omega) (by omega) fun e g3 he hG3 => ?_
        walk_at "r"
        with_reducible refine law_any_sizes ⟨by omega, by omega⟩ hG3 (by omega) fun S g4 s1 s16 hS hG4 => ?_
        exact ⟨S, rfl, ⟨s1, s16, hS⟩, hG4.mono (by omega)⟩
      · walk_at "r"
        with_reducible refine law_any_sizes ⟨by omega, by omega⟩ hG2 (by omega) fun S g4 s1 s16 hS hG4 => ?_
        exact ⟨S, rfl, ⟨s1, s16, hS⟩, hG4.mono (by omega)⟩
    intro S g2 hSG
    have hS := hSG.1
    have hG2 := hSG.2
    have s1 := hS.l1
    have s16 := hS.l2
    have rq := fun c : Bool => rd_lst (n := 2) (all2 (rd_bool c) (rd_bool c)) (Nat.le_refl _)
    have rF : RD (firstD S n) 20 0 := by
      unfold firstD
      cases hq : shortL S n with
      | nil => exact rd_none
      | cons s l =>
        have hm : s ∈ shortL S n := by rw [hq]; exact List.mem_cons_self
        have := mem_span.mp (List.mem_filter.mp hm).1
        exact rd_int (by omega) (by omega)
    have rFF := rd_lst (n := 2) (all2 rF rF) (Nat.le_refl _)
    walk_at "r"
    with_reducible refine law_short (by omega) (by omega) ?_
    walk_at "r"
    with_reducible refine op_some (eq_ints0 _) ?_
    walk_at "r"
    with_reducible refine rises hS hn ?_
    walk_at "r"
    rw [show DL.pick [1, 0] ([] ++ [.int (n : Int), ips S]) = [ips S, .int (n : Int)] from rfl]
    with_reducible refine rises hS hn ?_
    have rQ := rq (decide (shortL S n = []))
    walk_at "r"
    refine op_some (ne_ints _ []) ?_
    refine w_ifval (firstD S n) g2 ?_ ?_
    · unfold firstD
      cases hq : shortL S n with
      | nil =>
        rw [if_neg (by decide)]
        exact ⟨rfl, rfl⟩
      | cons s l =>
        rw [if_pos (by rw [decide_eq_false (List.cons_ne_nil _ _)]; rfl)]
        walk_at "r"
        exact w_ixL (i := 0) (x := .int s) rfl ⟨rfl, rfl⟩
    walk_at "r"
    with_reducible refine short_size hS hn ?_
    walk_at "r"
    rw [show DL.pick [1, 0] ([] ++ [.int (n : Int), ips S]) = [ips S, .int (n : Int)] from rfl]
    with_reducible refine short_size hS hn ?_
    walk_at "r"
    obtain ⟨M, hM8, hMf, hMo, hMe⟩ := pref_ok S 8
    rw [show rangeL 1 ((9 : Int) - 1).toNat = ((List.range 8).map (· + 1)).map (fun i : Nat => D.int (i : Int)) from rfl]
    refine w_lcTF (fun i : Nat => decide (shortL S i = [])) (fun i : Nat => D.int (i : Int)) (fun i hi => ⟨_, rfl, ?_⟩) ?_
    · have hi9 : i ≤ 9 := by
        obtain ⟨j, hj, rfl⟩ := List.mem_map.mp hi
        have := List.mem_range.mp hj
        omega
      walk_at "r"
      with_reducible refine law_short (by omega) hi9 ?_
      walk_at "r"
      refine op_some (eq_ints0 _) ?_
      refine ⟨⟨rfl, rfl⟩, fun _ => ?_⟩
      walk_at "r"
      exact ⟨rfl, rfl⟩
    rw [hMf, show ((List.range M).map (· + 1)).map (fun i : Nat => D.int (i : Int)) = rangeL 1 M by unfold rangeL; rw [List.map_map]; exact List.map_congr_left fun i _ => by show D.int ((i + 1 : Nat) : Int) = D.int (1 + (i : Int)); congr 1; omega]
    have rM : RD (.int (M : Int)) 20 0 := rd_int (by omega) (by omega)
    have rMM := rd_lst (n := 2) (all2 rM rM) (Nat.le_refl _)
    walk_at "r"
    refine ⟨by rw [rangeL_len]; omega, ?_⟩
    rw [rangeL_len, show ((M : Int) + 1 - 1).toNat = M by omega, rangeL_span]
    refine op_some (ne_ints _ _) ?_
    rw [decide_eq_true rfl]
    walk_at "r"
    with_reducible refine rises_to hS fun M1 i1 i2 i3 => ?_
    rw [show M1 = M from pref_eq i1 i2 i3 hM8 hMo hMe]
    walk_at "r"
    rw [show DL.pick [0] ([] ++ [ips S]) = [ips S] from rfl]
    with_reducible refine rises_to hS fun M2 j1 j2 j3 => ?_
    rw [show M2 = M from pref_eq j1 j2 j3 hM8 hMo hMe]
    walk_at "r"
    rw [List.length_map, span_len]
    refine w_mulL1 (by decide) (by decide) ?_
    rw [show List.replicate (2 : Int).toNat (D.int (M : Int)) = [.int M, .int M] from rfl]
    walk_at "r"
    obtain ⟨M0, hM0, hMm, hMx⟩ := max_ips (S := S) (fun e => by rw [e] at s1; simp at s1)
    have hdq := dm_spec S hn
    generalize dmN S n = dm at hdq
    have hdm := hdq.1
    have hd16 := hdq.2.1
    have hdx := hdq.2.2.1
    have hdp := hdq.2.2.2
    have rD : RD (.int (dm : Int)) 20 0 := rd_int (by omega) (by omega)
    have rDD := rd_lst (n := 2) (all2 rD rD) (Nat.le_refl _)
    refine op_some hM0 ?_
    walk_at "r"
    refine w_dec (fun hgt => ?_) fun hle => ?_
    · walk_at "r"
      refine w_caught ?_
      walk_at "r"
      refine deficit_big hS hn hMm hgt ⟨m_BadSizes, ?_⟩
      walk_at "r"
      with_reducible refine op_some isi_BadSizes ?_
      walk_at "r"
      with_reducible refine law_wrong_sizes hS hG2 (by omega) fun w g5 hw hwn hG5 => ?_
      walk_at "r"
      with_reducible refine law_wrong_number hG5 (by omega) fun v g6 hv hvn hG6 => ?_
      walk_at "r"
      with_reducible refine w_valLoop [.fn "rises", .fn "short_size", .fn "deficit", .lam 0] (by with_unfolding_all exact (by decide : 12 < 16)) (by walk_at "r"; exact ⟨rfl, rfl⟩) (fun d hd => ?_) fun v12 => ?_
      · simp only [List.mem_cons, List.not_mem_nil, or_false] at hd
        rcases hd with rfl | rfl | rfl | rfl
        · refine w_callVL ?_
          walk_at "r"
          refine op_some (show fnTL _ _ (.fn "rises") = some f_rises from rfl) ?_
          walk_at "r"
          exact rises_x1 hw hwn ⟨⟨m_BadSizes, isi_BadSizes⟩, rfl⟩
        · refine w_callVL ?_
          walk_at "r"
          refine op_some (show fnTL _ _ (.fn "short_size") = some f_short_size from rfl) ?_
          walk_at "r"
          exact short_x1 hw hwn ⟨⟨m_BadSizes, isi_BadSizes⟩, rfl⟩
        · refine w_callVL ?_
          walk_at "r"
          refine op_some (show fnTL _ _ (.fn "deficit") = some f_deficit from rfl) ?_
          walk_at "r"
          exact deficit_x1 hw hwn ⟨⟨m_BadSizes, isi_BadSizes⟩, rfl⟩
        · refine w_callVL ?_
          walk_at "r"
          refine op_some (show fnTL _ _ (.lam 0) = some (fun ds => (eCallF f_rises_to (sCons (eVar 0) sNil)) (startE 2 ds)) from rfl) ?_
          walk_at "r"
          exact rises_to_x1 hw hwn ⟨⟨m_BadSizes, isi_BadSizes⟩, rfl⟩
      with_reducible refine w_valLoop [.fn "rises", .fn "short_size", .fn "deficit"] (by with_unfolding_all exact (by decide : 12 < 16)) (by walk_at "r"; exact ⟨rfl, rfl⟩) (fun d hd => ?_) fun v12 => ?_
      · simp only [List.mem_cons, List.not_mem_nil, or_false] at hd
        rcases hd with rfl | rfl | rfl
        · refine w_callVL ?_
          walk_at "r"
          refine op_some (show fnTL _ _ (.fn "rises") = some f_rises from rfl) ?_
          walk_at "r"
          exact rises_x2 hS hv hvn ⟨⟨m_BadNumber, isi_BadNumber⟩, rfl⟩
        · refine w_callVL ?_
          walk_at "r"
          refine op_some (show fnTL _ _ (.fn "short_size") = some f_short_size from rfl) ?_
          walk_at "r"
          exact short_x2 hS hv hvn ⟨⟨m_BadNumber, isi_BadNumber⟩, rfl⟩
        · refine w_callVL ?_
          walk_at "r"
          refine op_some (show fnTL _ _ (.fn "deficit") = some f_deficit from rfl) ?_
          walk_at "r"
          exact deficit_x2 hS hv hvn ⟨⟨m_BadNumber, isi_BadNumber⟩, rfl⟩
      exact fin (c := 2500) (hG6.mono (by omega)) (by omega) ⟨_, _, _, _, _, _, _, _, _, _, _, _, _, _, rfl⟩
    · have hmx : ∀ x ∈ S, x ≤ n := fun x hx => by have := hMx x hx; omega
      walk_at "r"
      refine ⟨by rw [rangeL_len]; omega, ?_⟩
      rw [show ((n : Int) + 1 - 1).toNat = n by omega, rangeL_span]
      refine w_lcT (fun s : Int => .int (lackZ S n s)) (fun s hs => ⟨_, rfl, ?_⟩) ?_
      · walk_at "r"
        with_reducible refine law_lack (by omega) (by omega) ?_
        exact ⟨rfl, rfl⟩
      walk_at "r"
      refine w_addL (by rw [List.length_map, span_len]; show 1 + _ ≤ _; omega) ?_
      rw [show [D.int 0] ++ (spanZ n).map (fun s => D.int (lackZ S n s)) = (0 :: (spanZ n).map (lackZ S n)).map D.int by rw [List.map_cons, List.map_map]; rfl]
      walk_at "r"
      with_reducible refine deficit_ok hS hn hmx hdm ?_
      walk_at "r"
      rw [show DL.pick [1, 0] ([] ++ [.int (n : Int), ips S]) = [ips S, .int (n : Int)] from rfl]
      with_reducible refine deficit_ok hS hn hmx hdm ?_
      walk_at "r"
      refine op_some hdm ?_
      walk_at "r"
      refine w_mulL1 (by decide) (by decide) ?_
      rw [show List.replicate (2 : Int).toNat (D.int (dm : Int)) = [.int dm, .int dm] from rfl]
      walk_at "r"
      refine op_some hdm ?_
      walk_at "r"
      refine w_mulT (by omega) (by omega) ?_
      rw [show ips S = .tup (S.map D.int) from rfl]
      walk_at "r"
      refine w_addT (by rw [List.length_map, List.length_replicate]; omega) ?_
      rw [show S.map D.int ++ List.replicate (dm : Int).toNat (D.int (n : Int)) = (S ++ List.replicate dm (n : Int)).map D.int by rw [List.map_append, List.map_replicate]; rfl]
      have lT : (S ++ List.replicate dm (n : Int)).length = S.length + dm := by rw [List.length_append, List.length_replicate]
      walk_at "r"
      rw [show D.tup ((S ++ List.replicate dm (n : Int)).map D.int) = ips (S ++ List.replicate dm (n : Int)) from rfl]
      with_reducible refine law_short (by omega) (by omega) ?_
      rw [more_ok hdx]
      walk_at "r"
      refine op_some (ne_ints [] []) ?_
      rw [decide_eq_true rfl]
      walk_at "r"
      refine op_some hdm ?_
      walk_at "r"
      rw [show ips (S ++ List.replicate dm (n : Int)) = .tup ((S ++ List.replicate dm (n : Int)).map D.int) from rfl]
      refine w_ifand g2 (fun h0 => ?_) ?_
      · have h0 := of_decide_eq_true h0
        have h00 : 0 < dm := by omega
        walk_at "r"
        rw [cut_init, more_init h00, show D.tup ((S ++ List.replicate (dm - 1) (n : Int)).map D.int) = ips (S ++ List.replicate (dm - 1) (n : Int)) from rfl]
        with_reducible refine law_short (by rw [List.length_append, List.length_replicate]; omega) (by omega) ?_
        walk_at "r"
        refine op_some (eq_ints0 _) ?_
        rw [decide_eq_false (more_no h00 (hdp h00))]
        exact ⟨rfl, rfl⟩
      rw [if_neg (by decide)]
      walk_at "r"
      rw [List.length_map]
      refine w_ifand g2 (fun h0 => ?_) ?_
      · have h0 := of_decide_eq_true h0
        walk_at "r"
        rw [show D.tup ((S ++ List.replicate dm (n : Int)).map D.int) = ips (S ++ List.replicate dm (n : Int)) from rfl]
        with_reducible refine rises (more_sz hS (by omega) (by omega)) hn ?_
        rw [decide_eq_true (more_ok hdx)]
        walk_at "r"
        exact op_some (show dIsN (.bl true) (.bl true) = some (.bl false) from rfl) ⟨rfl, rfl⟩
      rw [if_neg (by decide)]
      walk_at "r"
      rw [show D.tup (S.map D.int) = ips S from rfl]
      with_reducible refine law_wrong_sizes hS hG2 (by omega) fun w g5 hw hwn hG5 => ?_
      walk_at "r"
      with_reducible refine law_wrong_number hG5 (by omega) fun v g6 hv hvn hG6 => ?_
      walk_at "r"
      with_reducible refine w_valLoop [.fn "rises", .fn "short_size", .fn "deficit", .lam 0] (by with_unfolding_all exact (by decide : 12 < 16)) (by walk_at "r"; exact ⟨rfl, rfl⟩) (fun d hd => ?_) fun v12 => ?_
      · simp only [List.mem_cons, List.not_mem_nil, or_false] at hd
        rcases hd with rfl | rfl | rfl | rfl
        · refine w_callVL ?_
          walk_at "r"
          refine op_some (show fnTL _ _ (.fn "rises") = some f_rises from rfl) ?_
          walk_at "r"
          exact rises_x1 hw hwn ⟨⟨m_BadSizes, isi_BadSizes⟩, rfl⟩
        · refine w_callVL ?_
          walk_at "r"
          refine op_some (show fnTL _ _ (.fn "short_size") = some f_short_size from rfl) ?_
          walk_at "r"
          exact short_x1 hw hwn ⟨⟨m_BadSizes, isi_BadSizes⟩, rfl⟩
        · refine w_callVL ?_
          walk_at "r"
          refine op_some (show fnTL _ _ (.fn "deficit") = some f_deficit from rfl) ?_
          walk_at "r"
          exact deficit_x1 hw hwn ⟨⟨m_BadSizes, isi_BadSizes⟩, rfl⟩
        · refine w_callVL ?_
          walk_at "r"
          refine op_some (show fnTL _ _ (.lam 0) = some (fun ds => (eCallF f_rises_to (sCons (eVar 0) sNil)) (startE 2 ds)) from rfl) ?_
          walk_at "r"
          exact rises_to_x1 hw hwn ⟨⟨m_BadSizes, isi_BadSizes⟩, rfl⟩
      with_reducible refine w_valLoop [.fn "rises", .fn "short_size", .fn "deficit"] (by with_unfolding_all exact (by decide : 12 < 16)) (by walk_at "r"; exact ⟨rfl, rfl⟩) (fun d hd => ?_) fun v12 => ?_
      · simp only [List.mem_cons, List.not_mem_nil, or_false] at hd
        rcases hd with rfl | rfl | rfl
        · refine w_callVL ?_
          walk_at "r"
          refine op_some (show fnTL _ _ (.fn "rises") = some f_rises from rfl) ?_
          walk_at "r"
          exact rises_x2 hS hv hvn ⟨⟨m_BadNumber, isi_BadNumber⟩, rfl⟩
        · refine w_callVL ?_
          walk_at "r"
          refine op_some (show fnTL _ _ (.fn "short_size") = some f_short_size from rfl) ?_
          walk_at "r"
          exact short_x2 hS hv hvn ⟨⟨m_BadNumber, isi_BadNumber⟩, rfl⟩
        · refine w_callVL ?_
          walk_at "r"
          refine op_some (show fnTL _ _ (.fn "deficit") = some f_deficit from rfl) ?_
          walk_at "r"
          exact deficit_x2 hS hv hvn ⟨⟨m_BadNumber, isi_BadNumber⟩, rfl⟩
      exact fin (c := 2500) (hG6.mono (by omega)) (by omega) ⟨_, _, _, _, _, _, _, _, _, _, _, _, _, _, rfl⟩
  · rintro ρ g ⟨⟨a2, a3, a4, a5, a6, a7, a8, a9, a10, a11, a12, a13, a14, a15, rfl⟩, hG⟩
    walk_at "w"
theorem pure_law : ∀ ns : List Int, ns.length ≤ 63 → ∃ g', t_law (startLaw 16 ns.length) (g0 ns) = .ok (.ret (.bl true)) g' := fun ns hns => by
  obtain ⟨fl, g', e, h⟩ := R.of_all (law_runs hns)
  cases fl with
  | ret d => exact ⟨g', by rw [e, show d = .bl true from h]⟩
  | nx => exact h.elim
  | ct => exact h.elim
  | bk => exact h.elim
end K40
open PySem PySem.W PyProof.Rows in
set_option maxRecDepth 100000 in
set_option maxHeartbeats 0 in
theorem PySem.Challenge.cw_pairpicks_k40_rising_sizes_told_holds : PySem.Challenge.rw_pairpicks_k40_rising_sizes_told.Holds := by
  w_on; o_law; k_head; (case hw => w_witness2)
  k_fill
  first
    | refine DL.walk_end (n := 63) (l := PySem.Challenge.rw_pairpicks_k40_rising_sizes_told) rfl (by decide) rfl (by first | rfl | decide | kernel_rfl) (fun w h Y => PySem.W.kIn_of Y) ?F
    | refine DL.walk_end (n := 63) (l := PySem.Challenge.rw_pairpicks_k40_rising_sizes_told) rfl (by decide) rfl (by first | rfl | decide | kernel_rfl) (fun w h Y => PySem.W.km_in_of Y) ?F
  case F =>
    intro w mg fa h Y KX G hmg own
    refine' K40.law_all (l := PySem.Challenge.rw_pairpicks_k40_rising_sizes_told) rfl K40.pure_law KX G hmg (own "law" (by rfl)) ?a_is_between ?l_is_between ?c_is_between ?k_is_between ?a_are_sizes ?l_are_sizes ?c_are_sizes ?k_are_sizes ?a_need_sizes ?l_need_sizes ?c_need_sizes ?k_need_sizes ?a_need_pairs ?l_need_pairs ?c_need_pairs ?k_need_pairs ?a_lack_at ?l_lack_at ?c_lack_at ?k_lack_at ?a_first_short ?l_first_short ?c_first_short ?k_first_short ?a_rises ?l_rises ?c_rises ?k_rises ?a_short_size ?l_short_size ?c_short_size ?k_short_size ?a_rises_to ?l_rises_to ?c_rises_to ?k_rises_to ?a_deficit ?l_deficit ?c_deficit ?k_deficit ?a__law_begun ?l__law_begun ?c__law_begun ?k__law_begun ?a__law_draw ?l__law_draw ?c__law_draw ?k__law_draw ?a__law_pick ?l__law_pick ?c__law_pick ?k__law_pick ?a__law_mixed ?l__law_mixed ?c__law_mixed ?k__law_mixed ?a__law_caught ?l__law_caught ?c__law_caught ?k__law_caught ?a__law_wrong_sizes ?l__law_wrong_sizes ?c__law_wrong_sizes ?k__law_wrong_sizes ?a__law_lack ?l__law_lack ?c__law_lack ?k__law_lack ?a__law_short_sizes ?l__law_short_sizes ?c__law_short_sizes ?k__law_short_sizes ?a__law_rising ?l__law_rising ?c__law_rising ?k__law_rising ?a__law_any_sizes ?l__law_any_sizes ?c__law_any_sizes ?k__law_any_sizes ?a__law_wrong_number ?l__law_wrong_number ?c__law_wrong_number ?k__law_wrong_number ?a_law ?l_law ?c_law ?k_law ?l_code ?u_code ?h_code ?p_code ?g_BadNumber ?x_BadNumber ?kp_BadNumber ?ty_BadNumber ?e1_BadNumber ?e2_BadNumber ?e3_BadNumber ?e4_BadNumber ?e5_BadNumber ?e6_BadNumber ?g_BadSizes ?x_BadSizes ?kp_BadSizes ?ty_BadSizes ?e1_BadSizes ?e2_BadSizes ?e3_BadSizes ?e4_BadSizes ?e5_BadSizes ?e6_BadSizes ?g_PickError ?x_PickError ?kp_PickError ?ty_PickError ?e1_PickError ?e2_PickError ?e3_PickError ?e4_PickError ?e5_PickError ?e6_PickError ?e7 ?e8 ?i_MOST_NUMBER ?i_MOST_PLANS ?z_abs ?z_all ?z_bool ?z_int ?z_isinstance ?z_len ?z_list ?z_max ?z_min ?z_range ?z_repr ?z_tuple ?s_BadNumber_BadSizes ?ne_BadNumber_BadSizes ?s_BadSizes_BadNumber ?ne_BadSizes_BadNumber ?y_NoneType_BadNumber ?y_bool_BadNumber ?y_int_BadNumber ?y_str_BadNumber ?y_tuple_BadNumber ?y_list_BadNumber ?y_dict_BadNumber ?y_NoneType_BadSizes ?y_bool_BadSizes ?y_int_BadSizes ?y_str_BadSizes ?y_tuple_BadSizes ?y_list_BadSizes ?y_dict_BadSizes ?q_BadNumber ?q_BadSizes
    (case a_is_between => k_is)
    (case l_is_between => k_is)
    (case c_is_between => k_is)
    (case k_is_between => k_is)
    (case a_are_sizes => k_is)
    (case l_are_sizes => k_is)
    (case c_are_sizes => k_is)
    (case k_are_sizes => k_is)
    (case a_need_sizes => k_is)
    (case l_need_sizes => k_is)
    (case c_need_sizes => k_is)
    (case k_need_sizes => k_is)
    (case a_need_pairs => k_is)
    (case l_need_pairs => k_is)
    (case c_need_pairs => k_is)
    (case k_need_pairs => k_is)
    (case a_lack_at => k_is)
    (case l_lack_at => k_is)
    (case c_lack_at => k_is)
    (case k_lack_at => k_is)
    (case a_first_short => k_is)
    (case l_first_short => k_is)
    (case c_first_short => k_is)
    (case k_first_short => k_is)
    (case a_rises => k_is)
    (case l_rises => k_is)
    (case c_rises => k_is)
    (case k_rises => k_is)
    (case a_short_size => k_is)
    (case l_short_size => k_is)
    (case c_short_size => k_is)
    (case k_short_size => k_is)
    (case a_rises_to => k_is)
    (case l_rises_to => k_is)
    (case c_rises_to => k_is)
    (case k_rises_to => k_is)
    (case a_deficit => k_is)
    (case l_deficit => k_is)
    (case c_deficit => k_is)
    (case k_deficit => k_is)
    (case a__law_begun => k_is)
    (case l__law_begun => k_is)
    (case c__law_begun => k_is)
    (case k__law_begun => k_is)
    (case a__law_draw => k_is)
    (case l__law_draw => k_is)
    (case c__law_draw => k_is)
    (case k__law_draw => k_is)
    (case a__law_pick => k_is)
    (case l__law_pick => k_is)
    (case c__law_pick => k_is)
    (case k__law_pick => k_is)
    (case a__law_mixed => k_is)
    (case l__law_mixed => k_is)
    (case c__law_mixed => k_is)
    (case k__law_mixed => k_is)
    (case a__law_caught => k_is)
    (case l__law_caught => k_is)
    (case c__law_caught => k_is)
    (case k__law_caught => k_is)
    (case a__law_wrong_sizes => k_is)
    (case l__law_wrong_sizes => k_is)
    (case c__law_wrong_sizes => k_is)
    (case k__law_wrong_sizes => k_is)
    (case a__law_lack => k_is)
    (case l__law_lack => k_is)
    (case c__law_lack => k_is)
    (case k__law_lack => k_is)
    (case a__law_short_sizes => k_is)
    (case l__law_short_sizes => k_is)
    (case c__law_short_sizes => k_is)
    (case k__law_short_sizes => k_is)
    (case a__law_rising => k_is)
    (case l__law_rising => k_is)
    (case c__law_rising => k_is)
    (case k__law_rising => k_is)
    (case a__law_any_sizes => k_is)
    (case l__law_any_sizes => k_is)
    (case c__law_any_sizes => k_is)
    (case k__law_any_sizes => k_is)
    (case a__law_wrong_number => k_is)
    (case l__law_wrong_number => k_is)
    (case c__law_wrong_number => k_is)
    (case k__law_wrong_number => k_is)
    (case a_law => k_is)
    (case l_law => k_is)
    (case c_law => k_is)
    (case k_law => k_is)
    (case l_code => k_is)
    (case u_code => first | rfl | k_is)
    (case h_code => first | exact rfl | kernel_rfl)
    (case p_code => first | rfl | k_is)
    (case g_BadNumber => k_is)
    (case x_BadNumber => first | k_is | k_exc)
    (case kp_BadNumber => k_is)
    (case ty_BadNumber => k_is)
    (case e1_BadNumber => k_is)
    (case e2_BadNumber => k_is)
    (case e3_BadNumber => k_is)
    (case e4_BadNumber => k_is)
    (case e5_BadNumber => k_is)
    (case e6_BadNumber => k_is)
    (case g_BadSizes => k_is)
    (case x_BadSizes => first | k_is | k_exc)
    (case kp_BadSizes => k_is)
    (case ty_BadSizes => k_is)
    (case e1_BadSizes => k_is)
    (case e2_BadSizes => k_is)
    (case e3_BadSizes => k_is)
    (case e4_BadSizes => k_is)
    (case e5_BadSizes => k_is)
    (case e6_BadSizes => k_is)
    (case g_PickError => k_is)
    (case x_PickError => first | k_is | k_exc)
    (case kp_PickError => k_is)
    (case ty_PickError => k_is)
    (case e1_PickError => k_is)
    (case e2_PickError => k_is)
    (case e3_PickError => k_is)
    (case e4_PickError => k_is)
    (case e5_PickError => k_is)
    (case e6_PickError => k_is)
    (case e7 => k_is)
    (case e8 => k_is)
    (case i_MOST_NUMBER => k_is)
    (case i_MOST_PLANS => k_is)
    (case z_abs => k_is)
    (case z_all => k_is)
    (case z_bool => k_is)
    (case z_int => k_is)
    (case z_isinstance => k_is)
    (case z_len => k_is)
    (case z_list => k_is)
    (case z_max => k_is)
    (case z_min => k_is)
    (case z_range => k_is)
    (case z_repr => k_is)
    (case z_tuple => k_is)
    (case s_BadNumber_BadSizes => k_is)
    (case ne_BadNumber_BadSizes => first | rfl | decide)
    (case s_BadSizes_BadNumber => k_is)
    (case ne_BadSizes_BadNumber => first | rfl | decide)
    (case y_NoneType_BadNumber => k_is)
    (case y_bool_BadNumber => k_is)
    (case y_int_BadNumber => k_is)
    (case y_str_BadNumber => k_is)
    (case y_tuple_BadNumber => k_is)
    (case y_list_BadNumber => k_is)
    (case y_dict_BadNumber => k_is)
    (case y_NoneType_BadSizes => k_is)
    (case y_bool_BadSizes => k_is)
    (case y_int_BadSizes => k_is)
    (case y_str_BadSizes => k_is)
    (case y_tuple_BadSizes => k_is)
    (case y_list_BadSizes => k_is)
    (case y_dict_BadSizes => k_is)
    (case q_BadNumber => k_is)
    (case q_BadSizes => k_is)
