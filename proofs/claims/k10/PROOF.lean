import PyProof.Rows.All
import Wide.All
import OpenK.AllK
import Wide.FinOn
import HandS.ForMost
import HandS.Exc
import HandS.TryOnly
import HandS.ExcOwn
import HandS.Lambda
import HandS.TupAny
import HandS.IsInst
import HandS.SortInts
import HandS.SortKw
import HandS.Wide
import KE.SortData
import KE.Datum
import KE.KDictKeyed
import KE.KDictWalk
import PyProof.ReprRoads
import HandS.EndTab
import HandS.TupMul
import PyProof.TupleOfSeq
import PyProof.Transfer
import HandS.ExcValue
import HandS.ExcIs
import HandS.TupLe
import HandS.Style
import PyProof.ReprLen
import HandS.Words
import HandS.EndOwn
import KE.KNestM
import HandS.Conv
import HandS.Zip
import HandS.Iter
import HandS.Star
import HandS.Strs
import HandS.SetBool
import KE.KDictZip
import HandS.DictTup
import PyProof.ListNew
import KE.GoesMore
import KE.GoesEnum
import PyProof.EnumMake
import HandS.DictComp
import KE.KDictCopyH
import KE.KDictPairs
import HandS.Zip0
import KE.KDictSum
import PySem.Challenge.RW_pairpicks_k10_picks_judged
set_option Elab.async false
set_option linter.all false
set_option maxRecDepth 100000
set_option maxHeartbeats 2000000
/-! The value layer, part 1: values without a heap (D), results (R), the draw state (G), what a value of the heap reads as (Rep). -/
namespace DL
open PySem PySem.Spec PyProof.Rows L2

/-- values as pure data -/
inductive D where
  | non | bl (b : Bool) | int (i : Int) | str (s : Str)
  | tup (l : List D) | lst (l : List D) | dct (l : List (D × D)) | set (l : List D)
  | st | scr (n : Nat) | ty (n : String) | fn (f : Str) | exc (c : Str) (f : Str) (l : List D) | lam (i : Nat)

/-- the state of the draws -/
structure G where
  large : List Int
  cells : List Int
  left : Int
  turn : Int

inductive R (α : Type) where
  | stuck
  | ok (a : α) (g : G)
  | exc (c : Str) (f : Str) (l : List D) (g : G)

abbrev M (α : Type) := G → R α
def R.bind {α β : Type} (r : R α) (k : α → M β) : R β :=
  match r with
  | .stuck => .stuck
  | .ok a g => k a g
  | .exc c f l g => .exc c f l g
@[reducible] def M.pure {α : Type} (a : α) : M α := fun g => .ok a g
@[reducible] def M.bind {α β : Type} (m : M α) (k : α → M β) : M β := fun g => (m g).bind k
instance : Monad M where
  pure := M.pure
  bind := M.bind
def stuck {α : Type} : M α := fun _ => .stuck
def ofOpt {α : Type} : Option α → M α
  | some a => M.pure a
  | none => stuck

/-- where the draw state stands: its dict, the list of large numbers, the list of cells; the lambdas that are named, their frame's cells, their name -/
structure Zt where
  p : Addr
  l : Addr
  c : Addr
  T : List (Addr × Str)
  lm : List (Arguments × Expr × Scope)
  lc : List (Str × Addr)
  lq : Str
def stK (z : Zt) (g : G) : List (Key × V) := [(.inr "large", .ref z.l), (.inr "cells", .ref z.c), (.inr "left", .int g.left), (.inr "turn", .int g.turn)]
structure GOk (z : Zt) (H : Hp) (g : G) : Prop where
  p : H z.p = some (.dK (stK z g))
  l : H z.l = some (.lst (g.large.map V.int))
  c : H z.c = some (.lst (g.cells.map V.int))
  ne : z.l ≠ z.c
  tb : LamX.Tabs z.T H
theorem GOk.pl {z : Zt} {H : Hp} {g : G} (h : GOk z H g) : z.p ≠ z.l := ne_of h.p h.l (by intro q; cases q)
theorem GOk.pc {z : Zt} {H : Hp} {g : G} (h : GOk z H g) : z.p ≠ z.c := ne_of h.p h.c (by intro q; cases q)
theorem GOk.same {z : Zt} {H H' : Hp} {g : G} (h : GOk z H g) (s : Same H H') : GOk z H' g := ⟨s _ _ h.p, s _ _ h.l, s _ _ h.c, h.ne, h.tb.ext s⟩

/-- no table of code objects -/
def NT : HO → Prop
  | .tbl _ => False
  | _ => True
/-- something stands at b, and no table of code objects -/
def Oc (H : Hp) (b : Addr) : Prop := ∃ u, H b = some u ∧ NT u
theorem oc_none {H : Hp} {b : Addr} (h : H b = none) : ¬ Oc H b := fun ⟨u, e, _⟩ => by rw [h] at e; cases e
theorem Oc.ne {H : Hp} {a b : Addr} (h : Oc H b) (n : ¬ Oc H a) : b ≠ a := fun e => n (e ▸ h)
/-- all but the draw state's own objects and the tables of code objects stands -/
structure Ext (z : Zt) (H H' : Hp) : Prop where
  to : ∀ b u, H b = some u → NT u → b ≠ z.p → b ≠ z.l → H' b = some u
theorem Ext.of {z : Zt} {H H' : Hp} (s : Same H H') : Ext z H H' := ⟨fun b u e _ _ _ => s b u e⟩
theorem Ext.refl {z : Zt} {H : Hp} : Ext z H H := ⟨fun _ _ e _ _ _ => e⟩
theorem Ext.trans {z : Zt} {H H1 H2 : Hp} (a : Ext z H H1) (b : Ext z H1 H2) : Ext z H H2 :=
  ⟨fun c u e n h1 h2 => b.to c u (a.to c u e n h1 h2) n h1 h2⟩
/-- what stood stands -/
theorem Ext.there {z : Zt} {H H' : Hp} {b : Addr} (e : Ext z H H') (h : Oc H b) (h1 : b ≠ z.p) (h2 : b ≠ z.l) : Oc H' b := by
  obtain ⟨u, q, n⟩ := h
  exact ⟨u, e.to b u q n h1 h2, n⟩
theorem Ext.none {z : Zt} {H H' : Hp} {b : Addr} (e : Ext z H H') (h : ¬ Oc H' b) (h1 : b ≠ z.p) (h2 : b ≠ z.l) : ¬ Oc H b := fun o => h (e.there o h1 h2)
theorem GOk.op {z : Zt} {H : Hp} {g : G} (h : GOk z H g) : Oc H z.p := ⟨_, h.p, trivial⟩
theorem GOk.ol {z : Zt} {H : Hp} {g : G} (h : GOk z H g) : Oc H z.l := ⟨_, h.l, trivial⟩
theorem GOk.oc {z : Zt} {H : Hp} {g : G} (h : GOk z H g) : Oc H z.c := ⟨_, h.c, trivial⟩
theorem Same.refl {H : Hp} : Same H H := fun _ _ e => e

/-- an exception object at a -/
def ExV (cls : Value) (d : Option Addr) (a : Addr) : HO := .ext fun h => ∃ (oe : Obj) (vs : Array Value), h.get? a = some oe ∧ Zc cls d oe ∧ oe.data = .fields vs
/-- the very object o at a -/
def ObV (a : Addr) (o : Obj) : HO := .ext fun h => h.get? a = some o

/-- what is read of a dict's entries: keys, values -/
def EnK (ks vs : List V) (es : Array DictEntry) : Prop := Vals ks (es.toList.map (·.key)) ∧ Vals vs (es.toList.map (·.val))

/-- a dict's object is no code object -/
theorem obV_code {b : Addr} {o : Obj} {es : Array DictEntry} {ep : Nat} {q : Str} (hd : o.data = .dict es ep) : ObV b o ≠ LamX.CodeO b q := fun w => by
  unfold ObV LamX.CodeO at w
  injection w with w
  have hg : ({ objs := Array.replicate (b + 1) o } : Heap).get? b = some o := by
    have e : (Array.replicate (b + 1) o)[b]? = some o := by simp
    obtain ⟨c, dd, dat, sl⟩ := o
    dsimp only at hd
    subst hd
    unfold Heap.get?
    dsimp only
    rw [e]
  have h := congrFun w { objs := Array.replicate (b + 1) o }
  obtain ⟨oc, vs, t, h1, h2, _⟩ := h.mp hg
  rw [hg] at h1
  cases h1
  rw [hd] at h2
  cases h2
/-- the hash that an entry with this key has: ints, tuples of ints -/
def HashOk (e : DictEntry) : D → Prop
  | .int i => ∀ w : World, e.hash = keyH w (.inl i)
  | .tup l => ∀ is : List Int, l = is.map D.int → ∀ (P : Program) (w : World), e.hash = (tupleKind (mixKind P w)).hash (is.map .inl)
  | _ => True
/-- a dict's entries have these keys, unlike ones -/
def KyOk (es : Array DictEntry) (ds : List D) : Prop := (∀ (i : Nat) (e : DictEntry) (d : D), es[i]? = some e → ds[i]? = some d → HashOk e d) ∧ ds.Nodup
mutual
/-- the value v reads as d in H; no list, dict or set of it stands at one of the addresses Mu (those may change) -/
inductive Rep (K : PySem.W.Frag) (mg : Str → Option Value) (z : Zt) (Mu : List Addr) (H : Hp) : V → D → Prop
  | non : Rep K mg z Mu H .non .non
  | bl (b) : Rep K mg z Mu H (.bl b) (.bl b)
  | int (i) : Rep K mg z Mu H (.int i) (.int i)
  | str (s) : Rep K mg z Mu H (.str s) (.str s)
  | tup {a xs ds} : a ∉ Mu → H a = some (.tup xs) → Reps K mg z Mu H xs ds → Rep K mg z Mu H (.ref a) (.tup ds)
  | lst {a xs ds} : a ∉ Mu → H a = some (.lst xs) → Reps K mg z Mu H xs ds → Rep K mg z Mu H (.ref a) (.lst ds)
  | dct {a o es ep ks vs kvs} : a ∉ Mu → H a = some (ObV a o) → (a == sysModules) = false → o.ExactDict → o.data = .dict es ep → es.size ≤ sizeLine → EnK ks vs es → Reps K mg z Mu H ks (kvs.map (·.1)) → Reps K mg z Mu H vs (kvs.map (·.2)) → KyOk es (kvs.map (·.1)) → Rep K mg z Mu H (.ref a) (.dct kvs)
  | st : Rep K mg z Mu H (.ref z.p) .st
  | ty (n) : Rep K mg z Mu H (.ty n) (.ty n)
  | scrR {a xs} : a ∉ Mu → Rd H a (.lst xs) → Rep K mg z Mu H (.ref a) (.scr xs.length)
  | scrK {a xs o its n} : K.lookup a = some o → o.cls = .type "list" → o.dict = none → o.data = .seq its n → its.size ≤ sizeLine → Vals xs its.toList → Rep K mg z Mu H (.ref a) (.scr xs.length)
  | set {a S} {ns : List Int} : a ∉ Mu → H a = some (.set S ns.length) → (∀ k, S k = decide (k ∈ ns)) → ns.Nodup → Rep K mg z Mu H (.ref a) (.set (ns.map D.int))
  | fn {x f} : mg x = some (.ref f) → Rep K mg z Mu H (.ref f) (.fn x)
  | lam {f c i pm ctv pr b sc} : f ∉ Mu → c ∉ Mu → z.lm[i]? = some (pr, b, sc) → H f = some (ObV f (PySem.W.kla_obj "<lambda>" z.lq pr b sc (cloFrom z.lc sc.names []) pm c ctv)) → H c = some (LamX.CodeO c z.lq) → Rep K mg z Mu H (.ref f) (.lam i)
  | exc0 {a c C} : a ∉ Mu → mg c = some (.ref C) → H a = some (ExV (.ref C) none a) → Rep K mg z Mu H (.ref a) (.exc c Str.empty [])
  | exc1 {a dx c C f v d} : a ∉ Mu → dx ∉ Mu → mg c = some (.ref C) → H a = some (ExV (.ref C) (some dx) a) → H dx = some (.xd [(f, v)]) → Rep K mg z Mu H v d → Rep K mg z Mu H (.ref a) (.exc c f [d])
inductive Reps (K : PySem.W.Frag) (mg : Str → Option Value) (z : Zt) (Mu : List Addr) (H : Hp) : List V → List D → Prop
  | nil : Reps K mg z Mu H [] []
  | cons {v d vs ds} : Rep K mg z Mu H v d → Reps K mg z Mu H vs ds → Reps K mg z Mu H (v :: vs) (d :: ds)
end

section
variable {K : PySem.W.Frag} {mg : Str → Option Value} {z : Zt} {Mu Mu' : List Addr} {H H' : Hp} {v : V} {d : D} {vs ws : List V} {ds es : List D}
theorem Reps.length : ∀ {vs : List V} {ds : List D}, Reps K mg z Mu H vs ds → vs.length = ds.length
  | _, _, .nil => rfl
  | _, _, .cons _ r => by rw [List.length_cons, List.length_cons, r.length]
theorem Reps.append : ∀ {vs ws : List V} {ds es : List D}, Reps K mg z Mu H vs ds → Reps K mg z Mu H ws es → Reps K mg z Mu H (vs ++ ws) (ds ++ es)
  | _, _, _, _, .nil, s => s
  | _, _, _, _, .cons r t, s => .cons r (t.append s)
theorem Reps.get : ∀ {vs : List V} {ds : List D} {i : Nat} {v : V}, Reps K mg z Mu H vs ds → vs[i]? = some v → ∃ d, ds[i]? = some d ∧ Rep K mg z Mu H v d
  | _, _, _, _, .nil, e => by simp at e
  | _, _, 0, _, .cons r _, e => ⟨_, rfl, by simpa using (Option.some.inj e) ▸ r⟩
  | _, _, i + 1, _, .cons _ t, e => t.get (i := i) (by simpa using e)
theorem Reps.get' : ∀ {vs : List V} {ds : List D} {i : Nat} {d : D}, Reps K mg z Mu H vs ds → ds[i]? = some d → ∃ v, vs[i]? = some v ∧ Rep K mg z Mu H v d
  | _, _, _, _, .nil, e => by simp at e
  | _, _, 0, _, .cons r _, e => ⟨_, rfl, by simpa using (Option.some.inj e) ▸ r⟩
  | _, _, i + 1, _, .cons _ t, e => t.get' (i := i) (by simpa using e)
theorem Reps.take : ∀ {vs : List V} {ds : List D} (n : Nat), Reps K mg z Mu H vs ds → Reps K mg z Mu H (vs.take n) (ds.take n)
  | _, _, 0, _ => .nil
  | _, _, _ + 1, .nil => .nil
  | _, _, n + 1, .cons r t => .cons r (t.take n)
theorem Reps.drop : ∀ {vs : List V} {ds : List D} (n : Nat), Reps K mg z Mu H vs ds → Reps K mg z Mu H (vs.drop n) (ds.drop n)
  | _, _, 0, r => r
  | _, _, _ + 1, .nil => .nil
  | _, _, n + 1, .cons _ t => t.drop n
theorem Reps.set {x : V} {y : D} (r : Rep K mg z Mu H x y) : ∀ {vs : List V} {ds : List D} (i : Nat), Reps K mg z Mu H vs ds → Reps K mg z Mu H (vs.set i x) (ds.set i y)
  | _, _, _, .nil => .nil
  | _, _, 0, .cons _ t => .cons r t
  | _, _, i + 1, .cons q t => .cons q (Reps.set r i t)
theorem Reps.one (r : Rep K mg z Mu H v d) : Reps K mg z Mu H [v] [d] := .cons r .nil
theorem Reps.reverse : ∀ {vs : List V} {ds : List D}, Reps K mg z Mu H vs ds → Reps K mg z Mu H vs.reverse ds.reverse
  | _, _, .nil => .nil
  | _, _, .cons r t => by rw [List.reverse_cons, List.reverse_cons]; exact t.reverse.append (.one r)
theorem Reps.ints : ∀ ns : List Int, Reps K mg z Mu H (ns.map V.int) (ns.map D.int)
  | [] => .nil
  | n :: ns => .cons (.int n) (Reps.ints ns)

/-- all but what stands at the addresses Mu stands -/
def ExtM (Mu : List Addr) (H H' : Hp) : Prop := ∀ b u, H b = some u → NT u → b ∉ Mu → H' b = some u
theorem Ext.m (e : Ext z H H') (zp : z.p ∈ Mu) (zl : z.l ∈ Mu) : ExtM Mu H H' := fun b u q t n => e.to b u q t (fun w => n (w ▸ zp)) (fun w => n (w ▸ zl))
mutual
/-- what reads on: all stands but at Mu; fewer addresses are barred, or further ones at which nothing stood -/
theorem Rep.mono (e : ExtM Mu H H') (m : ∀ b, Oc H b → b ∉ Mu → b ∉ Mu') : ∀ {v : V} {d : D}, Rep K mg z Mu H v d → Rep K mg z Mu' H' v d
  | _, _, .non => .non
  | _, _, .bl b => .bl b
  | _, _, .int i => .int i
  | _, _, .str s => .str s
  | _, _, .tup n h r => .tup (m _ ⟨_, h, trivial⟩ n) (e _ _ h trivial n) (Reps.mono e m r)
  | _, _, .lst n h r => .lst (m _ ⟨_, h, trivial⟩ n) (e _ _ h trivial n) (Reps.mono e m r)
  | _, _, .dct n h h1 h2 h3 h4 h5 r1 r2 ky => .dct (m _ ⟨_, h, trivial⟩ n) (e _ _ h trivial n) h1 h2 h3 h4 h5 (Reps.mono e m r1) (Reps.mono e m r2) ky
  | _, _, .st => .st
  | _, _, .ty n => .ty n
  | _, _, .scrR n h => .scrR (m _ (h.elim (fun h => ⟨_, h, trivial⟩) fun ⟨_, h⟩ => ⟨_, h, trivial⟩) n) (h.elim (fun h => .inl (e _ _ h trivial n)) fun ⟨o, h⟩ => .inr ⟨o, e _ _ h trivial n⟩)
  | _, _, .scrK h1 h2 h3 h4 h5 h6 => .scrK h1 h2 h3 h4 h5 h6
  | _, _, .set n h s d => .set (m _ ⟨_, h, trivial⟩ n) (e _ _ h trivial n) s d
  | _, _, .fn h => .fn h
  | _, _, .lam n1 n2 h q1 q2 => .lam (m _ ⟨_, q1, trivial⟩ n1) (m _ ⟨_, q2, trivial⟩ n2) h (e _ _ q1 trivial n1) (e _ _ q2 trivial n2)
  | _, _, .exc0 n h q => .exc0 (m _ ⟨_, q, trivial⟩ n) h (e _ _ q trivial n)
  | _, _, .exc1 n n2 h q q2 r => .exc1 (m _ ⟨_, q, trivial⟩ n) (m _ ⟨_, q2, trivial⟩ n2) h (e _ _ q trivial n) (e _ _ q2 trivial n2) (Rep.mono e m r)
theorem Reps.mono (e : ExtM Mu H H') (m : ∀ b, Oc H b → b ∉ Mu → b ∉ Mu') : ∀ {vs : List V} {ds : List D}, Reps K mg z Mu H vs ds → Reps K mg z Mu' H' vs ds
  | _, _, .nil => .nil
  | _, _, .cons r t => .cons (Rep.mono e m r) (Reps.mono e m t)
end

/-- the barred addresses: the draw state's are among them, something stands at each -/
structure MuOk (z : Zt) (Mu : List Addr) (H : Hp) : Prop where
  p : z.p ∈ Mu
  l : z.l ∈ Mu
  c : z.c ∈ Mu
  at_ : ∀ b ∈ Mu, Oc H b
  nc : ∀ b ∈ Mu, ∀ q, H b ≠ some (LamX.CodeO b q)
theorem MuOk.ext {g g' : G} (m : MuOk z Mu H) (e : Ext z H H') (G' : GOk z H' g') : MuOk z Mu H' := by
  refine ⟨m.p, m.l, m.c, fun b hb => ?_, fun b hb q => ?_⟩
  · by_cases h1 : b = z.p
    · rw [h1]; exact G'.op
    by_cases h2 : b = z.l
    · rw [h2]; exact G'.ol
    exact e.there (m.at_ b hb) h1 h2
  · by_cases h1 : b = z.p
    · rw [h1, G'.p]
      intro w
      cases w
    by_cases h2 : b = z.l
    · rw [h2, G'.l]
      intro w
      cases w
    obtain ⟨u, q1, q2⟩ := m.at_ b hb
    rw [e.to b u q1 q2 h1 h2, ← q1]
    exact m.nc b hb q
theorem Rep.ext {g : G} (r : Rep K mg z Mu H v d) (m : MuOk z Mu H) (G1 : GOk z H g) (e : Ext z H H') : Rep K mg z Mu H' v d := Rep.mono (e.m m.p m.l) (fun _ _ h => h) r
theorem Reps.ext {g : G} (r : Reps K mg z Mu H vs ds) (m : MuOk z Mu H) (G1 : GOk z H g) (e : Ext z H H') : Reps K mg z Mu H' vs ds := Reps.mono (e.m m.p m.l) (fun _ _ h => h) r
theorem Rep.less {g : G} (r : Rep K mg z Mu H v d) (m : MuOk z Mu H) (G1 : GOk z H g) (h : ∀ b ∈ Mu', b ∈ Mu) : Rep K mg z Mu' H v d := Rep.mono (fun _ _ e _ _ => e) (fun b _ n q => n (h b q)) r
theorem Reps.less {g : G} (r : Reps K mg z Mu H vs ds) (m : MuOk z Mu H) (G1 : GOk z H g) (h : ∀ b ∈ Mu', b ∈ Mu) : Reps K mg z Mu' H vs ds := Reps.mono (fun _ _ e _ _ => e) (fun b _ n q => n (h b q)) r
theorem Rep.more {g : G} {a : Addr} (r : Rep K mg z Mu H v d) (m : MuOk z Mu H) (G1 : GOk z H g) (e : Ext z H H') (n : ¬ Oc H a) : Rep K mg z (a :: Mu) H' v d :=
  Rep.mono (e.m m.p m.l) (fun b q h w => by
    rcases List.mem_cons.mp w with w | w
    · exact q.ne n w
    · exact h w) r
theorem Reps.more {g : G} {a : Addr} (r : Reps K mg z Mu H vs ds) (m : MuOk z Mu H) (G1 : GOk z H g) (e : Ext z H H') (n : ¬ Oc H a) : Reps K mg z (a :: Mu) H' vs ds :=
  Reps.mono (e.m m.p m.l) (fun b q h w => by
    rcases List.mem_cons.mp w with w | w
    · exact q.ne n w
    · exact h w) r

/-- what stands at a: a list, a dict -/
inductive Cont (K : PySem.W.Frag) (mg : Str → Option Value) (z : Zt) (Mu : List Addr) (H : Hp) (a : Addr) : D → Prop
  | lst {xs ds} : H a = some (.lst xs) → Reps K mg z Mu H xs ds → Cont K mg z Mu H a (.lst ds)
  | dct {o es ep ks vs kvs} : H a = some (ObV a o) → (a == sysModules) = false → o.ExactDict → o.data = .dict es ep → es.size ≤ sizeLine → EnK ks vs es → Reps K mg z Mu H ks (kvs.map (·.1)) → Reps K mg z Mu H vs (kvs.map (·.2)) → KyOk es (kvs.map (·.1)) → Cont K mg z Mu H a (.dct kvs)
theorem Cont.rep {a : Addr} (c : Cont K mg z Mu H a d) (n : a ∉ Mu) : Rep K mg z Mu H (.ref a) d := by
  cases c with
  | lst h r => exact .lst n h r
  | dct h h1 h2 h3 h4 h5 r1 r2 ky => exact .dct n h h1 h2 h3 h4 h5 r1 r2 ky
theorem Cont.there {a : Addr} (c : Cont K mg z Mu H a d) : Oc H a := by
  cases c with
  | lst h r => exact ⟨_, h, trivial⟩
  | dct h h1 h2 h3 h4 h5 r1 r2 ky => exact ⟨_, h, trivial⟩
theorem Cont.ncode {a : Addr} (c : Cont K mg z Mu H a d) (q : Str) : H a ≠ some (LamX.CodeO a q) := by
  cases c with
  | lst h r => rw [h]; intro w; cases w
  | dct h h1 h2 h3 h4 h5 r1 r2 ky => rw [h]; intro w; exact obV_code h3 (Option.some.inj w)
theorem Cont.mono {a : Addr} (c : Cont K mg z Mu H a d) (ea : ∀ u, H a = some u → NT u → H' a = some u) (e : ExtM Mu H H') (m : ∀ b, Oc H b → b ∉ Mu → b ∉ Mu') : Cont K mg z Mu' H' a d := by
  cases c with
  | lst h r => exact .lst (ea _ h trivial) (r.mono e m)
  | dct h h1 h2 h3 h4 h5 r1 r2 ky => exact .dct (ea _ h trivial) h1 h2 h3 h4 h5 (r1.mono e m) (r2.mono e m) ky

/-- the kinds of results: shared (never changed again), new (a list, dict or set is new and nobody else has it), peeked at (perhaps one's own) -/
inductive Kd where
  | sh | new | peek
def D.box : D → Bool
  | .lst _ => true
  | .dct _ => true
  | _ => false
/-- v, the result of a step from H to H', is d -/
def RK (K : PySem.W.Frag) (mg : Str → Option Value) (z : Zt) (k : Kd) (H : Hp) (Mu : List Addr) (H' : Hp) (v : V) (d : D) : Prop :=
  match k with
  | .sh => Rep K mg z Mu H' v d
  | .new => if d.box = true then ∃ a, v = .ref a ∧ ¬ Oc H a ∧ Cont K mg z (a :: Mu) H' a d else Rep K mg z Mu H' v d
  | .peek => Rep K mg z Mu H' v d ∨ ∃ a, v = .ref a ∧ a ∈ Mu ∧ a ≠ z.p ∧ a ≠ z.l ∧ a ≠ z.c ∧ Cont K mg z Mu H' a d
/-- peeked at: the same, wherever from -/
abbrev PR (K : PySem.W.Frag) (mg : Str → Option Value) (z : Zt) (Mu : List Addr) (H : Hp) (v : V) (d : D) : Prop :=
  Rep K mg z Mu H v d ∨ ∃ a, v = .ref a ∧ a ∈ Mu ∧ a ≠ z.p ∧ a ≠ z.l ∧ a ≠ z.c ∧ Cont K mg z Mu H a d
theorem PR.ext {g : G} (r : PR K mg z Mu H v d) (m : MuOk z Mu H) (G1 : GOk z H g) (e : Ext z H H') : PR K mg z Mu H' v d := by
  rcases r with r | ⟨a, ev, ha, n1, n2, n3, c⟩
  · exact .inl (r.ext m G1 e)
  · exact .inr ⟨a, ev, ha, n1, n2, n3, c.mono (fun u q t => e.to a u q t n1 n2) (e.m m.p m.l) fun _ _ h => h⟩
theorem RK.sh_of_new {H0 : Hp} {g : G} (r : RK K mg z .new H0 Mu H v d) (m0 : MuOk z Mu H0) (m : MuOk z Mu H) (G1 : GOk z H g) : Rep K mg z Mu H v d := by
  have r' : if d.box = true then ∃ a, v = .ref a ∧ ¬ Oc H0 a ∧ Cont K mg z (a :: Mu) H a d else Rep K mg z Mu H v d := r
  by_cases hb : d.box = true
  · rw [if_pos hb] at r'
    obtain ⟨a, rfl, n, c⟩ := r'
    have na : a ∉ Mu := fun w => n (m0.at_ a w)
    have np : a ≠ z.p := fun w => na (w ▸ m.p)
    have nl : a ≠ z.l := fun w => na (w ▸ m.l)
    exact Cont.rep (c.mono (Mu' := Mu) (fun _ e _ => e) (fun _ _ e _ _ => e) fun b _ h w => h (List.mem_cons_of_mem _ w)) na
  · rw [if_neg hb] at r'
    exact r'
theorem RK.peek {k : Kd} {H0 : Hp} {g : G} (r : RK K mg z k H0 Mu H v d) (m0 : MuOk z Mu H0) (m : MuOk z Mu H) (G1 : GOk z H g) : PR K mg z Mu H v d := by
  cases k with
  | sh => exact .inl r
  | peek => exact r
  | new => exact .inl (RK.sh_of_new r m0 m G1)
/-- a shared value that is no list, dict or set is new, too -/
theorem RK.new_of {H0 : Hp} (r : Rep K mg z Mu H v d) (h : d.box = false) : RK K mg z .new H0 Mu H v d := by
  unfold RK
  rw [if_neg (by rw [h]; exact Bool.false_ne_true)]
  exact r
end

/-! ### what a local of a def holds -/
abbrev Sl := Bool × D
abbrev Env := List (Option Sl)
def SlOk (K : PySem.W.Frag) (mg : Str → Option Value) (z : Zt) (Mu : List Addr) (H : Hp) (v : V) (t : Bool) (d : D) : Prop :=
  match t with
  | false => Rep K mg z Mu H v d
  | true => ∃ a, v = .ref a ∧ a ∈ Mu ∧ a ≠ z.p ∧ a ≠ z.l ∧ a ≠ z.c ∧ Cont K mg z Mu H a d
structure EnvOk (K : PySem.W.Frag) (mg : Str → Option Value) (z : Zt) (Mu : List Addr) (H : Hp) (σ : L2.St) (ρ : Env) : Prop where
  len : ρ.length = σ.length
  mu : MuOk z Mu H
  val : ∀ (i : Nat) (t : Bool) (d : D), ρ[i]? = some (some (t, d)) → ∃ v, σ[i]? = some (some v) ∧ SlOk K mg z Mu H v t d
  sep : ∀ (i j : Nat) (d d' : D) (a : Addr), ρ[i]? = some (some (true, d)) → ρ[j]? = some (some (true, d')) → σ[i]? = some (some (.ref a)) → σ[j]? = some (some (.ref a)) → i = j
section
variable {K : PySem.W.Frag} {mg : Str → Option Value} {z : Zt} {Mu Mu' : List Addr} {H H' : Hp} {v : V} {d : D} {σ : L2.St} {ρ : Env}
theorem SlOk.ext {g : G} {t : Bool} (r : SlOk K mg z Mu H v t d) (m : MuOk z Mu H) (G1 : GOk z H g) (e : Ext z H H') : SlOk K mg z Mu H' v t d := by
  cases t with
  | false => exact Rep.ext r m G1 e
  | true =>
    obtain ⟨a, ev, ha, n1, n2, n3, c⟩ := r
    exact ⟨a, ev, ha, n1, n2, n3, c.mono (fun u q t => e.to a u q t n1 n2) (e.m m.p m.l) fun _ _ h => h⟩
theorem EnvOk.ext {g g' : G} (h : EnvOk K mg z Mu H σ ρ) (G1 : GOk z H g) (e : Ext z H H') (G2 : GOk z H' g') : EnvOk K mg z Mu H' σ ρ :=
  ⟨h.len, h.mu.ext (g := g) e G2, fun i t d q => by
    obtain ⟨v, q1, q2⟩ := h.val i t d q
    exact ⟨v, q1, q2.ext h.mu G1 e⟩, h.sep⟩
end
end DL
set_option Elab.async false
set_option linter.all false
set_option maxRecDepth 100000
set_option maxHeartbeats 2000000
/-! The value layer, part 2: what an expression comes to (DE), a test (DT), arguments (DA); names, constants, operators, comparisons, and, or, not, if. -/
namespace DL
open PySem PySem.Spec PyProof.Rows L2

abbrev Ep := Env → M D
abbrev Et := Env → M Bool
abbrev Es := Env → M (List D)

/-- P of a result, E of an exception -/
def R.all {α : Type} (r : R α) (P : α → G → Prop) (E : Str → Str → List D → G → Prop) : Prop :=
  match r with
  | .stuck => False
  | .ok a g => P a g
  | .exc c f l g => E c f l g
theorem R.all_bind {α β : Type} {r : R α} {k : α → M β} {P : β → G → Prop} {E : Str → Str → List D → G → Prop} (h : (r.bind k).all P E) : r.all (fun a g => (k a g).all P E) E := by
  cases r <;> exact h
theorem R.all_imp {α : Type} {r : R α} {P P' : α → G → Prop} {E E' : Str → Str → List D → G → Prop} (h : r.all P E) (hp : ∀ a g, P a g → P' a g) (he : ∀ c f l g, E c f l g → E' c f l g) : r.all P' E' := by
  cases r with
  | stuck => exact h
  | ok a g => exact hp _ _ h
  | exc c f l g => exact he _ _ _ _ h
theorem R.all_eq {α : Type} {r : R α} {P : α → G → Prop} {E : Str → Str → List D → G → Prop} (h : r.all P E) : r.all (fun a g => r = .ok a g ∧ P a g) E := by
  cases r with
  | stuck => exact h
  | ok a g => exact ⟨rfl, h⟩
  | exc c f l g => exact h
theorem R.all_opt {α : Type} {o : Option α} {g : G} {P : α → G → Prop} {E : Str → Str → List D → G → Prop} (h : (ofOpt o g).all P E) : ∃ a, o = some a ∧ P a g := by
  cases o with
  | none => exact h.elim
  | some a => exact ⟨a, rfl, h⟩

/-- the exception of the class c, with its attribute f where it has one -/
def ExcIs (K : PySem.W.Frag) (mg : Str → Option Value) (z : Zt) (Mu : List Addr) (H : Hp) (c f : Str) (l : List D) (cls : Value) (dd : Option Addr) : Prop :=
  ∃ C, mg c = some (.ref C) ∧ cls = .ref C ∧ ((f = Str.empty ∧ l = [] ∧ dd = none) ∨ ∃ dx v d, l = [d] ∧ dd = some dx ∧ dx ∉ Mu ∧ H dx = some (.xd [(f, v)]) ∧ Rep K mg z Mu H v d)
abbrev XW (X : Cx) (z : Zt) (W : WX) (Mu : List Addr) (σ : L2.St) (H : Hp) : Str → Str → List D → G → Prop := fun c f l g' =>
  ∀ cls dd H', Ext z H H' → GOk z H' g' → ExcIs X.K X.mg z Mu H' c f l cls dd → W cls dd σ H'
def tE (X : Cx) (z : Zt) (W : WX) (k : Kd) (f : Ep) : TE := fun σ H Q => ∃ ρ g Mu, EnvOk X.K X.mg z Mu H σ ρ ∧ GOk z H g ∧
  (f ρ g).all (fun d g' => ∀ v H', Ext z H H' → GOk z H' g' → RK X.K X.mg z k H Mu H' v d → Q v H') (XW X z W Mu σ H)
def tT (X : Cx) (z : Zt) (W : WX) (f : Et) : TT := fun σ H Q => ∃ ρ g Mu, EnvOk X.K X.mg z Mu H σ ρ ∧ GOk z H g ∧
  (f ρ g).all (fun b g' => ∀ H', Ext z H H' → GOk z H' g' → Q b H') (XW X z W Mu σ H)
/-- values peeked at, or shared, one by one -/
inductive RKs (K : PySem.W.Frag) (mg : Str → Option Value) (z : Zt) (Mu : List Addr) (H : Hp) : List V → List D → Prop
  | nil : RKs K mg z Mu H [] []
  | cons {v d vs ds} : PR K mg z Mu H v d → RKs K mg z Mu H vs ds → RKs K mg z Mu H (v :: vs) (d :: ds)
def tA (X : Cx) (z : Zt) (W : WX) (f : Es) : TA := fun σ H Q => ∃ ρ g Mu, EnvOk X.K X.mg z Mu H σ ρ ∧ GOk z H g ∧
  (f ρ g).all (fun ds g' => ∀ vs H', Ext z H H' → GOk z H' g' → RKs X.K X.mg z Mu H' vs ds → Q vs H') (XW X z W Mu σ H)
/-- arguments that are shared -/
def tAs (X : Cx) (z : Zt) (W : WX) (f : Es) : TA := fun σ H Q => ∃ ρ g Mu, EnvOk X.K X.mg z Mu H σ ρ ∧ GOk z H g ∧
  (f ρ g).all (fun ds g' => ∀ vs H', Ext z H H' → GOk z H' g' → Reps X.K X.mg z Mu H' vs ds → Q vs H') (XW X z W Mu σ H)

abbrev DE (X : Cx) (z : Zt) (W : WX) (k : Kd) (e : Expr) (f : Ep) : Prop := PE X e (tE X z W k f)
abbrev DT (X : Cx) (z : Zt) (W : WX) (e : Expr) (f : Et) : Prop := PT X e (tT X z W f)
abbrev DA (X : Cx) (z : Zt) (W : WX) (es : List Expr) (f : Es) : Prop := PA X es (tA X z W f)
abbrev DAs (X : Cx) (z : Zt) (W : WX) (es : List Expr) (f : Es) : Prop := PA X es (tAs X z W f)

section
variable {X : Cx} {z : Zt} {W : WX} {k : Kd} {e a b : Expr} {f fa fb : Ep} {pos : Pos} {pins : List (Addr × Obj)} {s : Shared} {σ : L2.St} {H : Hp} {Mu : List Addr} {ρ : Env} {g : G}

theorem XW.step {H1 : Hp} {c n : Str} {l : List D} {g' : G} (h : XW X z W Mu σ H c n l g') (e : Ext z H H1) : XW X z W Mu σ H1 c n l g' := fun cls dd H' e1 g1 x => h cls dd H' (e.trans e1) g1 x
theorem Raising.all {α : Type} {r : R α} {P : α → G → Prop} {H1 : Hp} (h : r.all P (XW X z W Mu σ H)) (e : Ext z H H1) : r.all P (XW X z W Mu σ H1) := R.all_imp h (fun _ _ h => h) fun _ _ _ _ h => XW.step h e

/-- an expression runs to its value -/
theorem de_run {Q : Value → Shared → Prop} (h : DE X z W k e f) (I : Inv X pins σ H s) (E : EnvOk X.K X.mg z Mu H σ ρ) (G1 : GOk z H g)
    (hx : (f ρ g).all (fun d g' => ∀ v u H' s', Inv X pins σ H' s' → RelV v u → Ext z H H' → GOk z H' g' → EnvOk X.K X.mg z Mu H' σ ρ → RK X.K X.mg z k H Mu H' v d → Q u s') (XW X z W Mu σ H)) :
    wpAny (model X.prog X.w) X.A (eval e X.env) Q X.xe s := by
  refine thn (h.run pins s σ H (fun v H' => ∃ d g', f ρ g = .ok d g' ∧ Ext z H H' ∧ GOk z H' g' ∧ RK X.K X.mg z k H Mu H' v d) I ⟨ρ, g, Mu, E, G1, ?_⟩) ?_
  · cases q : f ρ g with
    | stuck => rw [q] at hx; exact hx
    | ok d g' => exact fun v H' e1 g1 r => ⟨d, g', rfl, e1, g1, r⟩
    | exc c n l g' => rw [q] at hx; exact hx
  · rintro u s' ⟨v, H', I', r, d, g', q, e1, g1, rk⟩
    rw [q] at hx
    exact hx v u H' s' I' r e1 g1 (E.ext G1 e1 g1) rk
theorem dt_run {f : Et} {Q : Bool → Shared → Prop} (h : DT X z W e f) (I : Inv X pins σ H s) (E : EnvOk X.K X.mg z Mu H σ ρ) (G1 : GOk z H g)
    (hx : (f ρ g).all (fun b g' => ∀ H' s', Inv X pins σ H' s' → Ext z H H' → GOk z H' g' → EnvOk X.K X.mg z Mu H' σ ρ → Q b s') (XW X z W Mu σ H)) :
    wpAny (model X.prog X.w) X.A (isTrue e X.env (eval e X.env)) Q X.xe s := by
  refine thn (h.run pins s σ H (fun b H' => ∃ g', f ρ g = .ok b g' ∧ Ext z H H' ∧ GOk z H' g') I ⟨ρ, g, Mu, E, G1, ?_⟩) ?_
  · cases q : f ρ g with
    | stuck => rw [q] at hx; exact hx
    | ok d g' => exact fun H' e1 g1 => ⟨g', rfl, e1, g1⟩
    | exc c n l g' => rw [q] at hx; exact hx
  · rintro b s' ⟨H', I', g', q, e1, g1⟩
    rw [q] at hx
    exact hx H' s' I' e1 g1 (E.ext G1 e1 g1)
theorem da_run {es : List Expr} {f : Es} {Q : List Value → Shared → Prop} (h : DA X z W es f) (I : Inv X pins σ H s) (E : EnvOk X.K X.mg z Mu H σ ρ) (G1 : GOk z H g)
    (hx : (f ρ g).all (fun ds g' => ∀ vs us H' s', Inv X pins σ H' s' → Vals vs us → Ext z H H' → GOk z H' g' → EnvOk X.K X.mg z Mu H' σ ρ → RKs X.K X.mg z Mu H' vs ds → Q us s') (XW X z W Mu σ H)) :
    wpAny (model X.prog X.w) X.A (spliced (backTo pos (starEach es X.env))) Q X.xe s := by
  refine thn (h.run pos pins s σ H (fun vs H' => ∃ ds g', f ρ g = .ok ds g' ∧ Ext z H H' ∧ GOk z H' g' ∧ RKs X.K X.mg z Mu H' vs ds) I ⟨ρ, g, Mu, E, G1, ?_⟩) ?_
  · cases q : f ρ g with
    | stuck => rw [q] at hx; exact hx
    | ok d g' => exact fun vs H' e1 g1 r => ⟨d, g', rfl, e1, g1, r⟩
    | exc c n l g' => rw [q] at hx; exact hx
  · rintro us s' ⟨vs, H', I', r, ds, g', q, e1, g1, rk⟩
    rw [q] at hx
    exact hx vs us H' s' I' r e1 g1 (E.ext G1 e1 g1) rk
theorem das_run {es : List Expr} {f : Es} {Q : List Value → Shared → Prop} (h : DAs X z W es f) (I : Inv X pins σ H s) (E : EnvOk X.K X.mg z Mu H σ ρ) (G1 : GOk z H g)
    (hx : (f ρ g).all (fun ds g' => ∀ vs us H' s', Inv X pins σ H' s' → Vals vs us → Ext z H H' → GOk z H' g' → EnvOk X.K X.mg z Mu H' σ ρ → Reps X.K X.mg z Mu H' vs ds → Q us s') (XW X z W Mu σ H)) :
    wpAny (model X.prog X.w) X.A (spliced (backTo pos (starEach es X.env))) Q X.xe s := by
  refine thn (h.run pos pins s σ H (fun vs H' => ∃ ds g', f ρ g = .ok ds g' ∧ Ext z H H' ∧ GOk z H' g' ∧ Reps X.K X.mg z Mu H' vs ds) I ⟨ρ, g, Mu, E, G1, ?_⟩) ?_
  · cases q : f ρ g with
    | stuck => rw [q] at hx; exact hx
    | ok d g' => exact fun vs H' e1 g1 r => ⟨d, g', rfl, e1, g1, r⟩
    | exc c n l g' => rw [q] at hx; exact hx
  · rintro us s' ⟨vs, H', I', r, ds, g', q, e1, g1, rk⟩
    rw [q] at hx
    exact hx vs us H' s' I' r e1 g1 (E.ext G1 e1 g1) rk

/-- a value that is shared, told as new or peeked at -/
theorem DE.peek (h : DE X z W k e f) : DE X z W .peek e f := by
  refine ⟨fun pins s σ H Q I ⟨ρ, g, Mu, E, G1, hx⟩ => ?_⟩
  refine de_run h I E G1 (R.all_imp hx (fun d g' hq v u H' s' I' r e1 g1 E1 rk => ?_) fun _ _ _ _ h => h)
  exact ⟨v, H', I', r, hq v H' e1 g1 (rk.peek E.mu E1.mu g1)⟩
theorem DE.sh (h : DE X z W .new e f) : DE X z W .sh e f := by
  refine ⟨fun pins s σ H Q I ⟨ρ, g, Mu, E, G1, hx⟩ => ?_⟩
  refine de_run h I E G1 (R.all_imp hx (fun d g' hq v u H' s' I' r e1 g1 E1 rk => ?_) fun _ _ _ _ h => h)
  exact ⟨v, H', I', r, hq v H' e1 g1 (rk.sh_of_new E.mu E1.mu g1)⟩

/-! ### names, constants -/
def shAt (ρ : Env) (i : Nat) : Option D := match ρ[i]? with
  | some (some (false, d)) => some d
  | _ => none
def anyAt (ρ : Env) (i : Nat) : Option D := match ρ[i]? with
  | some (some (_, d)) => some d
  | _ => none
theorem shAt_some {ρ : Env} {i : Nat} {d : D} (h : shAt ρ i = some d) : ρ[i]? = some (some (false, d)) := by
  unfold shAt at h
  split at h
  · rename_i e q
    cases h
    exact q
  · cases h
theorem anyAt_some {ρ : Env} {i : Nat} {d : D} (h : anyAt ρ i = some d) : ∃ t, ρ[i]? = some (some (t, d)) := by
  unfold anyAt at h
  split at h
  · rename_i t e q
    cases h
    exact ⟨t, q⟩
  · cases h
def eVar (i : Nat) : Ep := fun ρ => ofOpt (shAt ρ i)
def ePeek (i : Nat) : Ep := fun ρ => ofOpt (anyAt ρ i)
def eC (d : D) : Ep := fun _ => M.pure d
theorem de_of {t : TE} (h : PE X e t) (hi : ∀ σ H ρ g Mu Q, EnvOk X.K X.mg z Mu H σ ρ → GOk z H g → (f ρ g).all (fun d g' => ∀ v H', Ext z H H' → GOk z H' g' → RK X.K X.mg z k H Mu H' v d → Q v H') (XW X z W Mu σ H) → t σ H Q) : DE X z W k e f :=
  ⟨fun pins s σ H Q I ⟨ρ, g, Mu, E, G1, hx⟩ => h.run pins s σ H Q I (hi σ H ρ g Mu Q E G1 hx)⟩
theorem de_var {i : Nat} {x : Str} (h : PE X (.Name x pos) (tVar i)) : DE X z W .sh (.Name x pos) (eVar i) := by
  refine de_of h fun σ H ρ g Mu Q E G1 hx => ?_
  obtain ⟨d, q, hx⟩ := R.all_opt hx
  obtain ⟨v, hv, r⟩ := E.val i false d (shAt_some q)
  exact ⟨v, hv, hx v H Ext.refl G1 r⟩
theorem de_peek {i : Nat} {x : Str} (h : PE X (.Name x pos) (tVar i)) : DE X z W .peek (.Name x pos) (ePeek i) := by
  refine de_of h fun σ H ρ g Mu Q E G1 hx => ?_
  obtain ⟨d, q, hx⟩ := R.all_opt hx
  obtain ⟨t, q⟩ := anyAt_some q
  obtain ⟨v, hv, r⟩ := E.val i t d q
  refine ⟨v, hv, hx v H Ext.refl G1 ?_⟩
  cases t with
  | false => exact .inl r
  | true => exact .inr r
theorem de_const {v : V} {d : D} (h : PE X e (tC v)) (r : ∀ Mu H, Rep X.K X.mg z Mu H v d) (hb : d.box = false) : DE X z W .new e (eC d) :=
  de_of h fun σ H ρ g Mu Q E G1 hx => hx v H Ext.refl G1 (RK.new_of (r Mu H) hb)
theorem de_int {i : Int} {j : Nat} : DE X z W .new (.Constant (.int i) j pos) (eC (.int i)) := de_const pe_int (fun _ _ => .int i) rfl
theorem de_bl {b : Bool} {j : Nat} : DE X z W .new (.Constant (.bool b) j pos) (eC (.bl b)) := de_const pe_bl (fun _ _ => .bl b) rfl
theorem de_non {j : Nat} : DE X z W .new (.Constant .none j pos) (eC .non) := de_const pe_non (fun _ _ => .non) rfl
theorem de_str {x : Str} {j : Nat} : DE X z W .new (.Constant (.str x) j pos) (eC (.str x)) := de_const pe_str (fun _ _ => .str x) rfl
theorem de_glob_int {x : Str} {i : Int} {t : Tok} (hg : Gl X x) (hm : X.mg x = some (.int i t)) (hd : (x == ("__debug__" : Str)) = false := by decide) : DE X z W .new (.Name x pos) (eC (.int i)) := de_const (v := .int i) (pe_glob hg hm ⟨t, rfl⟩ hd) (fun _ _ => .int i) rfl
theorem de_glob_fn {x : Str} {q : Addr} (hg : Gl X x) (hm : X.mg x = some (.ref q)) (hd : (x == ("__debug__" : Str)) = false := by decide) : DE X z W .new (.Name x pos) (eC (.fn x)) := de_const (v := .ref q) (pe_glob hg hm rfl hd) (fun _ _ => .fn hm) rfl

/-! ### operators by values -/
/-- f of two values comes to h of what they read as -/
def DOp (X : Cx) (z : Zt) (k : Kd) (f : Value → Value → Sem Value) (h : D → D → Option D) : Prop :=
  ∀ (pins : List (Addr × Obj)) (s : Shared) (σ : L2.St) (H : Hp) (Mu : List Addr) (g : G) (x y : V) (v u : Value) (dx dy d : D) (Q : VK), Inv X pins σ H s → MuOk z Mu H → GOk z H g → RelV x v → RelV y u → PR X.K X.mg z Mu H x dx → PR X.K X.mg z Mu H y dy →
    h dx dy = some d → (∀ v' H', Same H H' → RK X.K X.mg z k H Mu H' v' d → Q v' H') → wpAny (model X.prog X.w) X.A (f v u) (EP X pins σ Q) X.xe s
def eBin (h : D → D → Option D) (fa fb : Ep) : Ep := fun ρ => do let x ← fa ρ; let y ← fb ρ; ofOpt (h x y)
theorem RK.back {H0 H1 H2 : Hp} {K : PySem.W.Frag} {mg : Str → Option Value} {v : V} {d : D} {g1 : G} (r : RK K mg z k H1 Mu H2 v d) (e : Ext z H0 H1) (G1 : GOk z H1 g1) : RK K mg z k H0 Mu H2 v d := by
  cases k with
  | sh => exact r
  | peek => exact r
  | new =>
    have r' : if d.box = true then ∃ a, v = .ref a ∧ ¬ Oc H1 a ∧ Cont K mg z (a :: Mu) H2 a d else Rep K mg z Mu H2 v d := r
    show if d.box = true then ∃ a, v = .ref a ∧ ¬ Oc H0 a ∧ Cont K mg z (a :: Mu) H2 a d else Rep K mg z Mu H2 v d
    by_cases hb : d.box = true
    · rw [if_pos hb] at r' ⊢
      obtain ⟨a, ev, n, c⟩ := r'
      refine ⟨a, ev, ?_, c⟩
      exact e.none n (fun w => n (w ▸ G1.op)) (fun w => n (w ▸ G1.ol))
    · rw [if_neg hb] at r' ⊢
      exact r'
/-- two values in a row, then f -/
theorem bin_run {h : D → D → Option D} {fv : Value → Value → Sem Value} {ka kb : Kd} (ho : DOp X z k fv h) (ha : DE X z W ka a fa) (hb : DE X z W kb b fb) (I : Inv X pins σ H s) (E : EnvOk X.K X.mg z Mu H σ ρ) (G1 : GOk z H g) {Q : VK}
    (hx : (eBin h fa fb ρ g).all (fun d g' => ∀ v H', Ext z H H' → GOk z H' g' → RK X.K X.mg z k H Mu H' v d → Q v H') (XW X z W Mu σ H)) :
    wpAny (model X.prog X.w) X.A (eval a X.env) (fun v s₁ => wpAny (model X.prog X.w) X.A (eval b X.env) (fun u s₂ => wpAny (model X.prog X.w) X.A (fv v u) (EP X pins σ Q) X.xe s₂) X.xe s₁) X.xe s := by
  refine de_run ha I E G1 (R.all_imp (R.all_bind hx) (fun dx g1 hx v u H1 s1 I1 r1 e1 G2 E1 k1 => ?_) fun _ _ _ _ h => h)
  refine de_run hb I1 E1 G2 (R.all_imp (Raising.all (R.all_bind hx) e1) (fun dy g2 hx v' u' H2 s2 I2 r2 e2 G3 E2 k2 => ?_) fun _ _ _ _ h => h)
  obtain ⟨d, hd, hx⟩ := R.all_opt hx
  have p1 : PR X.K X.mg z Mu H2 v dx := (k1.peek E.mu E1.mu G2).ext E1.mu G2 e2
  have p2 : PR X.K X.mg z Mu H2 v' dy := k2.peek E1.mu E2.mu G3
  refine ho pins s2 σ H2 Mu g2 v v' u u' dx dy d Q I2 E2.mu G3 r1 r2 p1 p2 hd fun w H3 s3 k3 => ?_
  exact hx w H3 ((e1.trans e2).trans (Ext.of s3)) (G3.same s3) (k3.back (e1.trans e2) G3)
theorem de_bin {op : Operator} {h : D → D → Option D} {ka kb : Kd} (ho : DOp X z k (binaryOp op) h) (ha : DE X z W ka a fa) (hb : DE X z W kb b fb) : DE X z W k (.BinOp a op b pos) (eBin h fa fb) := by
  refine ⟨fun pins s σ H Q I ⟨ρ, g, Mu, E, G1, hx⟩ => ?_⟩
  exact wpAny_BinOp (bin_run ho ha hb I E G1 hx)
theorem de_cmp {op : CmpOp} {h : D → D → Option D} {ka kb : Kd} (ho : DOp X z k (compareOp op) h) (ha : DE X z W ka a fa) (hb : DE X z W kb b fb) (hm : behindInMarks op b = false) : DE X z W k (.Compare a [op] [b] pos) (eBin h fa fb) := by
  refine ⟨fun pins s σ H Q I ⟨ρ, g, Mu, E, G1, hx⟩ => ?_⟩
  exact wpAny_Compare1 (bin_run ho ha hb I E G1 hx) hm
/-- a value's truth, of a bool -/
def eTr (f : Ep) : Et := fun ρ => do
  let d ← f ρ
  match d with
  | .bl b => M.pure b
  | _ => stuck
theorem all_tr {d : D} {P : Bool → G → Prop} {E : Str → Str → List D → G → Prop} {g : G} (h : ((match d with | .bl b => M.pure b | _ => stuck) g : R Bool).all P E) : ∃ b, d = .bl b ∧ P b g := by
  cases d <;> first | exact h.elim | exact ⟨_, rfl, h⟩
theorem PR.bl {K : PySem.W.Frag} {mg : Str → Option Value} {v : V} {b : Bool} (r : PR K mg z Mu H v (.bl b)) : v = .bl b := by
  rcases r with r | ⟨_, _, _, _, _, _, c⟩
  · cases r; rfl
  · cases c
theorem PR.int {K : PySem.W.Frag} {mg : Str → Option Value} {v : V} {i : Int} (r : PR K mg z Mu H v (.int i)) : v = .int i := by
  rcases r with r | ⟨_, _, _, _, _, _, c⟩
  · cases r; rfl
  · cases c
theorem PR.str {K : PySem.W.Frag} {mg : Str → Option Value} {v : V} {i : Str} (r : PR K mg z Mu H v (.str i)) : v = .str i := by
  rcases r with r | ⟨_, _, _, _, _, _, c⟩
  · cases r; rfl
  · cases c
theorem PR.non {K : PySem.W.Frag} {mg : Str → Option Value} {v : V} (r : PR K mg z Mu H v .non) : v = .non := by
  rcases r with r | ⟨_, _, _, _, _, _, c⟩
  · cases r; rfl
  · cases c
theorem PR.tup {K : PySem.W.Frag} {mg : Str → Option Value} {v : V} {ds : List D} (r : PR K mg z Mu H v (.tup ds)) : ∃ a xs, v = .ref a ∧ a ∉ Mu ∧ H a = some (.tup xs) ∧ Reps K mg z Mu H xs ds := by
  rcases r with r | ⟨_, _, _, _, _, _, c⟩
  · cases r with | tup n h r => exact ⟨_, _, rfl, n, h, r⟩
  · cases c
theorem PR.lst {K : PySem.W.Frag} {mg : Str → Option Value} {v : V} {ds : List D} (r : PR K mg z Mu H v (.lst ds)) : ∃ a xs, v = .ref a ∧ H a = some (.lst xs) ∧ Reps K mg z Mu H xs ds := by
  rcases r with r | ⟨a, rfl, _, _, _, _, c⟩
  · cases r with | lst _ h r => exact ⟨_, _, rfl, h, r⟩
  · cases c with | lst h r => exact ⟨_, _, rfl, h, r⟩
/-- a value that is a bool, as a test -/
theorem dt_of (h : DE X z W k e f) (he : ∀ whole, isTrue e X.env whole = (do let v ← whole; standAt e.pos; holding [v] (truthy v)) := by intro _; rfl) : DT X z W e (eTr f) := by
  refine ⟨fun pins s σ H Q I ⟨ρ, g, Mu, E, G1, hx⟩ => ?_⟩
  refine isTrue_plain (de_run h I E G1 (R.all_imp (R.all_bind hx) (fun d g1 hx v u H1 s1 I1 r1 e1 G2 E1 k1 => ?_) fun _ _ _ _ h => h)) (he _)
  obtain ⟨b, rfl, hx⟩ := all_tr hx
  have ev := (k1.peek E.mu E1.mu G2).bl
  subst ev
  cases r1
  exact wpAny_truthy_bool ⟨H1, I1, hx H1 e1 G2⟩
theorem dt_cmp {op : CmpOp} {h : D → D → Option D} {ka kb : Kd} (ho : DOp X z k (compareOp op) h) (ha : DE X z W ka a fa) (hb : DE X z W kb b fb) (hm : behindInMarks op b = false) : DT X z W (.Compare a [op] [b] pos) (eTr (eBin h fa fb)) := by
  refine ⟨fun pins s σ H Q I ⟨ρ, g, Mu, E, G1, hx⟩ => ?_⟩
  have w := bin_run (Q := fun v H' => ∃ b g', eBin h fa fb ρ g = .ok (.bl b) g' ∧ v = .bl b ∧ Ext z H H' ∧ GOk z H' g') ho ha hb I E G1 (R.all_imp (R.all_eq (R.all_bind hx)) (fun d g1 ⟨q, hx⟩ v H' e1 G2 k1 => ?_) fun _ _ _ _ h => h)
  · refine wpAny_isTrue_Compare1 (thn w fun v s1 h1 => thn h1 fun u s2 h2 => thn h2 fun c s3 ⟨x, H1, I1, r1, b, g', q, ev, e1, G2⟩ => ?_) hm
    subst ev
    cases r1
    have hx' : ((eBin h fa fb ρ g).bind fun d => (match d with | .bl b => M.pure b | _ => stuck : M Bool)).all (fun b g' => ∀ H', Ext z H H' → GOk z H' g' → Q b H') (XW X z W Mu σ H) := hx
    rw [q] at hx'
    exact wpAny_truthy_bool ⟨H1, I1, hx' H1 e1 G2⟩
  · obtain ⟨b, rfl, _⟩ := all_tr hx
    have m1 : MuOk z Mu H' := E.mu.ext (g := g) e1 G2
    exact ⟨b, g1, q, (k1.peek E.mu m1 G2).bl, e1, G2⟩
end

/-! ### and, or, not, if -/
abbrev DW (X : Cx) (z : Zt) (W : WX) (e : Expr) (f : Et) : Prop := PW X e (tT X z W f)
def bAnd (f h : Et) : Et := fun ρ => do if ← f ρ then h ρ else M.pure false
def bOr (f h : Et) : Et := fun ρ => do if ← f ρ then M.pure true else h ρ
def bNot (f : Et) : Et := fun ρ => do let b ← f ρ; M.pure (!b)
/-- a test's answer as a value -/
def eBo (f : Et) : Ep := fun ρ => do let b ← f ρ; M.pure (.bl b)
def eAnd (f : Et) (h : Ep) : Ep := fun ρ => do if ← f ρ then h ρ else M.pure (.bl false)
def eOr (f : Et) (h : Ep) : Ep := fun ρ => do if ← f ρ then M.pure (.bl true) else h ρ
def eIf (c : Et) (f h : Ep) : Ep := fun ρ => do if ← c ρ then f ρ else h ρ
section
variable {X : Cx} {z : Zt} {W : WX} {k : Kd} {e a b : Expr} {rest : List Expr} {f fa fb : Ep} {ta tb tc : Et} {pos : Pos}
theorem dw_and1 (ha : DT X z W a ta) : DW X z W (.BoolOp .And [a] pos) ta := pw_and1 ha
theorem dw_or1 (ha : DT X z W a ta) : DW X z W (.BoolOp .Or [a] pos) ta := pw_or1 ha
theorem dw_and (ha : DT X z W a ta) (hb : DW X z W (.BoolOp .And (b :: rest) pos) tb) : DW X z W (.BoolOp .And (a :: b :: rest) pos) (bAnd ta tb) := by
  refine ⟨fun wh pins s σ H Q I ⟨ρ, g, Mu, E, G1, hx⟩ => ?_⟩
  refine isTrue_and (dt_run ha I E G1 (R.all_imp (R.all_bind hx) (fun c g1 hx H1 s1 I1 e1 G2 E1 => ?_) fun _ _ _ _ h => h))
  cases c with
  | true =>
    refine hb.run wh pins s1 σ H1 Q I1 ⟨ρ, g1, Mu, E1, G2, ?_⟩
    exact R.all_imp hx (fun c g2 h H2 e2 G3 => h H2 (e1.trans e2) G3) fun _ _ _ _ h => h.step e1
  | false => exact ⟨H1, I1, hx H1 e1 G2⟩
theorem dw_or (ha : DT X z W a ta) (hb : DW X z W (.BoolOp .Or (b :: rest) pos) tb) : DW X z W (.BoolOp .Or (a :: b :: rest) pos) (bOr ta tb) := by
  refine ⟨fun wh pins s σ H Q I ⟨ρ, g, Mu, E, G1, hx⟩ => ?_⟩
  refine isTrue_or (dt_run ha I E G1 (R.all_imp (R.all_bind hx) (fun c g1 hx H1 s1 I1 e1 G2 E1 => ?_) fun _ _ _ _ h => h))
  cases c with
  | true => exact ⟨H1, I1, hx H1 e1 G2⟩
  | false =>
    refine hb.run wh pins s1 σ H1 Q I1 ⟨ρ, g1, Mu, E1, G2, ?_⟩
    exact R.all_imp hx (fun c g2 h H2 e2 G3 => h H2 (e1.trans e2) G3) fun _ _ _ _ h => h.step e1
theorem dt_w (h : DW X z W e ta) : DT X z W e ta := h.pt
theorem dt_not (ha : DT X z W a ta) : DT X z W (.UnaryOp .Not a pos) (bNot ta) := by
  refine ⟨fun pins s σ H Q I ⟨ρ, g, Mu, E, G1, hx⟩ => ?_⟩
  exact isTrue_not (dt_run ha I E G1 (R.all_imp (R.all_bind hx) (fun c g1 hx H1 s1 I1 e1 G2 E1 => ⟨H1, I1, hx H1 e1 G2⟩) fun _ _ _ _ h => h))
/-- .. as values -/
theorem de_one {op} (h : DE X z W k a f) : DE X z W k (.BoolOp op [a] pos) f := pe_one h
theorem de_and {ka : Kd} (ha : DE X z W ka a fa) (hb : DE X z W k (.BoolOp .And (b :: rest) pos) fb) : DE X z W k (.BoolOp .And (a :: b :: rest) pos) (eAnd (eTr fa) fb) := by
  refine ⟨fun pins s σ H Q I ⟨ρ, g, Mu, E, G1, hx⟩ => ?_⟩
  refine BoolOp_and (de_run ha I E G1 (R.all_imp (R.all_bind (R.all_bind hx)) (fun d g1 hx v u H1 s1 I1 r1 e1 G2 E1 k1 => ?_) fun _ _ _ _ h => h))
  obtain ⟨c, rfl, hx⟩ := all_tr hx
  have ev := (k1.peek E.mu E1.mu G2).bl
  subst ev
  cases r1
  refine wpAny_truthy_bool ?_
  cases c with
  | true =>
    refine hb.run pins s1 σ H1 Q I1 ⟨ρ, g1, Mu, E1, G2, ?_⟩
    exact R.all_imp hx (fun d g2 h w H2 e2 G3 k2 => h w H2 (e1.trans e2) G3 (k2.back e1 G2)) fun _ _ _ _ h => h.step e1
  | false =>
    refine ⟨.bl false, H1, I1, rfl, hx (.bl false) H1 e1 G2 ?_⟩
    cases k with
    | sh => exact .bl false
    | new => exact RK.new_of (.bl false) rfl
    | peek => exact .inl (.bl false)
theorem de_or {ka : Kd} (ha : DE X z W ka a fa) (hb : DE X z W k (.BoolOp .Or (b :: rest) pos) fb) : DE X z W k (.BoolOp .Or (a :: b :: rest) pos) (eOr (eTr fa) fb) := by
  refine ⟨fun pins s σ H Q I ⟨ρ, g, Mu, E, G1, hx⟩ => ?_⟩
  refine BoolOp_or (de_run ha I E G1 (R.all_imp (R.all_bind (R.all_bind hx)) (fun d g1 hx v u H1 s1 I1 r1 e1 G2 E1 k1 => ?_) fun _ _ _ _ h => h))
  obtain ⟨c, rfl, hx⟩ := all_tr hx
  have ev := (k1.peek E.mu E1.mu G2).bl
  subst ev
  cases r1
  refine wpAny_truthy_bool ?_
  cases c with
  | false =>
    refine hb.run pins s1 σ H1 Q I1 ⟨ρ, g1, Mu, E1, G2, ?_⟩
    exact R.all_imp hx (fun d g2 h w H2 e2 G3 k2 => h w H2 (e1.trans e2) G3 (k2.back e1 G2)) fun _ _ _ _ h => h.step e1
  | true =>
    refine ⟨.bl true, H1, I1, rfl, hx (.bl true) H1 e1 G2 ?_⟩
    cases k with
    | sh => exact .bl true
    | new => exact RK.new_of (.bl true) rfl
    | peek => exact .inl (.bl true)
def eNot (f : Ep) : Ep := eBo (bNot (eTr f))
theorem de_not {ka : Kd} (ha : DE X z W ka a fa) : DE X z W .new (.UnaryOp .Not a pos) (eNot fa) := by
  refine ⟨fun pins s σ H Q I ⟨ρ, g, Mu, E, G1, hx⟩ => ?_⟩
  refine UnaryOp_ (de_run ha I E G1 (R.all_imp (R.all_bind (R.all_bind (R.all_bind hx))) (fun d g1 hx v u H1 s1 I1 r1 e1 G2 E1 k1 => ?_) fun _ _ _ _ h => h))
  obtain ⟨c, rfl, hx⟩ := all_tr hx
  have ev := (k1.peek E.mu E1.mu G2).bl
  subst ev
  cases r1
  exact not_of (wpAny_truthy_bool ⟨.bl (!c), H1, I1, rfl, hx (.bl (!c)) H1 e1 G2 (RK.new_of (.bl _) rfl)⟩)
theorem de_if {c : Expr} (hc : DT X z W c tc) (ha : DE X z W k a fa) (hb : DE X z W k b fb) : DE X z W k (.IfExp c a b pos) (eIf tc fa fb) := by
  refine ⟨fun pins s σ H Q I ⟨ρ, g, Mu, E, G1, hx⟩ => ?_⟩
  refine wpAny_IfExp (dt_run hc I E G1 (R.all_imp (R.all_bind hx) (fun d g1 hx H1 s1 I1 e1 G2 E1 => ?_) fun _ _ _ _ h => h))
  cases d with
  | true =>
    refine ha.run pins s1 σ H1 Q I1 ⟨ρ, g1, Mu, E1, G2, ?_⟩
    exact R.all_imp hx (fun d g2 h w H2 e2 G3 k2 => h w H2 (e1.trans e2) G3 (k2.back e1 G2)) fun _ _ _ _ h => h.step e1
  | false =>
    refine hb.run pins s1 σ H1 Q I1 ⟨ρ, g1, Mu, E1, G2, ?_⟩
    exact R.all_imp hx (fun d g2 h w H2 e2 G3 k2 => h w H2 (e1.trans e2) G3 (k2.back e1 G2)) fun _ _ _ _ h => h.step e1
/-- an operation on one value -/
def UOp (X : Cx) (z : Zt) (k : Kd) (f : Value → Sem Value) (h : D → Option D) : Prop :=
  ∀ (pins : List (Addr × Obj)) (s : Shared) (σ : L2.St) (H : Hp) (Mu : List Addr) (g : G) (x : V) (v : Value) (dx d : D) (Q : VK), Inv X pins σ H s → MuOk z Mu H → GOk z H g → RelV x v → PR X.K X.mg z Mu H x dx →
    h dx = some d → (∀ v' H', Same H H' → RK X.K X.mg z k H Mu H' v' d → Q v' H') → wpAny (model X.prog X.w) X.A (f v) (EP X pins σ Q) X.xe s
def eUn (h : D → Option D) (f : Ep) : Ep := fun ρ => do let x ← f ρ; ofOpt (h x)
theorem de_un {op : UnaryOp} {h : D → Option D} {ka : Kd} (ho : UOp X z k (unaryOp op) h) (ha : DE X z W ka a fa) : DE X z W k (.UnaryOp op a pos) (eUn h fa) := by
  refine ⟨fun pins s σ H Q I ⟨ρ, g, Mu, E, G1, hx⟩ => ?_⟩
  refine UnaryOp_ (de_run ha I E G1 (R.all_imp (R.all_bind hx) (fun d g1 hx v u H1 s1 I1 r1 e1 G2 E1 k1 => ?_) fun _ _ _ _ h => h))
  obtain ⟨d', hd, hx⟩ := R.all_opt hx
  exact ho pins s1 σ H1 Mu g1 v u d d' Q I1 E1.mu G2 r1 (k1.peek E.mu E1.mu G2) hd fun w H2 s2 k2 => hx w H2 (e1.trans (Ext.of s2)) (G2.same s2) (k2.back e1 G2)
def uNeg : D → Option D
  | .int i => some (.int (-i))
  | _ => none
theorem op_neg : UOp X z .new (unaryOp .USub) uNeg := by
  intro pins s σ H Mu g x v dx d Q I m G1 r p hd q
  cases dx <;> simp only [uNeg, reduceCtorEq, Option.some.injEq] at hd
  subst hd
  have e := p.int
  subst e
  exact un_neg pins s σ H _ v Q I r ⟨_, rfl, q _ H Same.refl (RK.new_of (.int _) rfl)⟩
end
end DL
set_option Elab.async false
set_option linter.all false
set_option maxRecDepth 100000
set_option maxHeartbeats 2000000
/-! The value layer, part 3: the operators, displays, subscripts, slices. -/
namespace DL
open PySem PySem.Spec PyProof.Rows L2

/-! ### numbers -/
def dAdd : D → D → Option D
  | .int a, .int b => some (.int (a + b))
  | .str a, .str b => if a.length + b.length ≤ sizeLine then some (.str (a ++ b)) else none
  | .tup a, .tup b => if a.length + b.length ≤ sizeLine then some (.tup (a ++ b)) else none
  | .lst a, .lst b => if a.length + b.length ≤ sizeLine then some (.lst (a ++ b)) else none
  | _, _ => none
def dSub : D → D → Option D
  | .int a, .int b => some (.int (a - b))
  | _, _ => none
/-- a * b for a number of at most 64 bits, or a sequence repeated -/
def dMul : D → D → Option D
  | .int a, .int b => if (-(2 ^ 64) < a ∧ a < 2 ^ 64) ∨ (-(2 ^ 64) < b ∧ b < 2 ^ 64) then some (.int (a * b)) else none
  | .tup a, .int k => if -(2 ^ 63) ≤ k ∧ k ≤ 1000 ∧ a.length ≤ 1000 ∧ ¬ a.isEmpty = true then some (.tup (List.replicate k.toNat a).flatten) else none
  | .lst a, .int k => if -(2 ^ 63) ≤ k ∧ k < 2 ^ 63 ∧ a.length * k.toNat ≤ sizeLine then some (.lst (List.replicate k.toNat a).flatten) else none
  | _, _ => none
def dFdiv : D → D → Option D
  | .int a, .int b => if 0 < b ∧ b.natAbs.log2 < 9000 then some (.int (a / b)) else none
  | _, _ => none
def dMod : D → D → Option D
  | .int a, .int b => if 0 < b then some (.int (a % b)) else none
  | _, _ => none
def dPow : D → D → Option D
  | .int a, .int b => if 0 ≤ b ∧ b ≤ 1000000 ∧ a.natAbs < 2 ^ 64 then some (.int (a ^ b.toNat)) else none
  | _, _ => none
def dLt : D → D → Option D
  | .int a, .int b => some (.bl (decide (a < b)))
  | _, _ => none
def dLe : D → D → Option D
  | .int a, .int b => some (.bl (decide (a ≤ b)))
  | _, _ => none
def dGt : D → D → Option D
  | .int a, .int b => some (.bl (decide (b < a)))
  | _, _ => none
def dGe : D → D → Option D
  | .int a, .int b => some (.bl (decide (b ≤ a)))
  | _, _ => none
section
variable {X : Cx} {z : Zt} {W : WX} {k : Kd}
theorem RK.int {K : PySem.W.Frag} {mg : Str → Option Value} {H0 H : Hp} {Mu : List Addr} {i : Int} : RK K mg z .new H0 Mu H (.int i) (.int i) := RK.new_of (.int i) rfl
theorem RK.bl {K : PySem.W.Frag} {mg : Str → Option Value} {H0 H : Hp} {Mu : List Addr} {b : Bool} : RK K mg z .new H0 Mu H (.bl b) (.bl b) := RK.new_of (.bl b) rfl
theorem RK.str {K : PySem.W.Frag} {mg : Str → Option Value} {H0 H : Hp} {Mu : List Addr} {x : Str} : RK K mg z .new H0 Mu H (.str x) (.str x) := RK.new_of (.str x) rfl
theorem same_upd' {H : Hp} {p : Addr} {o : HO} (h : H p = none) : Same H (upd H p o) := fun b u e => by rw [upd_ne (ne_of_none e h)]; exact e
/-- a new list -/
theorem RK.lst {K : PySem.W.Frag} {mg : Str → Option Value} {H : Hp} {Mu : List Addr} {p : Addr} {xs : List V} {ds : List D} {g : G} (m : MuOk z Mu H) (G1 : GOk z H g) (hp : H p = none) (r : Reps K mg z Mu H xs ds) : RK K mg z .new H Mu (upd H p (.lst xs)) (.ref p) (.lst ds) := by
  show if D.box (.lst ds) = true then ∃ a, V.ref p = .ref a ∧ ¬ Oc H a ∧ Cont K mg z (a :: Mu) (upd H p (.lst xs)) a (.lst ds) else Rep K mg z Mu (upd H p (.lst xs)) (.ref p) (.lst ds)
  rw [if_pos (show D.box (.lst ds) = true from rfl)]
  exact ⟨p, rfl, oc_none hp, .lst upd_same (r.more m G1 (Ext.of (same_upd' hp)) (oc_none hp))⟩
theorem MuOk.new {H : Hp} {Mu : List Addr} {p : Addr} (m : MuOk z Mu H) (h : H p = none) : p ∉ Mu := fun w => oc_none h (m.at_ p w)
theorem RK.tup {K : PySem.W.Frag} {mg : Str → Option Value} {H : Hp} {Mu : List Addr} {p : Addr} {xs : List V} {ds : List D} {g : G} (m : MuOk z Mu H) (G1 : GOk z H g) (hp : H p = none) (r : Reps K mg z Mu H xs ds) : RK K mg z .new H Mu (upd H p (.tup xs)) (.ref p) (.tup ds) :=
  RK.new_of (.tup (m.new hp) upd_same (r.ext m G1 (Ext.of (same_upd' hp)))) rfl
theorem RK.tup_same {K : PySem.W.Frag} {mg : Str → Option Value} {H0 H : Hp} {Mu : List Addr} {p : Addr} {xs : List V} {ds : List D} (n : p ∉ Mu) (h : H p = some (.tup xs)) (r : Reps K mg z Mu H xs ds) : RK K mg z .new H0 Mu H (.ref p) (.tup ds) := RK.new_of (.tup n h r) rfl

theorem op_dAdd : DOp X z .new (binaryOp .Add) dAdd := by
  intro pins s σ H Mu g x y v u dx dy d Q I m G1 rx ry px py hd q
  cases dx <;> cases dy <;> simp only [dAdd, reduceCtorEq, Option.some.injEq] at hd
  · subst hd
    obtain rfl := px.int
    obtain rfl := py.int
    exact L2.op_add pins s σ H _ _ v u Q I rx ry ⟨_, _, rfl, rfl, q _ H Same.refl RK.int⟩
  · split at hd
    · rename_i hz
      cases hd
      obtain rfl := px.str
      obtain rfl := py.str
      exact L2.op_add_str pins s σ H _ _ v u Q I rx ry ⟨_, _, rfl, rfl, hz, q _ H Same.refl RK.str⟩
    · cases hd
  · split at hd
    · rename_i hz
      cases hd
      obtain ⟨a, xs, rfl, nx, hx, rx'⟩ := px.tup
      obtain ⟨b, ys, rfl, ny, hy, ry'⟩ := py.tup
      refine L2.op_catA pins s σ H _ _ v u Q I rx ry ⟨a, b, xs, ys, rfl, rfl, SqT.of hx, SqT.of hy, by rw [rx'.length, ry'.length]; exact hz, fun e => ?_, fun e1 e2 => ?_, fun _ _ p hp => ?_⟩
      · subst e
        cases rx'
        exact q _ H Same.refl (RK.tup_same ny hy ry')
      · subst e2
        cases ry'
        rw [List.append_nil] at q
        exact q _ H Same.refl (RK.tup_same nx hx rx')
      · exact q _ _ (same_upd' hp) (RK.tup m G1 hp (rx'.append ry'))
    · cases hd
  · split at hd
    · rename_i hz
      cases hd
      obtain ⟨a, xs, rfl, hx, rx'⟩ := px.lst
      obtain ⟨b, ys, rfl, hy, ry'⟩ := py.lst
      exact L2.op_cat pins s σ H _ _ v u Q I rx ry ⟨a, b, xs, ys, rfl, rfl, hx, hy, by rw [rx'.length, ry'.length]; exact hz, fun p hp => q _ _ (same_upd' hp) (RK.lst m G1 hp (rx'.append ry'))⟩
    · cases hd
/-- a tuple times 1, times 0 and less -/
theorem tuple_mul1 (l : Addr) (items : Array Value) (n : Nat) (dd : Option Addr) (sl : Array (Option Value)) (u : Tok) :
    Meets (Builtin.«tuple.__mul__» ⟨[.ref l, .int 1 u], []⟩) (fun _ R s => s.heap.get? l = some { cls := .type "tuple", dict := dd, data := .seq items n, slots := sl } ∧ R (.ok (.ret (Value.ref l))) s) :=
  .of_wp fun prog w A R s h => by
    obtain ⟨hp, g, d, tk, os⟩ := s
    obtain ⟨hl, h⟩ := h
    have f1 := AutoSeq1.idx_int
    wp_walk using wpAny_loadPart' hl
    exact ⟨_, rfl, h⟩
theorem tuple_mul0 (l : Addr) (items : Array Value) (n : Nat) (dd : Option Addr) (sl : Array (Option Value)) (x : Int) (u : Tok) (c0 : (decide (x < -(2 ^ 63)) || decide (x ≥ 2 ^ 63)) = false) (c1 : (items.isEmpty || x == 1) = false) (c2 : (decide (x ≤ 0) || items.isEmpty) = true) :
    Meets (Builtin.«tuple.__mul__» ⟨[.ref l, .int x u], []⟩) (fun _ R s => s.heap.get? l = some { cls := .type "tuple", dict := dd, data := .seq items n, slots := sl } ∧
      R (.ok (.ret (Value.ref s.heap.objs.size))) { s with heap := s.heap.push { cls := Value.type "tuple", data := Data.seq #[] }, toks := s.toks }) :=
  .of_wp fun prog w A R s h => by
    obtain ⟨hp, g, d, tk, os⟩ := s
    obtain ⟨hl, h⟩ := h
    have f1 := AutoSeq1.idx_int
    wp_walk using wpAny_loadPart' hl
    repeat (first
      | (refine wpAny_ite_false (decide_eq_false (by rw [c0]; exact Bool.false_ne_true)) ?_; wp_walk using wpAny_loadPart' hl)
      | (refine wpAny_ite_false (decide_eq_false (by rw [c1]; exact Bool.false_ne_true)) ?_; wp_walk using wpAny_loadPart' hl)
      | (refine wpAny_ite_true (decide_eq_true c2) ?_; wp_walk using wpAny_loadPart' hl))
    exact ⟨_, rfl, h⟩
theorem op_rep1 {pins : List (Addr × Obj)} {s : Shared} {σ : L2.St} {H : Hp} {l : Addr} {t : Tok} {xs : List V} {Q : VK} (I : Inv X pins σ H s) (hT : SqT X.K H l xs) (q : Q (.ref l) H) :
    wpAny (model X.prog X.w) X.A (binaryOp .Mult (.ref l) (.int 1 t)) (EP X pins σ Q) X.xe s := by
  obtain ⟨its, r, ⟨⟨cls, dd, data, sl⟩, ho, hc, n, hd⟩, hs⟩ := I.tuple hT
  simp only at hc hd
  subst hc hd
  refine wpAny_binaryOp_repeat_ref (T := "tuple") (U := "int") (by decide) ⟨_, ho, rfl⟩ (fun s' => typeIs_int s' 1 t) noFill_tuple_mul F.fills_int_mul F.slot_int_rmul repeat_tuple F.slot_int_index.lookup
    (call_meets F.slot_int_rmul (typeIs_int s 1 t) F.entry_int_rmul (F.args_int_rmul_2 _ _) (int_rmul_tuple 1 t l its.toArray n dd sl)
      ⟨ho, rfl, ⟨_, ho, rfl⟩, call_meets F.slot_tuple_mul ⟨_, ho, rfl⟩ F.entry_tuple_mul (F.args_tuple_mul_2 _ _) (tuple_mul1 l its.toArray n dd sl t) ⟨ho, ?_⟩⟩)
  exact ⟨.ref l, H, I, rfl, q⟩
theorem op_rep0 {pins : List (Addr × Obj)} {s : Shared} {σ : L2.St} {H : Hp} {l : Addr} {k : Int} {t : Tok} {xs : List V} {Q : VK} (I : Inv X pins σ H s) (hT : SqT X.K H l xs) (hne : xs ≠ []) (h0 : k ≤ 0) (h1 : -(2 ^ 63) ≤ k) (q : ∀ p, H p = none → Q (.ref p) (upd H p (.tup []))) :
    wpAny (model X.prog X.w) X.A (binaryOp .Mult (.ref l) (.int k t)) (EP X pins σ Q) X.xe s := by
  obtain ⟨its, r, ⟨⟨cls, dd, data, sl⟩, ho, hc, n, hd⟩, hs⟩ := I.tuple hT
  simp only at hc hd
  subst hc hd
  have hle : its.length = xs.length := r.length.symm
  have hn : its ≠ [] := fun e => hne (by
    rw [e] at hle
    exact List.eq_nil_of_length_eq_zero hle.symm)
  have hi : its.toArray.isEmpty = false := by
    cases its with
    | nil => exact absurd rfl hn
    | cons a b => rfl
  have c0 : (decide (k < -(2 ^ 63)) || decide (k ≥ 2 ^ 63)) = false := by
    rw [decide_eq_false (by omega), decide_eq_false (by omega)] <;> rfl
  have c1 : (its.toArray.isEmpty || k == 1) = false := by
    rw [hi, Bool.false_or]
    exact beq_eq_false_iff_ne.mpr (by omega)
  have c2 : (decide (k ≤ 0) || its.toArray.isEmpty) = true := by
    rw [hi, Bool.or_false]
    exact decide_eq_true (by omega)
  refine wpAny_binaryOp_repeat_ref (T := "tuple") (U := "int") (by decide) ⟨_, ho, rfl⟩ (fun s' => typeIs_int s' k t) noFill_tuple_mul F.fills_int_mul F.slot_int_rmul repeat_tuple F.slot_int_index.lookup
    (call_meets F.slot_int_rmul (typeIs_int s k t) F.entry_int_rmul (F.args_int_rmul_2 _ _) (int_rmul_tuple k t l its.toArray n dd sl)
      ⟨ho, rfl, ⟨_, ho, rfl⟩, call_meets F.slot_tuple_mul ⟨_, ho, rfl⟩ F.entry_tuple_mul (F.args_tuple_mul_2 _ _) (tuple_mul0 l its.toArray n dd sl k t c0 c1 c2) ⟨ho, ?_⟩⟩)
  refine ⟨.ref s.heap.objs.size, _, I.laid (t' := s.toks) (o := .tup []) (fun b ob q => Heap.get?_push_of_some _ q) (Nat.le_refl _) ?_, rfl, q _ (I.hok.fresh (Nat.le_refl _))⟩
  exact ⟨Nat.zero_le _, _, .nil, IsTup.new _ _⟩
theorem Reps.rep {K : PySem.W.Frag} {mg : Str → Option Value} {H : Hp} {Mu : List Addr} {xs : List V} {ds : List D} (r : Reps K mg z Mu H xs ds) : ∀ n : Nat, Reps K mg z Mu H (List.replicate n xs).flatten (List.replicate n ds).flatten
  | 0 => .nil
  | n + 1 => by rw [List.replicate_succ, List.replicate_succ, List.flatten_cons, List.flatten_cons]; exact r.append (Reps.rep r n)
theorem op_dMul : DOp X z .new (binaryOp .Mult) dMul := by
  intro pins s σ H Mu g x y v u dx dy d Q I m G1 rx ry px py hd q
  cases dx <;> cases dy <;> simp only [dMul, reduceCtorEq, Option.some.injEq] at hd
  · split at hd
    · rename_i hz
      cases hd
      obtain rfl := px.int
      obtain rfl := py.int
      exact L2.op_mul pins s σ H _ _ v u Q I rx ry ⟨_, _, rfl, rfl, hz, q _ H Same.refl RK.int⟩
    · cases hd
  · rename_i ds k
    split at hd
    · rename_i hz
      cases hd
      obtain ⟨a, xs, rfl, nx, hx, rx'⟩ := px.tup
      obtain rfl := py.int
      have hne : xs ≠ [] := fun e => by
        subst e
        cases rx'
        exact hz.2.2.2 rfl
      by_cases h1 : k = 1
      · subst h1
        cases rx
        obtain ⟨t, rfl⟩ := ry
        refine op_rep1 I (SqT.of hx) ?_
        have e : (List.replicate (Int.toNat 1) ds).flatten = ds := by simp
        rw [e] at q
        exact q _ H Same.refl (RK.tup_same nx hx rx')
      · by_cases h0 : k ≤ 0
        · cases rx
          obtain ⟨t, rfl⟩ := ry
          refine op_rep0 I (SqT.of hx) hne h0 hz.1 fun p hp => ?_
          have e : k.toNat = 0 := by omega
          rw [e] at q
          exact q _ _ (same_upd' hp) (RK.tup m G1 hp .nil)
        · exact op_repT pins s σ H _ _ v u Q I rx ry ⟨a, k, xs, rfl, rfl, SqT.of hx, hne, by omega, hz.2.1, by rw [rx'.length]; exact hz.2.2.1, fun p hp => q _ _ (same_upd' hp) (RK.tup m G1 hp (rx'.rep _))⟩
    · cases hd
  · split at hd
    · rename_i hz
      cases hd
      obtain ⟨a, xs, rfl, hx, rx'⟩ := px.lst
      obtain rfl := py.int
      exact L2.op_rep pins s σ H _ _ v u Q I rx ry ⟨a, _, xs, rfl, rfl, hx, hz.1, hz.2.1, by rw [rx'.length]; exact hz.2.2, fun p hp => q _ _ (same_upd' hp) (RK.lst m G1 hp (rx'.rep _))⟩
    · cases hd
theorem op_dSub : DOp X z .new (binaryOp .Sub) dSub := by
  intro pins s σ H Mu g x y v u dx dy d Q I m G1 rx ry px py hd q
  cases dx <;> cases dy <;> simp only [dSub, reduceCtorEq, Option.some.injEq] at hd
  subst hd
  obtain rfl := px.int
  obtain rfl := py.int
  exact L2.op_sub pins s σ H _ _ v u Q I rx ry ⟨_, _, rfl, rfl, q _ H Same.refl RK.int⟩
theorem op_dFdiv : DOp X z .new (binaryOp .FloorDiv) dFdiv := by
  intro pins s σ H Mu g x y v u dx dy d Q I m G1 rx ry px py hd q
  cases dx <;> cases dy <;> simp only [dFdiv, reduceCtorEq, Option.some.injEq] at hd
  split at hd
  · rename_i hz
    cases hd
    obtain rfl := px.int
    obtain rfl := py.int
    exact L2.op_fdivW pins s σ H _ _ v u Q I rx ry ⟨_, _, rfl, rfl, hz, q _ H Same.refl RK.int⟩
  · cases hd
theorem op_dMod : DOp X z .new (binaryOp .Mod) dMod := by
  intro pins s σ H Mu g x y v u dx dy d Q I m G1 rx ry px py hd q
  cases dx <;> cases dy <;> simp only [dMod, reduceCtorEq, Option.some.injEq] at hd
  split at hd
  · rename_i hz
    cases hd
    obtain rfl := px.int
    obtain rfl := py.int
    exact L2.op_mod pins s σ H _ _ v u Q I rx ry ⟨_, _, rfl, rfl, hz, q _ H Same.refl RK.int⟩
  · cases hd
theorem op_dPow : DOp X z .new (binaryOp .Pow) dPow := by
  intro pins s σ H Mu g x y v u dx dy d Q I m G1 rx ry px py hd q
  cases dx <;> cases dy <;> simp only [dPow, reduceCtorEq, Option.some.injEq] at hd
  split at hd
  · rename_i hz
    cases hd
    obtain rfl := px.int
    obtain rfl := py.int
    exact L2.op_pow pins s σ H _ _ v u Q I rx ry ⟨_, _, rfl, rfl, hz, q _ H Same.refl RK.int⟩
  · cases hd
theorem op_dLt : DOp X z .new (compareOp .Lt) dLt := by
  intro pins s σ H Mu g x y v u dx dy d Q I m G1 rx ry px py hd q
  cases dx <;> cases dy <;> simp only [dLt, reduceCtorEq, Option.some.injEq] at hd
  subst hd
  obtain rfl := px.int
  obtain rfl := py.int
  exact L2.op_lt pins s σ H _ _ v u Q I rx ry ⟨_, _, rfl, rfl, q _ H Same.refl RK.bl⟩
theorem op_dLe : DOp X z .new (compareOp .LtE) dLe := by
  intro pins s σ H Mu g x y v u dx dy d Q I m G1 rx ry px py hd q
  cases dx <;> cases dy <;> simp only [dLe, reduceCtorEq, Option.some.injEq] at hd
  subst hd
  obtain rfl := px.int
  obtain rfl := py.int
  exact L2.op_le pins s σ H _ _ v u Q I rx ry ⟨_, _, rfl, rfl, q _ H Same.refl RK.bl⟩
theorem op_dGt : DOp X z .new (compareOp .Gt) dGt := by
  intro pins s σ H Mu g x y v u dx dy d Q I m G1 rx ry px py hd q
  cases dx <;> cases dy <;> simp only [dGt, reduceCtorEq, Option.some.injEq] at hd
  subst hd
  obtain rfl := px.int
  obtain rfl := py.int
  exact L2.op_gt pins s σ H _ _ v u Q I rx ry ⟨_, _, rfl, rfl, q _ H Same.refl RK.bl⟩
theorem op_dGe : DOp X z .new (compareOp .GtE) dGe := by
  intro pins s σ H Mu g x y v u dx dy d Q I m G1 rx ry px py hd q
  cases dx <;> cases dy <;> simp only [dGe, reduceCtorEq, Option.some.injEq] at hd
  subst hd
  obtain rfl := px.int
  obtain rfl := py.int
  exact L2.op_ge pins s σ H _ _ v u Q I rx ry ⟨_, _, rfl, rfl, q _ H Same.refl RK.bl⟩
end
end DL
set_option Elab.async false
set_option linter.all false
set_option maxRecDepth 100000
set_option maxHeartbeats 2000000
/-! The value layer, dicts: keys ints, or tuples of ints; what is read of them. -/
namespace DL
open PySem PySem.Spec PyProof.Rows L2

def intsOf : List D → Option (List Int)
  | [] => some []
  | .int i :: l => (intsOf l).map (i :: ·)
  | _ => none
theorem intsOf_eq : ∀ {l : List D} {ns : List Int}, intsOf l = some ns → l = ns.map D.int
  | [], ns, h => by cases h; rfl
  | .int i :: l, ns, h => by
    obtain ⟨ms, h1, rfl⟩ := Option.map_eq_some_iff.mp h
    rw [intsOf_eq h1]; rfl
  | .non :: _, _, h => by cases h
  | .bl _ :: _, _, h => by cases h
  | .str _ :: _, _, h => by cases h
  | .tup _ :: _, _, h => by cases h
  | .lst _ :: _, _, h => by cases h
  | .dct _ :: _, _, h => by cases h
  | .set _ :: _, _, h => by cases h
  | .st :: _, _, h => by cases h
  | .scr _ :: _, _, h => by cases h
  | .ty _ :: _, _, h => by cases h
  | .fn _ :: _, _, h => by cases h
  | .lam _ :: _, _, h => by cases h
  | .exc _ _ _ :: _, _, h => by cases h
theorem intsOf_map (ns : List Int) : intsOf (ns.map D.int) = some ns := by
  induction ns with
  | nil => rfl
  | cons n ns ih => rw [List.map_cons, intsOf, ih]; rfl
/-- tuples of ints -/
def tint : List Int → D := fun is => .tup (is.map D.int)
def tupsOf : List D → Option (List (List Int))
  | [] => some []
  | .tup q :: l => match intsOf q, tupsOf l with
    | some is, some r => some (is :: r)
    | _, _ => none
  | _ => none
theorem tupsOf_eq : ∀ {l : List D} {ns : List (List Int)}, tupsOf l = some ns → l = ns.map tint
  | [], ns, h => by cases h; rfl
  | .tup q :: l, ns, h => by
    unfold tupsOf at h
    split at h
    · rename_i is r h1 h2
      cases h
      rw [intsOf_eq h1, tupsOf_eq h2]
      rfl
    · cases h
  | .int _ :: _, _, h => by cases h
  | .non :: _, _, h => by cases h
  | .bl _ :: _, _, h => by cases h
  | .str _ :: _, _, h => by cases h
  | .lst _ :: _, _, h => by cases h
  | .dct _ :: _, _, h => by cases h
  | .set _ :: _, _, h => by cases h
  | .st :: _, _, h => by cases h
  | .scr _ :: _, _, h => by cases h
  | .ty _ :: _, _, h => by cases h
  | .fn _ :: _, _, h => by cases h
  | .lam _ :: _, _, h => by cases h
  | .exc _ _ _ :: _, _, h => by cases h
theorem tupsOf_map (ns : List (List Int)) : tupsOf (ns.map tint) = some ns := by
  induction ns with
  | nil => rfl
  | cons n ns ih =>
    rw [List.map_cons]
    unfold tint
    rw [tupsOf, intsOf_map]
    show (match some n, tupsOf (ns.map tint) with | some is, some r => some (is :: r) | _, _ => none) = _
    rw [ih]
/-- keys alike -/
def keq : D → D → Bool
  | .int i, .int j => decide (i = j)
  | .tup a, .tup b => match intsOf a, intsOf b with
    | some x, some y => decide (x = y)
    | _, _ => false
  | _, _ => false
theorem keq_tint (a b : List Int) : keq (tint a) (tint b) = decide (a = b) := by
  show (match intsOf (a.map D.int), intsOf (b.map D.int) with | some x, some y => decide (x = y) | _, _ => false) = _
  rw [intsOf_map, intsOf_map]
def look (l : List (D × D)) (k : D) : Option D := (l.find? fun p => keq p.1 k).map (·.2)
/-- the keys and k are ints; are tuples of ints -/
def kOk (l : List (D × D)) : D → Bool
  | .int _ => (intsOf (l.map (·.1))).isSome
  | .tup q => (intsOf q).isSome && (tupsOf (l.map (·.1))).isSome
  | _ => false
theorem Reps.ints_eq {K : PySem.W.Frag} {mg : Str → Option Value} {z : Zt} {Mu : List Addr} {H : Hp} : ∀ {xs : List V} {ns : List Int}, Reps K mg z Mu H xs (ns.map D.int) → xs = ns.map V.int
  | [], [], _ => rfl
  | _, n :: ns, r => by
    rw [List.map_cons] at r
    cases r with
    | cons h t => cases h; rw [Reps.ints_eq t]; rfl
theorem PR.dct {K : PySem.W.Frag} {mg : Str → Option Value} {z : Zt} {Mu : List Addr} {H : Hp} {v : V} {l : List (D × D)} (r : PR K mg z Mu H v (.dct l)) :
    ∃ a o es ep ks vs, v = .ref a ∧ H a = some (ObV a o) ∧ (a == sysModules) = false ∧ o.ExactDict ∧ o.data = .dict es ep ∧ es.size ≤ sizeLine ∧ EnK ks vs es ∧ Reps K mg z Mu H ks (l.map (·.1)) ∧ Reps K mg z Mu H vs (l.map (·.2)) ∧ KyOk es (l.map (·.1)) := by
  rcases r with r | ⟨a, rfl, _, _, _, _, c⟩
  · cases r with | dct _ h h1 h2 h3 h4 h5 r1 r2 ky => exact ⟨_, _, _, _, _, _, rfl, h, h1, h2, h3, h4, h5, r1, r2, ky⟩
  · cases c with | dct h h1 h2 h3 h4 h5 r1 r2 ky => exact ⟨_, _, _, _, _, _, rfl, h, h1, h2, h3, h4, h5, r1, r2, ky⟩
theorem EnK.size {K : PySem.W.Frag} {mg : Str → Option Value} {z : Zt} {Mu : List Addr} {H : Hp} {ks vs : List V} {es : Array DictEntry} {l : List D} (h : EnK ks vs es) (r : Reps K mg z Mu H ks l) : es.size = l.length := by
  have e : ks.length = (es.toList.map (·.key)).length := Vals.length h.1
  rw [List.length_map, r.length] at e
  rw [← Array.length_toList]
  exact e.symm
/-! ### the kit's words for the entries -/
section
variable {P : Program} {w : World}
abbrev kI (ns : List Int) : List Key := ns.map Sum.inl
abbrev kT (ns : List (List Int)) : List (List Key) := ns.map kI
theorem pairs_of : ∀ {E : List DictEntry} {ns : List Int} {vs : List V}, Vals (ns.map V.int) (E.map (·.key)) → Vals vs (E.map (·.val)) →
    Pairs (mixKind P w) E ((kI ns).zip (E.map (·.val))) ∧ KV ((kI ns).zip vs) ((kI ns).zip (E.map (·.val)))
  | [], [], _, .nil, .nil => ⟨.nil, .nil⟩
  | e :: E, n :: ns, _, .cons h t, .cons h2 t2 => by
    obtain ⟨p1, p2⟩ := pairs_of t t2
    obtain ⟨tk, hk⟩ := (show ∃ t, e.key = Value.int n t from h)
    refine ⟨.cons (by rw [hk]; exact mixKind_int P w n tk) rfl p1, .cons ⟨rfl, h2⟩ p2⟩
theorem zip_fst {α β : Type} : ∀ {a : List α} {b : List β}, a.length = b.length → (a.zip b).map (·.1) = a
  | [], [], _ => rfl
  | x :: a, y :: b, h => by
    rw [List.zip_cons_cons, List.map_cons, zip_fst (by simpa using h)]
theorem vals_len {xs : List V} {us : List Value} (h : Vals xs us) : xs.length = us.length := Vals.length h
theorem nodup_of_map {α β : Type} (f : α → β) : ∀ {l : List α}, (l.map f).Nodup → l.Nodup
  | [], _ => .nil
  | a :: l, h => by
    rw [List.map_cons, List.nodup_cons] at h
    rw [List.nodup_cons]
    exact ⟨fun m => h.1 (List.mem_map.mpr ⟨a, m, rfl⟩), nodup_of_map f h.2⟩
theorem nodup_map_of {α β : Type} {f : α → β} (inj : ∀ a b, f a = f b → a = b) : ∀ {l : List α}, l.Nodup → (l.map f).Nodup
  | [], _ => .nil
  | a :: l, h => by
    rw [List.nodup_cons] at h
    rw [List.map_cons, List.nodup_cons]
    exact ⟨fun m => by
      obtain ⟨b, hb, e⟩ := List.mem_map.mp m
      exact h.1 (inj _ _ e ▸ hb), nodup_map_of inj h.2⟩
theorem kI_inj {a b : List Int} (h : kI a = kI b) : a = b := by
  have : ∀ {a b : List Int}, kI a = kI b → a = b := by
    intro a
    induction a with
    | nil => intro b h; cases b with | nil => rfl | cons => cases h
    | cons x a ih =>
      intro b h
      cases b with
      | nil => cases h
      | cons y b =>
        obtain ⟨h1, h2⟩ := List.cons.inj h
        rw [Sum.inl.inj h1, ih h2]
  exact this h
end
section
variable {X : Cx} {z : Zt} {pins : List (Addr × Obj)} {σ : L2.St} {H : Hp} {s : Shared} {Mu : List Addr}
/-- the keys are ints -/
theorem raw_dk {a : Addr} {o : Obj} {es : Array DictEntry} {ep : Nat} {vs : List V} {ns : List Int} (ho : s.heap.get? a = some o) (hex : o.ExactDict) (hd : o.data = .dict es ep) (e1 : Vals (ns.map V.int) (es.toList.map (·.key))) (e2 : Vals vs (es.toList.map (·.val))) (ky : KyOk es (ns.map D.int)) :
    s.heap.DictOf (mixKind X.prog X.w) a ((kI ns).zip (es.toList.map (·.val))) ∧ KV ((kI ns).zip vs) ((kI ns).zip (es.toList.map (·.val))) := by
  obtain ⟨p1, p2⟩ := pairs_of (P := X.prog) (w := X.w) e1 e2
  have ln : ns.length = es.toList.length := by
    have := vals_len e1
    rwa [List.length_map, List.length_map] at this
  refine ⟨⟨o, es, ep, ho, hex, hd, fun e he => ?_, p1, ?_⟩, p2⟩
  · obtain ⟨i, hi⟩ := Array.mem_iff_getElem?.mp he
    have hi' : es.toList[i]? = some e := by rw [Array.getElem?_toList]; exact hi
    obtain ⟨hlt, _⟩ := List.getElem?_eq_some_iff.mp hi'
    have hn : ns[i]? = some ns[i] := List.getElem?_eq_getElem (by omega)
    generalize ns[i] = n at hn
    have hk : ∃ t, e.key = Value.int n t := by
      have key : ∀ {xs : List V} {us : List Value} {i : Nat} {x : V} {u : Value}, Vals xs us → xs[i]? = some x → us[i]? = some u → RelV x u := by
        intro xs us i x u h
        induction h generalizing i with
        | nil => intro h; simp at h
        | cons h t ih =>
          intro h1 h2
          cases i with
          | zero => simp at h1 h2; rw [← h1, ← h2]; exact h
          | succ i => exact ih (by simpa using h1) (by simpa using h2)
      exact key (i := i) (x := V.int n) (u := e.key) e1 (by rw [List.getElem?_map, hn]; rfl) (by rw [List.getElem?_map, hi']; rfl)
    obtain ⟨t, hk⟩ := hk
    refine ⟨.inl n, by rw [hk]; exact mixKind_int _ _ n t, ?_⟩
    have := ky.1 i e (.int n) hi (by rw [List.getElem?_map, hn]; rfl)
    exact this X.w
  · rw [zip_fst (by rw [List.length_map, List.length_map]; exact ln)]
    exact nodup_map_of (fun a b h => Sum.inl.inj h) (nodup_of_map _ ky.2)
/-- the keys are tuples of ints -/
theorem tups_at {K : PySem.W.Frag} {mg : Str → Option Value} : ∀ {ns : List (List Int)} {ks : List V}, Reps K mg z Mu H ks (ns.map tint) → ∃ bs : List Addr, ks = bs.map V.ref ∧ Paired (fun b is => H b = some (.tup ((kI is).map kV))) bs ns
  | [], _, .nil => ⟨[], rfl, .nil⟩
  | n :: ns, _, .cons h t => by
    obtain ⟨bs, rfl, p⟩ := tups_at t
    cases h with
    | @tup b xs _ hn hb rs =>
      refine ⟨b :: bs, rfl, .cons ?_ p⟩
      rw [hb, Reps.ints_eq rs]
      show _ = some (HO.tup ((n.map Sum.inl).map kV))
      rw [List.map_map]
      rfl
theorem entries_at : ∀ {E : List DictEntry} {ns : List (List Int)} {bs : List Addr}, Vals (bs.map V.ref) (E.map (·.key)) → bs.length = ns.length → (∀ (i : Nat) (e : DictEntry) (is : List Int), E[i]? = some e → ns[i]? = some is → e.hash = (tupleKind (mixKind X.prog X.w)).hash (kI is)) →
    E = ((kT ns).zip (bs.zip (E.map (·.val)))).map (entryOfKey (tupleKind (mixKind X.prog X.w)))
  | [], [], [], _, _, _ => rfl
  | [], _ :: _, [], _, h, _ => by simp at h
  | _ :: _, [], _ :: _, _, h, _ => by simp at h
  | e :: E, n :: ns, b :: bs, .cons h t, hl, hh => by
    have ih := entries_at (E := E) (ns := ns) (bs := bs) t (by simpa using hl) fun i e is h1 h2 => hh (i + 1) e is (by simpa using h1) (by simpa using h2)
    have h0 := hh 0 e n rfl rfl
    have hk : e.key = Value.ref b := h
    show e :: E = entryOfKey _ (kI n, b, e.val) :: ((kT ns).zip (bs.zip (E.map (·.val)))).map _
    rw [← ih]
    congr 1
    cases e
    unfold entryOfKey
    dsimp only at h0 hk ⊢
    rw [h0, hk]
theorem kt_of : ∀ {E : List Value} {ns : List (List Int)} {bs : List Addr} {vs : List V}, Paired (fun b is => H b = some (HO.tup ((kI is).map kV))) bs ns → Vals vs E → vs.length = ns.length → KT H ((kT ns).zip vs) ((kT ns).zip (bs.zip E))
  | _, [], [], _, .nil, .nil, _ => .nil
  | _, [], [], _, .nil, .cons _ _, h => by simp at h
  | _, n :: ns, b :: bs, _, .cons h t, .cons r q, hl => .cons ⟨rfl, h, r⟩ (kt_of t q (by simpa using hl))
  | _, n :: ns, b :: bs, _, .cons h t, .nil, hl => by simp at hl
theorem paired_len {α β : Type} {F : α → β → Prop} {a : List α} {b : List β} (p : Paired F a b) : a.length = b.length := Paired.length p
theorem raw_dt (ok : HOk X.prog X.w H s.heap) {a : Addr} {o : Obj} {es : Array DictEntry} {ep : Nat} {ks vs : List V} {ns : List (List Int)} (ho : s.heap.get? a = some o) (hex : o.ExactDict) (hd : o.data = .dict es ep) (en : EnK ks vs es) (rk : Reps X.K X.mg z Mu H ks (ns.map tint)) (ky : KyOk es (ns.map tint)) :
    ∃ bs : List Addr, ks = bs.map V.ref ∧ s.heap.DictOfH (tupleKind (mixKind X.prog X.w)) a ((kT ns).zip (bs.zip (es.toList.map (·.val)))) ∧ KT H ((kT ns).zip vs) ((kT ns).zip (bs.zip (es.toList.map (·.val)))) := by
  obtain ⟨bs, rfl, pr⟩ := tups_at rk
  have l1 : bs.length = ns.length := paired_len pr
  have l2 : bs.length = es.toList.length := by
    have := vals_len en.1
    rwa [List.length_map, List.length_map] at this
  have l3 : vs.length = es.toList.length := by
    have := vals_len en.2
    rwa [List.length_map] at this
  have kt := kt_of pr en.2 (by omega)
  refine ⟨bs, rfl, ⟨o, es, ep, ho, hex, hd, entries_at en.1 l1 fun i e is h1 h2 => ?_, ?_, ?_⟩, kt⟩
  · have := ky.1 i e (tint is) (by rw [Array.getElem?_toList] at h1; exact h1) (by rw [List.getElem?_map, h2]; rfl)
    exact this is rfl X.prog X.w
  · intro x hx
    have : ∀ {xs : List (List Key × Addr × Value)} {kvs : List (List Key × V)}, KT H kvs xs → ∀ x ∈ xs, (tupleKind (mixKind X.prog X.w)).is s.heap x.1 x.2.1 := by
      intro xs kvs k
      induction k with
      | nil => intro x h; cases h
      | cons h t ih =>
        intro x hx
        rcases List.mem_cons.mp hx with rfl | hx
        · exact key_of ok (by rw [← h.1]; exact h.2.1)
        · exact ih x hx
    exact this kt x hx
  · rw [zip_fst (by rw [List.length_map, List.length_zip, List.length_map]; omega)]
    exact nodup_map_of (fun a b h => kI_inj h) (nodup_of_map _ ky.2)
/-- what is found in the one list is found in the other -/
theorem look_rel {κ : Type} [DecidableEq κ] {K : PySem.W.Frag} {mg : Str → Option Value} {k : D} {c : κ} : ∀ {l : List (D × D)} {kk : List κ} {vs : List V}, Paired (fun p y => keq p.1 k = decide (y = c)) l kk → Reps K mg z Mu H vs (l.map (·.2)) →
    match look l k with
    | some d => ∃ v, valV (kk.zip vs) c = some v ∧ Rep K mg z Mu H v d
    | none => valV (kk.zip vs) c = none
  | [], [], _, .nil, .nil => rfl
  | p :: l, y :: kk, _, .cons h t, .cons r rs => by
    have ih := look_rel t rs
    rename_i v vs
    unfold look
    rw [List.find?_cons, h]
    by_cases e : y = c
    · rw [decide_eq_true e]
      exact ⟨v, by rw [List.zip_cons_cons]; exact valV_pos e, r⟩
    · rw [decide_eq_false e]
      have q : valV ((y :: kk).zip (v :: vs)) c = valV (kk.zip vs) c := by rw [List.zip_cons_cons]; exact valV_neg e
      rw [q]
      exact ih
theorem keys_int {l : List (D × D)} {ns : List Int} {i : Int} (h : l.map (·.1) = ns.map D.int) : Paired (fun (p : D × D) (y : Key) => keq p.1 (.int i) = decide (y = .inl i)) l (kI ns) := by
  induction l generalizing ns with
  | nil => cases ns with | nil => exact .nil | cons => cases h
  | cons p l ih =>
    cases ns with
    | nil => cases h
    | cons n ns =>
      obtain ⟨h1, h2⟩ := List.cons.inj h
      refine .cons ?_ (ih h2)
      rw [show p.1 = D.int n from h1]
      show decide (n = i) = _
      exact decide_eq_decide.mpr ⟨fun e => by rw [e], fun e => Sum.inl.inj e⟩
theorem keys_tup {l : List (D × D)} {ns : List (List Int)} {is : List Int} (h : l.map (·.1) = ns.map tint) : Paired (fun (p : D × D) (y : List Key) => keq p.1 (tint is) = decide (y = kI is)) l (kT ns) := by
  induction l generalizing ns with
  | nil => cases ns with | nil => exact .nil | cons => cases h
  | cons p l ih =>
    cases ns with
    | nil => cases h
    | cons n ns =>
      obtain ⟨h1, h2⟩ := List.cons.inj h
      refine .cons ?_ (ih h2)
      rw [show p.1 = tint n from h1, keq_tint]
      exact decide_eq_decide.mpr ⟨fun e => by rw [e], fun e => kI_inj e⟩
/-- what the object of a dict says: for an int, for a tuple of ints -/
theorem dct_key {x y : V} {v u : Value} {l : List (D × D)} {k : D} (I : Inv X pins σ H s) (px : PR X.K X.mg z Mu H x (.dct l)) (py : PR X.K X.mg z Mu H y k) (rx : RelV x v) (ry : RelV y u) (hk : kOk l k = true) :
    ∃ a, v = .ref a ∧ (a == sysModules) = false ∧ s.TypeIs (.ref a) "dict" ∧ (∃ ob, s.heap.get? a = some ob ∧ ob.dict = none) ∧
      ((∃ (f : Key → Option Value) (c : Key), (mixKind X.prog X.w).is c u = true ∧ s.heap.MapOf (mixKind X.prog X.w) a f ∧ match look l k with
          | some d => ∃ w v', f c = some w ∧ RelV v' w ∧ Rep X.K X.mg z Mu H v' d
          | none => f c = none) ∨
       (∃ (xs : List (List Key × Addr × Value)) (c : List Key) (b : Addr), u = .ref b ∧ (tupleKind (mixKind X.prog X.w)).is s.heap c b ∧ s.heap.DictOfH (tupleKind (mixKind X.prog X.w)) a xs ∧ match look l k with
          | some d => ∃ p v', atKey xs c = some p ∧ RelV v' p.2 ∧ Rep X.K X.mg z Mu H v' d
          | none => atKey xs c = none)) := by
  obtain ⟨a, o, es, ep, ks, vs, rfl, ho, hsys, hex, hdt, hz, en, r1, r2, ky⟩ := px.dct
  cases rx
  have hg : s.heap.get? a = some o := (I.hok a _ ho).1
  refine ⟨a, rfl, hsys, ⟨o, hg, hex.1⟩, ⟨o, hg, hex.2.1⟩, ?_⟩
  cases k <;> first | cases hk | skip
  · rename_i i
    obtain ⟨ns, hn⟩ := Option.isSome_iff_exists.mp (show (intsOf (l.map (·.1))).isSome = true from hk)
    have e := intsOf_eq hn
    rw [e] at r1 ky
    have e1 := Reps.ints_eq r1
    subst e1
    obtain ⟨dd, kv⟩ := raw_dk (X := X) (s := s) hg hex hdt en.1 en.2 ky
    have q := look_rel (k := .int i) (c := (.inl i : Key)) (keys_int e) r2
    obtain rfl := py.int
    refine .inl ⟨_, .inl i, kV_is (k := .inl i) ry, dd.mapOf, ?_⟩
    have rel := kv.val (.inl i : Key)
    cases hl : look l (.int i) with
    | none =>
      rw [hl] at q
      exact RelO.none_of (by rw [← (show valV _ _ = none from q)]; exact rel)
    | some d =>
      rw [hl] at q
      obtain ⟨v', hv, rp⟩ := (show ∃ v', valV ((kI ns).zip vs) (Sum.inl i) = some v' ∧ Rep X.K X.mg z Mu H v' d from q)
      obtain ⟨w', hw, rw'⟩ := RelO.some_of (v := v') (by rw [← hv]; exact rel)
      exact ⟨w', v', hw, rw', rp⟩
  · rename_i kq
    obtain ⟨h1, h2⟩ := (Bool.and_eq_true _ _).mp (show ((intsOf kq).isSome && (tupsOf (l.map (·.1))).isSome) = true from hk)
    obtain ⟨is, his⟩ := Option.isSome_iff_exists.mp h1
    obtain ⟨ns, hn⟩ := Option.isSome_iff_exists.mp h2
    have e := tupsOf_eq hn
    have ek := intsOf_eq his
    subst ek
    rw [e] at r1 ky
    obtain ⟨bs, rfl, dd, kt⟩ := raw_dt (s := s) I.hok hg hex hdt en r1 ky
    have q := look_rel (k := tint is) (c := kI is) (keys_tup e) r2
    obtain ⟨b, xs, rfl, _, hb, rb⟩ := py.tup
    cases ry
    have hb' : H b = some (.tup ((kI is).map kV)) := by
      rw [hb, Reps.ints_eq rb, List.map_map]
      rfl
    refine .inr ⟨_, kI is, b, rfl, key_of I.hok hb', dd, ?_⟩
    have rel := kt.val (kI is)
    cases hl : look l (.tup (is.map D.int)) with
    | none =>
      rw [show look l (tint is) = none from hl] at q
      have := RelO.none_of (by rw [← (show valV _ _ = none from q)]; exact rel)
      cases hq : atKey ((kT ns).zip (bs.zip (es.toList.map (·.val)))) (kI is) with
      | none => rfl
      | some p => rw [hq] at this; cases this
    | some d =>
      rw [show look l (tint is) = some d from hl] at q
      obtain ⟨v', hv, rp⟩ := (show ∃ v', valV ((kT ns).zip vs) (kI is) = some v' ∧ Rep X.K X.mg z Mu H v' d from q)
      obtain ⟨w', hw, rw'⟩ := RelO.some_of (v := v') (by rw [← hv]; exact rel)
      obtain ⟨p, hp, hp2⟩ := Option.map_eq_some_iff.mp hw
      exact ⟨p, v', hp, by rw [hp2]; exact rw', rp⟩
/-- d[k], there -/
theorem dct_get {x y : V} {v u : Value} {l : List (D × D)} {k d : D} {A : Around} {E : Value → Shared → Prop} {Q : Value → Shared → Prop} (hu : A.units + 1 < cLine) (I : Inv X pins σ H s) (px : PR X.K X.mg z Mu H x (.dct l)) (py : PR X.K X.mg z Mu H y k) (rx : RelV x v) (ry : RelV y u) (hk : kOk l k = true) (hl : look l k = some d)
    (h : ∀ v' w' s', Inv X pins σ H s' → RelV v' w' → Rep X.K X.mg z Mu H v' d → Q w' s') : wpAny (model X.prog X.w) A (getItem v u) Q E s := by
  obtain ⟨a, rfl, hsys, _, _, g⟩ := dct_key I px py rx ry hk
  rw [hl] at g
  rcases g with ⟨f, c, h1, h2, w', v', h3, h4, h5⟩ | ⟨xs, c, b, rfl, h1, h2, p, v', h3, h4, h5⟩
  · exact wpAny_getItem_of h1 h2 h3 (h v' w' _ (I.tok _) h4 h5)
  · exact wpAny_getItem_heap (tupleKind_room_in1 hu) h1 h2 h3 (h v' p.2 _ (I.tok _) h4 h5)
/-- k in d -/
theorem dct_in {x y : V} {v u : Value} {l : List (D × D)} {k : D} {A : Around} {E : Value → Shared → Prop} {Q : Value → Shared → Prop} (hu : A.units + 1 < cLine) (I : Inv X pins σ H s) (px : PR X.K X.mg z Mu H x (.dct l)) (py : PR X.K X.mg z Mu H y k) (rx : RelV x v) (ry : RelV y u) (hk : kOk l k = true)
    (h : ∀ s', Inv X pins σ H s' → Q (.bool (look l k).isSome) s') : wpAny (model X.prog X.w) A (compareOp .In u v) Q E s := by
  obtain ⟨a, rfl, hsys, _, _, g⟩ := dct_key I px py rx ry hk
  rcases g with ⟨f, c, h1, h2, h3⟩ | ⟨xs, c, b, rfl, h1, h2, h3⟩
  · refine wpAny_in_of h1 hsys h2 ?_
    have e : (f c).isSome = (look l k).isSome := by
      cases hl : look l k with
      | none => rw [hl] at h3; rw [show f c = none from h3]; rfl
      | some d => rw [hl] at h3; obtain ⟨w, v', q, _⟩ := h3; rw [q]; rfl
    rw [e]
    exact h _ (I.tok _)
  · refine wpAny_in_heap (tupleKind_room_in1 hu) h1 hsys h2 ?_
    have e : (atKey xs c).isSome = (look l k).isSome := by
      cases hl : look l k with
      | none => rw [hl] at h3; rw [show atKey xs c = none from h3]; rfl
      | some d => rw [hl] at h3; obtain ⟨w, v', q, _⟩ := h3; rw [q]; rfl
    rw [e]
    exact h _ (I.tok _)
theorem dct_notIn {x y : V} {v u : Value} {l : List (D × D)} {k : D} {A : Around} {E : Value → Shared → Prop} {Q : Value → Shared → Prop} (hu : A.units + 1 < cLine) (I : Inv X pins σ H s) (px : PR X.K X.mg z Mu H x (.dct l)) (py : PR X.K X.mg z Mu H y k) (rx : RelV x v) (ry : RelV y u) (hk : kOk l k = true)
    (h : ∀ s', Inv X pins σ H s' → Q (.bool (!(look l k).isSome)) s') : wpAny (model X.prog X.w) A (compareOp .NotIn u v) Q E s := by
  obtain ⟨a, rfl, hsys, _, _, g⟩ := dct_key I px py rx ry hk
  rcases g with ⟨f, c, h1, h2, h3⟩ | ⟨xs, c, b, rfl, h1, h2, h3⟩
  · refine wpAny_notIn_of h1 hsys h2 ?_
    have e : (f c).isSome = (look l k).isSome := by
      cases hl : look l k with
      | none => rw [hl] at h3; rw [show f c = none from h3]; rfl
      | some d => rw [hl] at h3; obtain ⟨w, v', q, _⟩ := h3; rw [q]; rfl
    rw [e]
    exact h _ (I.tok _)
  · refine wpAny_notIn_heap (tupleKind_room_in1 hu) h1 hsys h2 ?_
    have e : (atKey xs c).isSome = (look l k).isSome := by
      cases hl : look l k with
      | none => rw [hl] at h3; rw [show atKey xs c = none from h3]; rfl
      | some d => rw [hl] at h3; obtain ⟨w, v', q, _⟩ := h3; rw [q]; rfl
    rw [e]
    exact h _ (I.tok _)
end
end DL
set_option Elab.async false
set_option linter.all false
set_option maxRecDepth 100000
set_option maxHeartbeats 2000000
/-! The value layer, part 4: argument lists, displays, subscripts, slices, == and in. -/
namespace DL
open PySem PySem.Spec PyProof.Rows L2

/-- what holds of every context that we walk in -/
structure XG (X : Cx) : Prop where
  calm : X.calm = true
  room : Room 0 X.A
  nd : X.N.Nodup
theorem XG.eq {X : Cx} (h : XG X) : X.A.units + 64 < cLine := h.room.units

def sNil : Es := fun _ => M.pure []
def sCons (f : Ep) (h : Es) : Es := fun ρ => do let x ← f ρ; let xs ← h ρ; M.pure (x :: xs)
section
variable {X : Cx} {z : Zt} {W : WX} {k ka kb : Kd} {e a b : Expr} {es : List Expr} {f fa fb : Ep} {h : Es} {pos : Pos}
theorem da_nil : DA X z W [] sNil := by
  refine ⟨fun pos pins s σ H Q I ⟨ρ, g, Mu, E, G1, hx⟩ => ?_⟩
  exact Calls.spliced_nil ⟨[], H, I, .nil, hx [] H Ext.refl G1 .nil⟩
theorem das_nil : DAs X z W [] sNil := by
  refine ⟨fun pos pins s σ H Q I ⟨ρ, g, Mu, E, G1, hx⟩ => ?_⟩
  exact Calls.spliced_nil ⟨[], H, I, .nil, hx [] H Ext.refl G1 .nil⟩
theorem RKs.ext {K : PySem.W.Frag} {mg : Str → Option Value} {H H' : Hp} {Mu : List Addr} {g : G} (m : MuOk z Mu H) (G1 : GOk z H g) (e : Ext z H H') : ∀ {vs : List V} {ds : List D}, RKs K mg z Mu H vs ds → RKs K mg z Mu H' vs ds
  | _, _, .nil => .nil
  | _, _, .cons r t => .cons (r.ext m G1 e) (RKs.ext m G1 e t)
theorem da_cons (ha : DE X z W k a f) (hr : DA X z W es h) (hs : starEach (a :: es) X.env = (false, eval a X.env) :: starEach es X.env := by rfl) : DA X z W (a :: es) (sCons f h) := by
  refine ⟨fun pos pins s σ H Q I ⟨ρ, g, Mu, E, G1, hx⟩ => ?_⟩
  rw [hs]
  show wpAny _ _ (spliced ((false, eval a X.env) :: backTo pos (starEach es X.env))) _ _ s
  refine Calls.spliced_cons (de_run ha I E G1 (R.all_imp (R.all_bind hx) (fun d g1 hx v u H1 s1 I1 r1 e1 G2 E1 k1 => ?_) fun _ _ _ _ h => h))
  refine da_run hr I1 E1 G2 (R.all_imp (Raising.all (R.all_bind hx) e1) (fun ds g2 hx vs us H2 s2 I2 r2 e2 G3 E2 k2 => ?_) fun _ _ _ _ h => h)
  exact ⟨v :: vs, H2, I2, .cons r1 r2, hx (v :: vs) H2 (e1.trans e2) G3 (.cons ((k1.peek E.mu E1.mu G2).ext E1.mu G2 e2) k2)⟩
theorem das_cons (ha : DE X z W .sh a f) (hr : DAs X z W es h) (hs : starEach (a :: es) X.env = (false, eval a X.env) :: starEach es X.env := by rfl) : DAs X z W (a :: es) (sCons f h) := by
  refine ⟨fun pos pins s σ H Q I ⟨ρ, g, Mu, E, G1, hx⟩ => ?_⟩
  rw [hs]
  show wpAny _ _ (spliced ((false, eval a X.env) :: backTo pos (starEach es X.env))) _ _ s
  refine Calls.spliced_cons (de_run ha I E G1 (R.all_imp (R.all_bind hx) (fun d g1 hx v u H1 s1 I1 r1 e1 G2 E1 k1 => ?_) fun _ _ _ _ h => h))
  refine das_run hr I1 E1 G2 (R.all_imp (Raising.all (R.all_bind hx) e1) (fun ds g2 hx vs us H2 s2 I2 r2 e2 G3 E2 k2 => ?_) fun _ _ _ _ h => h)
  exact ⟨v :: vs, H2, I2, .cons r1 r2, hx (v :: vs) H2 (e1.trans e2) G3 (.cons (Rep.ext (show Rep X.K X.mg z Mu H1 v d from k1) E1.mu G2 e2) k2)⟩
/-! ### displays -/
def eTup (h : Es) : Ep := fun ρ => do let ds ← h ρ; ofOpt (if ds.length ≤ sizeLine then some (.tup ds) else none)
def eLst (h : Es) : Ep := fun ρ => do let ds ← h ρ; ofOpt (if ds.length ≤ sizeLine then some (.lst ds) else none)
theorem opt_if {α : Type} {c : Prop} [Decidable c] {a b : α} (h : (if c then some a else none) = some b) : c ∧ a = b := by
  split at h
  · exact ⟨by assumption, Option.some.inj h⟩
  · cases h
theorem de_tup {x1 : Nat} (hs : DAs X z W es h) : DE X z W .new (.Tuple es x1 pos) (eTup h) := by
  refine ⟨fun pins s σ H Q I ⟨ρ, g, Mu, E, G1, hx⟩ => ?_⟩
  refine wpAny_Tuple_spliced (das_run hs I E G1 (R.all_imp (R.all_bind hx) (fun ds g1 hx vs us H1 s1 I1 r1 e1 G2 E1 k1 => ?_) fun _ _ _ _ h => h))
  obtain ⟨d, hd, hx⟩ := R.all_opt hx
  obtain ⟨hz, rfl⟩ := opt_if hd
  have hz' : vs.length ≤ sizeLine := by rw [k1.length]; exact hz
  have hf : H1 s1.heap.objs.size = none := I1.hok.fresh (Nat.le_refl _)
  refine ⟨by rw [← r1.length]; exact hz', .ref s1.heap.objs.size, upd H1 s1.heap.objs.size (.tup vs), I1.laid (t' := s1.toks) (fun b u e => Heap.get?_push_of_some _ e) (Nat.le_refl _) ?_, rfl,
    hx _ _ (e1.trans (Ext.of (same_upd' hf))) (G2.same (same_upd' hf)) ((RK.tup E1.mu G2 hf k1).back e1 G2)⟩
  exact ⟨hz', us, r1, ⟨_, Heap.get?_push_size _ rfl, rfl, _, rfl⟩⟩
theorem de_lst (hs : DAs X z W es h) : DE X z W .new (.List es pos) (eLst h) := by
  refine ⟨fun pins s σ H Q I ⟨ρ, g, Mu, E, G1, hx⟩ => ?_⟩
  refine wpAny_List_spliced (das_run hs I E G1 (R.all_imp (R.all_bind hx) (fun ds g1 hx vs us H1 s1 I1 r1 e1 G2 E1 k1 => ?_) fun _ _ _ _ h => h))
  obtain ⟨d, hd, hx⟩ := R.all_opt hx
  obtain ⟨hz, rfl⟩ := opt_if hd
  have hz' : vs.length ≤ sizeLine := by rw [k1.length]; exact hz
  have hf : H1 s1.heap.objs.size = none := I1.hok.fresh (Nat.le_refl _)
  refine ⟨by rw [← r1.length]; exact hz', .ref s1.heap.objs.size, upd H1 s1.heap.objs.size (.lst vs), I1.laid (t' := s1.toks) (fun b u e => Heap.get?_push_of_some _ e) (Nat.le_refl _) ?_, rfl,
    hx _ _ (e1.trans (Ext.of (same_upd' hf))) (G2.same (same_upd' hf)) ((RK.lst E1.mu G2 hf k1).back e1 G2)⟩
  exact ⟨hz', us, 0, r1, Heap.get?_push_size _ rfl⟩
/-! ### subscripts -/
/-- an operation on two values behind a [..] -/
def dIx : D → D → Option D
  | .tup l, .int i => atI l i
  | .lst l, .int i => atI l i
  | .dct l, k => if kOk l k = true then look l k else none
  | _, _ => none
theorem subscriptTail_builtin_D {prog : Program} {w : World} {A : Around} {E : Value → Shared → Prop} {s : Shared} {value slice : Expr} {o i : Value} {T id : String} {Q : Value → Shared → Prop} (hT : s.TypeIs o T)
    (hl : typeLookup (.type T) "__getitem__" = pure (some (.builtin id))) (h : wpAny (model prog w) A (getItem o i) Q E s)
    (hs : subscripted slice false o i = operate [o, i] (getItem o i)) :
    wpAny (model prog w) A (subscriptTail value slice o i) Q E s := by
  unfold subscriptTail
  refine wpAny_bind ?_
  rw [getitemInPython_of_ne hT.not_modules]
  refine wpAny_bind (wpAny_specialOf hT hl ?_)
  have fin : wpAny (model prog w) A (subscripted slice false o i) (fun r s₃ => wpAny (model prog w) A (letTemporaryGo value o r >>= fun _ => pure r) Q E s₃) E s := by
    rw [hs]
    exact wpAny_operating (wpAny_mono h (fun r s₃ h₃ => wpAny_bind (wpAny_letTemporaryGo (wpAny_pure h₃))) fun _ _ x => x)
  first
    | exact wpAny_pure (wpAny_bind fin)
    | exact wpAny_bind (wpAny_pure (wpAny_bind fin))
    | exact wpAny_bind fin
def DIx (X : Cx) (z : Zt) (h : D → D → Option D) : Prop :=
  ∀ (value slice : Expr) (pins : List (Addr × Obj)) (s : Shared) (σ : L2.St) (H : Hp) (Mu : List Addr) (g : G) (x y : V) (v u : Value) (dx dy d : D) (Q : VK), Inv X pins σ H s → MuOk z Mu H → GOk z H g → RelV x v → RelV y u → PR X.K X.mg z Mu H x dx → PR X.K X.mg z Mu H y dy →
    h dx dy = some d → (∀ v' H', Same H H' → Rep X.K X.mg z Mu H' v' d → Q v' H') → subscripted slice false v u = operate [v, u] (getItem v u) → wpAny (model X.prog X.w) X.A (subscriptTail value slice v u) (EP X pins σ Q) X.xe s
theorem Reps.atI {K : PySem.W.Frag} {mg : Str → Option Value} {H : Hp} {Mu : List Addr} {xs : List V} {ds : List D} {i : Int} {d : D} (r : Reps K mg z Mu H xs ds) (h : atI ds i = some d) : ∃ v, L2.atI xs i = some v ∧ Rep K mg z Mu H v d := by
  unfold L2.atI at h ⊢
  rw [r.length]
  cases q : ixN ds.length i with
  | none => rw [q] at h; cases h
  | some j =>
    rw [q] at h
    exact r.get' h
theorem ix_seq' (hX : XG X) : DIx X z dIx := by
  intro value slice pins s σ H Mu g x y v u dx dy d Q I m G1 rx ry px py hd q hs
  have dct : ∀ l, dx = .dct l → wpAny (model X.prog X.w) X.A (subscriptTail value slice v u) (EP X pins σ Q) X.xe s := fun l e => by
    subst e
    obtain ⟨hk, hl⟩ := opt_if (show (if kOk l dy = true then some (look l dy) else none) = some (some d) from by
      have hd : (if kOk l dy = true then look l dy else none) = some d := by cases dy <;> exact hd
      split at hd
      · rw [if_pos (by assumption), hd]
      · cases hd)
    have hu : X.A.units + 1 < cLine := by have := hX.eq; omega
    obtain ⟨a, ev, _, hT, _, _⟩ := dct_key I px py rx ry hk
    subst ev
    refine subscriptTail_builtin_D hT PySem.F.slot_dict_getitem.lookup (dct_get hu I px py rx ry hk hl fun v' w' s' I' rw' r' => ⟨v', H, I', rw', q v' H Same.refl r'⟩) hs
  cases dx <;> first | exact dct _ rfl | skip
  all_goals cases dy <;> simp only [dIx, reduceCtorEq] at hd
  · obtain ⟨a, xs, rfl, _, hx, rx'⟩ := px.tup
    obtain rfl := py.int
    obtain ⟨w, hw, rw'⟩ := rx'.atI hd
    exact ix_tup value slice pins s σ H _ _ v u Q I rx ry ⟨a, xs, _, w, rfl, rfl, SqT.of hx, hw, q _ H Same.refl rw'⟩ hs
  · obtain ⟨a, xs, rfl, hx, rx'⟩ := px.lst
    obtain rfl := py.int
    obtain ⟨w, hw, rw'⟩ := rx'.atI hd
    exact ix_list value slice pins s σ H _ _ v u Q I rx ry ⟨a, xs, _, w, rfl, rfl, SqL.of hx, hw, q _ H Same.refl rw'⟩ hs
theorem de_ix {h : D → D → Option D} (ho : DIx X z h) (ha : DE X z W ka a fa) (hb : DE X z W kb b fb) (hs : PlainIx b := by exact fun _ _ => rfl) : DE X z W .sh (.Subscript a b pos) (eBin h fa fb) := by
  refine ⟨fun pins s σ H Q I ⟨ρ, g, Mu, E, G1, hx⟩ => ?_⟩
  refine Subscript_ (de_run ha I E G1 (R.all_imp (R.all_bind hx) (fun dx g1 hx v u H1 s1 I1 r1 e1 G2 E1 k1 => ?_) fun _ _ _ _ h => h))
  refine de_run hb I1 E1 G2 (R.all_imp (Raising.all (R.all_bind hx) e1) (fun dy g2 hx v' u' H2 s2 I2 r2 e2 G3 E2 k2 => ?_) fun _ _ _ _ h => h)
  obtain ⟨d, hd, hx⟩ := R.all_opt hx
  exact ho a b pins s2 σ H2 Mu g2 v v' u u' dx dy d Q I2 E2.mu G3 r1 r2 ((k1.peek E.mu E1.mu G2).ext E1.mu G2 e2) (k2.peek E1.mu E2.mu G3) hd
    (fun w H3 s3 k3 => hx w H3 ((e1.trans e2).trans (Ext.of s3)) (G3.same s3) k3) (hs _ _)
/-! ### slices -/
/-- the part of a list between two places -/
def cutD (xs : List D) (lo hi : Option Int) : List D := (xs.drop (HT.sIx xs.length 0 lo)).take (HT.sIx xs.length xs.length hi - HT.sIx xs.length 0 lo)
theorem Reps.cut {K : PySem.W.Frag} {mg : Str → Option Value} {H : Hp} {Mu : List Addr} {xs : List V} {ds : List D} (r : Reps K mg z Mu H xs ds) (lo hi : Option Int) : Reps K mg z Mu H (cutV xs lo hi) (cutD ds lo hi) := by
  unfold cutV cutD
  rw [r.length]
  exact (r.drop _).take _
abbrev Eo := Env → M (Option Int)
def oNone : Eo := fun _ => M.pure none
def oSome (f : Ep) : Eo := fun ρ => do
  let d ← f ρ
  match d with
  | .int i => M.pure (some i)
  | _ => stuck
theorem all_oSome {d : D} {P : Option Int → G → Prop} {E : Str → Str → List D → G → Prop} {g : G} (h : ((match d with | .int i => M.pure (some i) | _ => stuck) g : R (Option Int)).all P E) : ∃ i, d = .int i ∧ P (some i) g := by
  cases d <;> first | exact h.elim | exact ⟨_, rfl, h⟩
def tO (X : Cx) (z : Zt) (W : WX) (f : Eo) : TO := fun σ H Q => ∃ ρ g Mu, EnvOk X.K X.mg z Mu H σ ρ ∧ GOk z H g ∧
  (f ρ g).all (fun o g' => ∀ H', Ext z H H' → GOk z H' g' → Q o H') (XW X z W Mu σ H)
abbrev DO (X : Cx) (z : Zt) (W : WX) (e : Option Expr) (f : Eo) : Prop := PO X e (tO X z W f)
theorem do_none : DO X z W none oNone := by
  refine ⟨fun pins s σ H Q I ⟨ρ, g, Mu, E, G1, hx⟩ => ?_⟩
  rw [evalPart_none]
  exact wpAny_pure ⟨none, H, I, .none, hx H Ext.refl G1⟩
theorem do_some (ha : DE X z W k a f) : DO X z W (some a) (oSome f) := by
  refine ⟨fun pins s σ H Q I ⟨ρ, g, Mu, E, G1, hx⟩ => ?_⟩
  have hp := (po_some ha).run pins s σ H (fun o H' => Q o H') I ⟨ρ, g, Mu, E, G1, R.all_imp (R.all_bind hx) (fun d g1 hx v H' e1 G2 k1 => ?_) fun _ _ _ _ h => h⟩
  · exact hp
  · obtain ⟨i, rfl, hx⟩ := all_oSome hx
    exact ⟨i, (k1.peek E.mu (E.mu.ext (g := g) e1 G2) G2).int, hx H' e1 G2⟩
def dCut : D → Option Int → Option Int → Option D
  | .tup l, lo, hi => some (.tup (cutD l lo hi))
  | .lst l, lo, hi => some (.lst (cutD l lo hi))
  | _, _, _ => none
def eSl (f : Ep) (lo hi : Eo) : Ep := fun ρ => do let x ← f ρ; let l ← lo ρ; let u ← hi ρ; ofOpt (dCut x l u)
theorem do_run {oe : Option Expr} {f : Eo} {Q : Value → Shared → Prop} {pins : List (Addr × Obj)} {s : Shared} {σ : L2.St} {H : Hp} {Mu : List Addr} {ρ : Env} {g : G} (h : DO X z W oe f) (I : Inv X pins σ H s) (E : EnvOk X.K X.mg z Mu H σ ρ) (G1 : GOk z H g)
    (hx : (f ρ g).all (fun o g' => ∀ u H' s', Inv X pins σ H' s' → IsPart u o → Ext z H H' → GOk z H' g' → EnvOk X.K X.mg z Mu H' σ ρ → Q u s') (XW X z W Mu σ H)) :
    wpAny (model X.prog X.w) X.A (evalPart oe X.env) Q X.xe s := by
  refine thn (h.run pins s σ H (fun o H' => ∃ g', f ρ g = .ok o g' ∧ Ext z H H' ∧ GOk z H' g') I ⟨ρ, g, Mu, E, G1, ?_⟩) ?_
  · cases q : f ρ g with
    | stuck => rw [q] at hx; exact hx
    | ok d g' => exact fun H' e1 g1 => ⟨g', rfl, e1, g1⟩
    | exc c n l g' => rw [q] at hx; exact hx
  · rintro u s' ⟨o, H', I', r, g', q, e1, g1⟩
    rw [q] at hx
    exact hx u H' s' I' r e1 g1 (E.ext G1 e1 g1)
theorem de_sl {lo hi : Option Expr} {fl fh : Eo} {p2 : Pos} (ha : DE X z W ka a fa) (hl : DO X z W lo fl) (hh : DO X z W hi fh) : DE X z W .new (.Subscript a (.Slice lo hi none p2) pos) (eSl fa fl fh) := by
  refine ⟨fun pins s σ H Q I ⟨ρ, g, Mu, E, G1, hx⟩ => ?_⟩
  refine Subscript_ (de_run ha I E G1 (R.all_imp (R.all_bind hx) (fun dx g1 hx v u H1 s1 I1 r1 e1 G2 E1 k1 => ?_) fun _ _ _ _ h => h))
  refine wpAny_Slice (do_run hl I1 E1 G2 (R.all_imp (Raising.all (R.all_bind hx) e1) (fun l g2 hx vl H2 s2 I2 pl e2 G3 E2 => ?_) fun _ _ _ _ h => h))
  refine do_run hh I2 E2 G3 (R.all_imp (Raising.all (R.all_bind hx) (e1.trans e2)) (fun r g3 hx vu H3 s3 I3 pu e3 G4 E3 => ?_) fun _ _ _ _ h => h)
  obtain ⟨d, hd, hx⟩ := R.all_opt hx
  have px : PR X.K X.mg z Mu H3 v dx := (k1.peek E.mu E1.mu G2).ext E1.mu G2 (e2.trans e3)
  have e13 := (e1.trans e2).trans e3
  rw [evalPart_none]
  refine wpAny_pure ?_
  have I4 : Inv X pins σ H3 { s3 with heap := s3.heap.push { cls := .type "slice", data := .fields #[vl, vu, .none] } } := I3.kept (t' := s3.toks) fun b ob q => Heap.get?_push_of_some _ q
  have main : ∀ {r' : V → Option Int → Option Int → Hp → VK → Prop}, SlR X r' → r' v l r H3 Q →
      wpAny (model X.prog X.w) X.A (subscriptTail a (.Slice lo hi none p2) u (.ref s3.heap.objs.size)) (EP X pins σ Q) X.xe { s3 with heap := s3.heap.push { cls := .type "slice", data := .fields #[vl, vu, .none] } } := fun hr hq => by
    obtain ⟨T, id, hT, ht, hg⟩ := hr pins { s3 with heap := s3.heap.push { cls := .type "slice", data := .fields #[vl, vu, .none] } } σ H3 v u vl vu l r s3.heap.objs.size Q I4 r1 (Heap.IsSliceOf.new ..) pl pu hq
    exact tail_any (ops := [.ref s3.heap.objs.size, u]) ht hT hg (by with_unfolding_all rfl)
  cases dx <;> simp only [dCut, reduceCtorEq, Option.some.injEq] at hd
  · subst hd
    obtain ⟨p, xs, rfl, np, hp, rp⟩ := px.tup
    refine main sl_tupA ⟨p, xs, rfl, SqT.of hp, fun ⟨w1, w2⟩ => ?_, fun w q hq => ?_⟩
    · refine hx _ H3 e13 G4 (RK.tup_same np hp ?_)
      unfold cutD
      rw [rp.length] at w1 w2
      rw [w1, w2, Nat.sub_zero, List.drop_zero, List.take_length]
      exact rp
    · exact hx _ _ (e13.trans (Ext.of (same_upd' hq))) (G4.same (same_upd' hq)) ((RK.tup E3.mu G4 hq (rp.cut l r)).back e13 G4)
  · subst hd
    obtain ⟨p, xs, rfl, hp, rp⟩ := px.lst
    refine main sl_list ⟨p, xs, rfl, SqL.of hp, fun q hq => ?_⟩
    exact hx _ _ (e13.trans (Ext.of (same_upd' hq))) (G4.same (same_upd' hq)) ((RK.lst E3.mu G4 hq (rp.cut l r)).back e13 G4)
end
/-! ### the same as plain data -/
mutual
def D.py : D → Option PyData
  | .non => some .none
  | .bl b => some (.bool b)
  | .int i => some (.int i)
  | .str s => some (.str s)
  | .tup l => match D.pys l with
    | some xs => some (.tuple xs)
    | none => none
  | .lst l => match D.pys l with
    | some xs => some (.list xs)
    | none => none
  | .dct l => match D.pyKv l with
    | some xs => some (.dict xs)
    | none => none
  | .set _ => none
  | .st => none
  | .ty _ => none
  | .scr _ => none
  | .fn _ => none
  | .exc _ _ _ => none
  | .lam _ => none
def D.pys : List D → Option (List PyData)
  | [] => some []
  | d :: l => match D.py d, D.pys l with
    | some x, some xs => some (x :: xs)
    | _, _ => none
def D.pyKv : List (D × D) → Option (List (PyData × PyData))
  | [] => some []
  | (a, b) :: l => match D.py a, D.py b, D.pyKv l with
    | some x, some y, some xs => some ((x, y) :: xs)
    | _, _, _ => none
end
theorem py_tup {l : List D} {p : PyData} (h : (D.tup l).py = some p) : ∃ xs, D.pys l = some xs ∧ p = .tuple xs := by
  rw [D.py] at h
  split at h
  · rename_i xs q
    exact ⟨xs, q, (Option.some.inj h).symm⟩
  · cases h
theorem py_lst {l : List D} {p : PyData} (h : (D.lst l).py = some p) : ∃ xs, D.pys l = some xs ∧ p = .list xs := by
  rw [D.py] at h
  split at h
  · rename_i xs q
    exact ⟨xs, q, (Option.some.inj h).symm⟩
  · cases h
theorem py_dct {l : List (D × D)} {p : PyData} (h : (D.dct l).py = some p) : ∃ xs, D.pyKv l = some xs ∧ p = .dict xs := by
  rw [D.py] at h
  split at h
  · rename_i xs q
    exact ⟨xs, q, (Option.some.inj h).symm⟩
  · cases h
theorem pys_cons {d : D} {l : List D} {ps : List PyData} (h : D.pys (d :: l) = some ps) : ∃ x xs, d.py = some x ∧ D.pys l = some xs ∧ ps = x :: xs := by
  rw [D.pys] at h
  split at h
  · rename_i x xs q1 q2
    exact ⟨x, xs, q1, q2, (Option.some.inj h).symm⟩
  · cases h
theorem pyKv_split : ∀ {l : List (D × D)} {ps : List (PyData × PyData)}, D.pyKv l = some ps → D.pys (l.map (·.1)) = some (ps.map (·.1)) ∧ D.pys (l.map (·.2)) = some (ps.map (·.2))
  | [], ps, h => by
    rw [D.pyKv] at h
    cases h
    exact ⟨by rw [List.map_nil, D.pys]; rfl, by rw [List.map_nil, D.pys]; rfl⟩
  | (a, b) :: l, ps, h => by
    rw [D.pyKv] at h
    split at h
    · rename_i x y xs q1 q2 q3
      cases h
      obtain ⟨h1, h2⟩ := pyKv_split q3
      constructor
      · rw [List.map_cons, D.pys, q1, h1]; rfl
      · rw [List.map_cons, D.pys, q2, h2]; rfl
    · cases h
/-- the dict of the modules stands where it stands -/
def SysD (h : Heap) : Prop := ∃ (o : Obj) (es : Array DictEntry) (ep : Nat), h.get? sysModules = some o ∧ o.data = .dict es ep
theorem SysD.seq {h : Heap} (S : SysD h) {a : Addr} {o : Obj} {vs : Array Value} {n : Nat} (ho : h.get? a = some o) (hd : o.data = .seq vs n) : a ≠ sysModules := fun e => by
  obtain ⟨o1, es, ep, h1, h2⟩ := S
  rw [e, h1] at ho
  cases ho
  rw [h2] at hd
  cases hd
theorem SysD.cons_ {h : Heap} (_ : SysD h) {a : Addr} {as : List Addr} (ha : a ≠ sysModules) (n : sysModules ∉ as) : sysModules ∉ a :: as := fun w => by
  rcases List.mem_cons.mp w with w | w
  · exact ha w.symm
  · exact n w
theorem SysD.app {h : Heap} (_ : SysD h) {as bs : List Addr} (n : sysModules ∉ as) (m : sysModules ∉ bs) : sysModules ∉ as ++ bs := fun w => (List.mem_append.mp w).elim n m
theorem ne_of_beq_false {a : Addr} (h : (a == sysModules) = false) : a ≠ sysModules := fun e => by
  rw [e, beq_self_eq_true] at h
  cases h
section
variable {X : Cx} {z : Zt} {pins : List (Addr × Obj)} {σ : L2.St} {H : Hp} {s : Shared} {Mu : List Addr}
mutual
theorem Rep.reads2 (I : Inv X pins σ H s) : ∀ {v : V} {d : D} {u : Value} {p : PyData}, Rep X.K X.mg z Mu H v d → RelV v u → d.py = some p → ∃ as, Reads s.heap u p as ∧ (SysD s.heap → sysModules ∉ as)
  | _, _, _, _, .non, r, h => by
    rw [D.py] at h; cases h; cases r
    exact ⟨_, Reads.none, fun _ => List.not_mem_nil⟩
  | _, _, _, _, .bl b, r, h => by
    rw [D.py] at h; cases h; cases r
    exact ⟨_, Reads.bool b, fun _ => List.not_mem_nil⟩
  | _, _, _, _, .int i, r, h => by
    rw [D.py] at h; cases h
    obtain ⟨t, rfl⟩ := r
    exact ⟨_, Reads.int i t, fun _ => List.not_mem_nil⟩
  | _, _, _, _, .str x, r, h => by
    rw [D.py] at h; cases h
    obtain ⟨t, rfl⟩ := r
    exact ⟨_, Reads.str x t, fun _ => List.not_mem_nil⟩
  | _, _, _, _, .tup _ hq rs, r, h => by
    obtain ⟨ps, hp, rfl⟩ := py_tup h
    cases r
    obtain ⟨its, rv, ⟨o, ho, hc, n, hd⟩, _⟩ := I.tuple (SqT.of hq)
    obtain ⟨as, hr, ns⟩ := Reps.reads2 I rs rv hp
    exact ⟨_, Reads.tuple ho hc hd hr, ns⟩
  | _, _, _, _, .lst _ hq rs, r, h => by
    obtain ⟨ps, hp, rfl⟩ := py_lst h
    cases r
    obtain ⟨its, rv, ⟨o, n, ho, hc, _, hd⟩, _⟩ := I.list (SqL.of hq)
    obtain ⟨as, hr, ns⟩ := Reps.reads2 I rs rv hp
    exact ⟨_, Reads.list ho hc hd hr, fun S => S.cons_ (S.seq ho hd) (ns S)⟩
  | _, _, _, _, .dct (a := a) (o := o) _ ho hy hex hd _ ⟨k1, k2⟩ r1 r2 _, r, h => by
    obtain ⟨ps, hp, rfl⟩ := py_dct h
    obtain ⟨p1, p2⟩ := pyKv_split hp
    cases r
    obtain ⟨as, h1, n1⟩ := Reps.reads2 I r1 k1 p1
    obtain ⟨bs, h2, n2⟩ := Reps.reads2 I r2 k2 p2
    have ho' : s.heap.get? a = some o := (I.hok a _ ho).1
    exact ⟨_, Reads.dict ho' hex.1 hd h1 h2, fun S => S.cons_ (ne_of_beq_false hy) (S.app (n1 S) (n2 S))⟩
  | _, _, _, _, .st, _, h => by rw [D.py] at h; cases h
  | _, _, _, _, .ty _, _, h => by rw [D.py] at h; cases h
  | _, _, _, _, .scrR _ _, _, h => by rw [D.py] at h; cases h
  | _, _, _, _, .scrK _ _ _ _ _ _, _, h => by rw [D.py] at h; cases h
  | _, _, _, _, .fn _, _, h => by rw [D.py] at h; cases h
  | _, _, _, _, .lam _ _ _ _ _, _, h => by rw [D.py] at h; cases h
  | _, _, _, _, .exc0 _ _ _, _, h => by rw [D.py] at h; cases h
  | _, _, _, _, .exc1 _ _ _ _ _ _, _, h => by rw [D.py] at h; cases h
theorem Reps.reads2 (I : Inv X pins σ H s) : ∀ {vs : List V} {ds : List D} {us : List Value} {ps : List PyData}, Reps X.K X.mg z Mu H vs ds → Vals vs us → D.pys ds = some ps → ∃ as, ReadsAll s.heap us ps as ∧ (SysD s.heap → sysModules ∉ as)
  | _, _, _, _, .nil, .nil, h => by
    rw [D.pys] at h; cases h
    exact ⟨_, .nil, fun _ => List.not_mem_nil⟩
  | _, _, _, _, .cons r rs, .cons q qs, h => by
    obtain ⟨x, xs, h1, h2, rfl⟩ := pys_cons h
    obtain ⟨as, a1, n1⟩ := Rep.reads2 I r q h1
    obtain ⟨bs, b1, n2⟩ := Reps.reads2 I rs qs h2
    exact ⟨_, .cons a1 b1, fun S => S.app (n1 S) (n2 S)⟩
end
theorem Rep.reads {v : V} {d : D} {u : Value} {p : PyData} (I : Inv X pins σ H s) (r : Rep X.K X.mg z Mu H v d) (q : RelV v u) (h : d.py = some p) : ∃ as, Reads s.heap u p as := let ⟨as, r, _⟩ := r.reads2 I q h; ⟨as, r⟩
theorem Reps.reads {vs : List V} {ds : List D} {us : List Value} {ps : List PyData} (I : Inv X pins σ H s) (r : Reps X.K X.mg z Mu H vs ds) (q : Vals vs us) (h : D.pys ds = some ps) : ∃ as, ReadsAll s.heap us ps as := let ⟨as, r, _⟩ := r.reads2 I q h; ⟨as, r⟩
theorem PR.reads2 {v : V} {d : D} {u : Value} {p : PyData} (I : Inv X pins σ H s) (r : PR X.K X.mg z Mu H v d) (q : RelV v u) (h : d.py = some p) : ∃ as, Reads s.heap u p as ∧ (SysD s.heap → sysModules ∉ as) := by
  rcases r with r | ⟨a, rfl, _, _, _, _, c⟩
  · exact r.reads2 I q h
  · cases c with
    | lst hq rs =>
      obtain ⟨ps, hp, rfl⟩ := py_lst h
      cases q
      obtain ⟨its, rv, ⟨o, n, ho, hc, _, hd⟩, _⟩ := I.list (SqL.of hq)
      obtain ⟨as, hr, ns⟩ := rs.reads2 I rv hp
      exact ⟨_, Reads.list ho hc hd hr, fun S => S.cons_ (S.seq ho hd) (ns S)⟩
    | dct ho hy hex hd _ hk r1 r2 _ =>
      obtain ⟨k1, k2⟩ := hk
      obtain ⟨ps, hp, rfl⟩ := py_dct h
      obtain ⟨p1, p2⟩ := pyKv_split hp
      cases q
      obtain ⟨as, h1, n1⟩ := r1.reads2 I k1 p1
      obtain ⟨bs, h2, n2⟩ := r2.reads2 I k2 p2
      exact ⟨_, Reads.dict (I.hok a _ ho).1 hex.1 hd h1 h2, fun S => S.cons_ (ne_of_beq_false hy) (S.app (n1 S) (n2 S))⟩
theorem PR.reads {v : V} {d : D} {u : Value} {p : PyData} (I : Inv X pins σ H s) (r : PR X.K X.mg z Mu H v d) (q : RelV v u) (h : d.py = some p) : ∃ as, Reads s.heap u p as := let ⟨as, r, _⟩ := r.reads2 I q h; ⟨as, r⟩
end
/-- == of two values that are plain data without dicts -/
def dEqP (a b : D) : Option Bool :=
  match a.py, b.py with
  | some x, some y => if SeqAt.shaped x = true ∧ SeqAt.shaped y = true then some (PyData.eqv x y) else none
  | _, _ => none
def dEqB : D → D → Option Bool
  | .str x, .str y => some (decide (x = y))
  | a, b => dEqP a b
def dEq (a b : D) : Option D := (dEqB a b).map D.bl
def dNe (a b : D) : Option D := (dEqB a b).map fun c => D.bl (!c)
theorem dEqP_some {a b : D} {c : Bool} (h : dEqP a b = some c) : ∃ x y, a.py = some x ∧ b.py = some y ∧ SeqAt.shaped x = true ∧ SeqAt.shaped y = true ∧ c = PyData.eqv x y := by
  unfold dEqP at h
  split at h
  · rename_i x y q1 q2
    obtain ⟨⟨h1, h2⟩, e⟩ := opt_if h
    exact ⟨x, y, q1, q2, h1, h2, e.symm⟩
  · cases h
theorem dEqB_some {a b : D} {c : Bool} (h : dEqB a b = some c) : (∃ x y, a = .str x ∧ b = .str y ∧ c = decide (x = y)) ∨ dEqP a b = some c := by
  cases a <;> cases b <;> first | exact .inr h | exact .inl ⟨_, _, rfl, rfl, (Option.some.inj h).symm⟩
section
variable {X : Cx} {z : Zt} {W : WX} {k ka kb : Kd} {e a b : Expr}
theorem op_dEq (hX : XG X) : DOp X z .new (compareOp .Eq) dEq := by
  intro pins s σ H Mu g x y v u dx dy d Q I m G1 rx ry px py hd q
  obtain ⟨c, hc, rfl⟩ := Option.map_eq_some_iff.mp hd
  rcases dEqB_some hc with ⟨a, b, rfl, rfl, rfl⟩ | hc
  · have e1 := px.str
    have e2 := py.str
    subst e1 e2
    refine L2.op_eq pins s σ H _ _ v u Q I rx ry ⟨rfl, ?_⟩
    have e : decide (V.str a = V.str b) = decide (a = b) := by
      by_cases h : a = b
      · rw [h]; simp
      · rw [decide_eq_false h, decide_eq_false fun w => h (V.str.inj w)]
    rw [e]
    exact q _ H Same.refl RK.bl
  obtain ⟨p1, p2, h1, h2, s1, s2, rfl⟩ := dEqP_some hc
  obtain ⟨as, r1⟩ := px.reads I rx h1
  obtain ⟨bs, r2⟩ := py.reads I ry h2
  exact eq_dataH r1 r2 s1 s2 hX.eq ⟨.bl _, H, I, rfl, q _ H Same.refl RK.bl⟩
theorem op_dNe (hX : XG X) : DOp X z .new (compareOp .NotEq) dNe := by
  intro pins s σ H Mu g x y v u dx dy d Q I m G1 rx ry px py hd q
  obtain ⟨c, hc, rfl⟩ := Option.map_eq_some_iff.mp hd
  rcases dEqB_some hc with ⟨a, b, rfl, rfl, rfl⟩ | hc
  · have e1 := px.str
    have e2 := py.str
    subst e1 e2
    refine L2.op_ne pins s σ H _ _ v u Q I rx ry ⟨rfl, ?_⟩
    have e : decide (V.str a = V.str b) = decide (a = b) := by
      by_cases h : a = b
      · rw [h]; simp
      · rw [decide_eq_false h, decide_eq_false fun w => h (V.str.inj w)]
    rw [e]
    exact q _ H Same.refl RK.bl
  obtain ⟨p1, p2, h1, h2, s1, s2, rfl⟩ := dEqP_some hc
  obtain ⟨as, r1⟩ := px.reads I rx h1
  obtain ⟨bs, r2⟩ := py.reads I ry h2
  exact ne_dataH r1 r2 s1 s2 hX.eq ⟨.bl _, H, I, rfl, q _ H Same.refl RK.bl⟩
/-- is, is not: None, True, False on the right -/
def dIs : D → D → Option D
  | .non, .non => some (.bl true)
  | _, .non => some (.bl false)
  | .bl a, .bl b => some (.bl (decide (a = b)))
  | _, _ => none
def dIsN (a b : D) : Option D := match dIs a b with
  | some (.bl c) => some (.bl (!c))
  | _ => none
end
end DL
set_option Elab.async false
set_option linter.all false
set_option maxRecDepth 100000
set_option maxHeartbeats 2000000
/-! The value layer, part 5: calls of built-ins. -/
namespace DL
open PySem PySem.Spec PyProof.Rows L2

/-- the call of the value f with values comes to h of what they read as -/
def DCall (X : Cx) (z : Zt) (k : Kd) (f : Value) (h : List D → Option D) : Prop :=
  ∀ (pins : List (Addr × Obj)) (s : Shared) (σ : L2.St) (H : Hp) (Mu : List Addr) (g : G) (xs : List V) (us : List Value) (ds : List D) (d : D) (Q : VK), Inv X pins σ H s → MuOk z Mu H → GOk z H g → Vals xs us → RKs X.K X.mg z Mu H xs ds →
    h ds = some d → (∀ v' H', Same H H' → RK X.K X.mg z k H Mu H' v' d → Q v' H') → wpAny (model X.prog X.w) X.A (call f us) (EP X pins σ Q) X.xe s
def eCall (h : List D → Option D) (fs : Es) : Ep := fun ρ => do let ds ← fs ρ; ofOpt (h ds)
section
variable {X : Cx} {z : Zt} {W : WX} {k ka : Kd} {e : Expr} {es : List Expr} {fs : Es} {x : Str} {p pos : Pos} {id T : String} {h : List D → Option D}
theorem de_callB (hc : DCall X z k (.builtin id) h) (hg : Gl X x) (hm : X.mg x = none) (hv : bootBuiltins x = some (.builtin id)) (ha : DA X z W (e :: es) fs) (hn : x ≠ "__name__" := by decide) (hdb : (x == ("__debug__" : Str)) = false := by decide)
    (he : starEach (e :: es) X.env = (false, eval e X.env) :: starEach es X.env := by rfl) (hpl : (backTo pos (starEach es X.env)).any (·.1) = false := by rfl) : DE X z W k (.Call (.Name x p) (e :: es) [] pos) (eCall h fs) := by
  refine ⟨fun pins s σ H Q I ⟨ρ, g, Mu, E, G1, hx⟩ => ?_⟩
  refine wpAny_Call_Name_kw (ld_blt I hg hm hv ?_ hn hdb)
  refine PyProof.Rows.callWith_builtin1 (da_run ha I E G1 (R.all_imp (R.all_bind hx) (fun ds g1 hx vs us H1 s1 I1 r1 e1 G2 E1 k1 => ?_) fun _ _ _ _ h => h)) he hpl
  obtain ⟨d, hd, hx⟩ := R.all_opt hx
  exact hc pins s1 σ H1 Mu g1 vs us ds d Q I1 E1.mu G2 r1 k1 hd fun w H2 s2 k2 => hx w H2 (e1.trans (Ext.of s2)) (G2.same s2) (k2.back e1 G2)
theorem de_callTy (hc : DCall X z k (.type T) h) (hg : Gl X x) (hm : X.mg x = none) (hv : bootBuiltins x = some (.type T)) (ha : DA X z W (e :: es) fs) (hn : x ≠ "__name__" := by decide) (hdb : (x == ("__debug__" : Str)) = false := by decide)
    (he : starEach (e :: es) X.env = (false, eval e X.env) :: starEach es X.env := by rfl) (hpl : (backTo pos (starEach es X.env)).any (·.1) = false := by rfl) : DE X z W k (.Call (.Name x p) (e :: es) [] pos) (eCall h fs) := by
  refine ⟨fun pins s σ H Q I ⟨ρ, g, Mu, E, G1, hx⟩ => ?_⟩
  refine wpAny_Call_Name_kw (ld_blt I hg hm hv ?_ hn hdb)
  refine PyProof.Rows.callWith_type1 (da_run ha I E G1 (R.all_imp (R.all_bind hx) (fun ds g1 hx vs us H1 s1 I1 r1 e1 G2 E1 k1 => ?_) fun _ _ _ _ h => h)) he hpl
  obtain ⟨d, hd, hx⟩ := R.all_opt hx
  exact hc pins s1 σ H1 Mu g1 vs us ds d Q I1 E1.mu G2 r1 k1 hd fun w H2 s2 k2 => hx w H2 (e1.trans (Ext.of s2)) (G2.same s2) (k2.back e1 G2)
end
theorem RKs.one {K : PySem.W.Frag} {mg : Str → Option Value} {z : Zt} {Mu : List Addr} {H : Hp} {xs : List V} {d : D} (r : RKs K mg z Mu H xs [d]) : ∃ v, xs = [v] ∧ PR K mg z Mu H v d := by
  cases r with
  | cons r t => cases t; exact ⟨_, rfl, r⟩
theorem RKs.two {K : PySem.W.Frag} {mg : Str → Option Value} {z : Zt} {Mu : List Addr} {H : Hp} {xs : List V} {d d' : D} (r : RKs K mg z Mu H xs [d, d']) : ∃ v w, xs = [v, w] ∧ PR K mg z Mu H v d ∧ PR K mg z Mu H w d' := by
  cases r with
  | cons r t =>
    cases t with
    | cons r' t => cases t; exact ⟨_, _, rfl, r, r'⟩

/-! ### the built-ins as functions -/
def fAbs : List D → Option D
  | [.int i] => some (.int (if i < 0 then -i else i))
  | _ => none
def fInt : List D → Option D
  | [.int i] => some (.int i)
  | [.bl b] => some (.int (if b then 1 else 0))
  | _ => none
def fLen : List D → Option D
  | [.tup l] => some (.int l.length)
  | [.lst l] => some (.int l.length)
  | [.dct l] => some (.int l.length)
  | [.set l] => if l.length ≤ 1000 then some (.int l.length) else none
  | [.scr n] => some (.int n)
  | [.str x] => if x.length ≤ sizeLine then some (.int x.length) else none
  | _ => none
def fMin2 : List D → Option D
  | [.int i, .int j] => some (.int (if j < i then j else i))
  | _ => none
def fMax2 : List D → Option D
  | [.int i, .int j] => some (.int (if j > i then j else i))
  | _ => none
/-- a list's numbers, if it has nothing else -/
def blsOf : List D → Option (List Bool)
  | [] => some []
  | .bl i :: l => (blsOf l).map (i :: ·)
  | _ => none
def fSum : List D → Option D
  | [.lst l] => (intsOf l).map fun ns => .int ns.sum
  | _ => none
def fAll : List D → Option D
  | [.lst l] => (blsOf l).map fun bs => .bl (bs.all id)
  | _ => none
def fAny : List D → Option D
  | [.lst l] => (blsOf l).map fun bs => .bl (bs.any id)
  | _ => none
def fTuple : List D → Option D
  | [.lst l] => some (.tup l)
  | [.tup l] => some (.tup l)
  | _ => none
def fList : List D → Option D
  | [.lst l] => some (.lst l)
  | [.tup l] => some (.lst l)
  | _ => none
theorem blsOf_eq : ∀ {l : List D} {ns : List Bool}, blsOf l = some ns → l = ns.map D.bl
  | [], ns, h => by cases h; rfl
  | .bl i :: l, ns, h => by
    obtain ⟨ms, h1, rfl⟩ := Option.map_eq_some_iff.mp h
    rw [blsOf_eq h1]; rfl
  | .non :: _, _, h => by cases h
  | .int _ :: _, _, h => by cases h
  | .str _ :: _, _, h => by cases h
  | .tup _ :: _, _, h => by cases h
  | .lst _ :: _, _, h => by cases h
  | .dct _ :: _, _, h => by cases h
  | .set _ :: _, _, h => by cases h
  | .st :: _, _, h => by cases h
  | .fn _ :: _, _, h => by cases h
  | .lam _ :: _, _, h => by cases h
  | .exc _ _ _ :: _, _, h => by cases h
theorem blsOf_map (ns : List Bool) : blsOf (ns.map D.bl) = some ns := by
  induction ns with
  | nil => rfl
  | cons n ns ih => rw [List.map_cons, blsOf, ih]; rfl
section
variable {K : PySem.W.Frag} {mg : Str → Option Value} {z : Zt} {Mu : List Addr} {H : Hp}
theorem Reps.unInts : ∀ {xs : List V} {ns : List Int}, Reps K mg z Mu H xs (ns.map D.int) → xs = ns.map V.int
  | _, [], .nil => rfl
  | _, n :: ns, .cons r t => by
    cases r
    rw [Reps.unInts t]; rfl
theorem Reps.unBls : ∀ {xs : List V} {ns : List Bool}, Reps K mg z Mu H xs (ns.map D.bl) → xs = ns.map V.bl
  | _, [], .nil => rfl
  | _, n :: ns, .cons r t => by
    cases r
    rw [Reps.unBls t]; rfl
end
section
variable {X : Cx} {z : Zt} {W : WX}
theorem call_abs' : DCall X z .new (.builtin "abs") fAbs := by
  intro pins s σ H Mu g xs us ds d Q I m G1 r ks hd q
  unfold fAbs at hd
  split at hd
  · cases hd
    obtain ⟨v, rfl, p⟩ := ks.one
    obtain rfl := p.int
    exact L2.call_abs pins s σ H _ us Q I r ⟨_, rfl, q _ H Same.refl RK.int⟩
  · cases hd
theorem call_int' : DCall X z .new (.type "int") fInt := by
  intro pins s σ H Mu g xs us ds d Q I m G1 r ks hd q
  unfold fInt at hd
  split at hd
  · cases hd
    obtain ⟨v, rfl, p⟩ := ks.one
    obtain rfl := p.int
    exact L2.call_int1 pins s σ H _ us Q I r (.inl ⟨_, rfl, q _ H Same.refl RK.int⟩)
  · cases hd
    obtain ⟨v, rfl, p⟩ := ks.one
    obtain rfl := p.bl
    exact L2.call_int1 pins s σ H _ us Q I r (.inr ⟨_, rfl, q _ H Same.refl RK.int⟩)
  · cases hd
theorem call_len' : DCall X z .new (.builtin "len") fLen := by
  intro pins s σ H Mu g xs us ds d Q I m G1 r ks hd q
  unfold fLen at hd
  split at hd
  · cases hd
    obtain ⟨v, rfl, p⟩ := ks.one
    obtain ⟨a, ys, rfl, _, hs, rs⟩ := p.tup
    refine L2.call_len pins s σ H _ us Q I r ⟨_, ys.length, rfl, .inr ⟨ys, SqT.of hs, rfl⟩, ?_⟩
    rw [rs.length]
    exact q _ H Same.refl RK.int
  · cases hd
    obtain ⟨v, rfl, p⟩ := ks.one
    obtain ⟨a, ys, rfl, hs, rs⟩ := p.lst
    refine L2.call_len pins s σ H _ us Q I r ⟨_, ys.length, rfl, .inl ⟨ys, SqL.of hs, rfl⟩, ?_⟩
    rw [rs.length]
    exact q _ H Same.refl RK.int
  · cases hd
    obtain ⟨v, rfl, p⟩ := ks.one
    obtain ⟨a, o, es, ep, kk, vv, rfl, ho, hsys, hex, hdt, hz, en, r1, r2, _⟩ := p.dct
    obtain ⟨u, rfl, ru⟩ := vals1 r
    cases ru
    have hl := en.size r1
    have raw : s.heap.DictRaw a es ep := ⟨o, (I.hok a _ ho).1, hex, hdt⟩
    refine call_len_slot (n := (es.size : Nat)) raw.typeIs F.slot_dict_len (fun Q' hq => call_len_raw hsys raw hq) (by omega) (by rw [sizeLine_eq] at hz; omega) ?_
    rw [hl, List.length_map]
    exact ⟨.int _, H, I.tok _, ⟨_, rfl⟩, q _ H Same.refl RK.int⟩
  · split at hd
    · rename_i hz
      cases hd
      obtain ⟨v, rfl, p⟩ := ks.one
      rcases p with p | ⟨_, _, _, _, _, _, c⟩
      · cases p with
        | @set a S ns _ ho hS hn =>
          obtain ⟨u, rfl, ru⟩ := vals1 r
          cases ru
          rw [List.length_map] at hz q
          obtain ⟨o, es, ep, t, h1, hex, hdat, _, _, _, hfit, hsz⟩ := I.hok a _ ho
          exact call_len_set h1 hex hdat hfit (by rw [hsz]; omega) ⟨.int ns.length, H, I.tok _, ⟨_, by rw [hsz]⟩, q _ H Same.refl RK.int⟩
      · cases c
    · cases hd
  · cases hd
    obtain ⟨v, rfl, p⟩ := ks.one
    rcases p with p | ⟨_, _, _, _, _, _, c⟩
    · cases p with
      | scrR _ h => exact L2.call_len pins s σ H _ us Q I r ⟨_, _, rfl, .inl ⟨_, .inl h, rfl⟩, q _ H Same.refl RK.int⟩
      | scrK h1 h2 h3 h4 h5 h6 => exact L2.call_len pins s σ H _ us Q I r ⟨_, _, rfl, .inl ⟨_, .inr ⟨_, _, _, h1, h2, h3, h4, h5, h6⟩, rfl⟩, q _ H Same.refl RK.int⟩
    · cases c
  · obtain ⟨hz, e⟩ := opt_if hd
    subst e
    obtain ⟨v, rfl, p⟩ := ks.one
    obtain rfl := p.str
    exact L2.call_len pins s σ H _ us Q I r ⟨_, _, rfl, ⟨hz, rfl⟩, q _ H Same.refl RK.int⟩
  · cases hd
theorem call_min2' (hX : XG X) : DCall X z .new (.builtin "min") fMin2 := by
  intro pins s σ H Mu g xs us ds d Q I m G1 r ks hd q
  unfold fMin2 at hd
  split at hd
  · cases hd
    obtain ⟨v, w, rfl, p1, p2⟩ := ks.two
    obtain rfl := p1.int
    obtain rfl := p2.int
    exact L2.call_min2 hX.calm pins s σ H _ us Q I r ⟨_, _, rfl, q _ H Same.refl RK.int⟩
  · cases hd
theorem call_max2' (hX : XG X) : DCall X z .new (.builtin "max") fMax2 := by
  intro pins s σ H Mu g xs us ds d Q I m G1 r ks hd q
  unfold fMax2 at hd
  split at hd
  · cases hd
    obtain ⟨v, w, rfl, p1, p2⟩ := ks.two
    obtain rfl := p1.int
    obtain rfl := p2.int
    exact L2.call_max2 hX.calm pins s σ H _ us Q I r ⟨_, _, rfl, q _ H Same.refl RK.int⟩
  · cases hd
theorem call_sum' (hX : XG X) : DCall X z .new (.builtin "sum") fSum := by
  intro pins s σ H Mu g xs us ds d Q I m G1 r ks hd q
  unfold fSum at hd
  split at hd
  · obtain ⟨ns, h1, rfl⟩ := Option.map_eq_some_iff.mp hd
    have e := intsOf_eq h1
    subst e
    obtain ⟨v, rfl, p⟩ := ks.one
    obtain ⟨a, ys, rfl, hs, rs⟩ := p.lst
    have e := rs.unInts
    subst e
    exact L2.cr_sum hX.calm pins s σ H _ us Q I r ⟨a, ns, rfl, SqL.of hs, q _ H Same.refl RK.int⟩
  · cases hd
theorem call_all' (hX : XG X) : DCall X z .new (.builtin "all") fAll := by
  intro pins s σ H Mu g xs us ds d Q I m G1 r ks hd q
  unfold fAll at hd
  split at hd
  · obtain ⟨ns, h1, rfl⟩ := Option.map_eq_some_iff.mp hd
    have e := blsOf_eq h1
    subst e
    obtain ⟨v, rfl, p⟩ := ks.one
    obtain ⟨a, ys, rfl, hs, rs⟩ := p.lst
    have e := rs.unBls
    subst e
    exact L2.cr_all hX.calm pins s σ H _ us Q I r ⟨a, ns, rfl, SqL.of hs, q _ H Same.refl RK.bl⟩
  · cases hd
theorem call_any' (hX : XG X) : DCall X z .new (.builtin "any") fAny := by
  intro pins s σ H Mu g xs us ds d Q I m G1 r ks hd q
  unfold fAny at hd
  split at hd
  · obtain ⟨ns, h1, rfl⟩ := Option.map_eq_some_iff.mp hd
    have e := blsOf_eq h1
    subst e
    obtain ⟨v, rfl, p⟩ := ks.one
    obtain ⟨a, ys, rfl, hs, rs⟩ := p.lst
    have e := rs.unBls
    subst e
    exact L2.cr_any hX.calm pins s σ H _ us Q I r ⟨a, ns, rfl, SqL.of hs, q _ H Same.refl RK.bl⟩
  · cases hd
theorem call_tuple' : DCall X z .new (.type "tuple") fTuple := by
  intro pins s σ H Mu g xs us ds d Q I m G1 r ks hd q
  unfold fTuple at hd
  split at hd
  · cases hd
    obtain ⟨v, rfl, p⟩ := ks.one
    obtain ⟨a, ys, rfl, hs, rs⟩ := p.lst
    exact L2.call_tuple_of pins s σ H _ us Q I r ⟨a, ys, rfl, .inl ⟨SqL.of hs, fun t ht => q _ _ (same_upd' ht) (RK.tup m G1 ht rs)⟩⟩
  · cases hd
    obtain ⟨v, rfl, p⟩ := ks.one
    obtain ⟨a, ys, rfl, ns, hs, rs⟩ := p.tup
    exact L2.call_tuple_of pins s σ H _ us Q I r ⟨a, ys, rfl, .inr ⟨SqT.of hs, q _ H Same.refl (RK.tup_same ns hs rs)⟩⟩
  · cases hd
theorem call_list' : DCall X z .new (.type "list") fList := by
  intro pins s σ H Mu g xs us ds d Q I m G1 r ks hd q
  unfold fList at hd
  split at hd
  · cases hd
    obtain ⟨v, rfl, p⟩ := ks.one
    obtain ⟨a, ys, rfl, hs, rs⟩ := p.lst
    exact L2.call_list_of pins s σ H _ us Q I r ⟨a, ys, rfl, .inl (SqL.of hs), fun t ht => q _ _ (same_upd' ht) (RK.lst m G1 ht rs)⟩
  · cases hd
    obtain ⟨v, rfl, p⟩ := ks.one
    obtain ⟨a, ys, rfl, ns, hs, rs⟩ := p.tup
    exact L2.call_list_of pins s σ H _ us Q I r ⟨a, ys, rfl, .inr (SqT.of hs), fun t ht => q _ _ (same_upd' ht) (RK.lst m G1 ht rs)⟩
  · cases hd
end
/-! ### sorted -/
def alikeB (ps : List PyData) : Bool := ps.all fun p => ps.all fun q => PySem.W.alike p q
def sortB (ps : List PyData) : Bool := (ps.all fun p => match p with | .tuple (_ :: _) => true | _ => false) || ps.all fun p => match p with | .none => false | .tuple _ => false | _ => true
def sortOk (ps : List PyData) : Bool := alikeB ps && sortB ps && ps.all fun p => decide (p.depth ≤ 64)
def pyD (d : D) : PyData := d.py.getD .none
def sortD (l : List D) : Option (List D) := match D.pys l with
  | some ps => if sortOk ps = true ∧ l.length ≤ sizeLine then some (l.mergeSort (PySem.W.dataLe false pyD)) else none
  | none => none
def fSorted : List D → Option D
  | [.lst l] => (sortD l).map D.lst
  | [.tup l] => (sortD l).map D.lst
  | _ => none
theorem pys_map : ∀ {l : List D} {ps : List PyData}, D.pys l = some ps → l.map pyD = ps
  | [], ps, h => by rw [D.pys] at h; cases h; rfl
  | d :: l, ps, h => by
    obtain ⟨x, xs, h1, h2, rfl⟩ := pys_cons h
    rw [List.map_cons, pys_map h2]
    unfold pyD
    rw [h1]; rfl
theorem sortOk_all {ps : List PyData} (h : sortOk ps = true) : PySem.W.AllAlike ps ∧ PySem.W.Sortable ps ∧ ∀ p ∈ ps, p.depth ≤ 64 := by
  unfold sortOk at h
  simp only [Bool.and_eq_true] at h
  obtain ⟨⟨h1, h2⟩, h3⟩ := h
  refine ⟨fun d hd d' hd' => List.all_eq_true.mp (List.all_eq_true.mp h1 d hd) d' hd', ?_, fun p hp => of_decide_eq_true (List.all_eq_true.mp h3 p hp)⟩
  unfold sortB at h2
  rcases Bool.or_eq_true_iff.mp h2 with h | h
  · refine .inl fun d hd => ?_
    have q := List.all_eq_true.mp h d hd
    cases d with
    | tuple xs =>
      cases xs with
      | nil => cases q
      | cons x r => exact ⟨x, r, rfl⟩
    | _ => cases q
  · refine .inr fun d hd => ?_
    have q := List.all_eq_true.mp h d hd
    refine ⟨fun e => ?_, fun xs e => ?_⟩
    · subst e; cases q
    · subst e; cases q
section
variable {X : Cx} {z : Zt} {pins : List (Addr × Obj)} {σ : L2.St} {H : Hp} {s : Shared} {Mu : List Addr}
/-- values beside what they read as -/
theorem each_of (I : Inv X pins σ H s) : ∀ {xs : List V} {us : List Value} {ds : List D} {ps : List PyData}, Vals xs us → Reps X.K X.mg z Mu H xs ds → D.pys ds = some ps →
    PySem.W.EachIs (fun u d => (∃ v, RelV v u ∧ Rep X.K X.mg z Mu H v d) ∧ ∃ as, Reads s.heap u (pyD d) as) us ds
  | _, _, _, _, .nil, .nil, _ => .nil
  | _, _, _, _, .cons r t, .cons q qs, h => by
    obtain ⟨x, xs, h1, h2, rfl⟩ := pys_cons h
    refine .cons ⟨⟨_, r, q⟩, ?_⟩ (each_of I t qs h2)
    obtain ⟨as, a1⟩ := q.reads I r h1
    unfold pyD
    rw [h1]
    exact ⟨as, a1⟩
theorem of_each : ∀ {us : List Value} {ds : List D}, PySem.W.EachIs (fun u d => ∃ v, RelV v u ∧ Rep X.K X.mg z Mu H v d) us ds → ∃ xs, Vals xs us ∧ Reps X.K X.mg z Mu H xs ds
  | _, _, .nil => ⟨[], .nil, .nil⟩
  | _, _, .cons ⟨v, r, q⟩ t => by
    obtain ⟨xs, h1, h2⟩ := of_each t
    exact ⟨v :: xs, .cons r h1, .cons q h2⟩
/-- sorted(x), for any x that gives its items out in a row -/
theorem sorted_run {r : Value} {us : List Value} {xs : List V} {ds out : List D} {Q : VK} (hX : XG X) (I : Inv X pins σ H s) (m : MuOk z Mu H) {g : G} (G1 : GOk z H g)
    (hc : ∀ (E' : Value → Shared → Prop) (Q' : List Value → Shared → Prop), (∀ h' tk, (∀ b o, s.heap.get? b = some o → h'.get? b = some o) → Q' us { s with heap := h', toks := tk }) → wpAny (model X.prog X.w) X.A.in1 (collect r) Q' E' s)
    (rv : Vals xs us) (rd : Reps X.K X.mg z Mu H xs ds) (ho : sortD ds = some out) (q : ∀ v' H', Same H H' → RK X.K X.mg z .new H Mu H' v' (.lst out) → Q v' H') :
    wpAny (model X.prog X.w) X.A (call (.builtin "sorted") [r]) (EP X pins σ Q) X.xe s := by
  unfold sortD at ho
  split at ho
  case h_2 => cases ho
  rename_i ps hp
  obtain ⟨⟨h1, hz⟩, e⟩ := opt_if ho
  subst e
  obtain ⟨hal, hk, hdep⟩ := sortOk_all h1
  have em := pys_map hp
  have hl : us.length ≤ sizeLine := by rw [← rv.length, rd.length]; exact hz
  refine Calls.call_function_entry kind_sorted plain_sorted entry_sorted (args_sorted1 _) ?_
  unfold Builtin.«sorted»
  refine wpAny_bind (m := checkCount "sorted" 1 1 _) (wpAny_pure ?_)
  refine wpAny_bind (hc _ _ fun h' tk hkp => ?_)
  refine wpAny_bind (wpAny_newList ?_ hl)
  have I1 : Inv X pins σ H { s with heap := h', toks := tk } := I.kept (t' := tk) hkp
  have I2 : Inv X pins σ H { s with heap := h'.push { cls := .type "list", data := .seq us.toArray }, toks := tk } := I1.kept (t' := tk) fun b o e => Heap.get?_push_of_some _ e
  have hob : (h'.push { cls := .type "list", data := .seq us.toArray }).get? h'.objs.size = some (seqObj "list" us.toArray 0) := Heap.get?_push_size _ rfl
  have ea := each_of I1 rv rd hp
  have er : PySem.W.EachIs (fun v b => ∃ as, Reads (h'.push { cls := .type "list", data := .seq us.toArray }) v (pyD b) as ∧ h'.objs.size ∉ as) us ds := by
    refine ea.mono fun u d ⟨_, as, r⟩ => ⟨as, PyProof.Rows.Reads.keeps (fun b o e => Heap.get?_push_of_some _ e) r, ?_⟩
    intro hm
    obtain ⟨o, ho'⟩ := PyProof.On.reads_mem_get r _ hm
    exact absurd (Heap.lt_size ho') (Nat.lt_irrefl _)
  have hu : ∀ b, b ∈ ds → X.A.in1.units + 1 + (pyD b).depth < cLine := fun b hb => by
    have hm : pyD b ∈ ps := by rw [← em]; exact List.mem_map.mpr ⟨b, hb, rfl⟩
    have h2 := hdep _ hm
    have h3 := hX.room.un
    show X.A.units + 1 + 1 + (pyD b).depth < cLine
    omega
  refine wpAny_bind (wpAny_holding (PySem.W.list_sort_data (s := { s with heap := h'.push { cls := .type "list", data := .seq us.toArray }, toks := tk }) (bs := ds) (enc := pyD) hob (ea.mono fun _ _ x => x.1) er (by rw [em]; exact hal) (by rw [em]; exact hk) hz hu fun o hlen eo => ?_))
  obtain ⟨ys, y1, y2⟩ := of_each eo
  obtain ⟨ep, he'⟩ := PyProof.Rows.sortedHeap_at (vs := us) (out := o.toArray) hob
  have hn : H h'.objs.size = none := I1.hok.fresh (Nat.le_refl _)
  have kp : ∀ b ob, h'.get? b = some ob → (sortedHeap (h'.push { cls := .type "list", data := .seq us.toArray }) h'.objs.size us o.toArray).get? b = some ob := fun b ob e => by
    have hlt := Heap.lt_size e
    rw [PyProof.Rows.sortedHeap_old (Nat.ne_of_lt hlt) (by rw [Heap.size_push]; exact Nat.lt_succ_of_lt hlt)]
    exact Heap.get?_push_of_some _ e
  have J : Inv X pins σ (upd H h'.objs.size (.lst ys)) { s with heap := sortedHeap (h'.push { cls := .type "list", data := .seq us.toArray }) h'.objs.size us o.toArray, toks := tk } :=
    I1.laid (t' := tk) kp (Nat.le_refl _) ⟨by rw [y1.length, hlen]; exact hz, o, ep, y1, he'⟩
  exact wpAny_pure ⟨_, rfl, .ref h'.objs.size, _, J, rfl, q _ _ (same_upd' hn) (RK.lst m G1 hn y2)⟩
theorem call_sorted' (hX : XG X) : DCall X z .new (.builtin "sorted") fSorted := by
  intro pins s σ H Mu g xs us ds d Q I m G1 r ks hd q
  unfold fSorted at hd
  split at hd
  · obtain ⟨out, ho, rfl⟩ := Option.map_eq_some_iff.mp hd
    obtain ⟨v, rfl, p⟩ := ks.one
    obtain ⟨a, ys, rfl, hs, rs⟩ := p.lst
    obtain ⟨u, rfl, ru⟩ := vals1 r
    cases ru
    obtain ⟨its, rv, ⟨ob, n, hob, hc, hd', hdt⟩, hz⟩ := I.list (SqL.of hs)
    refine sorted_run hX I m G1 (us := its) (fun E' Q' hq => ?_) rv rs ho q
    refine wpAny_collect_seq a (.inl rfl) hob hc hdt (fun h' hk => ?_) (by rw [List.size_toArray, ← rv.length]; exact hz)
    exact hq h' s.toks hk
  · obtain ⟨out, ho, rfl⟩ := Option.map_eq_some_iff.mp hd
    obtain ⟨v, rfl, p⟩ := ks.one
    obtain ⟨a, ys, rfl, ns, hs, rs⟩ := p.tup
    obtain ⟨u, rfl, ru⟩ := vals1 r
    cases ru
    obtain ⟨its, rv, ⟨ob, hob, hc, n, hdt⟩, hz⟩ := I.tuple (SqT.of hs)
    refine sorted_run hX I m G1 (us := its) (fun E' Q' hq => ?_) rv rs ho q
    refine wpAny_collect_seq a (.inr rfl) hob hc hdt (fun h' hk => ?_) (by rw [List.size_toArray, ← rv.length]; exact hz)
    exact hq h' s.toks hk
  · cases hd
end
end DL
set_option Elab.async false
set_option linter.all false
set_option maxRecDepth 100000
set_option maxHeartbeats 2000000
/-! The value layer, part 6: statements. -/
namespace DL
open PySem PySem.Spec PyProof.Rows L2

section
variable {K : PySem.W.Frag} {mg : Str → Option Value} {z : Zt} {Mu Mu' : List Addr} {H H' : Hp} {v : V} {d : D} {σ : L2.St} {ρ : Env}
theorem SlOk.mono {t : Bool} (r : SlOk K mg z Mu H v t d) (ea : ∀ a, v = .ref a → t = true → (∀ u, H a = some u → NT u → H' a = some u) ∧ a ∈ Mu') (e : ExtM Mu H H') (m : ∀ b, Oc H b → b ∉ Mu → b ∉ Mu') : SlOk K mg z Mu' H' v t d := by
  cases t with
  | false => exact Rep.mono e m r
  | true =>
    obtain ⟨a, ev, ha, n1, n2, n3, c⟩ := r
    obtain ⟨h1, h2⟩ := ea a ev rfl
    exact ⟨a, ev, h2, n1, n2, n3, c.mono h1 e m⟩
/-- a local is stored: a shared value -/
theorem EnvOk.set {i : Nat} (E : EnvOk K mg z Mu H σ ρ) (r : Rep K mg z Mu H v d) : EnvOk K mg z Mu H (σ.set i (some v)) (ρ.set i (some (false, d))) := by
  refine ⟨by rw [List.length_set, List.length_set]; exact E.len, E.mu, fun j t d' q => ?_, fun j k d1 d2 a q1 q2 s1 s2 => ?_⟩
  · by_cases hj : i = j
    · subst hj
      have hi : i < ρ.length := by
        have h := (List.getElem?_eq_some_iff.mp q).1
        rwa [List.length_set] at h
      rw [List.getElem?_set_self hi] at q
      cases q
      exact ⟨v, by rw [List.getElem?_set_self (by rw [← E.len]; exact hi)], r⟩
    · rw [List.getElem?_set_ne hj] at q
      rw [List.getElem?_set_ne hj]
      exact E.val j t d' q
  · have hn : ∀ {j : Nat} {d1 : D}, (ρ.set i (some (false, d)))[j]? = some (some (true, d1)) → i ≠ j := fun {j d1} q e => by
      subst e
      have hi : i < ρ.length := by
        have h := (List.getElem?_eq_some_iff.mp q).1
        rwa [List.length_set] at h
      rw [List.getElem?_set_self hi] at q
      cases q
    have h1 := hn q1
    have h2 := hn q2
    rw [List.getElem?_set_ne h1] at q1 s1
    rw [List.getElem?_set_ne h2] at q2 s2
    exact E.sep j k d1 d2 a q1 q2 s1 s2
/-- a local is stored: a new list, dict of its own at a -/
theorem EnvOk.setOwn {i : Nat} {a : Addr} (E : EnvOk K mg z Mu H σ ρ) (hn : ∀ (j : Nat) (d' : D), ρ[j]? = some (some (true, d')) → σ[j]? = some (some (.ref a)) → False) (E' : EnvOk K mg z Mu' H' σ ρ) (ha : a ∈ Mu') (np : a ≠ z.p) (nl : a ≠ z.l) (nc : a ≠ z.c) (c : Cont K mg z Mu' H' a d) :
    EnvOk K mg z Mu' H' (σ.set i (some (.ref a))) (ρ.set i (some (true, d))) := by
  refine ⟨by rw [List.length_set, List.length_set]; exact E.len, E'.mu, fun j t d' q => ?_, fun j k d1 d2 b q1 q2 s1 s2 => ?_⟩
  · by_cases hj : i = j
    · subst hj
      have hi : i < ρ.length := by
        have h := (List.getElem?_eq_some_iff.mp q).1
        rwa [List.length_set] at h
      rw [List.getElem?_set_self hi] at q
      cases q
      exact ⟨.ref a, by rw [List.getElem?_set_self (by rw [← E.len]; exact hi)], a, rfl, ha, np, nl, nc, c⟩
    · rw [List.getElem?_set_ne hj] at q
      rw [List.getElem?_set_ne hj]
      exact E'.val j t d' q
  · have main : ∀ {j k : Nat} {d1 d2 : D}, (ρ.set i (some (true, d)))[j]? = some (some (true, d1)) → (ρ.set i (some (true, d)))[k]? = some (some (true, d2)) → (σ.set i (some (.ref a)))[j]? = some (some (.ref b)) → (σ.set i (some (.ref a)))[k]? = some (some (.ref b)) → i = j → j = k := fun {j k d1 d2} q1 q2 s1 s2 hj => by
      subst hj
      have hi : i < σ.length := by
        have h := (List.getElem?_eq_some_iff.mp s1).1
        rwa [List.length_set] at h
      rw [List.getElem?_set_self hi] at s1
      cases s1
      by_cases hk : i = k
      · exact hk
      · rw [List.getElem?_set_ne hk] at q2 s2
        exact (hn k d2 q2 s2).elim
    by_cases hj : i = j
    · exact main q1 q2 s1 s2 hj
    · by_cases hk : i = k
      · exact (main q2 q1 s2 s1 hk).symm
      · rw [List.getElem?_set_ne hj] at q1 s1
        rw [List.getElem?_set_ne hk] at q2 s2
        exact E.sep j k d1 d2 b q1 q2 s1 s2
/-- the locals, one of which is forgotten -/
theorem EnvOk.unset {i : Nat} (E : EnvOk K mg z Mu H σ ρ) : EnvOk K mg z Mu H (σ.set i none) (ρ.set i none) := by
  refine ⟨by rw [List.length_set, List.length_set]; exact E.len, E.mu, fun j t d' q => ?_, fun j k d1 d2 a q1 q2 s1 s2 => ?_⟩
  · have hj : i ≠ j := fun e => by
      subst e
      have hi : i < ρ.length := by
        have h := (List.getElem?_eq_some_iff.mp q).1
        rwa [List.length_set] at h
      rw [List.getElem?_set_self hi] at q
      cases q
    rw [List.getElem?_set_ne hj] at q
    rw [List.getElem?_set_ne hj]
    exact E.val j t d' q
  · have hn : ∀ {j : Nat} {d1 : D}, (ρ.set i none)[j]? = some (some (true, d1)) → i ≠ j := fun {j d1} q e => by
      subst e
      have hi : i < ρ.length := by
        have h := (List.getElem?_eq_some_iff.mp q).1
        rwa [List.length_set] at h
      rw [List.getElem?_set_self hi] at q
      cases q
    have h1 := hn q1
    have h2 := hn q2
    rw [List.getElem?_set_ne h1] at q1 s1
    rw [List.getElem?_set_ne h2] at q2 s2
    exact E.sep j k d1 d2 a q1 q2 s1 s2
end

/-! ### the state between two statements -/
/-- entered with the heap H, where the addresses M were barred; a look back at the heap kH, where kM were -/
structure Snap where
  H : Hp
  M : List Addr
  kH : Hp
  kM : List Addr
structure SOk (K : PySem.W.Frag) (mg : Str → Option Value) (z : Zt) (P : Snap) (Mu : List Addr) (H : Hp) (σ : L2.St) (ρ : Env) (g : G) : Prop where
  env : EnvOk K mg z Mu H σ ρ
  g : GOk z H g
  ext : Ext z P.H H
  sub : ∀ b ∈ P.M, b ∈ Mu
  m0 : MuOk z P.M P.H
  own : ∀ (i : Nat) (d : D) (a : Addr), ρ[i]? = some (some (true, d)) → σ[i]? = some (some (.ref a)) → ¬ Oc P.H a
  kp : ExtM P.kM P.kH H
  km : ∀ b, Oc P.kH b → b ∉ P.kM → b ∉ Mu
  kz : z.p ∈ P.kM ∧ z.l ∈ P.kM
  kt : ∀ b, Oc P.kH b → b ∉ P.kM → Oc H b
section
variable {K : PySem.W.Frag} {mg : Str → Option Value} {z : Zt} {P : Snap} {Mu : List Addr} {H H' : Hp} {v : V} {d : D} {σ : L2.St} {ρ : Env} {g g' : G}
theorem SOk.step (S : SOk K mg z P Mu H σ ρ g) (e : Ext z H H') (G' : GOk z H' g') : SOk K mg z P Mu H' σ ρ g' :=
  ⟨S.env.ext S.g e G', G', S.ext.trans e, S.sub, S.m0, S.own, fun b u q t n => (e.m S.kz.1 S.kz.2) b u (S.kp b u q t n) t n, S.km, S.kz, fun b h n => e.there (S.kt b h n) (fun w => n (w ▸ S.kz.1)) (fun w => n (w ▸ S.kz.2))⟩
theorem SOk.set {i : Nat} (S : SOk K mg z P Mu H σ ρ g) (r : Rep K mg z Mu H v d) : SOk K mg z P Mu H (σ.set i (some v)) (ρ.set i (some (false, d))) g := by
  refine ⟨S.env.set r, S.g, S.ext, S.sub, S.m0, fun j d' a q s => ?_, S.kp, S.km, S.kz, S.kt⟩
  by_cases hj : i = j
  · subst hj
    have hi : i < ρ.length := by
      have h := (List.getElem?_eq_some_iff.mp q).1
      rwa [List.length_set] at h
    rw [List.getElem?_set_self hi] at q
    cases q
  · rw [List.getElem?_set_ne hj] at q s
    exact S.own j d' a q s
/-- what a step from H gave new at a, stored -/
theorem SOk.setNew {i : Nat} {a : Addr} (S : SOk K mg z P Mu H σ ρ g) (e : Ext z H H') (G' : GOk z H' g') (n : ¬ Oc H a) (c : Cont K mg z (a :: Mu) H' a d) :
    SOk K mg z P (a :: Mu) H' (σ.set i (some (.ref a))) (ρ.set i (some (true, d))) g' := by
  have na : a ∉ Mu := fun w => n (S.env.mu.at_ a w)
  have np : a ≠ z.p := fun w => na (w ▸ S.env.mu.p)
  have nl : a ≠ z.l := fun w => na (w ▸ S.env.mu.l)
  have nc : a ≠ z.c := fun w => na (w ▸ S.env.mu.c)
  have S1 := S.step e G'
  have n0 : ¬ Oc P.H a := by
    exact S.ext.none n np nl
  have E1 : EnvOk K mg z (a :: Mu) H' σ ρ := by
    refine ⟨S.env.len, ⟨List.mem_cons_of_mem _ S1.env.mu.p, List.mem_cons_of_mem _ S1.env.mu.l, List.mem_cons_of_mem _ S1.env.mu.c, fun b hb => ?_, fun b hb q => ?_⟩, fun j t d' q => ?_, S.env.sep⟩
    · rcases List.mem_cons.mp hb with hb | hb
      · rw [hb]; exact c.there
      · exact S1.env.mu.at_ b hb
    · rcases List.mem_cons.mp hb with hb | hb
      · rw [hb]; exact c.ncode q
      · exact S1.env.mu.nc b hb q
    · obtain ⟨w, q1, q2⟩ := S.env.val j t d' q
      refine ⟨w, q1, q2.mono (fun b ev et => ⟨fun u hu nu => ?_, ?_⟩) (e.m S.env.mu.p S.env.mu.l) fun b hu h w => ?_⟩
      · subst et
        obtain ⟨b', ev', hb', m1, m2, m3, _⟩ := q2
        have := ev.symm.trans ev'
        cases this
        exact e.to b u hu nu m1 m2
      · subst et
        obtain ⟨b', ev', hb', m1, m2, m3, _⟩ := q2
        have := ev.symm.trans ev'
        cases this
        exact List.mem_cons_of_mem _ hb'
      · rcases List.mem_cons.mp w with w | w
        · exact hu.ne n w
        · exact h w
  refine ⟨EnvOk.setOwn S.env (fun j d' q s => ?_) E1 List.mem_cons_self np nl nc c, G', S1.ext, fun b hb => List.mem_cons_of_mem _ (S.sub b hb), S.m0, fun j d' b q s => ?_, S1.kp, fun b q h w => ?_, S.kz, S1.kt⟩
  · obtain ⟨w, q1, b', ev', hb', _⟩ := S.env.val j true d' q
    rw [s] at q1
    cases q1
    cases ev'
    exact na hb'
  · by_cases hj : i = j
    · subst hj
      have hi : i < σ.length := by
        have h := (List.getElem?_eq_some_iff.mp s).1
        rwa [List.length_set] at h
      rw [List.getElem?_set_self hi] at s
      cases s
      exact n0
    · rw [List.getElem?_set_ne hj] at q s
      exact S.own j d' b q s
  · rcases List.mem_cons.mp w with w | w
    · exact (S.kt b q h).ne n w
    · exact S.km b q h w
theorem GOk.write {a : Addr} {o : HO} (G1 : GOk z H g) (np : a ≠ z.p) (nl : a ≠ z.l) (nc : a ≠ z.c) (ht : ∀ ps, H a ≠ some (.tbl ps)) (hc : ∀ q, H a ≠ some (LamX.CodeO a q)) : GOk z (upd H a o) g := by
  refine ⟨by rw [upd_ne (Ne.symm np)]; exact G1.p, by rw [upd_ne (Ne.symm nl)]; exact G1.l, by rw [upd_ne (Ne.symm nc)]; exact G1.c, G1.ne, fun p hp => ?_⟩
  obtain ⟨ps, h1, h2, h3⟩ := G1.tb p hp
  have n1 : p.1 ≠ a := fun w => ht ps (w ▸ h1)
  refine ⟨ps, by rw [upd_ne n1]; exact h1, h2, fun pos cv hv => ?_⟩
  obtain ⟨c, e1, e2⟩ := h3 pos cv hv
  have n2 : c ≠ a := fun w => hc p.2 (w ▸ e2)
  exact ⟨c, e1, by rw [upd_ne n2]; exact e2⟩
theorem Cont.nt {a : Addr} (c : Cont K mg z Mu H a d) : ∃ u, H a = some u ∧ NT u := by
  cases c with
  | lst h r => exact ⟨_, h, trivial⟩
  | dct h h1 h2 h3 h4 h5 r1 r2 ky => exact ⟨_, h, trivial⟩
/-- a list, dict of one's own is changed -/
theorem SOk.write {i : Nat} {a : Addr} {d0 : D} {o : HO} (hcd : ∀ q, H a ≠ some (LamX.CodeO a q)) (no : NT o) (S : SOk K mg z P Mu H σ ρ g) (hi : ρ[i]? = some (some (true, d0))) (hs : σ[i]? = some (some (.ref a))) (c : Cont K mg z Mu (upd H a o) a d) :
    SOk K mg z P Mu (upd H a o) σ (ρ.set i (some (true, d))) g := by
  obtain ⟨w, q1, b', ev', ha, np, nl, nc, c0⟩ := S.env.val i true d0 hi
  rw [hs] at q1
  cases q1
  cases ev'
  have n0 := S.own i d0 a hi hs
  have up : ∀ b u, b ≠ a → H b = some u → upd H a o b = some u := fun b u hb q => by rw [upd_ne hb]; exact q
  have il : i < ρ.length := (List.getElem?_eq_some_iff.mp hi).1
  refine ⟨⟨by rw [List.length_set]; exact S.env.len, ⟨S.env.mu.p, S.env.mu.l, S.env.mu.c, fun b hb => ?_, fun b hb q => ?_⟩, fun j t d' q => ?_, fun j k d1 d2 b q1 q2 s1 s2 => ?_⟩, S.g.write np nl nc (fun ps w => by obtain ⟨u, e1, e2⟩ := c0.nt; rw [w] at e1; cases e1; exact e2) hcd, ⟨fun b u q t h1 h2 => ?_⟩, S.sub, S.m0, fun j d' b q s => ?_, fun b u q t h => ?_, S.km, S.kz, fun b h n => ?_⟩
  · by_cases hba : b = a
    · rw [hba]; exact ⟨o, upd_same, no⟩
    · obtain ⟨u, e1, e2⟩ := S.env.mu.at_ b hb
      exact ⟨u, by rw [upd_ne hba]; exact e1, e2⟩
  · by_cases hba : b = a
    · rw [hba]; exact c.ncode q
    · rw [upd_ne hba]; exact S.env.mu.nc b hb q
  · by_cases hj : i = j
    · subst hj
      rw [List.getElem?_set_self il] at q
      cases q
      exact ⟨.ref a, hs, a, rfl, ha, np, nl, nc, c⟩
    · rw [List.getElem?_set_ne hj] at q
      obtain ⟨w, q1, q2⟩ := S.env.val j t d' q
      refine ⟨w, q1, q2.mono (fun b ev et => ?_) (fun b u hu _ hn => up b u (fun e => hn (e ▸ ha)) hu) fun b _ h => h⟩
      subst et
      obtain ⟨b', ev', hb', m1, m2, m3, _⟩ := id q2
      have := ev.symm.trans ev'
      cases this
      refine ⟨fun u hu _ => up b u (fun e => ?_) hu, hb'⟩
      subst e
      subst ev
      exact hj (S.env.sep i j d0 d' b hi q hs q1)
  · have back : ∀ {j : Nat} {d1 : D}, (ρ.set i (some (true, d)))[j]? = some (some (true, d1)) → ∃ d1', ρ[j]? = some (some (true, d1')) := fun {j d1} q => by
      by_cases hj : i = j
      · subst hj; exact ⟨d0, hi⟩
      · rw [List.getElem?_set_ne hj] at q; exact ⟨_, q⟩
    obtain ⟨e1, h1⟩ := back q1
    obtain ⟨e2, h2⟩ := back q2
    exact S.env.sep j k e1 e2 b h1 h2 s1 s2
  · exact up b u (Oc.ne ⟨u, q, t⟩ n0) (S.ext.to b u q t h1 h2)
  · by_cases hj : i = j
    · subst hj
      exact S.own i d0 b hi s
    · rw [List.getElem?_set_ne hj] at q
      exact S.own j d' b q s
  · exact up b u (fun e => S.km b ⟨u, q, t⟩ h (e ▸ ha)) (S.kp b u q t h)
  · by_cases e : b = a
    · rw [e]; exact ⟨o, upd_same, no⟩
    · obtain ⟨u, e1, e2⟩ := S.kt b h n
      exact ⟨u, by rw [upd_ne e]; exact e1, e2⟩
/-- a list, dict of one's own is shared from now on -/
def frz (ρ : Env) (i : Nat) : Env := match ρ[i]? with
  | some (some (true, d)) => ρ.set i (some (false, d))
  | _ => ρ
theorem SOk.frz {i : Nat} (S : SOk K mg z P Mu H σ ρ g) : ∃ Mu', SOk K mg z P Mu' H σ (frz ρ i) g := by
  unfold DL.frz
  split
  · rename_i d0 hi
    obtain ⟨w, hs, a, rfl, ha, np, nl, nc, c0⟩ := S.env.val i true d0 hi
    have n0 := S.own i d0 a hi hs
    have il : i < ρ.length := (List.getElem?_eq_some_iff.mp hi).1
    refine ⟨Mu.filter (fun b => decide (b ≠ a)), ?_⟩
    have keep : ∀ b, b ∈ Mu → b ≠ a → b ∈ Mu.filter (fun b => decide (b ≠ a)) := fun b hb n => List.mem_filter.mpr ⟨hb, decide_eq_true n⟩
    have less : ∀ b, b ∈ Mu.filter (fun b => decide (b ≠ a)) → b ∈ Mu := fun b hb => (List.mem_filter.mp hb).1
    have na : a ∉ Mu.filter (fun b => decide (b ≠ a)) := fun h => of_decide_eq_true (List.mem_filter.mp h).2 rfl
    refine ⟨⟨by rw [List.length_set]; exact S.env.len, ⟨keep _ S.env.mu.p (Ne.symm np), keep _ S.env.mu.l (Ne.symm nl), keep _ S.env.mu.c (Ne.symm nc), fun b hb => S.env.mu.at_ b (less b hb), fun b hb => S.env.mu.nc b (less b hb)⟩, fun j t d' q => ?_, fun j k d1 d2 b q1 q2 s1 s2 => ?_⟩, S.g, S.ext, fun b hb => keep b (S.sub b hb) ((S.m0.at_ b hb).ne n0), S.m0, fun j d' b q s => ?_, S.kp, fun b q h w => S.km b q h (less b w), S.kz, S.kt⟩
    · by_cases hj : i = j
      · subst hj
        rw [List.getElem?_set_self il] at q
        cases q
        exact ⟨.ref a, hs, Cont.rep (c0.mono (fun _ e _ => e) (fun _ _ e _ _ => e) fun b _ h w => h (less b w)) na⟩
      · rw [List.getElem?_set_ne hj] at q
        obtain ⟨w, q1, q2⟩ := S.env.val j t d' q
        refine ⟨w, q1, q2.mono (fun b ev et => ⟨fun _ e _ => e, ?_⟩) (fun _ _ e _ _ => e) fun b _ h w => h (less b w)⟩
        subst et
        obtain ⟨b', ev', hb', m1, m2, m3, _⟩ := id q2
        have := ev.symm.trans ev'
        cases this
        refine keep b hb' fun e => ?_
        subst e
        subst ev
        exact hj (S.env.sep i j d0 d' b hi q hs q1)
    · have back : ∀ {j : Nat} {d1 : D}, (ρ.set i (some (false, d0)))[j]? = some (some (true, d1)) → ρ[j]? = some (some (true, d1)) := fun {j d1} q => by
        by_cases hj : i = j
        · subst hj
          rw [List.getElem?_set_self il] at q
          cases q
        · rw [List.getElem?_set_ne hj] at q; exact q
      exact S.env.sep j k d1 d2 b (back q1) (back q2) s1 s2
    · by_cases hj : i = j
      · subst hj
        rw [List.getElem?_set_self il] at q
        cases q
      · rw [List.getElem?_set_ne hj] at q
        exact S.own j d' b q s
  · exact ⟨Mu, S⟩
/-- a look back at this very state -/
def Snap.at_ (P : Snap) (H : Hp) (Mu : List Addr) : Snap := { P with kH := H, kM := Mu }
theorem SOk.snap (S : SOk K mg z P Mu H σ ρ g) : SOk K mg z (P.at_ H Mu) Mu H σ ρ g := ⟨S.env, S.g, S.ext, S.sub, S.m0, S.own, fun _ _ e _ _ => e, fun _ _ h => h, ⟨S.env.mu.p, S.env.mu.l⟩, fun _ h _ => h⟩
theorem SOk.unsnap {H1 : Hp} {M1 : List Addr} {σ1 : L2.St} {ρ1 : Env} {g1 : G} (S : SOk K mg z P M1 H1 σ1 ρ1 g1) (T : SOk K mg z (P.at_ H1 M1) Mu H σ ρ g) : SOk K mg z P Mu H σ ρ g :=
  ⟨T.env, T.g, T.ext, T.sub, T.m0, T.own, fun b u q t n => T.kp b u (S.kp b u q t n) t (S.km b ⟨u, q, t⟩ n), fun b h n => T.km b (S.kt b h n) (S.km b h n), S.kz, fun b h n => T.kt b (S.kt b h n) (S.km b h n)⟩
end
end DL
set_option Elab.async false
set_option linter.all false
set_option maxRecDepth 100000
set_option maxHeartbeats 2000000
/-! The value layer, part 7: statements' judgement, blocks, if, return, assignments, loops. -/
namespace DL
open PySem PySem.Spec PyProof.Rows L2

inductive Fl where
  | nx (ρ : Env) | ret (d : D) | bk (ρ : Env) | ct (ρ : Env)
abbrev Ss := Env → M Fl
/-- a def's entry: the heap, the barred addresses, the kind of its results -/
structure En where
  z : Zt
  W : WX
  k : Kd
  p : Snap
/-- what is wanted of a state -/
def SW (X : Cx) (n : En) (P : L2.St → Hp → Prop) (ρ : Env) (g : G) : Prop := ∀ σ H Mu, SOk X.K X.mg n.z n.p Mu H σ ρ g → P σ H
/-- what is wanted of an exception -/
def EW (X : Cx) (n : En) : Str → Str → List D → G → Prop := fun c f l g => ∀ σ cls dd H', Ext n.z n.p.H H' → GOk n.z H' g → ExcIs X.K X.mg n.z n.p.M H' c f l cls dd → n.W cls dd σ H'
def FW (X : Cx) (n : En) (D : Ends) : Fl → G → Prop
  | .nx ρ, g => SW X n D.nx ρ g
  | .bk ρ, g => SW X n D.bk ρ g
  | .ct ρ, g => SW X n D.ct ρ g
  | .ret d, g => ∀ v H', Ext n.z n.p.H H' → GOk n.z H' g → RK X.K X.mg n.z n.k n.p.H n.p.M H' v d → D.rt v H'
def tS (X : Cx) (n : En) (t : Ss) : TS := fun D σ H => ∃ ρ g Mu, SOk X.K X.mg n.z n.p Mu H σ ρ g ∧ (t ρ g).all (FW X n D) (EW X n)
abbrev DS (X : Cx) (n : En) (st : Stmt) (t : Ss) : Prop := PS X st (tS X n t)
abbrev DSs (X : Cx) (n : En) (st : List Stmt) (t : Ss) : Prop := PSs X st (tS X n t)

section
variable {X : Cx} {n : En} {st : Stmt} {sts : List Stmt} {k ka : Kd} {e a b : Expr} {f : Ep} {c : Et} {t u : Ss} {pos : Pos} {pins : List (Addr × Obj)} {s : Shared} {σ : L2.St} {H : Hp} {Mu : List Addr} {ρ : Env} {g : G}

/-- an exception within an expression is one of the def -/
theorem EW.x {α : Type} {r : R α} {P : α → G → Prop} (S : SOk X.K X.mg n.z n.p Mu H σ ρ g) (h : r.all P (EW X n)) : r.all P (XW X n.z n.W Mu σ H) :=
  R.all_imp h (fun _ _ h => h) fun c f l g' h cls dd H' e1 g1 x => by
    refine h σ cls dd H' (S.ext.trans e1) g1 ?_
    obtain ⟨C, h1, h2, h3⟩ := x
    refine ⟨C, h1, h2, ?_⟩
    rcases h3 with h3 | ⟨dx, v, d, h4, h5, h5', h6, h7⟩
    · exact .inl h3
    · exact .inr ⟨dx, v, d, h4, h5, fun w => h5' (S.sub dx w), h6, h7.mono (fun _ _ e _ _ => e) fun b _ q w => q (S.sub b w)⟩
theorem ds_pass : DS X n (.Pass pos) (fun ρ => M.pure (.nx ρ)) :=
  ⟨fun pins s σ H D I ⟨ρ, g, Mu, S, hx⟩ => wpAny_Pass ⟨σ, H, I, hx σ H Mu S⟩⟩
theorem ds_nil : DSs X n [] (fun ρ => M.pure (.nx ρ)) :=
  ⟨fun pins s σ H D I ⟨ρ, g, Mu, S, hx⟩ => wpAny_execs_nil ⟨σ, H, I, hx σ H Mu S⟩⟩
/-- one statement, then others -/
def sSeq (t u : Ss) : Ss := fun ρ => do
  let fl ← t ρ
  match fl with
  | .nx ρ' => u ρ'
  | fl => M.pure fl
theorem ds_cons (h1 : DS X n st t) (h2 : DSs X n sts u) : DSs X n (st :: sts) (sSeq t u) := by
  refine ⟨fun pins s σ H D I ⟨ρ, g, Mu, S, hx⟩ => ?_⟩
  refine wpAny_execs_cons (thn (h1.run pins s σ H { D with nx := fun σ' H' => ∃ ρ' g' Mu', SOk X.K X.mg n.z n.p Mu' H' σ' ρ' g' ∧ (u ρ' g').all (FW X n D) (EW X n) } I ⟨ρ, g, Mu, S, ?_⟩) fun fl s1 q => ?_)
  · refine R.all_imp (R.all_bind hx) (fun fl g' h => ?_) fun _ _ _ _ h => h
    cases fl with
    | nx ρ' => exact fun σ' H' Mu' S' => ⟨ρ', g', Mu', S', h⟩
    | ret d => exact h
    | bk ρ' => exact h
    | ct ρ' => exact h
  · cases fl with
    | next =>
      obtain ⟨σ', H', I', q⟩ := q
      exact h2.run pins s1 σ' H' D I' q
    | ret v => exact q
    | brk => exact q
    | cont => exact q
theorem ds_one (h1 : DS X n st t) : DSs X n [st] t := by
  refine ⟨fun pins s σ H D I h => ?_⟩
  refine wpAny_execs_cons (thn (h1.run pins s σ H D I h) fun fl s1 q => ?_)
  cases fl with
  | next => exact wpAny_execs_nil q
  | ret v => exact q
  | brk => exact q
  | cont => exact q
def sIf (c : Et) (t u : Ss) : Ss := fun ρ => do if ← c ρ then t ρ else u ρ
theorem ds_if {A B : List Stmt} (hc : DT X n.z n.W a c) (ha : DSs X n A t) (hb : DSs X n B u) : DS X n (.If a A B pos) (sIf c t u) := by
  refine ⟨fun pins s σ H D I ⟨ρ, g, Mu, S, hx⟩ => ?_⟩
  refine wpAny_If (dt_run hc I S.env S.g (R.all_imp (EW.x S (R.all_bind hx)) (fun d g1 hx H1 s1 I1 e1 G2 E1 => ?_) fun _ _ _ _ h => h))
  cases d with
  | true => exact ha.run pins s1 σ H1 D I1 ⟨ρ, g1, Mu, S.step e1 G2, hx⟩
  | false => exact hb.run pins s1 σ H1 D I1 ⟨ρ, g1, Mu, S.step e1 G2, hx⟩
def sFrz (is : List Nat) (t : Ss) : Ss := fun ρ => t (is.foldl frz ρ)
theorem frz_all {K : PySem.W.Frag} {mg : Str → Option Value} {z : Zt} {P : Snap} : ∀ {is : List Nat} {ρ : Env} {Mu : List Addr}, SOk K mg z P Mu H σ ρ g → ∃ Mu', SOk K mg z P Mu' H σ (is.foldl frz ρ) g
  | [], _, _, S => ⟨_, S⟩
  | i :: is, _, _, S => by
    obtain ⟨M1, S1⟩ := S.frz (i := i)
    exact frz_all (is := is) S1
theorem ds_frz (is : List Nat) (h : DS X n st t) : DS X n st (sFrz is t) := by
  refine ⟨fun pins s σ H D I ⟨ρ, g, Mu, S, hx⟩ => ?_⟩
  obtain ⟨M1, S1⟩ := frz_all (is := is) S
  exact h.run pins s σ H D I ⟨_, g, M1, S1, hx⟩
/-- an expression whose value is dropped -/
def sExpr (f : Ep) : Ss := fun ρ => do let _ ← f ρ; M.pure (.nx ρ)
theorem ds_expr (h : DE X n.z n.W k e f) (hs : swapsWith e none pos.line X.env = pure false := by rfl) : DS X n (.Expr e pos) (sExpr f) := by
  refine ⟨fun pins s σ H D I ⟨ρ, g, Mu, S, hx⟩ => ?_⟩
  refine wpAny_Expr_any (de_run h I S.env S.g (R.all_imp (EW.x S (R.all_bind hx)) (fun d g1 hx v u H1 s1 I1 r1 e1 G2 E1 k1 => ?_) fun _ _ _ _ h => h)) I.quiet hs
  exact ⟨σ, H1, I1, hx σ H1 Mu (S.step e1 G2)⟩
def sRet (f : Ep) : Ss := fun ρ => do let d ← f ρ; M.pure (.ret d)
/-- a result of the statement's kind is one of the def's -/
theorem RK.out {K : PySem.W.Frag} {mg : Str → Option Value} {z : Zt} {P : Snap} {H1 : Hp} {v : V} {d : D} (S : SOk K mg z P Mu H σ ρ g) (hk : k = .new ∨ k = .sh) (r : RK K mg z k H Mu H1 v d) : RK K mg z k P.H P.M H1 v d := by
  have less : ∀ b, Oc H1 b → b ∉ Mu → b ∉ P.M := fun b _ h w => h (S.sub b w)
  rcases hk with rfl | rfl
  · have r1 := RK.back r S.ext S.g
    have r' : if d.box = true then ∃ a, v = .ref a ∧ ¬ Oc P.H a ∧ Cont K mg z (a :: Mu) H1 a d else Rep K mg z Mu H1 v d := r1
    show if d.box = true then ∃ a, v = .ref a ∧ ¬ Oc P.H a ∧ Cont K mg z (a :: P.M) H1 a d else Rep K mg z P.M H1 v d
    by_cases hb : d.box = true
    · rw [if_pos hb] at r' ⊢
      obtain ⟨a, ev, n0, c⟩ := r'
      refine ⟨a, ev, n0, c.mono (fun _ e _ => e) (fun _ _ e _ _ => e) fun b q h w => ?_⟩
      rcases List.mem_cons.mp w with w | w
      · exact h (w ▸ List.mem_cons_self)
      · exact h (List.mem_cons_of_mem _ (S.sub b w))
    · rw [if_neg hb] at r' ⊢
      exact r'.mono (fun _ _ e _ _ => e) less
  · exact Rep.mono (fun _ _ e _ _ => e) less r
theorem ds_ret (h : DE X n.z n.W n.k e f) (hk : n.k = .new ∨ n.k = .sh) : DS X n (.Return (some e) pos) (sRet f) := by
  refine ⟨fun pins s σ H D I ⟨ρ, g, Mu, S, hx⟩ => ?_⟩
  refine wpAny_Return_some (de_run h I S.env S.g (R.all_imp (EW.x S (R.all_bind hx)) (fun d g1 hx v u H1 s1 I1 r1 e1 G2 E1 k1 => ?_) fun _ _ _ _ h => h))
  exact ⟨v, σ, H1, I1, r1, hx v H1 (S.ext.trans e1) G2 (RK.out S hk k1)⟩
/-- return x, x a list, dict of one's own (or no list, dict at all) -/
def ownAt (ρ : Env) (i : Nat) : Option D := match ρ[i]? with
  | some (some (true, d)) => some d
  | some (some (false, d)) => if d.box = true then none else some d
  | _ => none
def eOwn (i : Nat) : Ep := fun ρ => ofOpt (ownAt ρ i)
theorem ds_retOwn {i : Nat} {x : Str} {p : Pos} (h : PE X (.Name x p) (tVar i)) (hk : n.k = .new) : DS X n (.Return (some (.Name x p)) pos) (sRet (eOwn i)) := by
  refine ⟨fun pins s σ H D I ⟨ρ, g, Mu, S, hx⟩ => ?_⟩
  obtain ⟨d, hd, hx⟩ := R.all_opt (R.all_bind hx)
  have key : ∃ v, σ[i]? = some (some v) ∧ RK X.K X.mg n.z .new n.p.H n.p.M H v d := by
    unfold ownAt at hd
    split at hd
    · rename_i d' q
      cases hd
      obtain ⟨v, hs, a, rfl, ha, np, nl, nc, c⟩ := S.env.val i true d q
      refine ⟨.ref a, hs, ?_⟩
      have n0 := S.own i d a q hs
      show if d.box = true then ∃ b, V.ref a = .ref b ∧ ¬ Oc n.p.H b ∧ Cont X.K X.mg n.z (b :: n.p.M) H b d else Rep X.K X.mg n.z n.p.M H (.ref a) d
      have hb : d.box = true := by cases c <;> rfl
      rw [if_pos hb]
      refine ⟨a, rfl, n0, c.mono (fun _ e _ => e) (fun _ _ e _ _ => e) fun b _ h w => ?_⟩
      rcases List.mem_cons.mp w with w | w
      · exact h (w ▸ ha)
      · exact h (S.sub b w)
    · rename_i d' q
      split at hd
      · cases hd
      · rename_i hb
        cases hd
        obtain ⟨v, hs, r⟩ := S.env.val i false d q
        refine ⟨v, hs, RK.new_of (Rep.mono (fun _ _ e _ _ => e) (fun b _ h w => h (S.sub b w)) r) ?_⟩
        exact Bool.eq_false_iff.mpr hb
    · cases hd
  obtain ⟨v, hs, r⟩ := key
  refine wpAny_Return_some (thn (h.run pins s σ H (fun v' H' => v' = v ∧ H' = H) I ⟨v, hs, rfl, rfl⟩) fun u s1 ⟨v', H1, I1, r1, e1, e2⟩ => ?_)
  subst e1 e2
  exact ⟨v', σ, H1, I1, r1, hx v' H1 S.ext S.g (by rw [hk]; exact r)⟩
theorem ds_retN : DS X n (.Return none pos) (fun _ => M.pure (.ret .non)) := by
  refine ⟨fun pins s σ H D I ⟨ρ, g, Mu, S, hx⟩ => wpAny_Return_none ⟨.non, σ, H, I, rfl, hx .non H S.ext S.g ?_⟩⟩
  cases q : n.k with
  | sh => exact .non
  | new => exact RK.new_of .non rfl
  | peek => exact .inl .non
/-! ### x = e -/
def sSet (own : Bool) (i : Nat) (f : Ep) : Ss := fun ρ => do let d ← f ρ; M.pure (.nx (ρ.set i (some (own && d.box, d))))
theorem SOk.store {K : PySem.W.Frag} {mg : Str → Option Value} {z : Zt} {P : Snap} {H1 : Hp} {v : V} {d : D} {i : Nat} {g1 : G} (S : SOk K mg z P Mu H σ ρ g) (e1 : Ext z H H1) (G1 : GOk z H1 g1) (own : Bool) (hk : k = if own = true then .new else .sh) (r : RK K mg z k H Mu H1 v d) :
    ∃ Mu', SOk K mg z P Mu' H1 (σ.set i (some v)) (ρ.set i (some (own && d.box, d))) g1 := by
  cases own with
  | false =>
    have r' : Rep K mg z Mu H1 v d := by rw [hk] at r; exact r
    exact ⟨Mu, (S.step e1 G1).set r'⟩
  | true =>
    have r' : if d.box = true then ∃ a, v = .ref a ∧ ¬ Oc H a ∧ Cont K mg z (a :: Mu) H1 a d else Rep K mg z Mu H1 v d := by rw [hk] at r; exact r
    by_cases hb : d.box = true
    · rw [if_pos hb] at r'
      obtain ⟨a, rfl, n0, c⟩ := r'
      rw [hb]
      exact ⟨a :: Mu, S.setNew e1 G1 n0 c⟩
    · rw [if_neg hb] at r'
      have hb' : d.box = false := Bool.eq_false_iff.mpr hb
      rw [hb']
      exact ⟨Mu, (S.step e1 G1).set r'⟩
theorem ds_set {i : Nat} {x : Str} {p : Pos} (own : Bool) (hN : X.N.Nodup) (hi : X.N[i]? = some x) (hx : Loc X.env.scope x) (h : DE X n.z n.W (if own = true then .new else .sh) e f) (hs : swapsWith e (some (.Name x p)) pos.line X.env = pure false := by rfl)
    (hf : X.fn x = true ∨ X.env.scope.names.lookup x = some .local := by first | exact .inl rfl | exact .inr rfl | assumption) : DS X n (.Assign [.Name x p] e pos) (sSet own i f) := by
  refine ⟨fun pins s σ H D I ⟨ρ, g, Mu, S, hq⟩ => ?_⟩
  refine wpAny_Assign_Name (de_run h I S.env S.g (R.all_imp (EW.x S (R.all_bind hq)) (fun d g1 hq v u H1 s1 I1 r1 e1 G2 E1 k1 => ?_) fun _ _ _ _ h => h)) hs
  obtain ⟨Mu', S'⟩ := S.store (i := i) e1 G2 own rfl k1
  exact store_ok I1 hN hi hx r1 (fun s2 I2 => ⟨_, H1, I2, hq _ H1 Mu' S'⟩) hf
/-- x, y = e1, e2 -/
def sPar (o1 o2 : Bool) (i j : Nat) (f1 f2 : Ep) : Ss := fun ρ => do
  let d ← f1 ρ
  let d' ← f2 ρ
  M.pure (.nx ((ρ.set j (some (o2 && d'.box, d'))).set i (some (o1 && d.box, d))))
end
end DL
set_option Elab.async false
set_option linter.all false
set_option maxRecDepth 100000
set_option maxHeartbeats 2000000
/-! The value layer, part 8: targets, walked things, for, while, two assignments at once. -/
namespace DL
open PySem PySem.Spec PyProof.Rows L2

section
variable {K : PySem.W.Frag} {mg : Str → Option Value} {z : Zt} {P : Snap} {Mu : List Addr} {H H' : Hp} {v : V} {d : D} {σ : L2.St} {ρ : Env} {g g' : G}
/-- a new object is held, by no local yet -/
theorem SOk.bar {a : Addr} (S : SOk K mg z P Mu H σ ρ g) (e : Ext z H H') (G' : GOk z H' g') (n : ¬ Oc H a) (there : Oc H' a) (nco : ∀ q, H' a ≠ some (LamX.CodeO a q)) :
    SOk K mg z P (a :: Mu) H' σ ρ g' ∧ ¬ Oc P.H a ∧ a ∉ Mu := by
  have na : a ∉ Mu := fun w => n (S.env.mu.at_ a w)
  have np : a ≠ z.p := fun w => na (w ▸ S.env.mu.p)
  have nl : a ≠ z.l := fun w => na (w ▸ S.env.mu.l)
  have S1 := S.step e G'
  have n0 : ¬ Oc P.H a := S.ext.none n np nl
  refine ⟨⟨⟨S.env.len, ⟨List.mem_cons_of_mem _ S1.env.mu.p, List.mem_cons_of_mem _ S1.env.mu.l, List.mem_cons_of_mem _ S1.env.mu.c, fun b hb => ?_, fun b hb q => ?_⟩, fun j t d' q => ?_, S.env.sep⟩, G', S1.ext, fun b hb => List.mem_cons_of_mem _ (S.sub b hb), S.m0, S.own, S1.kp, fun b q h w => ?_, S.kz, S1.kt⟩, n0, na⟩
  · rcases List.mem_cons.mp hb with hb | hb
    · rw [hb]; exact there
    · exact S1.env.mu.at_ b hb
  · rcases List.mem_cons.mp hb with hb | hb
    · rw [hb]; exact nco q
    · exact S1.env.mu.nc b hb q
  · obtain ⟨w, q1, q2⟩ := S.env.val j t d' q
    refine ⟨w, q1, q2.mono (fun b ev et => ?_) (e.m S.env.mu.p S.env.mu.l) fun b hu h w => ?_⟩
    · subst et
      obtain ⟨b', ev', hb', m1, m2, m3, _⟩ := id q2
      have := ev.symm.trans ev'
      cases this
      exact ⟨fun u hu nu => e.to b u hu nu m1 m2, List.mem_cons_of_mem _ hb'⟩
    · rcases List.mem_cons.mp w with w | w
      · exact hu.ne n w
      · exact h w
  · rcases List.mem_cons.mp w with w | w
    · exact (S.kt b q h).ne n w
    · exact S.km b q h w
/-- .. then a local's -/
theorem SOk.setHeld {i : Nat} {a : Addr} (S : SOk K mg z P Mu H σ ρ g) (ha : a ∈ Mu) (np : a ≠ z.p) (nl : a ≠ z.l) (nc : a ≠ z.c) (n0 : ¬ Oc P.H a) (hn : ∀ (j : Nat) (d' : D), ρ[j]? = some (some (true, d')) → σ[j]? = some (some (.ref a)) → False) (c : Cont K mg z Mu H a d) :
    SOk K mg z P Mu H (σ.set i (some (.ref a))) (ρ.set i (some (true, d))) g := by
  refine ⟨EnvOk.setOwn S.env hn S.env ha np nl nc c, S.g, S.ext, S.sub, S.m0, fun j d' b q s => ?_, S.kp, S.km, S.kz, S.kt⟩
  by_cases hj : i = j
  · subst hj
    have hi : i < σ.length := by
      have h := (List.getElem?_eq_some_iff.mp s).1
      rwa [List.length_set] at h
    rw [List.getElem?_set_self hi] at s
    cases s
    exact n0
  · rw [List.getElem?_set_ne hj] at q s
    exact S.own j d' b q s
end

/-! ### targets -/
/-- what a target's store leaves of the locals -/
structure Tch (is : List Nat) (σ σ' : L2.St) (ρ ρ' : Env) : Prop where
  len : σ'.length = σ.length
  out : ∀ i, i ∉ is → σ'[i]? = σ[i]? ∧ ρ'[i]? = ρ[i]?
  in_ : ∀ i, i ∈ is → ∀ d, ρ'[i]? ≠ some (some (true, d))
theorem Tch.refl {σ : L2.St} {ρ : Env} : Tch [] σ σ ρ ρ := ⟨rfl, fun _ _ => ⟨rfl, rfl⟩, fun _ h => absurd h (by simp)⟩
structure TgOk (X : Cx) (z : Zt) (tg : Expr) (g : TG) (t : D → Env → Option Env) (is : List Nat) : Prop where
  pg : PG X tg g
  ok : ∀ (v : V) (d : D) (σ : L2.St) (H : Hp) (ρ ρ' : Env) (Mu : List Addr) (Q : L2.St → Hp → Prop), EnvOk X.K X.mg z Mu H σ ρ → Rep X.K X.mg z Mu H v d → t d ρ = some ρ' →
    (∀ σ', EnvOk X.K X.mg z Mu H σ' ρ' → Tch is σ σ' ρ ρ' → Q σ' H) → g v σ H Q
structure TgsOk (X : Cx) (z : Zt) (tg : List Expr) (g : TGs) (t : List D → Env → Option Env) (is : List Nat) : Prop where
  pg : PGs X tg g
  ok : ∀ (vs : List V) (ds : List D) (σ : L2.St) (H : Hp) (ρ ρ' : Env) (Mu : List Addr) (Q : L2.St → Hp → Prop), EnvOk X.K X.mg z Mu H σ ρ → Reps X.K X.mg z Mu H vs ds → t ds ρ = some ρ' →
    (∀ σ', EnvOk X.K X.mg z Mu H σ' ρ' → Tch is σ σ' ρ ρ' → Q σ' H) → g vs σ H Q
def gN (i : Nat) : D → Env → Option Env := fun d ρ => some (ρ.set i (some (false, d)))
def gT (t : List D → Env → Option Env) : D → Env → Option Env := fun d ρ => match d with
  | .tup ds => t ds ρ
  | _ => none
def gNl : List D → Env → Option Env := fun ds ρ => match ds with
  | [] => some ρ
  | _ => none
def gCs (t : D → Env → Option Env) (u : List D → Env → Option Env) : List D → Env → Option Env := fun ds ρ => match ds with
  | d :: r => (t d ρ).bind (u r)
  | _ => none
section
variable {X : Cx} {z : Zt} {pos : Pos}
theorem tg_name {i : Nat} {x : Str} (hN : X.N.Nodup) (hi : X.N[i]? = some x) (hx : Loc X.env.scope x) (hf : X.fn x = true ∨ X.env.scope.names.lookup x = some .local := by first | exact .inl rfl | exact .inr rfl | assumption) : TgOk X z (.Name x pos) (gName i) (gN i) [i] := by
  refine ⟨pg_name hN hi hx hf, fun v d σ H ρ ρ' Mu Q E r h q => ?_⟩
  cases h
  refine q _ (E.set r) ⟨by rw [List.length_set], fun j hj => ?_, fun j hj d' h => ?_⟩
  · have hne : i ≠ j := fun e => hj (by simp [e])
    exact ⟨List.getElem?_set_ne hne, List.getElem?_set_ne hne⟩
  · have e : j = i := by simpa using hj
    subst e
    have hl : j < ρ.length := by
      have h1 := (List.getElem?_eq_some_iff.mp h).1
      rwa [List.length_set] at h1
    rw [List.getElem?_set_self hl] at h
    cases h
theorem tgs_nil : TgsOk X z [] gNil gNl [] := by
  refine ⟨pgs_nil, fun vs ds σ H ρ ρ' Mu Q E r h q => ?_⟩
  cases r with
  | nil =>
    cases h
    exact ⟨rfl, q σ E Tch.refl⟩
  | cons _ _ => cases h
theorem Tch.trans {is js : List Nat} {σ σ1 σ2 : L2.St} {ρ ρ1 ρ2 : Env} (a : Tch is σ σ1 ρ ρ1) (b : Tch js σ1 σ2 ρ1 ρ2) : Tch (is ++ js) σ σ2 ρ ρ2 := by
  refine ⟨b.len.trans a.len, fun i hi => ?_, fun i hi d => ?_⟩
  · have h1 : i ∉ is := fun h => hi (List.mem_append_left _ h)
    have h2 : i ∉ js := fun h => hi (List.mem_append_right _ h)
    exact ⟨(b.out i h2).1.trans (a.out i h1).1, (b.out i h2).2.trans (a.out i h1).2⟩
  · by_cases h2 : i ∈ js
    · exact b.in_ i h2 d
    · rw [(b.out i h2).2]
      rcases List.mem_append.mp hi with h | h
      · exact a.in_ i h d
      · exact absurd h h2
theorem tgs_cons {e : Expr} {es : List Expr} {g : TG} {gs : TGs} {t : D → Env → Option Env} {u : List D → Env → Option Env} {is js : List Nat} (h1 : TgOk X z e g t is) (h2 : TgsOk X z es gs u js)
    (hs : (assignEach (e :: es) X.env).map (·.2) = assign e X.env :: (assignEach es X.env).map (·.2) := by rfl) : TgsOk X z (e :: es) (gCons g gs) (gCs t u) (is ++ js) := by
  refine ⟨pgs_cons h1.pg h2.pg hs, fun vs ds σ H ρ ρ' Mu Q E r h q => ?_⟩
  cases r with
  | nil => cases h
  | cons r rs =>
    obtain ⟨ρ1, e1, e2⟩ := Option.bind_eq_some_iff.mp (show (t _ ρ).bind (u _) = some ρ' from h)
    refine ⟨_, _, rfl, h1.ok _ _ σ H ρ ρ1 Mu _ E r e1 fun σ1 E1 T1 => ?_⟩
    exact h2.ok _ _ σ1 H ρ1 ρ' Mu Q E1 rs e2 fun σ2 E2 T2 => q σ2 E2 (T1.trans T2)
theorem Rep.tup_inv {K : PySem.W.Frag} {mg : Str → Option Value} {Mu : List Addr} {H : Hp} {v : V} {ds : List D} (r : Rep K mg z Mu H v (.tup ds)) : ∃ a xs, v = .ref a ∧ a ∉ Mu ∧ H a = some (.tup xs) ∧ Reps K mg z Mu H xs ds := by
  cases r with | tup n h r => exact ⟨_, _, rfl, n, h, r⟩
theorem gCs_len : ∀ {X : Cx} {es : List Expr} {gs : TGs} {u : List D → Env → Option Env} {is : List Nat} {ds : List D} {ρ ρ' : Env}, True := trivial
theorem tg_tup {es : List Expr} {k n : Nat} {gs : TGs} {u : List D → Env → Option Env} {is : List Nat} (hc : X.calm = true) (h : TgsOk X z es gs u is) (hl : ∀ ds ρ ρ', u ds ρ = some ρ' → ds.length = n)
    (hn : (assignEach es X.env).length = n := by rfl) (hst : (assignEach es X.env).findIdx? (·.1) = none := by rfl) : TgOk X z (.Tuple es k pos) (gTup X.K n gs) (gT u) is := by
  refine ⟨pg_tup hc h.pg hn hst, fun v d σ H ρ ρ' Mu Q E r hu q => ?_⟩
  unfold gT at hu
  split at hu
  · rename_i ds
    obtain ⟨a, xs, rfl, na, ha, rs⟩ := r.tup_inv
    exact ⟨a, xs, rfl, SqT.of ha, by rw [rs.length]; exact hl ds ρ ρ' hu, h.ok xs ds σ H ρ ρ' Mu Q E rs hu q⟩
  · cases hu
theorem gNl_len {ds : List D} {ρ ρ' : Env} (h : gNl ds ρ = some ρ') : ds.length = 0 := by
  cases ds with
  | nil => rfl
  | cons _ _ => cases h
theorem gCs_len' {t : D → Env → Option Env} {u : List D → Env → Option Env} {n : Nat} (hu : ∀ ds ρ ρ', u ds ρ = some ρ' → ds.length = n) {ds : List D} {ρ ρ' : Env} (h : gCs t u ds ρ = some ρ') : ds.length = n + 1 := by
  cases ds with
  | nil => cases h
  | cons d r =>
    obtain ⟨ρ1, e1, e2⟩ := Option.bind_eq_some_iff.mp (show (t d ρ).bind (u r) = some ρ' from h)
    rw [List.length_cons, hu _ _ _ e2]
/-- a, b = .. of names -/
theorem tg_two {e1 e2 : Expr} {k : Nat} {g1 g2 : TG} {t1 t2 : D → Env → Option Env} {is js : List Nat} (hc : X.calm = true) (h1 : TgOk X z e1 g1 t1 is) (h2 : TgOk X z e2 g2 t2 js)
    (hs1 : (assignEach [e1, e2] X.env).map (·.2) = assign e1 X.env :: (assignEach [e2] X.env).map (·.2) := by rfl) (hs2 : (assignEach [e2] X.env).map (·.2) = assign e2 X.env :: (assignEach [] X.env).map (·.2) := by rfl)
    (hn : (assignEach [e1, e2] X.env).length = 2 := by rfl) (hst : (assignEach [e1, e2] X.env).findIdx? (·.1) = none := by rfl) :
    TgOk X z (.Tuple [e1, e2] k pos) (gTup X.K 2 (gCons g1 (gCons g2 gNil))) (gT (gCs t1 (gCs t2 gNl))) (is ++ (js ++ [])) :=
  tg_tup hc (tgs_cons h1 (tgs_cons h2 tgs_nil hs2) hs1) (fun _ _ _ h => gCs_len' (fun _ _ _ h => gCs_len' (fun _ _ _ h => gNl_len h) h) h) hn hst
theorem tg_three {e1 e2 e3 : Expr} {k : Nat} {g1 g2 g3 : TG} {t1 t2 t3 : D → Env → Option Env} {is js ks : List Nat} (hc : X.calm = true) (h1 : TgOk X z e1 g1 t1 is) (h2 : TgOk X z e2 g2 t2 js) (h3 : TgOk X z e3 g3 t3 ks)
    (hs1 : (assignEach [e1, e2, e3] X.env).map (·.2) = assign e1 X.env :: (assignEach [e2, e3] X.env).map (·.2) := by rfl) (hs2 : (assignEach [e2, e3] X.env).map (·.2) = assign e2 X.env :: (assignEach [e3] X.env).map (·.2) := by rfl) (hs3 : (assignEach [e3] X.env).map (·.2) = assign e3 X.env :: (assignEach [] X.env).map (·.2) := by rfl)
    (hn : (assignEach [e1, e2, e3] X.env).length = 3 := by rfl) (hst : (assignEach [e1, e2, e3] X.env).findIdx? (·.1) = none := by rfl) :
    TgOk X z (.Tuple [e1, e2, e3] k pos) (gTup X.K 3 (gCons g1 (gCons g2 (gCons g3 gNil)))) (gT (gCs t1 (gCs t2 (gCs t3 gNl)))) (is ++ (js ++ (ks ++ []))) :=
  tg_tup hc (tgs_cons h1 (tgs_cons h2 (tgs_cons h3 tgs_nil hs3) hs2) hs1) (fun _ _ _ h => gCs_len' (fun _ _ _ h => gCs_len' (fun _ _ _ h => gCs_len' (fun _ _ _ h => gNl_len h) h) h) h) hn hst
end

/-! ### what is walked -/
/-- J gives out ds, whatever changes at Nu; the items read with Mu barred -/
def Yields (K : PySem.W.Frag) (mg : Str → Option Value) (z : Zt) (Nu Mu : List Addr) (J : It) (H : Hp) (ds : List D) : Prop :=
  ∀ H2, ExtM Nu H H2 → ∀ i, (∀ d, ds[i]? = some d → J.go i H2 ∧ ∀ x H3, J.yld i H2 x H3 → Same H2 H3 ∧ ∀ M2 : List Addr, (∀ b, Oc H b → b ∉ Mu → b ∉ M2) → (∀ b ∈ M2, Oc H2 b) → Rep K mg z M2 H3 x d) ∧ (ds.length ≤ i → J.stop i H2)
/-- pk: within an expression, where nothing but the draw state changes -/
def tI (X : Cx) (z : Zt) (W : WX) (pk : Bool) (f : Es) : TI := fun σ H R => ∃ ρ g Mu, EnvOk X.K X.mg z Mu H σ ρ ∧ GOk z H g ∧
  (f ρ g).all (fun ds g' => ∀ J H', Ext z H H' → GOk z H' g' → Yields X.K X.mg z (if pk = true then [z.p, z.l] else Mu) Mu J H' ds → R J H') (XW X z W Mu σ H)
abbrev DI (X : Cx) (z : Zt) (W : WX) (pk : Bool) (tg iter : Expr) (f : Es) : Prop := PI X tg iter (tI X z W pk f)
/-- the items of a list, a tuple -/
def sItems (f : Ep) : Es := fun ρ => do
  let d ← f ρ
  match d with
  | .lst l => M.pure l
  | .tup l => M.pure l
  | .dct l => M.pure (l.map (·.1))
  | _ => stuck
theorem all_items {d : D} {P : List D → G → Prop} {E : Str → Str → List D → G → Prop} {g : G} (h : ((match d with | .lst l => M.pure l | .tup l => M.pure l | .dct l => M.pure (l.map (fun p : D × D => p.1)) | _ => stuck) g : R (List D)).all P E) : ∃ l, (d = .lst l ∨ d = .tup l ∨ ∃ kv, d = .dct kv ∧ l = kv.map (·.1)) ∧ P l g := by
  cases d <;> first | exact h.elim | exact ⟨_, .inl rfl, h⟩ | exact ⟨_, .inr (.inl rfl), h⟩ | exact ⟨_, .inr (.inr ⟨_, rfl, rfl⟩), h⟩
/-- the keys of the dict at a, in their order; the object stays -/
def Itx (a : Addr) (o : Obj) (ks : List V) : It :=
  ⟨fun i H => H a = some (ObV a o) ∧ i < ks.length, fun i H x H' => H' = H ∧ ks[i]? = some x, fun i H => H a = some (ObV a o) ∧ ks.length ≤ i⟩
theorem dict_ep' {o : Obj} {es es' : Array DictEntry} {ep ep' : Nat} (h : o.data = .dict es ep) (h' : o.data = .dict es' ep') : es' = es ∧ ep' = ep := by
  rw [h] at h'
  cases h'
  exact ⟨rfl, rfl⟩
theorem turn_keysX {P : Program} {w : World} {K : PySem.W.Frag} {tg : Expr} {a : Addr} {o : Obj} {es : Array DictEntry} {ep : Nat} {ks : List V} (it : Addr) (hod : o.data = .dict es ep) (hv : Vals ks (es.toList.map (·.key))) :
    Turn P w K tg (Itx a o ks) [it] it (fun i h => h.IsKeyIter it a i ks.length ep) where
  mem := by simp
  obj := fun i h st b hb => by
    have e : b = it := by simpa using hb
    subst e
    obtain ⟨oi, e, c, dd⟩ := st
    exact ⟨oi, e, fun v z => by rw [dd] at z; cases z⟩
  keep := fun i h h' st k => st.at fun oi e => k it (by simp) oi e
  item := by
    intro X hP hw hK hc i pins s σ H E I hf st hg
    subst hP hw hK
    obtain ⟨hd, hi⟩ := hg
    obtain ⟨f0, f1, f2, f3, f4, f5⟩ := hf it (by simp)
    have hgd : s.heap.get? a = some o := (I.hok a _ hd).1
    have hl : es.size = ks.length := by
      have := Vals.length hv
      rw [List.length_map, Array.length_toList] at this
      exact this.symm
    obtain ⟨en, hen⟩ : ∃ en, es[i]? = some en := ⟨es[i], Array.getElem?_eq_getElem (by omega)⟩
    have hkv : ks[i]? = some ks[i] := List.getElem?_eq_getElem hi
    obtain ⟨u, hu, ru⟩ := Vals.get hv hkv
    have eu : u = en.key := by
      rw [List.getElem?_map, Array.getElem?_toList, hen] at hu
      exact (Option.some.inj hu).symm
    subst eu
    refine next_key_item st hgd hod hl hen fun h' st' sb => ?_
    have I1 : Inv X pins σ H { s with heap := h' } := I.turned (t' := s.toks) (fun b ob hb e => (sb.2 b hb).trans e) f0 f1 f3 f4 f5
    obtain ⟨oi, e, c, dd⟩ := id st'
    exact ⟨en.key, rfl, go_of (s := { s with heap := h' }) e c dd (by decide) ⟨ks[i], H, I1, ru, ⟨rfl, hkv⟩, st', fun b hb => (hf b hb).1⟩⟩
  done := by
    intro X hP hw hK hc i pins s σ H E I hf st hg
    subst hP hw hK
    obtain ⟨hd, hi⟩ := hg
    obtain ⟨f0, f1, f2, f3, f4, f5⟩ := hf it (by simp)
    have hgd : s.heap.get? a = some o := (I.hok a _ hd).1
    have hl : es.size = ks.length := by
      have := Vals.length hv
      rw [List.length_map, Array.length_toList] at this
      exact this.symm
    exact next_key_end (I.ok.hd hc) st hgd hod hl hi fun h' eb => ⟨rfl, I.turned (t' := s.toks) (fun b ob hb e => eb b ob hb e) f0 f1 f3 f4 f5⟩
  self := fun A i s Q E st h => by
    refine wpAny_pyIter_slot st.typeIs PySem.F.slot_dict_keyiterator_iter (wpAny_call_entry PySem.F.slot_dict_keyiterator_iter st.typeIs PySem.F.entry_dict_keyiterator_iter ?_ (PySem.F.args_dict_keyiterator_iter_1 _))
    show wpAny _ _ (ret (.ref it)) _ _ s
    exact wpAny_pure ⟨_, rfl, "dict_keyiterator", _, st.typeIs, PySem.F.slot_dict_keyiterator_next.lookup, h⟩
section
variable {X : Cx} {z : Zt} {W : WX} {k : Kd} {e tg : Expr} {f : Ep} {pos p : Pos}
theorem yields_list {K : PySem.W.Frag} {mg : Str → Option Value} {Nu Mu : List Addr} {H : Hp} {a : Addr} {xs : List V} {ds : List D} (hn : a ∉ Nu) (h : H a = some (.lst xs)) (r : Reps K mg z Mu H xs ds) (hs : ∀ b ∈ Nu, b ∈ Mu) : Yields K mg z Nu Mu (Itl K a) H ds := by
  intro H2 e i
  have h2 : H2 a = some (.lst xs) := e _ _ h trivial hn
  have r2 : ∀ M2 : List Addr, (∀ b, Oc H b → b ∉ Mu → b ∉ M2) → Reps K mg z M2 H2 xs ds := fun M2 hm => r.mono (fun b u q t n => e b u q t (fun w => n (hs b w))) hm
  refine ⟨fun d hd => ?_, fun hi => ⟨xs, SqL.of h2, by rw [r.length]; exact hi⟩⟩
  obtain ⟨v, hv, _⟩ := r.get' hd
  refine ⟨⟨xs, v, SqL.of h2, hv⟩, fun x H3 y => ?_⟩
  obtain ⟨rfl, y⟩ := y
  have q := y xs (SqL.of h2)
  refine ⟨Same.refl, fun M2 hm _ => ?_⟩
  obtain ⟨d', hd', rd⟩ := (r2 M2 hm).get q
  rw [hd] at hd'
  cases hd'
  exact rd
theorem yields_keys {K : PySem.W.Frag} {mg : Str → Option Value} {Nu Mu : List Addr} {H : Hp} {a : Addr} {o : Obj} {ks : List V} {ds : List D} (hn : a ∉ Nu) (h : H a = some (ObV a o)) (r : Reps K mg z Mu H ks ds) (hs : ∀ b ∈ Nu, b ∈ Mu) : Yields K mg z Nu Mu (Itx a o ks) H ds := by
  intro H2 e i
  have h2 : H2 a = some (ObV a o) := e _ _ h trivial hn
  have r2 : ∀ M2 : List Addr, (∀ b, Oc H b → b ∉ Mu → b ∉ M2) → Reps K mg z M2 H2 ks ds := fun M2 hm => r.mono (fun b u q t n => e b u q t (fun w => n (hs b w))) hm
  refine ⟨fun d hd => ?_, fun hi => ⟨h2, by rw [r.length]; exact hi⟩⟩
  obtain ⟨v, hv, _⟩ := r.get' hd
  refine ⟨⟨h2, (List.getElem?_eq_some_iff.mp hv).1⟩, fun x H3 y => ?_⟩
  obtain ⟨rfl, q⟩ := y
  refine ⟨Same.refl, fun M2 hm _ => ?_⟩
  obtain ⟨d', hd', rd⟩ := (r2 M2 hm).get q
  rw [hd] at hd'
  cases hd'
  exact rd
theorem yields_tup {K : PySem.W.Frag} {mg : Str → Option Value} {Nu Mu : List Addr} {H : Hp} {a : Addr} {xs : List V} {ds : List D} (hn : a ∉ Nu) (h : H a = some (.tup xs)) (r : Reps K mg z Mu H xs ds) (hs : ∀ b ∈ Nu, b ∈ Mu) : Yields K mg z Nu Mu (Itt K a) H ds := by
  intro H2 e i
  have h2 : H2 a = some (.tup xs) := e _ _ h trivial hn
  have r2 : ∀ M2 : List Addr, (∀ b, Oc H b → b ∉ Mu → b ∉ M2) → Reps K mg z M2 H2 xs ds := fun M2 hm => r.mono (fun b u q t n => e b u q t (fun w => n (hs b w))) hm
  refine ⟨fun d hd => ?_, fun hi => ⟨xs, SqT.of h2, by rw [r.length]; exact hi⟩⟩
  obtain ⟨v, hv, _⟩ := r.get' hd
  refine ⟨⟨xs, v, SqT.of h2, hv⟩, fun x H3 y => ?_⟩
  obtain ⟨rfl, y⟩ := y
  have q := y xs (SqT.of h2)
  refine ⟨Same.refl, fun M2 hm _ => ?_⟩
  obtain ⟨d', hd', rd⟩ := (r2 M2 hm).get q
  rw [hd] at hd'
  cases hd'
  exact rd
end
end DL
set_option Elab.async false
set_option linter.all false
set_option maxRecDepth 100000
set_option maxHeartbeats 2000000
/-! The value layer, part 9: walks of lists, tuples, ranges; for, while; two assignments at once; list comprehensions. -/
namespace DL
open PySem PySem.Spec PyProof.Rows L2

def rangeL (lo : Int) (n : Nat) : List D := (List.range n).map fun i : Nat => D.int (lo + (i : Int))
def fR1 : D → Option (List D)
  | .int j => if -(2 ^ 62) ≤ j ∧ j < 2 ^ 62 then some (rangeL 0 j.toNat) else none
  | _ => none
def fR2 : D → D → Option (List D)
  | .int i, .int j => if -(2 ^ 62) ≤ i ∧ i < 2 ^ 62 ∧ -(2 ^ 62) ≤ j ∧ j < 2 ^ 62 then some (rangeL i (j - i).toNat) else none
  | _, _ => none
theorem fR2_some {d d' : D} {l : List D} (h : fR2 d d' = some l) : ∃ i j, d = .int i ∧ d' = .int j ∧ (-(2 ^ 62) ≤ i ∧ i < 2 ^ 62 ∧ -(2 ^ 62) ≤ j ∧ j < 2 ^ 62) ∧ l = rangeL i (j - i).toNat := by
  unfold fR2 at h
  split at h
  · split at h
    · rename_i hc
      cases h
      exact ⟨_, _, rfl, rfl, hc, rfl⟩
    · cases h
  · cases h
def sRange1 (f : Ep) : Es := fun ρ => do let d ← f ρ; ofOpt (fR1 d)
def sRange2 (f h : Ep) : Es := fun ρ => do let d ← f ρ; let d' ← h ρ; ofOpt (fR2 d d')
section
variable {X : Cx} {z : Zt} {W : WX} {pk : Bool} {k ka kb : Kd} {e a b tg : Expr} {f fa fb : Ep} {pos p : Pos}
theorem di_seq (h : DE X z W (if pk = true then .peek else .sh) e f) : DI X z W pk tg e (sItems f) := by
  refine ⟨fun pins s σ H Rr I ⟨ρ, g, Mu, E, G1, hx⟩ => ?_⟩
  refine de_run h I E G1 (R.all_imp (R.all_bind hx) (fun d g1 hx v u H1 s1 I1 r1 e1 G2 E1 k1 => ?_) fun _ _ _ _ h => h)
  obtain ⟨l, hd, hx⟩ := all_items hx
  have m1 := E1.mu
  have hs : ∀ b ∈ (if pk = true then [z.p, z.l] else Mu), b ∈ Mu := by
    intro b hb
    cases pk with
    | false => exact hb
    | true =>
      rcases List.mem_cons.mp hb with hb | hb
      · rw [hb]; exact m1.p
      · rw [List.mem_singleton.mp hb]; exact m1.l
  have nn : ∀ a, (a ∉ Mu ∨ (pk = true ∧ a ≠ z.p ∧ a ≠ z.l)) → a ∉ (if pk = true then [z.p, z.l] else Mu) := by
    intro a ha hb
    rcases ha with ha | ⟨hpk, n1, n2⟩
    · exact ha (hs a hb)
    · subst hpk
      rcases List.mem_cons.mp hb with hb | hb
      · exact n1 hb
      · exact n2 (List.mem_singleton.mp hb)
  have L : ∀ {a : Addr} {xs : List V} {ds : List D}, v = .ref a → d = .lst ds → (a ∉ Mu ∨ (pk = true ∧ a ≠ z.p ∧ a ≠ z.l)) → H1 a = some (.lst xs) → Reps X.K X.mg z Mu H1 xs ds → wpAny (model X.prog X.w) X.A (pyIter u) (PIE X pins σ tg Rr) X.xe s1 := by
    intro a xs ds ev ed ha hh rs
    subst ev
    cases r1
    rcases hd with hd | hd | ⟨kv, hd, _⟩
    · rw [ed] at hd
      cases hd
      obtain ⟨its, rv, pl, hz⟩ := I1.list (SqL.of hh)
      refine wpAny_pyIter_list pl.isList ?_
      refine ⟨s1.heap.objs.size, [s1.heap.objs.size], _, _, H1, rfl, I1.kept (t' := s1.toks) fun b o e => Heap.get?_push_of_some _ e, turn_list a _, ⟨_, Heap.get?_push_size _ rfl, rfl, rfl⟩, fun b hb => ?_, hx _ H1 e1 G2 (yields_list (nn a ha) hh rs hs)⟩
      have e : b = s1.heap.objs.size := by simpa using hb
      subst e
      exact I1.fpOk (Nat.le_refl _) (I1.hok.fresh (Nat.le_refl _))
    · rw [ed] at hd; cases hd
    · rw [ed] at hd; cases hd
  have T : ∀ {a : Addr} {xs : List V} {ds : List D}, v = .ref a → d = .tup ds → a ∉ Mu → H1 a = some (.tup xs) → Reps X.K X.mg z Mu H1 xs ds → wpAny (model X.prog X.w) X.A (pyIter u) (PIE X pins σ tg Rr) X.xe s1 := by
    intro a xs ds ev ed ha hh rs
    subst ev
    cases r1
    rcases hd with hd | hd | ⟨kv, hd, _⟩
    · rw [ed] at hd; cases hd
    rotate_left
    · rw [ed] at hd; cases hd
    · rw [ed] at hd
      cases hd
      obtain ⟨its, rv, pl, hz⟩ := I1.tuple (SqT.of hh)
      refine wpAny_pyIter_tuple (show s1.heap.IsTuple a its.toArray from pl) ?_
      refine ⟨s1.heap.objs.size, [s1.heap.objs.size], _, _, H1, rfl, I1.kept (t' := s1.toks) fun b o e => Heap.get?_push_of_some _ e, turn_tuple a _, ⟨_, Heap.get?_push_size _ rfl, rfl, rfl⟩, fun b hb => ?_, hx _ H1 e1 G2 (yields_tup (nn a (.inl ha)) hh rs hs)⟩
      have e : b = s1.heap.objs.size := by simpa using hb
      subst e
      exact I1.fpOk (Nat.le_refl _) (I1.hok.fresh (Nat.le_refl _))
  have D : ∀ {a : Addr} {o : Obj} {es : Array DictEntry} {ep : Nat} {ks vs : List V} {kv : List (D × D)}, v = .ref a → d = .dct kv → l = kv.map (·.1) → (a ∉ Mu ∨ (pk = true ∧ a ≠ z.p ∧ a ≠ z.l)) → H1 a = some (ObV a o) → (a == sysModules) = false → o.ExactDict → o.data = .dict es ep → EnK ks vs es → Reps X.K X.mg z Mu H1 ks (kv.map (·.1)) → wpAny (model X.prog X.w) X.A (pyIter u) (PIE X pins σ tg Rr) X.xe s1 := by
    intro a o es ep ks vs kv ev ed el ha hh hsys hex hdt en rs
    subst ev
    cases r1
    have hgd : s1.heap.get? a = some o := (I1.hok a _ hh).1
    have hl : es.size = ks.length := by
      have := Vals.length en.1
      rw [List.length_map, Array.length_toList] at this
      exact this.symm
    refine iter_keys hsys hgd hex hdt (pi_one (tk := s1.toks) I1 _ (turn_keysX (ks := ks) _ hdt en.1) ⟨_, Heap.get?_push_size _ rfl, rfl, ?_⟩ (hx _ H1 e1 G2 (by rw [el]; exact yields_keys (nn a ha) hh rs hs)))
    rw [hl] <;> rfl
  have go : PR X.K X.mg z Mu H1 v d → (∀ a, (∃ c : Cont X.K X.mg z Mu H1 a d, True) → v = .ref a → a ∈ Mu → pk = true) → wpAny (model X.prog X.w) X.A (pyIter u) (PIE X pins σ tg Rr) X.xe s1 := by
    intro pr hp
    rcases pr with r | ⟨a, ev, ha, n1, n2, n3, c⟩
    · rcases hd with hd | hd | ⟨kv, hd, el⟩
      · subst hd
        cases r with
        | lst n h rs => exact L rfl rfl (.inl n) h rs
      · subst hd
        cases r with
        | tup n h rs => exact T rfl rfl n h rs
      · subst hd
        cases r with
        | dct n h h1 h2 h3 h4 h5 r1 r2 ky => exact D rfl rfl el (.inl n) h h1 h2 h3 h5 r1
    · have hpk := hp a ⟨c, trivial⟩ ev ha
      rcases hd with hd | hd | ⟨kv, hd, el⟩
      · subst hd
        cases c with
        | lst h rs => exact L ev rfl (.inr ⟨hpk, n1, n2⟩) h rs
      · subst hd
        cases c
      · subst hd
        cases c with
        | dct h h1 h2 h3 h4 h5 r1 r2 ky => exact D ev rfl el (.inr ⟨hpk, n1, n2⟩) h h1 h2 h3 h5 r1
  cases pk with
  | true => exact go k1 fun _ _ _ _ => rfl
  | false =>
    have r : Rep X.K X.mg z Mu H1 v d := k1
    rcases hd with hd | hd | ⟨kv, hd, el⟩
    · subst hd
      cases r with
      | lst n h rs => exact L rfl rfl (.inl n) h rs
    · subst hd
      cases r with
      | tup n h rs => exact T rfl rfl n h rs
    · subst hd
      cases r with
      | dct n h h1 h2 h3 h4 h5 r1 r2 ky => exact D rfl rfl el (.inl n) h h1 h2 h3 h5 r1
theorem yields_range {K : PySem.W.Frag} {mg : Str → Option Value} {Nu Mu : List Addr} {H : Hp} (lo : Int) (n : Nat) : Yields K mg z Nu Mu (Itr lo n) H (rangeL lo n) := by
  intro H2 e i
  unfold rangeL
  refine ⟨fun d hd => ?_, fun hi => by rw [List.length_map, List.length_range] at hi; exact hi⟩
  rw [List.getElem?_map] at hd
  obtain ⟨j, hj, rfl⟩ := Option.map_eq_some_iff.mp hd
  have hlt : i < n := by
    have h := (List.getElem?_eq_some_iff.mp hj).1
    rwa [List.length_range] at h
  have ej : j = i := by
    rw [List.getElem?_range hlt] at hj
    exact (Option.some.inj hj).symm
  subst ej
  refine ⟨hlt, fun x H3 y => ?_⟩
  obtain ⟨rfl, rfl⟩ := y
  exact ⟨Same.refl, fun _ _ _ => .int _⟩
theorem di_range1 (hg : Gl X "range") (hm : X.mg "range" = none) (ha : DE X z W k a f) (hs : starEach [a] X.env = (false, eval a X.env) :: starEach [] X.env := by rfl) (hs2 : starEach [a] X.env = [(false, eval a X.env)] := by rfl) : DI X z W pk tg (.Call (.Name "range" p) [a] [] pos) (sRange1 f) := by
  refine ⟨fun pins s σ H Rr I ⟨ρ, g, Mu, E, G1, hx⟩ => ?_⟩
  refine (pi_range1 hg hm (pa_cons ha pa_nil hs) hs2).run pins s σ H Rr I ⟨ρ, g, Mu, E, G1, R.all_imp (R.all_bind hx) (fun d g1 hx v H1 e1 G2 k1 => ?_) fun _ _ _ _ h => h⟩
  obtain ⟨l, hl, hx⟩ := R.all_opt hx
  unfold fR1 at hl
  split at hl
  · rename_i j
    obtain ⟨⟨h1, h2⟩, rfl⟩ := opt_if hl
    have ev := (k1.peek E.mu (E.mu.ext (g := g) e1 G2) G2).int
    subst ev
    exact ⟨j, rfl, h1, h2, hx _ H1 e1 G2 (yields_range 0 _)⟩
  · cases hl
theorem di_range2 (hg : Gl X "range") (hm : X.mg "range" = none) (ha : DE X z W ka a fa) (hb : DE X z W kb b fb) (hs : starEach [a, b] X.env = (false, eval a X.env) :: starEach [b] X.env := by rfl) (hs' : starEach [b] X.env = (false, eval b X.env) :: starEach [] X.env := by rfl)
    (h2 : starEach [a, b] X.env = [(false, eval a X.env), (false, eval b X.env)] := by rfl) (h3 : starEach [b] X.env = [(false, eval b X.env)] := by rfl) : DI X z W pk tg (.Call (.Name "range" p) [a, b] [] pos) (sRange2 fa fb) := by
  refine ⟨fun pins s σ H Rr I ⟨ρ, g, Mu, E, G1, hx⟩ => ?_⟩
  refine (pi_range2 hg hm (pa_cons ha (pa_cons hb pa_nil hs') hs) h2 h3).run pins s σ H Rr I ⟨ρ, g, Mu, E, G1, R.all_imp (R.all_bind hx) (fun d g1 hx v H1 e1 G2 k1 => ?_) fun _ _ _ _ h => h⟩
  have E1 := E.ext G1 e1 G2
  show tCons (tE X z W kb fb) tNil σ H1 _
  refine ⟨ρ, g1, Mu, E1, G2, R.all_imp (Raising.all (R.all_bind hx) e1) (fun d' g2 hx v' H2 e2 G3 k2 => ?_) fun _ _ _ _ h => h⟩
  obtain ⟨l, hl, hx⟩ := R.all_opt hx
  obtain ⟨i, j, rfl, rfl, h1, rfl⟩ := fR2_some hl
  have ev := (k1.peek E.mu E1.mu G2).int
  have ev' := (k2.peek E1.mu (E1.mu.ext (g := g1) e2 G3) G3).int
  subst ev ev'
  exact ⟨i, j, rfl, h1, hx _ H2 (e1.trans e2) G3 (yields_range _ _)⟩
end

/-! ### for -/
def sForL (t : D → Env → Option Env) (body : Ss) : List D → Ss
  | [], ρ => M.pure (.nx ρ)
  | d :: l, ρ => do
    let ρ1 ← ofOpt (t d ρ)
    let fl ← body ρ1
    match fl with
    | .nx ρ' => sForL t body l ρ'
    | .ct ρ' => sForL t body l ρ'
    | .bk ρ' => M.pure (.nx ρ')
    | .ret d => M.pure (.ret d)
def sFor (f : Es) (t : D → Env → Option Env) (body : Ss) : Ss := fun ρ => do
  let l ← f ρ
  sForL t body l ρ
section
variable {X : Cx} {n : En} {tg iter c : Expr} {body : List Stmt} {f : Es} {t : D → Env → Option Env} {is : List Nat} {gt : TG} {tb : Ss} {tc : Et} {pos : Pos}
theorem SOk.tch {K : PySem.W.Frag} {mg : Str → Option Value} {z : Zt} {P : Snap} {H : Hp} {Mu : List Addr} {σ σ' : L2.St} {ρ ρ' : Env} {g : G} (S : SOk K mg z P Mu H σ ρ g) (E : EnvOk K mg z Mu H σ' ρ') (T : Tch is σ σ' ρ ρ') : SOk K mg z P Mu H σ' ρ' g :=
  ⟨E, S.g, S.ext, S.sub, S.m0, fun i d a q s => by
    by_cases hi : i ∈ is
    · exact absurd q (T.in_ i hi d)
    · rw [(T.out i hi).2] at q
      rw [(T.out i hi).1] at s
      exact S.own i d a q s, S.kp, S.km, S.kz, S.kt⟩
/-- the same, with a look back at this state -/
def En.snap (n : En) (H : Hp) (Mu : List Addr) : En := { n with p := n.p.at_ H Mu }
theorem PSs.ex {α : Type} {X : Cx} {b : List Stmt} {t : α → TS} (h : ∀ a, PSs X b (t a)) : PSs X b (fun D σ H => ∃ a, t a D σ H) := ⟨fun pins s σ H D I ⟨a, q⟩ => (h a).run pins s σ H D I q⟩
theorem SW.unsnap {P : L2.St → Hp → Prop} {H1 : Hp} {M1 : List Addr} {σ1 : L2.St} {ρ1 ρ : Env} {g1 g : G} (S : SOk X.K X.mg n.z n.p M1 H1 σ1 ρ1 g1) (h : SW X n P ρ g) : SW X (n.snap H1 M1) P ρ g := fun σ H Mu T => h σ H Mu (S.unsnap T)
theorem ds_for (hp : PassesOwn (model X.prog X.w) X.A X.env X.xe) (hc : X.calm = true) (hi : DI X n.z n.W false tg iter f) (hg : TgOk X n.z tg gt t is) (hb : ∀ H Mu, DSs X (n.snap H Mu) body tb)
    (hs : ∀ x, foldedSetIterable iter X.env x = pure x := by intro _; rfl) : DS X n (.For tg iter body [] pos) (sFor f t tb) := by
  refine ⟨fun pins s σ H D I ⟨ρ, g, Mu, S, hx⟩ => ?_⟩
  refine (ps_for hp hc hi hg.pg (PSs.ex (α := Hp × List Addr) fun a => hb a.1 a.2) hs).run pins s σ H D I ⟨ρ, g, Mu, S.env, S.g, R.all_imp (EW.x S (R.all_eq (R.all_bind hx))) (fun ds g1 ⟨hq, hx⟩ J H1 e1 G2 hy => ?_) fun _ _ _ _ h => h⟩
  have hy : Yields X.K X.mg n.z Mu Mu J H1 ds := hy
  have S1 := S.step e1 G2
  refine ⟨fun i m σ2 H2 => m = ds.length - i ∧ i ≤ ds.length ∧ ∃ ρ2 g2 Mu2, SOk X.K X.mg n.z (n.p.at_ H1 Mu) Mu2 H2 σ2 ρ2 g2 ∧ (sForL t tb (ds.drop i) ρ2 g2).all (FW X n D) (EW X n), ⟨ds.length, rfl, Nat.zero_le _, ρ, g1, Mu, S1.snap, hx⟩, ?_⟩
  rintro i m σ2 H2 ⟨rfl, hle, ρ2, g2, Mu2, S2, hx2⟩
  obtain ⟨y1, y2⟩ := hy H2 S2.kp i
  by_cases hlt : i < ds.length
  · obtain ⟨hgo, hyl⟩ := y1 ds[i] (List.getElem?_eq_getElem hlt)
    rw [List.drop_eq_getElem_cons hlt] at hx2
    have hx2 := R.all_bind hx2
    obtain ⟨ρ3, ht, hx3⟩ := R.all_opt hx2
    refine .inr ⟨hgo, fun σ' H' => ∃ ρ' g' Mu', SOk X.K X.mg n.z (n.p.at_ H1 Mu) Mu' H' σ' ρ' g' ∧ (sForL t tb (ds.drop (i + 1)) ρ' g').all (FW X n D) (EW X n), ?_, fun x H3 y => ?_⟩
    · rintro σ' H' ⟨ρ', g', Mu', S', hx'⟩
      exact ⟨ds.length - (i + 1), by omega, rfl, hlt, ρ', g', Mu', S', hx'⟩
    · obtain ⟨sm, rep⟩ := hyl x H3 y
      have S3 := S2.step (Ext.of sm) (S2.g.same sm)
      have rx := rep Mu2 S2.km S2.env.mu.at_
      refine hg.ok x ds[i] σ2 H3 ρ2 ρ3 Mu2 _ S3.env rx ht fun σ4 E4 T4 => ?_
      refine ⟨(H1, Mu), ρ3, g2, Mu2, S3.tch E4 T4, ?_⟩
      refine R.all_imp (R.all_bind hx3) (fun fl g3 hf => ?_) fun _ _ _ _ h => h
      cases fl with
      | nx ρ' => exact fun σ5 H5 Mu5 S5 => ⟨ρ', g3, Mu5, S5, hf⟩
      | ct ρ' => exact fun σ5 H5 Mu5 S5 => ⟨ρ', g3, Mu5, S5, hf⟩
      | bk ρ' => exact SW.unsnap S1 hf
      | ret d => exact hf
  · refine .inl ⟨y2 (by omega), ?_⟩
    rw [List.drop_eq_nil_of_le (by omega)] at hx2
    exact hx2 σ2 H2 Mu2 (S1.unsnap S2)
/-! ### while -/
/-- at most N turns -/
def sWhile (c : Et) (body : Ss) : Nat → Ss
  | 0, _ => stuck
  | N + 1, ρ => do
    if ← c ρ then
      let fl ← body ρ
      match fl with
      | .nx ρ' => sWhile c body N ρ'
      | .ct ρ' => sWhile c body N ρ'
      | .bk ρ' => M.pure (.nx ρ')
      | .ret d => M.pure (.ret d)
    else M.pure (.nx ρ)
theorem ds_while (N : Nat) (hp : PassesOwn (model X.prog X.w) X.A X.env X.xe) (hc : DT X n.z n.W c tc) (hb : DSs X n body tb) : DS X n (.While c body [] pos) (sWhile tc tb N) := by
  refine ⟨fun pins s σ H D I ⟨ρ, g, Mu, S, hx⟩ => ?_⟩
  refine (ps_while hp hc hb).run pins s σ H D I ⟨fun m σ2 H2 => ∃ ρ2 g2 Mu2, SOk X.K X.mg n.z n.p Mu2 H2 σ2 ρ2 g2 ∧ (sWhile tc tb m ρ2 g2).all (FW X n D) (EW X n), ⟨N, ρ, g, Mu, S, hx⟩, ?_⟩
  rintro m σ2 H2 ⟨ρ2, g2, Mu2, S2, hx2⟩
  cases m with
  | zero => exact hx2.elim
  | succ m =>
    refine ⟨ρ2, g2, Mu2, S2.env, S2.g, R.all_imp (EW.x S2 (R.all_bind hx2)) (fun b g3 hx3 H3 e3 G3 => ?_) fun _ _ _ _ h => h⟩
    have S3 := S2.step e3 G3
    cases b with
    | false => exact hx3 σ2 H3 Mu2 S3
    | true =>
      dsimp only
      rw [if_pos rfl]
      refine ⟨fun σ' H' => ∃ ρ' g' Mu', SOk X.K X.mg n.z n.p Mu' H' σ' ρ' g' ∧ (sWhile tc tb m ρ' g').all (FW X n D) (EW X n), fun σ' H' h => ⟨m, Nat.lt_succ_self _, h⟩, ρ2, g3, Mu2, S3, ?_⟩
      refine R.all_imp (R.all_bind hx3) (fun fl g4 hf => ?_) fun _ _ _ _ h => h
      cases fl with
      | nx ρ' => exact fun σ5 H5 Mu5 S5 => ⟨ρ', g4, Mu5, S5, hf⟩
      | ct ρ' => exact fun σ5 H5 Mu5 S5 => ⟨ρ', g4, Mu5, S5, hf⟩
      | bk ρ' => exact hf
      | ret d => exact hf
end
end DL
set_option Elab.async false
set_option linter.all false
set_option maxRecDepth 100000
set_option maxHeartbeats 2000000
/-! The value layer, part 10: list comprehensions. -/
namespace DL
open PySem PySem.Spec PyProof.Rows L2

/-- what raises has no place here -/
def nox {α : Type} (m : M α) : M α := fun g => match m g with
  | .ok a g' => .ok a g'
  | _ => .stuck
theorem all_nox {α : Type} {m : M α} {g : G} {P : α → G → Prop} {E E' : Str → Str → List D → G → Prop} (h : (nox m g).all P E) : (m g).all P E' := by
  unfold nox at h
  cases q : m g with
  | stuck => rw [q] at h; exact h.elim
  | ok a g' => rw [q] at h; exact h
  | exc c f l g' => rw [q] at h; exact h.elim
def wipeE (ρ : Env) : List Nat → Env
  | [] => ρ
  | v :: vs => (wipeE ρ vs).set v none
def sYes : Et := fun _ => M.pure true
/-- the items that a comprehension makes -/
def sLcL (ρ : Env) (t : D → Env → Option Env) (tt : Et) (f : Ep) : List D → M (List D)
  | [] => M.pure []
  | d :: l => do
    let ρ1 ← ofOpt (t d ρ)
    let b ← nox (tt ρ1)
    if b then
      let y ← nox (f ρ1)
      let r ← sLcL ρ t tt f l
      M.pure (y :: r)
    else sLcL ρ t tt f l
def eLc (it : Es) (t : D → Env → Option Env) (tt : Et) (f : Ep) (vs : List Nat) : Ep := fun ρ => do
  let ds ← it ρ
  let _ ← ofOpt (if ds.length ≤ sizeLine then some () else none)
  let r ← sLcL (wipeE ρ vs) t tt f ds
  M.pure (.lst r)
section
variable {K : PySem.W.Frag} {mg : Str → Option Value} {z : Zt} {Mu : List Addr} {H H' : Hp} {σ : L2.St} {ρ : Env} {g g' : G}
theorem EnvOk.bar {a : Addr} (E : EnvOk K mg z Mu H σ ρ) (G1 : GOk z H g) (e : Ext z H H') (G' : GOk z H' g') (n : ¬ Oc H a) (there : Oc H' a) (nco : ∀ q, H' a ≠ some (LamX.CodeO a q)) : EnvOk K mg z (a :: Mu) H' σ ρ := by
  have na : a ∉ Mu := fun w => n (E.mu.at_ a w)
  have E1 := E.ext G1 e G'
  refine ⟨E.len, ⟨List.mem_cons_of_mem _ E1.mu.p, List.mem_cons_of_mem _ E1.mu.l, List.mem_cons_of_mem _ E1.mu.c, fun b hb => ?_, fun b hb q => ?_⟩, fun j t d' q => ?_, E.sep⟩
  · rcases List.mem_cons.mp hb with hb | hb
    · rw [hb]; exact there
    · exact E1.mu.at_ b hb
  · rcases List.mem_cons.mp hb with hb | hb
    · rw [hb]; exact nco q
    · exact E1.mu.nc b hb q
  · obtain ⟨w, q1, q2⟩ := E.val j t d' q
    refine ⟨w, q1, q2.mono (fun b ev et => ?_) (e.m E.mu.p E.mu.l) fun b hu h w => ?_⟩
    · subst et
      obtain ⟨b', ev', hb', m1, m2, m3, _⟩ := id q2
      have := ev.symm.trans ev'
      cases this
      exact ⟨fun u hu nu => e.to b u hu nu m1 m2, List.mem_cons_of_mem _ hb'⟩
    · rcases List.mem_cons.mp w with w | w
      · exact hu.ne n w
      · exact h w
theorem EnvOk.wipe (E : EnvOk K mg z Mu H σ ρ) : ∀ vs : List Nat, EnvOk K mg z Mu H (L2.wipe σ vs) (wipeE ρ vs)
  | [] => E
  | v :: vs => (EnvOk.wipe E vs).unset
end
theorem wipe_get (σ : L2.St) : ∀ (vs : List Nat) (i : Nat), (wipe σ vs)[i]? = if i ∈ vs then (if i < σ.length then some none else none) else σ[i]?
  | [], i => by simp [wipe]
  | v :: vs, i => by
    show ((wipe σ vs).set v none)[i]? = _
    rw [List.getElem?_set, wipe_length, wipe_get σ vs i]
    by_cases h : v = i
    · subst h
      simp
    · rw [if_neg h]
      have h' : ¬ i = v := fun e => h e.symm
      simp only [List.mem_cons, h', false_or]
theorem wipe_tch {σ σ' : L2.St} {ρ ρ' : Env} {is vs : List Nat} (T : Tch is (wipe σ vs) σ' ρ ρ') (hs : ∀ i ∈ is, i ∈ vs) : wipe σ' vs = wipe σ vs := by
  apply List.ext_getElem?
  intro i
  rw [wipe_get, wipe_get]
  have hl : σ'.length = σ.length := by rw [T.len, wipe_length]
  by_cases hi : i ∈ vs
  · rw [if_pos hi, if_pos hi, hl]
  · rw [if_neg hi, if_neg hi]
    have h := (T.out i fun w => hi (hs i w)).1
    rw [h, wipe_get, if_neg hi]
section
variable {X : Cx} {z : Zt} {W : WX} {elt tg iter c : Expr} {ifs : List Expr} {scope : Scope} {own : List (Str × Nat)} {pos : Pos} {it : Es} {gt : TG} {t : D → Env → Option Env} {is : List Nat} {tt : Et} {f : Ep}
abbrev W0 : WX := fun _ _ _ _ => False
abbrev DTs (X : Cx) (z : Zt) (W : WX) (es : List Expr) (f : Et) : Prop := PTs X es (tT X z W f)
theorem dts_nil : DTs X z W [] sYes := ⟨fun _ s σ H Q I ⟨ρ, g, Mu, E, G1, hx⟩ => wpAny_tests_nil ⟨H, I, hx H Ext.refl G1⟩⟩
theorem dts_one (h : DT X z W c tt) : DTs X z W [c] tt := pts_one h
theorem lc_read {σ : L2.St} {H : Hp} {Q : VK} {ρ : Env} {g : G} {Mu : List Addr} (hgo : ∀ (v : V) (d : D) (σ : L2.St) (H : Hp) (ρ ρ' : Env) (Mu : List Addr) (Q : L2.St → Hp → Prop), EnvOk X.K X.mg z Mu H σ ρ → Rep X.K X.mg z Mu H v d → t d ρ = some ρ' → (∀ σ', EnvOk X.K X.mg z Mu H σ' ρ' → Tch is σ σ' ρ ρ' → Q σ' H) → gt v σ H Q)
    (hsub : ∀ i ∈ is, i ∈ own.map (·.2)) (E : EnvOk X.K X.mg z Mu H σ ρ) (G1 : GOk z H g)
    (hx : (eLc it t tt f (own.map (·.2)) ρ g).all (fun d g' => ∀ v H', Ext z H H' → GOk z H' g' → RK X.K X.mg z .new H Mu H' v d → Q v H') (XW X z W Mu σ H)) :
    tLc (tI X z W true it) gt (tT X z W0 tt) (tE X z W0 .sh f) (own.map (·.2)) σ H Q := by
  refine ⟨ρ, g, Mu, E, G1, R.all_imp (R.all_bind hx) (fun ds g1 hx J H1 e1 G2 hy Dd nD => ?_) fun _ _ _ _ h => h⟩
  obtain ⟨_, hz, hx⟩ := R.all_opt (R.all_bind hx)
  obtain ⟨hz, _⟩ := opt_if hz
  have hx := R.all_bind hx
  have np : Dd ≠ z.p := fun w => by
    rw [w, G2.p] at nD; cases nD
  have nl : Dd ≠ z.l := fun w => by
    rw [w, G2.l] at nD; cases nD
  have nc : Dd ≠ z.c := fun w => by
    rw [w, G2.c] at nD; cases nD
  have nH : ¬ Oc H Dd := e1.none (oc_none nD) np nl
  have E1 := E.ext G1 e1 G2
  have s1 : Same H1 (upd H1 Dd (.lst [])) := same_upd' nD
  refine ⟨fun i m H2 => m = ds.length - i ∧ i ≤ ds.length ∧ ∃ acc ds' g2, H2 Dd = some (.lst acc) ∧ Reps X.K X.mg z (Dd :: Mu) H2 acc ds' ∧ ds'.length ≤ i ∧ GOk z H2 g2 ∧ Ext z H1 H2 ∧
      (sLcL (wipeE ρ (own.map (·.2))) t tt f (ds.drop i) g2).all (fun out g' => ∀ v H', Ext z H H' → GOk z H' g' → RK X.K X.mg z .new H Mu H' v (.lst (ds' ++ out)) → Q v H') (XW X z W Mu σ H),
    ⟨ds.length, rfl, Nat.zero_le _, [], [], g1, upd_same, .nil, Nat.le_refl _, G2.same s1, Ext.of s1, hx⟩, ?_⟩
  rintro i m H2 ⟨rfl, hle, acc, ds', g2, hD, ra, hl, G3, e2, hx2⟩
  have hyi : ExtM (if true = true then [z.p, z.l] else Mu) H1 H2 := fun b u q t hn => e2.to b u q t (fun w => hn (by rw [if_pos rfl]; simp [w])) (fun w => hn (by rw [if_pos rfl]; simp [w]))
  obtain ⟨y1, y2⟩ := hy H2 hyi i
  by_cases hlt : i < ds.length
  · obtain ⟨hgo', hyl⟩ := y1 ds[i] (List.getElem?_eq_getElem hlt)
    rw [List.drop_eq_getElem_cons hlt] at hx2
    obtain ⟨ρ3, ht, hx3⟩ := R.all_opt (R.all_bind hx2)
    refine .inr ⟨hgo', fun H' => i + 1 ≤ ds.length ∧ ∃ acc ds' g2, H' Dd = some (.lst acc) ∧ Reps X.K X.mg z (Dd :: Mu) H' acc ds' ∧ ds'.length ≤ i + 1 ∧ GOk z H' g2 ∧ Ext z H1 H' ∧
      (sLcL (wipeE ρ (own.map (·.2))) t tt f (ds.drop (i + 1)) g2).all (fun out g' => ∀ v H', Ext z H H' → GOk z H' g' → RK X.K X.mg z .new H Mu H' v (.lst (ds' ++ out)) → Q v H') (XW X z W Mu σ H), fun H' ⟨h1, h2⟩ => ⟨ds.length - (i + 1), by omega, rfl, h1, h2⟩, fun x H3 y => ?_⟩
    obtain ⟨sm, rep⟩ := hyl x H3 y
    have G4 := G3.same sm
    have e3 : Ext z H1 H3 := e2.trans (Ext.of sm)
    have hD3 : H3 Dd = some (.lst acc) := sm _ _ hD
    have B2 : EnvOk X.K X.mg z (Dd :: Mu) H2 (wipe σ (own.map (·.2))) (wipeE ρ (own.map (·.2))) := (E.bar G1 (e1.trans e2) G3 nH ⟨_, hD, trivial⟩ (fun q w => by rw [hD] at w; cases w)).wipe _
    have B3 := B2.ext G3 (Ext.of sm) G4
    have rx := rep (Dd :: Mu) (fun b q hn w => by
      rcases List.mem_cons.mp w with w | w
      · exact q.ne (oc_none nD) w
      · exact hn w) B2.mu.at_
    refine hgo x ds[i] _ H3 _ ρ3 (Dd :: Mu) _ B3 rx ht fun σ4 E4 T4 => ⟨wipe_tch T4 hsub, ?_⟩
    refine ⟨ρ3, g2, Dd :: Mu, E4, G4, R.all_imp (all_nox (E' := XW X z W0 (Dd :: Mu) σ4 H3) (R.all_bind hx3)) (fun b g3 hx4 H5 e5 G5 => ?_) fun _ _ _ _ h => h⟩
    have ra5 : Reps X.K X.mg z (Dd :: Mu) H5 acc ds' := ra.mono (fun b u q t hn => e5.to b u (sm b u q) t (fun w => hn (w ▸ B2.mu.p)) (fun w => hn (w ▸ B2.mu.l))) fun _ _ h => h
    have hD5 : H5 Dd = some (.lst acc) := e5.to _ _ hD3 trivial np nl
    cases b with
    | false => exact ⟨hlt, acc, ds', g3, hD5, ra5, by omega, G5, e3.trans e5, hx4⟩
    | true =>
      dsimp only
      rw [if_pos rfl]
      have E5 := E4.ext G4 e5 G5
      refine ⟨ρ3, g3, Dd :: Mu, E5, G5, R.all_imp (all_nox (E' := XW X z W0 (Dd :: Mu) σ4 H5) (R.all_bind hx4)) (fun y g4 hx5 v H6 e6 G6 k6 => ?_) fun _ _ _ _ h => h⟩
      have k6 : Rep X.K X.mg z (Dd :: Mu) H6 v y := k6
      have hD6 : H6 Dd = some (.lst acc) := e6.to _ _ hD5 trivial np nl
      have ra6 : Reps X.K X.mg z (Dd :: Mu) H6 acc ds' := ra5.ext E5.mu G5 e6
      have up : ExtM (Dd :: Mu) H6 (upd H6 Dd (.lst (acc ++ [v]))) := fun b u q t hn => by rw [upd_ne (fun w => hn (by rw [w]; exact List.mem_cons_self))]; exact q
      have ra7 : Reps X.K X.mg z (Dd :: Mu) (upd H6 Dd (.lst (acc ++ [v]))) (acc ++ [v]) (ds' ++ [y]) := (ra6.append (.one k6)).mono up fun _ _ h => h
      have hlen : acc.length < sizeLine := by
        rw [ra6.length]
        omega
      refine ⟨acc, hD6, hlen, hlt, acc ++ [v], ds' ++ [y], g4, upd_same, ra7, by simp; omega, G6.write np nl nc (fun ps w => by rw [hD6] at w; cases w) (fun q w => by rw [hD6] at w; cases w), ⟨fun b u q t h1 h2 => ?_⟩, ?_⟩
      · have hb : b ≠ Dd := fun w => by rw [w, nD] at q; cases q
        rw [upd_ne hb]
        exact e6.to b u (e5.to b u (e3.to b u q t h1 h2) t h1 h2) t h1 h2
      · refine R.all_imp (R.all_bind hx5) (fun out g5 hq => ?_) fun _ _ _ _ h => h
        intro v' H' e' G' k'
        refine hq v' H' e' G' ?_
        rw [List.append_assoc] at k'
        exact k'
  · refine .inl ⟨y2 (by omega), ?_⟩
    rw [List.drop_eq_nil_of_le (by omega)] at hx2
    have hq : ∀ v H', Ext z H H' → GOk z H' g2 → RK X.K X.mg z .new H Mu H' v (.lst (ds' ++ [])) → Q v H' := hx2
    rw [List.append_nil] at hq
    refine hq _ H2 (e1.trans e2) G3 ?_
    show if D.box (.lst ds') = true then ∃ a, V.ref Dd = .ref a ∧ ¬ Oc H a ∧ Cont X.K X.mg z (a :: Mu) H2 a (.lst ds') else Rep X.K X.mg z Mu H2 (.ref Dd) (.lst ds')
    rw [if_pos (show D.box (.lst ds') = true from rfl)]
    exact ⟨Dd, rfl, nH, .lst hD ra⟩
theorem de_lc (hX : XG X) (hi : DI X z W true tg iter it) (ok : BlkOk X.N X.env.scope scope own) (hsub : ∀ i ∈ is, i ∈ own.map (·.2))
    (hg : ∀ (s : Shared) (H : Hp) (C : Addr) (cl : List (Str × Addr)) (fp : List Addr), TgOk (X.blk s H scope (compEnvC scope cl C X.env) fp) z tg gt t is)
    (ht : ∀ (s : Shared) (H : Hp) (C : Addr) (cl : List (Str × Addr)) (fp : List Addr), DTs (X.blk s H scope (compEnvC scope cl C X.env) fp) z W0 ifs tt)
    (he : ∀ (s : Shared) (H : Hp) (C : Addr) (cl : List (Str × Addr)) (fp : List Addr), DE (X.blk s H scope (compEnvC scope cl C X.env) fp) z W0 .sh elt f) (hs : ∀ x, foldedSetIterable iter X.env x = pure x := by intro _; rfl) :
    DE X z W .new (.ListComp elt [⟨tg, iter, ifs, 0⟩] scope pos) (eLc it t tt f (own.map (·.2))) := by
  refine ⟨fun pins s σ H Q I ⟨ρ, g, Mu, E, G1, hx⟩ => ?_⟩
  refine (pe_lc (tt := tT X z W0 tt) (te := tE X z W0 .sh f) hX.calm hX.nd hi ok (fun s H C cl fp => (hg s H C cl fp).pg) ht he hs).run pins s σ H Q I ?_
  exact lc_read (fun v d σ H ρ ρ' Mu Q => (hg s H default [] []).ok v d σ H ρ ρ' Mu Q) hsub E G1 hx
/-- y = [..] on one line -/
theorem ds_setLc {n : En} {i : Nat} {y : Str} {py spos : Pos} (hX : XG X) (hy : X.N[i]? = some y) (hyl : X.env.scope.names.lookup y = some .local)
    (hsw : swapsWith (.ListComp elt [⟨tg, iter, ifs, 0⟩] scope pos) (some (.Name y py)) spos.line X.env = pure true) (hi : DI X n.z n.W true tg iter it) (ok : BlkOk X.N X.env.scope scope own) (hsub : ∀ i ∈ is, i ∈ own.map (·.2))
    (hg : ∀ (s : Shared) (H : Hp) (C : Addr) (cl : List (Str × Addr)) (fp : List Addr), TgOk (X.blk s H scope (compEnvC scope cl C X.env) fp) n.z tg gt t is)
    (ht : ∀ (s : Shared) (H : Hp) (C : Addr) (cl : List (Str × Addr)) (fp : List Addr), DTs (X.blk s H scope (compEnvC scope cl C X.env) fp) n.z W0 ifs tt)
    (he : ∀ (s : Shared) (H : Hp) (C : Addr) (cl : List (Str × Addr)) (fp : List Addr), DE (X.blk s H scope (compEnvC scope cl C X.env) fp) n.z W0 .sh elt f) (hs : ∀ x, foldedSetIterable iter X.env x = pure x := by intro _; rfl) :
    DS X n (.Assign [.Name y py] (.ListComp elt [⟨tg, iter, ifs, 0⟩] scope pos) spos) (sSet true i (eLc it t tt f (own.map (·.2)))) := by
  refine ⟨fun pins s σ H D I ⟨ρ, g, Mu, S, hq⟩ => ?_⟩
  refine (ps_setLc (tt := tT X n.z W0 tt) (te := tE X n.z W0 .sh f) hX.calm hX.nd hy hyl hsw hi ok (fun s H C cl fp => (hg s H C cl fp).pg) ht he hs).run pins s σ H D I ?_
  refine lc_read (W := n.W) (fun v d σ H ρ ρ' Mu Q => (hg s H default [] []).ok v d σ H ρ ρ' Mu Q) hsub S.env S.g (R.all_imp (EW.x S (R.all_bind hq)) (fun d g1 hq v H1 e1 G2 k1 => ?_) fun _ _ _ _ h => h)
  obtain ⟨Mu', S'⟩ := S.store (i := i) e1 G2 true rfl k1
  exact hq _ H1 Mu' S'
end
end DL
set_option Elab.async false
set_option linter.all false
set_option maxRecDepth 100000
set_option maxHeartbeats 2000000
/-! The value layer, part 11: defs and their calls. -/
namespace DL
open PySem PySem.Spec PyProof.Rows L2

/-- what repr leans on: nothing is being shown, the dict of the modules stands -/
def GdOk (A : Around) (base : Heap) : Prop := A.guards = some [] ∧ SysD base
/-- what a def promises: m arguments, results of the kind kr, cf of what the arguments read as -/
def spD (K : PySem.W.Frag) (mg : Str → Option Value) (T : List (Addr × Str)) (m : Nat) (kr : Kd) (cf : List D → M D) : Sp := fun vs H Q E => vs.length = m ∧ ∃ (z : Zt) (ds : List D) (g : G) (Mu : List Addr), z.T = T ∧ MuOk z Mu H ∧ GOk z H g ∧ Reps K mg z Mu H vs ds ∧
  (cf ds g).all (fun d g' => ∀ v H', Ext z H H' → GOk z H' g' → RK K mg z kr H Mu H' v d → Q v H') (fun c f l g' => ∀ cls dd H', Ext z H H' → GOk z H' g' → ExcIs K mg z Mu H' c f l cls dd → E cls dd H')
structure DFn (gd : Bool) (P : Program) (w : World) (K : PySem.W.Frag) (mg : Str → Option Value) (base : Heap) (T : List (Addr × Str)) (k : Nat) (f : Addr) (fd : FuncData) (ps : List Str) (kr : Kd) (cf : List D → M D) : Prop where
  run : ∀ (A : Around) (outer : List PySem.Env) (s : Shared) (H : Hp) (args : Args) (us : List Value) (vs : List V) (Q : VK) (E : XK), Room k A → (gd = true → GdOk A base) → Env0 P w K mg base A outer s H → BindsTo s fd args (ps.zip us) → Vals vs us →
    spD K mg T ps.length kr cf vs H Q E → codeAny (model P w) A (.call (.ref f) args) (CR (L2.CX P w) outer P w H s Q E) s
theorem DFn.mono {gd : Bool} {P : Program} {w : World} {K : PySem.W.Frag} {mg : Str → Option Value} {base : Heap} {T : List (Addr × Str)} {j k : Nat} {f : Addr} {fd : FuncData} {ps : List Str} {kr : Kd} {cf : List D → M D} (F : DFn gd P w K mg base T j f fd ps kr cf) (h : j ≤ k) : DFn gd P w K mg base T k f fd ps kr cf :=
  ⟨fun A outer s H args us vs Q E hr hg => F.run A outer s H args us vs Q E (hr.mono h) hg⟩
/-- the same where the answers agree -/
theorem DFn.imp {gd : Bool} {P : Program} {w : World} {K : PySem.W.Frag} {mg : Str → Option Value} {base : Heap} {T : List (Addr × Str)} {k : Nat} {f : Addr} {fd : FuncData} {ps : List Str} {kr : Kd} {cf cf' : List D → M D} (F : DFn gd P w K mg base T k f fd ps kr cf)
    (h : ∀ ds g, cf' ds g = .stuck ∨ cf ds g = cf' ds g) : DFn gd P w K mg base T k f fd ps kr cf' :=
  ⟨fun A outer s H args us vs Q E hr hg he hb hv ⟨hl, z, ds, g, Mu, h1, h2, h3, h4, h5⟩ => F.run A outer s H args us vs Q E hr hg he hb hv ⟨hl, z, ds, g, Mu, h1, h2, h3, h4, by
    rcases h ds g with e | e
    · rw [e] at h5; exact h5.elim
    · rw [e]; exact h5⟩⟩

def startE (n : Nat) (ds : List D) : Env := ds.map (fun d => some (false, d)) ++ List.replicate (n - ds.length) none
def fnB (t : Ss) (n : Nat) (ds : List D) : M D := do
  let fl ← t (startE n ds)
  match fl with
  | .ret d => M.pure d
  | .nx _ => M.pure .non
  | _ => stuck
theorem env_start {K : PySem.W.Frag} {mg : Str → Option Value} {z : Zt} {Mu : List Addr} {H : Hp} {N : List Str} {vs : List V} {ds : List D} (m : MuOk z Mu H) (r : Reps K mg z Mu H vs ds) : EnvOk K mg z Mu H (L2.start N vs) (startE N.length ds) := by
  have key : ∀ (i : Nat) (t : Bool) (d : D), (startE N.length ds)[i]? = some (some (t, d)) → t = false ∧ ds[i]? = some d := fun i t d q => by
    unfold startE at q
    by_cases hi : i < ds.length
    · rw [List.getElem?_append_left (by simpa using hi), List.getElem?_map] at q
      cases e : ds[i]? with
      | none => rw [e] at q; cases q
      | some x => rw [e] at q; cases q; exact ⟨rfl, rfl⟩
    · rw [List.getElem?_append_right (by simpa using hi), List.getElem?_replicate] at q
      split at q <;> cases q
  refine ⟨by unfold startE L2.start; simp [r.length], m, fun i t d q => ?_, fun i j d d' a q1 _ _ _ => absurd (key i true d q1).1 (by decide)⟩
  obtain ⟨rfl, hd⟩ := key i t d q
  obtain ⟨v, hv, rv⟩ := r.get' hd
  refine ⟨v, ?_, rv⟩
  unfold L2.start
  rw [List.getElem?_append_left (by rw [List.length_map]; exact (List.getElem?_eq_some_iff.mp hv).1), List.getElem?_map, hv]
  rfl

/-- THE RULE: a def of the text, by its body -/
theorem dfn_of {gd : Bool} {P : Program} {w : World} {K : PySem.W.Frag} {mg : Str → Option Value} {base : Heap} {T : List (Addr × Str)} {k : Nat} {f : Addr} {name qual : Str} {params : Arguments} {body : List Stmt} {scope : Scope} {dV kV doc pm cdv ct oc : Value} {an od : Option Addr}
    {osl : Array (Option Value)} {N ps : List Str} {kr : Kd} {t : Ss} (lk : K.lookup f = some ⟨oc, od, .func (PySem.W.fnOf name qual params body scope dV kV doc pm an cdv ct), osl⟩) (hcd : PySem.W.codeIn K cdv qual = true) (S : FnScope N ps scope)
    (hbody : ∀ (A : Around) (outer : List PySem.Env) (s : Shared) (H : Hp) (E : XK) (n : En), XG (cxOf (L2.CX P w) P w K mg base N qual scope f cdv A outer s H E) → Room k (A.deeper (envOfC qual scope s.heap.objs.size f cdv)) →
      Takes (cxOf (L2.CX P w) P w K mg base N qual scope f cdv A outer s H E) n.W → (gd = true → GdOk A base) → n.k = kr → n.z.T = T → DSs (cxOf (L2.CX P w) P w K mg base N qual scope f cdv A outer s H E) n body t) :
    DFn gd P w K mg base T (k + 1) f (PySem.W.fnOf name qual params body scope dV kV doc pm an cdv ct) ps kr (fnB t N.length) := by
  refine ⟨fun A outer s H args us vs Q E hr hgd e0 hb r ⟨hl, z, ds, g, Mu, hT, hm, hG, hrep, hsp⟩ => ?_⟩
  refine LamX.run_ofS lk hcd S hr e0 hb r hl fun hr' => ⟨_, hbody A outer s H E ⟨z, fun cls dd _ H => E cls dd H, kr, ⟨H, Mu, H, Mu⟩⟩ ⟨rfl, hr'.mono (Nat.zero_le _), S.nd⟩ hr' (takes_of rfl rfl rfl rfl) hgd rfl hT, ?_⟩
  refine ⟨startE N.length ds, g, Mu, ⟨env_start hm hrep, hG, Ext.refl, fun b h => h, hm, fun i d a q => ?_, fun _ _ e _ _ => e, fun _ _ h => h, ⟨hm.p, hm.l⟩, fun _ h _ => h⟩, ?_⟩
  · unfold startE at q
    by_cases hi : i < ds.length
    · rw [List.getElem?_append_left (by simpa using hi), List.getElem?_map] at q
      cases e : ds[i]? with
      | none => rw [e] at q; cases q
      | some x => rw [e] at q; cases q
    · rw [List.getElem?_append_right (by simpa using hi), List.getElem?_replicate] at q
      split at q <;> cases q
  · refine R.all_imp (R.all_bind hsp) (fun fl g' h => ?_) fun c fl l g' h => ?_
    · cases fl with
      | nx ρ =>
        intro σ H' Mu' S'
        refine h .non H' S'.ext S'.g ?_
        cases kr with
        | sh => exact .non
        | new => exact RK.new_of .non rfl
        | peek => exact .inl .non
      | ret d => exact h
      | bk ρ => exact h.elim
      | ct ρ => exact h.elim
    · exact fun σ cls dd H' => h cls dd H'

/-! ### calls -/
/-- m values are given -/
def AL (f : Es) (m : Nat) : Prop := ∀ ρ g ds g', f ρ g = .ok ds g' → ds.length = m
theorem al_nil : AL sNil 0 := fun ρ g ds g' h => by cases h; rfl
theorem al_cons {f : Ep} {h : Es} {m : Nat} (t : AL h m) : AL (sCons f h) (m + 1) := fun ρ g ds g' q => by
  unfold sCons at q
  have q' : ((f ρ g).bind fun x => (fun g => (h ρ g).bind fun xs => M.pure (x :: xs))) = .ok ds g' := q
  cases e : f ρ g with
  | stuck => rw [e] at q'; cases q'
  | exc c n l g1 => rw [e] at q'; cases q'
  | ok x g1 =>
    rw [e] at q'
    have q2 : (h ρ g1).bind (fun xs => M.pure (x :: xs)) = .ok ds g' := q'
    cases e2 : h ρ g1 with
    | stuck => rw [e2] at q2; cases q2
    | exc c n l g1 => rw [e2] at q2; cases q2
    | ok xs g2 =>
      rw [e2] at q2
      cases q2
      exact congrArg (· + 1) (t _ _ _ _ e2)
def eCallF (cf : List D → M D) (fs : Es) : Ep := fun ρ => do let ds ← fs ρ; cf ds
section
variable {gd : Bool} {X : Cx} {z : Zt} {W : WX} {k : Nat} {f : Addr} {fd : FuncData} {ps : List Str} {kr : Kd} {cf : List D → M D} {x : Str} {p pos kpos : Pos} {e : Expr} {es : List Expr} {fs gs : Es} {pins : List (Addr × Obj)} {s : Shared} {σ : L2.St} {H : Hp} {Mu : List Addr} {g : G}
/-- the callee runs -/
theorem run_dfn {args : Args} {us : List Value} {vs : List V} {ds : List D} {Q : VK} (F : DFn gd X.prog X.w X.K X.mg X.base z.T k f fd ps kr cf) (hgd : gd = true → GdOk X.A X.base) (hr : Room k X.A) (tk : Takes X W) (I : Inv X pins σ H s) (hb : BindsTo s fd args (ps.zip us)) (rv : Vals vs us) (hl : vs.length = ps.length)
    (m : MuOk z Mu H) (G1 : GOk z H g) (r : Reps X.K X.mg z Mu H vs ds)
    (hx : (cf ds g).all (fun d g' => ∀ v H', Ext z H H' → GOk z H' g' → RK X.K X.mg z kr H Mu H' v d → Q v H') (XW X z W Mu σ H)) :
    wpAny (model X.prog X.w) X.A (call (.ref f) args.pos args.kw) (EP X pins σ Q) X.xe s := by
  refine wpAny_call (codeAny_mono (F.run X.A X.stack s H args us vs Q (WE W σ) hr hgd I.env0 hb rv ⟨hl, z, ds, g, Mu, rfl, m, G1, r, hx⟩) fun r s' hq => ?_)
  cases r with
  | error e => exact passAt tk σ pins H s e s' I hq
  | ok fl =>
    cases fl with
    | ret u => exact I.after hq
    | next => exact False.elim hq
    | brk => exact False.elim hq
    | cont => exact False.elim hq
theorem de_call (hgd : gd = true → GdOk X.A X.base) (tk : Takes X W) (F : DFn gd X.prog X.w X.K X.mg X.base z.T k f fd ps kr cf) (hr : Room k X.A) (hg : Gl X x) (hm : X.mg x = some (.ref f)) (hk : PySem.W.keepIn X.K (.ref f) = true) (hb : Binds X.K fd ps []) (ha : DAs X z W (e :: es) fs) (hal : AL fs ps.length)
    (hdb : (x == ("__debug__" : Str)) = false := by decide) (he : starEach (e :: es) X.env = (false, eval e X.env) :: starEach es X.env := by rfl) (hpl : (backTo pos (starEach es X.env)).any (·.1) = false := by rfl) :
    DE X z W kr (.Call (.Name x p) (e :: es) [] pos) (eCallF cf fs) := by
  refine ⟨fun pins s σ H Q I ⟨ρ, g, Mu, E, G1, hx⟩ => ?_⟩
  refine wpAny_Call_Name_kw (ld_glob I hg hm ?_ hdb)
  refine PySem.W.callWith_K (h₀ := X.base) I.ok.mod.kin hk (das_run ha I E G1 (R.all_imp (R.all_eq (R.all_bind hx)) (fun ds g1 ⟨hq, hx⟩ vs us H1 s1 I1 r1 e1 G2 E1 k1 => ⟨I1.kIn, ?_⟩) fun _ _ _ _ h => h)) he hpl
  have hl : vs.length = ps.length := k1.length.trans (hal _ _ _ _ hq)
  have b := hb s1 us I1.kIn (by rw [List.append_nil, ← r1.length]; exact hl)
  rw [List.append_nil] at b
  exact run_dfn (args := ⟨us, []⟩) F hgd hr tk I1 b r1 hl E1.mu G2 k1 (R.all_imp hx (fun d g' h v H' e2 G3 k2 => h v H' (e1.trans e2) G3 (k2.back e1 G2)) fun _ _ _ _ h => h.step e1)
theorem de_call0 (hgd : gd = true → GdOk X.A X.base) (tk : Takes X W) (F : DFn gd X.prog X.w X.K X.mg X.base z.T k f fd [] kr cf) (hr : Room k X.A) (hg : Gl X x) (hm : X.mg x = some (.ref f)) (hk : PySem.W.keepIn X.K (.ref f) = true) (hb : Binds X.K fd [] [])
    (hdb : (x == ("__debug__" : Str)) = false := by decide) : DE X z W kr (.Call (.Name x p) [] [] pos) (eCallF cf sNil) := by
  refine ⟨fun pins s σ H Q I ⟨ρ, g, Mu, E, G1, hx⟩ => ?_⟩
  refine wpAny_Call_Name_kw (ld_glob I hg hm ?_ hdb)
  exact PySem.W.callWith_K0 I.kIn hk (run_dfn (args := ⟨[], []⟩) F hgd hr tk I (hb s [] I.kIn rfl) .nil rfl E.mu G1 .nil hx)

/-! ### arguments that are only looked at -/
def D.scal : D → Bool
  | .non => true
  | .bl _ => true
  | .int _ => true
  | .str _ => true
  | _ => false
/-- a result without parts, an exception without a field -/
def flat (m : M D) : M D := fun g => match m g with
  | .ok d g' => if d.scal = true then .ok d g' else .stuck
  | .exc c f [] g' => .exc c f [] g'
  | _ => .stuck
theorem all_flat {m : M D} {g : G} {P : D → G → Prop} {E : Str → Str → List D → G → Prop} (h : (flat m g).all P E) : (m g).all (fun d g' => d.scal = true ∧ P d g') (fun c f l g' => l = [] ∧ E c f l g') := by
  unfold flat at h
  cases q : m g with
  | stuck => rw [q] at h; exact h
  | ok d g' =>
    rw [q] at h
    dsimp only at h
    by_cases hs : d.scal = true
    · rw [if_pos hs] at h; exact ⟨hs, h⟩
    · rw [if_neg hs] at h; exact h.elim
  | exc c f l g' =>
    rw [q] at h
    cases l with
    | nil => exact ⟨rfl, h⟩
    | cons a b => exact h.elim
theorem RK.scal {K : PySem.W.Frag} {mg : Str → Option Value} {k k' : Kd} {Mu Mu' : List Addr} {H0 H : Hp} {v : V} {d : D} (hs : d.scal = true) (r : RK K mg z k H0 Mu H v d) : RK K mg z k' H0 Mu' H v d := by
  have r1 : Rep K mg z Mu H v d := by
    cases k with
    | sh => exact r
    | new =>
      have r' : if d.box = true then ∃ a, v = .ref a ∧ ¬ Oc H0 a ∧ Cont K mg z (a :: Mu) H a d else Rep K mg z Mu H v d := r
      have hb : ¬ d.box = true := by cases d <;> first | (intro w; cases w; done) | cases hs
      rw [if_neg hb] at r'
      exact r'
    | peek =>
      rcases (show PR K mg z Mu H v d from r) with r | ⟨a, rfl, _, _, _, _, c⟩
      · exact r
      · cases c <;> cases hs
  have r2 : Rep K mg z Mu' H v d := by
    cases r1 <;> first | exact .non | exact .bl _ | exact .int _ | exact .str _ | cases hs
  have hb : d.box = false := by cases d <;> first | rfl | cases hs
  cases k' with
  | sh => exact r2
  | new => exact RK.new_of r2 hb
  | peek => exact .inl r2
theorem RKs.reps {K : PySem.W.Frag} {mg : Str → Option Value} {H : Hp} {Mu Mc : List Addr} (hc : ∀ b ∈ Mc, b ∈ Mu) (h3 : ∀ a, a ≠ z.p → a ≠ z.l → a ≠ z.c → a ∉ Mc) : ∀ {vs : List V} {ds : List D}, RKs K mg z Mu H vs ds → Reps K mg z Mc H vs ds
  | _, _, .nil => .nil
  | _, _, .cons r t => .cons (by
    rcases r with r | ⟨a, rfl, _, n1, n2, n3, c⟩
    · exact r.mono (fun _ _ e _ _ => e) fun b _ h w => h (hc b w)
    · exact Cont.rep (c.mono (fun _ e _ => e) (fun _ _ e _ _ => e) fun b _ h w => h (hc b w)) (h3 a n1 n2 n3)) (RKs.reps hc h3 t)
theorem RKs.length {K : PySem.W.Frag} {mg : Str → Option Value} {H : Hp} {Mu : List Addr} : ∀ {vs : List V} {ds : List D}, RKs K mg z Mu H vs ds → vs.length = ds.length
  | _, _, .nil => rfl
  | _, _, .cons r t => by rw [List.length_cons, List.length_cons, RKs.length t]
def eCallP (cf : List D → M D) (fs : Es) : Ep := fun ρ => do let ds ← fs ρ; flat (cf ds)
theorem de_callP (hgd : gd = true → GdOk X.A X.base) (tk : Takes X W) (F : DFn gd X.prog X.w X.K X.mg X.base z.T k f fd ps kr cf) (hr : Room k X.A) (hg : Gl X x) (hm : X.mg x = some (.ref f)) (hk : PySem.W.keepIn X.K (.ref f) = true) (hb : Binds X.K fd ps []) (ha : DA X z W (e :: es) fs) (hal : AL fs ps.length)
    (hdb : (x == ("__debug__" : Str)) = false := by decide) (he : starEach (e :: es) X.env = (false, eval e X.env) :: starEach es X.env := by rfl) (hpl : (backTo pos (starEach es X.env)).any (·.1) = false := by rfl) :
    DE X z W .new (.Call (.Name x p) (e :: es) [] pos) (eCallP cf fs) := by
  refine ⟨fun pins s σ H Q I ⟨ρ, g, Mu, E, G1, hx⟩ => ?_⟩
  refine wpAny_Call_Name_kw (ld_glob I hg hm ?_ hdb)
  refine PySem.W.callWith_K (h₀ := X.base) I.ok.mod.kin hk (da_run ha I E G1 (R.all_imp (R.all_eq (R.all_bind hx)) (fun ds g1 ⟨hq, hx⟩ vs us H1 s1 I1 r1 e1 G2 E1 k1 => ⟨I1.kIn, ?_⟩) fun _ _ _ _ h => h)) he hpl
  have hl : vs.length = ps.length := k1.length.trans (hal _ _ _ _ hq)
  have b := hb s1 us I1.kIn (by rw [List.append_nil, ← r1.length]; exact hl)
  rw [List.append_nil] at b
  have mc : MuOk z [z.p, z.l, z.c] H1 := ⟨by simp, by simp, by simp, fun b hb => by
    simp only [List.mem_cons, List.not_mem_nil, or_false] at hb
    rcases hb with rfl | rfl | rfl
    · exact E1.mu.at_ _ E1.mu.p
    · exact E1.mu.at_ _ E1.mu.l
    · exact E1.mu.at_ _ E1.mu.c, fun b hb => by
    simp only [List.mem_cons, List.not_mem_nil, or_false] at hb
    rcases hb with rfl | rfl | rfl
    · exact E1.mu.nc _ E1.mu.p
    · exact E1.mu.nc _ E1.mu.l
    · exact E1.mu.nc _ E1.mu.c⟩
  have kr : Reps X.K X.mg z [z.p, z.l, z.c] H1 vs ds := k1.reps (fun b hb => by
    simp only [List.mem_cons, List.not_mem_nil, or_false] at hb
    rcases hb with rfl | rfl | rfl
    · exact E1.mu.p
    · exact E1.mu.l
    · exact E1.mu.c) fun a n1 n2 n3 w => by
    simp only [List.mem_cons, List.not_mem_nil, or_false] at w
    rcases w with w | w | w
    · exact n1 w
    · exact n2 w
    · exact n3 w
  exact run_dfn (args := ⟨us, []⟩) F hgd hr tk I1 b r1 hl mc G2 kr (R.all_imp (all_flat hx) (fun d g' ⟨hs, h⟩ v H' e2 G3 k2 => h v H' (e1.trans e2) G3 ((RK.scal hs k2).back e1 G2)) fun c n l g' ⟨hl, h⟩ => fun cls dd H' e2 G3 x => h cls dd H' (e1.trans e2) G3 (by
    obtain ⟨C, h1, h2, h3⟩ := x
    refine ⟨C, h1, h2, ?_⟩
    rcases h3 with h3 | ⟨_, _, _, h4, _⟩
    · exact .inl h3
    · rw [hl] at h4; cases h4))

/-! ### keywords -/
abbrev DK (X : Cx) (z : Zt) (W : WX) (kws : List Keyword) (f : Es) : Prop := PK X kws (tAs X z W f)
variable {kws : List Keyword} {nm : Option Str} {fe : Ep} {ks : List Str}
theorem dk_run {f : Es} {ρ : Env} {Q : List Value → Shared → Prop} (h : DK X z W kws f) (I : Inv X pins σ H s) (E : EnvOk X.K X.mg z Mu H σ ρ) (G1 : GOk z H g)
    (hx : (f ρ g).all (fun ds g' => ∀ vs us H' s', Inv X pins σ H' s' → Vals vs us → Ext z H H' → GOk z H' g' → EnvOk X.K X.mg z Mu H' σ ρ → Reps X.K X.mg z Mu H' vs ds → Q us s') (XW X z W Mu σ H)) :
    wpAny (model X.prog X.w) X.A (evalAll ((backToKw pos (keywordEach kws X.env)).map (·.2))) Q X.xe s := by
  refine thn (h.run pos pins s σ H (fun vs H' => ∃ ds g', f ρ g = .ok ds g' ∧ Ext z H H' ∧ GOk z H' g' ∧ Reps X.K X.mg z Mu H' vs ds) I ⟨ρ, g, Mu, E, G1, ?_⟩) ?_
  · cases q : f ρ g with
    | stuck => rw [q] at hx; exact hx
    | ok d g' => exact fun vs H' e1 g1 r => ⟨d, g', rfl, e1, g1, r⟩
    | exc c n l g' => rw [q] at hx; exact hx
  · rintro us s' ⟨vs, H', I', r, ds, g', q, e1, g1, rk⟩
    rw [q] at hx
    exact hx vs us H' s' I' r e1 g1 (E.ext G1 e1 g1) rk
theorem dk_nil : DK X z W [] sNil := ⟨fun _ _ _ _ H Q I ⟨ρ, g, Mu, E, G1, hx⟩ => wpAny_evalAll_nil ⟨[], H, I, .nil, hx [] H Ext.refl G1 .nil⟩⟩
theorem dk_cons (ha : DE X z W .sh e fe) (hr : DK X z W kws gs) : DK X z W (⟨nm, e, kpos⟩ :: kws) (sCons fe gs) := by
  refine ⟨fun pos pins s σ H Q I ⟨ρ, g, Mu, E, G1, hx⟩ => ?_⟩
  show wpAny _ _ (evalAll ((do let v ← eval e X.env; standAt pos; pure v) :: (backToKw pos (keywordEach kws X.env)).map (·.2))) _ _ s
  refine wpAny_evalAll_cons (wpAny_bind (de_run ha I E G1 (R.all_imp (R.all_bind hx) (fun d g1 hx v u H1 s1 I1 r1 e1 G2 E1 k1 => wpAny_bind (wpAny_standAt (wpAny_pure ?_))) fun _ _ _ _ h => h)))
  refine dk_run hr I1 E1 G2 (R.all_imp (Raising.all (R.all_bind hx) e1) (fun ds g2 hx vs us H2 s2 I2 r2 e2 G3 E2 k2 => ?_) fun _ _ _ _ h => h)
  exact ⟨v :: vs, H2, I2, .cons r1 r2, hx (v :: vs) H2 (e1.trans e2) G3 (.cons (Rep.ext (show Rep X.K X.mg z Mu H1 v d from k1) E1.mu G2 e2) k2)⟩
def pick {α : Type} (pm : List Nat) (l : List α) : List α := pm.filterMap fun i => l[i]?
theorem Reps.pick {K : PySem.W.Frag} {mg : Str → Option Value} {H : Hp} {Mu : List Addr} {vs : List V} {ds : List D} (r : Reps K mg z Mu H vs ds) : ∀ pm : List Nat, Reps K mg z Mu H (DL.pick pm vs) (DL.pick pm ds)
  | [] => .nil
  | i :: pm => by
    unfold DL.pick
    rw [List.filterMap_cons, List.filterMap_cons]
    cases e : vs[i]? with
    | none =>
      have h := List.getElem?_eq_none_iff.mp e
      have e2 : ds[i]? = none := List.getElem?_eq_none_iff.mpr (by rw [← r.length]; exact h)
      rw [e2]
      exact Reps.pick r pm
    | some v =>
      obtain ⟨d, hd, rd⟩ := r.get e
      rw [hd]
      exact .cons rd (Reps.pick r pm)
theorem vals_pick {vs : List V} {us : List Value} (r : Vals vs us) : ∀ pm : List Nat, Vals (pick pm vs) (pick pm us)
  | [] => .nil
  | i :: pm => by
    unfold pick
    rw [List.filterMap_cons, List.filterMap_cons]
    cases e : vs[i]? with
    | none =>
      have h := List.getElem?_eq_none_iff.mp e
      have e2 : us[i]? = none := List.getElem?_eq_none_iff.mpr (by rw [← r.length]; exact h)
      rw [e2]
      exact vals_pick r pm
    | some v =>
      obtain ⟨u, hu, ru⟩ := r.get e
      rw [hu]
      exact .cons ru (vals_pick r pm)
def eCallK (cf : List D → M D) (pm : List Nat) (fs gs : Es) : Ep := fun ρ => do
  let ds ← fs ρ
  let es ← gs ρ
  cf (pick pm (ds ++ es))
/-- how a call with keywords binds -/
def KB (K : PySem.W.Frag) (fd : FuncData) (ps ks : List Str) (pm : List Nat) (m : Nat) : Prop := ∀ (s : Shared) (us ws : List Value), K.In s.heap → us.length = m → ws.length = ks.length → BindsTo s fd ⟨us, ks.zip ws⟩ (ps.zip (pick pm (us ++ ws))) ∧ (pick pm (us ++ ws)).length = ps.length
/-- f(k = v, ..) -/
theorem de_callK0 {pm : List Nat} (hgd : gd = true → GdOk X.A X.base) (tk : Takes X W) (F : DFn gd X.prog X.w X.K X.mg X.base z.T k f fd ps kr cf) (hr : Room k X.A) (hg : Gl X x) (hm : X.mg x = some (.ref f)) (hk : PySem.W.keepIn X.K (.ref f) = true) (hb : KB X.K fd ps ks pm 0) (hkw : DK X z W kws gs) (hal : AL gs ks.length)
    (hall : (backToKw pos (keywordEach kws X.env)).all (·.1.isSome) = true := by rfl) (hks : (backToKw pos (keywordEach kws X.env)).filterMap (·.1) = ks := by rfl)
    (hdb : (x == ("__debug__" : Str)) = false := by decide) (hpl : ((backTo pos (starEach [] X.env)).any (·.1) || (backToKw pos (keywordEach kws X.env)).any (·.1.isNone)) = false := by rfl) :
    DE X z W kr (.Call (.Name x p) [] kws pos) (eCallK cf pm sNil gs) := by
  refine ⟨fun pins s σ H Q I ⟨ρ, g, Mu, E, G1, hx⟩ => ?_⟩
  refine wpAny_Call_Name_kw (ld_glob I hg hm ?_ hdb)
  have hx : ((gs ρ g).bind fun es => cf (pick pm ([] ++ es))).all (fun d g' => ∀ v H', Ext z H H' → GOk z H' g' → RK X.K X.mg z kr H Mu H' v d → Q v H') (XW X z W Mu σ H) := hx
  refine PySem.W.callWith_KW0 (h₀ := X.base) I.ok.mod.kin hk hall (dk_run hkw I E G1 (R.all_imp (R.all_eq (R.all_bind hx)) (fun ds g1 ⟨hq, hx⟩ vs us H1 s1 I1 r1 e1 G2 E1 k1 => ⟨I1.kIn, ?_⟩) fun _ _ _ _ h => h)) hpl
  rw [hks]
  have hl : us.length = ks.length := by rw [← r1.length, k1.length]; exact hal _ _ _ _ hq
  obtain ⟨b, hn⟩ := hb s1 [] us I1.kIn rfl hl
  have vp := vals_pick r1 pm
  exact run_dfn (args := ⟨[], ks.zip us⟩) F hgd hr tk I1 b vp (by rw [vp.length]; exact hn) E1.mu G2 (k1.pick pm) (R.all_imp hx (fun d g' h v H' e2 G3 k2 => h v H' (e1.trans e2) G3 (k2.back e1 G2)) fun _ _ _ _ h => h.step e1)
/-- f(e, .., k = v, ..) -/
theorem de_callK {pm : List Nat} {m : Nat} (hgd : gd = true → GdOk X.A X.base) (tk : Takes X W) (F : DFn gd X.prog X.w X.K X.mg X.base z.T k f fd ps kr cf) (hr : Room k X.A) (hg : Gl X x) (hm : X.mg x = some (.ref f)) (hk : PySem.W.keepIn X.K (.ref f) = true) (hb : KB X.K fd ps ks pm m) (ha : DAs X z W (e :: es) fs) (hal0 : AL fs m) (hkw : DK X z W kws gs) (hal : AL gs ks.length)
    (hall : (backToKw pos (keywordEach kws X.env)).all (·.1.isSome) = true := by rfl) (hks : (backToKw pos (keywordEach kws X.env)).filterMap (·.1) = ks := by rfl)
    (hdb : (x == ("__debug__" : Str)) = false := by decide) (he : starEach (e :: es) X.env = (false, eval e X.env) :: starEach es X.env := by rfl)
    (hpl : ((backTo pos (starEach (e :: es) X.env)).any (·.1) || (backToKw pos (keywordEach kws X.env)).any (·.1.isNone)) = false := by rfl) :
    DE X z W kr (.Call (.Name x p) (e :: es) kws pos) (eCallK cf pm fs gs) := by
  refine ⟨fun pins s σ H Q I ⟨ρ, g, Mu, E, G1, hx⟩ => ?_⟩
  refine wpAny_Call_Name_kw (ld_glob I hg hm ?_ hdb)
  refine PySem.W.callWith_KW (h₀ := X.base) I.ok.mod.kin hk hall (das_run ha I E G1 (R.all_imp (R.all_eq (R.all_bind hx)) (fun ds g1 ⟨hq0, hx⟩ vs us H1 s1 I1 r1 e1 G2 E1 k1 => ?_) fun _ _ _ _ h => h)) hpl he
  refine dk_run hkw I1 E1 G2 (R.all_imp (R.all_eq (Raising.all (R.all_bind hx) e1)) (fun ds' g2 ⟨hq, hx⟩ vs' us' H2 s2 I2 r2 e2 G3 E2 k2 => ⟨I2.kIn, ?_⟩) fun _ _ _ _ h => h)
  rw [hks]
  have hl0 : us.length = m := by rw [← r1.length, k1.length]; exact hal0 _ _ _ _ hq0
  have hl : us'.length = ks.length := by rw [← r2.length, k2.length]; exact hal _ _ _ _ hq
  obtain ⟨b, hn⟩ := hb s2 us us' I2.kIn hl0 hl
  have vp := vals_pick (r1.append r2) pm
  exact run_dfn (args := ⟨us, ks.zip us'⟩) F hgd hr tk I2 b vp (by rw [vp.length]; exact hn) E2.mu G3 (((k1.ext E1.mu G2 e2).append k2).pick pm) (R.all_imp hx (fun d g' h v H' e3 G4 k3 => h v H' ((e1.trans e2).trans e3) G4 (k3.back (e1.trans e2) G3)) fun _ _ _ _ h => h.step (e1.trans e2))
end
end DL
set_option Elab.async false
set_option linter.all false
set_option maxRecDepth 100000
set_option maxHeartbeats 2000000
/-! The value layer, part 12: raise; an exception that a def with a try hands back. -/
namespace DL
open PySem PySem.Spec PyProof.Rows L2

/-! ### raise C('..') -/
def sRaise (c : Str) : Ss := fun _ g => .exc c Str.empty [] g
theorem ds_raise {X : Cx} {n : En} {C : Addr} {bmB : List Value} {B newId initId : String} {x m : Str} {j : Nat} {p p2 pos pos2 : Pos} (hX : XG X) (tk : Takes X n.W) (F : ExcBaseFacts B newId initId bmB) (q : PySem.W.excIn X.K C bmB newId = true) (gC : X.mg x = some (.ref C)) (kC : PySem.W.keepIn X.K (.ref C) = true) (r : Raises X (.ref C)) (hg : Gl X x)
    (hdb : (x == ("__debug__" : Str)) = false := by decide) : DS X n (.Raise (some (.Call (.Name x p) [.Constant (.str m) j p2] [] pos)) none pos2) (sRaise x) := by
  refine ⟨fun pins s σ H D I ⟨ρ, g, Mu, S, hx⟩ => ?_⟩
  exact (ps_raise hX.calm tk (pmk_own F q gC kC r hg hdb)).run pins s σ H D I (hx σ (.ref C) none H S.ext S.g ⟨C, gC, rfl, .inl ⟨rfl, rfl, rfl⟩⟩)

/-! ### try: .. / except x as n: .., where what was caught is kept -/
theorem exV_ok {P : Program} {w : World} {H : Hp} {h : Heap} {a : Addr} {cls : Value} {d : Option Addr} {oe : Obj} {vs : Array Value} (e : h.get? a = some oe) (z : Zc cls d oe) (hd : oe.data = .fields vs) : ObjOk P w H h a (ExV cls d a) :=
  ⟨⟨oe, vs, e, z, hd⟩, ⟨oe, e⟩, fun _ _ ⟨o, v, q, r⟩ k => ⟨o, v, k o q, r⟩⟩
def wKeep (K : PySem.W.Frag) (c : Value) (i : Nat) (ts : TS) (D : Ends) : WX := fun cls d σ H => PySem.W.exmOne K cls c = some true ∧ ∀ a, H a = none →
  ts { nx := fun σ' H' => D.nx (σ'.set i none) H', rt := D.rt, bk := fun σ' H' => D.bk (σ'.set i none) H', ct := fun σ' H' => D.ct (σ'.set i none) H' } (σ.set i (some (.ref a))) (upd H a (ExV cls d a))
section
variable {X : Cx} {pins : List (Addr × Obj)} {σ : L2.St} {H : Hp} {s : Shared} {x n : Str} {c : Value} {i : Nat} {body suite : List Stmt} {b₀ : Stmt} {np pos pos' : Pos} {tb : WX → TS} {ts : TS}
theorem inv_suite (I : Inv X pins σ H s) (a : Addr) : Inv (X.suite a (X.pn ++ pins)) [] σ H s :=
  ⟨I.ok.suite a (X.pn ++ pins), I.os, I.bare, I.base, I.loc, I.cell, I.free, I.freeC, by rw [List.append_nil]; exact I.pin, I.hok, I.len⟩
theorem inv_unsuite {a : Addr} (I : Inv (X.suite a (X.pn ++ pins)) [] σ H s) (ok : X.Ok) : Inv X pins σ H s :=
  ⟨ok, I.os, I.bare, I.base, I.loc, I.cell, I.free, I.freeC, by have q := I.pin; rw [List.append_nil] at q; exact q, I.hok, I.len⟩
/-- the exception at a, on the ground of the heap h, is tracked from now on -/
theorem inv_track {sI s' : Shared} {B h : Heap} {a : Addr} {cls : Value} {d : Option Addr} (I : Inv X pins σ H sI) (nb : ∀ b o, sI.heap.get? b = some o → b ∉ frs X.stack → B.get? b = some o) (na : H a = none) (nB : B.get? a = none) (nf : a ∉ frs X.stack)
    (st : B.StaysIn h) (up : sI.heap.UpToSlots h) (os : s'.os = sI.os) (ag : AllBare s'.gens) (ho : ∃ oe vs, h.get? a = some oe ∧ Zc cls d oe ∧ oe.data = .fields vs) : Inv X pins σ (upd H a (ExV cls d a)) { s' with heap := h } := by
  obtain ⟨G, in_, out_⟩ := restrict h fun b => decide (b ≠ a)
  have keep : ∀ b, b ≠ a → G.get? b = h.get? b := fun b n => in_ b (decide_eq_true n)
  have gone : G.get? a = none := out_ a (by simp)
  have nI : ∀ b o, sI.heap.get? b = some o → b ≠ a := fun b o e z => by
    subst z
    have w := nb b o e nf
    rw [nB] at w
    cases w
  have J : Inv X pins σ H { s' with heap := G } := I.landed nb (fun b o e => (keep b (fun z => by rw [z, nB] at e; cases e)).trans (st b o e))
    (fun b o e hn => let ⟨sl, w⟩ := up b o e hn; ⟨sl, (keep b (nI b o e)).trans w⟩) os ag
  obtain ⟨oe, vs, e1, e2, e3⟩ := ho
  exact J.laidN (h' := h) (t' := s'.toks) (fun b u e => by
    by_cases z : b = a
    · rw [z, gone] at e; cases e
    · exact (keep b z).symm.trans e) gone na (exV_ok e1 e2 e3)
theorem ps_try_keep (hs : X.stack = X.env :: X.outer) (hf : X.env.frame = some X.env.locals) (hN : X.N.Nodup) (hi : X.N[i]? = some n) (hln : X.env.kindOf n = some .local) (hc : Names X x c)
    (hb : ∀ (W : WX) (pn : List (Addr × Obj)) (xe : Value → Shared → Prop), Takes (X.tr pn xe) W → PSs (X.tr pn xe) body (tb W)) (hsu : ∀ (a : Addr) (pn : List (Addr × Obj)), PSs (X.suite a pn) (b₀ :: suite) ts) :
    PS X (.Try body [.ExceptHandler (some (.Name x np)) (some n) (b₀ :: suite) pos'] [] [] pos) (fun D σ H => tb (wKeep X.K c i ts D) D σ H) := by
  refine ⟨fun pins s σ H D I h => wpAny_Try_except (wpAny_mono ((hb (wKeep X.K c i ts D) (X.pn ++ pins) _ ?_).run [] s σ H D (I.toTry _) h) (fun f s1 q => ?_) fun _ _ z => z)⟩
  · rintro u s' ⟨a, B, sI, pins', σ', H', cls, d, rfl, J', nb, up, sky, na, os, ag, hm, hy⟩
    have ok := I.ok
    have J : Inv X pins σ' H' sI := J'.ofTry ok
    have fr : X.A.frames = some (X.env :: X.outer) := by rw [ok.frames, hs]
    rw [show (X.tr (X.pn ++ pins) _).stack = X.env :: X.outer from hs] at sky
    refine Sky.land Zc.steady fr hf sky fun h3 fl3 up3 => ?_
    have J3 : Inv X pins σ' H' { s' with heap := h3 } := J.landed nb fl3.1 (up.trans up3) os ag
    have S3 := inv_suite J3 a
    obtain ⟨oe3, vs3, he3, hz3, hd3⟩ := fl3.there
    have nfr : a ∉ frs X.stack := fun hm => by
      rw [hs] at hm
      obtain ⟨_, o', e', hnf⟩ := fl3.2.2.1.mem hm
      rw [he3] at e'
      cases e'
      exact hnf _ hd3
    refine wpAny_handleBy_cons (codeAny_handlers_test ?_) (by intro q; cases q)
    have ty : PySem.W.Looks (model X.prog X.w) h3 (typeOf (.ref a)) cls := fun A Q E s k q => wpAny_typeOf_ref (k _ _ he3) (by rw [hz3.1]; exact q)
    have mt := PySem.W.exm_one (M := model X.prog X.w) J3.kIn ty hm
    have named : ∀ {Q E : Value → Shared → Prop}, Q c { s' with heap := h3 } → wpAny (model X.prog X.w) (X.A.mark (some (.ref a))) (eval (.Name x np) X.env) Q E { s' with heap := h3 } := fun q => by
      obtain ⟨hg, hd, w | ⟨w, v, n1⟩⟩ := hc
      · exact ld_glob (X := X.suite a (X.pn ++ pins)) S3 hg w q hd
      · exact ld_blt (X := X.suite a (X.pn ++ pins)) S3 hg w v q n1 hd
    refine named (mt.here (codeAny_handlers_suite_as (HandSPX.lands_againZ fl3 fun h4 fl4 up4 => ?_)))
    have S4 := inv_suite (inv_track (cls := cls) (d := d) J nb na fl4.2.1 nfr fl4.1 ((up.trans up3).trans up4) os ag fl4.there) a
    refine store_ok (X := X.suite a (X.pn ++ pins)) (v := .ref a) S4 hN hi (.inl hln) rfl (fun s5 S5 => ?_) (.inr hln)
    refine wpAny_mono ((hsu a (X.pn ++ pins)).run [] s5 _ _ _ S5 (hy a na)) (fun f s6 q => ?_) fun _ _ z => z.elim
    have over : ∀ {σ6 : L2.St} {H6 : Hp} {Q : Shared → Prop}, Inv (X.suite a (X.pn ++ pins)) [] σ6 H6 s6 → (∀ s7, Inv X pins (σ6.set i none) H6 s7 → Q s7) →
        wpAny (model X.prog X.w) X.A (do bindName X.env n .none; unbindBehindTheSuite X.env n pos') (fun _ s7 => Q s7) X.xe s6 := fun S6 k => gone_ok (inv_unsuite S6 ok) hN hi hln k
    cases f <;> first
      | (obtain ⟨σ6, H6, S6, q6⟩ := q; exact over S6 fun s7 J7 => ⟨_, _, J7, q6⟩)
      | (obtain ⟨v6, σ6, H6, S6, r6, q6⟩ := q; exact over S6 fun s7 J7 => ⟨_, _, _, J7, r6, q6⟩)
  · cases f <;> first
      | (obtain ⟨σ', H', J', q⟩ := q; exact wpAny_execs_nil ⟨σ', H', J'.ofTry I.ok, q⟩)
      | (obtain ⟨σ', H', J', q⟩ := q; exact ⟨σ', H', J'.ofTry I.ok, q⟩)
      | (obtain ⟨v, σ', H', J', r, q⟩ := q; exact ⟨v, σ', H', J'.ofTry I.ok, r, q⟩)
end
end DL
set_option Elab.async false
set_option linter.all false
set_option maxRecDepth 100000
set_option maxHeartbeats 2000000
/-! The value layer, part 13: f(lambda: ..), f a def that calls what it gets and hands back the exception that came, or None. -/
namespace DL
open PySem PySem.Spec PyProof.Rows L2

theorem takes_len {X : Cx} {W : WX} (t : Takes X W) : Takes X (fun cls d σ H => σ.length = X.N.length → W cls d σ H) := fun u s' ⟨a, B, sI, pins, σ, H, cls, d, e, I, nb, up, sky, na, os, ag, w⟩ =>
  t u s' ⟨a, B, sI, pins, σ, H, cls, d, e, I, nb, up, sky, na, os, ag, w I.len⟩
/-- what the def makes of the lambda's reading -/
def TCaught (K : PySem.W.Frag) (CS : Addr) : (XK → Hp → VK → Prop) → Hp → VK → Prop := fun tl H Q => ∀ Q' : VK, (∀ v H', Q .non H' → Q' v H') →
  tl (fun cls dd H' => PySem.W.exmOne K cls (.ref CS) = some true ∧ ∀ a, H' a = none → Q (.ref a) (upd H' a (ExV cls dd a))) H Q'
/-- the body of such a def -/
def caughtB (a v e en : Str) (j : Nat) (p1 p2 p3 p4 p5 p6 p7 p8 p9 p10 p11 p12 p13 p14 : Pos) : List Stmt :=
  [.Assign [.Name v p1] (.Constant .none j p2) p3,
   .Try [.Expr (.Call (.Name a p4) [] [] p5) p6] [.ExceptHandler (some (.Name e p7)) (some en) [.Assign [.Name v p8] (.Name en p9) p10] p11] [] [] p12,
   .Return (some (.Name v p13)) p14]
theorem caught_gives {X : Cx} {x a v e en q : Str} {sg : Scope} {g CS : Addr} {cdg : Value} {j : Nat} {p1 p2 p3 p4 p5 p6 p7 p8 p9 p10 p11 p12 p13 p14 : Pos} (nd : [a, v, en].Nodup) (hlv : sg.names.lookup v = some .local) (hle : sg.names.lookup en = some .local)
    (hge : sg.names.lookup e = some .globalImplicit) (hme : X.mg e = some (.ref CS)) (hde : (e == ("__debug__" : Str)) = false) (hdv : (v == ("__debug__" : Str)) = false) (hcv : (v == ("__classdict__" : Str)) = false) (hdn : (en == ("__debug__" : Str)) = false) (hcn : (en == ("__classdict__" : Str)) = false) :
    LamX.GivesTo X [a, v, en] x sg g cdg (caughtB a v e en j p1 p2 p3 p4 p5 p6 p7 p8 p9 p10 p11 p12 p13 p14) a q (TCaught X.K CS) := by
  intro f c' s H Q tl act hc h
  have hgl : Gl (cxOf C8.CX0 X.prog X.w X.K X.mg X.base [a, v, en] x sg g cdg X.A X.stack s H C8.E0).nox e := hge
  refine ⟨_, pss_cons (ps_set (i := 1) nd rfl (.inl hlv) pe_non) (pss_cons
    (ps_try_keep (i := 2) (X := (cxOf C8.CX0 X.prog X.w X.K X.mg X.base [a, v, en] x sg g cdg X.A X.stack s H C8.E0).nox) (c := .ref CS)
      (tb := fun W D σ H => ∃ Ech : XK, (∀ cls d σ' H', Ech cls d H' → σ'.length = 3 → W cls d σ' H') ∧ σ[0]? = some (some (.ref f)) ∧ H c' = some (LamX.CodeO c' q) ∧ tl Ech H (fun _ H' => D.nx σ H'))
      rfl rfl nd rfl hle ⟨hgl, hde, .inl hme⟩ (fun W pn xe tk => ?_) (fun a' pn => pss_one (ps_set (i := 1) nd rfl (.inl hlv) (pe_var (i := 2) rfl (.inl hle) hdn hcn))))
    (pss_one (ps_ret (pe_var (i := 1) rfl (.inl hlv) hdv hcv)))), ?_⟩
  · refine ⟨fun pins s' σ H' D I h' => ?_⟩
    obtain ⟨Ech, hW, h1, h2, h3⟩ := h'
    have hp := act _ pn xe Ech p4 p5 (takes_len tk) (fun cls d σ' H' h hl => hW cls d σ' H' h hl)
    exact (pss_one (ps_expr (pos := p6) hp)).run pins s' σ H' D I ⟨h1, h2, h3⟩
  · refine ⟨_, fun cls d σ' H' h hl => ?_, ?_, hc, h _ fun v H' q => ⟨.non, rfl, q⟩⟩
    · obtain ⟨h1, h2⟩ := h
      refine ⟨h1, fun b hb => ?_⟩
      match σ', hl with
      | [s0, s1, s2], _ => exact ⟨.ref b, rfl, .ref b, rfl, h2 b hb⟩
    · rfl
/-! ### the rule -/
def eCaught (pks : List Str) (fb : Ep) : Ep := fun ρ g => match fb ρ g with
  | .stuck => .stuck
  | .ok _ g' => .ok .non g'
  | .exc c f l g' => if c ∈ pks then .ok (.exc c f l) g' else .stuck
theorem Ext.ofN {z : Zt} {H H' : Hp} (e : LamX.ExtN H H') : Ext z H H' := ⟨fun b u q n _ _ => e b u q fun ps w => by rw [w] at n; exact n⟩
theorem GOk.extN {z : Zt} {H H' : Hp} {g : G} (G1 : GOk z H g) (e : LamX.ExtN H H') (t : LamX.Tabs z.T H') : GOk z H' g :=
  ⟨e _ _ G1.p (fun ps w => by cases w), e _ _ G1.l (fun ps w => by cases w), e _ _ G1.c (fun ps w => by cases w), G1.ne, t⟩
section
variable {X : Cx} {z : Zt} {W : WX} {kb : Kd} {fb : Ep} {x a : Str} {g CS c P : Addr} {k : Nat} {pg : Arguments} {bg : List Stmt} {sg : Scope} {dV kV doc pm cdv ct oc : Value} {an od : Option Addr} {osl : Array (Option Value)} {Ng : List Str}
    {params : Arguments} {body : Expr} {scope : Scope} {p lpos pos : Pos} {pks : List Str}
theorem de_caught (hg : Gl X x) (hm : X.mg x = some (.ref g)) (hk : PySem.W.keepIn X.K (.ref g) = true)
    (lk : X.K.lookup g = some ⟨oc, od, .func (PySem.W.fnOf x x pg bg sg dV kV doc pm an cdv ct), osl⟩) (hcg : PySem.W.codeIn X.K cdv x = true) (hb : L2.Binds X.K (PySem.W.fnOf x x pg bg sg dV kV doc pm an cdv ct) [a] []) (Sg : FnScope Ng [a] sg) (hNg : Ng[0]? = some a) (hva : Vis sg a)
    (hG : LamX.GivesTo X Ng x sg g cdv bg a (X.env.qual ++ "<lambda>") (TCaught X.K CS)) (hpk : ∀ c ∈ pks, ∀ C, X.mg c = some (.ref C) → PySem.W.exmOne X.K (.ref C) (.ref CS) = some true)
    (TB : LamX.TabB X.base X.mg c P) (hcode : X.env.code = .ref c) (hmT : (P, X.env.qual ++ "<lambda>") ∈ z.T) (hu : ∀ p ∈ z.T, p.1 = P → p.2 = X.env.qual ++ "<lambda>") (hr : Room (k + 2) X.A) (L : LamX.LamS X.env.scope scope) (hdef : defaultsOf params X.env = ([], []))
    (hbind : ∀ (q : Str) (cl : List (Str × Addr)) (pm cv ctv : Value), bindArgs (PySem.W.kla_fn "<lambda>" q params body scope cl pm cv ctv) ⟨[], []⟩ = pure [])
    (hbody : ∀ (A : Around) (outer : List PySem.Env) (s : Shared) (H : Hp) (E : XK) (f c' : Addr), Room k (A.deeper (LamX.lamEnv X scope s.heap.objs.size f c')) → Takes (LamX.lamCx X A outer s H E scope f c') (fun cls dd _ H => E cls dd H) →
      DE (LamX.lamCx X A outer s H E scope f c') z (fun cls dd _ H => E cls dd H) kb body fb)
    (hdb : (x == ("__debug__" : Str)) = false := by decide) (hd : (a == ("__debug__" : Str)) = false := by decide) (hcd : (a == ("__classdict__" : Str)) = false := by decide) :
    DE X z W .new (.Call (.Name x p) [.Lambda params body scope lpos] [] pos) (eCaught pks fb) := by
  refine de_of (LamX.pe_lamcall (t := fun E => tE X z (fun cls dd _ H => E cls dd H) kb fb) hg hm hk lk hcg hb Sg hNg hva hG TB hcode hmT hu hr L hdef hbind (fun A outer s H E f c' hr' => hbody A outer s H E f c' hr' (takes_of rfl rfl rfl rfl)) hdb hd hcd) fun σ H ρ gs Mu Q E G1 hx => ⟨G1.tb, fun H1 eN T1 Q' hQ => ?_⟩
  have e1 : Ext z H H1 := Ext.ofN eN
  have G2 : GOk z H1 gs := G1.extN eN T1
  have E1 := E.ext G1 e1 G2
  refine ⟨ρ, gs, Mu, E1, G2, ?_⟩
  unfold eCaught at hx
  cases q : fb ρ gs with
  | stuck => rw [q] at hx; exact hx.elim
  | ok d g' =>
    rw [q] at hx
    exact fun v H' e2 G3 _ => hQ v H' (hx .non H' (e1.trans e2) G3 (RK.new_of .non rfl))
  | exc cn fl l g' =>
    rw [q] at hx
    dsimp only at hx
    by_cases hc : cn ∈ pks
    · rw [if_pos hc] at hx
      intro cls dd H' e2 G3 ⟨C, h1, h2, h3⟩
      subst h2
      refine ⟨hpk cn hc C h1, fun b hb => ?_⟩
      have M3 := E1.mu.ext (g := gs) e2 G3
      have nb : b ∉ Mu := M3.new hb
      have s3 : Same H' (upd H' b (ExV (.ref C) dd b)) := same_upd' hb
      refine hx (.ref b) _ ((e1.trans e2).trans (Ext.of s3)) (G3.same s3) (RK.new_of ?_ rfl)
      rcases h3 with ⟨rfl, rfl, rfl⟩ | ⟨dx, v, d, rfl, rfl, h5, h6, h7⟩
      · exact .exc0 nb h1 upd_same
      · exact .exc1 nb h5 h1 upd_same (s3 _ _ h6) (h7.ext M3 G3 (Ext.of s3))
    · rw [if_neg hc] at hx
      exact hx.elim
end
end DL
set_option Elab.async false
set_option linter.all false
set_option maxRecDepth 100000
set_option maxHeartbeats 2000000
/-! The value layer, part 14: is, in, comparisons in a row, isinstance. -/
namespace DL
open PySem PySem.Spec PyProof.Rows L2

section
variable {X : Cx} {z : Zt} {W : WX} {k ka kb kc : Kd} {e a b c : Expr} {fa fb fc : Ep} {pos : Pos}
/-! ### is -/
theorem PR.none_iff {K : PySem.W.Frag} {mg : Str → Option Value} {Mu : List Addr} {H : Hp} {v : V} {d : D} (r : PR K mg z Mu H v d) : v = .non ↔ d = .non := by
  rcases r with r | ⟨a, rfl, _, _, _, _, c⟩
  · cases r <;> simp
  · cases c <;> simp
theorem op_dIs : DOp X z .new (compareOp .Is) dIs := by
  intro pins s σ H Mu g x y v u dx dy d Q I m G1 rx ry px py hd q
  cases dy <;> try (cases dx <;> simp only [dIs, reduceCtorEq] at hd; done)
  · have e := py.non
    subst e
    refine op_isN pins s σ H x .non v u Q I rx ry ⟨rfl, q _ H Same.refl ?_⟩
    have hn := px.none_iff
    have hd' : d = .bl (decide (x = .non)) := by
      by_cases h : dx = .non
      · subst h
        have := hn.mpr rfl
        subst this
        exact (Option.some.inj hd).symm
      · have hx : ¬ x = .non := fun w => h (hn.mp w)
        rw [decide_eq_false hx]
        cases dx <;> first | exact absurd rfl h | exact (Option.some.inj hd).symm
    rw [hd']
    exact RK.bl
  · cases dx <;> simp only [dIs, reduceCtorEq, Option.some.injEq] at hd
    subst hd
    have e1 := px.bl
    have e2 := py.bl
    subst e1 e2
    exact op_is_bl pins s σ H _ _ v u Q I rx ry ⟨_, _, rfl, rfl, q _ H Same.refl RK.bl⟩
theorem op_dIsN : DOp X z .new (compareOp .IsNot) dIsN := by
  intro pins s σ H Mu g x y v u dx dy d Q I m G1 rx ry px py hd q
  cases dy <;> try (cases dx <;> simp only [dIsN, dIs, reduceCtorEq] at hd; done)
  · have e := py.non
    subst e
    refine op_notN pins s σ H x .non v u Q I rx ry ⟨rfl, q _ H Same.refl ?_⟩
    have hn := px.none_iff
    have hd' : d = .bl (!decide (x = .non)) := by
      by_cases h : dx = .non
      · subst h
        have := hn.mpr rfl
        subst this
        exact (Option.some.inj hd).symm
      · have hx : ¬ x = .non := fun w => h (hn.mp w)
        rw [decide_eq_false hx]
        cases dx <;> first | exact absurd rfl h | exact (Option.some.inj hd).symm
    rw [hd']
    exact RK.bl
  · cases dx <;> simp only [dIsN, dIs, reduceCtorEq, Option.some.injEq] at hd
    subst hd
    have e1 := px.bl
    have e2 := py.bl
    subst e1 e2
    exact op_isnot_bl pins s σ H _ _ v u Q I rx ry ⟨_, _, rfl, rfl, q _ H Same.refl RK.bl⟩
/-! ### in, of a list, a tuple -/
def dInB (x y : D) : Option Bool :=
  match y with
  | .lst l => match x.py, D.pys l with
    | some d, some xs => if SeqAt.shaped d = true ∧ SeqAt.shaped (.list xs) = true then some (xs.any fun w => PyData.eqv w d) else none
    | _, _ => none
  | .tup l => match x.py, D.pys l with
    | some d, some xs => if SeqAt.shaped d = true ∧ SeqAt.shaped (.list xs) = true then some (xs.any fun w => PyData.eqv w d) else none
    | _, _ => none
  | _ => none
/-- a number in a set of numbers -/
def inSet (x : D) (l : List D) : Option Bool := match x, intsOf l with
  | .int k, some ns => some (decide (k ∈ ns))
  | _, _ => none
def inDct (x : D) (l : List (D × D)) : Option Bool := if kOk l x = true then some (look l x).isSome else none
def dIn (x y : D) : Option D := match y with
  | .set l => (inSet x l).map D.bl
  | .dct l => (inDct x l).map D.bl
  | y => (dInB x y).map D.bl
def dNotIn (x y : D) : Option D := match y with
  | .set l => (inSet x l).map fun c => D.bl (!c)
  | .dct l => (inDct x l).map fun c => D.bl (!c)
  | y => (dInB x y).map fun c => D.bl (!c)
theorem inSet_some {x : D} {l : List D} {c : Bool} (h : inSet x l = some c) : ∃ (k : Int) (ns : List Int), x = .int k ∧ l = ns.map D.int ∧ c = decide (k ∈ ns) := by
  unfold inSet at h
  split at h
  · rename_i k ns q
    cases h
    exact ⟨k, ns, rfl, intsOf_eq q, rfl⟩
  · cases h
theorem map_int_inj : ∀ {ns ms : List Int}, ns.map D.int = ms.map D.int → ns = ms
  | [], [], _ => rfl
  | [], _ :: _, h => by cases h
  | _ :: _, [], h => by cases h
  | n :: ns, m :: ms, h => by
    rw [List.map_cons, List.map_cons] at h
    injection h with h1 h2
    injection h1 with h1
    rw [h1, map_int_inj h2]
theorem PR.set {K : PySem.W.Frag} {mg : Str → Option Value} {z : Zt} {Mu : List Addr} {H : Hp} {v : V} {ns : List Int} (r : PR K mg z Mu H v (.set (ns.map D.int))) : ∃ a S, v = .ref a ∧ H a = some (.set S ns.length) ∧ (∀ k, S k = decide (k ∈ ns)) ∧ ns.Nodup := by
  rcases r with r | ⟨_, _, _, _, _, _, c⟩
  · generalize hd : D.set (ns.map D.int) = d at r
    cases r with
    | @set a S ms n h hS hn =>
      injection hd with hd
      have e := map_int_inj hd
      subst e
      exact ⟨a, S, rfl, h, hS, hn⟩
    | _ => cases hd
  · cases c
theorem dInB_some {x y : D} {c : Bool} (h : dInB x y = some c) : ∃ l d xs, (y = .lst l ∨ y = .tup l) ∧ x.py = some d ∧ D.pys l = some xs ∧ SeqAt.shaped d = true ∧ SeqAt.shaped (.list xs) = true ∧ c = xs.any fun w => PyData.eqv w d := by
  cases y <;> simp only [dInB, reduceCtorEq] at h
  · split at h
    · rename_i d xs q1 q2
      obtain ⟨⟨h1, h2⟩, e⟩ := opt_if h
      exact ⟨_, d, xs, .inr rfl, q1, q2, h1, h2, e.symm⟩
    · cases h
  · split at h
    · rename_i d xs q1 q2
      obtain ⟨⟨h1, h2⟩, e⟩ := opt_if h
      exact ⟨_, d, xs, .inl rfl, q1, q2, h1, h2, e.symm⟩
    · cases h
theorem py_of_lst {l : List D} {xs : List PyData} (h : D.pys l = some xs) : (D.lst l).py = some (.list xs) := by rw [D.py, h]
theorem py_of_tup {l : List D} {xs : List PyData} (h : D.pys l = some xs) : (D.tup l).py = some (.tuple xs) := by rw [D.py, h]
theorem op_dIn (hX : XG X) : DOp X z .new (compareOp .In) dIn := by
  intro pins s σ H Mu g x y v u dx dy d Q I m G1 rx ry px py hd q
  by_cases hset : ∃ l, dy = .set l
  · obtain ⟨l, rfl⟩ := hset
    obtain ⟨c, hc, rfl⟩ := Option.map_eq_some_iff.mp hd
    obtain ⟨k, ns, rfl, rfl, rfl⟩ := inSet_some hc
    have e := px.int
    subst e
    obtain ⟨a, S, rfl, ha, hS, _⟩ := py.set
    obtain ⟨tk, rfl⟩ := rx
    cases ry
    exact wpAny_inSet_of (intKind_is _ _ _ _) rfl (I.hok a _ ha) ⟨.bl (decide (k ∈ ns)), H, I.tok _, by rw [hS] <;> rfl, q _ H Same.refl RK.bl⟩
  by_cases hdct : ∃ l, dy = .dct l
  · obtain ⟨l, rfl⟩ := hdct
    obtain ⟨c, hc, rfl⟩ := Option.map_eq_some_iff.mp hd
    obtain ⟨hk, rfl⟩ := opt_if hc
    have hu : X.A.units + 1 < cLine := by have := hX.eq; omega
    exact dct_in hu I py px ry rx hk fun s' I' => ⟨.bl _, H, I', rfl, q _ H Same.refl RK.bl⟩
  have hd : (dInB dx dy).map (D.bl) = some d := by
    cases dy <;> first | exact hd | exact absurd ⟨_, rfl⟩ hset | exact absurd ⟨_, rfl⟩ hdct
  obtain ⟨c, hc, rfl⟩ := Option.map_eq_some_iff.mp hd
  obtain ⟨l, p, xs, hy, h1, h2, s1, s2, rfl⟩ := dInB_some hc
  obtain ⟨as, r1⟩ := px.reads I rx h1
  have hu : X.A.units + 65 < cLine := by have := hX.room.un; omega
  rcases hy with rfl | rfl
  · obtain ⟨bs, r2⟩ := py.reads I ry (py_of_lst h2)
    exact SeqAt.in_list_reads r2 r1 (SeqAt.canLay_of_shaped s2) (SeqAt.canLay_of_shaped s1) (room_in_shaped s1 hu) ⟨.bl _, H, I, rfl, q _ H Same.refl RK.bl⟩
  · obtain ⟨bs, r2⟩ := py.reads I ry (py_of_tup h2)
    exact SeqAt.in_tuple_reads r2 r1 (SeqAt.canLay_of_shaped s2) (SeqAt.canLay_of_shaped s1) (room_in_shaped s1 hu) ⟨.bl _, H, I, rfl, q _ H Same.refl RK.bl⟩
theorem op_dNotIn (hX : XG X) : DOp X z .new (compareOp .NotIn) dNotIn := by
  intro pins s σ H Mu g x y v u dx dy d Q I m G1 rx ry px py hd q
  by_cases hset : ∃ l, dy = .set l
  · obtain ⟨l, rfl⟩ := hset
    obtain ⟨c, hc, rfl⟩ := Option.map_eq_some_iff.mp hd
    obtain ⟨k, ns, rfl, rfl, rfl⟩ := inSet_some hc
    have e := px.int
    subst e
    obtain ⟨a, S, rfl, ha, hS, _⟩ := py.set
    obtain ⟨tk, rfl⟩ := rx
    cases ry
    exact wpAny_notInSet_of (intKind_is _ _ _ _) rfl (I.hok a _ ha) ⟨.bl (!decide (k ∈ ns)), H, I.tok _, by rw [hS] <;> rfl, q _ H Same.refl RK.bl⟩
  by_cases hdct : ∃ l, dy = .dct l
  · obtain ⟨l, rfl⟩ := hdct
    obtain ⟨c, hc, rfl⟩ := Option.map_eq_some_iff.mp hd
    obtain ⟨hk, rfl⟩ := opt_if hc
    have hu : X.A.units + 1 < cLine := by have := hX.eq; omega
    exact dct_notIn hu I py px ry rx hk fun s' I' => ⟨.bl _, H, I', rfl, q _ H Same.refl RK.bl⟩
  have hd : (dInB dx dy).map (fun c => D.bl (!c)) = some d := by
    cases dy <;> first | exact hd | exact absurd ⟨_, rfl⟩ hset | exact absurd ⟨_, rfl⟩ hdct
  obtain ⟨c, hc, rfl⟩ := Option.map_eq_some_iff.mp hd
  obtain ⟨l, p, xs, hy, h1, h2, s1, s2, rfl⟩ := dInB_some hc
  obtain ⟨as, r1⟩ := px.reads I rx h1
  have hu : X.A.units + 65 < cLine := by have := hX.room.un; omega
  rcases hy with rfl | rfl
  · obtain ⟨bs, r2⟩ := py.reads I ry (py_of_lst h2)
    exact SeqAt.notIn_list_reads r2 r1 (SeqAt.canLay_of_shaped s2) (SeqAt.canLay_of_shaped s1) (room_in_shaped s1 hu) ⟨.bl _, H, I, rfl, q _ H Same.refl RK.bl⟩
  · obtain ⟨bs, r2⟩ := py.reads I ry (py_of_tup h2)
    exact SeqAt.notIn_tuple_reads r2 r1 (SeqAt.canLay_of_shaped s2) (SeqAt.canLay_of_shaped s1) (room_in_shaped s1 hu) ⟨.bl _, H, I, rfl, q _ H Same.refl RK.bl⟩
/-! ### a op b op' c -/
def eChain (h h' : D → D → Option D) (fa fb fc : Ep) : Ep := fun ρ => do
  let x ← fa ρ
  let y ← fb ρ
  let r ← ofOpt (h x y)
  match r with
  | .bl true => do
    let w ← fc ρ
    ofOpt (h' y w)
  | .bl false => M.pure (.bl false)
  | _ => stuck
theorem all_chain {d : D} {m : M D} {P : D → G → Prop} {E : Str → Str → List D → G → Prop} {g : G} (h : ((match d with | .bl true => m | .bl false => M.pure (.bl false) | _ => stuck : M D) g).all P E) : (d = .bl true ∧ (m g).all P E) ∨ (d = .bl false ∧ P (.bl false) g) := by
  cases d with
  | bl b => cases b <;> first | exact .inl ⟨rfl, h⟩ | exact .inr ⟨rfl, h⟩
  | _ => exact h.elim
variable {op op' : CmpOp} {h h' : D → D → Option D}
theorem de_chain (ho : DOp X z .new (compareOp op) h) (ho' : DOp X z .new (compareOp op') h') (ha : DE X z W ka a fa) (hb : DE X z W kb b fb) (hc : DE X z W kc c fc) (hm : lastMarks [op, op'] [b, c] = false := by with_unfolding_all rfl) :
    DE X z W .new (.Compare a [op, op'] [b, c] pos) (eChain h h' fa fb fc) := by
  refine ⟨fun pins s σ H Q I ⟨ρ, g, Mu, E, G1, hx⟩ => ?_⟩
  refine Compare_chain (de_run ha I E G1 (R.all_imp (R.all_bind hx) (fun dx g1 hx v u H1 s1 I1 r1 e1 G2 E1 k1 => chain_link ?_) fun _ _ _ _ h => h)) hm
  refine de_run hb I1 E1 G2 (R.all_imp (Raising.all (R.all_bind hx) e1) (fun dy g2 hx v' u' H2 s2 I2 r2 e2 G3 E2 k2 => ?_) fun _ _ _ _ h => h)
  obtain ⟨d, hd, hx⟩ := R.all_opt (R.all_bind hx)
  have p1 : PR X.K X.mg z Mu H2 v dx := (k1.peek E.mu E1.mu G2).ext E1.mu G2 e2
  have p2 : PR X.K X.mg z Mu H2 v' dy := k2.peek E1.mu E2.mu G3
  refine thn (ho pins s2 σ H2 Mu g2 v v' u u' dx dy d (fun w H3 => Same H2 H3 ∧ RK X.K X.mg z .new H2 Mu H3 w d) I2 E2.mu G3 r1 r2 p1 p2 hd fun w H3 s3 k3 => ⟨s3, k3⟩) fun w s3 ⟨w', H3, I3, r3, sm, k3⟩ => ?_
  have G4 := G3.same sm
  have E3 := E2.ext G3 (Ext.of sm) G4
  have e13 := (e1.trans e2).trans (Ext.of sm)
  have kb := k3.peek E2.mu E3.mu G4
  rcases all_chain hx with ⟨rfl, hy⟩ | ⟨rfl, hy⟩
  · obtain rfl := kb.bl
    cases r3
    refine wpAny_truthy_bool (ite_tt (chain_last (de_run hc I3 E3 G4 (R.all_imp (Raising.all (R.all_bind hy) e13) (fun dw g3 hx v3 u3 H4 s4 I4 r4 e4 G5 E4 k4 => ?_) fun _ _ _ _ h => h))))
    obtain ⟨d', hd', hx⟩ := R.all_opt hx
    refine ho' pins s4 σ H4 Mu g3 v' v3 u' u3 dy dw d' Q I4 E4.mu G5 r2 r4 (p2.ext E2.mu G3 ((Ext.of sm).trans e4)) (k4.peek E3.mu E4.mu G5) hd' fun w5 H5 s5 k5 => ?_
    exact hx w5 H5 ((e13.trans e4).trans (Ext.of s5)) (G5.same s5) (k5.back (e13.trans e4) G5)
  · obtain rfl := kb.bl
    cases r3
    exact wpAny_truthy_bool (ite_ff ⟨.bl false, H3, I3, rfl, hy (.bl false) H3 e13 G4 RK.bl⟩)
theorem dt_chain (ho : DOp X z .new (compareOp op) h) (ho' : DOp X z .new (compareOp op') h') (ha : DE X z W ka a fa) (hb : DE X z W kb b fb) (hc : DE X z W kc c fc) (hm : lastMarks [op, op'] [b, c] = false := by with_unfolding_all rfl) :
    DT X z W (.Compare a [op, op'] [b, c] pos) (eTr (eChain h h' fa fb fc)) := by
  refine ⟨fun pins s σ H Q I ⟨ρ, g, Mu, E, G1, hx⟩ => ?_⟩
  have hx : ((eChain h h' fa fb fc ρ g).bind fun d => (match d with | .bl b => M.pure b | _ => stuck : M Bool)).all (fun b g' => ∀ H', Ext z H H' → GOk z H' g' → Q b H') (XW X z W Mu σ H) := hx
  have hx := R.all_bind hx
  refine isTrue_chain (de_run ha I E G1 (R.all_imp (R.all_bind hx) (fun dx g1 hx v u H1 s1 I1 r1 e1 G2 E1 k1 => test_link ?_) fun _ _ _ _ h => h)) hm
  refine de_run hb I1 E1 G2 (R.all_imp (Raising.all (R.all_bind hx) e1) (fun dy g2 hx v' u' H2 s2 I2 r2 e2 G3 E2 k2 => ?_) fun _ _ _ _ h => h)
  obtain ⟨d, hd, hx⟩ := R.all_opt (R.all_bind hx)
  have p1 : PR X.K X.mg z Mu H2 v dx := (k1.peek E.mu E1.mu G2).ext E1.mu G2 e2
  have p2 : PR X.K X.mg z Mu H2 v' dy := k2.peek E1.mu E2.mu G3
  refine thn (ho pins s2 σ H2 Mu g2 v v' u u' dx dy d (fun w H3 => Same H2 H3 ∧ RK X.K X.mg z .new H2 Mu H3 w d) I2 E2.mu G3 r1 r2 p1 p2 hd fun w H3 s3 k3 => ⟨s3, k3⟩) fun w s3 ⟨w', H3, I3, r3, sm, k3⟩ => ?_
  have G4 := G3.same sm
  have E3 := E2.ext G3 (Ext.of sm) G4
  have e13 := (e1.trans e2).trans (Ext.of sm)
  have kb := k3.peek E2.mu E3.mu G4
  rcases all_chain hx with ⟨rfl, hy⟩ | ⟨rfl, hy⟩
  · obtain rfl := kb.bl
    cases r3
    refine wpAny_truthy_bool (ite_tt (test_last (de_run hc I3 E3 G4 (R.all_imp (Raising.all (R.all_bind hy) e13) (fun dw g3 hx v3 u3 H4 s4 I4 r4 e4 G5 E4 k4 => ?_) fun _ _ _ _ h => h))))
    obtain ⟨d', hd', hx⟩ := R.all_opt hx
    obtain ⟨b, rfl, hx⟩ := all_tr hx
    refine thn (ho' pins s4 σ H4 Mu g3 v' v3 u' u3 dy dw (.bl b) (fun w H5 => Same H4 H5 ∧ RK X.K X.mg z .new H4 Mu H5 w (.bl b)) I4 E4.mu G5 r2 r4 (p2.ext E2.mu G3 ((Ext.of sm).trans e4)) (k4.peek E3.mu E4.mu G5) hd' fun w5 H5 s5 k5 => ⟨s5, k5⟩) fun w5 s5 ⟨w', H5, I5, r5, sm5, k5⟩ => ?_
    have G6 := G5.same sm5
    have E5 := E4.ext G5 (Ext.of sm5) G6
    obtain rfl := (k5.peek E4.mu E5.mu G6).bl
    cases r5
    exact wpAny_truthy_bool ⟨H5, I5, hx H5 ((e13.trans e4).trans (Ext.of sm5)) G6⟩
  · obtain rfl := kb.bl
    cases r3
    obtain ⟨b, hb, hx⟩ := all_tr (d := .bl false) hy
    cases hb
    exact wpAny_truthy_bool (ite_ff ⟨H3, I3, hx H3 e13 G4⟩)
/-! ### isinstance -/
theorem de_ty {x : Str} {n : String} (hg : Gl X x) (hm : X.mg x = none) (hv : bootBuiltins x = some (.type n)) (hn : x ≠ "__name__" := by decide) (hd : (x == ("__debug__" : Str)) = false := by decide) : DE X z W .new (.Name x pos) (eC (.ty n)) :=
  de_const (v := .ty n) (pe_bltn hg hm hv rfl hn hd) (fun _ _ => .ty n) rfl
def tyN : D → Option String
  | .non => some "NoneType"
  | .bl _ => some "bool"
  | .int _ => some "int"
  | .str _ => some "str"
  | .tup _ => some "tuple"
  | .lst _ => some "list"
  | .dct _ => some "dict"
  | _ => none
/-- what isinstance says: sub of two classes of the text, cls: a class of the text of no built-in kind -/
def fIsi (sub : Str → Str → Option Bool) (cls : Str → Bool) : List D → Option D
  | [.exc c _ [], .fn c'] => (sub c c').map D.bl
  | [d, .fn c'] => match tyN d with
    | some _ => if cls c' = true then some (.bl false) else none
    | none => none
  | [d, .ty n] => match tyN d with
    | some t => (kitB t n).map D.bl
    | none => none
  | _ => none
structure IsiOk (K : PySem.W.Frag) (mg : Str → Option Value) (sub : Str → Str → Option Bool) (cls : Str → Bool) : Prop where
  own : ∀ c c' b C C', sub c c' = some b → mg c = some (.ref C) → mg c' = some (.ref C') → ExcC K C ∧ PySem.W.kitOne K (.ref C) (.ref C') = some b
  not : ∀ c' C', cls c' = true → mg c' = some (.ref C') → ∀ t ∈ ["NoneType", "bool", "int", "str", "tuple", "list", "dict"], PySem.W.kitOne K (.type t) (.ref C') = some false
theorem tyN_mem {d : D} {t : String} (h : tyN d = some t) : t ∈ ["NoneType", "bool", "int", "str", "tuple", "list", "dict"] := by
  cases d <;> simp only [tyN, reduceCtorEq, Option.some.injEq] at h <;> subst h <;> simp
/-- what isinstance asks of a value of a built-in kind -/
theorem kit_D {pins : List (Addr × Obj)} {s : Shared} {σ : L2.St} {H : Hp} {Mu : List Addr} {v : V} {u : Value} {d : D} {t : String} (I : Inv X pins σ H s) (rx : RelV v u) (p : PR X.K X.mg z Mu H v d) (ht : tyN d = some t) :
    ∃ P : Heap → Prop, PySem.W.KitX X.K u (.type t) P ∧ P s.heap ∧ u ≠ .builtin "__main__.__loader__#opaque" := by
  cases d <;> simp only [tyN, reduceCtorEq, Option.some.injEq] at ht <;> subst ht
  · have e := p.non
    subst e
    exact kit_of I rx (.base .non)
  · have e := p.bl
    subst e
    exact kit_of I rx (.base (.bl _))
  · have e := p.int
    subst e
    exact kit_of I rx (.base (.int _))
  · have e := p.str
    subst e
    exact kit_of I rx (.base (.str _))
  · obtain ⟨a, xs, rfl, _, hx, _⟩ := p.tup
    exact kit_of I rx (.base (.tup hx))
  · obtain ⟨a, xs, rfl, hx, _⟩ := p.lst
    exact kit_of I rx (.base (.lst hx))
  · obtain ⟨a, o, es, ep, ks, vs, rfl, ho, _, hex, _⟩ := p.dct
    cases rx
    exact ⟨_, PySem.W.kitx_dict, ⟨o, (I.hok a _ ho).1, hex.1⟩, fun z => nomatch z⟩
theorem call_isi' {sub : Str → Str → Option Bool} {cls : Str → Bool} (ok : IsiOk X.K X.mg sub cls) : DCall X z .new (.builtin "isinstance") (fIsi sub cls) := by
  intro pins s σ H Mu g xs us ds d Q I m G1 rv rs hd q
  match ds, rs, hd with
  | [dx, dy], rs, hd =>
    obtain ⟨v, w, rfl, p1, p2⟩ := rs.two
    obtain ⟨u1, u2, rfl, r1, r2⟩ := vals2 rv
    have fin : ∀ {t : Value} {P : Heap → Prop} {b : Bool}, PySem.W.KitX X.K u1 t P → P s.heap → u1 ≠ .builtin "__main__.__loader__#opaque" → PySem.W.kitOne X.K t u2 = some b → d = .bl b → wpAny (model X.prog X.w) X.A (call (.builtin "isinstance") [u1, u2]) (EP X pins σ Q) X.xe s := fun {t P b} Z hp hn e ed =>
      PySem.W.kia_one Z I.kIn hp e hn fun tk => ⟨.bl b, H, I.tok tk, rfl, by rw [ed] at q; exact q _ H Same.refl RK.bl⟩
    have isfn : ∀ c', dy = .fn c' → ∃ C', X.mg c' = some (.ref C') ∧ u2 = .ref C' := fun c' e => by
      subst e
      rcases p2 with p | ⟨_, _, _, _, _, _, c⟩
      · cases p with | fn hm => exact ⟨_, hm, r2⟩
      · cases c
    have ofTy : ∀ t, tyN dx = some t → (∃ n, dy = .ty n ∧ (kitB t n).map D.bl = some d) ∨ (∃ c', dy = .fn c' ∧ cls c' = true ∧ d = .bl false) → wpAny (model X.prog X.w) X.A (call (.builtin "isinstance") [u1, u2]) (EP X pins σ Q) X.xe s := fun t ht h => by
      obtain ⟨P, Z, hp, hn⟩ := kit_D I r1 p1 ht
      rcases h with ⟨n, e, hk⟩ | ⟨c', e, hc, ed⟩
      · subst e
        obtain ⟨b, hb, rfl⟩ := Option.map_eq_some_iff.mp hk
        have e2 : u2 = .type n := by
          rcases p2 with p | ⟨_, _, _, _, _, _, c⟩
          · cases p; exact r2
          · cases c
        subst e2
        exact fin Z hp hn (kit_ty hb) rfl
      · obtain ⟨C', hm, rfl⟩ := isfn c' e
        exact fin Z hp hn (ok.not c' C' hc hm t (tyN_mem ht)) ed
    have ofB : ∀ t, tyN dx = some t → fIsi sub cls [dx, dy] = some d → wpAny (model X.prog X.w) X.A (call (.builtin "isinstance") [u1, u2]) (EP X pins σ Q) X.xe s := fun t ht hd => by
      refine ofTy t ht ?_
      cases dy with
      | ty n =>
        refine .inl ⟨n, rfl, ?_⟩
        cases dx <;> simp only [tyN, reduceCtorEq, Option.some.injEq] at ht <;> subst ht <;> exact hd
      | fn c' =>
        refine .inr ⟨c', rfl, ?_⟩
        have hd' : (if cls c' = true then some (D.bl false) else none) = some d := by
          cases dx <;> simp only [tyN, reduceCtorEq, Option.some.injEq] at ht <;> exact hd
        obtain ⟨h1, h2⟩ := opt_if hd'
        exact ⟨h1, h2.symm⟩
      | _ => cases dx <;> simp only [tyN, reduceCtorEq, Option.some.injEq] at ht <;> cases hd
    cases dx with
    | exc c f l =>
      cases l with
      | cons _ _ => cases dy <;> simp only [fIsi, tyN, reduceCtorEq] at hd
      | nil =>
        cases dy <;> simp only [fIsi, tyN, reduceCtorEq] at hd
        rename_i c'
        obtain ⟨b, hb, rfl⟩ := Option.map_eq_some_iff.mp hd
        obtain ⟨C', hm, rfl⟩ := isfn c' rfl
        rcases p1 with p | ⟨_, _, _, _, _, _, cc⟩
        · cases p with
          | @exc0 a _ C _ hC ha =>
            obtain ⟨ec, ek⟩ := ok.own c c' b C C' hb hC hm
            cases r1
            obtain ⟨⟨oe, fs, e1, e2, e3⟩, _, _⟩ := I.hok a _ ha
            refine fin (PySem.W.handS_kitx_exc (ox := oe) ec.hg ec.hk ec.hs ec.hd ec.ha ec.hn ec.ht ec.hm) ?_ (fun z => nomatch z) ek rfl
            obtain ⟨oc, od, odt, osl⟩ := oe
            obtain ⟨z1, z2⟩ := e2
            dsimp only at z1 z2 e3
            subst z1 z2 e3
            exact ⟨e1, rfl, rfl, trivial⟩
        · cases cc
    | non => exact ofB _ rfl hd
    | bl _ => exact ofB _ rfl hd
    | int _ => exact ofB _ rfl hd
    | str _ => exact ofB _ rfl hd
    | tup _ => exact ofB _ rfl hd
    | lst _ => exact ofB _ rfl hd
    | dct _ => exact ofB _ rfl hd
    | _ => cases dy <;> simp only [fIsi, tyN, reduceCtorEq] at hd
  | [], _, hd => simp only [fIsi, reduceCtorEq] at hd
  | [_], _, hd => simp only [fIsi, reduceCtorEq] at hd
  | _ :: _ :: _ :: _, _, hd => simp only [fIsi, reduceCtorEq] at hd
end
end DL
set_option Elab.async false
set_option linter.all false
set_option maxRecDepth 100000
set_option maxHeartbeats 2000000
/-! The value layer, part 15: repr; several names assigned at once; targets that are no plain name. -/
namespace DL
open PySem PySem.Spec PyProof.Rows L2

/-! ### repr -/
def okR (p : PyData) : Bool := p.showable && p.leavesShort 13 && decide (p.weight ≤ 2 ^ 20) && decide (p.depth ≤ 64)
def fRepr : List D → Option D
  | [d] => match d.py with
    | some p => if okR p = true then some (.str p.shown) else none
    | none => none
  | _ => none
theorem shown_scal : (PyData.none).shown = ("None" : Str) ∧ (∀ b, (PyData.bool b).shown = if b then ("True" : Str) else "False") ∧ (∀ i, (PyData.int i).shown = toString i) ∧ ∀ x, (PyData.str x).shown = reprText x :=
  ⟨by simp only [PyData.shown], fun b => by simp only [PyData.shown], fun i => by simp only [PyData.shown], fun x => by simp only [PyData.shown]⟩
section
variable {X : Cx} {z : Zt}
theorem call_repr' (hgd : GdOk X.A X.base) (hX : XG X) : DCall X z .new (.builtin "repr") fRepr := by
  intro pins s σ H Mu g xs us ds d Q I m G1 rv rs hd q
  match ds, rs, hd with
  | [dx], rs, hd =>
    obtain ⟨v, rfl, p1⟩ := rs.one
    obtain ⟨u, rfl, r1⟩ := vals1 rv
    unfold fRepr at hd
    dsimp only at hd
    split at hd
    · rename_i p hp
      obtain ⟨ho, rfl⟩ := opt_if hd
      unfold okR at ho
      simp only [Bool.and_eq_true, decide_eq_true_eq] at ho
      obtain ⟨⟨⟨o1, o2⟩, o3⟩, o4⟩ := ho
      have sz : p.shown.length ≤ sizeLine := PyData.shown_fits (by decide) (by decide) o2 o3
      have fin : ∀ (h' : Heap) (t : Tok) (tk : Nat), (∀ b o, s.heap.get? b = some o → h'.get? b = some o) → EP X pins σ Q (.str p.shown t) { s with heap := h', toks := tk } := fun h' t tk k => ⟨.str p.shown, H, I.kept (t' := tk) k, ⟨t, rfl⟩, q _ H Same.refl RK.str⟩
      obtain ⟨e1, e2, e3, e4⟩ := shown_scal
      obtain ⟨as, rd, ns⟩ := p1.reads2 I r1 hp
      have sy : SysD s.heap := let ⟨o, es, ep, e1, e2⟩ := hgd.2; ⟨o, es, ep, I.bk _ _ e1, e2⟩
      have ref : ∀ {a : Addr}, u = .ref a → wpAny (model X.prog X.w) X.A (call (.builtin "repr") [u]) (EP X pins σ Q) X.xe s := fun {a} e => by
        subst e
        refine repr_of_reads' rd o1 (fun _ => ns sy) hgd.1 ?_ (fun _ _ e => e) (fun h' t tk k => fin h' t tk k) sz
        have := hX.room.un
        omega
      cases rd with
      | none => have := fin s.heap s.toks (s.toks + 1) (fun _ _ e => e); rw [e1] at this; exact PySem.P.repr_of_none this
      | bool b => have := fin s.heap s.toks (s.toks + 1) (fun _ _ e => e); rw [e2] at this; exact PySem.P.repr_of_bool this
      | int i t => have := fin s.heap s.toks (s.toks + 1) (fun _ _ e => e); rw [e3] at this; exact PySem.P.repr_of_int (by simpa [PyData.showable] using o1) this
      | str x t => have := fin s.heap s.toks (s.toks + 1) (fun _ _ e => e); rw [e4] at this; rw [e4] at sz; exact PySem.P.repr_of_str this sz
      | list _ _ _ _ => exact ref rfl
      | tuple _ _ _ _ => exact ref rfl
      | dict _ _ _ _ _ => exact ref rfl
    · cases hd
  | [], _, hd => cases hd
  | _ :: _ :: _, _, hd => cases hd
end

/-! ### values that are held while others are made -/
section
variable {K : PySem.W.Frag} {mg : Str → Option Value} {z : Zt} {P : Snap} {Mu : List Addr} {H H' : Hp} {v : V} {σ τ : L2.St} {ρ θ : Env} {g g' : G} {x : Option Sl}
theorem EnvOk.pre (hl : ρ.length = σ.length) (E : EnvOk K mg z Mu H (σ ++ τ) (ρ ++ θ)) : EnvOk K mg z Mu H σ ρ := by
  have up : ∀ {i : Nat} {s : Option Sl}, ρ[i]? = some s → (ρ ++ θ)[i]? = some s ∧ i < σ.length := fun {i s} h => by
    have hi := (List.getElem?_eq_some_iff.mp h).1
    exact ⟨by rw [List.getElem?_append_left hi]; exact h, hl ▸ hi⟩
  refine ⟨hl, E.mu, fun i t d q => ?_, fun i j d d' a q1 q2 s1 s2 => ?_⟩
  · obtain ⟨w, h1, h2⟩ := E.val i t d (up q).1
    exact ⟨w, by rw [List.getElem?_append_left (up q).2] at h1; exact h1, h2⟩
  · exact E.sep i j d d' a (up q1).1 (up q2).1 (by rw [List.getElem?_append_left (up q1).2]; exact s1) (by rw [List.getElem?_append_left (up q2).2]; exact s2)
theorem SOk.pre (hl : ρ.length = σ.length) (S : SOk K mg z P Mu H (σ ++ τ) (ρ ++ θ) g) : SOk K mg z P Mu H σ ρ g := by
  refine ⟨S.env.pre hl, S.g, S.ext, S.sub, S.m0, fun i d a q s => ?_, S.kp, S.km, S.kz, S.kt⟩
  have hi := (List.getElem?_eq_some_iff.mp q).1
  exact S.own i d a (by rw [List.getElem?_append_left hi]; exact q) (by rw [List.getElem?_append_left (hl ▸ hi)]; exact s)
theorem SOk.app (S : SOk K mg z P Mu H σ ρ g) : SOk K mg z P Mu H (σ ++ [none]) (ρ ++ [none]) g := by
  have dn : ∀ {i : Nat} {s : Sl}, (ρ ++ [none])[i]? = some (some s) → ρ[i]? = some (some s) ∧ i < σ.length := fun {i s} h => by
    by_cases hi : i < ρ.length
    · rw [List.getElem?_append_left hi] at h
      exact ⟨h, S.env.len ▸ hi⟩
    · rw [List.getElem?_append_right (by omega)] at h
      cases e : i - ρ.length with
      | zero => rw [e] at h; cases h
      | succ n => rw [e] at h; cases h
  refine ⟨⟨by rw [List.length_append, List.length_append, S.env.len]; rfl, S.env.mu, fun i t d q => ?_, fun i j d d' a q1 q2 s1 s2 => ?_⟩, S.g, S.ext, S.sub, S.m0, fun i d a q s => ?_, S.kp, S.km, S.kz, S.kt⟩
  · obtain ⟨w, h1, h2⟩ := S.env.val i t d (dn q).1
    exact ⟨w, by rw [List.getElem?_append_left (dn q).2]; exact h1, h2⟩
  · rw [List.getElem?_append_left (dn q1).2] at s1
    rw [List.getElem?_append_left (dn q2).2] at s2
    exact S.env.sep i j d d' a (dn q1).1 (dn q2).1 s1 s2
  · rw [List.getElem?_append_left (dn q).2] at s
    exact S.own i d a (dn q).1 s
/-- the last one held goes into a local -/
theorem SOk.pop (i : Nat) (hl : ρ.length = σ.length) (S : SOk K mg z P Mu H (σ ++ [some v]) (ρ ++ [x]) g) : SOk K mg z P Mu H (σ.set i (some v)) (ρ.set i x) g := by
  have dn : ∀ {k : Nat} {s : Sl}, (ρ.set i x)[k]? = some (some s) → ∃ j, (ρ ++ [x])[j]? = some (some s) ∧ (∀ w, (σ.set i (some v))[k]? = some w ↔ (σ ++ [some v])[j]? = some w) ∧ (j = if k = i then ρ.length else k) ∧ k < ρ.length := fun {k s} h => by
    have hk : k < ρ.length := by
      have h1 := (List.getElem?_eq_some_iff.mp h).1
      rwa [List.length_set] at h1
    by_cases hi : k = i
    · subst hi
      rw [List.getElem?_set_self hk] at h
      refine ⟨ρ.length, by rw [List.getElem?_append_right (Nat.le_refl _), Nat.sub_self]; exact h, fun w => ?_, by rw [if_pos rfl], hk⟩
      rw [List.getElem?_set_self (hl ▸ hk), hl, List.getElem?_append_right (Nat.le_refl _), Nat.sub_self]
      rfl
    · rw [List.getElem?_set_ne (Ne.symm hi)] at h
      refine ⟨k, by rw [List.getElem?_append_left hk]; exact h, fun w => ?_, by rw [if_neg hi], hk⟩
      rw [List.getElem?_set_ne (Ne.symm hi), List.getElem?_append_left (hl ▸ hk)]
  refine ⟨⟨by rw [List.length_set, List.length_set]; exact hl, S.env.mu, fun k t d q => ?_, fun k l d d' a q1 q2 s1 s2 => ?_⟩, S.g, S.ext, S.sub, S.m0, fun k d a q s => ?_, S.kp, S.km, S.kz, S.kt⟩
  · obtain ⟨j, h1, h2, _⟩ := dn q
    obtain ⟨w, h3, h4⟩ := S.env.val j t d h1
    exact ⟨w, (h2 _).mpr h3, h4⟩
  · obtain ⟨j1, h1, h2, h3, h4⟩ := dn q1
    obtain ⟨j2, k1, k2, k3, k4⟩ := dn q2
    have e := S.env.sep j1 j2 d d' a h1 k1 ((h2 _).mp s1) ((k2 _).mp s2)
    rw [h3, k3] at e
    by_cases c1 : k = i <;> by_cases c2 : l = i
    · rw [c1, c2]
    · rw [if_pos c1, if_neg c2] at e; omega
    · rw [if_neg c1, if_pos c2] at e; omega
    · rw [if_neg c1, if_neg c2] at e; exact e
  · obtain ⟨j, h1, h2, _⟩ := dn q
    exact S.own j d a h1 ((h2 _).mp s)
/-- one more is held -/
theorem SOk.push {k : Kd} {H1 : Hp} {d : D} {g1 : G} (S : SOk K mg z P Mu H σ ρ g) (e1 : Ext z H H1) (G1 : GOk z H1 g1) (own : Bool) (hk : k = if own = true then .new else .sh) (r : RK K mg z k H Mu H1 v d) :
    ∃ Mu', SOk K mg z P Mu' H1 (σ ++ [some v]) (ρ ++ [some (own && d.box, d)]) g1 := by
  obtain ⟨Mu', S'⟩ := S.app.store (i := σ.length) e1 G1 own hk r
  refine ⟨Mu', ?_⟩
  have e2 : (σ ++ [none]).set σ.length (some v) = σ ++ [some v] := by rw [List.set_append_right _ _ (Nat.le_refl _), Nat.sub_self]; rfl
  have e3 : (ρ ++ [none]).set σ.length (some (own && d.box, d)) = ρ ++ [some (own && d.box, d)] := by rw [← S.env.len, List.set_append_right _ _ (Nat.le_refl _), Nat.sub_self]; rfl
  rw [e2, e3] at S'
  exact S'
end
section
variable {X : Cx} {n : En} {a b c e : Expr} {fa fb fc : Ep} {px py pq pt pos : Pos} {i j l : Nat} {x y w : Str} {o1 o2 o3 : Bool} {kt k2 : Nat} {pt2 : Pos}
abbrev kO (o : Bool) : Kd := if o = true then .new else .sh
theorem ds_par2 (hX : XG X) (hi : X.N[i]? = some x) (hj : X.N[j]? = some y) (hij : i ≠ j) (hx : X.env.scope.names.lookup x = some .local) (hy : X.env.scope.names.lookup y = some .local) (ha : DE X n.z n.W (kO o1) a fa) (hb : DE X n.z n.W (kO o2) b fb)
    (hw : swappedStores [.Tuple [.Name x px, .Name y py] kt pt] (.Tuple [a, b] k2 pt2) X.env = pure (some [x, y]) := by rfl) (hs : swapsWithSole [.Tuple [.Name x px, .Name y py] kt pt] (.Tuple [a, b] k2 pt2) pos.line X.env = pure false := by rfl)
    (s1 : starEach [a, b] X.env = (false, eval a X.env) :: starEach [b] X.env := by rfl) (s2 : starEach [b] X.env = (false, eval b X.env) :: starEach [] X.env := by rfl) :
    DS X n (.Assign [.Tuple [.Name x px, .Name y py] kt pt] (.Tuple [a, b] k2 pt2) pos) (sPar o1 o2 i j fa fb) := by
  refine ⟨fun pins s σ H D I ⟨ρ, g, Mu, S, hq⟩ => ?_⟩
  refine (ps_par hX.calm hX.nd hi hj hij hx hy (pa_cons ha (pa_cons hb pa_nil s2) s1) hw hs).run pins s σ H D I ⟨ρ, g, Mu, S.env, S.g, R.all_imp (EW.x S (R.all_bind hq)) (fun d g1 hq v H1 e1 G2 k1 => ?_) fun _ _ _ _ h => h⟩
  obtain ⟨M1, S1⟩ := S.push e1 G2 o1 rfl k1
  refine ⟨ρ, g1, M1, S1.env.pre S.env.len, S1.g, R.all_imp (EW.x (S1.pre S.env.len) (R.all_bind hq)) (fun d' g2 hq v' H2 e2 G3 k2 => ?_) fun _ _ _ _ h => h⟩
  · obtain ⟨M2, S2⟩ := S1.push e2 G3 o2 rfl k2
    refine ⟨v, v', rfl, ?_⟩
    have li : i < σ.length := by rw [I.len]; exact (List.getElem?_eq_some_iff.mp hi).1
    have lj : j < σ.length := by rw [I.len]; exact (List.getElem?_eq_some_iff.mp hj).1
    have T1 := SOk.pop j S1.env.len S2
    rw [List.set_append_left _ _ lj, List.set_append_left _ _ (S.env.len ▸ lj)] at T1
    have T2 := SOk.pop i (by rw [List.length_set, List.length_set]; exact S.env.len) T1
    rw [List.set_comm _ _ hij]
    exact hq _ H2 M2 T2
/-- a, b, c = .. -/
def sPar3 (o1 o2 o3 : Bool) (i j l : Nat) (f1 f2 f3 : Ep) : Ss := fun ρ => do
  let d ← f1 ρ
  let d' ← f2 ρ
  let d'' ← f3 ρ
  M.pure (.nx (((ρ.set l (some (o3 && d''.box, d''))).set j (some (o2 && d'.box, d'))).set i (some (o1 && d.box, d))))
theorem ds_par3 (hX : XG X) (hi : X.N[i]? = some x) (hj : X.N[j]? = some y) (hl : X.N[l]? = some w) (hij : i ≠ j) (hil : i ≠ l) (hjl : j ≠ l) (hx : X.env.scope.names.lookup x = some .local) (hy : X.env.scope.names.lookup y = some .local) (hz : X.env.scope.names.lookup w = some .local)
    (ha : DE X n.z n.W (kO o1) a fa) (hb : DE X n.z n.W (kO o2) b fb) (hc : DE X n.z n.W (kO o3) c fc)
    (hw : swappedStores [.Tuple [.Name x px, .Name y py, .Name w pq] kt pt] (.Tuple [a, b, c] k2 pt2) X.env = pure (some [x, y, w]) := by rfl) (hs : swapsWithSole [.Tuple [.Name x px, .Name y py, .Name w pq] kt pt] (.Tuple [a, b, c] k2 pt2) pos.line X.env = pure false := by rfl)
    (s1 : starEach [a, b, c] X.env = (false, eval a X.env) :: starEach [b, c] X.env := by rfl) (s2 : starEach [b, c] X.env = (false, eval b X.env) :: starEach [c] X.env := by rfl) (s3 : starEach [c] X.env = (false, eval c X.env) :: starEach [] X.env := by rfl) :
    DS X n (.Assign [.Tuple [.Name x px, .Name y py, .Name w pq] kt pt] (.Tuple [a, b, c] k2 pt2) pos) (sPar3 o1 o2 o3 i j l fa fb fc) := by
  refine ⟨fun pins s σ H D I ⟨ρ, g, Mu, S, hq⟩ => ?_⟩
  refine (ps_par3 hX.calm hX.nd hi hj hl hij hil hjl hx hy hz (pa_cons ha (pa_cons hb (pa_cons hc pa_nil s3) s2) s1) hw hs).run pins s σ H D I ⟨ρ, g, Mu, S.env, S.g, R.all_imp (EW.x S (R.all_bind hq)) (fun d g1 hq v H1 e1 G2 k1 => ?_) fun _ _ _ _ h => h⟩
  obtain ⟨M1, S1⟩ := S.push e1 G2 o1 rfl k1
  refine ⟨ρ, g1, M1, S1.env.pre S.env.len, S1.g, R.all_imp (EW.x (S1.pre S.env.len) (R.all_bind hq)) (fun d' g2 hq v' H2 e2 G3 k2 => ?_) fun _ _ _ _ h => h⟩
  obtain ⟨M2, S2⟩ := S1.push e2 G3 o2 rfl k2
  have S2' := SOk.pre S1.env.len S2
  refine ⟨ρ, g2, M2, S2'.env.pre S.env.len, S2.g, R.all_imp (EW.x (S2'.pre S.env.len) (R.all_bind hq)) (fun d'' g3 hq v'' H3 e3 G4 k3 => ?_) fun _ _ _ _ h => h⟩
  obtain ⟨M3, S3⟩ := S2.push e3 G4 o3 rfl k3
  refine ⟨v, v', v'', rfl, ?_⟩
  have li : i < σ.length := by rw [I.len]; exact (List.getElem?_eq_some_iff.mp hi).1
  have lj : j < σ.length := by rw [I.len]; exact (List.getElem?_eq_some_iff.mp hj).1
  have ll : l < σ.length := by rw [I.len]; exact (List.getElem?_eq_some_iff.mp hl).1
  have el := S.env.len
  have T1 := SOk.pop l S2.env.len S3
  have ll1 : l < (σ ++ [some v]).length := by rw [List.length_append]; omega
  have ll2 : l < (ρ ++ [some (o1 && d.box, d)]).length := by rw [List.length_append]; omega
  rw [List.set_append_left _ _ ll1, List.set_append_left _ _ ll2, List.set_append_left _ _ ll, List.set_append_left _ _ (el ▸ ll)] at T1
  have T2 := SOk.pop j (by rw [List.length_append, List.length_append, List.length_set, List.length_set, el]; rfl) T1
  rw [List.set_append_left _ _ (by rw [List.length_set]; exact lj), List.set_append_left _ _ (by rw [List.length_set, el]; exact lj)] at T2
  have T3 := SOk.pop i (by rw [List.length_set, List.length_set, List.length_set, List.length_set]; exact el) T2
  have ec : ((σ.set i (some v)).set j (some v')).set l (some v'') = ((σ.set l (some v'')).set j (some v')).set i (some v) := by
    rw [List.set_comm _ _ hjl, List.set_comm _ _ hil, List.set_comm _ _ hij]
  rw [ec]
  exact hq _ H3 M3 T3
/-- a target that is no plain name, a value that is shared -/
def sAsg (f : Ep) (t : D → Env → Option Env) : Ss := fun ρ => do
  let d ← f ρ
  let ρ' ← ofOpt (t d ρ)
  M.pure (.nx ρ')
theorem ds_asg {tg : Expr} {gt : TG} {t : D → Env → Option Env} {is : List Nat} (he : DE X n.z n.W .sh e fa) (hg : TgOk X n.z tg gt t is) (hs : swapsWithSole [tg] e pos.line X.env = pure false := by rfl) (hw : swappedStores [tg] e X.env = pure none := by rfl)
    (h1 : (assignEach [tg] X.env).map (·.2) = [assign tg X.env] := by rfl) : DS X n (.Assign [tg] e pos) (sAsg fa t) := by
  refine ⟨fun pins s σ H D I ⟨ρ, g, Mu, S, hq⟩ => ?_⟩
  refine (ps_asg he hg.pg hs hw h1).run pins s σ H D I ⟨ρ, g, Mu, S.env, S.g, R.all_imp (EW.x S (R.all_bind hq)) (fun d g1 hq v H1 e1 G2 k1 => ?_) fun _ _ _ _ h => h⟩
  obtain ⟨ρ', ht, hq⟩ := R.all_opt (R.all_bind hq)
  have S1 := S.step e1 G2
  exact hg.ok v d σ H1 ρ ρ' Mu _ S1.env k1 ht fun σ' E' T' => hq σ' H1 Mu (S1.tch E' T')
end
end DL
set_option Elab.async false
set_option linter.all false
set_option maxRecDepth 100000
set_option maxHeartbeats 2000000
/-! The value layer, part 16: the state of the draws, looked at and changed. -/
namespace DL
open PySem PySem.Spec PyProof.Rows L2

/-- the parameter that holds the state -/
def tSt (X : Cx) (z : Zt) (i : Nat) (key : Str) : TE := fun σ H Q => ∃ ρ g Mu v, EnvOk X.K X.mg z Mu H σ ρ ∧ GOk z H g ∧ shAt ρ i = some .st ∧ valV (stK z g) (.inr key : Key) = some v ∧ Q v H
theorem Rep.st_inv {K : PySem.W.Frag} {mg : Str → Option Value} {z : Zt} {Mu : List Addr} {H : Hp} {v : V} (r : Rep K mg z Mu H v .st) : v = .ref z.p := by cases r; rfl
theorem EnvOk.stAt {K : PySem.W.Frag} {mg : Str → Option Value} {z : Zt} {Mu : List Addr} {H : Hp} {σ : L2.St} {ρ : Env} {i : Nat} (E : EnvOk K mg z Mu H σ ρ) (h : shAt ρ i = some .st) : σ[i]? = some (some (.ref z.p)) := by
  obtain ⟨v, hv, r⟩ := E.val i false .st (shAt_some h)
  rw [hv, Rep.st_inv r]
section
variable {X : Cx} {z : Zt} {W : WX} {k ka kb : Kd} {e a b : Expr} {f fa fb : Ep} {i j m : Nat} {s key : Str} {p1 p2 p3 p4 p5 pos : Pos}
theorem pe_st (hX : XG X) (h : PE X (.Name s p1) (tVar i)) (hs : NoSl (.Constant (.str key) j p2) := by exact fun _ _ => rfl) : PE X (.Subscript (.Name s p1) (.Constant (.str key) j p2) pos) (tSt X z i key) := by
  have hu : X.A.units + 1 < cLine := by have := hX.room.un; omega
  refine ⟨fun pins s σ H Q I ⟨ρ, g, Mu, v, E, G1, hr, hv, q⟩ => ?_⟩
  refine (pe_dget hu h pe_str hs).run pins s σ H Q I ⟨_, E.stAt hr, ?_⟩
  refine ⟨z.p, v, rfl, ?_, q⟩
  have w := DGet.k (k := (.inr key : Key)) G1.p
  rw [hv] at w
  exact w
def onSt {α : Type} (i : Nat) (f : M α) (ρ : Env) : M α := match shAt ρ i with
  | some .st => f
  | _ => stuck
theorem all_onSt {α : Type} {i : Nat} {f : M α} {ρ : Env} {g : G} {P : α → G → Prop} {E : Str → Str → List D → G → Prop} (h : (onSt i f ρ g).all P E) : shAt ρ i = some .st ∧ (f g).all P E := by
  unfold onSt at h
  cases q : shAt ρ i with
  | none => rw [q] at h; exact h.elim
  | some d => rw [q] at h; cases d <;> first | exact ⟨rfl, h⟩ | exact h.elim
def eStL (i : Nat) : Ep := onSt i fun g => .ok (.int g.left) g
def eStT (i : Nat) : Ep := onSt i fun g => .ok (.int g.turn) g
theorem de_stL (hX : XG X) (h : PE X (.Name s p1) (tVar i)) : DE X z W .new (.Subscript (.Name s p1) (.Constant (.str "left") j p2) pos) (eStL i) :=
  de_of (pe_st hX h) fun σ H ρ g Mu Q E G1 hx => by
    obtain ⟨hs, hx⟩ := all_onSt hx
    exact ⟨ρ, g, Mu, .int g.left, E, G1, hs, rfl, hx _ H Ext.refl G1 RK.int⟩
theorem de_stT (hX : XG X) (h : PE X (.Name s p1) (tVar i)) : DE X z W .new (.Subscript (.Name s p1) (.Constant (.str "turn") j p2) pos) (eStT i) :=
  de_of (pe_st hX h) fun σ H ρ g Mu Q E G1 hx => by
    obtain ⟨hs, hx⟩ := all_onSt hx
    exact ⟨ρ, g, Mu, .int g.turn, E, G1, hs, rfl, hx _ H Ext.refl G1 RK.int⟩
/-- a list of numbers that is not empty -/
def rNeNil : R2 := fun x y H Q => ∃ a b, ∃ ns : List Int, x = .ref a ∧ y = .ref b ∧ H a = some (.lst (ns.map V.int)) ∧ H b = some (.lst []) ∧ ns.length ≤ sizeLine ∧ Q (.bl (decide (ns ≠ []))) H
theorem pys_ints : ∀ ns : List Int, D.pys (ns.map D.int) = some (ns.map PyData.int)
  | [] => by rw [List.map_nil, D.pys]; rfl
  | n :: ns => by rw [List.map_cons, D.pys, D.py, pys_ints ns]; rfl
theorem ints_lay : ∀ ns : List Int, PyData.canLayAll0 (ns.map PyData.int) = true
  | [] => by simp [PyData.canLayAll0]
  | n :: ns => by simp [PyData.canLayAll0, PyData.canLay0, ints_lay ns]
theorem ints_depth : ∀ ns : List Int, PyData.depthAll (ns.map PyData.int) = 0
  | [] => by simp [PyData.depthAll]
  | n :: ns => by simp [PyData.depthAll, PyData.depth, ints_depth ns]
theorem ints_shaped (ns : List Int) : SeqAt.shaped (.list (ns.map PyData.int)) = true := by
  unfold SeqAt.shaped
  rw [Bool.and_eq_true, decide_eq_true_eq]
  refine ⟨by rw [PyData.canLay0]; exact ints_lay ns, ?_⟩
  rw [PyData.depth, ints_depth]
  omega
theorem op_neNil (hX : XG X) : OpR X (compareOp .NotEq) rNeNil := by
  intro pins s σ H x y v u Q I rx ry ⟨a, b, ns, ex, ey, ha, hb, _, q⟩
  subst ex ey
  have r1 : Rep X.K X.mg ⟨0, 0, 0, [], [], [], Str.empty⟩ [] H (.ref a) (.lst (ns.map D.int)) := .lst (by simp) ha (Reps.ints ns)
  have r2 : Rep X.K X.mg ⟨0, 0, 0, [], [], [], Str.empty⟩ [] H (.ref b) (.lst []) := .lst (by simp) hb .nil
  obtain ⟨as, h1⟩ := r1.reads I rx (py_of_lst (pys_ints ns))
  obtain ⟨bs, h2⟩ := r2.reads I ry (py_of_lst (l := []) (xs := []) (pys_ints []))
  refine ne_dataH h1 h2 (ints_shaped ns) (ints_shaped []) hX.eq ⟨.bl _, H, I, rfl, ?_⟩
  have e : (!PyData.eqv (.list (ns.map PyData.int)) (.list [])) = decide (ns ≠ []) := by
    cases ns with
    | nil => decide +kernel
    | cons n ns =>
      rw [List.map_cons]
      simp [PyData.eqv, PyData.eqvAll]
  rw [e]
  exact q
def tLsNe (i : Nat) (l : G → List Int) : Et := onSt i fun g => .ok (decide (l g ≠ [])) g
theorem dt_lsNe {l : G → List Int} {p : Zt → Addr} (hX : XG X) (hp : ∀ H g, GOk z H g → H (p z) = some (.lst ((l g).map V.int))) (hk : ∀ g, valV (stK z g) (.inr key : Key) = some (.ref (p z))) (h : PE X (.Name s p1) (tVar i)) :
    DT X z W (.Compare (.Subscript (.Name s p1) (.Constant (.str key) j p2) p3) [.NotEq] [.List [] p4] pos) (tLsNe i l) := by
  refine ⟨fun pins s σ H Q I ⟨ρ, g, Mu, E, G1, hx⟩ => ?_⟩
  obtain ⟨hs, hx⟩ := all_onSt hx
  refine (pt_cmpR (op_neNil hX) (pe_st (z := z) hX h) (pe_lst pa_nil) (nomark _)).run pins s σ H Q I ⟨ρ, g, Mu, _, E, G1, hs, hk g, by decide, fun b hb => ?_⟩
  have hl := hp H g G1
  have sm : Same H (upd H b (.lst [])) := same_upd' hb
  have hz : (l g).length ≤ sizeLine := by
    have w := (I.hok _ _ hl).1
    rw [List.length_map] at w
    exact w
  exact ⟨p z, b, l g, rfl, rfl, sm _ _ hl, upd_same, hz, _, rfl, hx _ (Ext.of sm) (G1.same sm)⟩
theorem dt_large (hX : XG X) (h : PE X (.Name s p1) (tVar i)) : DT X z W (.Compare (.Subscript (.Name s p1) (.Constant (.str "large") j p2) p3) [.NotEq] [.List [] p4] pos) (tLsNe i (·.large)) :=
  dt_lsNe (p := fun z => z.l) hX (fun _ _ G1 => G1.l) (fun _ => rfl) h
theorem dt_cells (hX : XG X) (h : PE X (.Name s p1) (tVar i)) : DT X z W (.Compare (.Subscript (.Name s p1) (.Constant (.str "cells") j p2) p3) [.NotEq] [.List [] p4] pos) (tLsNe i (·.cells)) :=
  dt_lsNe (p := fun z => z.c) hX (fun _ _ G1 => G1.c) (fun _ => rfl) h
def eCellLen (i : Nat) : Ep := onSt i fun g => .ok (.int g.cells.length) g
theorem de_cellLen (hX : XG X) (hg : Gl X "len") (hm : X.mg "len" = none) (h : PE X (.Name s p1) (tVar i)) : DE X z W .new (.Call (.Name "len" p3) [.Subscript (.Name s p1) (.Constant (.str "cells") j p2) p4] [] pos) (eCellLen i) :=
  de_of (pe_callB call_len hg hm rfl (pa_cons (pe_st (z := z) hX h) pa_nil)) fun σ H ρ g Mu Q E G1 hx => by
    obtain ⟨hs, hx⟩ := all_onSt hx
    refine ⟨ρ, g, Mu, .ref z.c, E, G1, hs, rfl, _, g.cells.length, rfl, .inl ⟨_, SqL.of G1.c, by rw [List.length_map]⟩, hx _ H Ext.refl G1 RK.int⟩
def eCellIx (i : Nat) (fb : Ep) : Ep := fun ρ => onSt i (do
  let d ← fb ρ
  match d with
  | .int k => fun g => match L2.atI g.cells k with
    | some c => .ok (.int c) g
    | none => .stuck
  | _ => stuck) ρ
theorem de_cellIx (hX : XG X) (h : PE X (.Name s p1) (tVar i)) (hb : DE X z W kb b fb) (hs : PlainIx b := by exact fun _ _ => rfl) : DE X z W .new (.Subscript (.Subscript (.Name s p1) (.Constant (.str "cells") j p2) p4) b pos) (eCellIx i fb) :=
  de_of (pe_ix ix_list (pe_st (z := z) hX h) hb hs) fun σ H ρ g Mu Q E G1 hx => by
    obtain ⟨hs, hx⟩ := all_onSt hx
    refine ⟨ρ, g, Mu, .ref z.c, E, G1, hs, rfl, ρ, g, Mu, E, G1, R.all_imp (R.all_bind hx) (fun d g1 hx v H1 e1 G2 k1 => ?_) fun _ _ _ _ h => h⟩
    cases d with
    | int n =>
      have e := (k1.peek E.mu (E.mu.ext (g := g) e1 G2) G2).int
      subst e
      dsimp only at hx
      cases q : L2.atI g1.cells n with
      | none => rw [q] at hx; exact hx.elim
      | some c =>
        rw [q] at hx
        refine ⟨z.c, _, n, .int c, rfl, rfl, SqL.of G2.c, ?_, hx _ H1 e1 G2 RK.int⟩
        unfold L2.atI at q ⊢
        rw [List.length_map]
        cases w : ixN g1.cells.length n with
        | none => rw [w] at q; cases q
        | some t =>
          rw [w] at q
          have q : g1.cells[t]? = some c := q
          show (g1.cells.map V.int)[t]? = _
          rw [List.getElem?_map, q]
          rfl
    | _ => exact hx.elim
def ePopL (i : Nat) : Ep := onSt i fun g => match g.large with
  | x :: xs => .ok (.int x) { g with large := xs }
  | [] => .stuck
theorem de_popL (hX : XG X) (h : PE X (.Name s p1) (tVar i)) (hbase : attributeBase (.Subscript (.Name s p1) (.Constant (.str "large") j p2) p4) "pop" X.env (eval (.Subscript (.Name s p1) (.Constant (.str "large") j p2) p4) X.env) = eval (.Subscript (.Name s p1) (.Constant (.str "large") j p2) p4) X.env := by rfl)
    (hfew : ((backTo pos (starEach [.Constant (.int 0) m p5] X.env)).all (fun x => !x.1) && (backToKw pos (keywordEach [] X.env)).all (fun x => x.1.isSome)
      && decide ([Expr.Constant (.int 0) m p5].length + ([] : List Keyword).length + (if ([] : List Keyword).isEmpty then 0 else 1) < 30)) = true := by rfl) (hline : (p3.endLine == pos.line) = true := by rfl) (hs : starEach [.Constant (.int 0) m p5] X.env = (false, eval (.Constant (.int 0) m p5) X.env) :: starEach [] X.env := by rfl) (hplain : (backTo pos (starEach [] X.env)).any (·.1) = false := by rfl) :
    DE X z W .new (.Call (.Attribute (.Subscript (.Name s p1) (.Constant (.str "large") j p2) p4) "pop" p3) [.Constant (.int 0) m p5] [] pos) (ePopL i) :=
  de_of (pe_bm PySem.F.plainAttrs_list PySem.F.slot_list_pop PySem.F.type_list_pop mt_popAt (pe_st (z := z) hX h) (pa_cons pe_int pa_nil) hbase hfew hline hs hplain) fun σ H ρ g Mu Q E G1 hx => by
    obtain ⟨hs, hx⟩ := all_onSt hx
    cases q : g.large with
    | nil => rw [q] at hx; exact hx.elim
    | cons x xs =>
      rw [q] at hx
      have hl := G1.l
      rw [q, List.map_cons] at hl
      refine ⟨ρ, g, Mu, .ref z.l, E, G1, hs, rfl, .inl ⟨rfl, _, SqL.of hl⟩, z.l, _, 0, 0, .int x, rfl, rfl, hl, by decide, by decide, seqIndex?_zero (by rw [List.length_cons]; omega), rfl, ?_⟩
      refine hx _ _ ⟨fun b u q _ h1 h2 => by rw [upd_ne h2]; exact q⟩ ⟨by rw [upd_ne (Ne.symm G1.pl.symm)]; exact G1.p, upd_same, by rw [upd_ne G1.ne.symm]; exact G1.c, G1.ne, fun t ht => ?_⟩ RK.int
      obtain ⟨ps, h1, h2, h3⟩ := G1.tb t ht
      refine ⟨ps, by rw [upd_ne (fun w => by rw [w, hl] at h1; cases h1)]; exact h1, h2, fun p v hv => ?_⟩
      obtain ⟨c, e1, e2⟩ := h3 p v hv
      exact ⟨c, e1, by rw [upd_ne (fun w => by rw [w, hl] at e2; cases e2)]; exact e2⟩
end
section
variable {X : Cx} {n : En} {k : Kd} {e : Expr} {f : Ep} {i j : Nat} {s : Str} {p1 p2 p3 pos : Pos}
theorem GOk.put {z : Zt} {H : Hp} {g g' : G} (G1 : GOk z H g) (hl : g'.large = g.large) (hc : g'.cells = g.cells) : GOk z (upd H z.p (.dK (stK z g'))) g' ∧ Ext z H (upd H z.p (.dK (stK z g'))) := by
  refine ⟨⟨upd_same, by rw [upd_ne G1.pl.symm, hl]; exact G1.l, by rw [upd_ne G1.pc.symm, hc]; exact G1.c, G1.ne, fun t ht => ?_⟩, ⟨fun b u q _ h1 _ => by rw [upd_ne h1]; exact q⟩⟩
  have hp := G1.p
  obtain ⟨ps, h1, h2, h3⟩ := G1.tb t ht
  refine ⟨ps, by rw [upd_ne (fun w => by rw [w, hp] at h1; cases h1)]; exact h1, h2, fun p v hv => ?_⟩
  obtain ⟨c, e1, e2⟩ := h3 p v hv
  exact ⟨c, e1, by rw [upd_ne (fun w => by rw [w, hp] at e2; cases e2)]; exact e2⟩
def sSt (i : Nat) (u : G → Int → G) (f : Ep) : Ss := fun ρ => do
  let d ← f ρ
  onSt i (match d with
    | .int v => fun g => .ok (.nx ρ) (u g v)
    | _ => stuck) ρ
theorem ds_st {key : Str} {u : G → Int → G} (hX : XG X) (hput : ∀ z g v, putK (stK z g) (.inr key : Key) (.int v) = stK z (u g v)) (hl : ∀ g v, (u g v).large = g.large) (hc : ∀ g v, (u g v).cells = g.cells) (h : PE X (.Name s p1) (tVar i)) (he : DE X n.z n.W k e f)
    (hs : swapsWith e (some (.Subscript (.Name s p1) (.Constant (.str key) j p2) p3)) pos.line X.env = pure false := by rfl) : DS X n (.Assign [.Subscript (.Name s p1) (.Constant (.str key) j p2) p3] e pos) (sSt i u f) := by
  have hu : X.A.units + 1 < cLine := by have := hX.room.un; omega
  refine ⟨fun pins s σ H D I ⟨ρ, g, Mu, S, hq⟩ => ?_⟩
  refine (ps_dput hu h pe_str he hs).run pins s σ H D I ⟨ρ, g, Mu, S.env, S.g, R.all_imp (EW.x S (R.all_bind hq)) (fun d g1 hq v H1 e1 G2 k1 => ?_) fun _ _ _ _ h => h⟩
  obtain ⟨hs, hq⟩ := all_onSt hq
  have S1 := S.step e1 G2
  cases d with
  | int w =>
    have ev := (k1.peek S.env.mu S1.env.mu G2).int
    subst ev
    refine ⟨_, S1.env.stAt hs, n.z.p, _, rfl, DPut.k (kvs := stK n.z g1) (k := (.inr key : Key)) G2.p (by show 4 < sizeLine; rw [sizeLine_eq]; decide), ?_⟩
    obtain ⟨G3, e3⟩ := G2.put (hl g1 w) (hc g1 w)
    rw [hput]
    exact hq σ _ Mu (S1.step e3 G3)
  | _ => exact hq.elim
def uL (g : G) (v : Int) : G := { g with left := v }
def uT (g : G) (v : Int) : G := { g with turn := v }
theorem ds_stL (hX : XG X) (h : PE X (.Name s p1) (tVar i)) (he : DE X n.z n.W k e f) (hs : swapsWith e (some (.Subscript (.Name s p1) (.Constant (.str "left") j p2) p3)) pos.line X.env = pure false := by rfl) :
    DS X n (.Assign [.Subscript (.Name s p1) (.Constant (.str "left") j p2) p3] e pos) (sSt i uL f) := ds_st hX (fun _ _ _ => rfl) (fun _ _ => rfl) (fun _ _ => rfl) h he hs
theorem ds_stT (hX : XG X) (h : PE X (.Name s p1) (tVar i)) (he : DE X n.z n.W k e f) (hs : swapsWith e (some (.Subscript (.Name s p1) (.Constant (.str "turn") j p2) p3)) pos.line X.env = pure false := by rfl) :
    DS X n (.Assign [.Subscript (.Name s p1) (.Constant (.str "turn") j p2) p3] e pos) (sSt i uT f) := ds_st hX (fun _ _ _ => rfl) (fun _ _ => rfl) (fun _ _ => rfl) h he hs
end
end DL
set_option Elab.async false
set_option linter.all false
set_option maxRecDepth 100000
set_option maxHeartbeats 2000000
/-! The value layer, part 17: what the top has written, by names; calls of defs by names; defs that make lambdas. -/
namespace DL
open PySem PySem.Spec PyProof.Rows L2

theorem XG.blk {X : Cx} {s : Shared} {H : Hp} {scope : Scope} {ce : PySem.Env} {fp : List Addr} (h : XG X) : XG (X.blk s H scope ce fp) := ⟨h.calm, h.room, h.nd⟩
theorem XG.lam {X : Cx} {A : Around} {outer : List PySem.Env} {s : Shared} {H : Hp} {E : XK} {scope : Scope} {f c' : Addr} {k : Nat} (h : XG X) (hr : Room k (A.deeper (LamX.lamEnv X scope s.heap.objs.size f c'))) : XG (LamX.lamCx X A outer s H E scope f c') := ⟨rfl, hr.mono (Nat.zero_le _), h.nd⟩

abbrev FDn (name : Str) (st : Stmt) (kV dc pm : Value) (an : Option Addr) (cd ct : Value) : FuncData := PySem.W.fnOf name name (defArgs st) (defBody st) (defScope st) .none kV dc pm an cd ct
/-- the def st stands under its name -/
def IsFn (K : PySem.W.Frag) (mg : Str → Option Value) (name : Str) (st : Stmt) : Prop := ∃ (f : Addr) (oc : Value) (od : Option Addr) (kV dc pm : Value) (an : Option Addr) (cd ct : Value) (sl : Array (Option Value)),
  mg name = some (.ref f) ∧ PySem.W.keepIn K (.ref f) = true ∧ K.lookup f = some ⟨oc, od, .func (FDn name st kV dc pm an cd ct), sl⟩ ∧ PySem.W.codeIn K cd name = true
/-- what a def of the name promises -/
def Cal (gd : Bool) (P : Program) (w : World) (K : PySem.W.Frag) (mg : Str → Option Value) (base : Heap) (T : List (Addr × Str)) (k : Nat) (name : Str) (st : Stmt) (ps : List Str) (kr : Kd) (cf : List D → M D) : Prop :=
  ∃ (f : Addr) (kV dc pm : Value) (an : Option Addr) (cd ct : Value), mg name = some (.ref f) ∧ PySem.W.keepIn K (.ref f) = true ∧ DFn gd P w K mg base T k f (FDn name st kV dc pm an cd ct) ps kr cf
/-- how the arguments are bound, of a def's text -/
def BindsT (name : Str) (st : Stmt) (ps : List Str) : Prop := ∀ (kV dc pm : Value) (an : Option Addr) (cd ct : Value) (us : List Value), us.length = ps.length → bindArgs (FDn name st kV dc pm an cd ct) ⟨us, []⟩ = pure (ps.zip us)
def KBindsT (name : Str) (st : Stmt) (ps ks : List Str) (pm : List Nat) (m : Nat) : Prop := ∀ (kV dc pmv : Value) (an : Option Addr) (cd ct : Value) (us ws : List Value), us.length = m → ws.length = ks.length → bindArgs (FDn name st kV dc pmv an cd ct) ⟨us, ks.zip ws⟩ = pure (ps.zip (pick pm (us ++ ws))) ∧ (pick pm (us ++ ws)).length = ps.length
section
variable {gd : Bool} {P : Program} {w : World} {K : PySem.W.Frag} {mg : Str → Option Value} {base : Heap} {T : List (Addr × Str)} {k : Nat} {name : Str} {st : Stmt} {N ps : List Str} {kr : Kd} {t : Ss} {cf : List D → M D}
theorem cal_of (F : IsFn K mg name st) (S : FnScope N ps (defScope st))
    (hbody : ∀ (f : Addr) (cdv : Value) (A : Around) (outer : List PySem.Env) (s : Shared) (H : Hp) (E : XK) (n : En), XG (cxOf (L2.CX P w) P w K mg base N name (defScope st) f cdv A outer s H E) → Room k (A.deeper (envOfC name (defScope st) s.heap.objs.size f cdv)) →
      Takes (cxOf (L2.CX P w) P w K mg base N name (defScope st) f cdv A outer s H E) n.W → (gd = true → GdOk A base) → n.k = kr → n.z.T = T → DSs (cxOf (L2.CX P w) P w K mg base N name (defScope st) f cdv A outer s H E) n (defBody st) t) (hcf : cf = fnB t N.length := by rfl) :
    Cal gd P w K mg base T (k + 1) name st ps kr cf := by
  obtain ⟨f, oc, od, kV, dc, pm, an, cd, ct, sl, h1, h2, h3, h4⟩ := F
  subst hcf
  exact ⟨f, kV, dc, pm, an, cd, ct, h1, h2, dfn_of h3 h4 S fun A outer s H E n hX hr tk hg hk hT => hbody f cd A outer s H E n hX hr tk hg hk hT⟩
theorem Cal.imp {cf' : List D → M D} (C : Cal gd P w K mg base T k name st ps kr cf) (h : ∀ ds g, cf' ds g = .stuck ∨ cf ds g = cf' ds g) : Cal gd P w K mg base T k name st ps kr cf' := by
  obtain ⟨f, kV, dc, pm, an, cd, ct, h1, h2, F⟩ := C
  exact ⟨f, kV, dc, pm, an, cd, ct, h1, h2, F.imp h⟩
end
section
variable {gd : Bool} {X : Cx} {z : Zt} {W : WX} {j k : Nat} {st : Stmt} {ps ks : List Str} {kr : Kd} {cf : List D → M D} {x : Str} {p pos : Pos} {e : Expr} {es : List Expr} {fs gs : Es} {kws : List Keyword}
theorem de_cal (C : Cal gd X.prog X.w X.K X.mg X.base z.T j x st ps kr cf) (hb : BindsT x st ps) (hgd : gd = true → GdOk X.A X.base) (tk : Takes X W) (hr : Room k X.A) (hj : j ≤ k) (hg : Gl X x) (ha : DAs X z W (e :: es) fs) (hal : AL fs ps.length)
    (hdb : (x == ("__debug__" : Str)) = false := by decide) (he : starEach (e :: es) X.env = (false, eval e X.env) :: starEach es X.env := by rfl) (hpl : (backTo pos (starEach es X.env)).any (·.1) = false := by rfl) :
    DE X z W kr (.Call (.Name x p) (e :: es) [] pos) (eCallF cf fs) := by
  obtain ⟨f, kV, dc, pm, an, cd, ct, h1, h2, F⟩ := C
  exact de_call hgd tk (F.mono hj) hr hg h1 h2 (.all (hb kV dc pm an cd ct)) ha hal hdb he hpl
theorem de_cal0 (C : Cal gd X.prog X.w X.K X.mg X.base z.T j x st [] kr cf) (hb : BindsT x st []) (hgd : gd = true → GdOk X.A X.base) (tk : Takes X W) (hr : Room k X.A) (hj : j ≤ k) (hg : Gl X x)
    (hdb : (x == ("__debug__" : Str)) = false := by decide) : DE X z W kr (.Call (.Name x p) [] [] pos) (eCallF cf sNil) := by
  obtain ⟨f, kV, dc, pm, an, cd, ct, h1, h2, F⟩ := C
  exact de_call0 hgd tk (F.mono hj) hr hg h1 h2 (.all (hb kV dc pm an cd ct)) hdb
theorem de_calP (C : Cal gd X.prog X.w X.K X.mg X.base z.T j x st ps kr cf) (hb : BindsT x st ps) (hgd : gd = true → GdOk X.A X.base) (tk : Takes X W) (hr : Room k X.A) (hj : j ≤ k) (hg : Gl X x) (ha : DA X z W (e :: es) fs) (hal : AL fs ps.length)
    (hdb : (x == ("__debug__" : Str)) = false := by decide) (he : starEach (e :: es) X.env = (false, eval e X.env) :: starEach es X.env := by rfl) (hpl : (backTo pos (starEach es X.env)).any (·.1) = false := by rfl) :
    DE X z W .new (.Call (.Name x p) (e :: es) [] pos) (eCallP cf fs) := by
  obtain ⟨f, kV, dc, pm, an, cd, ct, h1, h2, F⟩ := C
  exact de_callP hgd tk (F.mono hj) hr hg h1 h2 (.all (hb kV dc pm an cd ct)) ha hal hdb he hpl
theorem kb_of {K : PySem.W.Frag} {kV dc pmv : Value} {an : Option Addr} {cd ct : Value} {pm : List Nat} {m : Nat} (hb : KBindsT x st ps ks pm m) : KB K (FDn x st kV dc pmv an cd ct) ps ks pm m := fun s us ws _ h1 h2 =>
  ⟨.of_eq (hb kV dc pmv an cd ct us ws h1 h2).1, (hb kV dc pmv an cd ct us ws h1 h2).2⟩
theorem de_calK0 {pm : List Nat} (C : Cal gd X.prog X.w X.K X.mg X.base z.T j x st ps kr cf) (hb : KBindsT x st ps ks pm 0) (hgd : gd = true → GdOk X.A X.base) (tk : Takes X W) (hr : Room k X.A) (hj : j ≤ k) (hg : Gl X x) (hkw : DK X z W kws gs) (hal : AL gs ks.length)
    (hall : (backToKw pos (keywordEach kws X.env)).all (·.1.isSome) = true := by rfl) (hks : (backToKw pos (keywordEach kws X.env)).filterMap (·.1) = ks := by rfl)
    (hdb : (x == ("__debug__" : Str)) = false := by decide) (hpl : ((backTo pos (starEach [] X.env)).any (·.1) || (backToKw pos (keywordEach kws X.env)).any (·.1.isNone)) = false := by rfl) :
    DE X z W kr (.Call (.Name x p) [] kws pos) (eCallK cf pm sNil gs) := by
  obtain ⟨f, kV, dc, pmv, an, cd, ct, h1, h2, F⟩ := C
  exact de_callK0 hgd tk (F.mono hj) hr hg h1 h2 (kb_of hb) hkw hal hall hks hdb hpl
theorem de_calK {pm : List Nat} {m : Nat} (C : Cal gd X.prog X.w X.K X.mg X.base z.T j x st ps kr cf) (hb : KBindsT x st ps ks pm m) (hgd : gd = true → GdOk X.A X.base) (tk : Takes X W) (hr : Room k X.A) (hj : j ≤ k) (hg : Gl X x) (ha : DAs X z W (e :: es) fs) (hal0 : AL fs m) (hkw : DK X z W kws gs) (hal : AL gs ks.length)
    (hall : (backToKw pos (keywordEach kws X.env)).all (·.1.isSome) = true := by rfl) (hks : (backToKw pos (keywordEach kws X.env)).filterMap (·.1) = ks := by rfl)
    (hdb : (x == ("__debug__" : Str)) = false := by decide) (he : starEach (e :: es) X.env = (false, eval e X.env) :: starEach es X.env := by rfl)
    (hpl : ((backTo pos (starEach (e :: es) X.env)).any (·.1) || (backToKw pos (keywordEach kws X.env)).any (·.1.isNone)) = false := by rfl) :
    DE X z W kr (.Call (.Name x p) (e :: es) kws pos) (eCallK cf pm fs gs) := by
  obtain ⟨f, kV, dc, pmv, an, cd, ct, h1, h2, F⟩ := C
  exact de_callK hgd tk (F.mono hj) hr hg h1 h2 (kb_of hb) ha hal0 hkw hal hall hks hdb he hpl
end

/-! ### exception classes -/
structure ExcF (K : PySem.W.Frag) (C : Addr) : Prop where
  x : PySem.W.excIn K C [.type "ValueError", .type "Exception", .type "BaseException", .type "object"] "ValueError.__new__" = true
  kp : PySem.W.keepIn K (.ref C) = true
  ty : PySem.W.typeIn K (.ref C) = some (.type "type")
  ec : ExcC K C
def IsExc (K : PySem.W.Frag) (mg : Str → Option Value) (c : Str) : Prop := ∃ C, mg c = some (.ref C) ∧ ExcF K C
theorem ds_raiseC {X : Cx} {n : En} {x m : Str} {j : Nat} {p p2 pos pos2 : Pos} (hX : XG X) (tk : Takes X n.W) (F : IsExc X.K X.mg x) (hg : Gl X x) (hdb : (x == ("__debug__" : Str)) = false := by decide) :
    DS X n (.Raise (some (.Call (.Name x p) [.Constant (.str m) j p2] [] pos)) none pos2) (sRaise x) := by
  obtain ⟨C, h1, h2⟩ := F
  exact ds_raise hX tk PySem.F.excBase_ValueError h2.x h1 h2.kp (raises_own h2.ec.hs h2.ty) hg hdb
/-- a class of the text as a value -/
theorem de_cls {X : Cx} {z : Zt} {W : WX} {x : Str} {pos : Pos} (F : IsExc X.K X.mg x) (hg : Gl X x) (hd : (x == ("__debug__" : Str)) = false := by decide) : DE X z W .new (.Name x pos) (eC (.fn x)) := by
  obtain ⟨C, h1, h2⟩ := F
  exact de_glob_fn hg h1 hd
def IsInt (mg : Str → Option Value) (x : Str) (i : Int) : Prop := ∃ t, mg x = some (.int i t)
theorem de_gint {X : Cx} {z : Zt} {W : WX} {x : Str} {i : Int} {pos : Pos} (F : IsInt X.mg x i) (hg : Gl X x) (hd : (x == ("__debug__" : Str)) = false := by decide) : DE X z W .new (.Name x pos) (eC (.int i)) := by
  obtain ⟨t, h1⟩ := F
  exact de_glob_int hg h1 hd
def subOf (tbl : List (Str × Str × Bool)) (c c' : Str) : Option Bool := (tbl.find? fun t => t.1 == c && t.2.1 == c').map (·.2.2)
def IsiT (K : PySem.W.Frag) (mg : Str → Option Value) (t : Str × Str × Bool) : Prop := ∀ C C', mg t.1 = some (.ref C) → mg t.2.1 = some (.ref C') → ExcC K C ∧ PySem.W.kitOne K (.ref C) (.ref C') = some t.2.2
def IsiN (K : PySem.W.Frag) (mg : Str → Option Value) (c : Str) : Prop := ∀ C', mg c = some (.ref C') → ∀ t ∈ ["NoneType", "bool", "int", "str", "tuple", "list", "dict"], PySem.W.kitOne K (.type t) (.ref C') = some false
theorem isi_of {K : PySem.W.Frag} {mg : Str → Option Value} {tbl : List (Str × Str × Bool)} {cl : List Str} (h1 : ∀ t ∈ tbl, IsiT K mg t) (h2 : ∀ c ∈ cl, IsiN K mg c) : IsiOk K mg (subOf tbl) (fun c => cl.contains c) := by
  refine ⟨fun c c' b C C' h hC hC' => ?_, fun c' C' h hC => h2 c' (List.contains_iff_mem.mp h) C' hC⟩
  unfold subOf at h
  obtain ⟨t, ht, hb⟩ := Option.map_eq_some_iff.mp h
  have hm := List.mem_of_find?_eq_some ht
  have hp := List.find?_some ht
  rw [Bool.and_eq_true, beq_iff_eq, beq_iff_eq] at hp
  obtain ⟨rfl, rfl⟩ := hp
  subst hb
  exact h1 t hm C C' hC hC'
theorem kit_own {K : PySem.W.Frag} {C : Addr} {t : Value} {b : Bool} (hd : PySem.W.hasDictIn K C = true) (ht : PySem.W.typeIn K (.ref C) = some (.type "type")) (hn : (t == .ref C) = false) (hs : PySem.W.subIn K t (.ref C) = some b) : PySem.W.kitOne K t (.ref C) = some b := by
  unfold PySem.W.kitOne
  rw [hn]
  have hc : (PySem.W.clsIn K C).isSome = true := by
    obtain ⟨cd, hc, _⟩ := PySem.W.any_some hd
    rw [hc]; rfl
  unfold PySem.W.kitCls
  simp [hc, ht, hs]
end DL
set_option Elab.async false
set_option linter.all false
set_option maxRecDepth 100000
set_option maxHeartbeats 2000000
/-! The value layer, part 18: the end, with what is known of the caller; the first statement of the law. -/
namespace DL
open PySem PySem.Spec PyProof.Rows L2

abbrev tab0 : Obj := { cls := .none, data := .fields #[] }
section
variable {P : Program} {w : World} {K : PySem.W.Frag} {mg mb : Str → Option Value} {fa a : Addr} {cs : List (Addr × Addr)} {s : Shared} {vs : List Value} {ns : List Int}
/-- what is tracked at the start: the empty tables, the script (where it is none of the module's own objects) -/
structure Fst (K : PySem.W.Frag) (cs : List (Addr × Addr)) (a : Addr) (ob : Obj) (xs : List V) (H : Hp) : Prop where
  tb : ∀ p ∈ cs, H p.2 = some (.tbl #[])
  sc : SqL K H a xs
  only : ∀ b u, H b = some u → K.lookup b = none ∧ ((u = .tbl #[] ∧ b ∈ cs.map (·.2)) ∨ (b = a ∧ u = .frz ob (.lst xs)))
theorem fst_ex (KX : K.In s.heap) (hT : ∀ p ∈ cs, s.heap.get? p.2 = some tab0) (nT : ∀ p ∈ cs, K.lookup p.2 = none) (ha : s.heap.get? a = some { cls := .type "list", data := .seq vs.toArray }) (hi : IntsAre vs ns) (hl : ns.length ≤ sizeLine) :
    ∃ H : Hp, Fst K cs a { cls := .type "list", data := .seq vs.toArray } (ns.map V.int) H ∧ HOk P w H s.heap := by
  have rv := vals_ints hi
  have tabs : ∀ b, b ∈ cs.map (·.2) → s.heap.get? b = some tab0 ∧ K.lookup b = none := fun b hb => by
    obtain ⟨p, hp, rfl⟩ := List.mem_map.mp hb
    exact ⟨hT p hp, nT p hp⟩
  have mem : ∀ p ∈ cs, p.2 ∈ cs.map (·.2) := fun p hp => List.mem_map.mpr ⟨p, hp, rfl⟩
  have na : a ∉ cs.map (·.2) := fun h => by
    have q := (tabs a h).1
    rw [ha] at q
    have q' := congrArg Obj.cls (Option.some.inj q)
    cases q'
  cases hk : K.lookup a with
  | some o =>
    have e := KX a o hk
    rw [ha] at e
    cases e
    have inv : ∀ b u, (if b ∈ cs.map (·.2) then some (HO.tbl #[]) else none) = some u → b ∈ cs.map (·.2) ∧ u = .tbl #[] := fun b u h => by
      by_cases hb : b ∈ cs.map (·.2)
      · rw [if_pos hb] at h; exact ⟨hb, (Option.some.inj h).symm⟩
      · rw [if_neg hb] at h; cases h
    refine ⟨fun b => if b ∈ cs.map (·.2) then some (.tbl #[]) else none, ⟨fun p hp => if_pos (mem p hp), .inr ⟨_, vs.toArray, _, hk, rfl, rfl, rfl, ?_, by simpa using rv⟩, fun b u h => ?_⟩, fun b u h => ?_⟩
    · rw [List.size_toArray, hi.length]
      exact hl
    · obtain ⟨h1, h2⟩ := inv b u h
      exact ⟨(tabs b h1).2, .inl ⟨h2, h1⟩⟩
    · obtain ⟨h1, rfl⟩ := inv b u h
      exact (tabs b h1).1
  | none =>
    have inv : ∀ b u, (if b = a then some (HO.frz { cls := .type "list", data := .seq vs.toArray } (.lst (ns.map V.int))) else if b ∈ cs.map (·.2) then some (HO.tbl #[]) else none) = some u →
        (b = a ∧ u = .frz { cls := .type "list", data := .seq vs.toArray } (.lst (ns.map V.int))) ∨ (b ∈ cs.map (·.2) ∧ u = .tbl #[]) := fun b u h => by
      by_cases hb : b = a
      · rw [if_pos hb] at h; exact .inl ⟨hb, (Option.some.inj h).symm⟩
      · rw [if_neg hb] at h
        by_cases hb2 : b ∈ cs.map (·.2)
        · rw [if_pos hb2] at h; exact .inr ⟨hb2, (Option.some.inj h).symm⟩
        · rw [if_neg hb2] at h; cases h
    refine ⟨fun b => if b = a then some (.frz { cls := .type "list", data := .seq vs.toArray } (.lst (ns.map V.int))) else if b ∈ cs.map (·.2) then some (.tbl #[]) else none, ⟨fun p hp => ?_, .inl (.inr ⟨{ cls := .type "list", data := .seq vs.toArray }, if_pos rfl⟩), fun b u h => ?_⟩, fun b u h => ?_⟩
    · have h1 : ¬ p.2 = a := fun e => na (e ▸ mem p hp)
      show (if p.2 = a then _ else _) = _
      rw [if_neg h1, if_pos (mem p hp)]
    · rcases inv b u h with ⟨rfl, h2⟩ | ⟨h1, h2⟩
      · exact ⟨hk, .inr ⟨rfl, h2⟩⟩
      · exact ⟨(tabs b h1).2, .inl ⟨h2, h1⟩⟩
    · rcases inv b u h with ⟨rfl, rfl⟩ | ⟨h1, rfl⟩
      · exact ⟨ha, by rw [List.length_map]; exact hl, vs, _, rv, ha⟩
      · exact (tabs b h1).1
theorem end_call (KX : K.In s.heap) (hns : s.heap.Ns mainGlobals mg) (hb : s.heap.Ns builtinsNs mb) (hbb : ∀ x : Str, x ≠ "__name__" → mb x = bootBuiltins x) (hlim : s.heap.NoLimit) (hg : s.gens = #[])
    (hT : ∀ p ∈ cs, s.heap.get? p.2 = some tab0) (nT : ∀ p ∈ cs, K.lookup p.2 = none) (C : ∀ p ∈ cs, PySem.W.CodeHd s.heap p.1 p.2)
    (hbm : ∃ (bm : Addr) (ob : Obj), mg "__builtins__" = some (.ref bm) ∧ bm ≠ builtinsNs ∧ s.heap.get? bm = some ob ∧ ob.cls = .type "module" ∧ ob.dict = some builtinsNs ∧ ob.data = .plain)
    (ha : s.heap.get? a = some { cls := .type "list", data := .seq vs.toArray }) (hi : IntsAre vs ns) (hl : ns.length ≤ sizeLine) (hsd : SysD s.heap)
    (F : ∀ (base : Heap) (H : Hp), K.In base → base.Ns mainGlobals mg → (∀ p ∈ cs, LamX.TabB base mg p.1 p.2) → Env0 P w K mg base callerA [] s H → (∀ p ∈ cs, H p.2 = some (.tbl #[])) → SqL K H a (ns.map V.int) → SysD base →
      codeAny (model P w) callerA (.call (.ref fa) ⟨[.ref a], []⟩) (CR (L2.CX P w) [] P w H s (fun v _ => v = .bl true) fun _ _ _ => False) s) :
    codeAny (model P w) callerA (.call (.ref fa) ⟨[.ref a], []⟩) (fun r s' => r = .ok (.ret (.bool true)) ∧ OldK s.heap s'.heap ∧ s'.os = s.os ∧ AllBare s'.gens) s := by
  obtain ⟨H, S, hok⟩ := fst_ex (P := P) (w := w) KX hT nT ha hi hl
  -- what is no list and no empty table is not tracked
  have free : ∀ {b : Addr} {o : Obj}, s.heap.get? b = some o → (∀ l n, o.data ≠ .seq l n) → o.data ≠ .fields #[] → H b = none := fun {b o} e h1 h2 => by
    cases q : H b with
    | none => rfl
    | some u =>
      rcases (S.only b u q).2 with ⟨_, hb⟩ | ⟨rfl, _⟩
      · obtain ⟨p, hp, rfl⟩ := List.mem_map.mp hb
        rw [hT p hp] at e
        cases e
        exact absurd rfl h2
      · rw [ha] at e
        cases e
        exact absurd rfl (h1 _ _)
  have freeD : ∀ {b : Addr} {o : Obj} {es : Array DictEntry} {ep : Nat}, s.heap.get? b = some o → o.data = .dict es ep → H b = none := fun {b o es ep} e d => free e (fun l n z => by rw [d] at z; cases z) fun z => by rw [d] at z; cases z
  have keepNs : ∀ {b : Addr} {m : Str → Option Value}, s.heap.Ns b m → (hidT s.heap H).Ns b m := fun {b m} ⟨o, es, ep, e, d, r⟩ => ⟨o, es, ep, hidT_get e (freeD e d), d, r⟩
  have kin : K.In (hidT s.heap H) := fun b o e => hidT_get (KX b o e) (by
    cases q : H b with
    | none => rfl
    | some u =>
      have z := (S.only b u q).1
      rw [e] at z
      cases z)
  have md : L2.Mod K mg (hidT s.heap H) := ⟨kin, keepNs hns, ⟨mb, keepNs hb, hbb⟩, let ⟨mc, h1, h2⟩ := hlim; ⟨mc, keepNs h1, h2⟩⟩
  have tbs : ∀ p ∈ cs, LamX.TabB (hidT s.heap H) mg p.1 p.2 := fun p hp => by
    have ht := hT p hp
    refine ⟨?_, ?_, fun e => ?_⟩
    · obtain ⟨o, us, file, tf, flags, tg, inF, text, tt, e1, e2, e3, e4, r⟩ := C p hp
      refine ⟨o, us, file, tf, flags, tg, inF, text, tt, hidT_get e1 (free e1 (fun l n e => by rw [e3] at e; cases e) fun e => ?_), e2, e3, e4, r⟩
      rw [e3] at e
      cases e
      simp at e4
    · obtain ⟨bm, ob, b1, b2, b3, b4, b5, b6⟩ := hbm
      refine ⟨bm, ob, b1, b2, fun e => ?_, fun e => ?_, hidT_get b3 (free b3 (fun l n e => by rw [b6] at e; cases e) fun e => by rw [b6] at e; cases e), b4, b5, b6⟩
      · obtain ⟨o, es, ep, q, d, _⟩ := hns
        rw [e, q] at b3
        cases b3
        rw [d] at b6
        cases b6
      · rw [e, ht] at b3
        cases b3
        cases b6
    · obtain ⟨o, es, ep, q, d, _⟩ := hns
      rw [e, ht] at q
      cases q
      cases d
  have e0 : Env0 P w K mg (hidT s.heap H) callerA [] s H := ⟨rfl, md, fun b o e => of_hidT e, Nat.le_of_eq (hidT_size _ _), trivial, fun b h => absurd (show b ∈ ([] : List Addr) from h) (by simp), hok, .of_eq hg⟩
  refine codeAny_mono (F _ H kin (keepNs hns) tbs e0 S.tb S.sc (let ⟨o, es, ep, e1, e2⟩ := hsd; ⟨o, es, ep, hidT_get e1 (freeD e1 e2), e2⟩)) fun r s' h => ?_
  cases r with
  | error e =>
    obtain ⟨_, _, _, _, _, _, _, _, _, _, _, _, z⟩ := h
    exact z.elim
  | ok fl =>
    cases fl with
    | ret u =>
      obtain ⟨v, H', os, bare, un, hok', rv, q⟩ := h
      have q' : v = .bl true := q
      subst q'
      obtain rfl : u = Value.bool true := rv
      -- the tables may have grown, all else is as it was
      have grew : ∀ p ∈ cs, ∃ more : Array Value, s'.heap.get? p.2 = some { cls := .none, data := .fields more } := fun p hp => by
        obtain ⟨more, z⟩ := un.tbls p.2 #[] (S.tb p hp)
        exact ⟨_, hok' p.2 _ z⟩
      have as_was : ∀ b o, b ∉ cs.map (·.2) → s.heap.get? b = some o → s'.heap.get? b = some o := fun b o nb e => by
        cases q : H b with
        | none => exact un.keep b o e q (fun z => absurd (show b ∈ ([] : List Addr) from z) (by simp)) (by simp)
        | some u =>
          rcases (S.only b u q).2 with ⟨_, hb⟩ | ⟨rfl, rfl⟩
          · exact absurd hb nb
          · have h2 := hok' _ _ (un.frzs _ _ _ q)
            have h1 := hok _ _ q
            have e1 := h1.1
            rw [e] at e1
            cases e1
            exact h2.1
      refine ⟨rfl, ⟨fun b o e => ?_, fun b o e => ?_⟩, os, bare⟩
      · by_cases hb : b ∈ cs.map (·.2)
        · obtain ⟨p, hp, rfl⟩ := List.mem_map.mp hb
          obtain ⟨more, hm⟩ := grew p hp
          rw [hT p hp] at e
          cases e
          exact .inr (.inl ⟨((C p hp).tab (hT p hp)).isCodeTable, rfl, #[], more, rfl, by rw [Array.empty_append]; exact hm⟩)
        · exact .inl (as_was b o hb e)
      · by_cases hb : b ∈ cs.map (·.2)
        · obtain ⟨p, hp, rfl⟩ := List.mem_map.mp hb
          obtain ⟨more, hm⟩ := grew p hp
          exact ⟨_, hm⟩
        · exact ⟨o, as_was b o hb e⟩
    | next => exact False.elim h
    | brk => exact False.elim h
    | cont => exact False.elim h
end
/-- the table of the def at fa is empty -/
def OwnT (K : PySem.W.Frag) (name : Str) (mg : Str → Option Value) (h : Heap) : Prop := ∀ (f c P : Addr) (o : Obj) (fd : FuncData) (e : Value) (dd : Option Addr) (us : Array Value) (sl : Array (Option Value)), mg name = some (.ref f) → K.lookup f = some o → o.data = .func fd → fd.code = .ref c →
  K.lookup c = some ⟨e, dd, .fields us, sl⟩ → us[11]? = some (.ref P) → h.get? P = some tab0
/-- what the end wants of the law -/
def LawEnd (l : PySem.W.OpenLaw) (w : World) (K : PySem.W.Frag) (n : Nat) (mg : Str → Option Value) (fa : Addr) (h : Heap) : Prop :=
  ∃ cs : List (Addr × Addr), (∀ p ∈ cs, h.get? p.2 = some tab0) ∧ (∀ p ∈ cs, K.lookup p.2 = none) ∧ (∀ p ∈ cs, PySem.W.CodeHd h p.1 p.2) ∧
    ∀ (s : Shared) (a : Addr) (ns : List Int) (base : Heap) (H : Hp), ns.length ≤ n → K.In base → base.Ns mainGlobals mg → (∀ p ∈ cs, LamX.TabB base mg p.1 p.2) → Env0 l.prog w K mg base callerA [] s H → (∀ p ∈ cs, H p.2 = some (.tbl #[])) → SqL K H a (ns.map V.int) → SysD base →
      codeAny (model l.prog w) callerA (.call (.ref fa) ⟨[.ref a], []⟩) (CR (L2.CX l.prog w) [] l.prog w H s (fun v _ => v = .bl true) fun _ _ _ => False) s
theorem walk_end {l : PySem.W.OpenLaw} {n : Nat} {q : Program} {loose : List Str} {XP : (Str → Option Value) → Heap → Prop} {YP : World → Heap → Prop} {d : DefRec} {K : Params → PySem.W.Frag}
    (hn : l.most = some n) (hn2 : n ≤ sizeLine) (hdf : d.params.defaults = []) (hi : importsNone q = true) (hY : ∀ (w : World) (h : Heap), YP w h → (K w.params).In h)
    (F : ∀ (w : World) (mg : Str → Option Value) (fa : Addr) (h : Heap), YP w h → (K w.params).In h → h.Ns mainGlobals mg → mg d.name = some (.ref fa) → (∀ name, ((recsOf q).any fun e => e.name == name) = true → OwnT (K w.params) name mg h) → LawEnd l w (K w.params) n mg fa h) :
    PySem.W.WalkO q loose XP YP l.row.toRowW d [] (fun f vs => PySem.call f vs) := by
  refine Att.attach_callB hn hdf fun w s₀ s mg mb fa o pm cd doc a vs ns G Y ho hd hcd hmg hobj hints hlen hbits hg => ?_
  have KX := hY w _ Y
  have own : ∀ name, ((recsOf q).any fun e => e.name == name) = true → OwnT (K w.params) name mg s.heap := fun name hrec f c P o1 fd1 e dd us sl k0 k1 k2 k3 k4 k5 => by
    obtain ⟨dL, hm, hn1⟩ := List.any_eq_true.mp hrec
    have hn2 : dL.name = name := beq_iff_eq.mp hn1
    obtain ⟨a', o', fd', c', P', h1, h2, h3, h4, h5, h6⟩ := G.T.tab dL hm
    rw [hn2, k0] at h1
    cases h1
    rw [KX _ _ k1] at h2
    cases h2
    rw [k2] at h3
    cases h3
    rw [k3] at h4
    cases h4
    obtain ⟨⟨oc, vc, e1, _, e3, e4⟩, hP⟩ := h6
    rw [KX _ _ k4] at e1
    cases e1
    cases e3
    rw [k5] at e4
    cases e4
    exact hP
  obtain ⟨cs, hT, nT, C, hF⟩ := F w mg fa _ Y KX G.T.g hmg own
  exact end_call KX G.T.g G.T.b G.T.builtins G.T.nolimit hg hT nT C G.T.bmain hobj hints (Nat.le_trans hlen hn2) (let ⟨_, ⟨o, es, ep, e1, e2, _⟩, _⟩ := (G.T.seer hi).mods; ⟨o, es, ep, e1, e2⟩) fun base H h1 h2 h3 h4 h5 h6 h7 => hF s a ns base H hlen h1 h2 h3 h4 h5 h6 h7
end DL
set_option Elab.async false
set_option linter.all false
set_option maxRecDepth 100000
set_option maxHeartbeats 2000000
/-! The value layer, part 19: the state of the draws is begun. -/
namespace DL
open PySem PySem.Spec PyProof.Rows L2

def absI (i : Int) : Int := if i < 0 then -i else i
def big : Int := 10 ^ (18 : Int).toNat
def cells0 (ns : List Int) : List Int := ns.map absI
def large0 : List Int → List Int
  | [] => []
  | c :: l => if big ≤ c then (c - big) :: large0 l else large0 l
def g0 (ns : List Int) : G := ⟨large0 (cells0 ns), cells0 ns, 0, 0⟩
theorem large0_app (l : List Int) (c : Int) : large0 (l ++ [c]) = if big ≤ c then large0 l ++ [c - big] else large0 l := by
  induction l with
  | nil => simp only [List.nil_append, large0]
  | cons x l ih =>
    rw [List.cons_append, large0, ih]
    by_cases h : big ≤ x <;> by_cases h2 : big ≤ c <;> simp [large0, h, h2]
theorem large0_len : ∀ l : List Int, (large0 l).length ≤ l.length
  | [] => Nat.le_refl _
  | c :: l => by
    rw [large0]
    have := large0_len l
    by_cases h : big ≤ c
    · rw [if_pos h, List.length_cons, List.length_cons]; omega
    · rw [if_neg h, List.length_cons]; omega
theorem ifT {c : Bool} {A B : Prop} (hc : c = true) (h : A) : if c = true then A else B := by rw [if_pos hc]; exact h
theorem ifF {c : Bool} {A B : Prop} (hc : c = false) (h : B) : if c = true then A else B := by rw [hc, if_neg Bool.false_ne_true]; exact h
theorem take_snoc {α : Type} {l : List α} {i : Nat} {x : α} (h : l[i]? = some x) : l.take (i + 1) = l.take i ++ [x] := by
  rw [List.take_add_one, h]
  rfl
def spBegun (K : PySem.W.Frag) (T : List (Addr × Str)) : Sp := fun vs H Q _ => ∃ (a : Addr) (ns : List Int), vs = [.ref a] ∧ SqL K H a (ns.map V.int) ∧ ns.length ≤ 1000 ∧ LamX.Tabs T H ∧
  ∀ (z : Zt) (H' : Hp), z.T = T → Same H H' → GOk z H' (g0 ns) → H z.p = none → H z.l = none → H z.c = none → Q (.ref z.p) H'
def tCellAbs : TE := tCB (fun xs H Q => ∃ i, xs = [.int i] ∧ Q (.int (if i < 0 then -i else i)) H) (tCons (tVar 3) tNil)
def tBig : TE := tOp (rI CPow fun i j => .int (i ^ j.toNat)) (tC (.int 10)) (tC (.int 18))
def t_begun (K : PySem.W.Frag) : TS :=
  tSeq (tAsg (tLc (iList K (tVar 0)) (gName 3) tYes tCellAbs [3]) (gName 1))
  (tSeq (tAsg (tLc (iList K (tVar 1)) (gName 3) (tTest (tOp (rI0 fun i j => .bl (decide (j ≤ i))) (tVar 3) tBig)) (tOp (rI0 fun i j => .int (i - j)) (tVar 3) tBig) [3]) (gName 2))
  (tRet (tDisp [(tC (.str "large"), tVar 2), (tC (.str "cells"), tVar 1), (tC (.str "left"), tC (.int 0)), (tC (.str "turn"), tC (.int 0))])))
theorem tBig_run {σ : L2.St} {H : Hp} {Q : VK} (q : Q (.int big) H) : tBig σ H Q := ⟨10, 18, rfl, rfl, ⟨by decide, by decide, by decide⟩, q⟩
theorem small_line {n : Nat} (h : n ≤ 1000) : n < sizeLine := Nat.lt_of_le_of_lt h (by rw [sizeLine_eq]; decide)
theorem pure_begun {K : PySem.W.Frag} {T : List (Addr × Str)} (vs : List V) (H : Hp) (Q : VK) (E : XK) (h : spBegun K T vs H Q E) :
    t_begun K { nx := fun _ H' => Q .non H', rt := Q } (L2.start ["_law_script", "_law_cells_here", "_law_large", "_law_cell"] vs) H := by
  obtain ⟨a, ns, rfl, hS, hz, hT, k⟩ := h
  refine ⟨_, rfl, a, rfl, ⟨_, hS⟩, fun D nD => ?_⟩
  have s0 : Same H (upd H D (.lst [])) := same_upd' nD
  refine lc_list (K := K) (a := a) (xs := ns.map V.int) (fun i H' => Same H H' ∧ H' D = some (.lst ((cells0 (ns.take i)).map V.int))) ⟨s0, upd_same⟩ (fun i H' _ ⟨s1, _⟩ => s1.seq hS) ?_ ?_
  · rintro i y H' hi ⟨s1, hD⟩
    obtain ⟨n, hn, rfl⟩ : ∃ n, ns[i]? = some n ∧ y = V.int n := by
      rw [List.getElem?_map] at hi
      cases e : ns[i]? with
      | none => rw [e] at hi; cases hi
      | some n => rw [e] at hi; exact ⟨n, rfl, (Option.some.inj hi).symm⟩
    refine ⟨rfl, ?_⟩
    refine ifT (B := Same H H' ∧ H' D = some (.lst ((cells0 (ns.take (i + 1))).map V.int))) rfl ?_
    refine ⟨_, rfl, n, rfl, _, hD, ?_, fun b u q => ?_, ?_⟩
    · rw [List.length_map]
      unfold cells0
      rw [List.length_map, List.length_take]
      exact small_line (by omega)
    · rw [upd_ne (fun w => by rw [w, nD] at q; cases q)]
      exact s1 b u q
    · rw [upd_same, take_snoc hn]
      unfold cells0
      rw [List.map_append, List.map_append]
      rfl
  rintro H1 ⟨s1, hD⟩
  rw [List.length_map, List.take_length] at hD
  refine ⟨_, rfl, D, rfl, ⟨_, SqL.of hD⟩, fun L nL => ?_⟩
  have s2 : Same H1 (upd H1 L (.lst [])) := same_upd' nL
  refine lc_list (K := K) (a := D) (xs := (cells0 ns).map V.int) (fun i H' => Same H1 H' ∧ H' L = some (.lst ((large0 ((cells0 ns).take i)).map V.int))) ⟨s2, upd_same⟩ (fun i H' _ ⟨s3, _⟩ => s3.seq (SqL.of hD)) ?_ ?_
  · rintro i y H' hi ⟨s3, hL⟩
    obtain ⟨n, hn, rfl⟩ : ∃ n, (cells0 ns)[i]? = some n ∧ y = V.int n := by
      rw [List.getElem?_map] at hi
      cases e : (cells0 ns)[i]? with
      | none => rw [e] at hi; cases hi
      | some n => rw [e] at hi; exact ⟨n, rfl, (Option.some.inj hi).symm⟩
    have step := large0_app ((cells0 ns).take i) n
    rw [← take_snoc hn] at step
    refine ⟨rfl, ?_⟩
    refine ⟨_, rfl, tBig_run ⟨n, big, rfl, rfl, decide (big ≤ n), rfl, ?_⟩⟩
    by_cases hb : big ≤ n
    · refine ifT (B := Same H1 H' ∧ H' L = some (.lst ((large0 ((cells0 ns).take (i + 1))).map V.int))) (decide_eq_true hb) ?_
      rw [if_pos hb] at step
      refine ⟨_, rfl, tBig_run ⟨n, big, rfl, rfl, _, hL, ?_, fun b u q => ?_, ?_⟩⟩
      · rw [List.length_map]
        refine small_line (Nat.le_trans (large0_len _) ?_)
        rw [List.length_take]
        unfold cells0
        rw [List.length_map]
        omega
      · rw [upd_ne (fun w => by rw [w, nL] at q; cases q)]
        exact s3 b u q
      · rw [upd_same, step, List.map_append]
        rfl
    · refine ifF (decide_eq_false hb) ?_
      rw [if_neg hb] at step
      exact ⟨s3, by rw [step]; exact hL⟩
  rintro H2 ⟨s3, hL⟩
  rw [List.length_map, List.take_length] at hL
  have hD2 := s3 _ _ hD
  intro p np
  have nLD : L ≠ D := fun w => by rw [w, hD] at nL; cases nL
  refine ⟨_, rfl, _, rfl, upd_same, [(.inr "large", .ref L), (.inr "cells", .ref D), (.inr "left", .int 0), (.inr "turn", .int 0)], rfl, (by show 4 ≤ 15; decide), ?_⟩
  have n1 : p ≠ L := fun w => by rw [w, hL] at np; cases np
  have n2 : p ≠ D := fun w => by rw [w, hD2] at np; cases np
  have sm : Same H (upd (upd H2 p (.dK [])) p (.dK (mergeK [] [(.inr "large", .ref L), (.inr "cells", .ref D), (.inr "left", .int 0), (.inr "turn", .int 0)]))) := fun b u q => by
    have q2 := s3 b u (s1 b u q)
    rw [upd_ne (fun w => by rw [w, np] at q2; cases q2), upd_ne (fun w => by rw [w, np] at q2; cases q2)]
    exact q2
  have back : ∀ b, H2 b = none → H b = none := fun b hb => by
    cases q : H b with
    | none => rfl
    | some u => rw [s3 b u (s1 b u q)] at hb; cases hb
  refine k ⟨p, L, D, T, [], [], Str.empty⟩ _ rfl sm ⟨?_, ?_, ?_, nLD, hT.ext sm⟩ (back p np) ?_ nD
  · show upd _ p _ p = _
    rw [upd_same]
    rfl
  · show upd _ p _ L = _
    rw [upd_ne n1.symm, upd_ne n1.symm]
    exact hL
  · show upd _ p _ D = _
    rw [upd_ne n2.symm, upd_ne n2.symm]
    exact hD2
  · cases q : H L with
    | none => rfl
    | some u => rw [s1 L u q] at nL; cases nL
end DL
set_option Elab.async false
set_option linter.all false
set_option maxRecDepth 100000
set_option maxHeartbeats 2000000
/-! The value layer, part 20: the law is run; a def that makes lambdas. -/
namespace DL
open PySem PySem.Spec PyProof.Rows L2

def startLaw (m n : Nat) : Env := some (false, .scr n) :: some (false, .st) :: List.replicate (m - 2) none
theorem startLaw_get {m n i : Nat} {t : Bool} {d : D} (h : (startLaw m n)[i]? = some (some (t, d))) : t = false ∧ ((i = 0 ∧ d = .scr n) ∨ (i = 1 ∧ d = .st)) := by
  unfold startLaw at h
  match i, h with
  | 0, h => cases h; exact ⟨rfl, .inl ⟨rfl, rfl⟩⟩
  | 1, h => cases h; exact ⟨rfl, .inr ⟨rfl, rfl⟩⟩
  | i + 2, h =>
    have h : (List.replicate (m - 2) (none : Option Sl))[i]? = some (some (t, d)) := h
    rw [List.getElem?_replicate] at h
    split at h <;> cases h
/-- the lambdas that are named are those of this def -/
structure LamZ (X : Cx) (z : Zt) (lms : List (Arguments × Expr × Scope)) : Prop where
  lm : z.lm = lms
  lc : z.lc = X.env.cells
  lq : z.lq = X.env.qual ++ "<lambda>"
abbrev EnS (W : WX) (T : List (Addr × Str)) (X : Cx) (lms : List (Arguments × Expr × Scope)) : Type := { n : En // n.W = W ∧ n.k = .sh ∧ n.z.T = T ∧ LamZ X n.z lms }
theorem law_run {P : Program} {w : World} {K : PySem.W.Frag} {mg : Str → Option Value} {base : Heap} {T : List (Addr × Str)} {cs : List (Addr × Addr)} {k : Nat} {fa a : Addr} {st : Stmt} {kV dc pm cd ct oc : Value} {an od : Option Addr} {osl : Array (Option Value)} {N : List Str} {b0 : Stmt} {rest : List Stmt} {t : Ss} {s : Shared} {H : Hp} {ns : List Int} {m : Nat} {lms : List (Arguments × Expr × Scope)}
    (lk : K.lookup fa = some ⟨oc, od, .func (FDn "law" st kV dc pm an cd ct), osl⟩) (hcd : PySem.W.codeIn K cd "law" = true) (S : FnScope N ["_law_script"] (defScope st)) (hbody : defBody st = b0 :: rest) (hN : 2 ≤ N.length) (hbd : BindsT "law" st ["_law_script"]) (hm : m ≤ 1000)
    (h0 : ∀ (hr : Room k (callerA.deeper (envOfC "law" (defScope st) s.heap.objs.size fa cd))), PS (cxOf (L2.CX P w) P w K mg base N "law" (defScope st) fa cd callerA [] s H fun _ _ _ => False) b0 (tAsg (tCallS (spBegun K T) (WE fun _ _ _ _ => False) (tCons (tVar 0) tNil)) (gName 1)))
    (hrest : ∀ (n : En), XG (cxOf (L2.CX P w) P w K mg base N "law" (defScope st) fa cd callerA [] s H fun _ _ _ => False) → Room k (callerA.deeper (envOfC "law" (defScope st) s.heap.objs.size fa cd)) →
      Takes (cxOf (L2.CX P w) P w K mg base N "law" (defScope st) fa cd callerA [] s H fun _ _ _ => False) n.W → n.k = .sh → n.z.T = T → LamZ (cxOf (L2.CX P w) P w K mg base N "law" (defScope st) fa cd callerA [] s H fun _ _ _ => False) n.z lms → DSs (cxOf (L2.CX P w) P w K mg base N "law" (defScope st) fa cd callerA [] s H fun _ _ _ => False) n rest t)
    (hr : Room (k + 1) callerA) (e0 : Env0 P w K mg base callerA [] s H) (hT : ∀ p ∈ T, ∃ c ∈ cs, c.2 = p.1) (hcs : ∀ p ∈ cs, H p.2 = some (.tbl #[])) (hS : SqL K H a (ns.map V.int)) (hl : ns.length ≤ m)
    (pure_ : ∀ ns : List Int, ns.length ≤ m → ∃ g', t (startLaw N.length ns.length) (g0 ns) = .ok (.ret (.bl true)) g') :
    codeAny (model P w) callerA (.call (.ref fa) ⟨[.ref a], []⟩) (CR (L2.CX P w) [] P w H s (fun v _ => v = .bl true) fun _ _ _ => False) s := by
  refine LamX.run_ofS (vs := [.ref a]) (us := [.ref a]) lk hcd S hr e0 (.of_eq (hbd kV dc pm an cd ct [.ref a] rfl)) (.cons rfl .nil) rfl fun hr' => ?_
  rw [hbody]
  have nd := S.nd
  have hX : XG (cxOf (L2.CX P w) P w K mg base N "law" (defScope st) fa cd callerA [] s H fun _ _ _ => False) := ⟨rfl, hr'.mono (Nat.zero_le _), nd⟩
  have tk : Takes (cxOf (L2.CX P w) P w K mg base N "law" (defScope st) fa cd callerA [] s H fun _ _ _ => False) (fun _ _ _ _ => False) := takes_of (E := fun _ _ _ => False) rfl rfl rfl rfl
  refine ⟨_, pss_cons (h0 hr') (PSs.ex (α := EnS (fun _ _ _ _ => False) T (cxOf (L2.CX P w) P w K mg base N "law" (defScope st) fa cd callerA [] s H fun _ _ _ => False) lms) fun n => hrest n.1 hX hr' (by rw [n.2.1]; exact tk) n.2.2.1 n.2.2.2.1 n.2.2.2.2), ?_⟩
  have pre := S.pre
  have tabs : LamX.Tabs T H := fun p hp => by
    obtain ⟨c, hc, e⟩ := hT p hp
    exact .nil (e ▸ hcs c hc)
  have h0' : (L2.start N [V.ref a])[0]? = some (some (V.ref a)) := rfl
  refine ⟨V.ref a, h0', a, ns, rfl, hS, Nat.le_trans hl hm, tabs, fun z0 H' hz0 sm G0 np0 nl0 nc0 => ?_⟩
  generalize hz' : ({ z0 with lm := lms, lc := (cxOf (L2.CX P w) P w K mg base N "law" (defScope st) fa cd callerA [] s H fun _ _ _ => False).env.cells, lq := (cxOf (L2.CX P w) P w K mg base N "law" (defScope st) fa cd callerA [] s H fun _ _ _ => False).env.qual ++ "<lambda>" } : Zt) = z
  have lz : LamZ (cxOf (L2.CX P w) P w K mg base N "law" (defScope st) fa cd callerA [] s H fun _ _ _ => False) z lms := by subst hz'; exact ⟨rfl, rfl, rfl⟩
  have hz : z.T = T := by subst hz'; exact hz0
  have G1 : GOk z H' (g0 ns) := by subst hz'; exact ⟨G0.p, G0.l, G0.c, G0.ne, G0.tb⟩
  have ep : z0.p = z.p := by subst hz'; rfl
  have np : H z.p = none := by subst hz'; exact np0
  have nl : H z.l = none := by subst hz'; exact nl0
  have nc : H z.c = none := by subst hz'; exact nc0
  rw [ep]
  refine ⟨⟨⟨z, fun _ _ _ _ => False, .sh, ⟨H', [z.p, z.l, z.c], H', [z.p, z.l, z.c]⟩⟩, rfl, rfl, hz, lz⟩, startLaw N.length ns.length, g0 ns, [z.p, z.l, z.c], ?_, ?_⟩
  · have mu : MuOk z [z.p, z.l, z.c] H' := ⟨by simp, by simp, by simp, fun b hb => by
      simp only [List.mem_cons, List.not_mem_nil, or_false] at hb
      rcases hb with rfl | rfl | rfl
      · exact G1.op
      · exact G1.ol
      · exact G1.oc, fun b hb q w => by
      simp only [List.mem_cons, List.not_mem_nil, or_false] at hb
      rcases hb with rfl | rfl | rfl
      · rw [G1.p] at w; cases w
      · rw [G1.l] at w; cases w
      · rw [G1.c] at w; cases w⟩
    have len : (startLaw N.length ns.length).length = ((L2.start N [V.ref a]).set 1 (some (.ref z.p))).length := by
      unfold startLaw L2.start
      simp
      omega
    refine ⟨⟨len, mu, fun i tt d q => ?_, fun i j d d' b q1 _ _ _ => by obtain ⟨e, _⟩ := startLaw_get q1; cases e⟩, G1, Ext.refl, fun b h => h, mu, fun i d b q => by (obtain ⟨e, _⟩ := startLaw_get q; cases e), fun _ _ e _ _ => e, fun _ _ h => h, ⟨by simp, by simp⟩, fun _ h _ => h⟩
    obtain ⟨rfl, h | h⟩ := startLaw_get q
    · obtain ⟨rfl, rfl⟩ := h
      refine ⟨.ref a, ?_, ?_⟩
      · rw [List.getElem?_set_ne (by decide)]
        exact h0'
      · show Rep _ _ z _ H' (.ref a) (.scr ns.length)
        rw [← List.length_map (f := V.int) (as := ns)]
        rcases hS with h | ⟨o, its, n, h1, h2, h3, h4, h5, h6⟩
        · refine .scrR (fun w => ?_) (h.elim (fun h => .inl (sm _ _ h)) fun ⟨o, h⟩ => .inr ⟨o, sm _ _ h⟩)
          have na : H a ≠ none := by
            rcases h with h | ⟨o, h⟩ <;> rw [h] <;> exact fun q => by cases q
          simp only [List.mem_cons, List.not_mem_nil, or_false] at w
          rcases w with rfl | rfl | rfl
          · exact na np
          · exact na nl
          · exact na nc
        · exact .scrK h1 h2 h3 h4 h5 h6
    · obtain ⟨rfl, rfl⟩ := h
      refine ⟨.ref z.p, ?_, .st⟩
      rw [List.getElem?_set_self]
      unfold L2.start
      simp
      omega
  · obtain ⟨g', hp⟩ := pure_ ns hl
    rw [hp]
    intro v H'' _ _ r
    exact (RK.scal (k' := .sh) (Mu' := []) (z := z) rfl r : Rep _ _ _ _ _ _ _) |> fun r => by cases r; rfl

/-! ### defs that make lambdas -/
def IsFnL (K : PySem.W.Frag) (mg : Str → Option Value) (name : Str) (st : Stmt) (c : Addr) : Prop := ∃ (f : Addr) (oc : Value) (od : Option Addr) (kV dc pm : Value) (an : Option Addr) (ct : Value) (sl : Array (Option Value)),
  mg name = some (.ref f) ∧ PySem.W.keepIn K (.ref f) = true ∧ K.lookup f = some ⟨oc, od, .func (FDn name st kV dc pm an (.ref c) ct), sl⟩ ∧ PySem.W.codeIn K (.ref c) name = true
theorem cal_ofL {gd : Bool} {P : Program} {w : World} {K : PySem.W.Frag} {mg : Str → Option Value} {base : Heap} {T : List (Addr × Str)} {k : Nat} {name : Str} {st : Stmt} {N ps : List Str} {kr : Kd} {t : Ss} {cf : List D → M D} {c : Addr} (F : IsFnL K mg name st c) (S : FnScope N ps (defScope st))
    (hbody : ∀ (f : Addr) (A : Around) (outer : List PySem.Env) (s : Shared) (H : Hp) (E : XK) (n : En), XG (cxOf (L2.CX P w) P w K mg base N name (defScope st) f (.ref c) A outer s H E) → Room k (A.deeper (envOfC name (defScope st) s.heap.objs.size f (.ref c))) →
      Takes (cxOf (L2.CX P w) P w K mg base N name (defScope st) f (.ref c) A outer s H E) n.W → (gd = true → GdOk A base) → n.k = kr → n.z.T = T → DSs (cxOf (L2.CX P w) P w K mg base N name (defScope st) f (.ref c) A outer s H E) n (defBody st) t) (hcf : cf = fnB t N.length := by rfl) :
    Cal gd P w K mg base T (k + 1) name st ps kr cf := by
  obtain ⟨f, oc, od, kV, dc, pm, an, ct, sl, h1, h2, h3, h4⟩ := F
  subst hcf
  exact ⟨f, kV, dc, pm, an, .ref c, ct, h1, h2, dfn_of h3 h4 S fun A outer s H E n hX hr tk hg hk hT => hbody f A outer s H E n hX hr tk hg hk hT⟩
/-- the def that calls what it gets and hands back what came -/
structure CaughtT (st : Stmt) (a v e en : Str) : Prop where
  body : ∃ (j : Nat) (p1 p2 p3 p4 p5 p6 p7 p8 p9 p10 p11 p12 p13 p14 : Pos), defBody st = caughtB a v e en j p1 p2 p3 p4 p5 p6 p7 p8 p9 p10 p11 p12 p13 p14
  sc : FnScope [a, v, en] [a] (defScope st)
  la : (defScope st).names.lookup a = some .local
  lv : (defScope st).names.lookup v = some .local
  le : (defScope st).names.lookup en = some .local
  ge : (defScope st).names.lookup e = some .globalImplicit
  d1 : (e == ("__debug__" : Str)) = false
  d2 : (v == ("__debug__" : Str)) = false
  d3 : (v == ("__classdict__" : Str)) = false
  d4 : (en == ("__debug__" : Str)) = false
  d5 : (en == ("__classdict__" : Str)) = false
  d6 : (a == ("__debug__" : Str)) = false
  d7 : (a == ("__classdict__" : Str)) = false
def PkOk (K : PySem.W.Frag) (mg : Str → Option Value) (e : Str) (pks : List Str) : Prop := ∃ CS, mg e = some (.ref CS) ∧ ∀ c ∈ pks, ∀ C, mg c = some (.ref C) → PySem.W.exmOne K (.ref C) (.ref CS) = some true
theorem de_caughtC {X : Cx} {z : Zt} {W : WX} {kb : Kd} {fb : Ep} {x a v e en : Str} {c P : Addr} {k : Nat} {st : Stmt} {params : Arguments} {body : Expr} {scope : Scope} {p lpos pos : Pos} {pks : List Str} (F : IsFn X.K X.mg x st) (CT : CaughtT st a v e en) (hbd : BindsT x st [a]) (pk : PkOk X.K X.mg e pks) (hg : Gl X x)
    (TB : LamX.TabB X.base X.mg c P) (hcode : X.env.code = .ref c) (hmT : (P, X.env.qual ++ "<lambda>") ∈ z.T) (hu : ∀ p ∈ z.T, p.1 = P → p.2 = X.env.qual ++ "<lambda>") (hr : Room (k + 2) X.A) (L : LamX.LamS X.env.scope scope)
    (hbody : ∀ (A : Around) (outer : List PySem.Env) (s : Shared) (H : Hp) (E : XK) (f c' : Addr), Room k (A.deeper (LamX.lamEnv X scope s.heap.objs.size f c')) → Takes (LamX.lamCx X A outer s H E scope f c') (fun cls dd _ H => E cls dd H) →
      DE (LamX.lamCx X A outer s H E scope f c') z (fun cls dd _ H => E cls dd H) kb body fb)
    (hdef : defaultsOf params X.env = ([], []) := by rfl)
    (hbind : ∀ (q : Str) (cl : List (Str × Addr)) (pm cv ctv : Value), bindArgs (PySem.W.kla_fn "<lambda>" q params body scope cl pm cv ctv) ⟨[], []⟩ = pure [] := by intros; rfl)
    (hdb : (x == ("__debug__" : Str)) = false := by decide) : DE X z W .new (.Call (.Name x p) [.Lambda params body scope lpos] [] pos) (eCaught pks fb) := by
  obtain ⟨f, oc, od, kV, dc, pm, an, cd, ct, sl, h1, h2, h3, h4⟩ := F
  obtain ⟨CS, hCS, hpk⟩ := pk
  obtain ⟨j, p1, p2, p3, p4, p5, p6, p7, p8, p9, p10, p11, p12, p13, p14, hb⟩ := CT.body
  refine de_caught (bg := defBody st) hg h1 h2 h3 h4 (.all (hbd kV dc pm an cd ct)) CT.sc rfl (.inl CT.la) ?_ hpk TB hcode hmT hu hr L hdef hbind hbody hdb CT.d6 CT.d7
  rw [hb]
  exact caught_gives CT.sc.nd CT.lv CT.le CT.ge hCS CT.d1 CT.d2 CT.d3 CT.d4 CT.d5
end DL
set_option Elab.async false
set_option linter.all false
set_option maxRecDepth 100000
set_option maxHeartbeats 2000000
/-! The value layer, part 21: forms that the printed terms use. -/
namespace DL
open PySem PySem.Spec PyProof.Rows L2

section
variable {X : Cx} {n : En} {z : Zt} {W : WX} {e : Expr} {f : Ep} {pos : Pos}
theorem ds_retS (hk : n.k = .sh) (h : DE X n.z n.W .sh e f) : DS X n (.Return (some e) pos) (sRet f) := ds_ret (by rw [hk]; exact h) (.inr hk)
theorem ds_retW (hk : n.k = .new) (h : DE X n.z n.W .new e f) : DS X n (.Return (some e) pos) (sRet f) := ds_ret (by rw [hk]; exact h) (.inl hk)
/-- {} -/
theorem de_dct0 : DE X z W .new (.Dict [] [] pos) (eC (.dct [])) := by
  refine ⟨fun pins s σ H Q I ⟨ρ, g, Mu, E, G1, hx⟩ => ?_⟩
  have hn : H s.heap.objs.size = none := I.hok.fresh (Nat.le_refl _)
  have hs : (s.heap.objs.size == sysModules) = false := beq_false_of_ne (Nat.ne_of_gt I.big)
  refine wpAny_Dict_empty ⟨.ref s.heap.objs.size, _, I.laid (a := s.heap.objs.size) (o := ObV s.heap.objs.size { cls := .type "dict", data := .dict #[] }) (t' := s.toks) (fun _ _ q => Heap.get?_push_of_some _ q) (Nat.le_refl _) ?_, rfl, ?_⟩
  · exact ⟨Heap.get?_push_size _ rfl, ⟨_, Heap.get?_push_size _ rfl⟩, fun _ _ h k => k _ h⟩
  · have sm : Same H (upd H s.heap.objs.size (ObV s.heap.objs.size { cls := .type "dict", data := .dict #[] })) := same_upd' hn
    refine hx _ _ (Ext.of sm) (G1.same sm) ?_
    show if D.box (.dct []) = true then ∃ a, V.ref s.heap.objs.size = .ref a ∧ ¬ Oc H a ∧ Cont X.K X.mg z (a :: Mu) (upd H s.heap.objs.size (ObV s.heap.objs.size { cls := .type "dict", data := .dict #[] })) a (.dct []) else Rep X.K X.mg z Mu (upd H s.heap.objs.size (ObV s.heap.objs.size { cls := .type "dict", data := .dict #[] })) (.ref s.heap.objs.size) (.dct [])
    rw [if_pos (show D.box (.dct []) = true from rfl)]
    exact ⟨_, rfl, oc_none hn, .dct upd_same hs ⟨rfl, rfl, rfl⟩ rfl (by show 0 ≤ _; omega) ⟨.nil, .nil⟩ .nil .nil ⟨fun i e d h => by simp at h, .nil⟩⟩
end
theorem de_caughtT {X : Cx} {z : Zt} {W : WX} {kb : Kd} {fb : Ep} {x a v e en : Str} {c P : Addr} {k : Nat} {st : Stmt} {params : Arguments} {body : Expr} {scope : Scope} {p lpos pos : Pos} {pks : List Str} (F : IsFn X.K X.mg x st) (CT : CaughtT st a v e en) (hbd : BindsT x st [a]) (pk : PkOk X.K X.mg e pks) (hg : Gl X x)
    (TB : LamX.TabB X.base X.mg c P) (hcode : X.env.code = .ref c) (hT : z.T = [(P, X.env.qual ++ "<lambda>")]) (hr : Room (k + 2) X.A) (L : LamX.LamS X.env.scope scope)
    (hbody : ∀ (A : Around) (outer : List PySem.Env) (s : Shared) (H : Hp) (E : XK) (f c' : Addr), Room k (A.deeper (LamX.lamEnv X scope s.heap.objs.size f c')) → Takes (LamX.lamCx X A outer s H E scope f c') (fun cls dd _ H => E cls dd H) →
      DE (LamX.lamCx X A outer s H E scope f c') z (fun cls dd _ H => E cls dd H) kb body fb)
    (hdef : defaultsOf params X.env = ([], []) := by rfl)
    (hbind : ∀ (q : Str) (cl : List (Str × Addr)) (pm cv ctv : Value), bindArgs (PySem.W.kla_fn "<lambda>" q params body scope cl pm cv ctv) ⟨[], []⟩ = pure [] := by intros; rfl)
    (hdb : (x == ("__debug__" : Str)) = false := by decide) : DE X z W .new (.Call (.Name x p) [.Lambda params body scope lpos] [] pos) (eCaught pks fb) :=
  de_caughtC F CT hbd pk hg TB hcode (by rw [hT]; exact List.mem_cons_self) (fun q hq _ => by rw [hT] at hq; rw [List.mem_singleton.mp hq]) hr L hbody hdef hbind hdb
theorem R.of_bind {α β : Type} {r : R α} {k : α → M β} {P : β → G → Prop} {E : Str → Str → List D → G → Prop} (h : r.all (fun a g => (k a g).all P E) E) : (r.bind k).all P E := by
  cases r <;> exact h
/-- y = [..] on one line, y never changed -/
theorem ds_setLcS {X : Cx} {n : En} {elt tg iter : Expr} {ifs : List Expr} {scope : Scope} {own : List (Str × Nat)} {pos : Pos} {it : Es} {gt : TG} {t : D → Env → Option Env} {is : List Nat} {tt : Et} {f : Ep} {i : Nat} {y : Str} {py spos : Pos} (hX : XG X) (hy : X.N[i]? = some y) (hyl : X.env.scope.names.lookup y = some .local)
    (hsw : swapsWith (.ListComp elt [⟨tg, iter, ifs, 0⟩] scope pos) (some (.Name y py)) spos.line X.env = pure true) (hi : DI X n.z n.W true tg iter it) (ok : BlkOk X.N X.env.scope scope own) (hsub : ∀ i ∈ is, i ∈ own.map (·.2))
    (hg : ∀ (s : Shared) (H : Hp) (C : Addr) (cl : List (Str × Addr)) (fp : List Addr), TgOk (X.blk s H scope (compEnvC scope cl C X.env) fp) n.z tg gt t is)
    (ht : ∀ (s : Shared) (H : Hp) (C : Addr) (cl : List (Str × Addr)) (fp : List Addr), DTs (X.blk s H scope (compEnvC scope cl C X.env) fp) n.z W0 ifs tt)
    (he : ∀ (s : Shared) (H : Hp) (C : Addr) (cl : List (Str × Addr)) (fp : List Addr), DE (X.blk s H scope (compEnvC scope cl C X.env) fp) n.z W0 .sh elt f) (hs : ∀ x, foldedSetIterable iter X.env x = pure x := by intro _; rfl) :
    DS X n (.Assign [.Name y py] (.ListComp elt [⟨tg, iter, ifs, 0⟩] scope pos) spos) (sSet false i (eLc it t tt f (own.map (·.2)))) := by
  have h := ds_setLc hX hy hyl hsw hi ok hsub hg ht he hs
  refine ⟨fun pins s σ H D I ⟨ρ, g, Mu, S, hq⟩ => ?_⟩
  refine h.run pins s σ H D I ⟨ρ, g, Mu, S, ?_⟩
  have hl : i < ρ.length := by rw [S.env.len, I.len]; exact (List.getElem?_eq_some_iff.mp hy).1
  have hq : ((eLc it t tt f (own.map (·.2)) ρ g).bind fun d => M.pure (.nx (ρ.set i (some (false && d.box, d))))).all (FW X n D) (EW X n) := hq
  show ((eLc it t tt f (own.map (·.2)) ρ g).bind fun d => M.pure (.nx (ρ.set i (some (true && d.box, d))))).all (FW X n D) (EW X n)
  refine R.of_bind (R.all_imp (R.all_bind hq) (fun d g1 hq => ?_) fun _ _ _ _ h => h)
  intro σ' H' Mu' S'
  obtain ⟨Mu2, S2⟩ := S'.frz (i := i)
  refine hq σ' H' Mu2 ?_
  have e : frz (ρ.set i (some (true && d.box, d))) i = ρ.set i (some (false && d.box, d)) := by
    unfold frz
    rw [List.getElem?_set_self hl]
    cases hb : d.box with
    | true => show (ρ.set i (some (true, d))).set i (some (false, d)) = _; rw [List.set_set]; rfl
    | false => rfl
  rw [e] at S2
  exact S2
end DL
set_option Elab.async false
set_option linter.all false
set_option maxRecDepth 100000
set_option maxHeartbeats 2000000
/-! The value layer, part 22: readings computed. -/
namespace DL
open PySem PySem.Spec PyProof.Rows L2

/-! ### steps -/
section
variable {α β : Type} {ρ : Env} {g : G}
theorem rb_ok (a : α) (g : G) (k : α → M β) : (R.ok a g).bind k = k a g := rfl
theorem rb_exc (c f : Str) (l : List D) (g : G) (k : α → M β) : (R.exc c f l g : R α).bind k = .exc c f l g := rfl
theorem m_bind (m : M α) (k : α → M β) (g : G) : (m >>= k) g = (m g).bind k := rfl
theorem m_pure (a : α) (g : G) : (M.pure a : M α) g = .ok a g := rfl
theorem m_pure' (a : α) (g : G) : (pure a : M α) g = .ok a g := rfl
theorem m_opt (a : α) (g : G) : (ofOpt (some a) : M α) g = .ok a g := rfl
theorem e_var {i : Nat} {d : D} (h : ρ[i]? = some (some (false, d))) : eVar i ρ g = .ok d g := by
  unfold eVar shAt
  rw [h]
  rfl
theorem e_peek {i : Nat} {b : Bool} {d : D} (h : ρ[i]? = some (some (b, d))) : ePeek i ρ g = .ok d g := by
  unfold ePeek anyAt
  rw [h]
  rfl
theorem e_c (d : D) : eC d ρ g = .ok d g := rfl
theorem e_bin {h : D → D → Option D} {fa fb : Ep} {x y d : D} {g1 g2 : G} (ha : fa ρ g = .ok x g1) (hb : fb ρ g1 = .ok y g2) (hd : h x y = some d) : eBin h fa fb ρ g = .ok d g2 := by
  show ((fa ρ g).bind fun x => fun g => (fb ρ g).bind fun y => ofOpt (h x y)) = _
  rw [ha, rb_ok, hb, rb_ok, hd]
  rfl
theorem e_un {h : D → Option D} {fa : Ep} {x d : D} {g1 : G} (ha : fa ρ g = .ok x g1) (hd : h x = some d) : eUn h fa ρ g = .ok d g1 := by
  show ((fa ρ g).bind fun x => ofOpt (h x)) = _
  rw [ha, rb_ok, hd]
  rfl
theorem e_tr {f : Ep} {b : Bool} {g1 : G} (h : f ρ g = .ok (.bl b) g1) : eTr f ρ g = .ok b g1 := by
  show ((f ρ g).bind fun d => (match d with | .bl b => M.pure b | _ => stuck : M Bool)) = _
  rw [h]
  rfl
theorem s_nil : sNil ρ g = .ok [] g := rfl
theorem s_cons {f : Ep} {h : Es} {x : D} {xs : List D} {g1 g2 : G} (ha : f ρ g = .ok x g1) (hb : h ρ g1 = .ok xs g2) : sCons f h ρ g = .ok (x :: xs) g2 := by
  show ((f ρ g).bind fun x => fun g => (h ρ g).bind fun xs => M.pure (x :: xs)) = _
  rw [ha, rb_ok, hb]
  rfl
theorem e_call {h : List D → Option D} {fs : Es} {ds : List D} {d : D} {g1 : G} (ha : fs ρ g = .ok ds g1) (hd : h ds = some d) : eCall h fs ρ g = .ok d g1 := by
  show ((fs ρ g).bind fun ds => ofOpt (h ds)) = _
  rw [ha, rb_ok, hd]
  rfl
theorem e_callF {cf : List D → M D} {fs : Es} {ds : List D} {r : R D} {g1 : G} (ha : fs ρ g = .ok ds g1) (hd : cf ds g1 = r) : eCallF cf fs ρ g = r := by
  show ((fs ρ g).bind fun ds => cf ds) = _
  rw [ha, rb_ok, hd]
theorem e_callK {cf : List D → M D} {pm : List Nat} {fs gs : Es} {ds es : List D} {r : R D} {g1 g2 : G} (ha : fs ρ g = .ok ds g1) (hb : gs ρ g1 = .ok es g2) (hd : cf (pick pm (ds ++ es)) g2 = r) : eCallK cf pm fs gs ρ g = r := by
  show ((fs ρ g).bind fun ds => fun g => (gs ρ g).bind fun es => cf (pick pm (ds ++ es))) = _
  rw [ha, rb_ok, hb, rb_ok, hd]
theorem e_tup {h : Es} {ds : List D} {g1 : G} (ha : h ρ g = .ok ds g1) (hl : ds.length ≤ 1000) : eTup h ρ g = .ok (.tup ds) g1 := by
  have : ds.length ≤ sizeLine := Nat.le_trans hl (by rw [sizeLine_eq]; decide)
  unfold eTup
  rw [m_bind, ha, rb_ok, if_pos this]
  rfl
theorem e_lst {h : Es} {ds : List D} {g1 : G} (ha : h ρ g = .ok ds g1) (hl : ds.length ≤ 1000) : eLst h ρ g = .ok (.lst ds) g1 := by
  have : ds.length ≤ sizeLine := Nat.le_trans hl (by rw [sizeLine_eq]; decide)
  unfold eLst
  rw [m_bind, ha, rb_ok, if_pos this]
  rfl
theorem b_and {f h : Et} {b c : Bool} {g1 g2 : G} (hf : f ρ g = .ok b g1) (hh : b = true → h ρ g1 = .ok c g2) (h0 : b = false → c = false ∧ g2 = g1) : bAnd f h ρ g = .ok c g2 := by
  unfold bAnd
  rw [m_bind, hf, rb_ok]
  cases b with
  | true => exact hh rfl
  | false => obtain ⟨rfl, rfl⟩ := h0 rfl; rfl
theorem b_or {f h : Et} {b c : Bool} {g1 g2 : G} (hf : f ρ g = .ok b g1) (hh : b = false → h ρ g1 = .ok c g2) (h0 : b = true → c = true ∧ g2 = g1) : bOr f h ρ g = .ok c g2 := by
  unfold bOr
  rw [m_bind, hf, rb_ok]
  cases b with
  | false => exact hh rfl
  | true => obtain ⟨rfl, rfl⟩ := h0 rfl; rfl
theorem b_not {f : Et} {b : Bool} {g1 : G} (hf : f ρ g = .ok b g1) : bNot f ρ g = .ok (!b) g1 := by
  unfold bNot
  rw [m_bind, hf]
  rfl
theorem s_seq {t u : Ss} {ρ1 : Env} {g1 : G} {r : R Fl} (h : t ρ g = .ok (.nx ρ1) g1) (hu : u ρ1 g1 = r) : sSeq t u ρ g = r := by
  unfold sSeq
  rw [m_bind, h, rb_ok]
  exact hu
theorem s_seqR {t u : Ss} {d : D} {g1 : G} (h : t ρ g = .ok (.ret d) g1) : sSeq t u ρ g = .ok (.ret d) g1 := by
  unfold sSeq
  rw [m_bind, h]
  rfl
theorem s_seqX {t u : Ss} {c f : Str} {l : List D} {g1 : G} (h : t ρ g = .exc c f l g1) : sSeq t u ρ g = .exc c f l g1 := by
  unfold sSeq
  rw [m_bind, h]
  rfl
theorem s_if {c : Et} {t u : Ss} {b : Bool} {g1 : G} (h : c ρ g = .ok b g1) : sIf c t u ρ g = if b = true then t ρ g1 else u ρ g1 := by
  unfold sIf
  rw [m_bind, h, rb_ok]
  cases b <;> rfl
theorem s_ret {f : Ep} {d : D} {g1 : G} (h : f ρ g = .ok d g1) : sRet f ρ g = .ok (.ret d) g1 := by
  unfold sRet
  rw [m_bind, h]
  rfl
theorem s_retX {f : Ep} {c n : Str} {l : List D} {g1 : G} (h : f ρ g = .exc c n l g1) : sRet f ρ g = .exc c n l g1 := by
  unfold sRet
  rw [m_bind, h]
  rfl
theorem s_expr {f : Ep} {d : D} {g1 : G} (h : f ρ g = .ok d g1) : sExpr f ρ g = .ok (.nx ρ) g1 := by
  unfold sExpr
  rw [m_bind, h]
  rfl
theorem s_exprX {f : Ep} {c n : Str} {l : List D} {g1 : G} (h : f ρ g = .exc c n l g1) : sExpr f ρ g = .exc c n l g1 := by
  unfold sExpr
  rw [m_bind, h]
  rfl
theorem s_set {i : Nat} {f : Ep} {d : D} {g1 : G} (h : f ρ g = .ok d g1) : sSet false i f ρ g = .ok (.nx (ρ.set i (some (false, d)))) g1 := by
  unfold sSet
  rw [m_bind, h]
  rfl
theorem fn_ret {t : Ss} {n : Nat} {ds : List D} {d : D} {g1 : G} (h : t (startE n ds) g = .ok (.ret d) g1) : fnB t n ds g = .ok d g1 := by
  unfold fnB
  rw [m_bind, h]
  rfl
theorem fn_nx {t : Ss} {n : Nat} {ds : List D} {ρ1 : Env} {g1 : G} (h : t (startE n ds) g = .ok (.nx ρ1) g1) : fnB t n ds g = .ok .non g1 := by
  unfold fnB
  rw [m_bind, h]
  rfl
theorem fn_exc {t : Ss} {n : Nat} {ds : List D} {c f : Str} {l : List D} {g1 : G} (h : t (startE n ds) g = .exc c f l g1) : fnB t n ds g = .exc c f l g1 := by
  unfold fnB
  rw [m_bind, h]
  rfl
end

/-! ### numbers compared -/
theorem shaped_int (i : Int) : SeqAt.shaped (.int i) = true := by simp [SeqAt.shaped, PyData.canLay0, PyData.depth]
theorem dEq_int (a b : Int) : dEq (.int a) (.int b) = some (.bl (a == b)) := by
  show (dEqP (.int a) (.int b)).map D.bl = _
  unfold dEqP
  rw [D.py, D.py]
  simp [shaped_int, PyData.eqv]
theorem dNe_int (a b : Int) : dNe (.int a) (.int b) = some (.bl (!(a == b))) := by
  show (dEqP (.int a) (.int b)).map (fun c => D.bl (!c)) = _
  unfold dEqP
  rw [D.py, D.py]
  simp [shaped_int, PyData.eqv]

/-! ### the draws -/
/-- k draws are left in the purse -/
structure GI (k : Nat) (g : G) : Prop where
  l : g.large.length ≤ 63
  c : g.cells.length ≤ 63
  t0 : 0 ≤ g.turn
  t : g.turn + k ≤ 1000000000
theorem GI.mono {j k : Nat} {g : G} (h : GI k g) (hj : j ≤ k) : GI j g := ⟨h.l, h.c, h.t0, by have := h.t; omega⟩
theorem gi0 {ns : List Int} (h : ns.length ≤ 63) : GI 1000000000 (g0 ns) := ⟨Nat.le_trans (large0_len _) (by unfold cells0; rw [List.length_map]; exact h), by show (cells0 ns).length ≤ 63; unfold cells0; rw [List.length_map]; exact h, Int.le_refl _, by show (0 : Int) + _ ≤ _; decide⟩
def drawW : Ss := sWhile (bAnd (eTr (eBin dEq (eStL 0) (eC (.int 0)))) (tLsNe 0 (·.large))) (sSt 0 uL (ePopL 0)) 66
def drawR : Ss :=
  (sSeq (sSet false 3 (eBin dAdd (eStT 0) (eC (.int 1))))
  (sSeq (sSt 0 uT (eVar 3))
  (sSeq (sSet false 4 (eIf (tLsNe 0 (·.cells)) (eCellIx 0 (eBin dMod (eCall fInt (sCons (eVar 3) sNil)) (eCellLen 0))) (eC (.int 0))))
  (sSeq (sSet false 5 (eBin dMod (eCall fInt (sCons (eBin dPow (eBin dAdd (eBin dAdd (eBin dMod (eCall fInt (sCons (eVar 4) sNil)) (eC (.int 2147483563))) (eBin dMul (eC (.int 40692)) (eVar 3))) (eC (.int 24681))) (eC (.int 3))) sNil)) (eC (.int 2147483629))))
  (sRet (eBin dMod (eCall fInt (sCons (eBin dFdiv (eBin dMod (eCall fInt (sCons (eBin dPow (eBin dAdd (eVar 5) (eBin dMul (eC (.int 104917)) (eVar 3))) (eC (.int 5))) sNil)) (eC (.int 2147483579))) (eC (.int 29))) sNil)) (eVar 1)))))))
def drawT : Ss :=
  (sSeq drawW
  (sSeq (sIf (eTr (eBin dGt (eStL 0) (eC (.int 0))))
  (sSeq (sSet false 2 (eBin dMod (eCall fInt (sCons (eStL 0) sNil)) (eVar 1)))
  (sSeq (sSt 0 uL (eBin dFdiv (eStL 0) (eVar 1)))
  (sRet (eVar 2))))
  (fun ρ => M.pure (.nx ρ)))
  drawR))
theorem e_stL {i : Nat} {ρ : Env} {g : G} (h : ρ[i]? = some (some (false, .st))) : eStL i ρ g = .ok (.int g.left) g := by
  unfold eStL onSt shAt
  rw [h]
theorem e_stT {i : Nat} {ρ : Env} {g : G} (h : ρ[i]? = some (some (false, .st))) : eStT i ρ g = .ok (.int g.turn) g := by
  unfold eStT onSt shAt
  rw [h]
theorem t_lsNe {i : Nat} {l : G → List Int} {ρ : Env} {g : G} (h : ρ[i]? = some (some (false, .st))) : tLsNe i l ρ g = .ok (decide (l g ≠ [])) g := by
  unfold tLsNe onSt shAt
  rw [h]
theorem e_popL {i : Nat} {ρ : Env} {g : G} {x : Int} {xs : List Int} (h : ρ[i]? = some (some (false, .st))) (hl : g.large = x :: xs) : ePopL i ρ g = .ok (.int x) { g with large := xs } := by
  unfold ePopL onSt shAt
  rw [h]
  dsimp only
  rw [hl]
theorem s_st {i : Nat} {u : G → Int → G} {f : Ep} {v : Int} {ρ : Env} {g g1 : G} (h : ρ[i]? = some (some (false, .st))) (hf : f ρ g = .ok (.int v) g1) : sSt i u f ρ g = .ok (.nx ρ) (u g1 v) := by
  unfold sSt onSt shAt
  rw [m_bind, hf, rb_ok, h]
theorem e_cellLen {i : Nat} {ρ : Env} {g : G} (h : ρ[i]? = some (some (false, .st))) : eCellLen i ρ g = .ok (.int g.cells.length) g := by
  unfold eCellLen onSt shAt
  rw [h]
theorem e_cellIx {i : Nat} {ρ : Env} {fb : Ep} {g g1 : G} {k c : Int} (h : ρ[i]? = some (some (false, .st))) (hf : fb ρ g = .ok (.int k) g1) (hc : L2.atI g1.cells k = some c) : eCellIx i fb ρ g = .ok (.int c) g1 := by
  unfold eCellIx onSt shAt
  rw [h]
  dsimp only
  rw [m_bind, hf, rb_ok]
  dsimp only
  rw [hc]
theorem e_if {c : Et} {f h : Ep} {ρ : Env} {b : Bool} {g g1 : G} (hc : c ρ g = .ok b g1) : eIf c f h ρ g = if b = true then f ρ g1 else h ρ g1 := by
  unfold eIf
  rw [m_bind, hc, rb_ok]
  cases b <;> rfl
theorem drawW_ok {ρ : Env} (h : ρ[0]? = some (some (false, .st))) : ∀ (N : Nat) (g : G), g.large.length < N → ∃ g', sWhile (bAnd (eTr (eBin dEq (eStL 0) (eC (.int 0)))) (tLsNe 0 (·.large))) (sSt 0 uL (ePopL 0)) N ρ g = .ok (.nx ρ) g' ∧
    g'.turn = g.turn ∧ g'.cells = g.cells ∧ g'.large.length ≤ g.large.length
  | 0, g, hl => absurd hl (by omega)
  | N + 1, g, hl => by
    have t1 : eTr (eBin dEq (eStL 0) (eC (.int 0))) ρ g = .ok (g.left == 0) g := e_tr (e_bin (e_stL h) (e_c _) (dEq_int _ _))
    have t2 : bAnd (eTr (eBin dEq (eStL 0) (eC (.int 0)))) (tLsNe 0 (·.large)) ρ g = .ok ((g.left == 0) && decide (g.large ≠ [])) g := by
      refine b_and t1 (fun hb => ?_) fun hb => ?_
      · rw [t_lsNe h, hb, Bool.true_and]
      · rw [hb]; exact ⟨rfl, rfl⟩
    rw [sWhile, m_bind, t2, rb_ok]
    cases hc : ((g.left == 0) && decide (g.large ≠ [])) with
    | false => exact ⟨g, rfl, rfl, rfl, Nat.le_refl _⟩
    | true =>
      rw [Bool.and_eq_true, decide_eq_true_eq] at hc
      obtain ⟨x, xs, hx⟩ := List.exists_cons_of_ne_nil hc.2
      rw [if_pos rfl, m_bind, s_st h (e_popL h hx), rb_ok]
      have hlen : (uL { g with large := xs } x).large.length < N := by
        show xs.length < N
        rw [hx, List.length_cons] at hl
        omega
      obtain ⟨g', e, e1, e2, e3⟩ := drawW_ok h N (uL { g with large := xs } x) hlen
      refine ⟨g', e, e1, e2, Nat.le_trans e3 ?_⟩
      show xs.length ≤ _
      rw [hx, List.length_cons]
      omega
theorem natAbs_lt {i B : Int} {n : Nat} (h0 : 0 ≤ i) (h : i < B) (hB : B ≤ (n : Int)) : i.natAbs < n := by omega
theorem draw_ok {n : Int} {k : Nat} {g : G} (hn : 0 < n) (hn2 : n ≤ 1000000000) (h : GI (k + 1) g) : ∃ r g', fnB drawT 6 [.st, .int n] g = .ok (.int r) g' ∧ 0 ≤ r ∧ r < n ∧ GI k g' := by
  obtain ⟨g1, e1, c1, c2, c3⟩ := drawW_ok (ρ := startE 6 [.st, .int n]) rfl 66 g (by have := h.l; omega)
  have hlog : n.natAbs.log2 < 9000 := by
    have h1 : n.natAbs < 2 ^ 9000 := by
      refine Nat.lt_of_le_of_lt (show n.natAbs ≤ 2 ^ 30 by omega) ?_
      exact Nat.pow_lt_pow_right (by decide) (by decide)
    exact (Nat.log2_lt (by omega)).mpr h1
  have i1 : GI (k + 1) g1 := ⟨Nat.le_trans c3 h.l, by rw [c2]; exact h.c, by rw [c1]; exact h.t0, by rw [c1]; exact h.t⟩
  have tl : eTr (eBin dGt (eStL 0) (eC (.int 0))) (startE 6 [.st, .int n]) g1 = .ok (decide (0 < g1.left)) g1 := e_tr (e_bin (e_stL rfl) (e_c _) rfl)
  by_cases hl : 0 < g1.left
  · refine ⟨g1.left % n, uL g1 (g1.left / n), fn_ret (s_seq e1 (s_seqR ?_)), Int.emod_nonneg _ (by omega), Int.emod_lt_of_pos _ hn, ⟨i1.l, i1.c, i1.t0, by have := i1.t; show g1.turn + (k : Int) ≤ _; omega⟩⟩
    rw [s_if tl, if_pos (decide_eq_true hl)]
    refine s_seq (s_set (e_bin (e_call (s_cons (e_stL rfl) s_nil) rfl) (e_var rfl) (?_ : dMod (.int g1.left) (.int n) = some (.int (g1.left % n))))) (s_seq (s_st rfl (e_bin (e_stL rfl) (e_var rfl) (?_ : dFdiv (.int g1.left) (.int n) = some (.int (g1.left / n))))) (s_ret (e_var rfl)))
    · unfold dMod; dsimp only; rw [if_pos hn]
    · unfold dFdiv; dsimp only; rw [if_pos ⟨hn, hlog⟩]
  · let t : Int := g1.turn + 1
    have ht0 : 0 ≤ t := by have := i1.t0; show 0 ≤ g1.turn + 1; omega
    have ht1 : t ≤ 1000000000 := by have := i1.t; show g1.turn + 1 ≤ _; omega
    have cell : ∃ c : Int, ∀ ρ : Env, ρ[0]? = some (some (false, .st)) → ρ[3]? = some (some (false, .int t)) → eIf (tLsNe 0 (·.cells)) (eCellIx 0 (eBin dMod (eCall fInt (sCons (eVar 3) sNil)) (eCellLen 0))) (eC (.int 0)) ρ (uT g1 t) = .ok (.int c) (uT g1 t) := by
      by_cases hc : g1.cells = []
      · refine ⟨0, fun ρ h0 h3 => ?_⟩
        rw [e_if (t_lsNe h0), if_neg (by rw [decide_eq_true_eq]; exact fun w => w hc)]
        rfl
      · have hp : 0 < (g1.cells.length : Int) := by
          have := List.length_pos_iff.mpr hc
          omega
        have hlt : t % (g1.cells.length : Int) < g1.cells.length := Int.emod_lt_of_pos _ hp
        have hge : 0 ≤ t % (g1.cells.length : Int) := Int.emod_nonneg _ (by omega)
        have hix : (t % (g1.cells.length : Int)).toNat < g1.cells.length := by omega
        refine ⟨g1.cells[(t % (g1.cells.length : Int)).toNat], fun ρ h0 h3 => ?_⟩
        rw [e_if (t_lsNe h0), if_pos (by rw [decide_eq_true_eq]; exact hc)]
        refine e_cellIx h0 (e_bin (e_call (s_cons (e_var h3) s_nil) rfl) (e_cellLen h0) (?_ : dMod (.int t) (.int g1.cells.length) = some (.int (t % (g1.cells.length : Int))))) ?_
        · unfold dMod; dsimp only; rw [if_pos hp]
        · unfold L2.atI ixN
          show ((if 0 ≤ t % (g1.cells.length : Int) then (if t % (g1.cells.length : Int) < g1.cells.length then some (t % (g1.cells.length : Int)).toNat else none) else _).bind fun j => g1.cells[j]?) = _
          rw [if_pos hge, if_pos hlt]
          exact List.getElem?_eq_getElem hix
    obtain ⟨c, hcell⟩ := cell
    have m1 : 0 ≤ c % 2147483563 ∧ c % 2147483563 < 2147483563 := ⟨Int.emod_nonneg _ (by decide), Int.emod_lt_of_pos _ (by decide)⟩
    let b1 : Int := c % 2147483563 + 40692 * t + 24681
    have hb1 : 0 ≤ b1 ∧ b1 < 100000000000000 := by
      constructor <;> simp only [b1] <;> omega
    let x : Int := b1 ^ (3 : Int).toNat % 2147483629
    have hx : 0 ≤ x ∧ x < 2147483629 := ⟨Int.emod_nonneg _ (by decide), Int.emod_lt_of_pos _ (by decide)⟩
    let b2 : Int := x + 104917 * t
    have hb2 : 0 ≤ b2 ∧ b2 < 1000000000000000 := by
      constructor <;> simp only [b2] <;> omega
    let y : Int := b2 ^ (5 : Int).toNat % 2147483579 / 29
    refine ⟨y % n, uT g1 t, fn_ret (s_seq e1 (s_seq (ρ1 := startE 6 [.st, .int n]) (g1 := g1) ?_ ?_)), Int.emod_nonneg _ (by omega), Int.emod_lt_of_pos _ hn, ⟨i1.l, i1.c, ht0, by have := i1.t; show g1.turn + 1 + (k : Int) ≤ _; omega⟩⟩
    · rw [s_if tl, if_neg (by rw [decide_eq_true_eq]; exact hl)]
    · refine s_seq (s_set (e_bin (e_stT rfl) (e_c _) rfl)) (s_seq (s_st rfl (e_var rfl)) (s_seq (s_set (hcell _ rfl rfl)) (s_seq (s_set (d := .int x) (g1 := uT g1 t) ?_) (s_ret (g1 := uT g1 t) ?_))))
      · refine e_bin (x := .int (b1 ^ (3 : Int).toNat)) (e_call (ds := [.int (b1 ^ (3 : Int).toNat)]) (s_cons (e_bin (x := .int b1) (e_bin (x := .int (c % 2147483563 + 40692 * t)) (e_bin (x := .int (c % 2147483563)) (e_bin (e_call (s_cons (e_var rfl) s_nil) rfl) (e_c _) rfl) (e_bin (y := .int t) (d := .int (40692 * t)) (e_c _) (e_var rfl) ?_) rfl) (e_c _) rfl) (e_c _) ?_) s_nil) rfl) (e_c _) rfl
        · unfold dMul; dsimp only; rw [if_pos (.inl ⟨by decide, by decide⟩)]
        · unfold dPow; dsimp only; rw [if_pos ⟨by decide, by decide, natAbs_lt hb1.1 hb1.2 (by decide)⟩]
      · refine e_bin (x := .int y) (y := .int n) (e_call (ds := [.int y]) (s_cons (e_bin (x := .int (b2 ^ (5 : Int).toNat % 2147483579)) (e_bin (x := .int (b2 ^ (5 : Int).toNat)) (e_call (ds := [.int (b2 ^ (5 : Int).toNat)]) (s_cons (e_bin (x := .int b2) (e_bin (x := .int x) (y := .int (104917 * t)) (e_var rfl) (e_bin (y := .int t) (e_c _) (e_var rfl) ?_) rfl) (e_c _) ?_) s_nil) rfl) (e_c _) rfl) (e_c _) ?_) s_nil) rfl) (e_var rfl) ?_
        · unfold dMul; dsimp only; rw [if_pos (.inl ⟨by decide, by decide⟩)]
        · unfold dPow; dsimp only; rw [if_pos ⟨by decide, by decide, natAbs_lt hb2.1 hb2.2 (by decide)⟩]
        · unfold dFdiv; dsimp only; rw [if_pos ⟨by decide, by decide⟩]
        · unfold dMod; dsimp only; rw [if_pos hn]
end DL
set_option Elab.async false
set_option linter.all false
set_option maxRecDepth 100000
set_option maxHeartbeats 2000000
/-! The value layer, part 23: loops and comprehensions computed, isinstance, sorted numbers. -/
namespace DL
open PySem PySem.Spec PyProof.Rows L2

theorem line_1000 {n : Nat} (h : n ≤ 1000) : n ≤ sizeLine := Nat.le_trans h (by rw [sizeLine_eq]; decide)
/-! ### comprehensions -/
theorem nox_ok {α : Type} {m : M α} {g g' : G} {a : α} (h : m g = .ok a g') : nox m g = .ok a g' := by
  unfold nox
  rw [h]
section
variable {ρ : Env} {t : D → Env → Option Env} {tt : Et} {f : Ep} {g g1 g2 : G} {vs : List Nat} {it : Es}
theorem e_lc {ds out : List D} (hi : it ρ g = .ok ds g1) (hl : ds.length ≤ 1000) (h : sLcL (wipeE ρ vs) t tt f ds g1 = .ok out g2) : eLc it t tt f vs ρ g = .ok (.lst out) g2 := by
  unfold eLc
  rw [m_bind, hi, rb_ok, m_bind, if_pos (line_1000 hl), m_opt, rb_ok, m_bind, h]
  rfl
/-- nothing is drawn -/
theorem lc_pure (P : D → Bool) (F : D → D) : ∀ l : List D, (∀ d ∈ l, ∃ ρ', t d ρ = some ρ' ∧ tt ρ' g = .ok (P d) g ∧ (P d = true → f ρ' g = .ok (F d) g)) → sLcL ρ t tt f l g = .ok ((l.filter P).map F) g
  | [], _ => rfl
  | d :: l, h => by
    obtain ⟨ρ', h1, h2, h3⟩ := h d List.mem_cons_self
    have ih := lc_pure P F l fun x hx => h x (List.mem_cons_of_mem _ hx)
    rw [sLcL, m_bind, h1, m_opt, rb_ok, m_bind, nox_ok h2, rb_ok]
    cases hp : P d with
    | true => rw [if_pos rfl, m_bind, nox_ok (h3 hp), rb_ok, m_bind, ih, rb_ok, List.filter_cons_of_pos hp, List.map_cons]
    | false => rw [if_neg (by decide), ih, List.filter_cons_of_neg (by rw [hp]; decide)]
theorem lc_all (F : D → D) (l : List D) (h : ∀ d ∈ l, ∃ ρ', t d ρ = some ρ' ∧ f ρ' g = .ok (F d) g) : sLcL ρ t sYes f l g = .ok (l.map F) g := by
  have q := lc_pure (ρ := ρ) (t := t) (tt := sYes) (f := f) (g := g) (fun _ => true) F l fun d hd => by
    obtain ⟨ρ', h1, h2⟩ := h d hd
    exact ⟨ρ', h1, rfl, fun _ => h2⟩
  rw [q, List.filter_eq_self.mpr fun _ _ => rfl]
/-- each item draws at most c times -/
theorem lc_draw (c : Nat) (Q : D → Prop) : ∀ (l : List D) (k : Nat) (g : G), (∀ d ∈ l, ∀ k g, GI (k + c) g → ∃ ρ' y g', t d ρ = some ρ' ∧ f ρ' g = .ok y g' ∧ GI k g' ∧ Q y) → GI (k + c * l.length) g →
    ∃ ys g', sLcL ρ t sYes f l g = .ok ys g' ∧ ys.length = l.length ∧ (∀ y ∈ ys, Q y) ∧ GI k g'
  | [], k, g, _, h => ⟨[], g, rfl, rfl, (fun _ h => nomatch h), h⟩
  | d :: l, k, g, hs, h => by
    obtain ⟨ρ', y, g1, h1, h2, h3, h4⟩ := hs d List.mem_cons_self (k + c * l.length) g (by rw [List.length_cons, Nat.mul_succ] at h; rw [Nat.add_assoc]; exact h)
    obtain ⟨ys, g2, e1, e2, e3, e4⟩ := lc_draw c Q l k g1 (fun x hx => hs x (List.mem_cons_of_mem _ hx)) h3
    refine ⟨y :: ys, g2, ?_, by rw [List.length_cons, List.length_cons, e2], fun z hz => ?_, e4⟩
    · rw [sLcL, m_bind, h1, m_opt, rb_ok, m_bind, nox_ok (show sYes ρ' g = .ok true g from rfl), rb_ok, if_pos rfl, m_bind, nox_ok h2, rb_ok, m_bind, e1]
      rfl
    · rcases List.mem_cons.mp hz with rfl | hz
      · exact h4
      · exact e3 z hz
end
/-! ### for -/
theorem s_for {f : Es} {t : D → Env → Option Env} {body : Ss} {ρ : Env} {g g1 : G} {l : List D} {r : R Fl} (hf : f ρ g = .ok l g1) (h : sForL t body l ρ g1 = r) : sFor f t body ρ g = r := by
  unfold sFor
  rw [m_bind, hf, rb_ok, h]
theorem for_draw {t : D → Env → Option Env} {body : Ss} (c : Nat) (J : Env → Prop) : ∀ (l : List D) (ρ : Env) (k : Nat) (g : G), (∀ d ∈ l, ∀ ρ, J ρ → ∀ k g, GI (k + c) g → ∃ ρ1 ρ2 g', t d ρ = some ρ1 ∧ body ρ1 g = .ok (.nx ρ2) g' ∧ J ρ2 ∧ GI k g') → J ρ → GI (k + c * l.length) g →
    ∃ ρ2 g', sForL t body l ρ g = .ok (.nx ρ2) g' ∧ J ρ2 ∧ GI k g'
  | [], ρ, k, g, _, hj, h => ⟨ρ, g, rfl, hj, h⟩
  | d :: l, ρ, k, g, hs, hj, h => by
    obtain ⟨ρ1, ρ2, g1, h1, h2, h3, h4⟩ := hs d List.mem_cons_self ρ hj (k + c * l.length) g (by rw [List.length_cons, Nat.mul_succ] at h; rw [Nat.add_assoc]; exact h)
    obtain ⟨ρ3, g2, e1, e2, e3⟩ := for_draw c J l ρ2 k g1 (fun x hx => hs x (List.mem_cons_of_mem _ hx)) h3 h4
    refine ⟨ρ3, g2, ?_, e2, e3⟩
    rw [sForL, m_bind, h1, m_opt, rb_ok, m_bind, h2, rb_ok]
    exact e1
/-- nothing is drawn -/
theorem for_pure {t : D → Env → Option Env} {body : Ss} {g : G} (J : Env → Prop) : ∀ (l : List D) (ρ : Env), (∀ d ∈ l, ∀ ρ, J ρ → ∃ ρ1 ρ2, t d ρ = some ρ1 ∧ body ρ1 g = .ok (.nx ρ2) g ∧ J ρ2) → J ρ → ∃ ρ2, sForL t body l ρ g = .ok (.nx ρ2) g ∧ J ρ2
  | [], ρ, _, hj => ⟨ρ, rfl, hj⟩
  | d :: l, ρ, hs, hj => by
    obtain ⟨ρ1, ρ2, h1, h2, h3⟩ := hs d List.mem_cons_self ρ hj
    obtain ⟨ρ3, e1, e2⟩ := for_pure J l ρ2 (fun x hx => hs x (List.mem_cons_of_mem _ hx)) h3
    refine ⟨ρ3, ?_, e2⟩
    rw [sForL, m_bind, h1, m_opt, rb_ok, m_bind, h2, rb_ok]
    exact e1
theorem s_range1 {f : Ep} {ρ : Env} {g g1 : G} {n : Nat} (h : f ρ g = .ok (.int (n : Int)) g1) (hn : n ≤ 1000000) : sRange1 f ρ g = .ok (rangeL 0 n) g1 := by
  unfold sRange1
  rw [m_bind, h, rb_ok]
  unfold fR1
  dsimp only
  rw [if_pos ⟨by omega, by omega⟩, Int.toNat_natCast]
  rfl
theorem s_itemsL {f : Ep} {ρ : Env} {g g1 : G} {l : List D} (h : f ρ g = .ok (.lst l) g1) : sItems f ρ g = .ok l g1 := by
  unfold sItems
  rw [m_bind, h]
  rfl
theorem s_itemsT {f : Ep} {ρ : Env} {g g1 : G} {l : List D} (h : f ρ g = .ok (.tup l) g1) : sItems f ρ g = .ok l g1 := by
  unfold sItems
  rw [m_bind, h]
  rfl
theorem rangeL_len (lo : Int) (n : Nat) : (rangeL lo n).length = n := by unfold rangeL; rw [List.length_map, List.length_range]
theorem mem_rangeL {lo : Int} {n : Nat} {d : D} (h : d ∈ rangeL lo n) : ∃ i : Nat, i < n ∧ d = .int (lo + i) := by
  unfold rangeL at h
  obtain ⟨i, hi, rfl⟩ := List.mem_map.mp h
  exact ⟨i, List.mem_range.mp hi, rfl⟩
/-! ### isinstance -/
def kindsB : List String := ["NoneType", "bool", "int", "str", "tuple", "list", "dict"]
def isK (t n : String) : Bool := t == n || (t == "bool" && n == "int")
theorem kit_all : ∀ t ∈ kindsB, ∀ n ∈ ["int", "bool", "tuple", "list", "str", "dict"], kitB t n = some (isK t n) := by decide +kernel
theorem isi_ty {sub : Str → Str → Option Bool} {cls : Str → Bool} {d : D} {t n : String} (h : tyN d = some t) (hn : n ∈ ["int", "bool", "tuple", "list", "str", "dict"]) : fIsi sub cls [d, .ty n] = some (.bl (isK t n)) := by
  have hk := kit_all t (tyN_mem h) n hn
  have e : fIsi sub cls [d, .ty n] = (match tyN d with | some t => (kitB t n).map D.bl | none => none) := by
    cases d with
    | exc c f l => cases l <;> rfl
    | _ => rfl
  rw [e, h]
  show (kitB t n).map D.bl = _
  rw [hk]
  rfl
def isInt : D → Bool
  | .int _ => true
  | _ => false
def isTup : D → Bool
  | .tup _ => true
  | _ => false
/-- of a plain kind -/
def plain (d : D) : Prop := (tyN d).isSome = true
theorem plain_ty {d : D} (h : plain d) : ∃ t, tyN d = some t := Option.isSome_iff_exists.mp h
theorem isi_int {sub : Str → Str → Option Bool} {cls : Str → Bool} {d : D} (h : plain d) : fIsi sub cls [d, .ty "int"] = some (.bl (isInt d || match d with | .bl _ => true | _ => false)) := by
  obtain ⟨t, ht⟩ := plain_ty h
  rw [isi_ty ht (by simp)]
  cases d <;> simp only [tyN, reduceCtorEq, Option.some.injEq] at ht <;> subst ht <;> rfl
theorem isi_bool {sub : Str → Str → Option Bool} {cls : Str → Bool} {d : D} (h : plain d) : fIsi sub cls [d, .ty "bool"] = some (.bl (match d with | .bl _ => true | _ => false)) := by
  obtain ⟨t, ht⟩ := plain_ty h
  rw [isi_ty ht (by simp)]
  cases d <;> simp only [tyN, reduceCtorEq, Option.some.injEq] at ht <;> subst ht <;> rfl
theorem isi_tup {sub : Str → Str → Option Bool} {cls : Str → Bool} {d : D} (h : plain d) : fIsi sub cls [d, .ty "tuple"] = some (.bl (isTup d)) := by
  obtain ⟨t, ht⟩ := plain_ty h
  rw [isi_ty ht (by simp)]
  cases d <;> simp only [tyN, reduceCtorEq, Option.some.injEq] at ht <;> subst ht <;> rfl
theorem e_andT {f h : Ep} {ρ : Env} {g g1 : G} (hf : f ρ g = .ok (.bl true) g1) : eAnd (eTr f) h ρ g = h ρ g1 := by
  unfold eAnd
  rw [m_bind, e_tr hf, rb_ok]
  rfl
theorem e_andF {f h : Ep} {ρ : Env} {g g1 : G} (hf : f ρ g = .ok (.bl false) g1) : eAnd (eTr f) h ρ g = .ok (.bl false) g1 := by
  unfold eAnd
  rw [m_bind, e_tr hf, rb_ok]
  rfl
theorem e_not {f : Ep} {ρ : Env} {b : Bool} {g g1 : G} (hf : f ρ g = .ok (.bl b) g1) : eNot f ρ g = .ok (.bl (!b)) g1 := by
  unfold eNot eBo
  rw [m_bind, b_not (e_tr hf)]
  rfl
theorem e_chainI {fa fb fc : Ep} {ρ : Env} {a b c : Int} {g g1 g2 : G} (ha : fa ρ g = .ok (.int a) g1) (hb : fb ρ g1 = .ok (.int b) g2) (hc : fc ρ g2 = .ok (.int c) g2) : eChain dLe dLe fa fb fc ρ g = .ok (.bl (decide (a ≤ b) && decide (b ≤ c))) g2 := by
  unfold eChain
  rw [m_bind, ha, rb_ok, m_bind, hb, rb_ok]
  rw [m_bind, show dLe (D.int a) (D.int b) = some (.bl (decide (a ≤ b))) from rfl, m_opt, rb_ok]
  by_cases h : a ≤ b
  · rw [decide_eq_true h, Bool.true_and]
    dsimp only
    rw [m_bind, hc]
    rfl
  · rw [decide_eq_false h, Bool.false_and]
theorem cut_to {l : List D} {k : Int} (h0 : 0 ≤ k) (h1 : k ≤ l.length) : DL.cutD l none (some k) = l.take k.toNat := by
  unfold DL.cutD HT.sIx
  dsimp only
  rw [if_neg (by omega), List.drop_zero, Nat.sub_zero]
  congr 1
  omega
theorem e_slTo {f fk : Ep} {ρ : Env} {g : G} {l : List D} {k : Int} (hf : f ρ g = .ok (.lst l) g) (hk : fk ρ g = .ok (.int k) g) (h0 : 0 ≤ k) (h1 : k ≤ l.length) : eSl f oNone (oSome fk) ρ g = .ok (.lst (l.take k.toNat)) g := by
  unfold eSl
  rw [m_bind, hf, rb_ok, m_bind, show oNone ρ g = .ok none g from rfl, rb_ok, m_bind]
  have e : oSome fk ρ g = .ok (some k) g := by
    unfold oSome
    rw [m_bind, hk]
    rfl
  rw [e, rb_ok]
  show ofOpt (some (D.lst (DL.cutD l none (some k)))) g = _
  rw [cut_to h0 h1]
  rfl
theorem log_ok {n : Int} (hn : 0 < n) (hn2 : n ≤ 1000000000) : n.natAbs.log2 < 9000 := by
  have h1 : n.natAbs < 2 ^ 9000 := by
    refine Nat.lt_of_le_of_lt (show n.natAbs ≤ 2 ^ 30 by omega) ?_
    exact Nat.pow_lt_pow_right (by decide) (by decide)
  exact (Nat.log2_lt (by omega)).mpr h1
theorem fdiv_ok {a n : Int} (hn : 0 < n) (hn2 : n ≤ 1000000000) : dFdiv (.int a) (.int n) = some (.int (a / n)) := by
  unfold dFdiv
  dsimp only
  rw [if_pos ⟨hn, log_ok hn hn2⟩]
theorem mul_ok {a b : Int} (h0 : -1000000 ≤ a) (h1 : a ≤ 1000000) : dMul (.int a) (.int b) = some (.int (a * b)) := by
  unfold dMul
  dsimp only
  rw [if_pos (.inl ⟨by omega, by omega⟩)]
theorem ix_0 {l : List D} {d : D} (h : l[0]? = some d) : dIx (.lst l) (.int 0) = some d := by
  show L2.atI l 0 = some d
  unfold L2.atI ixN
  have hl : 0 < l.length := (List.getElem?_eq_some_iff.mp h).1
  rw [if_pos (by decide), if_pos (by omega)]
  exact h
theorem ints_of {P : Int → Prop} : ∀ {l : List D}, (∀ y ∈ l, ∃ i, y = D.int i ∧ P i) → ∃ ns : List Int, l = ns.map D.int ∧ ∀ i ∈ ns, P i
  | [], _ => ⟨[], rfl, fun _ h => nomatch h⟩
  | y :: l, h => by
    obtain ⟨i, rfl, hi⟩ := h y List.mem_cons_self
    obtain ⟨ns, rfl, hn⟩ := ints_of (l := l) fun x hx => h x (List.mem_cons_of_mem _ hx)
    refine ⟨i :: ns, rfl, fun j hj => ?_⟩
    rcases List.mem_cons.mp hj with rfl | hj
    · exact hi
    · exact hn j hj
/-- the i-th of a list -/
theorem ix_l {l : List D} {i : Int} (h0 : 0 ≤ i) (h1 : i < l.length) : ∃ d, dIx (.lst l) (.int i) = some d ∧ d ∈ l := by
  refine ⟨l[i.toNat]'(by omega), ?_, List.getElem_mem _⟩
  show L2.atI l i = _
  unfold L2.atI ixN
  rw [if_pos h0, if_pos h1]
  exact List.getElem?_eq_getElem (by omega)
theorem rep_tup {v : D} {k : Int} (h0 : 0 ≤ k) (h1 : k ≤ 1000) : dMul (.tup [v]) (.int k) = some (.tup (List.replicate k.toNat v)) := by
  unfold dMul
  dsimp only
  rw [if_pos ⟨by omega, h1, (by show 1 ≤ 1000; decide), fun h => by cases h⟩]
  have e : ∀ n : Nat, (List.replicate n [v]).flatten = List.replicate n v := fun n => by
    induction n with
    | zero => rfl
    | succ n ih => rw [List.replicate_succ, List.flatten_cons, ih, List.replicate_succ]; rfl
  rw [e]
/-! ### sorted numbers -/
theorem sort_ints {ns : List Int} (hl : ns.length ≤ 1000) : ∃ ms : List Int, ms.Perm ns ∧ sortD (ns.map D.int) = some (ms.map D.int) := by
  have hp := pys_ints ns
  have hok : sortOk (ns.map PyData.int) = true := by
    unfold sortOk alikeB sortB
    simp only [Bool.and_eq_true, Bool.or_eq_true, List.all_map, List.all_eq_true, Function.comp_apply, decide_eq_true_eq]
    refine ⟨⟨fun x _ y _ => rfl, .inr fun x _ => trivial⟩, fun x _ => ?_⟩
    rw [PyData.depth]
    omega
  unfold sortD
  rw [hp]
  dsimp only
  rw [if_pos ⟨hok, by rw [List.length_map]; exact line_1000 hl⟩]
  have pm := List.mergeSort_perm (ns.map D.int) (PySem.W.dataLe false pyD)
  have allInt : ∀ l : List D, (∀ d ∈ l, ∃ n, d = D.int n) → ∃ ms : List Int, l = ms.map D.int := fun l => by
    induction l with
    | nil => exact fun _ => ⟨[], rfl⟩
    | cons d l ih =>
      intro h
      obtain ⟨n, rfl⟩ := h d List.mem_cons_self
      obtain ⟨ms, rfl⟩ := ih fun x hx => h x (List.mem_cons_of_mem _ hx)
      exact ⟨n :: ms, rfl⟩
  obtain ⟨ms, hm⟩ := allInt _ fun d hd => by
    obtain ⟨n, _, rfl⟩ := List.mem_map.mp (pm.mem_iff.mp hd)
    exact ⟨n, rfl⟩
  refine ⟨ms, ?_, by rw [hm]⟩
  rw [hm] at pm
  have e : ∀ l : List Int, (l.map D.int).filterMap (fun d => match d with | .int n => some n | _ => none) = l := fun l => by
    induction l with
    | nil => rfl
    | cons n l ih => rw [List.map_cons, List.filterMap_cons]; exact congrArg _ ih
  have pf := pm.filterMap fun d => match d with | .int n => some n | _ => none
  rw [e, e] at pf
  exact pf
/-! ### texts compared -/
theorem dNe_str_self (x : Str) : dNe (.str x) (.str x) = some (.bl false) := by
  show (some (decide (x = x))).map (fun c => D.bl (!c)) = _
  rw [decide_eq_true rfl]
  rfl
/-- two texts of equal things -/
theorem e_reprNe {fa fb : Es} {ρ : Env} {g g1 g2 : G} {d : D} {p : PyData} (ha : fa ρ g = .ok [d] g1) (hb : fb ρ g1 = .ok [d] g2) (hp : d.py = some p) (ho : okR p = true) : eTr (eBin dNe (eCall fRepr fa) (eCall fRepr fb)) ρ g = .ok false g2 := by
  have e : fRepr [d] = some (.str p.shown) := by
    unfold fRepr
    dsimp only
    rw [hp]
    dsimp only
    rw [if_pos ho]
  exact e_tr (e_bin (e_call ha e) (e_call hb e) (dNe_str_self _))
end DL
set_option Elab.async false
set_option linter.all false
set_option maxRecDepth 100000
set_option maxHeartbeats 2000000
/-! The value layer, part 24: methods of one's own lists: append, pop, extend, clear, reverse. -/
namespace DL
open PySem PySem.Spec PyProof.Rows L2

/-- one's own list -/
def ownL (ρ : Env) (i : Nat) : Option (List D) := match ρ[i]? with
  | some (some (true, .lst l)) => some l
  | _ => none
theorem ownL_some {ρ : Env} {i : Nat} {l : List D} (h : ownL ρ i = some l) : ρ[i]? = some (some (true, .lst l)) := by
  unfold ownL at h
  split at h
  · rename_i l' q
    cases h
    exact q
  · cases h
/-- a value, perhaps with lists of one's own changed -/
abbrev Em := Env → M (Env × D)
def mPure (f : Ep) : Em := fun ρ => do let d ← f ρ; M.pure (ρ, d)
abbrev Ems := Env → M (Env × List D)
def mNil : Ems := fun ρ => M.pure (ρ, [])
def mCons (f : Em) (h : Ems) : Ems := fun ρ => do
  let (ρ1, d) ← f ρ
  let (ρ2, ds) ← h ρ1
  M.pure (ρ2, d :: ds)
def tM (X : Cx) (n : En) (f : Em) : TE := fun σ H Q => ∃ ρ g Mu, SOk X.K X.mg n.z n.p Mu H σ ρ g ∧
  (f ρ g).all (fun x g' => ∀ v H' Mu', SOk X.K X.mg n.z n.p Mu' H' σ x.1 g' → Rep X.K X.mg n.z Mu' H' v x.2 → Q v H') (EW X n)
abbrev ME (X : Cx) (n : En) (e : Expr) (f : Em) : Prop := PE X e (tM X n f)
/-- what a method of lists does: the list, the arguments; the list then, the result -/
def LMeth (r : V → List V → Hp → VK → Prop) (h : List D → List D → Option (List D × D)) : Prop :=
  ∀ (K : PySem.W.Frag) (mg : Str → Option Value) (z : Zt) (Mu : List Addr) (H : Hp) (a : Addr) (xs : List V) (ds : List D) (vs : List V) (es ds' : List D) (d : D), H a = some (.lst xs) → Reps K mg z Mu H xs ds → Reps K mg z Mu H vs es → h ds es = some (ds', d) →
    ∃ xs' v, Reps K mg z Mu H xs' ds' ∧ Rep K mg z Mu H v d ∧ ∀ Q : VK, Q v (upd H a (.lst xs')) → r (.ref a) vs H Q
def hAppend : List D → List D → Option (List D × D)
  | l, [d] => if l.length < sizeLine then some (l ++ [d], .non) else none
  | _, _ => none
theorem lm_append : LMeth rAppend hAppend := by
  intro K mg z Mu H a xs ds vs es ds' d hH rx rv h
  match es, rv, h with
  | [d0], rv, h =>
    obtain ⟨hl, h⟩ := opt_if h
    cases h
    cases rv with
    | cons r t =>
      cases t
      exact ⟨_, .non, rx.append (.one r), .non, fun Q q => ⟨a, xs, _, rfl, rfl, hH, by rw [rx.length]; exact hl, q⟩⟩
def hPop0 : List D → List D → Option (List D × D)
  | l, [] => match l[l.length - 1]? with
    | some d => some (l.dropLast, d)
    | none => none
  | _, _ => none
theorem Reps.dropLast {K : PySem.W.Frag} {mg : Str → Option Value} {z : Zt} {Mu : List Addr} {H : Hp} {xs : List V} {ds : List D} (r : Reps K mg z Mu H xs ds) : Reps K mg z Mu H xs.dropLast ds.dropLast := by
  rw [List.dropLast_eq_take, List.dropLast_eq_take, r.length]
  exact r.take _
theorem lm_pop0 : LMeth rPop hPop0 := by
  intro K mg z Mu H a xs ds vs es ds' d hH rx rv h
  match es, rv, h with
  | [], .nil, h =>
    have h : (match ds[ds.length - 1]? with | some d => some (ds.dropLast, d) | none => none) = some (ds', d) := h
    cases q : ds[ds.length - 1]? with
    | none => rw [q] at h; cases h
    | some y =>
      rw [q] at h
      cases h
      obtain ⟨v, hv, rv⟩ := rx.get' q
      exact ⟨_, v, rx.dropLast, rv, fun Q q => ⟨a, xs, v, rfl, rfl, hH, by rw [rx.length]; exact hv, q⟩⟩
def hPop : List D → List D → Option (List D × D)
  | l, [.int i] => if -(2 ^ 63) ≤ i ∧ i < 2 ^ 63 then (match ixN l.length i with
    | some k => match l[k]? with
      | some d => some (l.eraseIdx k, d)
      | none => none
    | none => none) else none
  | _, _ => none
theorem Reps.eraseIdx {K : PySem.W.Frag} {mg : Str → Option Value} {z : Zt} {Mu : List Addr} {H : Hp} : ∀ {xs : List V} {ds : List D} (i : Nat), Reps K mg z Mu H xs ds → Reps K mg z Mu H (xs.eraseIdx i) (ds.eraseIdx i)
  | _, _, _, .nil => .nil
  | _, _, 0, .cons _ t => t
  | _, _, i + 1, .cons r t => .cons r (Reps.eraseIdx i t)
theorem opt_if' {α : Type} {c : Prop} [Decidable c] {a : Option α} {b : α} (h : (if c then a else none) = some b) : c ∧ a = some b := by
  split at h
  · exact ⟨by assumption, h⟩
  · cases h
theorem lm_pop : LMeth rPopAt hPop := by
  intro K mg z Mu H a xs ds vs es ds' d hH rx rv h
  match es, rv, h with
  | [.int i], rv, h =>
    obtain ⟨⟨h1, h2⟩, h⟩ := opt_if' h
    cases q : ixN ds.length i with
    | none => rw [q] at h; cases h
    | some k =>
      rw [q] at h
      dsimp only at h
      cases q2 : ds[k]? with
      | none => rw [q2] at h; cases h
      | some y =>
        rw [q2] at h
        cases h
        obtain ⟨v, hv, ry⟩ := rx.get' q2
        cases rv with
        | cons r t =>
          cases t
          cases r
          exact ⟨_, v, rx.eraseIdx k, ry, fun Q q' => ⟨a, xs, i, k, v, rfl, rfl, hH, h1, h2, by rw [rx.length]; exact (ixN_seq q).1, hv, q'⟩⟩
def hClear : List D → List D → Option (List D × D)
  | _, [] => some ([], .non)
  | _, _ => none
theorem lm_clear : LMeth rClear hClear := by
  intro K mg z Mu H a xs ds vs es ds' d hH rx rv h
  match es, rv, h with
  | [], .nil, h =>
    cases h
    exact ⟨[], .non, .nil, .non, fun Q q => ⟨a, xs, rfl, rfl, hH, q⟩⟩
def hReverse : List D → List D → Option (List D × D)
  | l, [] => some (l.reverse, .non)
  | _, _ => none
theorem lm_reverse : LMeth rReverse hReverse := by
  intro K mg z Mu H a xs ds vs es ds' d hH rx rv h
  match es, rv, h with
  | [], .nil, h =>
    cases h
    exact ⟨_, .non, rx.reverse, .non, fun Q q => ⟨a, xs, rfl, rfl, hH, q⟩⟩
def hExtend : List D → List D → Option (List D × D)
  | l, [.lst m] => if l.length + m.length ≤ sizeLine then some (l ++ m, .non) else none
  | _, _ => none
theorem lm_extend : LMeth rExtend hExtend := by
  intro K mg z Mu H a xs ds vs es ds' d hH rx rv h
  match es, rv, h with
  | [.lst m], rv, h =>
    obtain ⟨hl, h⟩ := opt_if h
    cases h
    cases rv with
    | cons r t =>
      cases t
      cases r with
      | lst n hb rb => exact ⟨_, .non, rx.append rb, .non, fun Q q => ⟨a, _, xs, _, rfl, rfl, hH, hb, by rw [rx.length, rb.length]; exact hl, q⟩⟩
section
variable {X : Cx} {n : En} {e a : Expr} {f : Em} {fp : Ep} {i j : Nat} {s : Str} {p1 p2 p3 pos : Pos}
theorem me_of (h : DE X n.z n.W .sh e fp) : ME X n e (mPure fp) := by
  refine ⟨fun pins s σ H Q I ⟨ρ, g, Mu, S, hx⟩ => ?_⟩
  refine h.run pins s σ H Q I ⟨ρ, g, Mu, S.env, S.g, R.all_imp (EW.x S (R.all_bind hx)) (fun d g1 hx v H1 e1 G2 k1 => ?_) fun _ _ _ _ h => h⟩
  exact hx v H1 Mu (S.step e1 G2) k1
def tMs (X : Cx) (n : En) (f : Ems) : TA := fun σ H Q => ∃ ρ g Mu, SOk X.K X.mg n.z n.p Mu H σ ρ g ∧
  (f ρ g).all (fun x g' => ∀ vs H' Mu', SOk X.K X.mg n.z n.p Mu' H' σ x.1 g' → Reps X.K X.mg n.z Mu' H' vs x.2 → Q vs H') (EW X n)
def eMeth (i : Nat) (h : List D → List D → Option (List D × D)) (fs : Ems) : Em := fun ρ => do
  let _ ← ofOpt (ownL ρ i)
  let (ρ1, ds) ← fs ρ
  let l ← ofOpt (ownL ρ1 i)
  let (l1, d) ← ofOpt (h l ds)
  M.pure (ρ1.set i (some (true, .lst l1)), d)
/-- a method is run -/
theorem SOk.meth {r : V → List V → Hp → VK → Prop} {h : List D → List D → Option (List D × D)} (hm : LMeth r h) {Mu : List Addr} {H : Hp} {σ : L2.St} {ρ : Env} {g : G} {b : Addr} {vs : List V} {l ds l1 : List D} {d : D} {Q : VK} (S : SOk X.K X.mg n.z n.p Mu H σ ρ g) (ho : ownL ρ i = some l) (hs : σ[i]? = some (some (.ref b)))
    (rv : Reps X.K X.mg n.z Mu H vs ds) (hd : h l ds = some (l1, d)) (q : ∀ v H' Mu', SOk X.K X.mg n.z n.p Mu' H' σ (ρ.set i (some (true, .lst l1))) g → Rep X.K X.mg n.z Mu' H' v d → Q v H') : r (.ref b) vs H Q := by
  have hi := ownL_some ho
  obtain ⟨w, q1, a', ev, ha, np, nl, nc, c⟩ := S.env.val i true _ hi
  rw [hs] at q1
  cases q1
  cases ev
  cases c with
  | lst hH rx =>
    obtain ⟨xs', v, r1, r2, hr⟩ := hm _ _ _ _ _ _ _ _ _ _ _ _ hH rx rv hd
    have em : ExtM Mu H (upd H b (.lst xs')) := fun c u hu _ hn => by rw [upd_ne (fun w : c = b => hn (w ▸ ha))]; exact hu
    refine hr Q (q v _ Mu (S.write (o := .lst xs') (fun q w => by rw [hH] at w; cases w) trivial hi hs (.lst upd_same (r1.mono em fun _ _ h => h))) (r2.mono em fun _ _ h => h))
theorem ownL_at {Mu : List Addr} {H : Hp} {σ : L2.St} {ρ : Env} {g : G} {l : List D} (S : SOk X.K X.mg n.z n.p Mu H σ ρ g) (ho : ownL ρ i = some l) : ∃ b xs, σ[i]? = some (some (.ref b)) ∧ H b = some (.lst xs) := by
  obtain ⟨w, q1, a', rfl, ha, np, nl, nc, c⟩ := S.env.val i true _ (ownL_some ho)
  cases c with
  | lst hH rx => exact ⟨a', _, q1, hH⟩
/-- x.m() -/
theorem me_meth0 {name : Str} {id : String} {r : V → List V → Hp → VK → Prop} {h : List D → List D → Option (List D × D)} (slot : Slot "list" name id) (hty : typeOf (.builtin id) = pure (.type "method_descriptor")) (mt : MtR X id r) (hm : LMeth r h) (hv : PE X (.Name s p1) (tVar i))
    (hbase : attributeBase (.Name s p1) name X.env (eval (.Name s p1) X.env) = eval (.Name s p1) X.env := by rfl) (hline : (p3.endLine == pos.line) = true := by rfl) : ME X n (.Call (.Attribute (.Name s p1) name p3) [] [] pos) (eMeth i h mNil) := by
  refine ⟨fun pins s σ H Q I ⟨ρ, g, Mu, S, hx⟩ => ?_⟩
  obtain ⟨l0, ho, hx⟩ := R.all_opt (R.all_bind hx)
  have hx := R.all_bind hx
  obtain ⟨l, ho2, hx⟩ := R.all_opt hx
  obtain ⟨⟨l1, d⟩, hd, hx⟩ := R.all_opt (R.all_bind hx)
  obtain ⟨b, xs, hs, hH⟩ := ownL_at S ho
  exact (pe_bm0 PySem.F.plainAttrs_list slot hty mt hv hbase hline).run pins s σ H Q I ⟨.ref b, hs, .inl ⟨rfl, _, SqL.of hH⟩, S.meth hm ho2 hs .nil hd hx⟩
/-- x.m(a) -/
theorem me_meth1 {name : Str} {id : String} {r : V → List V → Hp → VK → Prop} {h : List D → List D → Option (List D × D)} (slot : Slot "list" name id) (hty : typeOf (.builtin id) = pure (.type "method_descriptor")) (mt : MtR X id r) (hm : LMeth r h) (hv : PE X (.Name s p1) (tVar i)) (ha : ME X n a f)
    (hbase : attributeBase (.Name s p1) name X.env (eval (.Name s p1) X.env) = eval (.Name s p1) X.env := by rfl)
    (hfew : ((backTo pos (starEach [a] X.env)).all (fun x => !x.1) && (backToKw pos (keywordEach [] X.env)).all (fun x => x.1.isSome)
      && decide ([a].length + ([] : List Keyword).length + (if ([] : List Keyword).isEmpty then 0 else 1) < 30)) = true := by rfl) (hline : (p3.endLine == pos.line) = true := by rfl) (hs : starEach [a] X.env = (false, eval a X.env) :: starEach [] X.env := by rfl) (hplain : (backTo pos (starEach [] X.env)).any (·.1) = false := by rfl) :
    ME X n (.Call (.Attribute (.Name s p1) name p3) [a] [] pos) (eMeth i h (mCons f mNil)) := by
  refine ⟨fun pins s σ H Q I ⟨ρ, g, Mu, S, hx⟩ => ?_⟩
  obtain ⟨l0, ho, hx⟩ := R.all_opt (R.all_bind hx)
  have hx := R.all_bind (R.all_bind hx)
  obtain ⟨b, xs, hb, hH⟩ := ownL_at S ho
  refine (pe_bm PySem.F.plainAttrs_list slot hty mt hv (pa_cons ha pa_nil hs) hbase hfew hline hs hplain).run pins s σ H Q I ⟨.ref b, hb, .inl ⟨rfl, _, SqL.of hH⟩, ρ, g, Mu, S, R.all_imp hx (fun x g1 hx v H1 Mu1 S1 r1 => ?_) fun _ _ _ _ h => h⟩
  obtain ⟨l, ho2, hx⟩ := R.all_opt (R.all_bind hx)
  obtain ⟨⟨l1, d⟩, hd, hx⟩ := R.all_opt (R.all_bind hx)
  exact S1.meth hm ho2 hb (.one r1) hd hx
def sExprM (f : Em) : Ss := fun ρ => do let (ρ1, _) ← f ρ; M.pure (.nx ρ1)
theorem ds_exprM (h : ME X n e f) (hs : swapsWith e none pos.line X.env = pure false := by rfl) : DS X n (.Expr e pos) (sExprM f) := by
  refine ⟨fun pins s σ H D I ⟨ρ, g, Mu, S, hx⟩ => ?_⟩
  refine wpAny_Expr_any (thn (h.run pins s σ H (fun _ H1 => D.nx σ H1) I ⟨ρ, g, Mu, S, R.all_imp (R.all_bind hx) (fun x g1 hx v H1 Mu1 S1 r1 => hx σ H1 Mu1 S1) fun _ _ _ _ h => h⟩) fun u s1 ⟨v, H1, I1, r1, q⟩ => ?_) I.quiet hs
  exact ⟨σ, H1, I1, q⟩
def sSetM (i : Nat) (f : Em) : Ss := fun ρ => do let (ρ1, d) ← f ρ; M.pure (.nx (ρ1.set i (some (false, d))))
theorem ds_setM {x : Str} {p : Pos} (hN : X.N.Nodup) (hi : X.N[i]? = some x) (hx : Loc X.env.scope x) (h : ME X n e f) (hs : swapsWith e (some (.Name x p)) pos.line X.env = pure false := by rfl)
    (hf : X.fn x = true ∨ X.env.scope.names.lookup x = some .local := by first | exact .inl rfl | exact .inr rfl | assumption) : DS X n (.Assign [.Name x p] e pos) (sSetM i f) := by
  refine ⟨fun pins s σ H D I ⟨ρ, g, Mu, S, hq⟩ => ?_⟩
  refine wpAny_Assign_Name (thn (h.run pins s σ H (fun v H1 => D.nx (σ.set i (some v)) H1) I ⟨ρ, g, Mu, S, R.all_imp (R.all_bind hq) (fun x g1 hq v H1 Mu1 S1 r1 => hq _ H1 Mu1 (S1.set r1)) fun _ _ _ _ h => h⟩) fun u s1 ⟨v, H1, I1, r1, q⟩ => ?_) hs
  exact store_ok I1 hN hi hx r1 (fun s2 I2 => ⟨_, H1, I2, q⟩) hf
end
end DL
set_option Elab.async false
set_option linter.all false
set_option maxRecDepth 100000
set_option maxHeartbeats 2000000
/-! The value layer, part 25: list(range(..)), tuple(range(..)), x[i] = e of one's own list, max and min of a list, walks by zip and enumerate. -/
namespace DL
open PySem PySem.Spec PyProof.Rows L2

/-! ### ranges made lists, tuples -/
abbrev Er := Env → M (Int × Int)
def tRg (X : Cx) (z : Zt) (W : WX) (f : Er) : L2.St → Hp → (Int → Int → Hp → Prop) → Prop := fun σ H Q => ∃ ρ g Mu, EnvOk X.K X.mg z Mu H σ ρ ∧ GOk z H g ∧
  (f ρ g).all (fun p g' => ∀ H', Ext z H H' → GOk z H' g' → Q p.1 p.2 H') (XW X z W Mu σ H)
abbrev DRg (X : Cx) (z : Zt) (W : WX) (e : Expr) (f : Er) : Prop := PRg X e (tRg X z W f)
def gInt : D → M Int
  | .int i => M.pure i
  | _ => stuck
theorem all_gInt {d : D} {P : Int → G → Prop} {E : Str → Str → List D → G → Prop} {g : G} (h : (gInt d g).all P E) : ∃ i, d = .int i ∧ P i g := by
  cases d <;> first | exact h.elim | exact ⟨_, rfl, h⟩
def eRg1 (f : Ep) : Er := fun ρ => do let d ← f ρ; let n ← gInt d; M.pure (0, n)
def eRg2 (f h : Ep) : Er := fun ρ => do let d ← f ρ; let d' ← h ρ; let i ← gInt d; let j ← gInt d'; M.pure (i, j)
instance (a b : Int) : Decidable (RgOk a b) := by unfold RgOk; infer_instance
def eLstRg (f : Er) : Ep := fun ρ => do let p ← f ρ; ofOpt (if RgOk p.1 p.2 then some (.lst (rangeL p.1 (p.2 - p.1).toNat)) else none)
def eTupRg (f : Er) : Ep := fun ρ => do let p ← f ρ; ofOpt (if RgOk p.1 p.2 then some (.tup (rangeL p.1 (p.2 - p.1).toNat)) else none)
theorem reps_rg {K : PySem.W.Frag} {mg : Str → Option Value} {z : Zt} {Mu : List Addr} {H : Hp} (a b : Int) : Reps K mg z Mu H (rgV a b) (rangeL a (b - a).toNat) := by
  unfold rgV rangeL
  induction List.range (b - a).toNat with
  | nil => exact .nil
  | cons i l ih => exact .cons (.int _) ih
section
variable {X : Cx} {z : Zt} {W : WX} {k ka kb : Kd} {e a b : Expr} {f fa fb : Ep} {fr : Er} {p pos : Pos}
theorem drg_1 (hg : Gl X "range") (hm : X.mg "range" = none) (ha : DE X z W k a f) (hs : starEach [a] X.env = (false, eval a X.env) :: starEach [] X.env := by rfl) : DRg X z W (.Call (.Name "range" p) [a] [] pos) (eRg1 f) := by
  intro pins s σ H Q I ⟨ρ, g, Mu, E, G1, hx⟩
  refine prg_1 hg hm ha hs pins s σ H Q I ⟨ρ, g, Mu, E, G1, R.all_imp (R.all_bind hx) (fun d g1 hx v H1 e1 G2 k1 => ?_) fun _ _ _ _ h => h⟩
  obtain ⟨i, rfl, hx⟩ := all_gInt (R.all_bind hx)
  exact ⟨i, (k1.peek E.mu (E.mu.ext (g := g) e1 G2) G2).int, hx H1 e1 G2⟩
theorem drg_2 (hg : Gl X "range") (hm : X.mg "range" = none) (ha : DE X z W ka a fa) (hb : DE X z W kb b fb) (hs : starEach [a, b] X.env = (false, eval a X.env) :: starEach [b] X.env := by rfl) (hs' : starEach [b] X.env = (false, eval b X.env) :: starEach [] X.env := by rfl)
    (hp : (backTo pos (starEach [b] X.env)).any (·.1) = false := by rfl) : DRg X z W (.Call (.Name "range" p) [a, b] [] pos) (eRg2 fa fb) := by
  intro pins s σ H Q I ⟨ρ, g, Mu, E, G1, hx⟩
  refine prg_2 hg hm ha hb hs hs' hp pins s σ H Q I ⟨ρ, g, Mu, E, G1, R.all_imp (R.all_bind hx) (fun d g1 hx v H1 e1 G2 k1 => ?_) fun _ _ _ _ h => h⟩
  have E1 := E.ext G1 e1 G2
  refine ⟨ρ, g1, Mu, E1, G2, R.all_imp (Raising.all (R.all_bind hx) e1) (fun d' g2 hx v' H2 e2 G3 k2 => ?_) fun _ _ _ _ h => h⟩
  obtain ⟨i, rfl, hx⟩ := all_gInt (R.all_bind hx)
  obtain ⟨j, rfl, hx⟩ := all_gInt (R.all_bind hx)
  exact ⟨i, j, (k1.peek E.mu E1.mu G2).int, (k2.peek E1.mu (E1.mu.ext (g := g1) e2 G3) G3).int, hx H2 (e1.trans e2) G3⟩
theorem de_listRg (hX : XG X) (hg : Gl X "list") (hm : X.mg "list" = none) (he : DRg X z W e fr) (hs : starEach [e] X.env = (false, eval e X.env) :: starEach [] X.env := by rfl) : DE X z W .new (.Call (.Name "list" p) [e] [] pos) (eLstRg fr) := by
  refine de_of (pe_listRg hX.calm hg hm he hs) fun σ H ρ g Mu Q E G1 hx => ?_
  refine ⟨ρ, g, Mu, E, G1, R.all_imp (R.all_bind hx) (fun p g1 hx H1 e1 G2 => ?_) fun _ _ _ _ h => h⟩
  obtain ⟨d, hd, hx⟩ := R.all_opt hx
  obtain ⟨ok, rfl⟩ := opt_if hd
  have m1 := E.mu.ext (g := g) e1 G2
  exact ⟨ok, fun q hq => hx _ _ (e1.trans (Ext.of (same_upd' hq))) (G2.same (same_upd' hq)) ((RK.lst m1 G2 hq (reps_rg _ _)).back e1 G2)⟩
theorem de_tupRg (hX : XG X) (hg : Gl X "tuple") (hm : X.mg "tuple" = none) (he : DRg X z W e fr) (hs : starEach [e] X.env = (false, eval e X.env) :: starEach [] X.env := by rfl) : DE X z W .new (.Call (.Name "tuple" p) [e] [] pos) (eTupRg fr) := by
  refine de_of (pe_tupRg hX.calm hg hm he hs) fun σ H ρ g Mu Q E G1 hx => ?_
  refine ⟨ρ, g, Mu, E, G1, R.all_imp (R.all_bind hx) (fun p g1 hx H1 e1 G2 => ?_) fun _ _ _ _ h => h⟩
  obtain ⟨d, hd, hx⟩ := R.all_opt hx
  obtain ⟨ok, rfl⟩ := opt_if hd
  have m1 := E.mu.ext (g := g) e1 G2
  exact ⟨ok, fun q hq => hx _ _ (e1.trans (Ext.of (same_upd' hq))) (G2.same (same_upd' hq)) ((RK.tup m1 G2 hq (reps_rg _ _)).back e1 G2)⟩
/-! ### the greatest, the least of a list -/
def greatest : List Int → Option Int
  | [] => none
  | n :: l => some (l.foldl (fun a b => if b > a then b else a) n)
def smallest : List Int → Option Int
  | [] => none
  | n :: l => some (l.foldl (fun a b => if b < a then b else a) n)
theorem fold_max : ∀ (l : List Int) (n : Int), (l.foldl (fun a b => if b > a then b else a) n) ∈ n :: l ∧ ∀ y ∈ n :: l, y ≤ l.foldl (fun a b => if b > a then b else a) n
  | [], n => ⟨List.mem_cons_self, fun y hy => by rcases List.mem_cons.mp hy with rfl | h; exact Int.le_refl _; cases h⟩
  | m :: l, n => by
    rw [List.foldl_cons]
    obtain ⟨h1, h2⟩ := fold_max l (if m > n then m else n)
    refine ⟨?_, fun y hy => ?_⟩
    · rcases List.mem_cons.mp h1 with h | h
      · rw [h]
        split
        · exact List.mem_cons_of_mem _ List.mem_cons_self
        · exact List.mem_cons_self
      · exact List.mem_cons_of_mem _ (List.mem_cons_of_mem _ h)
    · have hh := h2 _ List.mem_cons_self
      rcases List.mem_cons.mp hy with rfl | hy
      · refine Int.le_trans ?_ hh
        split <;> omega
      · rcases List.mem_cons.mp hy with rfl | hy
        · refine Int.le_trans ?_ hh
          split <;> omega
        · exact h2 y (List.mem_cons_of_mem _ hy)
theorem fold_min : ∀ (l : List Int) (n : Int), (l.foldl (fun a b => if b < a then b else a) n) ∈ n :: l ∧ ∀ y ∈ n :: l, l.foldl (fun a b => if b < a then b else a) n ≤ y
  | [], n => ⟨List.mem_cons_self, fun y hy => by rcases List.mem_cons.mp hy with rfl | h; exact Int.le_refl _; cases h⟩
  | m :: l, n => by
    rw [List.foldl_cons]
    obtain ⟨h1, h2⟩ := fold_min l (if m < n then m else n)
    refine ⟨?_, fun y hy => ?_⟩
    · rcases List.mem_cons.mp h1 with h | h
      · rw [h]
        split
        · exact List.mem_cons_of_mem _ List.mem_cons_self
        · exact List.mem_cons_self
      · exact List.mem_cons_of_mem _ (List.mem_cons_of_mem _ h)
    · have hh := h2 _ List.mem_cons_self
      rcases List.mem_cons.mp hy with rfl | hy
      · refine Int.le_trans hh ?_
        split <;> omega
      · rcases List.mem_cons.mp hy with rfl | hy
        · refine Int.le_trans hh ?_
          split <;> omega
        · exact h2 y (List.mem_cons_of_mem _ hy)
def fMax1 : List D → Option D
  | [.lst l] => ((intsOf l).bind greatest).map D.int
  | _ => none
def fMin1 : List D → Option D
  | [.lst l] => ((intsOf l).bind smallest).map D.int
  | _ => none
theorem call_max1' (hX : XG X) : DCall X z .new (.builtin "max") fMax1 := by
  intro pins s σ H Mu g xs us ds d Q I m G1 r ks hd q
  unfold fMax1 at hd
  split at hd
  · obtain ⟨w, h1, rfl⟩ := Option.map_eq_some_iff.mp hd
    obtain ⟨ns, h1, h2⟩ := Option.bind_eq_some_iff.mp h1
    have e := intsOf_eq h1
    subst e
    obtain ⟨v, rfl, p⟩ := ks.one
    obtain ⟨a, ys, rfl, hs, rs⟩ := p.lst
    have e := rs.unInts
    subst e
    cases ns with
    | nil => cases h2
    | cons n l =>
      cases h2
      obtain ⟨m1, m2⟩ := fold_max l n
      refine L2.cr_max hX.calm pins s σ H _ us Q I r ⟨a, n :: l, rfl, SqL.of hs, by rw [List.length_cons]; omega, fun m' hm' hall => ?_⟩
      have e : m' = l.foldl (fun a b => if b > a then b else a) n := Int.le_antisymm (m2 m' hm') (hall _ m1)
      rw [e]
      exact q _ H Same.refl RK.int
  · cases hd
theorem call_min1' (hX : XG X) : DCall X z .new (.builtin "min") fMin1 := by
  intro pins s σ H Mu g xs us ds d Q I m G1 r ks hd q
  unfold fMin1 at hd
  split at hd
  · obtain ⟨w, h1, rfl⟩ := Option.map_eq_some_iff.mp hd
    obtain ⟨ns, h1, h2⟩ := Option.bind_eq_some_iff.mp h1
    have e := intsOf_eq h1
    subst e
    obtain ⟨v, rfl, p⟩ := ks.one
    obtain ⟨a, ys, rfl, hs, rs⟩ := p.lst
    have e := rs.unInts
    subst e
    cases ns with
    | nil => cases h2
    | cons n l =>
      cases h2
      obtain ⟨m1, m2⟩ := fold_min l n
      refine L2.cr_min hX.calm pins s σ H _ us Q I r ⟨a, n :: l, rfl, SqL.of hs, by rw [List.length_cons]; omega, fun m' hm' hall => ?_⟩
      have e : m' = l.foldl (fun a b => if b < a then b else a) n := Int.le_antisymm (hall _ m1) (m2 m' hm')
      rw [e]
      exact q _ H Same.refl RK.int
  · cases hd
end
/-! ### x[i] = e of one's own list -/
section
variable {X : Cx} {n : En} {ka kb : Kd} {a e : Expr} {fa fe : Ep} {i : Nat} {s : Str} {p1 p2 pos : Pos}
def sSetIx (i : Nat) (fa fe : Ep) : Ss := fun ρ => do
  let d ← fe ρ
  let l ← ofOpt (ownL ρ i)
  let x ← fa ρ
  let k ← gInt x
  let j ← ofOpt (ixN l.length k)
  M.pure (.nx (ρ.set i (some (true, .lst (l.set j d)))))
theorem ds_setIx (hv : PE X (.Name s p1) (tVar i)) (ha : DE X n.z n.W ka a fa) (he : DE X n.z n.W .sh e fe)
    (hsub : ∀ v, assign (.Subscript (.Name s p1) a p2) X.env v = (do
      let ov ← holding [v] (eval (.Name s p1) X.env)
      let iv ← holding [v, ov] (eval a X.env)
      standAt p2
      holding [v, ov, iv] (setItem ov iv v)
      release [v, ov, iv] []) := by intro _; rfl)
    (hs : swapsWithSole [.Subscript (.Name s p1) a p2] e pos.line X.env = pure false := by rfl) (hw : swappedStores [.Subscript (.Name s p1) a p2] e X.env = pure none := by rfl)
    (h1 : (assignEach [.Subscript (.Name s p1) a p2] X.env).map (·.2) = [assign (.Subscript (.Name s p1) a p2) X.env] := by rfl) : DS X n (.Assign [.Subscript (.Name s p1) a p2] e pos) (sSetIx i fa fe) := by
  refine ⟨fun pins s' σ H D I ⟨ρ, g, Mu, S, hx⟩ => ?_⟩
  refine (ps_asg he (pg_sub hv ha set_list hsub) hs hw h1).run pins s' σ H D I ⟨ρ, g, Mu, S.env, S.g, R.all_imp (EW.x S (R.all_bind hx)) (fun d g1 hx v H1 e1 G2 k1 => ?_) fun _ _ _ _ h => h⟩
  have S1 := S.step e1 G2
  obtain ⟨l, ho, hx⟩ := R.all_opt (R.all_bind hx)
  obtain ⟨b, xs, hb, hH⟩ := ownL_at S1 ho
  refine ⟨.ref b, hb, ρ, g1, Mu, S1.env, S1.g, R.all_imp (EW.x S1 (R.all_bind hx)) (fun x g2 hx w H2 e2 G3 k2 => ?_) fun _ _ _ _ h => h⟩
  have S2 := S1.step e2 G3
  obtain ⟨k, rfl, hx⟩ := all_gInt (R.all_bind hx)
  obtain ⟨j, hj, hx⟩ := R.all_opt (R.all_bind hx)
  have ew := (k2.peek S1.env.mu S2.env.mu G3).int
  subst ew
  have hi := ownL_some ho
  obtain ⟨w, q1, a', ev, hm, np, nl, nc, c⟩ := S2.env.val i true _ hi
  rw [hb] at q1
  cases q1
  cases ev
  have rv : Rep X.K X.mg n.z Mu H1 v d := k1
  have rv2 := rv.ext S1.env.mu S1.g e2
  cases c with
  | @lst ys _ hL rx =>
    have em : ExtM Mu H2 (upd H2 b (.lst (ys.set j v))) := fun c u hu _ hn => by rw [upd_ne (fun w : c = b => hn (w ▸ hm))]; exact hu
    exact ⟨b, _, k, j, rfl, rfl, hL, by rw [rx.length]; exact hj, hx σ _ Mu (S2.write (o := .lst (ys.set j v)) (fun q w => by rw [hL] at w; cases w) trivial hi hb (.lst upd_same ((Reps.set rv2 j rx).mono em fun _ _ h => h)))⟩
end
/-! ### zip, enumerate -/
section
theorem seq_view {K : PySem.W.Frag} {mg : Str → Option Value} {z : Zt} {pk : Bool} {H0 H : Hp} {Mu : List Addr} {v : V} {d : D} {l : List D} (m : MuOk z Mu H) (k : RK K mg z (if pk = true then .peek else .sh) H0 Mu H v d) (hd : d = .lst l ∨ d = .tup l) :
    ∃ a xs, v = .ref a ∧ a ∉ (if pk = true then [z.p, z.l] else Mu) ∧ ((d = .lst l ∧ H a = some (.lst xs)) ∨ (d = .tup l ∧ H a = some (.tup xs))) ∧ Reps K mg z Mu H xs l := by
  have nn : ∀ a, a ∉ Mu → a ∉ (if pk = true then [z.p, z.l] else Mu) := by
    intro a ha hb
    cases pk with
    | false => exact ha hb
    | true =>
      rcases List.mem_cons.mp hb with hb | hb
      · exact ha (hb ▸ m.p)
      · exact ha (List.mem_singleton.mp hb ▸ m.l)
  have ofRep : Rep K mg z Mu H v d → ∃ a xs, v = .ref a ∧ a ∉ (if pk = true then [z.p, z.l] else Mu) ∧ ((d = .lst l ∧ H a = some (.lst xs)) ∨ (d = .tup l ∧ H a = some (.tup xs))) ∧ Reps K mg z Mu H xs l := fun r => by
    rcases hd with rfl | rfl
    · cases r with
      | lst n h r => exact ⟨_, _, rfl, nn _ n, .inl ⟨rfl, h⟩, r⟩
    · cases r with
      | tup n h r => exact ⟨_, _, rfl, nn _ n, .inr ⟨rfl, h⟩, r⟩
  cases pk with
  | false => exact ofRep k
  | true =>
    rcases k with r | ⟨a, rfl, ha, n1, n2, n3, c⟩
    · exact ofRep r
    · rcases hd with rfl | rfl
      · cases c with
        | lst h r => exact ⟨a, _, rfl, fun w => by
            rcases List.mem_cons.mp w with w | w
            · exact n1 w
            · exact n2 (List.mem_singleton.mp w), .inl ⟨rfl, h⟩, r⟩
      · cases c
theorem rk_ext {K : PySem.W.Frag} {mg : Str → Option Value} {z : Zt} {pk : Bool} {H0 H1 H H' : Hp} {Mu : List Addr} {v : V} {d : D} {g : G} (m : MuOk z Mu H) (G1 : GOk z H g) (k : RK K mg z (if pk = true then .peek else .sh) H0 Mu H v d) (e : Ext z H H') : RK K mg z (if pk = true then .peek else .sh) H1 Mu H' v d := by
  cases pk with
  | false => exact Rep.ext (show Rep K mg z Mu H v d from k) m G1 e
  | true => exact PR.ext (show PR K mg z Mu H v d from k) m G1 e
def zipD (l m : List D) : List D := List.zipWith (fun x y => D.tup [x, y]) l m
def fZip : D → D → Option (List D)
  | .lst l, .lst m => some (zipD l m)
  | .tup l, .tup m => some (zipD l m)
  | _, _ => none
def sZip (f h : Ep) : Es := fun ρ => do let d ← f ρ; let d' ← h ρ; ofOpt (fZip d d')
theorem yields_zip {K : PySem.W.Frag} {mg : Str → Option Value} {z : Zt} {Nu Mu : List Addr} {H : Hp} {xs ys : List V} {ds es : List D} {J : It}
    (r : Reps K mg z Mu H xs ds) (s : Reps K mg z Mu H ys es) (hs : ∀ b ∈ Nu, b ∈ Mu)
    (hj : ∀ H2, ExtM Nu H H2 → ∀ i, (∀ x y, xs[i]? = some x → ys[i]? = some y → J.go i H2 ∧ ∀ v H3, J.yld i H2 v H3 → ∃ T, v = .ref T ∧ H2 T = none ∧ H3 = upd H2 T (.tup [x, y])) ∧ ((xs.length ≤ i ∨ ys.length ≤ i) → J.stop i H2)) : Yields K mg z Nu Mu J H (zipD ds es) := by
  intro H2 e i
  obtain ⟨h1, h2⟩ := hj H2 e i
  have em : ∀ {M2 : List Addr}, (∀ b, Oc H b → b ∉ Mu → b ∉ M2) → ∀ (v : V) (d : D), Rep K mg z Mu H v d → Rep K mg z M2 H2 v d := fun hm v d r => Rep.mono (fun b u q t n => e b u q t (fun w => n (hs b w))) hm r
  refine ⟨fun d hd => ?_, fun hi => h2 ?_⟩
  · unfold zipD at hd
    obtain ⟨x, y, hx, hy, rfl⟩ := List.getElem?_zipWith_eq_some.mp hd
    obtain ⟨v, hv, rv⟩ := r.get' hx
    obtain ⟨w, hw, rw'⟩ := s.get' hy
    obtain ⟨g1, g2⟩ := h1 v w hv hw
    refine ⟨g1, fun u H3 hu => ?_⟩
    obtain ⟨T, rfl, hT, rfl⟩ := g2 u H3 hu
    refine ⟨same_upd' hT, fun M2 hm ho => ?_⟩
    have nT : T ∉ M2 := fun w => by
      obtain ⟨u, q, _⟩ := ho T w
      rw [hT] at q
      cases q
    have up : ∀ (v' : V) (d' : D), Rep K mg z M2 H2 v' d' → Rep K mg z M2 (upd H2 T (.tup [v, w])) v' d' := fun v' d' r => Rep.mono (fun b u q _ _ => same_upd' hT b u q) (fun _ _ h => h) r
    exact .tup nT upd_same (.cons (up _ _ (em hm _ _ rv)) (.cons (up _ _ (em hm _ _ rw')) .nil))
  · unfold zipD at hi
    rw [List.length_zipWith] at hi
    rw [r.length, s.length]
    omega
variable {X : Cx} {z : Zt} {W : WX} {pk : Bool} {e a b : Expr} {fa fb : Ep} {p pos tpos : Pos} {elts : List Expr} {kk : Nat}
theorem fZip_some {x y : D} {l : List D} (h : fZip x y = some l) : ∃ m n, l = zipD m n ∧ ((x = .lst m ∧ y = .lst n) ∨ (x = .tup m ∧ y = .tup n)) := by
  unfold fZip at h
  split at h
  · cases h; exact ⟨_, _, rfl, .inl ⟨rfl, rfl⟩⟩
  · cases h; exact ⟨_, _, rfl, .inr ⟨rfl, rfl⟩⟩
  · cases h
theorem nu_sub {pk : Bool} {z : Zt} {Mu : List Addr} {H : Hp} (m : MuOk z Mu H) : ∀ b ∈ (if pk = true then [z.p, z.l] else Mu), b ∈ Mu := by
  intro b hb
  cases pk with
  | false => exact hb
  | true =>
    rcases List.mem_cons.mp hb with hb | hb
    · rw [hb]; exact m.p
    · rw [List.mem_singleton.mp hb]; exact m.l
theorem di_zip (hg : Gl X "zip") (hm : X.mg "zip" = none) (ha : DE X z W (if pk = true then .peek else .sh) a fa) (hb : DE X z W (if pk = true then .peek else .sh) b fb)
    (hs : starEach [a, b] X.env = (false, eval a X.env) :: starEach [b] X.env := by rfl) (hs' : starEach [b] X.env = (false, eval b X.env) :: starEach [] X.env := by rfl) (hpl : (backTo pos (starEach [b] X.env)).any (·.1) = false := by rfl) :
    DI X z W pk (.Tuple elts kk tpos) (.Call (.Name "zip" p) [a, b] [] pos) (sZip fa fb) := by
  refine ⟨fun pins s σ H Rr I ⟨ρ, g, Mu, E, G1, hx⟩ => ?_⟩
  refine (RZ.pi_zipA hg hm (pa_cons ha (pa_cons hb pa_nil hs') hs) hs hpl).run pins s σ H Rr I ⟨ρ, g, Mu, E, G1, R.all_imp (R.all_bind hx) (fun d g1 hx v H1 e1 G2 k1 => ?_) fun _ _ _ _ h => h⟩
  have E1 := E.ext G1 e1 G2
  show tCons (tE X z W _ fb) tNil σ H1 _
  refine ⟨ρ, g1, Mu, E1, G2, R.all_imp (Raising.all (R.all_bind hx) e1) (fun d' g2 hx v' H2 e2 G3 k2 => ?_) fun _ _ _ _ h => h⟩
  obtain ⟨l, hl, hx⟩ := R.all_opt hx
  obtain ⟨m, n, rfl, hd⟩ := fZip_some hl
  have m2 := E1.mu.ext (g := g1) e2 G3
  obtain ⟨a1, xs, rfl, n1, c1, rx⟩ := seq_view (l := m) m2 (rk_ext (H1 := H) E1.mu G2 k1 e2) (by rcases hd with ⟨h, _⟩ | ⟨h, _⟩ <;> simp [h])
  obtain ⟨b1, ys, rfl, n2, c2, ry⟩ := seq_view (l := n) m2 k2 (by rcases hd with ⟨_, h⟩ | ⟨_, h⟩ <;> simp [h])
  rcases hd with ⟨rfl, rfl⟩ | ⟨rfl, rfl⟩
  · have h1 : H2 a1 = some (.lst xs) := by rcases c1 with ⟨_, h⟩ | ⟨h, _⟩; exact h; cases h
    have h2 : H2 b1 = some (.lst ys) := by rcases c2 with ⟨_, h⟩ | ⟨h, _⟩; exact h; cases h
    refine ⟨a1, b1, xs, ys, rfl, .inl ⟨SqL.of h1, SqL.of h2, hx _ H2 (e1.trans e2) G3 (yields_zip rx ry (nu_sub m2) fun H3 ex i => ?_)⟩⟩
    have q1 : H3 a1 = some (.lst xs) := ex _ _ h1 trivial n1
    have q2 : H3 b1 = some (.lst ys) := ex _ _ h2 trivial n2
    refine ⟨fun x y hx hy => ⟨⟨xs, ys, x, y, SqL.of q1, SqL.of q2, hx, hy⟩, fun v H4 hv => ?_⟩, fun hi => ⟨xs, ys, SqL.of q1, SqL.of q2, hi⟩⟩
    obtain ⟨T, x', y', rfl, hT, rfl, hx', hy'⟩ := hv
    have ex' := hx' xs (SqL.of q1)
    have ey' := hy' ys (SqL.of q2)
    rw [hx] at ex'
    rw [hy] at ey'
    cases ex'
    cases ey'
    exact ⟨T, rfl, hT, rfl⟩
  · have h1 : H2 a1 = some (.tup xs) := by rcases c1 with ⟨h, _⟩ | ⟨_, h⟩; cases h; exact h
    have h2 : H2 b1 = some (.tup ys) := by rcases c2 with ⟨h, _⟩ | ⟨_, h⟩; cases h; exact h
    refine ⟨a1, b1, xs, ys, rfl, .inr ⟨SqT.of h1, SqT.of h2, hx _ H2 (e1.trans e2) G3 (yields_zip rx ry (nu_sub m2) fun H3 ex i => ?_)⟩⟩
    have q1 : H3 a1 = some (.tup xs) := ex _ _ h1 trivial n1
    have q2 : H3 b1 = some (.tup ys) := ex _ _ h2 trivial n2
    refine ⟨fun x y hx hy => ⟨⟨xs, ys, x, y, SqT.of q1, SqT.of q2, hx, hy⟩, fun v H4 hv => ?_⟩, fun hi => ⟨xs, ys, SqT.of q1, SqT.of q2, hi⟩⟩
    obtain ⟨T, x', y', rfl, hT, rfl, hx', hy'⟩ := hv
    have ex' := hx' xs (SqT.of q1)
    have ey' := hy' ys (SqT.of q2)
    rw [hx] at ex'
    rw [hy] at ey'
    cases ex'
    cases ey'
    exact ⟨T, rfl, hT, rfl⟩
/-- enumerate of a list -/
def enumD (l : List D) : List D := l.zipIdx.map fun p => D.tup [.int (p.2 : Nat), p.1]
def sEnum (f : Ep) : Es := fun ρ => do
  let d ← f ρ
  match d with
  | .lst l => M.pure (enumD l)
  | _ => stuck
theorem all_enum {d : D} {P : List D → G → Prop} {E : Str → Str → List D → G → Prop} {g : G} (h : ((match d with | .lst l => M.pure (enumD l) | _ => stuck) g : R (List D)).all P E) : ∃ l, d = .lst l ∧ P (enumD l) g := by
  cases d <;> first | exact h.elim | exact ⟨_, rfl, h⟩
theorem di_enum (hg : Gl X "enumerate") (hm : X.mg "enumerate" = none) (ha : DE X z W (if pk = true then .peek else .sh) a fa) (hs : starEach [a] X.env = (false, eval a X.env) :: starEach [] X.env := by rfl) (hs2 : starEach [a] X.env = [(false, eval a X.env)] := by rfl) :
    DI X z W pk (.Tuple elts kk tpos) (.Call (.Name "enumerate" p) [a] [] pos) (sEnum fa) := by
  refine ⟨fun pins s σ H Rr I ⟨ρ, g, Mu, E, G1, hx⟩ => ?_⟩
  refine (pi_enum hg hm (pa_cons ha pa_nil hs) hs2).run pins s σ H Rr I ⟨ρ, g, Mu, E, G1, R.all_imp (R.all_bind hx) (fun d g1 hx v H1 e1 G2 k1 => ?_) fun _ _ _ _ h => h⟩
  obtain ⟨l, rfl, hx⟩ := all_enum hx
  have m1 := E.mu.ext (g := g) e1 G2
  obtain ⟨a1, xs, rfl, n1, c1, rx⟩ := seq_view (l := l) m1 k1 (.inl rfl)
  have h1 : H1 a1 = some (.lst xs) := by rcases c1 with ⟨_, h⟩ | ⟨h, _⟩; exact h; cases h
  refine ⟨a1, xs, rfl, SqL.of h1, hx _ H1 e1 G2 fun H3 ex i => ?_⟩
  have q1 : H3 a1 = some (.lst xs) := ex _ _ h1 trivial n1
  have em : ∀ {M2 : List Addr}, (∀ b, Oc H1 b → b ∉ Mu → b ∉ M2) → ∀ (v : V) (d : D), Rep X.K X.mg z Mu H1 v d → Rep X.K X.mg z M2 H3 v d := fun hm v d r => Rep.mono (fun b u q t n => ex b u q t (fun w => n (nu_sub m1 b w))) hm r
  refine ⟨fun d hd => ?_, fun hi => ⟨xs, SqL.of q1, by unfold enumD at hi; rw [List.length_map, List.length_zipIdx] at hi; rw [rx.length]; exact hi⟩⟩
  unfold enumD at hd
  rw [List.getElem?_map] at hd
  obtain ⟨⟨x, j⟩, hj, rfl⟩ := Option.map_eq_some_iff.mp hd
  rw [List.getElem?_zipIdx] at hj
  obtain ⟨x', hx', ej⟩ := Option.map_eq_some_iff.mp hj
  cases ej
  obtain ⟨v, hv, rv⟩ := rx.get' hx'
  refine ⟨⟨xs, v, SqL.of q1, hv⟩, fun u H4 hu => ?_⟩
  obtain ⟨T, v', rfl, hT, rfl, hv'⟩ := hu
  have e' := hv' xs (SqL.of q1)
  rw [hv] at e'
  cases e'
  refine ⟨same_upd' hT, fun M2 hm ho => ?_⟩
  have nT : T ∉ M2 := fun w => by
    obtain ⟨u, q, _⟩ := ho T w
    rw [hT] at q
    cases q
  have up : ∀ (w : V) (d' : D), Rep X.K X.mg z M2 H3 w d' → Rep X.K X.mg z M2 (upd H3 T (.tup [.int (i : Nat), v])) w d' := fun w d' r => Rep.mono (fun b u q _ _ => same_upd' hT b u q) (fun _ _ h => h) r
  refine .tup nT upd_same (.cons ?_ (.cons (up _ _ (em hm _ _ rv)) .nil))
  rw [show ((0 + i : Nat) : Int) = (i : Int) by omega]
  exact .int _
end
end DL
set_option Elab.async false
set_option linter.all false
set_option maxRecDepth 100000
set_option maxHeartbeats 2000000
/-! The value layer, part 26: starred items of displays, lists turned round. -/
namespace DL
open PySem PySem.Spec PyProof.Rows L2

def gSeq : D → M (List D)
  | .lst l => M.pure l
  | .tup l => M.pure l
  | _ => stuck
theorem all_gSeq {d : D} {P : List D → G → Prop} {E : Str → Str → List D → G → Prop} {g : G} (h : (gSeq d g).all P E) : ∃ l, (d = .lst l ∨ d = .tup l) ∧ P l g := by
  cases d <;> first | exact h.elim | exact ⟨_, .inl rfl, h⟩ | exact ⟨_, .inr rfl, h⟩
def sStar (f : Ep) (h : Es) : Es := fun ρ => do let d ← f ρ; let l ← gSeq d; let ds ← h ρ; M.pure (l ++ ds)
section
variable {X : Cx} {z : Zt} {W : WX} {k : Kd} {e : Expr} {es : List Expr} {f : Ep} {h : Es} {p pos p1 p2 p3 : Pos}
theorem pr_seq {K : PySem.W.Frag} {mg : Str → Option Value} {z : Zt} {H : Hp} {Mu : List Addr} {v : V} {d : D} {l : List D} (r : PR K mg z Mu H v d) (hd : d = .lst l ∨ d = .tup l) : ∃ a xs, v = .ref a ∧ (SqT K H a xs ∨ SqL K H a xs) ∧ Reps K mg z Mu H xs l := by
  rcases hd with rfl | rfl
  · obtain ⟨a, xs, rfl, h, r⟩ := r.lst
    exact ⟨a, xs, rfl, .inr (SqL.of h), r⟩
  · obtain ⟨a, xs, rfl, _, h, r⟩ := r.tup
    exact ⟨a, xs, rfl, .inl (SqT.of h), r⟩
theorem das_star (he : DE X z W k e f) (hr : DAs X z W es h) (hs : starEach (.Starred e p :: es) X.env = (true, eval e X.env) :: starEach es X.env := by rfl) : DAs X z W (.Starred e p :: es) (sStar f h) := by
  refine ⟨fun pos pins s σ H Q I ⟨ρ, g, Mu, E, G1, hx⟩ => ?_⟩
  refine (StX.pa_star he hr hs).run pos pins s σ H Q I ⟨ρ, g, Mu, E, G1, R.all_imp (R.all_bind hx) (fun d g1 hx v H1 e1 G2 k1 => ?_) fun _ _ _ _ h => h⟩
  obtain ⟨l, hd, hx⟩ := all_gSeq (R.all_bind hx)
  have E1 := E.ext G1 e1 G2
  obtain ⟨a, xs, rfl, hq, rx⟩ := pr_seq (k1.peek E.mu E1.mu G2) hd
  refine ⟨a, xs, rfl, hq, ρ, g1, Mu, E1, G2, R.all_imp (Raising.all (R.all_bind hx) e1) (fun ds g2 hx vs H2 e2 G3 rs => ?_) fun _ _ _ _ h => h⟩
  exact hx (xs ++ vs) H2 (e1.trans e2) G3 ((rx.ext E1.mu G2 e2).append rs)
def dRev : D → Option D
  | .lst l => some (.lst l.reverse)
  | _ => none
theorem de_revL {m : Nat} (he : DE X z W k e f) : DE X z W .new (.Subscript e (.Slice none none (some (.UnaryOp .USub (.Constant (.int 1) m p1) p2)) p3) pos) (eUn dRev f) := by
  refine de_of (pe_revL he) fun σ H ρ g Mu Q E G1 hx => ?_
  refine ⟨ρ, g, Mu, E, G1, R.all_imp (R.all_bind hx) (fun d g1 hx v H1 e1 G2 k1 => ?_) fun _ _ _ _ h => h⟩
  obtain ⟨d', hd, hx⟩ := R.all_opt hx
  have m1 := E.mu.ext (g := g) e1 G2
  cases d <;> simp only [dRev, reduceCtorEq, Option.some.injEq] at hd
  subst hd
  obtain ⟨a, xs, rfl, h, r⟩ := (k1.peek E.mu m1 G2).lst
  exact ⟨a, xs, rfl, SqL.of h, fun q hq => hx _ _ (e1.trans (Ext.of (same_upd' hq))) (G2.same (same_upd' hq)) ((RK.lst m1 G2 hq r.reverse).back e1 G2)⟩
end
end DL
set_option Elab.async false
set_option linter.all false
set_option maxRecDepth 100000
set_option maxHeartbeats 2000000
/-! The value layer, part 27: targets of two, of three names, told at once. -/
namespace DL
open PySem PySem.Spec PyProof.Rows L2
section
variable {X : Cx} {z : Zt} {x y w : Str} {p1 p2 p3 pos : Pos} {k : Nat}
theorem tg_names2 (K : PySem.W.Frag) (i j : Nat) (hK : X.K = K) (hc : X.calm = true) (hN : X.N.Nodup) (hi : X.N[i]? = some x) (hj : X.N[j]? = some y) (hx : Loc X.env.scope x) (hy : Loc X.env.scope y)
    (fx : X.fn x = true ∨ X.env.scope.names.lookup x = some .local) (fy : X.fn y = true ∨ X.env.scope.names.lookup y = some .local)
    (hs1 : (assignEach [.Name x p1, .Name y p2] X.env).map (·.2) = assign (.Name x p1) X.env :: (assignEach [.Name y p2] X.env).map (·.2) := by rfl) (hs2 : (assignEach [.Name y p2] X.env).map (·.2) = assign (.Name y p2) X.env :: (assignEach [] X.env).map (·.2) := by rfl)
    (hn : (assignEach [.Name x p1, .Name y p2] X.env).length = 2 := by rfl) (hst : (assignEach [.Name x p1, .Name y p2] X.env).findIdx? (·.1) = none := by rfl) :
    TgOk X z (.Tuple [.Name x p1, .Name y p2] k pos) (gTup K 2 (gCons (gName i) (gCons (gName j) gNil))) (gT (gCs (gN i) (gCs (gN j) gNl))) ([i] ++ ([j] ++ [])) :=
  hK ▸ tg_two hc (tg_name hN hi hx fx) (tg_name hN hj hy fy) hs1 hs2 hn hst
theorem tg_names3 (K : PySem.W.Frag) (i j l : Nat) (hK : X.K = K) (hc : X.calm = true) (hN : X.N.Nodup) (hi : X.N[i]? = some x) (hj : X.N[j]? = some y) (hl : X.N[l]? = some w) (hx : Loc X.env.scope x) (hy : Loc X.env.scope y) (hw : Loc X.env.scope w)
    (fx : X.fn x = true ∨ X.env.scope.names.lookup x = some .local) (fy : X.fn y = true ∨ X.env.scope.names.lookup y = some .local) (fw : X.fn w = true ∨ X.env.scope.names.lookup w = some .local)
    (hs1 : (assignEach [.Name x p1, .Name y p2, .Name w p3] X.env).map (·.2) = assign (.Name x p1) X.env :: (assignEach [.Name y p2, .Name w p3] X.env).map (·.2) := by rfl) (hs2 : (assignEach [.Name y p2, .Name w p3] X.env).map (·.2) = assign (.Name y p2) X.env :: (assignEach [.Name w p3] X.env).map (·.2) := by rfl)
    (hs3 : (assignEach [.Name w p3] X.env).map (·.2) = assign (.Name w p3) X.env :: (assignEach [] X.env).map (·.2) := by rfl)
    (hn : (assignEach [.Name x p1, .Name y p2, .Name w p3] X.env).length = 3 := by rfl) (hst : (assignEach [.Name x p1, .Name y p2, .Name w p3] X.env).findIdx? (·.1) = none := by rfl) :
    TgOk X z (.Tuple [.Name x p1, .Name y p2, .Name w p3] k pos) (gTup K 3 (gCons (gName i) (gCons (gName j) (gCons (gName l) gNil)))) (gT (gCs (gN i) (gCs (gN j) (gCs (gN l) gNl)))) ([i] ++ ([j] ++ ([l] ++ []))) :=
  hK ▸ tg_three hc (tg_name hN hi hx fx) (tg_name hN hj hy fy) (tg_name hN hl hw fw) hs1 hs2 hs3 hn hst
end
end DL
set_option Elab.async false
set_option linter.all false
set_option maxRecDepth 100000
set_option maxHeartbeats 2000000
/-! The value layer, part 28: how many unlike numbers a list has. -/
namespace DL
open PySem PySem.Spec PyProof.Rows L2
/-- the numbers that are unlike, as they are first met -/
def unlike (ns : List Int) : List Int := firstMet (fun i => ns.getD i 0) ns.length
def fUnlike : D → Option D
  | .lst l => match intsOf l with
    | some ns => if ns.length ≤ 1000 then some (.int (unlike ns).length) else none
    | none => none
  | _ => none
theorem fUnlike_some {d e : D} (h : fUnlike d = some e) : ∃ ns : List Int, d = .lst (ns.map D.int) ∧ ns.length ≤ 1000 ∧ e = .int (unlike ns).length := by
  unfold fUnlike at h
  split at h
  · split at h
    · rename_i l _ ns q
      obtain ⟨h1, h2⟩ := opt_if h
      exact ⟨ns, by rw [intsOf_eq q], h1, h2.symm⟩
    · cases h
  · cases h
theorem intsAre_map : ∀ {ns : List Int} {us : List Value}, Vals (ns.map V.int) us → IntsAre us ns
  | [], _, .nil => .nil
  | n :: ns, _, .cons r t => by
    obtain ⟨k, rfl⟩ := r
    exact .cons n k (intsAre_map t)
theorem unlike_le (ns : List Int) : ∀ i, (firstMet (fun i => ns.getD i 0) i).length ≤ i
  | 0 => Nat.le_refl _
  | i + 1 => by
    rw [firstMet_succ]
    have ih := unlike_le ns i
    show (if _ then _ else _ : List Int).length ≤ i + 1
    split
    · omega
    · rw [List.length_append]
      show _ + 1 ≤ _
      omega
section
variable {X : Cx} {z : Zt} {W : WX} {k : Kd} {a : Expr} {f : Ep} {p p2 q pos : Pos}
theorem de_lenSet (hX : XG X) (hg : Gl X "len") (hm : X.mg "len" = none) (hg2 : Gl X "set") (hm2 : X.mg "set" = none) (ha : DE X z W k a f)
    (na : starEach [a] X.env = (false, eval a X.env) :: starEach [] X.env := by rfl) : DE X z W .new (.Call (.Name "len" p) [.Call (.Name "set" p2) [a] [] q] [] pos) (eUn fUnlike f) := by
  refine ⟨fun pins s σ H Q I ⟨ρ, g, Mu, E, G1, hx⟩ => Call_ (ld_blt I hg hm boot_len (callWith_builtin1 (args_cons (Call_ (ld_blt I hg2 hm2 boot_set (callWith_type1 (args_cons (de_run ha I E G1 (R.all_imp (R.all_bind hx) (fun d g1 hx v u H1 s1 I1 r1 e1 G2 E1 k1 => args_nil ?_) fun _ _ _ _ h => h)) na) na rfl))) rfl) rfl rfl))⟩
  obtain ⟨d', hd, hx⟩ := R.all_opt hx
  obtain ⟨ns, rfl, hl, rfl⟩ := fUnlike_some hd
  obtain ⟨b, xs, rfl, hb, rx⟩ := (k1.peek E.mu E1.mu G2).lst
  have ex := rx.unInts
  subst ex
  cases r1
  obtain ⟨its, rv, pl, _⟩ := I1.list (SqL.of hb)
  have hlen : its.toArray.size = ns.length := by rw [List.size_toArray, ← rv.length, List.length_map]
  refine call_set_list (I1.ok.hd hX.calm) pl.isList (intsAre_map (by simpa using rv)) (by rw [hlen]; unfold scanBound; omega) fun h' tk hS hk => args_nil ?_
  rw [hlen] at hS
  obtain ⟨o, es, ep, t, ho, hex, hdat, _, _, _, hfit, hn⟩ := hS
  have hle := unlike_le ns ns.length
  exact call_len_set ho hex hdat hfit (by rw [hn] <;> omega) ⟨.int (unlike ns).length, H1, (I1.kept (h' := h') (t' := tk) fun b o e => hk b o (Heap.lt_size e) e).tok _, ⟨_, by rw [hn] <;> rfl⟩, hx _ H1 e1 G2 RK.int⟩
end
end DL
set_option Elab.async false
set_option linter.all false
set_option maxRecDepth 100000
set_option maxHeartbeats 2000000
/-! The value layer, part 29: tuples turned round. -/
namespace DL
open PySem PySem.Spec PyProof.Rows L2
section
variable {prog : Program} {w : World} {A : Around} {E : Value → Shared → Prop} {s : Shared}
theorem back_adjust (n : Nat) : Builtin.Slice.sliceAdjust none none (-1) (n : Int) = ((n : Int) - 1, -1) := by
  unfold Builtin.Slice.sliceAdjust
  rfl
theorem back_places (n : Nat) : Builtin.Slice.slicePlaces ((n : Int) - 1) (-1) (-1) = n := by
  unfold Builtin.Slice.slicePlaces
  rw [if_neg (by decide)]
  split
  · rw [show (-(-1 : Int)) = 1 from rfl, Int.ediv_one]
    omega
  · show (0 : Int).toNat = n
    omega
theorem back_applied {sl : Addr} {vl vu vs : Value} {n : Nat} {Q : Int × Int × Nat → Shared → Prop} (hs : s.heap.IsSliceOf sl vl vu vs) (pl : IsPart vl none) (pu : IsPart vu none) (ps : IsPart vs (some (-1)))
    (h : Q ((n : Int) - 1, -1, n) s) : wpAny (model prog w) A (Builtin.Slice.sliceApplied (.ref sl) (pure (n : Int))) Q E s := by
  obtain ⟨os, h1, _, h3⟩ := id hs
  unfold Builtin.Slice.sliceApplied Builtin.Slice.sliceFields
  refine wpAny_bind (wpAny_bind (wpAny_field h1 h3 (x := vl) rfl (wpAny_bind (wpAny_field h1 h3 (x := vu) rfl (wpAny_bind (wpAny_field h1 h3 (x := vs) rfl (wpAny_pure ?_)))))))
  refine wpAny_bind (HT.slicePart_ ps ?_)
  show wpAny _ _ (if ((-1 : Int) == 0) = true then _ else _) _ _ s
  rw [if_neg (by decide)]
  refine wpAny_bind (HT.slicePart_ pl (wpAny_bind (HT.slicePart_ pu (wpAny_bind (wpAny_pure ?_)))))
  show wpAny _ _ (match Builtin.Slice.sliceAdjust none none (-1) (n : Int) with | (lo, hi) => pure (lo, (-1 : Int), Builtin.Slice.slicePlaces lo hi (-1))) _ _ s
  rw [back_adjust]
  show wpAny _ _ (pure ((n : Int) - 1, (-1 : Int), Builtin.Slice.slicePlaces ((n : Int) - 1) (-1) (-1))) _ _ s
  rw [back_places]
  exact wpAny_pure h
theorem fm_congr {α β : Type} {f h : α → Option β} : ∀ {l : List α}, (∀ a ∈ l, f a = h a) → l.filterMap f = l.filterMap h
  | [], _ => rfl
  | a :: l, e => by
    rw [List.filterMap_cons, List.filterMap_cons, e a List.mem_cons_self, fm_congr fun b hb => e b (List.mem_cons_of_mem _ hb)]
theorem back_pick (xs : Array Value) : ((List.range xs.size).filterMap fun (m : Nat) => xs[(((xs.size : Int) - 1) + (m : Int) * (-1)).toNat]?).toArray = xs.toList.reverse.toArray := by
  congr 1
  have e : ∀ m ∈ List.range xs.size, xs[(((xs.size : Int) - 1) + (m : Int) * (-1)).toNat]? = xs.toList.reverse[m]? := fun m hm => by
    have hlt := List.mem_range.mp hm
    rw [List.getElem?_reverse (by rw [Array.length_toList]; exact hlt), Array.length_toList, Array.getElem?_toList]
    congr 1
    omega
  rw [fm_congr e]
  have q : xs.size = xs.toList.reverse.length := by rw [List.length_reverse, Array.length_toList]
  rw [q]
  generalize xs.toList.reverse = l
  apply List.ext_getElem?
  intro i
  have r : (List.range l.length).filterMap (fun m => l[m]?) = l := by
    induction l with
    | nil => rfl
    | cons a l ih =>
      rw [List.length_cons, List.range_succ_eq_map, List.filterMap_cons]
      show a :: List.filterMap _ _ = _
      rw [List.filterMap_map]
      exact congrArg _ ih
  rw [r]
theorem back_item {t sl : Addr} {items : Array Value} {vl vu vs : Value} {Q : Value → Shared → Prop} (ht : IsTup s.heap t items) (hs : s.heap.IsSliceOf sl vl vu vs) (pl : IsPart vl none) (pu : IsPart vu none) (ps : IsPart vs (some (-1)))
    (h : Q (.ref s.heap.objs.size) { s with heap := s.heap.push { cls := .type "tuple", data := .seq items.toList.reverse.toArray } }) (hz : items.size ≤ sizeLine) : wpAny (model prog w) A (getItem (.ref t) (.ref sl)) Q E s := by
  obtain ⟨os, h1, h2, h3⟩ := id hs
  have hk : s.TypeIs (.ref sl) "slice" := ⟨os, h1, h2⟩
  have hok : sizeOk (.seq items.toList.reverse.toArray) := by
    show items.toList.reverse.toArray.size ≤ sizeLine
    rw [List.size_toArray, List.length_reverse, Array.length_toList]
    exact hz
  unfold getItem
  refine wpAny_holding (wpAny_bind (wpAny_sequenceKey ht.typeIs (by decide) (wpAny_bind (wpAny_callSpecial?_slot (name := Str.ofString "__getitem__") ht.typeIs slot_tuple_getitem (wpAny_call_entry slot_tuple_getitem ht.typeIs entry_tuple_getitem ?_ (args_tuple_getitem _ _))))))
  refine wpAny_bind (m := Builtin.Tuple.tupleItemsOf (.ref t)) (tupleItemsOf_ ht (wpAny_bind (wpAny_typeOf hk ?_)))
  rw [if_pos (by decide)]
  refine wpAny_bind (back_applied hs pl pu ps ?_)
  have no : ¬ ((((items.size : Int) - 1 == 0) && ((-1 : Int) == 1) && (items.size == items.size)) = true) := by
    rw [show ((-1 : Int) == 1) = false from rfl, Bool.and_false, Bool.false_and]
    decide
  show wpAny _ _ (if (((items.size : Int) - 1 == 0) && ((-1 : Int) == 1) && (items.size == items.size)) = true then _ else _) _ _ s
  rw [if_neg no, back_pick]
  first
    | exact wpAny_bind (m := Builtin.Tuple.tupleExact _) (wpAny_newObj_type (wpAny_pure ⟨_, rfl, wpAny_pure h⟩) hok)
    | exact wpAny_bind (wpAny_bind (m := Builtin.Tuple.tupleExact _) (wpAny_newObj_type (wpAny_pure (wpAny_pure ⟨_, rfl, wpAny_pure h⟩)) hok))
    | exact wpAny_bind (wpAny_bind (m := Builtin.Tuple.tupleExact _) (wpAny_newObj_type (wpAny_pure ⟨_, rfl, wpAny_pure h⟩) hok))
    | exact wpAny_bind (m := Builtin.Tuple.tupleExact _) (wpAny_newObj_type (wpAny_bind (wpAny_pure (wpAny_pure ⟨_, rfl, wpAny_pure h⟩))) hok)
end
section
variable {X : Cx} {z : Zt} {W : WX} {k : Kd} {e : Expr} {f : Ep} {p1 p2 p3 pos : Pos} {m : Nat}
def dBack : D → Option D
  | .lst l => some (.lst l.reverse)
  | .tup l => some (.tup l.reverse)
  | _ => none
/-- x[::-1] -/
theorem de_back (he : DE X z W k e f) : DE X z W .new (.Subscript e (.Slice none none (some (.UnaryOp .USub (.Constant (.int 1) m p1) p2)) p3) pos) (eUn dBack f) := by
  refine ⟨fun pins s σ H Q I ⟨ρ, g, Mu, E, G1, hx⟩ => ?_⟩
  refine Subscript_ (de_run he I E G1 (R.all_imp (R.all_bind hx) (fun d g1 hx v u H1 s1 I1 r1 e1 G2 E1 k1 => ?_) fun _ _ _ _ h => h))
  obtain ⟨d', hd, hx⟩ := R.all_opt hx
  have hst : PO X (some (.UnaryOp .USub (.Constant (.int 1) m p1) p2)) (tPart (tUn (rU fun i => .int (-i)) (tC (.int 1)))) := po_some (pe_un un_neg pe_int)
  refine wpAny_Slice (thn (po_none.run pins s1 σ H1 (fun o H2 => o = none ∧ H2 = H1) I1 ⟨rfl, rfl⟩) fun vl s2 ⟨o1, H2, I2, pl, q1, q2⟩ => ?_)
  subst q1 q2
  refine thn (po_none.run pins s2 σ H2 (fun o H3 => o = none ∧ H3 = H2) I2 ⟨rfl, rfl⟩) fun vu s3 ⟨o2, H3, I3, pu, q3, q4⟩ => ?_
  subst q3 q4
  refine thn (hst.run pins s3 σ H3 (fun o H4 => o = some (-1) ∧ H4 = H3) I3 ⟨1, rfl, -1, rfl, rfl, rfl⟩) fun vs s4 ⟨o3, H4, I4, ps, q5, q6⟩ => ?_
  subst q5 q6
  have I5 : Inv X pins σ H4 { s4 with heap := s4.heap.push { cls := .type "slice", data := .fields #[vl, vu, vs] } } := I4.kept (t' := s4.toks) fun _ _ => Heap.get?_push_of_some _
  have hf : H4 (s4.heap.push { cls := .type "slice", data := .fields #[vl, vu, vs] }).objs.size = none := I5.hok.fresh (Nat.le_refl _)
  have out : ∀ {o : HO} {d'' : D}, d'' = d' → RK X.K X.mg z .new H4 Mu (upd H4 (s4.heap.push { cls := .type "slice", data := .fields #[vl, vu, vs] }).objs.size o) (.ref (s4.heap.push { cls := .type "slice", data := .fields #[vl, vu, vs] }).objs.size) d'' → Q (.ref (s4.heap.push { cls := .type "slice", data := .fields #[vl, vu, vs] }).objs.size) (upd H4 (s4.heap.push { cls := .type "slice", data := .fields #[vl, vu, vs] }).objs.size o) := fun {o d''} h r =>
    hx _ _ (e1.trans (Ext.of (same_upd' hf))) (G2.same (same_upd' hf)) (h ▸ r.back e1 G2)
  cases d <;> simp only [dBack, reduceCtorEq, Option.some.injEq] at hd
  · obtain ⟨a, xs, rfl, _, h, r⟩ := (k1.peek E.mu E1.mu G2).tup
    cases r1
    obtain ⟨its, rv, ht, hz⟩ := I5.tuple (SqT.of h)
    have hlen := rv.length
    show wpAny (model X.prog X.w) X.A (subscriptTail _ _ (.ref a) (.ref s4.heap.objs.size)) (EP X pins σ Q) X.xe { s4 with heap := s4.heap.push { cls := .type "slice", data := .fields #[vl, vu, vs] } }
    refine tail_any (ops := [.ref a, .ref s4.heap.objs.size]) ht.typeIs slot_tuple_getitem.lookup ?_ (by with_unfolding_all rfl)
    refine back_item ht (Heap.IsSliceOf.new _ vl vu vs) pl pu ps ?_ (by rw [List.size_toArray]; omega)
    refine ⟨.ref _, _, I5.laid (t' := s4.toks) (o := .tup xs.reverse) (fun _ _ => Heap.get?_push_of_some _) (Nat.le_refl _) ?_, rfl, out hd (RK.tup E1.mu G2 hf r.reverse)⟩
    exact ⟨by rw [List.length_reverse]; exact hz, _, rv.reverse, ⟨_, Heap.get?_push_size _ rfl, rfl, _, rfl⟩⟩
  · obtain ⟨a, xs, rfl, h, r⟩ := (k1.peek E.mu E1.mu G2).lst
    cases r1
    obtain ⟨its, rv, ht, hz⟩ := I5.list (SqL.of h)
    have hlen := rv.length
    show wpAny (model X.prog X.w) X.A (subscriptTail _ _ (.ref a) (.ref s4.heap.objs.size)) (EP X pins σ Q) X.xe { s4 with heap := s4.heap.push { cls := .type "slice", data := .fields #[vl, vu, vs] } }
    refine tail_any (ops := [.ref a, .ref s4.heap.objs.size]) ht.isList.typeIs (PySem.slot_list_getitem.lookup) ?_ (by with_unfolding_all rfl)
    refine wpAny_getItem_list_slice ht.isList (Heap.IsSliceOf.new _ vl vu vs) pl pu ps (by decide) ?_ (by rw [List.size_toArray]; omega)
    rw [PySem.W.krv_pick]
    refine ⟨.ref _, _, I5.laid (t' := s4.toks) (o := .lst xs.reverse) (fun _ _ => Heap.get?_push_of_some _) (Nat.le_refl _) ?_, rfl, out hd (RK.lst E1.mu G2 hf r.reverse)⟩
    exact ⟨by rw [List.length_reverse]; exact hz, _, 0, rv.reverse, Heap.get?_push_size _ rfl⟩
end
end DL
set_option Elab.async false
set_option linter.all false
set_option maxRecDepth 100000
set_option maxHeartbeats 2000000
/-! The value layer, part 30: towards set comprehensions: a set that no longer grows; the reading. -/
namespace DL
open PySem PySem.Spec PyProof.Rows L2
/-- a set that grew stands from now on as a set of numbers -/
theorem set_rest {X : Cx} {pins : List (Addr × Obj)} {σ : L2.St} {H : Hp} {s : Shared} {a : Addr} {S : Int → Bool} {n : Nat} (I : Inv X pins σ H s) (ha : H a = some (SetO X.w a S n)) : Inv X pins σ (upd H a (.set S n)) s := by
  have R := setO_get I ha
  have he : ∃ u, s.heap.get? a = some u := by
    have ⟨o, _, _, _, ho, _⟩ := R
    exact ⟨o, ho⟩
  exact I.write (e := a) (t' := s.toks) (by rw [ha]; trivial) (.inl rfl) (fun _ _ _ hu => hu) he R.setOf
/-- the numbers that are unlike, as they come -/
def addNew (acc : List Int) (k : Int) : List Int := if k ∈ acc then acc else acc ++ [k]
def unlikeL (l : List Int) : List Int := l.foldl addNew []
theorem addNew_nodup {acc : List Int} {k : Int} (h : acc.Nodup) : (addNew acc k).Nodup := by
  unfold addNew
  split
  · exact h
  · rename_i hk
    refine List.nodup_append.mpr ⟨h, by simp, fun a ha b hb e => ?_⟩
    rw [List.mem_singleton] at hb
    subst hb e
    exact hk ha
theorem mem_addNew {acc : List Int} {k i : Int} : i ∈ addNew acc k ↔ i ∈ acc ∨ i = k := by
  unfold addNew
  split
  · rename_i hk
    constructor
    · exact .inl
    · rintro (h | rfl)
      · exact h
      · exact hk
  · rw [List.mem_append, List.mem_singleton]
theorem len_addNew {acc : List Int} {k : Int} : (addNew acc k).length = if k ∈ acc then acc.length else acc.length + 1 := by
  unfold addNew
  split <;> simp
/-- {f for t in it if tt} of numbers -/
def eSc (it : Es) (t : D → Env → Option Env) (tt : Et) (f : Ep) (vs : List Nat) : Ep := fun ρ => do
  let ds ← it ρ
  let _ ← ofOpt (if ds.length ≤ 1000 then some () else none)
  let r ← sLcL (wipeE ρ vs) t tt f ds
  let ns ← ofOpt (intsOf r)
  M.pure (.set ((unlikeL ns).map D.int))
end DL
set_option Elab.async false
set_option linter.all false
set_option maxRecDepth 100000
set_option maxHeartbeats 2000000
/-! The value layer, part 31: set comprehensions of numbers. -/
namespace DL
open PySem PySem.Spec PyProof.Rows L2
section
variable {X : Cx}
/-- a set that grows by a number -/
abbrev grow1 (w : World) (H : Hp) (A0 : Addr) (S : Int → Bool) (n : Nat) (c : Int) : Hp := upd H A0 (SetO w A0 (fun j => S j || decide (j = c)) (if S c = true then n else n + 1))
theorem addI_ok {pins : List (Addr × Obj)} {σ : L2.St} {H : Hp} {s : Shared} {E : Value → Shared → Prop} {A0 : Addr} {S : Int → Bool} {n : Nat} {c : Int} {t : Tok} {Q : Value → Shared → Prop} (I : Inv X pins σ H s) (hA : H A0 = some (SetO X.w A0 S n)) (rm : n + 1 < scanBound)
    (k : ∀ s', Inv X pins σ (grow1 X.w H A0 S n c) s' → Q .none s') : wpAny (model X.prog X.w) X.A (call (.builtin "set.add") [.ref A0, .int c t]) Q E s := by
  have R0 := setO_get I hA
  refine L2.setR_add R0 rm fun h' sb nw => ?_
  have there : ∃ u, h'.get? A0 = some u := by
    obtain ⟨o, _, _, _, e, _⟩ := id nw
    exact ⟨o, e⟩
  exact k _ (I.write (e := A0) (t' := s.toks + 1) (by rw [hA]; trivial) (.inl rfl) (fun b u hb hu => (sb.2 b hb).trans hu) there (setO_new nw))
/-- what the comprehension asks: A0 the new set -/
def tScI (w : World) (wi : TI) (tg : TG) (tt : TT) (te : TE) (vs : List Nat) : TE := fun σ H Q => wi σ H fun J H1 => ∀ A0, H1 A0 = none → ∃ Wv : Nat → Nat → Hp → Prop, (∃ m, Wv 0 m (upd H1 A0 (SetO w A0 (fun _ => false) 0))) ∧ ∀ i m Hi, Wv i m Hi →
  (J.stop i Hi ∧ Q (.ref A0) Hi) ∨ (J.go i Hi ∧ ∃ Nx : Hp → Prop, (∀ H', Nx H' → ∃ m', m' < m ∧ Wv (i + 1) m' H') ∧ ∀ x H', J.yld i Hi x H' → tg x (wipe σ vs) H' fun σa Ha => wipe σa vs = wipe σ vs ∧ tt σa Ha fun b Hb =>
    if b = true then te σa Hb fun y Hc => ∃ (c : Int) (S : Int → Bool) (n : Nat), y = .int c ∧ Hc A0 = some (SetO w A0 S n) ∧ n + 1 < scanBound ∧ Nx (grow1 w Hc A0 S n c) else Nx Hb)
theorem scI_core {pins : List (Addr × Obj)} {s : Shared} {σ : L2.St} {H : Hp} {Q : VK} {elt tgt it0 : Expr} {ifs : List Expr} {sco : Scope} {own : List (PySem.Str × Nat)} {pos pos' : Pos} {wi : TI} {gt : TG} {tt : TT} {te : TE} {use : Option (Value → Sem Unit)} {Qf : Value → Shared → Prop}
    (calm : X.calm = true) (nd : X.N.Nodup) (I : Inv X pins σ H s) (hi : PI X tgt it0 wi) (bk : BlkOk X.N X.env.scope sco own)
    (h1 : ∀ (s : Shared) (H : Hp) (C : Addr) (cl : List (PySem.Str × Addr)) (fp : List Addr), PG (X.blk s H sco (compEnvC sco cl C X.env) fp) tgt gt) (h2 : ∀ (s : Shared) (H : Hp) (C : Addr) (cl : List (PySem.Str × Addr)) (fp : List Addr), PTs (X.blk s H sco (compEnvC sco cl C X.env) fp) ifs tt)
    (h3 : ∀ (s : Shared) (H : Hp) (C : Addr) (cl : List (PySem.Str × Addr)) (fp : List Addr), PE (X.blk s H sco (compEnvC sco cl C X.env) fp) elt te) (fold : ∀ x, foldedSetIterable it0 X.env x = pure x)
    (asks : tScI X.w wi gt tt te (own.map (·.2)) σ H Q)
    (fin0 : ∀ A0 C s' m H', Inv X pins σ H' s' → Q (.ref A0) H' → s'.heap.Ns C m → FpOk X pins H' C → compPost (model X.prog X.w) X.A X.xe use Qf (.ref A0) C (.ok .next) s') :
    wpAny (model X.prog X.w) X.A (comprehension (.SetComp elt [⟨tgt, it0, ifs, 0⟩] sco pos) sco X.env pos' (newSet (.type "set")) false (eval it0 X.env) use) Qf X.xe s := by
  have clo : ∀ y ∈ sco.names, y.2 = .free → ∃ c, X.env.cells.lookup y.1 = some c := fun y hy e => by
    cases bk.free y hy e with
    | inl k => exact I.ok.has _ (.inl k)
    | inr k => exact I.ok.has _ (.inr k)
  refine wpAny_comprehension_free (use := use) rfl fold (closure_ok clo) bk.kind (fun y hy e => by rw [bk.uniq y hy, e]) (thn (hi.run pins s σ H _ I asks) fun xv sa hxv => thn hxv fun itv sb hsb => ?_)
  obtain ⟨ia, fp, tn, J, Ha, ei, Ia, T, sta, fpa, ask2⟩ := hsb
  subst ei
  refine PpSet.newSet_ok (newEnv_comp ?_)
  generalize eA : sb.heap.objs.size = A0
  have freeA : Ha A0 = none := Ia.hok.fresh (Nat.le_of_eq eA)
  obtain ⟨Wv, ⟨m0, w0⟩, turn⟩ := ask2 A0 freeA
  generalize es3 : ({ sb with heap := sb.heap.push { cls := .type "set", dict := none, data := .set #[] 0 (.fresh 0 0 (!X.w.params.followText "set-order")) } } : Shared) = sc
  have Ib : Inv X pins σ (upd Ha A0 (SetO X.w A0 (fun _ => false) 0)) sc := by
    rw [← es3]
    refine Ia.laid (t' := sb.toks) (fun b o e => Heap.get?_push_of_some _ e) (Nat.le_of_eq eA) ?_
    rw [← eA]
    exact setO_new (L2.setR_fresh X.w)
  have hsc : sc.heap = sb.heap.push { cls := .type "set", dict := none, data := .set #[] 0 (.fresh 0 0 (!X.w.params.followText "set-order")) } := by rw [← es3]
  have small : ∀ b ∈ fp, b < sb.heap.objs.size := fun b hb => by
    obtain ⟨o, e, _⟩ := T.obj _ _ sta b hb
    exact Heap.lt_size e
  have fpb : ∀ b ∈ fp, FpOk X pins (upd Ha A0 (SetO X.w A0 (fun _ => false) 0)) b ∧ b < sc.heap.objs.size := fun b hb => by
    have lt := small b hb
    refine ⟨⟨?_, (fpa b hb).2⟩, ?_⟩
    · rw [upd_ne (by rw [← eA]; exact Nat.ne_of_lt lt)]
      exact (fpa b hb).1
    · rw [hsc, Heap.size_push]
      exact Nat.lt_succ_of_lt lt
  have stb : tn 0 sc.heap := T.keep _ _ _ sta fun b _ o e => by
    rw [hsc]
    exact Heap.get?_push_of_some _ e
  have Ic := block_start Ib bk nd fpb
  generalize eHb : upd Ha A0 (SetO X.w A0 (fun _ => false) 0) = Hb at Ib Ic w0 fpb
  let cs := cellsFrom (sc.heap.objs.size + 1) sco.names (cloFrom X.env.cells sco.names [])
  have pg := h1 sc Hb sc.heap.objs.size cs fp
  have pt := h2 sc Hb sc.heap.objs.size cs fp
  have pe := h3 sc Hb sc.heap.objs.size cs fp
  show codeAny _ _ (.compStart (.SetComp elt [⟨tgt, it0, ifs, 0⟩] sco pos) 0 (.ref ia) (.ref A0) (compEnvC sco cs sc.heap.objs.size X.env)) (compPost (model X.prog X.w) X.A X.xe use Qf (.ref A0) sc.heap.objs.size) { sc with heap := pushCells (sc.heap.push { cls := .type "dict", data := .dict #[] }) sco.names }
  have clear : ∀ b ∈ fp, Hb b = none := fun b hb => (fpb b hb).1.1
  generalize ece : compEnvC sco cs sc.heap.objs.size X.env = ce at pg pt pe ⊢
  have ece' : compEnvC sco (cellsFrom (sc.heap.objs.size + 1) sco.names (cloFrom X.env.cells sco.names [])) sc.heap.objs.size X.env = ce := ece
  rw [ece'] at Ic
  have locs : ce.locals = sc.heap.objs.size := by subst ece; rfl
  generalize es4 : ({ sc with heap := pushCells (sc.heap.push { cls := .type "dict", data := .dict #[] }) sco.names } : Shared) = sd at Ic ⊢
  have std : tn 0 sd.heap := T.keep _ _ _ stb fun b _ o e => by
    rw [← es4]
    exact pushCells_keeps _ _ _ _ (Heap.get?_push_of_some _ e)
  have fpk : ∀ {σ' : L2.St} {H' : Hp} {s' : Shared}, Inv (X.blk sc Hb sco ce fp) [] σ' H' s' → (∀ b ∈ fp, H' b = none) → ∀ b ∈ fp, FpOk (X.blk sc Hb sco ce fp) [] H' b := fun {σ' H' s'} I' nn b hb =>
    ⟨nn b hb, (I'.ok.exf b hb).1, I'.ok.exfs b hb, .inl hb, fun x c e => (I'.ok.exf b hb).2 x c e, fun p hp => absurd (show p ∈ ([] : List (Addr × Obj)) ++ [] from hp) (by simp)⟩
  refine PpSet.codeAny_compStart_set ?_ (T.self X.A 0 _ _ _ std ?_) <;>
  · refine PpSet.compLoopS_any (fun n s' => ∃ i H', Inv (X.blk sc Hb sco ce fp) [] (wipe σ (own.map (·.2))) H' s' ∧ tn i s'.heap ∧ (∀ b ∈ fp, H' b = none) ∧ Wv i n H') ?_ m0 ⟨0, Hb, Ic, std, clear, w0⟩
    rintro n se ⟨i, He, Ie, ste, ne, we⟩
    rcases turn i n He we with ⟨stop, qq⟩ | ⟨go, Nx, hNx, step⟩
    · refine thnF (T.done (X.blk sc Hb sco ce fp) rfl rfl rfl calm i [] se _ He (fun _ _ => False) Ie (fpk Ie ne) ste stop) fun r sf ⟨hr, If⟩ => ?_
      subst hr
      have Ig : Inv X pins σ He sf := Ib.call' (ch := fp) If.os If.base If.hok If.bare fun b hb => ⟨(fpb b hb).1.2.2.2.1, (fpb b hb).1.2.1, (fpb b hb).1.2.2.2.2.1, (fpb b hb).1.2.2.2.2.2⟩
      have nC : He sc.heap.objs.size = none := by
        have zz : He ce.locals = none := If.free
        rwa [locs] at zz
      obtain ⟨m, hn, _⟩ := If.loc
      have hn : sf.heap.Ns ce.locals m := hn
      rw [locs] at hn
      exact fin0 A0 sc.heap.objs.size sf m He Ig qq hn (Ib.fpOk (Nat.le_refl _) nC)
    · refine thnF (T.item (X.blk sc Hb sco ce fp) rfl rfl rfl calm i [] se _ He (fun _ _ => False) Ie (fpk Ie ne) ste go) fun r sf ⟨u, hr, hf⟩ => ?_
      subst hr
      refine thnF hf fun _ sg ⟨x, Hg, Ig, rg, yg, stg, ng⟩ => ?_
      have Ig' := Ig.pinned (fpk Ig ng) (T.obj _ _ stg)
      refine thnF (pg.run _ sg _ Hg x u _ Ig' rg (step x Hg yg)) fun _ sh ⟨σh, Hh, Ih, wh, qh⟩ => ?_
      refine thnF (pt.run _ sh σh Hh _ Ih qh) fun b si ⟨Hi, Ii, qi⟩ => ?_
      have close : ∀ {s' : Shared} {H' : Hp}, Inv (X.blk sc Hb sco ce fp) ([] ++ pinsAt fp sg.heap) σh H' s' → Nx H' → ∃ m, m < n ∧ ∃ i H', Inv (X.blk sc Hb sco ce fp) [] (wipe σ (own.map (·.2))) H' s' ∧ tn i s'.heap ∧ (∀ b ∈ fp, H' b = none) ∧ Wv i m H' := fun {s' H'} I' nx => by
        obtain ⟨m', lt, w'⟩ := hNx H' nx
        have pn : ∀ b ∈ fp, ∀ o, sg.heap.get? b = some o → s'.heap.get? b = some o ∧ H' b = none := fun b hb o e => by
          have zz := I'.pin (b, o) (List.mem_append_right _ (List.mem_append_right _ (mem_pinsAt hb e)))
          exact ⟨zz.1, zz.2.1⟩
        have ll : (wipe σ (own.map (·.2))).length = σh.length := by rw [← wh, wipe_length]
        refine ⟨m', lt, i + 1, H', (I'.unpinned (pins := [])).weak ll (fun j v e => ?_), T.keep _ _ _ stg fun b hb o e => (pn b hb o e).1, fun b hb => ?_, w'⟩
        · rw [← wh] at e
          exact (wipe_some e).1
        · obtain ⟨o, e, _⟩ := T.obj _ _ stg b hb
          exact (pn b hb o e).2
      cases b with
      | false =>
        simp only [Bool.false_eq_true, if_false] at qi ⊢
        exact close Ii qi
      | true =>
        simp only [if_true] at qi ⊢
        refine thnF (pe.run _ si σh Hi _ Ii qi) fun v sj ⟨yv, Hj, Ij, rj, c, S, n', ey, hA, rm, nx⟩ => ?_
        subst ey
        obtain ⟨tk, rfl⟩ := rj
        exact addI_ok (X := X.blk sc Hb sco ce fp) Ij hA rm fun s' I' => close I' nx
theorem pe_scI {elt tgt it0 : Expr} {ifs : List Expr} {sco : Scope} {own : List (PySem.Str × Nat)} {pos : Pos} {wi : TI} {gt : TG} {tt : TT} {te : TE} (calm : X.calm = true) (nd : X.N.Nodup) (hi : PI X tgt it0 wi) (bk : BlkOk X.N X.env.scope sco own)
    (h1 : ∀ (s : Shared) (H : Hp) (C : Addr) (cl : List (PySem.Str × Addr)) (fp : List Addr), PG (X.blk s H sco (compEnvC sco cl C X.env) fp) tgt gt) (h2 : ∀ (s : Shared) (H : Hp) (C : Addr) (cl : List (PySem.Str × Addr)) (fp : List Addr), PTs (X.blk s H sco (compEnvC sco cl C X.env) fp) ifs tt)
    (h3 : ∀ (s : Shared) (H : Hp) (C : Addr) (cl : List (PySem.Str × Addr)) (fp : List Addr), PE (X.blk s H sco (compEnvC sco cl C X.env) fp) elt te) (fold : ∀ x, foldedSetIterable it0 X.env x = pure x := by intro _; rfl) :
    PE X (.SetComp elt [⟨tgt, it0, ifs, 0⟩] sco pos) (tScI X.w wi gt tt te (own.map (·.2))) := by
  refine ⟨fun pins s σ H Q I asks => ?_⟩
  rw [PpSet.eval_SetComp]
  refine scI_core calm nd I hi bk h1 h2 h3 fold asks fun A0 C s' m H' I' q hn f => ⟨m, hn, fun h'' sb => ?_⟩
  obtain ⟨f0, f1, f2, f3, f4, f5⟩ := f
  exact ⟨.ref A0, H', I'.turned (t' := s'.toks) (fun b o hb e => (sb.2 b hb).trans e) f0 f1 f3 f4 f5, rfl, q⟩
end
end DL
set_option Elab.async false
set_option linter.all false
set_option maxRecDepth 100000
set_option maxHeartbeats 2000000
/-! The value layer, part 32: set comprehensions of numbers read; sorted of them. -/
namespace DL
open PySem PySem.Spec PyProof.Rows L2
/-- a number, else no place here -/
def eInt (f : Ep) : Ep := fun ρ => do
  let d ← f ρ
  match d with
  | .int i => M.pure (.int i)
  | _ => stuck
theorem all_eInt {d : D} {P : D → G → Prop} {E : Str → Str → List D → G → Prop} {g : G} (h : ((match d with | .int i => M.pure (D.int i) | _ => stuck : M D) g).all P E) : ∃ i, d = .int i ∧ P (.int i) g := by
  cases d <;> first | exact h.elim | exact ⟨_, rfl, h⟩
/-- the numbers that a set comprehension meets -/
def sScL (it : Es) (t : D → Env → Option Env) (tt : Et) (f : Ep) (vs : List Nat) : Env → M (List Int) := fun ρ => do
  let ds ← it ρ
  let _ ← ofOpt (if ds.length ≤ 1000 then some () else none)
  let r ← sLcL (wipeE ρ vs) t tt (eInt f) ds
  ofOpt (intsOf r)
def eScI (it : Es) (t : D → Env → Option Env) (tt : Et) (f : Ep) (vs : List Nat) : Ep := fun ρ => do
  let ns ← sScL it t tt f vs ρ
  M.pure (.set ((unlikeL ns).map D.int))
theorem unlikeL_snoc (l : List Int) (k : Int) : unlikeL (l ++ [k]) = addNew (unlikeL l) k := by
  unfold unlikeL
  rw [List.foldl_append]
  rfl
theorem unlikeL_nodup (l : List Int) : (unlikeL l).Nodup := by
  have key : ∀ (l acc : List Int), acc.Nodup → (l.foldl addNew acc).Nodup := by
    intro l
    induction l with
    | nil => exact fun _ h => h
    | cons k l ih => exact fun acc h => ih _ (addNew_nodup h)
  exact key l [] List.nodup_nil
theorem mem_unlikeL {l : List Int} {i : Int} : i ∈ unlikeL l ↔ i ∈ l := by
  have key : ∀ (l acc : List Int), i ∈ l.foldl addNew acc ↔ i ∈ acc ∨ i ∈ l := by
    intro l
    induction l with
    | nil => intro acc; simp
    | cons k l ih =>
      intro acc
      rw [List.foldl_cons, ih, mem_addNew, List.mem_cons, or_assoc]
  have := key l []
  simpa [unlikeL] using this
theorem unlikeL_len (l : List Int) : (unlikeL l).length ≤ l.length := by
  have key : ∀ (l acc : List Int), (l.foldl addNew acc).length ≤ acc.length + l.length := by
    intro l
    induction l with
    | nil => intro acc; simp
    | cons k l ih =>
      intro acc
      rw [List.foldl_cons, List.length_cons]
      refine Nat.le_trans (ih _) ?_
      rw [len_addNew]
      split <;> omega
  have := key l []
  simpa [unlikeL] using this
section
variable {X : Cx} {z : Zt} {W : WX} {elt tg iter c : Expr} {ifs : List Expr} {scope : Scope} {own : List (Str × Nat)} {pos : Pos} {it : Es} {gt : TG} {t : D → Env → Option Env} {is : List Nat} {tt : Et} {f : Ep}
/-- the new set at A0 has the numbers ns -/
def HasI (w : World) (H : Hp) (A0 : Addr) (ns : List Int) : Prop := ∃ S, H A0 = some (SetO w A0 S (unlikeL ns).length) ∧ ∀ k, S k = decide (k ∈ ns)
theorem HasI.grow {w : World} {H : Hp} {A0 : Addr} {ns : List Int} {S : Int → Bool} {c : Int} (hS : ∀ k, S k = decide (k ∈ ns)) : HasI w (grow1 w H A0 S (unlikeL ns).length c) A0 (ns ++ [c]) := by
  refine ⟨fun j => S j || decide (j = c), ?_, fun k => ?_⟩
  · have e : (unlikeL (ns ++ [c])).length = if S c = true then (unlikeL ns).length else (unlikeL ns).length + 1 := by
      rw [unlikeL_snoc, len_addNew, hS]
      simp only [mem_unlikeL, decide_eq_true_eq]
    rw [e]
    exact upd_same
  · show (S k || decide (k = c)) = _
    rw [hS]
    simp [Bool.decide_or]
theorem heap_of : ∀ n : Nat, ∃ h : Heap, h.objs.size = n
  | 0 => ⟨{ objs := #[] }, rfl⟩
  | n + 1 => by
    obtain ⟨h, e⟩ := heap_of n
    exact ⟨h.push { cls := .none, data := .fields #[] }, by rw [Heap.size_push, e]⟩
/-- a set is no code object -/
theorem setO_ne {w : World} {a : Addr} {S : Int → Bool} {n : Nat} {q : Str} : SetO w a S n ≠ LamX.CodeO a q := by
  intro e
  obtain ⟨h, eh⟩ := heap_of a
  have g1 : (h.push { cls := .none, data := .fields #[.none, .str q 0] }).get? a = some { cls := .none, data := .fields #[.none, .str q 0] } := by
    rw [← eh]
    exact Heap.get?_push_size _ rfl
  injection e with e
  have c : SetR w (h.push { cls := .none, data := .fields #[.none, .str q 0] }) a S n := by
    rw [congrFun e _]
    exact ⟨_, _, 0, g1, rfl, rfl⟩
  obtain ⟨o, es, ep, t, ho, _, hd, _⟩ := c
  rw [g1] at ho
  cases ho
  cases hd
theorem sc_read {σ : L2.St} {H : Hp} {Q : VK} {ρ : Env} {g : G} {Mu : List Addr} (hgo : ∀ (v : V) (d : D) (σ : L2.St) (H : Hp) (ρ ρ' : Env) (Mu : List Addr) (Q : L2.St → Hp → Prop), EnvOk X.K X.mg z Mu H σ ρ → Rep X.K X.mg z Mu H v d → t d ρ = some ρ' → (∀ σ', EnvOk X.K X.mg z Mu H σ' ρ' → Tch is σ σ' ρ ρ' → Q σ' H) → gt v σ H Q)
    (hsub : ∀ i ∈ is, i ∈ own.map (·.2)) (E : EnvOk X.K X.mg z Mu H σ ρ) (G1 : GOk z H g)
    (hx : (sScL it t tt f (own.map (·.2)) ρ g).all (fun ns g' => ∀ A0 H', A0 ∉ Mu → ¬ Oc H A0 → Ext z H H' → GOk z H' g' → HasI X.w H' A0 ns → ns.length ≤ 1000 → Q (.ref A0) H') (XW X z W Mu σ H)) :
    tScI X.w (tI X z W true it) gt (tT X z W0 tt) (tE X z W0 .sh f) (own.map (·.2)) σ H Q := by
  refine ⟨ρ, g, Mu, E, G1, R.all_imp (R.all_bind hx) (fun ds g1 hx J H1 e1 G2 hy Dd nD => ?_) fun _ _ _ _ h => h⟩
  obtain ⟨_, hz, hx⟩ := R.all_opt (R.all_bind hx)
  obtain ⟨hz, _⟩ := opt_if hz
  have hx := R.all_bind hx
  have np : Dd ≠ z.p := fun w => by
    rw [w, G2.p] at nD; cases nD
  have nl : Dd ≠ z.l := fun w => by
    rw [w, G2.l] at nD; cases nD
  have nc : Dd ≠ z.c := fun w => by
    rw [w, G2.c] at nD; cases nD
  have nH : ¬ Oc H Dd := e1.none (oc_none nD) np nl
  have nM : Dd ∉ Mu := fun w => nH (E.mu.at_ _ w)
  have E1 := E.ext G1 e1 G2
  have s1 : Same H1 (upd H1 Dd (SetO X.w Dd (fun _ => false) 0)) := same_upd' nD
  refine ⟨fun i m H2 => m = ds.length - i ∧ i ≤ ds.length ∧ ∃ acc g2, HasI X.w H2 Dd acc ∧ acc.length ≤ i ∧ GOk z H2 g2 ∧ Ext z H1 H2 ∧
      (sLcL (wipeE ρ (own.map (·.2))) t tt (eInt f) (ds.drop i) g2).all (fun out g' => (ofOpt (intsOf (acc.map D.int ++ out)) g').all (fun ns g' => ∀ A0 H', A0 ∉ Mu → ¬ Oc H A0 → Ext z H H' → GOk z H' g' → HasI X.w H' A0 ns → ns.length ≤ 1000 → Q (.ref A0) H') (XW X z W Mu σ H)) (XW X z W Mu σ H),
    ⟨ds.length, rfl, Nat.zero_le _, [], g1, ⟨fun _ => false, upd_same, fun k => by simp⟩, Nat.le_refl _, G2.same s1, Ext.of s1, hx⟩, ?_⟩
  rintro i m H2 ⟨rfl, hle, acc, g2, hD, hl, G3, e2, hx2⟩
  have hyi : ExtM (if true = true then [z.p, z.l] else Mu) H1 H2 := fun b u q t hn => e2.to b u q t (fun w => hn (by rw [if_pos rfl]; simp [w])) (fun w => hn (by rw [if_pos rfl]; simp [w]))
  obtain ⟨y1, y2⟩ := hy H2 hyi i
  by_cases hlt : i < ds.length
  · obtain ⟨hgo', hyl⟩ := y1 ds[i] (List.getElem?_eq_getElem hlt)
    rw [List.drop_eq_getElem_cons hlt] at hx2
    obtain ⟨ρ3, ht, hx3⟩ := R.all_opt (R.all_bind hx2)
    refine .inr ⟨hgo', fun H' => i + 1 ≤ ds.length ∧ ∃ acc g2, HasI X.w H' Dd acc ∧ acc.length ≤ i + 1 ∧ GOk z H' g2 ∧ Ext z H1 H' ∧
      (sLcL (wipeE ρ (own.map (·.2))) t tt (eInt f) (ds.drop (i + 1)) g2).all (fun out g' => (ofOpt (intsOf (acc.map D.int ++ out)) g').all (fun ns g' => ∀ A0 H', A0 ∉ Mu → ¬ Oc H A0 → Ext z H H' → GOk z H' g' → HasI X.w H' A0 ns → ns.length ≤ 1000 → Q (.ref A0) H') (XW X z W Mu σ H)) (XW X z W Mu σ H), fun H' ⟨h1, h2⟩ => ⟨ds.length - (i + 1), by omega, rfl, h1, h2⟩, fun x H3 y => ?_⟩
    obtain ⟨sm, rep⟩ := hyl x H3 y
    have G4 := G3.same sm
    have e3 : Ext z H1 H3 := e2.trans (Ext.of sm)
    obtain ⟨S, hD1, hS⟩ := hD
    have hD3 : H3 Dd = some (SetO X.w Dd S (unlikeL acc).length) := sm _ _ hD1
    have B2 : EnvOk X.K X.mg z (Dd :: Mu) H2 (wipe σ (own.map (·.2))) (wipeE ρ (own.map (·.2))) := (E.bar G1 (e1.trans e2) G3 nH ⟨_, hD1, trivial⟩ (fun q w => by rw [hD1] at w; exact setO_ne (Option.some.inj w))).wipe _
    have B3 := B2.ext G3 (Ext.of sm) G4
    have rx := rep (Dd :: Mu) (fun b q hn w => by
      rcases List.mem_cons.mp w with w | w
      · exact q.ne (oc_none nD) w
      · exact hn w) B2.mu.at_
    refine hgo x ds[i] _ H3 _ ρ3 (Dd :: Mu) _ B3 rx ht fun σ4 E4 T4 => ⟨wipe_tch T4 hsub, ?_⟩
    refine ⟨ρ3, g2, Dd :: Mu, E4, G4, R.all_imp (all_nox (E' := XW X z W0 (Dd :: Mu) σ4 H3) (R.all_bind hx3)) (fun b g3 hx4 H5 e5 G5 => ?_) fun _ _ _ _ h => h⟩
    have hD5 : H5 Dd = some (SetO X.w Dd S (unlikeL acc).length) := e5.to _ _ hD3 trivial np nl
    cases b with
    | false => exact ⟨hlt, acc, g3, ⟨S, hD5, hS⟩, by omega, G5, e3.trans e5, hx4⟩
    | true =>
      dsimp only
      rw [if_pos rfl]
      have E5 := E4.ext G4 e5 G5
      have hx4' := all_nox (E' := XW X z W0 (Dd :: Mu) σ4 H5) (R.all_bind hx4)
      refine ⟨ρ3, g3, Dd :: Mu, E5, G5, R.all_imp (R.all_bind hx4') (fun y g4 hx5 v H6 e6 G6 k6 => ?_) fun _ _ _ _ h => h⟩
      obtain ⟨c, rfl, hx5⟩ := all_eInt hx5
      have k6 : Rep X.K X.mg z (Dd :: Mu) H6 v (.int c) := k6
      cases k6
      have hD6 : H6 Dd = some (SetO X.w Dd S (unlikeL acc).length) := e6.to _ _ hD5 trivial np nl
      have hlen : (unlikeL acc).length + 1 < scanBound := by
        have := unlikeL_len acc
        unfold scanBound
        omega
      refine ⟨c, S, _, rfl, hD6, hlen, hlt, acc ++ [c], g4, HasI.grow hS, by simp; omega, G6.write np nl nc (fun ps w => by rw [hD6] at w; cases w) (fun q w => by rw [hD6] at w; exact setO_ne (Option.some.inj w)), ⟨fun b u q t h1 h2 => ?_⟩, ?_⟩
      · have hb : b ≠ Dd := fun w => by rw [w, nD] at q; cases q
        show upd H6 Dd _ b = _
        rw [upd_ne hb]
        exact e6.to b u (e5.to b u (e3.to b u q t h1 h2) t h1 h2) t h1 h2
      · refine R.all_imp (R.all_bind hx5) (fun out g5 hq => ?_) fun _ _ _ _ h => h
        have e : (acc ++ [c]).map D.int ++ out = acc.map D.int ++ (D.int c :: out) := by simp
        rw [e]
        exact hq
  · refine .inl ⟨y2 (by omega), ?_⟩
    rw [List.drop_eq_nil_of_le (by omega)] at hx2
    have hx2 : (ofOpt (intsOf (acc.map D.int ++ [])) g2).all (fun ns g' => ∀ A0 H', A0 ∉ Mu → ¬ Oc H A0 → Ext z H H' → GOk z H' g' → HasI X.w H' A0 ns → ns.length ≤ 1000 → Q (.ref A0) H') (XW X z W Mu σ H) := hx2
    rw [List.append_nil, intsOf_map] at hx2
    exact hx2 Dd H2 nM nH (e1.trans e2) G3 hD (by omega)
theorem de_scI (hX : XG X) (hi : DI X z W true tg iter it) (ok : BlkOk X.N X.env.scope scope own) (hsub : ∀ i ∈ is, i ∈ own.map (·.2))
    (hg : ∀ (s : Shared) (H : Hp) (C : Addr) (cl : List (Str × Addr)) (fp : List Addr), TgOk (X.blk s H scope (compEnvC scope cl C X.env) fp) z tg gt t is)
    (ht : ∀ (s : Shared) (H : Hp) (C : Addr) (cl : List (Str × Addr)) (fp : List Addr), DTs (X.blk s H scope (compEnvC scope cl C X.env) fp) z W0 ifs tt)
    (he : ∀ (s : Shared) (H : Hp) (C : Addr) (cl : List (Str × Addr)) (fp : List Addr), DE (X.blk s H scope (compEnvC scope cl C X.env) fp) z W0 .sh elt f) (hs : ∀ x, foldedSetIterable iter X.env x = pure x := by intro _; rfl) :
    DE X z W .new (.SetComp elt [⟨tg, iter, ifs, 0⟩] scope pos) (eScI it t tt f (own.map (·.2))) := by
  refine ⟨fun pins s σ H Q I ⟨ρ, g, Mu, E, G1, hx⟩ => ?_⟩
  refine thn ((pe_scI (tt := tT X z W0 tt) (te := tE X z W0 .sh f) hX.calm hX.nd hi ok (fun s H C cl fp => (hg s H C cl fp).pg) ht he hs).run pins s σ H
    (fun v H' => ∃ A0 ns g', sScL it t tt f (own.map (·.2)) ρ g = .ok ns g' ∧ v = .ref A0 ∧ A0 ∉ Mu ∧ ¬ Oc H A0 ∧ Ext z H H' ∧ GOk z H' g' ∧ HasI X.w H' A0 ns) I
    (sc_read (fun v d σ H ρ ρ' Mu Q => (hg s H default [] []).ok v d σ H ρ ρ' Mu Q) hsub E G1 (R.all_imp (R.all_eq (R.all_bind hx)) (fun ns g1 ⟨q, _⟩ A0 H1 n1 n2 e1 G2 hh _ => ⟨A0, ns, g1, q, rfl, n1, n2, e1, G2, hh⟩) fun _ _ _ _ h => h))) fun u s1 ⟨v, H1, I1, r1, A0, ns, g1, q, ev, n1, n2, e1, G2, S, hA, hS⟩ => ?_
  subst ev
  cases r1
  have hx := R.all_bind hx
  rw [q] at hx
  have I2 := set_rest I1 hA
  have np : A0 ≠ z.p := fun w => by rw [w] at n1; exact n1 E.mu.p
  have nl : A0 ≠ z.l := fun w => by rw [w] at n1; exact n1 E.mu.l
  have nc : A0 ≠ z.c := fun w => by rw [w] at n1; exact n1 E.mu.c
  refine ⟨.ref A0, _, I2, rfl, hx _ _ ⟨fun b u hb t h1 h2 => ?_⟩ (G2.write np nl nc (fun ps w => by rw [hA] at w; cases w) (fun q w => by rw [hA] at w; exact setO_ne (Option.some.inj w))) (RK.new_of ?_ rfl)⟩
  · have nb : b ≠ A0 := fun w => n2 (w ▸ ⟨u, hb, t⟩)
    rw [upd_ne nb]
    exact e1.to b u hb t h1 h2
  · refine .set (S := S) n1 upd_same (fun k => ?_) (unlikeL_nodup ns)
    rw [hS]
    simp only [mem_unlikeL]
/-- the numbers in a row, each once -/
def riseL (ns : List Int) : List Int := (unlikeL ns).mergeSort (fun a b => decide (a ≤ b))
theorem riseL_pair (ns : List Int) : (riseL ns).Pairwise (· < ·) := by
  have h1 : (riseL ns).Pairwise (fun a b => decide (a ≤ b) = true) := List.pairwise_mergeSort (fun a b c h1 h2 => by simp only [decide_eq_true_eq] at *; omega) (fun a b => by simp only [Bool.or_eq_true, decide_eq_true_eq]; omega) _
  have h2 : (riseL ns).Nodup := (List.mergeSort_perm _ _).nodup_iff.mpr (unlikeL_nodup ns)
  have h3 := h1.and h2
  exact h3.imp fun {a b} ⟨h, n⟩ => by
    simp only [decide_eq_true_eq] at h
    omega
theorem mem_riseL {ns : List Int} {k : Int} : k ∈ riseL ns ↔ k ∈ ns := by
  unfold riseL
  rw [(List.mergeSort_perm _ _).mem_iff, mem_unlikeL]
/-- what rises and has the same members is the same -/
theorem rise_eq : ∀ {l m : List Int}, l.Pairwise (· < ·) → m.Pairwise (· < ·) → (∀ k, k ∈ l ↔ k ∈ m) → l = m
  | [], [], _, _, _ => rfl
  | [], b :: m, _, _, h => absurd ((h b).mpr List.mem_cons_self) (by simp)
  | a :: l, [], _, _, h => absurd ((h a).mp List.mem_cons_self) (by simp)
  | a :: l, b :: m, h1, h2, h => by
    rw [List.pairwise_cons] at h1 h2
    have ab : a = b := by
      rcases List.mem_cons.mp ((h a).mp List.mem_cons_self) with e | e
      · exact e
      · rcases List.mem_cons.mp ((h b).mpr List.mem_cons_self) with e' | e'
        · exact e'.symm
        · have := h1.1 b e'
          have := h2.1 a e
          omega
    subst ab
    rw [rise_eq h1.2 h2.2 fun k => ?_]
    have := h k
    simp only [List.mem_cons] at this
    constructor
    · intro hk
      rcases this.mp (.inr hk) with e | e
      · subst e
        exact absurd (h1.1 _ hk) (by omega)
      · exact e
    · intro hk
      rcases this.mpr (.inr hk) with e | e
      · subst e
        exact absurd (h2.1 _ hk) (by omega)
      · exact e
/-- sorted({..}) of fewer than 64 -/
def eSortSc (it : Es) (t : D → Env → Option Env) (tt : Et) (f : Ep) (vs : List Nat) : Ep := fun ρ => do
  let ns ← sScL it t tt f vs ρ
  ofOpt (if (unlikeL ns).length < 64 then some (.lst ((riseL ns).map D.int)) else none)
theorem de_sortSc {sp fp2 : Pos} (hX : XG X) (hgl : Gl X "sorted") (hml : X.mg "sorted" = none) (hi : DI X z W true tg iter it) (ok : BlkOk X.N X.env.scope scope own) (hsub : ∀ i ∈ is, i ∈ own.map (·.2))
    (hg : ∀ (s : Shared) (H : Hp) (C : Addr) (cl : List (Str × Addr)) (fp : List Addr), TgOk (X.blk s H scope (compEnvC scope cl C X.env) fp) z tg gt t is)
    (ht : ∀ (s : Shared) (H : Hp) (C : Addr) (cl : List (Str × Addr)) (fp : List Addr), DTs (X.blk s H scope (compEnvC scope cl C X.env) fp) z W0 ifs tt)
    (he : ∀ (s : Shared) (H : Hp) (C : Addr) (cl : List (Str × Addr)) (fp : List Addr), DE (X.blk s H scope (compEnvC scope cl C X.env) fp) z W0 .sh elt f) (hs : ∀ x, foldedSetIterable iter X.env x = pure x := by intro _; rfl)
    (na : starEach [Expr.SetComp elt [⟨tg, iter, ifs, 0⟩] scope pos] X.env = (false, eval (Expr.SetComp elt [⟨tg, iter, ifs, 0⟩] scope pos) X.env) :: starEach [] X.env := by rfl) :
    DE X z W .new (.Call (.Name "sorted" fp2) [.SetComp elt [⟨tg, iter, ifs, 0⟩] scope pos] [] sp) (eSortSc it t tt f (own.map (·.2))) := by
  refine ⟨fun pins s σ H Q I ⟨ρ, g, Mu, E, G1, hx⟩ => ?_⟩
  refine Call_ (ld_blt I hgl hml boot_sorted (callWith_builtin1 (args_cons (thn ((pe_scI (tt := tT X z W0 tt) (te := tE X z W0 .sh f) hX.calm hX.nd hi ok (fun s H C cl fp => (hg s H C cl fp).pg) ht he hs).run pins s σ H
    (fun v H' => ∃ A0 ns g', sScL it t tt f (own.map (·.2)) ρ g = .ok ns g' ∧ v = .ref A0 ∧ A0 ∉ Mu ∧ ¬ Oc H A0 ∧ Ext z H H' ∧ GOk z H' g' ∧ HasI X.w H' A0 ns) I
    (sc_read (fun v d σ H ρ ρ' Mu Q => (hg s H default [] []).ok v d σ H ρ ρ' Mu Q) hsub E G1 (R.all_imp (R.all_eq (R.all_bind hx)) (fun ns g1 ⟨q, _⟩ A0 H1 n1 n2 e1 G2 hh _ => ⟨A0, ns, g1, q, rfl, n1, n2, e1, G2, hh⟩) fun _ _ _ _ h => h))) fun u s1 ⟨v, H1, I1, r1, A0, ns, g1, q, ev, n1, n2, e1, G2, S, hA, hS⟩ => args_nil ?_) na) na rfl))
  subst ev
  cases r1
  have hx := R.all_bind hx
  rw [q] at hx
  obtain ⟨d', hd, hx⟩ := R.all_opt hx
  obtain ⟨h64, rfl⟩ := opt_if hd
  have m1 := E.mu.ext (g := g) e1 G2
  refine cr_sortedSet hX.calm pins s1 σ H1 [.ref A0] _ Q I1 (.cons rfl .nil) ⟨A0, S, _, rfl, hA, h64, fun ms p hr hm hl hp => ?_⟩
  have em : ms = riseL ns := rise_eq hr (riseL_pair ns) fun k => by rw [hm, hS, mem_riseL, decide_eq_true_eq]
  subst em
  exact hx _ _ (e1.trans (Ext.of (same_upd' hp))) (G2.same (same_upd' hp)) ((RK.lst m1 G2 hp (Reps.ints _)).back e1 G2)
end
end DL
set_option Elab.async false
set_option linter.all false
set_option maxRecDepth 100000
set_option maxHeartbeats 2000000
/-! The value layer, part 33: list(zip(a, b)) of two lists. -/
namespace DL
open PySem PySem.Spec PyProof.Rows L2
section
variable {prog : Program} {w : World} {A : Around} {E : Value → Shared → Prop} {s : Shared}
abbrev LObj (acc : Array Value) (c : Nat) : Obj := { cls := .type "list", dict := none, data := .seq acc c, slots := #[] }
/-- list(x), x its own iterator without a hint of its length; Nw: the new list -/
theorem call_list_by {T : String} {I : Addr} {Q : Value → Shared → Prop} (hT : s.TypeIs (.ref I) T) (hI : I < s.heap.objs.size) (hlen : typeLookup (.type T) "__len__" = pure none) (hhint : typeLookup (.type T) "__length_hint__" = pure none)
    (nl : (Value.type T == Value.type "list") = false) (nt : (Value.type T == Value.type "tuple") = false)
    (self : ∀ (A' : Around) (E' : Value → Shared → Prop) (Q' : Value → Shared → Prop) (h' : Heap), (∀ b o, s.heap.get? b = some o → h'.get? b = some o) → Q' (.ref I) { s with heap := h' } → wpAny (model prog w) A' (pyIter (.ref I)) Q' E' { s with heap := h' })
    (loop : ∀ (R : Result → Shared → Prop) (h' : Heap) (c : Nat), (∀ b o, s.heap.get? b = some o → h'.get? b = some o) → h'.get? s.heap.objs.size = some (LObj #[] c) → h'.objs.size = s.heap.objs.size + 1 →
      (∀ s', Q (.ref s.heap.objs.size) s' → R (.ok (.ret .none)) s') → codeAny (model prog w) A.in1 (.builtin "list.extend.loop" ⟨[.ref s.heap.objs.size, .ref I, .none], []⟩) R { s with heap := h' }) :
    wpAny (model prog w) A (call (.type "list") [.ref I]) Q E s := by
  generalize eN : s.heap.objs.size = Nw at *
  have hNI : Nw ≠ I := fun e => by rw [← e] at hI; exact Nat.lt_irrefl _ hI
  refine callType_codes (Q₁ := fun obj s₁ => obj = .ref Nw ∧ s₁ = { s with heap := s.heap.push { cls := .type "list", data := .seq #[] } }) PySem.F.called_list (PySem.F.typeCall_list_1 _) PySem.F.entry_list_init
    (code_list_new _ ⟨by rw [eN], rfl⟩) fun obj s₁ e₁ => ?_
  obtain ⟨rfl, rfl⟩ := e₁
  have g0 : (s.heap.push { cls := .type "list", data := .seq #[] }).get? Nw = some (LObj #[] 0) := by rw [← eN]; exact Heap.get?_push_size _ rfl
  have k0 : ∀ b o, s.heap.get? b = some o → (s.heap.push { cls := .type "list", data := .seq #[] }).get? b = some o := fun b o e => Heap.get?_push_of_some _ e
  have off : ∀ b o, s.heap.get? b = some o → b ≠ Nw := fun b o e q => by
    have := Heap.lt_size e
    rw [q, ← eN] at this
    exact Nat.lt_irrefl _ this
  refine ⟨⟨_, g0, rfl⟩, PySem.F.args_list_init_2 _ _, ?_⟩
  show wpAny _ A.in1.in1 (do let was ← Builtin.List.listItems (.ref Nw); Builtin.List.listUpdate (.ref Nw) (fun _ => #[]); letGo was.toList.reverse; Builtin.List.listExtendWith (.ref Nw) (.ref I) .none) _ _ _
  refine wpAny_bind ?_
  unfold Builtin.List.listItems
  refine wpAny_bind (wpAny_seqItems g0 rfl (wpAny_pure ?_))
  show wpAny _ A.in1.in1 (updateSeq Nw (fun _ => #[]) >>= fun _ => letGo (#[] : Array Value).toList.reverse >>= fun _ => Builtin.List.listExtendWith (.ref Nw) (.ref I) .none) _ _ _
  refine wpAny_bind (wpAny_updateSeq g0 rfl (wpAny_bind (wpAny_letGo ?_)))
  have g1 := Heap.get?_update_self (Obj.mapSeq (fun _ => (#[] : Array Value))) g0 rfl
  generalize eh1 : (s.heap.push { cls := .type "list", data := .seq #[] }).update Nw (Obj.mapSeq fun _ => (#[] : Array Value)) = h1 at g1 ⊢
  have k1 : ∀ b o, s.heap.get? b = some o → h1.get? b = some o := fun b o e => by
    rw [← eh1]
    exact (Heap.get?_update_other _ _ (Ne.symm (off b o e))).trans (k0 b o e)
  have z1 : h1.objs.size = Nw + 1 := by
    rw [← eh1, Heap.size_update, Heap.size_push, eN]
  have hT1 : ∀ h' : Heap, (∀ b o, s.heap.get? b = some o → h'.get? b = some o) → ({ s with heap := h' } : Shared).TypeIs (.ref I) T := fun h' k => by
    obtain ⟨o, e, c⟩ := hT
    exact ⟨o, k _ _ e, c⟩
  unfold Builtin.List.listExtendWith
  refine wpAny_bind (wpAny_typeOf (hT1 h1 k1) ?_)
  have ns : Builtin.List.listSameRef (.ref Nw) (.ref I) = false := by simp [Builtin.List.listSameRef, hNI]
  simp only [ns, nl, nt, Bool.or_false, Bool.false_eq_true, if_false]
  refine wpAny_bind (self _ _ _ h1 k1 (wpAny_bind (wpAny_holding ?_)))
  unfold Builtin.List.listLengthHint
  refine wpAny_bind (wpAny_specialOf (hT1 h1 k1) hlen ?_)
  show wpAny _ A.in1.in1 (specialOf (Value.ref I) (Str.ofString "__length_hint__") >>= _) _ _ _
  refine wpAny_bind (wpAny_specialOf (hT1 h1 k1) hhint (wpAny_pure ?_))
  show wpAny _ A.in1.in1 (rule "list.extend.makes-room" >>= fun _ => Builtin.List.listTouch (.ref Nw) >>= fun _ => again (.builtin "list.extend.loop" ⟨[.ref Nw, .ref I, .none], []⟩)) _ _ _
  refine wpAny_bind (wpAny_rule (wpAny_bind ?_))
  show wpAny _ A.in1.in1 (updateSeq Nw (·.push .none) >>= fun _ => updateSeq Nw (·.pop)) _ _ _
  refine wpAny_bind (wpAny_updateSeq g1 rfl ?_)
  have g2 := Heap.get?_update_self (Obj.mapSeq (·.push Value.none)) g1 rfl
  refine wpAny_updateSeq (hz := by seq_fits) g2 rfl ?_
  have g3 := Heap.get?_update_self (Obj.mapSeq (·.pop)) g2 rfl
  refine wpAny_pure ⟨plainId_quiet PySem.F.plain_extend_loop _, loop _ _ _ (fun b o e => ?_) g3 (by rw [Heap.size_update, Heap.size_update, z1]) fun s' q => ⟨rfl, q⟩⟩
  exact (Heap.get?_update_other _ _ (Ne.symm (off b o e))).trans ((Heap.get?_update_other _ _ (Ne.symm (off b o e))).trans (k1 b o e))
theorem zip_nolen : typeLookup (.type "zip") "__len__" = pure none := am_miss_of_fast (by decide +kernel)
theorem zip_nohint : typeLookup (.type "zip") "__length_hint__" = pure none := am_miss_of_fast (by decide +kernel)
/-- a zip of two lists, at its i-th turn, what it gave being kept -/
structure ZSt (z TI TO i1 i2 l1 l2 S : Addr) (xs ys : Array Value) (i : Nat) (h : Heap) : Prop where
  ti : IsPair h TI (.ref i1) (.ref i2)
  a1 : h.IsListIter i1 l1 i
  a2 : h.IsListIter i2 l2 i
  b1 : h.IsList l1 xs
  b2 : h.IsList l2 ys
  zo : (IsZip h z TI TO .none ∧ ∃ a b, IsPair h TO a b) ∨ ∃ T f oT, IsZipHeld h z TI TO T f ∧ h.get? T = some oT ∧ T ≠ z ∧ T ≠ i1 ∧ T ≠ i2 ∧ T ≠ S
structure ZOff (z TI TO i1 i2 l1 l2 S B : Addr) : Prop where
  ap : ZipApart z TI TO i1 i2 l1 l2
  sz : S ≠ z
  sTI : S ≠ TI
  sTO : S ≠ TO
  s1 : S ≠ i1
  s2 : S ≠ i2
  sl1 : S ≠ l1
  sl2 : S ≠ l2
  bz : z < B
  bTO : TO < B
  b1 : i1 < B
  b2 : i2 < B
  bS : S < B
/-- the pairs given so far -/
def ZAcc (xs ys acc : Array Value) (B : Addr) (i : Nat) (h : Heap) : Prop := acc.size = i ∧ (∀ (j : Nat) (v : Value), acc[j]? = some v → ∃ (T : Addr) (x y : Value), v = Value.ref T ∧ B ≤ T ∧ IsPair h T x y ∧ xs[j]? = some x ∧ ys[j]? = some y) ∧ ∀ (j j' : Nat) (v : Value), acc[j]? = some v → acc[j']? = some v → j = j'
theorem ZSt.keep {z TI TO i1 i2 l1 l2 S : Addr} {xs ys : Array Value} {i : Nat} {h h' : Heap} (st : ZSt z TI TO i1 i2 l1 l2 S xs ys i h) {B : Addr} (O : ZOff z TI TO i1 i2 l1 l2 S B) (k : ∀ b o, b ≠ S → h.get? b = some o → h'.get? b = some o) : ZSt z TI TO i1 i2 l1 l2 S xs ys i h' := by
  obtain ⟨h1, h2, h3, h4, h5, h6⟩ := st
  refine ⟨k _ _ (Ne.symm O.sTI) h1, h2.at fun o e => k _ o (Ne.symm O.s1) e, h3.at fun o e => k _ o (Ne.symm O.s2) e, h4.at fun o e => k _ o (Ne.symm O.sl1) e, h5.at fun o e => k _ o (Ne.symm O.sl2) e, ?_⟩
  rcases h6 with ⟨hz, a, b, hTO⟩ | ⟨T, f, oT, hz, hT, r1, r2, r3, r4⟩
  · exact .inl ⟨k _ _ (Ne.symm O.sz) hz, a, b, k _ _ (Ne.symm O.sTO) hTO⟩
  · exact .inr ⟨T, f, oT, k _ _ (Ne.symm O.sz) hz, k _ _ r4 hT, r1, r2, r3, r4⟩
theorem zip_item {z TI TO i1 i2 l1 l2 S B : Addr} {xs ys : Array Value} {i : Nat} {x y : Value} {Q : Option Value → Shared → Prop} (O : ZOff z TI TO i1 i2 l1 l2 S B) (st : ZSt z TI TO i1 i2 l1 l2 S xs ys i s.heap) (hB : B ≤ s.heap.objs.size) (ex : xs[i]? = some x) (ey : ys[i]? = some y)
    (q : ∀ h', ZSt z TI TO i1 i2 l1 l2 S xs ys (i + 1) h' → IsPair h' s.heap.objs.size x y → h'.objs.size = s.heap.objs.size + 1 → (∀ b o, b ≠ z → b ≠ TO → b ≠ i1 → b ≠ i2 → s.heap.get? b = some o → h'.get? b = some o) → Q (some (.ref s.heap.objs.size)) { s with heap := h' }) :
    wpAny (model prog w) A (pyNext (.ref z)) Q E s := by
  obtain ⟨h1, h2, h3, h4, h5, h6⟩ := st
  have D := O.ap
  have n0 : s.heap.objs.size ≠ z := Nat.ne_of_gt (Nat.lt_of_lt_of_le O.bz hB)
  have n1 : s.heap.objs.size ≠ i1 := Nat.ne_of_gt (Nat.lt_of_lt_of_le O.b1 hB)
  have n2 : s.heap.objs.size ≠ i2 := Nat.ne_of_gt (Nat.lt_of_lt_of_le O.b2 hB)
  have n3 : s.heap.objs.size ≠ S := Nat.ne_of_gt (Nat.lt_of_lt_of_le O.bS hB)
  rcases h6 with ⟨hz, a, b, hTO⟩ | ⟨T, f, oT, hz, hT, r1, r2, r3, r4⟩
  · refine wpAny_pyNext_zip_item D hz h1 hTO h2 h3 h4 h5 ex ey fun h' e1 e2 e3 e4 e5 e6 hk => ?_
    exact q h' ⟨hk _ _ D.TIz D.TITO D.TIi1 D.TIi2 h1, e3, e4, h4.at fun o e => hk _ o D.l1z D.l1TO D.l1i1 D.l1i2 e, h5.at fun o e => hk _ o D.l2z D.l2TO D.l2i1 D.l2i2 e, .inr ⟨_, false, _, e1, e5, n0, n1, n2, n3⟩⟩ e5 e6 hk
  · refine wpAny_pyNext_zip_item_held D hz hT h1 h2 h3 h4 h5 ex ey fun h' e1 e3 e4 e5 e6 hk => ?_
    exact q h' ⟨hk _ _ D.TIz D.TIi1 D.TIi2 h1, e3, e4, h4.at fun o e => hk _ o D.l1z D.l1i1 D.l1i2 e, h5.at fun o e => hk _ o D.l2z D.l2i1 D.l2i2 e, .inr ⟨T, true, oT, e1, hk _ _ r1 r2 r3 hT, r1, r2, r3, r4⟩⟩ e5 e6 fun b o w1 _ w3 w4 e => hk b o w1 w3 w4 e
theorem zip_end {z TI TO i1 i2 l1 l2 S B : Addr} {xs ys : Array Value} {i : Nat} {Q : Option Value → Shared → Prop} (hh : A.handled = none) (O : ZOff z TI TO i1 i2 l1 l2 S B) (st : ZSt z TI TO i1 i2 l1 l2 S xs ys i s.heap) (hend : xs[i]? = none ∨ ys[i]? = none)
    (q : ∀ h', (∀ b o, b ≠ z → b ≠ TO → b ≠ i1 → b ≠ i2 → s.heap.get? b = some o → h'.get? b = some o) → Q none { s with heap := h' }) : wpAny (model prog w) A (pyNext (.ref z)) Q E s := by
  obtain ⟨h1, h2, h3, h4, h5, h6⟩ := st
  rcases h6 with ⟨hz, a, b, hTO⟩ | ⟨T, f, oT, hz, hT, r1, r2, r3, r4⟩
  · exact wpAny_pyNext_zip_end hh O.ap hz h1 hTO h2 h3 h4 h5 hend fun h' hk => q h' hk
  · exact wpAny_pyNext_zip_end_held hh O.ap hz hT h1 h2 h3 h4 h5 hend fun h' hk => q h' fun b o w1 _ w3 w4 e => hk b o w1 w3 w4 e
theorem zip_loop {R : Result → Shared → Prop} {z TI TO i1 i2 l1 l2 S B : Addr} {xs ys : Array Value} (hh : A.handled = none) (O : ZOff z TI TO i1 i2 l1 l2 S B) (hn : xs.size ≤ sizeLine) (h0 : Heap) :
    ∀ (k i : Nat) (s : Shared) (acc : Array Value) (c : Nat), min xs.size ys.size - i = k → i ≤ min xs.size ys.size → ZSt z TI TO i1 i2 l1 l2 S xs ys i s.heap → s.heap.get? S = some (LObj acc c) → ZAcc xs ys acc B i s.heap → B ≤ s.heap.objs.size →
    (∀ b o, b ≠ z → b ≠ TO → b ≠ i1 → b ≠ i2 → b ≠ S → h0.get? b = some o → s.heap.get? b = some o) →
    (∀ h' acc' c', h'.get? S = some (LObj acc' c') → ZAcc xs ys acc' B (min xs.size ys.size) h' → (∀ b o, b ≠ z → b ≠ TO → b ≠ i1 → b ≠ i2 → b ≠ S → h0.get? b = some o → h'.get? b = some o) → R (.ok (.ret .none)) { s with heap := h' }) →
    codeAny (model prog w) A (.builtin "list.extend.loop" ⟨[.ref S, .ref z, .none], []⟩) R s
  | 0, i, s, acc, c, hk, hi, st, hS, hacc, hB, hold, hR => by
    have e : i = min xs.size ys.size := by omega
    subst e
    refine codeAny_builtin PySem.F.entry_extend_loop ?_
    rw [Around.under_plainId PySem.F.plain_extend_loop _]
    show wpAny _ A.in1 (pyNext (.ref z) >>= _) _ _ s
    have hend : xs[min xs.size ys.size]? = none ∨ ys[min xs.size ys.size]? = none := by
      by_cases hle : xs.size ≤ ys.size
      · exact .inl (Array.getElem?_eq_none (by omega))
      · exact .inr (Array.getElem?_eq_none (by omega))
    refine wpAny_bind (zip_end (A := A.in1) hh O st hend fun h' kp => wpAny_pure (hR h' acc c (kp _ _ O.sz O.sTO O.s1 O.s2 hS) ⟨hacc.1, fun j v e => ?_, hacc.2.2⟩ fun b o w1 w2 w3 w4 w5 e => kp b o w1 w2 w3 w4 (hold b o w1 w2 w3 w4 w5 e)))
    obtain ⟨T, x, y, rfl, hT, p, q1, q2⟩ := hacc.2.1 j v e
    exact ⟨T, x, y, rfl, hT, kp _ _ (Nat.ne_of_gt (Nat.lt_of_lt_of_le O.bz hT)) (Nat.ne_of_gt (Nat.lt_of_lt_of_le O.bTO hT)) (Nat.ne_of_gt (Nat.lt_of_lt_of_le O.b1 hT)) (Nat.ne_of_gt (Nat.lt_of_lt_of_le O.b2 hT)) p, q1, q2⟩
  | k + 1, i, s, acc, c, hk, hi, st, hS, hacc, hB, hold, hR => by
    have lx : i < xs.size := by omega
    have ly : i < ys.size := by omega
    refine codeAny_builtin PySem.F.entry_extend_loop ?_
    rw [Around.under_plainId PySem.F.plain_extend_loop _]
    show wpAny _ A.in1 (pyNext (.ref z) >>= _) _ _ s
    refine wpAny_bind (zip_item (A := A.in1) O st hB (Array.getElem?_eq_getElem lx) (Array.getElem?_eq_getElem ly) fun h' st' pT hsz kp => ?_)
    have hS' := kp _ _ O.sz O.sTO O.s1 O.s2 hS
    show wpAny _ A.in1 (updateSeq S (·.push (.ref s.heap.objs.size)) >>= _) _ _ _
    have hz : (acc.push (Value.ref s.heap.objs.size)).size ≤ sizeLine := by
      rw [Array.size_push, hacc.1]
      omega
    refine wpAny_bind (wpAny_updateSeq hS' rfl ?_ (by have := hacc.1; omega) (Nat.le_succ_of_le hz))
    have hS2 := Heap.get?_update_self (Obj.mapSeq (·.push (Value.ref s.heap.objs.size))) hS' rfl
    generalize eh2 : h'.update S (Obj.mapSeq (·.push (Value.ref s.heap.objs.size))) = h2 at hS2 ⊢
    have k2 : ∀ b o, b ≠ S → h'.get? b = some o → h2.get? b = some o := fun b o hb e => by
      rw [← eh2]
      exact (Heap.get?_update_other _ _ (Ne.symm hb)).trans e
    have z2 : h2.objs.size = s.heap.objs.size + 1 := by rw [← eh2, Heap.size_update, hsz]
    refine wpAny_pure ⟨plainId_quiet PySem.F.plain_extend_loop _, zip_loop hh O hn h0 k (i + 1) { s with heap := h2 } (acc.push (.ref s.heap.objs.size)) _ (by omega) (by omega) (st'.keep O k2) hS2 ⟨by rw [Array.size_push, hacc.1], fun j v e => ?_, fun j j' v e e' => ?_⟩ (by show B ≤ h2.objs.size; rw [z2]; exact Nat.le_succ_of_le hB) (fun b o w1 w2 w3 w4 w5 e => k2 b o w5 (kp b o w1 w2 w3 w4 (hold b o w1 w2 w3 w4 w5 e))) fun h'' acc' c' g1 g2 g3 => hR h'' acc' c' g1 g2 g3⟩
    · rw [Array.getElem?_push] at e
      split at e
      · rename_i ej
        cases e
        rw [hacc.1] at ej
        subst ej
        exact ⟨_, _, _, rfl, hB, k2 _ _ (Nat.ne_of_gt (Nat.lt_of_lt_of_le O.bS hB)) pT, Array.getElem?_eq_getElem lx, Array.getElem?_eq_getElem ly⟩
      · obtain ⟨T, x, y, rfl, hT, p, q1, q2⟩ := hacc.2.1 j v e
        exact ⟨T, x, y, rfl, hT, k2 _ _ (Nat.ne_of_gt (Nat.lt_of_lt_of_le O.bS hT)) (kp _ _ (Nat.ne_of_gt (Nat.lt_of_lt_of_le O.bz hT)) (Nat.ne_of_gt (Nat.lt_of_lt_of_le O.bTO hT)) (Nat.ne_of_gt (Nat.lt_of_lt_of_le O.b1 hT)) (Nat.ne_of_gt (Nat.lt_of_lt_of_le O.b2 hT)) p), q1, q2⟩
    · have fresh : ∀ j, acc[j]? = some (Value.ref s.heap.objs.size) → False := fun j q => by
        obtain ⟨T, x, y, eT, _, p, _⟩ := hacc.2.1 j _ q
        cases eT
        exact absurd (Heap.lt_size p) (Nat.lt_irrefl _)
      rw [Array.getElem?_push] at e e'
      split at e
      · rename_i ej
        cases e
        split at e'
        · rename_i ej'
          omega
        · exact (fresh _ e').elim
      · split at e'
        · cases e'
          exact (fresh _ e).elim
        · exact hacc.2.2 j j' v e e'
end

def fZipL : List D → Option D
  | [.lst a, .lst b] => some (.lst ((a.zip b).map fun p => .tup [p.1, p.2]))
  | _ => none
section
variable {X : Cx} {z : Zt} {W : WX} {a b : Expr} {fs : Es} {p p2 q pos : Pos}
theorem vals_get' : ∀ {xs : List V} {us : List Value} {i : Nat} {u : Value}, Vals xs us → us[i]? = some u → ∃ x, xs[i]? = some x ∧ RelV x u
  | _, _, _, _, .nil, e => by simp at e
  | _, _, 0, _, .cons r _, e => ⟨_, rfl, by simpa using (Option.some.inj e) ▸ r⟩
  | _, _, i + 1, _, .cons _ t, e => vals_get' (i := i) t (by simpa using e)
/-- the address at which an item stands -/
def adr : Value → Addr
  | .ref a => a
  | _ => 0
theorem reps_pairs {K : PySem.W.Frag} {mg : Str → Option Value} {Mu : List Addr} {H : Hp} : ∀ {vx vy : List V} {dx dy : List D} {L : List Addr}, Reps K mg z Mu H vx dx → Reps K mg z Mu H vy dy → L.length = min vx.length vy.length →
    (∀ (j : Nat) (a : Addr), L[j]? = some a → a ∉ Mu ∧ ∃ x y, vx[j]? = some x ∧ vy[j]? = some y ∧ H a = some (.tup [x, y])) → Reps K mg z Mu H (L.map V.ref) ((dx.zip dy).map fun p => D.tup [p.1, p.2])
  | [], vy, [], dy, L, .nil, _, hl, _ => by
    have : L = [] := List.length_eq_zero_iff.mp (by rw [hl]; exact Nat.zero_min _)
    subst this
    exact .nil
  | x :: vx, [], d :: dx, [], L, .cons _ _, .nil, hl, _ => by
    have : L = [] := List.length_eq_zero_iff.mp (by rw [hl]; exact Nat.min_zero _)
    subst this
    exact .nil
  | x :: vx, y :: vy, d :: dx, e :: dy, [], .cons _ _, .cons _ _, hl, _ => by
    simp only [List.length_cons, List.length_nil] at hl
    omega
  | x :: vx, y :: vy, d :: dx, e :: dy, a :: L, .cons r1 t1, .cons r2 t2, hl, h => by
    obtain ⟨na, x', y', e1, e2, e3⟩ := h 0 a rfl
    cases e1
    cases e2
    refine .cons (.tup na e3 (.cons r1 (.cons r2 .nil))) (reps_pairs t1 t2 (by simp only [List.length_cons] at hl; omega) fun j a ha => ?_)
    exact h (j + 1) a ha
theorem RK.box {K : PySem.W.Frag} {mg : Str → Option Value} {Mu : List Addr} {H H' : Hp} {v : V} {d : D} (h : d.box = true) (c : ∃ a, v = .ref a ∧ ¬ Oc H a ∧ Cont K mg z (a :: Mu) H' a d) : RK K mg z .new H Mu H' v d := by
  unfold RK
  rw [if_pos h]
  exact c
theorem de_listZip (hX : XG X) (hg : Gl X "list") (hm : X.mg "list" = none) (hg2 : Gl X "zip") (hm2 : X.mg "zip" = none) (ha : DA X z W [a, b] fs)
    (n2 : starEach [a, b] X.env = (false, eval a X.env) :: starEach [b] X.env := by rfl) (np : (backTo q (starEach [b] X.env)).any (·.1) = false := by rfl)
    (na : starEach [Expr.Call (.Name "zip" p2) [a, b] [] q] X.env = (false, eval (Expr.Call (.Name "zip" p2) [a, b] [] q) X.env) :: starEach [] X.env := by rfl) :
    DE X z W .new (.Call (.Name "list" p) [.Call (.Name "zip" p2) [a, b] [] q] [] pos) (eCall fZipL fs) := by
  refine ⟨fun pins s σ H Q I ⟨ρ, g, Mu, E, G1, hx⟩ => Call_ (ld_blt I hg hm boot_list (callWith_type1 (args_cons (Call_ (ld_blt I hg2 hm2 boot_zip (callWith_type1 (da_run ha I E G1 (R.all_imp (R.all_bind hx) (fun ds g1 hx vs us H1 s1 I1 r1 e1 G2 E1 k1 => ?_) fun _ _ _ _ h => h)) n2 np))) na) na rfl))⟩
  obtain ⟨d', hd, hx⟩ := R.all_opt hx
  unfold fZipL at hd
  split at hd
  case h_2 => cases hd
  rename_i da db
  cases hd
  obtain ⟨v1, v2, rfl, pr1, pr2⟩ := k1.two
  obtain ⟨l1, vx, rfl, hl1, rx⟩ := pr1.lst
  obtain ⟨l2, vy, rfl, hl2, ry⟩ := pr2.lst
  obtain ⟨u1, u2, rfl, ru1, ru2⟩ := vals2 r1
  cases ru1
  cases ru2
  obtain ⟨xs, rv1, pl1, hz1⟩ := I1.list (SqL.of hl1)
  obtain ⟨ys, rv2, pl2, hz2⟩ := I1.list (SqL.of hl2)
  refine call_zip_2 pl1.isList pl2.isList fun h1 hz hTI hTO hi1 hi2 hsz hk => args_nil ?_
  generalize eB : s1.heap.objs.size = N0 at hz hTI hTO hi1 hi2 hsz ⊢
  have ap := PySem.W.ktu_apart N0 l1 l2 (by rw [← eB]; exact pl1.lt) (by rw [← eB]; exact pl2.lt)
  have lt1 : l1 < N0 := by rw [← eB]; exact pl1.lt
  have lt2 : l2 < N0 := by rw [← eB]; exact pl2.lt
  have old : ∀ b o, s1.heap.get? b = some o → b < N0 := fun b o e => by rw [← eB]; exact Heap.lt_size e
  refine call_list_by (T := "zip") ⟨_, hz, rfl⟩ (by show N0 + 4 < h1.objs.size; omega) zip_nolen zip_nohint (by decide) (by decide) (fun A' E' Q' h' kp q => wpAny_pyIter_zip (kp _ _ hz) q) fun Rr h2 c kp g0 hs2 hR => ?_
  have hs2 : h2.objs.size = N0 + 6 := by rw [hs2, show ({ s1 with heap := h1 } : Shared).heap.objs.size = h1.objs.size from rfl, hsz]
  have hS : ({ s1 with heap := h1 } : Shared).heap.objs.size = N0 + 5 := hsz
  rw [hS] at g0 hR ⊢
  have kp : ∀ b o, h1.get? b = some o → h2.get? b = some o := kp
  have O : ZOff (N0 + 4) (N0 + 2) (N0 + 3) N0 (N0 + 1) l1 l2 (N0 + 5) (N0 + 6) :=
    ⟨ap, by show N0 + 5 ≠ N0 + 4; omega, by show N0 + 5 ≠ N0 + 2; omega, by show N0 + 5 ≠ N0 + 3; omega, by show N0 + 5 ≠ N0; omega, by show N0 + 5 ≠ N0 + 1; omega, Nat.ne_of_gt (Nat.lt_of_lt_of_le lt1 (Nat.le_add_right _ _)), Nat.ne_of_gt (Nat.lt_of_lt_of_le lt2 (Nat.le_add_right _ _)), by show N0 + 4 < N0 + 6; omega, by show N0 + 3 < N0 + 6; omega, by show N0 < N0 + 6; omega, by show N0 + 1 < N0 + 6; omega, by show N0 + 5 < N0 + 6; omega⟩
  refine zip_loop (xs := xs.toArray) (ys := ys.toArray) (by exact I1.ok.hd hX.calm) O (by rw [List.size_toArray, ← rv1.length]; exact hz1) s1.heap _ 0 { s1 with heap := h2 } #[] c rfl (Nat.zero_le _)
    ⟨kp _ _ hTI, hi1.at fun o e => kp _ _ e, hi2.at fun o e => kp _ _ e, pl1.isList.at fun o e => kp _ _ (hk _ _ e), pl2.isList.at fun o e => kp _ _ (hk _ _ e), .inl ⟨kp _ _ hz, _, _, kp _ _ hTO⟩⟩ g0
    ⟨rfl, fun j v e => by simp at e, fun j j' v e => by simp at e⟩ (by show N0 + 6 ≤ h2.objs.size; omega) (fun b o _ _ _ _ _ e => kp _ _ (hk _ _ e)) fun h3 acc c3 g3 hacc hold => hR _ ?_
  have k3 : ∀ b o, s1.heap.get? b = some o → h3.get? b = some o := fun b o e => by
    have lt := old b o e
    exact hold b o (Nat.ne_of_lt (Nat.lt_of_lt_of_le lt (Nat.le_add_right _ _))) (Nat.ne_of_lt (Nat.lt_of_lt_of_le lt (Nat.le_add_right _ _))) (Nat.ne_of_lt lt) (Nat.ne_of_lt (Nat.lt_of_lt_of_le lt (Nat.le_add_right _ _))) (Nat.ne_of_lt (Nat.lt_of_lt_of_le lt (Nat.le_add_right _ _))) e
  have I3 : Inv X pins σ H1 { s1 with heap := h3, toks := s1.toks } := I1.kept (t' := s1.toks) k3
  obtain ⟨hal, hac, hai⟩ := hacc
  let L : List Addr := acc.toList.map adr
  have getL : ∀ (j : Nat) (a : Addr), L[j]? = some a → ∃ x y, acc[j]? = some (Value.ref a) ∧ N0 + 6 ≤ a ∧ IsPair h3 a x y ∧ xs[j]? = some x ∧ ys[j]? = some y := fun j a e => by
    rw [List.getElem?_map, Array.getElem?_toList] at e
    obtain ⟨v, ev, ea⟩ := Option.map_eq_some_iff.mp e
    obtain ⟨T, x, y, rfl, hT, pp, q1, q2⟩ := hac j v ev
    cases ea
    exact ⟨x, y, ev, hT, pp, by simpa using q1, by simpa using q2⟩
  have lenL : L.length = min vx.length vy.length := by
    show (acc.toList.map adr).length = _
    rw [List.length_map, Array.length_toList, hal, List.size_toArray, List.size_toArray, rv1.length, rv2.length]
  have ndL : L.Nodup := by
    refine List.pairwise_iff_getElem.mpr fun i j hi hj hij e => ?_
    obtain ⟨_, _, e1, _⟩ := getL i _ (List.getElem?_eq_getElem hi)
    obtain ⟨_, _, e2, _⟩ := getL j _ (List.getElem?_eq_getElem hj)
    rw [← e] at e2
    have := hai i j _ e1 e2
    omega
  have accL : acc.toList = L.map Value.ref := by
    apply List.ext_getElem?
    intro j
    rw [List.getElem?_map]
    cases e : L[j]? with
    | some a =>
      obtain ⟨_, _, e1, _⟩ := getL j a e
      rw [Array.getElem?_toList, e1]
      rfl
    | none =>
      have h := List.getElem?_eq_none_iff.mp e
      rw [List.getElem?_eq_none (by rw [Array.length_toList]; have : L.length = acc.size := by { show (acc.toList.map adr).length = _; rw [List.length_map, Array.length_toList] }; omega)]
      rfl
  have nS : H1 (N0 + 5) = none := I1.hok.fresh (by rw [eB]; exact Nat.le_add_right _ _)
  have I4 : Inv X pins σ (upd H1 (N0 + 5) (.lst (L.map V.ref))) { s1 with heap := h3, toks := s1.toks } := I3.take (h' := h3) (t' := s1.toks) (fun b ob _ e => e) (I1.fpOk (by rw [eB]; exact Nat.le_add_right _ _) nS) ⟨by
    rw [List.length_map, lenL]
    omega, acc.toList, c3, by
    rw [accL]
    generalize L = M
    induction M with
    | nil => exact .nil
    | cons a M ih => exact .cons rfl ih, g3⟩
  obtain ⟨H2, I5, up, tk⟩ := L2.DX.takeT (P := fun a vs => ∃ (j : Nat) (x y : V), L[j]? = some a ∧ vs = [x, y] ∧ vx[j]? = some x ∧ vy[j]? = some y) I1 L _ I4 ndL fun a ha => by
    obtain ⟨j, hj⟩ := List.mem_iff_getElem?.mp ha
    obtain ⟨x, y, _, hT, pp, q1, q2⟩ := getL j a hj
    obtain ⟨x', f1, rx'⟩ := vals_get' rv1 q1
    obtain ⟨y', f2, ry'⟩ := vals_get' rv2 q2
    refine ⟨by rw [eB]; exact Nat.le_trans (Nat.le_add_right _ _) hT, ?_, [x', y'], ⟨j, x', y', hj, rfl, f1, f2⟩, fun H2 => ?_⟩
    · rw [upd_ne (Nat.ne_of_gt (Nat.lt_of_lt_of_le (Nat.lt_succ_self (N0 + 5)) hT))]
      exact I1.hok.fresh (by rw [eB]; exact Nat.le_trans (Nat.le_add_right _ _) hT)
    · exact ⟨by show 2 ≤ sizeLine; rw [sizeLine_eq]; decide, [x, y], .cons rx' (.cons ry' .nil), ⟨_, pp, rfl, _, rfl⟩⟩
  have hS2 : H2 (N0 + 5) = some (.lst (L.map V.ref)) := up _ _ upd_same
  have sm : Same H1 H2 := fun b o e => up b o (by rw [upd_ne (fun w => by rw [w, nS] at e; cases e)]; exact e)
  have G3 := G2.same sm
  have freshA : ∀ a, s1.heap.objs.size ≤ a → a ∉ Mu := fun a ha => E1.mu.new (I1.hok.fresh ha)
  have m3 : EnvOk X.K X.mg z Mu H2 σ ρ := E1.ext G2 (Ext.of sm) G3
  refine ⟨.ref (N0 + 5), H2, I5, rfl, hx _ H2 (e1.trans (Ext.of sm)) G3 (RK.back (H1 := H1) ?_ e1 G2)⟩
  refine RK.box rfl ?_
  have oS := oc_none nS
  refine ⟨_, rfl, oS, .lst hS2 (reps_pairs (rx.more E1.mu G2 (Ext.of sm) oS) (ry.more E1.mu G2 (Ext.of sm) oS) lenL fun j a e => ?_)⟩
  obtain ⟨x0, y0, ea, hT, _⟩ := getL j a e
  refine ⟨fun w => ?_, ?_⟩
  · rcases List.mem_cons.mp w with w | w
    · subst w
      exact absurd hT (by show ¬ N0 + 6 ≤ N0 + 5; omega)
    · exact freshA a (by rw [eB]; exact Nat.le_trans (Nat.le_add_right _ _) hT) w
  · obtain ⟨vs, ⟨j', x, y, ej, rfl, f1, f2⟩, hH⟩ := tk a (List.mem_of_getElem? e)
    obtain ⟨_, _, ea', _⟩ := getL j' a ej
    have := hai j j' _ ea ea'
    subst this
    exact ⟨x, y, f1, f2, hH⟩
end
end DL
set_option Elab.async false
set_option linter.all false
set_option maxRecDepth 100000
set_option maxHeartbeats 2000000
/-! The value layer, part 34: enumerate of lists and tuples. -/
namespace DL
open PySem PySem.Spec PyProof.Rows L2
open PySem (Meets)
theorem new_enumT (l : Addr) (its : Array Value) :
    Meets (Builtin.«enumerate.__new__» ⟨[.type "enumerate", .ref l], []⟩) (fun _ R s => s.heap.IsTuple l its ∧
      R (.ok (.ret (.ref (s.heap.push { cls := .type "tuple_iterator", data := .fields #[.ref l, .int 0 0] }).objs.size)))
        { s with heap := (s.heap.push { cls := .type "tuple_iterator", data := .fields #[.ref l, .int 0 0] }).push { cls := .type "enumerate", data := .fields #[.none, .bool false, .ref s.heap.objs.size, rawInt 0, .none, .none] } }) :=
  .of_wp fun prog w A R s ⟨ht, hr⟩ => by
    obtain ⟨hp, g, d, tk, os⟩ := s
    have sube := sub_enumerate
    have ht' : Heap.IsTuple (Shared.heap ⟨hp, g, d, tk, os⟩) l its := ht
    wp_walk using wpAny_pyIter_tuple ht'
    refine wpAny_stack_any fun st => wpAny_pure ?_
    split
    · rename_i c _ _ _ _ _
      cases (c == Value.type "enumerate") <;>
      · wp_walk using wpAny_pyIter_tuple ht'
        exact ⟨_, rfl, hr⟩
    · wp_walk using wpAny_pyIter_tuple ht'
      exact ⟨_, rfl, hr⟩
theorem call_enumT {prog : Program} {w : World} {A : Around} {E : Value → Shared → Prop} {s : Shared} {l : Addr} {its : Array Value} {Q : Value → Shared → Prop} (ht : s.heap.IsTuple l its)
    (q : ∀ h', IsEnum h' (s.heap.objs.size + 1) s.heap.objs.size 0 .none → h'.IsTupleIter s.heap.objs.size l 0 → (∀ b o, s.heap.get? b = some o → h'.get? b = some o) → Q (.ref (s.heap.objs.size + 1)) { s with heap := h' }) :
    wpAny (model prog w) A (call (.type "enumerate") [.ref l]) Q E s := by
  refine callType_new F.called_enumerate (by decide) (F.typeCall_enumerate_1 _) (F.newCall_enumerate_1 _) (fun obj => F.args_object_init_2 obj _) F.entry_enumerate_new (new_enumT l its) ⟨ht, ?_⟩
  have sz : (s.heap.push { cls := .type "tuple_iterator", data := .fields #[.ref l, .int 0 0] }).objs.size = s.heap.objs.size + 1 := Heap.size_push ..
  have e0 := Heap.get?_push_size (s.heap.push { cls := .type "tuple_iterator", data := .fields #[.ref l, .int 0 0] }) (o := { cls := .type "enumerate", data := .fields #[.none, .bool false, .ref s.heap.objs.size, rawInt 0, .none, .none] }) rfl
  rw [sz] at e0
  show _ ∧ _
  rw [sz]
  exact ⟨⟨_, e0, rfl⟩, q _ e0 ⟨_, Heap.get?_push_of_some _ (Heap.get?_push_size _ rfl), rfl, rfl⟩ fun b o x => Heap.get?_push_of_some _ (Heap.get?_push_of_some _ x)⟩
/-- the row at each turn, each item in a new pair -/
def IteG (S : Hp → List V → Prop) : It :=
  ⟨fun i H => ∃ (xs : List V) (x : V), S H xs ∧ xs[i]? = some x, fun i H v H' => ∃ T x, v = .ref T ∧ H T = none ∧ H' = upd H T (.tup [.int (i : Nat), x]) ∧ ∀ xs, S H xs → xs[i]? = some x, fun i H => ∃ xs : List V, S H xs ∧ xs.length ≤ i⟩
theorem turn_enumT {P : Program} {w : World} {K : PySem.W.Frag} {elts : List Expr} {kk : Nat} {tpos : Pos} (a e it : Addr) (hea : a ≠ e) (hia : a ≠ it) :
    Turn P w K (.Tuple elts kk tpos) (IteG fun H xs => SqT K H a xs) [e, it] e (fun i h => (∃ old, IsEnum h e it ((i : Nat) : Int) old) ∧ h.IsTupleIter it a i ∧ e ≠ it) where
  mem := by simp
  obj := fun i h st b hb => by
    obtain ⟨⟨old, he⟩, ⟨o, ho, hc, hd⟩, _⟩ := st
    rcases List.mem_cons.mp hb with q | q
    · rw [q]
      exact ⟨_, he, fun v q => nomatch q⟩
    · rw [List.mem_singleton.mp q]
      exact ⟨o, ho, fun v q => by rw [hd] at q; cases q⟩
  keep := fun i h h' ⟨⟨old, he⟩, hi, hne⟩ k => ⟨⟨old, k e (by simp) _ he⟩, hi.at fun o q => k it (by simp) o q, hne⟩
  item := by
    intro X hP hw hK calm i pins s σ H E I hf ⟨⟨old, he⟩, hit, hne⟩ ⟨xs, x, hq, hx⟩
    subst hP hw hK
    obtain ⟨its, rv, p, hz⟩ := I.tuple hq
    obtain ⟨u, hu, ru⟩ := rv.get hx
    have pt : s.heap.IsTuple a its.toArray := p
    have lte : e < s.heap.objs.size := Heap.lt_size he
    have lti : it < s.heap.objs.size := by
      obtain ⟨_, q, _⟩ := hit
      exact Heap.lt_size q
    have D := Draws.tuple (prog := X.prog) (w := X.w) (A := X.A.in1) (by exact I.ok.hd calm) it a hia its.toArray
    have lt : i < its.toArray.size := by
      rw [List.size_toArray, ← rv.length]
      exact (List.getElem?_eq_some_iff.mp hx).1
    refine wpAny_pyNext_enum_itemC D he ⟨hit, pt⟩ lt hne (by simp [hne, Ne.symm hea]) fun y h' tk hy ho st' hT hsz hk => ?_
    have ey : y = u := by
      have hu' : its.toArray[i]? = some u := by simpa using hu
      rw [hu'] at hy
      exact (Option.some.inj hy).symm
    subst ey
    refine ⟨_, rfl, wpAny_letOwnedTupleGo_enum (s := { s with heap := h', toks := tk + 1 }) ho fun h2 he2 sb => ?_⟩
    have hT2 : h2.get? s.heap.objs.size = some { cls := .type "tuple", data := .seq #[.int i tk, y] } := (sb.2 _ (Nat.ne_of_gt lte)).trans hT
    have nw : ObjOk X.prog X.w (upd H s.heap.objs.size (.tup [.int (i : Nat), x])) h2 s.heap.objs.size (.tup [.int (i : Nat), x]) :=
      ⟨by show 2 ≤ sizeLine; decide, [.int i tk, y], .cons ⟨_, rfl⟩ (.cons ru .nil), ⟨_, hT2, rfl, _, rfl⟩⟩
    have I1 : Inv X pins σ (upd H s.heap.objs.size (.tup [.int (i : Nat), x])) { s with heap := h2, toks := tk + 1 } :=
      I.turnedNew (ch := [e, it]) (fun b ob hb q => (sb.2 b (fun w => hb (by simp [w]))).trans (hk b ob (fun w => hb (by simp [w])) (fun w => hb (by simp [w])) q)) hf (Nat.le_refl _) nw
    refine ⟨.ref s.heap.objs.size, _, I1, rfl, ⟨_, x, rfl, I.hok.fresh (Nat.le_refl _), rfl, fun ys hy => by rw [I.tuple_inj hy hq]; exact hx⟩, ⟨⟨y, ?_⟩, st'.1.at fun o q => (sb.2 it (Ne.symm hne)).trans q, hne⟩, fun b hb => ?_⟩
    · rw [show ((i + 1 : Nat) : Int) = (i : Int) + 1 by omega]
      exact he2
    · have lb : b < s.heap.objs.size := by
        rcases List.mem_cons.mp hb with q | q
        · rw [q]; exact lte
        · rw [List.mem_singleton.mp q]; exact lti
      rw [upd_ne (Nat.ne_of_lt lb)]
      exact (hf b hb).1
  done := by
    intro X hP hw hK calm i pins s σ H E I hf ⟨⟨old, he⟩, hit, hne⟩ ⟨xs, hq, hx⟩
    subst hP hw hK
    obtain ⟨its, rv, p, hz⟩ := I.tuple hq
    have pt : s.heap.IsTuple a its.toArray := p
    have hl := rv.length
    have D := Draws.tuple (prog := X.prog) (w := X.w) (A := X.A.in1) (by exact I.ok.hd calm) it a hia its.toArray
    obtain ⟨f0, f1, f2, f3, f4, f5⟩ := hf it (by simp)
    have hT : s.TypeIs (.ref e) "enumerate" := ⟨_, he, rfl⟩
    unfold pyNext
    refine wpAny_bind (wpAny_attempt (wpAny_callSpecial?_slot (name := Str.ofString "__next__") hT F.slot_enumerate_next (wpAny_call_entry F.slot_enumerate_next hT F.entry_enumerate_next ?_ (F.args_enumerate_next_1 _))))
    show wpAny _ _ (field (.ref e) 2 >>= _) _ _ _
    refine wpAny_bind (wpAny_field he rfl (x := .ref it) rfl ?_)
    refine wpAny_bind (RZ.nextOf_tuple_end (by exact I.ok.hd calm) hit pt (by simp; omega) fun h' x eb hx' => ?_)
    obtain ⟨o, ho, hc⟩ := hx'
    refine wpAny_bind (wpAny_isInstance (T := "StopIteration") (b := true) ⟨o, ho, hc⟩ isSubtype_stop ?_)
    exact wpAny_pure ⟨rfl, I.turned (t' := s.toks) (fun b o hb q => eb b o hb q) f0 f1 f3 f4 f5⟩
  self := fun A i s Q E ⟨⟨_, he⟩, _⟩ h => wpAny_pyIter_enum he h
def sEnumU (f : Ep) : Es := fun ρ => do
  let d ← f ρ
  match d with
  | .lst l => M.pure (enumD l)
  | .tup l => M.pure (enumD l)
  | _ => stuck
theorem all_enumU {d : D} {P : List D → G → Prop} {E : Str → Str → List D → G → Prop} {g : G} (h : ((match d with | .lst l => M.pure (enumD l) | .tup l => M.pure (enumD l) | _ => stuck : M (List D)) g).all P E) : ∃ l, (d = .lst l ∨ d = .tup l) ∧ P (enumD l) g := by
  cases d <;> first | exact h.elim | exact ⟨_, .inl rfl, h⟩ | exact ⟨_, .inr rfl, h⟩
theorem yields_enum {K : PySem.W.Frag} {mg : Str → Option Value} {z : Zt} {pk : Bool} {Mu : List Addr} {H1 : Hp} {S : Hp → List V → Prop} {xs : List V} {l : List D} (m1 : MuOk z Mu H1) (rx : Reps K mg z Mu H1 xs l) (st : ∀ H3, ExtM (if pk = true then [z.p, z.l] else Mu) H1 H3 → S H3 xs) :
    Yields K mg z (if pk = true then [z.p, z.l] else Mu) Mu (IteG S) H1 (enumD l) := by
  intro H3 ex i
  have q1 := st H3 ex
  have em : ∀ {M2 : List Addr}, (∀ b, Oc H1 b → b ∉ Mu → b ∉ M2) → ∀ (v : V) (d : D), Rep K mg z Mu H1 v d → Rep K mg z M2 H3 v d := fun hm v d r => Rep.mono (fun b u q t n => ex b u q t (fun w => n (nu_sub m1 b w))) hm r
  refine ⟨fun d hd => ?_, fun hi => ⟨xs, q1, by unfold enumD at hi; rw [List.length_map, List.length_zipIdx] at hi; rw [rx.length]; exact hi⟩⟩
  unfold enumD at hd
  rw [List.getElem?_map] at hd
  obtain ⟨⟨x, j⟩, hj, rfl⟩ := Option.map_eq_some_iff.mp hd
  rw [List.getElem?_zipIdx] at hj
  obtain ⟨x', hx', ej⟩ := Option.map_eq_some_iff.mp hj
  cases ej
  obtain ⟨v, hv, rv⟩ := rx.get' hx'
  refine ⟨⟨xs, v, q1, hv⟩, fun u H4 hu => ?_⟩
  obtain ⟨T, v', rfl, hT, rfl, hv'⟩ := hu
  have e' := hv' xs q1
  rw [hv] at e'
  cases e'
  refine ⟨same_upd' hT, fun M2 hm ho => ?_⟩
  have nT : T ∉ M2 := fun w => by
    obtain ⟨u, q, _⟩ := ho T w
    rw [hT] at q
    cases q
  have up : ∀ (w : V) (d' : D), Rep K mg z M2 H3 w d' → Rep K mg z M2 (upd H3 T (.tup [.int (i : Nat), v])) w d' := fun w d' r => Rep.mono (fun b u q _ _ => same_upd' hT b u q) (fun _ _ h => h) r
  refine .tup nT upd_same (.cons ?_ (.cons (up _ _ (em hm _ _ rv)) .nil))
  rw [show ((0 + i : Nat) : Int) = (i : Int) by omega]
  exact .int _
section
variable {X : Cx} {z : Zt} {W : WX} {pk : Bool} {a : Expr} {fa : Ep} {p pos tpos : Pos} {elts : List Expr} {kk : Nat}
theorem di_enumU (hg : Gl X "enumerate") (hm : X.mg "enumerate" = none) (ha : DE X z W (if pk = true then .peek else .sh) a fa) (hs : starEach [a] X.env = (false, eval a X.env) :: starEach [] X.env := by rfl) :
    DI X z W pk (.Tuple elts kk tpos) (.Call (.Name "enumerate" p) [a] [] pos) (sEnumU fa) := by
  refine ⟨fun pins s σ H Rr I ⟨ρ, g, Mu, E, G1, hx⟩ => ?_⟩
  refine Call_ (ld_blt I hg hm boot_enumerate (callWith_type1 (args_cons (de_run ha I E G1 (R.all_imp (R.all_bind hx) (fun d g1 hx v u H1 s1 I1 r1 e1 G2 E1 k1 => args_nil ?_) fun _ _ _ _ h => h)) hs) hs rfl))
  obtain ⟨l, hd, hx⟩ := all_enumU hx
  have m1 := E1.mu
  obtain ⟨a1, xs, rfl, n1, c1, rx⟩ := seq_view (l := l) m1 k1 hd
  cases r1
  have fp2 : ∀ b ∈ [s1.heap.objs.size + 1, s1.heap.objs.size], FpOk X pins H1 b := fun b hb => by
    have le : s1.heap.objs.size ≤ b := by
      rcases List.mem_cons.mp hb with q | q
      · rw [q]; exact Nat.le_add_right _ _
      · rw [List.mem_singleton.mp q]; exact Nat.le_refl _
    exact I1.fpOk le (I1.hok.fresh le)
  rcases c1 with ⟨_, h1⟩ | ⟨_, h1⟩
  · obtain ⟨its, rv, pl, _⟩ := I1.list (SqL.of h1)
    refine call_enumerate_list pl.isList fun h' he hit _ hk => wpAny_pyIter_enum he ?_
    exact ⟨_, _, _, _, H1, rfl, I1.kept (t' := s1.toks) hk, turn_enum a1 (s1.heap.objs.size + 1) s1.heap.objs.size, ⟨⟨.none, he⟩, hit, Nat.succ_ne_self _⟩, fp2, hx _ H1 e1 G2 (yields_enum (S := fun H xs => SqL X.K H a1 xs) m1 rx fun H3 ex => SqL.of (ex _ _ h1 trivial n1))⟩
  · obtain ⟨its, rv, pt, _⟩ := I1.tuple (SqT.of h1)
    have la : a1 < s1.heap.objs.size := by
      obtain ⟨o, ho, _⟩ := id pt
      exact Heap.lt_size ho
    refine call_enumT (show s1.heap.IsTuple a1 its.toArray from pt) fun h' he hit hk => wpAny_pyIter_enum he ?_
    exact ⟨_, _, _, _, H1, rfl, I1.kept (t' := s1.toks) hk, turn_enumT a1 (s1.heap.objs.size + 1) s1.heap.objs.size (Nat.ne_of_lt (Nat.lt_succ_of_lt la)) (Nat.ne_of_lt la), ⟨⟨.none, he⟩, hit, Nat.succ_ne_self _⟩, fp2, hx _ H1 e1 G2 (yields_enum (S := fun H xs => SqT X.K H a1 xs) m1 rx fun H3 ex => SqT.of (ex _ _ h1 trivial n1))⟩
end
end DL
set_option Elab.async false
set_option linter.all false
set_option maxRecDepth 100000
set_option maxHeartbeats 2000000
/-! The value layer, part 35: y = {..} on one line; max, min of lists and tuples. -/
namespace DL
open PySem PySem.Spec PyProof.Rows L2
section
variable {X : Cx} {elt tg iter c : Expr} {ifs : List Expr} {scope : Scope} {own : List (Str × Nat)} {pos : Pos} {it : Es} {gt : TG} {t : D → Env → Option Env} {is : List Nat} {tt : Et} {f : Ep}
theorem ds_setScS {n : En} {i : Nat} {y : Str} {py spos : Pos} (hX : XG X) (hy : X.N[i]? = some y) (hyl : X.env.scope.names.lookup y = some .local)
    (hsw : swapsWith (.SetComp elt [⟨tg, iter, ifs, 0⟩] scope pos) (some (.Name y py)) spos.line X.env = pure true) (hi : DI X n.z n.W true tg iter it) (ok : BlkOk X.N X.env.scope scope own) (hsub : ∀ i ∈ is, i ∈ own.map (·.2))
    (hg : ∀ (s : Shared) (H : Hp) (C : Addr) (cl : List (Str × Addr)) (fp : List Addr), TgOk (X.blk s H scope (compEnvC scope cl C X.env) fp) n.z tg gt t is)
    (ht : ∀ (s : Shared) (H : Hp) (C : Addr) (cl : List (Str × Addr)) (fp : List Addr), DTs (X.blk s H scope (compEnvC scope cl C X.env) fp) n.z W0 ifs tt)
    (he : ∀ (s : Shared) (H : Hp) (C : Addr) (cl : List (Str × Addr)) (fp : List Addr), DE (X.blk s H scope (compEnvC scope cl C X.env) fp) n.z W0 .sh elt f) (hs : ∀ x, foldedSetIterable iter X.env x = pure x := by intro _; rfl) :
    DS X n (.Assign [.Name y py] (.SetComp elt [⟨tg, iter, ifs, 0⟩] scope pos) spos) (sSet false i (eScI it t tt f (own.map (·.2)))) := by
  refine ⟨fun pins s σ H D I ⟨ρ, g, Mu, S, hq⟩ => ?_⟩
  rw [exec_Assign_Name_used _ _ _ _ hsw]
  refine wpAny_bind (wpAny_standAt (wpAny_bind ?_))
  show wpAny _ X.A (do let _ ← comprehension (.SetComp elt [⟨tg, iter, ifs, 0⟩] scope pos) scope X.env (firstIterPos [⟨tg, iter, ifs, 0⟩] pos) (newSet (.type "set")) false (eval iter X.env) (some (assign (.Name y py) X.env))) _ _ s
  refine wpAny_bind (thn (scI_core (Qf := fun _ s' => SP X pins D .next s') (wi := tI X n.z n.W true it) (tt := tT X n.z W0 tt) (te := tE X n.z W0 .sh f) (gt := gt)
    (Q := fun v H' => ∃ A0 ns g', sScL it t tt f (own.map (·.2)) ρ g = .ok ns g' ∧ v = .ref A0 ∧ A0 ∉ Mu ∧ ¬ Oc H A0 ∧ Ext n.z H H' ∧ GOk n.z H' g' ∧ HasI X.w H' A0 ns) hX.calm hX.nd I hi ok (fun s H C cl fp => (hg s H C cl fp).pg) ht he hs
    (sc_read (fun v d σ H ρ ρ' Mu Q => (hg s H default [] []).ok v d σ H ρ ρ' Mu Q) hsub S.env S.g (R.all_imp (R.all_eq (EW.x S (R.all_bind (R.all_bind hq)))) (fun ns g1 ⟨q, _⟩ A0 H1 n1 n2 e1 G2 hh _ => ⟨A0, ns, g1, q, rfl, n1, n2, e1, G2, hh⟩) fun _ _ _ _ h => h))
    fun A0 C s' m H' I' ⟨A1, ns, g1, q, ev, n1, n2, e1, G2, S0, hA, hS⟩ hn fC => ?_) fun _ s' hq => wpAny_pure (wpAny_pure hq))
  cases ev
  have hq := R.all_bind (R.all_bind hq)
  rw [q] at hq
  have I2 := set_rest I' hA
  have np : A0 ≠ n.z.p := fun w => by rw [w] at n1; exact n1 S.env.mu.p
  have nl : A0 ≠ n.z.l := fun w => by rw [w] at n1; exact n1 S.env.mu.l
  have nc : A0 ≠ n.z.c := fun w => by rw [w] at n1; exact n1 S.env.mu.c
  obtain ⟨f0, f1, f2, f3, f4, f5⟩ := fC
  have nCA : C ≠ A0 := fun w => by rw [w, hA] at f0; cases f0
  have e2 : Ext n.z H (upd H' A0 (.set S0 (unlikeL ns).length)) := ⟨fun b u hb t h1 h2 => by
    have nb : b ≠ A0 := fun w => n2 (w ▸ ⟨u, hb, t⟩)
    rw [upd_ne nb]
    exact e1.to b u hb t h1 h2⟩
  have G3 : GOk n.z (upd H' A0 (.set S0 (unlikeL ns).length)) g1 := G2.write np nl nc (fun ps w => by rw [hA] at w; cases w) (fun q w => by rw [hA] at w; exact setO_ne (Option.some.inj w))
  have rp : Rep X.K X.mg n.z Mu (upd H' A0 (.set S0 (unlikeL ns).length)) (.ref A0) (.set ((unlikeL ns).map DL.D.int)) := by
    refine .set (S := S0) n1 upd_same (fun k => ?_) (unlikeL_nodup ns)
    rw [hS]
    simp only [mem_unlikeL]
  show wpAny _ _ (assign (.Name y py) X.env (.ref A0)) _ _ _
  refine wpAny_assign_Name (store_ok2 (v := V.ref A0) I2 hX.nd hy (.inl hyl) rfl (fun s2 I3 ⟨a, sb, ha⟩ => ?_) (.inr hyl))
  have haC : C ≠ a := by
    rcases ha with w | w
    · rw [w]; exact f1
    · exact fun e => f4 y a w e.symm
  refine ⟨m, hn.sameBut sb haC, fun h3 sb3 => ?_⟩
  obtain ⟨Mu', S'⟩ := S.store (i := i) e2 G3 false rfl rp
  exact ⟨_, _, I3.turned (t' := s2.toks) (fun b o hb e => (sb3.2 b hb).trans e) (by rw [upd_ne nCA]; exact f0) f1 f3 f4 f5, hq _ _ Mu' S'⟩
end
/-! ### the greatest, the least -/
section
variable {prog : Program} {w : World} {A : Around} {E : Value → Shared → Prop} {s : Shared} {l : Addr} {its : List Value} {ns : List Int}
theorem iter_tup {xs : Array Value} {Q : Value → Shared → Prop} (ht : s.heap.IsTuple l xs)
    (q : ∀ s₂, s₂ = { s with heap := s.heap.push { cls := .type "tuple_iterator", data := .fields #[.ref l, .int 0 0] } } → s₂.heap.IsTupleIter s.heap.objs.size l 0 ∧ s₂.heap.IsTuple l xs → (∀ b ∈ [s.heap.objs.size, l], b < s₂.heap.objs.size) → l ≠ s.heap.objs.size → Q (.ref s.heap.objs.size) s₂) :
    wpAny (model prog w) A (pyIter (.ref l)) Q E s := by
  have lt : l < s.heap.objs.size := by
    obtain ⟨o, ho, _⟩ := id ht
    exact Heap.lt_size ho
  refine wpAny_pyIter_tuple ht (q _ rfl ⟨⟨_, Heap.get?_push_size _ rfl, rfl, rfl⟩, ht.push _⟩ (fun b hb => ?_) (Nat.ne_of_lt lt))
  show b < (s.heap.push _).objs.size
  rw [Heap.size_push]
  rcases List.mem_cons.mp hb with e | e
  · rw [e]; exact Nat.lt_succ_self _
  · rw [List.mem_singleton.mp e]; exact Nat.lt_succ_of_lt lt
theorem maxT_raw (hh : A.handled = none) (ht : s.heap.IsTuple l its.toArray) (hi : IntsAre its ns) (hne : 0 < ns.length) {Q : Value → Shared → Prop}
    (q : ∀ h' tk M t', (∀ b o, s.heap.get? b = some o → h'.get? b = some o) → M ∈ ns → (∀ a, a ∈ ns → a ≤ M) → Q (.int M t') { s with heap := h', toks := tk }) : wpAny (model prog w) A (call (.builtin "max") [.ref l]) Q E s := by
  obtain ⟨xs, e⟩ := hi.allInts.items
  have hn : numsOf (intItems xs).toList = ns := by rw [← e]; exact hi.numsOf
  rw [nums_intItems] at hn
  subst hn
  rw [e] at ht
  have hsz : 0 < xs.size := by simpa using hne
  refine call_max_walk (iter_tup ht fun s₂ es st hfp hlI => ?_)
  subst es
  refine ⟨_, _, _, _, _, _, _, rfl, Walks.tuple (A := A.in1) hh _ l hlI (intItems xs), st, hfp, by simpa [intItems] using hsz, CmpOf.ints_gt (numAt xs) (fun _ _ => intItems_at), fun v h' tk hP hk => ?_⟩
  obtain ⟨t, rfl⟩ := intItems_at hP
  obtain ⟨h1, h2⟩ := argBest_gt (numAt xs) (xs.size - 1)
  have ez : (intItems xs).size - 1 = xs.size - 1 := by simp [intItems]
  rw [ez]
  refine q h' tk _ t (fun b o e => hk b o (by rw [List.mem_singleton]; exact Nat.ne_of_lt (Heap.lt_size e)) (Heap.get?_push_of_some _ e)) ?_ fun a ha => ?_
  · rw [numAt_eq]
    exact PySem.getD_mem (by rw [List.length_map, Array.length_toList]; omega)
  · obtain ⟨j, hj, rfl⟩ := mem_getD ha
    rw [List.length_map, Array.length_toList] at hj
    rw [← numAt_eq]
    exact h2 j (by omega)
theorem minT_raw (hh : A.handled = none) (ht : s.heap.IsTuple l its.toArray) (hi : IntsAre its ns) (hne : 0 < ns.length) {Q : Value → Shared → Prop}
    (q : ∀ h' tk M t', (∀ b o, s.heap.get? b = some o → h'.get? b = some o) → M ∈ ns → (∀ a, a ∈ ns → M ≤ a) → Q (.int M t') { s with heap := h', toks := tk }) : wpAny (model prog w) A (call (.builtin "min") [.ref l]) Q E s := by
  obtain ⟨xs, e⟩ := hi.allInts.items
  have hn : numsOf (intItems xs).toList = ns := by rw [← e]; exact hi.numsOf
  rw [nums_intItems] at hn
  subst hn
  rw [e] at ht
  have hsz : 0 < xs.size := by simpa using hne
  refine call_min_walk (iter_tup ht fun s₂ es st hfp hlI => ?_)
  subst es
  refine ⟨_, _, _, _, _, _, _, rfl, Walks.tuple (A := A.in1) hh _ l hlI (intItems xs), st, hfp, by simpa [intItems] using hsz, CmpOf.ints_lt (numAt xs) (fun _ _ => intItems_at), fun v h' tk hP hk => ?_⟩
  obtain ⟨t, rfl⟩ := intItems_at hP
  obtain ⟨h1, h2⟩ := argBest_lt (numAt xs) (xs.size - 1)
  have ez : (intItems xs).size - 1 = xs.size - 1 := by simp [intItems]
  rw [ez]
  refine q h' tk _ t (fun b o e => hk b o (by rw [List.mem_singleton]; exact Nat.ne_of_lt (Heap.lt_size e)) (Heap.get?_push_of_some _ e)) ?_ fun a ha => ?_
  · rw [numAt_eq]
    exact PySem.getD_mem (by rw [List.length_map, Array.length_toList]; omega)
  · obtain ⟨j, hj, rfl⟩ := mem_getD ha
    rw [List.length_map, Array.length_toList] at hj
    rw [← numAt_eq]
    exact h2 j (by omega)
end
def fMaxS : List D → Option D
  | [.lst l] => ((intsOf l).bind greatest).map D.int
  | [.tup l] => ((intsOf l).bind greatest).map D.int
  | _ => none
def fMinS : List D → Option D
  | [.lst l] => ((intsOf l).bind smallest).map D.int
  | [.tup l] => ((intsOf l).bind smallest).map D.int
  | _ => none
section
variable {X : Cx} {z : Zt}
theorem call_maxS' (hX : XG X) : DCall X z .new (.builtin "max") fMaxS := by
  intro pins s σ H Mu g xs us ds d Q I m G1 r ks hd q
  unfold fMaxS at hd
  split at hd
  · exact call_max1' hX pins s σ H Mu g xs us _ d Q I m G1 r ks hd q
  · obtain ⟨w, h1, rfl⟩ := Option.map_eq_some_iff.mp hd
    obtain ⟨ns, h1, h2⟩ := Option.bind_eq_some_iff.mp h1
    have e := intsOf_eq h1
    subst e
    obtain ⟨v, rfl, p⟩ := ks.one
    obtain ⟨a, ys, rfl, _, hs, rs⟩ := p.tup
    have e := rs.unInts
    subst e
    cases ns with
    | nil => cases h2
    | cons n l =>
      cases h2
      obtain ⟨m1, m2⟩ := fold_max l n
      obtain ⟨its, rv, pt, _⟩ := I.tuple (SqT.of hs)
      rw [Vals.ref1 r]
      refine maxT_raw (its := its) (ns := n :: l) (I.ok.hd hX.calm) pt rv.ints (by rw [List.length_cons]; omega) fun h' tk m' t' hk hm' hall => ?_
      have e : m' = l.foldl (fun a b => if b > a then b else a) n := Int.le_antisymm (m2 m' hm') (hall _ m1)
      rw [e]
      exact ⟨.int _, H, I.kept hk, ⟨_, rfl⟩, q _ H Same.refl RK.int⟩
  · cases hd
theorem call_minS' (hX : XG X) : DCall X z .new (.builtin "min") fMinS := by
  intro pins s σ H Mu g xs us ds d Q I m G1 r ks hd q
  unfold fMinS at hd
  split at hd
  · exact call_min1' hX pins s σ H Mu g xs us _ d Q I m G1 r ks hd q
  · obtain ⟨w, h1, rfl⟩ := Option.map_eq_some_iff.mp hd
    obtain ⟨ns, h1, h2⟩ := Option.bind_eq_some_iff.mp h1
    have e := intsOf_eq h1
    subst e
    obtain ⟨v, rfl, p⟩ := ks.one
    obtain ⟨a, ys, rfl, _, hs, rs⟩ := p.tup
    have e := rs.unInts
    subst e
    cases ns with
    | nil => cases h2
    | cons n l =>
      cases h2
      obtain ⟨m1, m2⟩ := fold_min l n
      obtain ⟨its, rv, pt, _⟩ := I.tuple (SqT.of hs)
      rw [Vals.ref1 r]
      refine minT_raw (its := its) (ns := n :: l) (I.ok.hd hX.calm) pt rv.ints (by rw [List.length_cons]; omega) fun h' tk m' t' hk hm' hall => ?_
      have e : m' = l.foldl (fun a b => if b < a then b else a) n := Int.le_antisymm (hall _ m1) (m2 m' hm')
      rw [e]
      exact ⟨.int _, H, I.kept hk, ⟨_, rfl⟩, q _ H Same.refl RK.int⟩
  · cases hd
end
end DL
set_option Elab.async false
set_option linter.all false
set_option maxRecDepth 100000
set_option maxHeartbeats 2000000
/-! The value layer, part 36: isinstance of the built-in kinds, alike in every law. -/
namespace DL
open PySem PySem.Spec PyProof.Rows L2
abbrev isi0 : List D → Option D := fIsi (fun _ _ => none) (fun _ => false)
theorem isi0_ok {K : PySem.W.Frag} {mg : Str → Option Value} : IsiOk K mg (fun _ _ => none) (fun _ => false) := ⟨fun _ _ _ _ _ h => (by cases h), fun _ _ h => (by cases h)⟩
end DL
set_option Elab.async false
set_option linter.all false
set_option maxRecDepth 100000
set_option maxHeartbeats 2000000
/-! The value layer, part 37: dicts written: d[k] = v of one's own dict. -/
namespace DL
open PySem PySem.Spec PyProof.Rows L2

def putD (l : List (D × D)) (k d : D) : List (D × D) := if (l.any fun p => keq p.1 k) = true then l.map (fun p => if keq p.1 k = true then (p.1, d) else p) else l ++ [(k, d)]
section
variable {K : PySem.W.Frag} {mg : Str → Option Value} {z : Zt} {Mu : List Addr} {H : Hp}
theorem put_rel {ι κ : Type} [DecidableEq ι] [DecidableEq κ] {kD : ι → D} {kK : ι → κ} (inj : ∀ a b, kK a = kK b → a = b) (hq : ∀ a b, keq (kD a) (kD b) = decide (a = b)) {c : ι} {v : V} {d : D} (rv : Rep K mg z Mu H v d) {l : List (D × D)} {ns : List ι} {vs : List V} (e : l.map (·.1) = ns.map kD) (r : Reps K mg z Mu H vs (l.map (·.2))) :
    ∃ ns' : List ι, (putD l (kD c) d).map (·.1) = ns'.map kD ∧ (putK ((ns.map kK).zip vs) (kK c) v).map (·.1) = ns'.map kK ∧ Reps K mg z Mu H ((putK ((ns.map kK).zip vs) (kK c) v).map (·.2)) ((putD l (kD c) d).map (·.2)) := by
  have len : ∀ {l : List (D × D)} {ns : List ι} {vs : List V}, l.map (·.1) = ns.map kD → Reps K mg z Mu H vs (l.map (·.2)) → ns.length = vs.length := fun {l ns vs} e r => by
    have := r.length
    rw [List.length_map] at this
    have := congrArg List.length e
    rw [List.length_map, List.length_map] at this
    omega
  have any : ∀ {l : List (D × D)} {ns : List ι} {vs : List V}, l.map (·.1) = ns.map kD → Reps K mg z Mu H vs (l.map (·.2)) → (l.any fun p => keq p.1 (kD c)) = (((ns.map kK).zip vs).any fun kv => decide (kv.1 = kK c)) := by
    intro l
    induction l with
    | nil =>
      intro ns vs e r
      cases ns with
      | nil => rfl
      | cons => cases e
    | cons p l ih =>
      intro ns vs e r
      cases ns with
      | nil => cases e
      | cons n ns =>
        obtain ⟨e1, e2⟩ := List.cons.inj e
        cases r with
        | cons r1 r2 =>
          rw [List.map_cons, List.zip_cons_cons, List.any_cons, List.any_cons, ← ih e2 r2, show p.1 = kD n from e1, hq]
          congr 1
          exact decide_eq_decide.mpr ⟨fun h => by rw [h], inj _ _⟩
  have rep : ∀ {l : List (D × D)} {ns : List ι} {vs : List V}, l.map (·.1) = ns.map kD → Reps K mg z Mu H vs (l.map (·.2)) →
      (l.map (fun p => if keq p.1 (kD c) = true then (p.1, d) else p)).map (·.1) = ns.map kD ∧ (((ns.map kK).zip vs).map (fun kv => if kv.1 = kK c then (kv.1, v) else kv)).map (·.1) = ns.map kK ∧
      Reps K mg z Mu H ((((ns.map kK).zip vs).map (fun kv => if kv.1 = kK c then (kv.1, v) else kv)).map (·.2)) ((l.map (fun p => if keq p.1 (kD c) = true then (p.1, d) else p)).map (·.2)) := by
    intro l
    induction l with
    | nil =>
      intro ns vs e r
      cases ns with
      | nil => exact ⟨rfl, rfl, .nil⟩
      | cons => cases e
    | cons p l ih =>
      intro ns vs e r
      cases ns with
      | nil => cases e
      | cons n ns =>
        obtain ⟨e1, e2⟩ := List.cons.inj e
        have e1 : p.1 = kD n := e1
        cases r with
        | @cons w _ ws _ r1 r2 =>
          obtain ⟨h1, h2, h3⟩ := ih e2 r2
          rw [List.map_cons (f := kK), List.zip_cons_cons, List.map_cons, List.map_cons, List.map_cons, List.map_cons, List.map_cons, List.map_cons, List.map_cons, h1, h2]
          by_cases hc : n = c
          · subst hc
            have q : keq p.1 (kD n) = true := by rw [e1, hq, decide_eq_true rfl]
            rw [if_pos q, if_pos rfl]
            exact ⟨by rw [e1], rfl, .cons rv h3⟩
          · have q : ¬ keq p.1 (kD c) = true := by rw [e1, hq, decide_eq_false hc]; decide
            rw [if_neg q, if_neg (fun w => hc (inj _ _ w))]
            exact ⟨by rw [e1], rfl, .cons r1 h3⟩
  unfold putD putK
  rw [any e r]
  by_cases h : (((ns.map kK).zip vs).any fun kv => decide (kv.1 = kK c)) = true
  · rw [if_pos h, if_pos h]
    obtain ⟨h1, h2, h3⟩ := rep e r
    exact ⟨ns, h1, h2, h3⟩
  · rw [if_neg h, if_neg h]
    refine ⟨ns ++ [c], ?_, ?_, ?_⟩
    · rw [List.map_append, List.map_append, e]; rfl
    · rw [List.map_append, List.map_append, zip_fst (by rw [List.length_map]; exact len e r)]; rfl
    · rw [List.map_append, List.map_append]
      refine Reps.append ?_ (.one rv)
      have : ((ns.map kK).zip vs).map (·.2) = vs := by
        have hl := len e r
        have : ∀ {a : List κ} {b : List V}, a.length = b.length → (a.zip b).map (·.2) = b := by
          intro a
          induction a with
          | nil => intro b h; cases b with | nil => rfl | cons => cases h
          | cons x a ih =>
            intro b h
            cases b with
            | nil => cases h
            | cons y b => rw [List.zip_cons_cons, List.map_cons, ih (by simpa using h)]
        exact this (by rw [List.length_map]; exact hl)
      rw [this]
      exact r
/-- from the kit's words back: ints -/
theorem vals_keys {P : Program} {w : World} : ∀ {E : List DictEntry} {kvs : List (Key × Value)}, Pairs (mixKind P w) E kvs → Vals (kvs.map fun kv => kV kv.1) (E.map (·.key))
  | _, _, .nil => .nil
  | _, _, .cons h _ t => .cons (relV_key h) (vals_keys t)
theorem vals_vals {P : Program} {w : World} : ∀ {E : List DictEntry} {kvs : List (Key × Value)} {kw : List (Key × V)}, Pairs (mixKind P w) E kvs → KV kw kvs → Vals (kw.map (·.2)) (E.map (·.val))
  | _, _, _, .nil, .nil => .nil
  | _, _, _, .cons (e := en) _ e t, .cons h q => .cons (show RelV _ en.val from by rw [e]; exact h.2) (vals_vals t q)
theorem hash_int {P : Program} {w w' : World} {e : DictEntry} {n : Int} (hk : ∃ k, (mixKind P w).is k e.key = true ∧ e.hash = (mixKind P w).hash k) (he : ∃ t, e.key = Value.int n t) : e.hash = keyH w' (.inl n) := by
  obtain ⟨k, h1, h2⟩ := hk
  obtain ⟨t, he⟩ := he
  rw [he] at h1
  have e2 : k = .inl n := (mixKind P w).inj _ _ _ h1 (mixKind_int P w n t)
  rw [h2, e2]
  rfl
theorem dk_raw {P : Program} {w : World} {h : Heap} {a : Addr} {kvs : List (Key × Value)} {kw : List (Key × V)} {ns : List Int} (dd : h.DictOf (mixKind P w) a kvs) (kv : KV kw kvs) (e : kw.map (·.1) = kI ns) :
    ∃ o es ep, h.get? a = some o ∧ o.ExactDict ∧ o.data = .dict es ep ∧ es.size = kvs.length ∧ EnK (ns.map V.int) (kw.map (·.2)) es ∧ KyOk es (ns.map D.int) := by
  obtain ⟨o, es, ep, ho, hex, hd, hk, hp, nd⟩ := dd
  have ek : kvs.map (·.1) = kI ns := by rw [← kv.keys]; exact e
  have v1 : Vals (ns.map V.int) (es.toList.map (·.key)) := by
    have q := vals_keys hp
    have : (kvs.map fun kv => kV kv.1) = ns.map V.int := by
      have : (kvs.map fun kv => kV kv.1) = (kvs.map (·.1)).map kV := by rw [List.map_map]; rfl
      rw [this, ek, List.map_map]
      rfl
    rwa [this] at q
  refine ⟨o, es, ep, ho, hex, hd, by rw [← hp.length, Array.length_toList], ⟨v1, vals_vals hp kv⟩, fun i en d h1 h2 => ?_, ?_⟩
  · have hn : ∃ n, ns[i]? = some n ∧ d = .int n := by
      rw [List.getElem?_map] at h2
      cases q : ns[i]? with
      | none => rw [q] at h2; cases h2
      | some n => rw [q] at h2; exact ⟨n, rfl, (Option.some.inj h2).symm⟩
    obtain ⟨n, hn, rfl⟩ := hn
    intro w'
    obtain ⟨u, hu, ru⟩ := Vals.get v1 (show (ns.map V.int)[i]? = some (V.int n) by rw [List.getElem?_map, hn]; rfl)
    have eu : u = en.key := by
      rw [List.getElem?_map, Array.getElem?_toList, h1] at hu
      exact (Option.some.inj hu).symm
    subst eu
    exact hash_int (hk en (Array.mem_iff_getElem?.mpr ⟨i, h1⟩)) ru
  · have nd2 : (kI ns).Nodup := by rw [← ek]; exact nd
    exact nodup_map_of (fun a b h => by injection h) (nodup_of_map _ nd2)
theorem hash_tup {P P' : Program} {w w' : World} (is : List Int) : (tupleKind (mixKind P w)).hash (kI is) = (tupleKind (mixKind P' w')).hash (kI is) := by
  show reduceHash (Builtin.Tuple.tupleHashOf ((kI is).map (mixKind P w).hash)) = reduceHash (Builtin.Tuple.tupleHashOf ((kI is).map (mixKind P' w').hash))
  rw [List.map_map, List.map_map]
  rfl
theorem tint_inj {a b : List Int} (h : tint a = tint b) : a = b := by
  unfold tint at h
  injection h with h
  have := congrArg intsOf h
  rw [intsOf_map, intsOf_map] at this
  exact Option.some.inj this
/-- .. tuples of ints; what is asked of the keys' places -/
theorem dt_raw {P : Program} {w : World} {h : Heap} {a : Addr} {xs : List (List Key × Addr × Value)} {kw : List (List Key × V)} {ns : List (List Int)} (dd : h.DictOfH (tupleKind (mixKind P w)) a xs) (kt : KT H kw xs) (e : kw.map (·.1) = kT ns) (hm : ∀ q ∈ xs, q.2.1 ∉ Mu) :
    ∃ o es ep, h.get? a = some o ∧ o.ExactDict ∧ o.data = .dict es ep ∧ es.size = xs.length ∧ EnK (xs.map fun q => V.ref q.2.1) (kw.map (·.2)) es ∧ KyOk es (ns.map tint) ∧ Reps K mg z Mu H (xs.map fun q => V.ref q.2.1) (ns.map tint) := by
  obtain ⟨o, es, ep, ho, hex, hd, he, hk, nd⟩ := dd
  have ek : xs.map (·.1) = kT ns := by
    have : ∀ {kw : List (List Key × V)} {xs : List (List Key × Addr × Value)}, KT H kw xs → kw.map (·.1) = xs.map (·.1) := by
      intro kw xs k
      induction k with
      | nil => rfl
      | cons h t ih => rw [List.map_cons, List.map_cons, ih, h.1]
    rw [← this kt]
    exact e
  have v1 : Vals (xs.map fun q => V.ref q.2.1) (es.toList.map (·.key)) := by
    rw [he, List.map_map]
    have : ∀ l : List (List Key × Addr × Value), Vals (l.map fun q => V.ref q.2.1) (l.map ((·.key) ∘ entryOfKey (tupleKind (mixKind P w)))) := by
      intro l
      induction l with
      | nil => exact .nil
      | cons q l ih => exact .cons rfl ih
    exact this xs
  have v2 : Vals (kw.map (·.2)) (es.toList.map (·.val)) := by
    rw [he, List.map_map]
    have : ∀ {kw : List (List Key × V)} {xs : List (List Key × Addr × Value)}, KT H kw xs → Vals (kw.map (·.2)) (xs.map ((·.val) ∘ entryOfKey (tupleKind (mixKind P w)))) := by
      intro kw xs k
      induction k with
      | nil => exact .nil
      | cons h t ih => exact .cons h.2.2 ih
    exact this kt
  refine ⟨o, es, ep, ho, hex, hd, size_of_entries he, ⟨v1, v2⟩, ⟨fun i en d h1 h2 => ?_, ?_⟩, ?_⟩
  · rw [List.getElem?_map] at h2
    cases q : ns[i]? with
    | none => rw [q] at h2; cases h2
    | some n =>
      rw [q] at h2
      obtain rfl : tint n = d := Option.some.inj h2
      intro is ei P' w'
      have ei : n = is := tint_inj (congrArg D.tup ei)
      subst ei
      have hx := entry_at he i
      rw [h1] at hx
      obtain ⟨x, hx1, hx2⟩ := Option.map_eq_some_iff.mp hx.symm
      have hk1 : x.1 = kI n := by
        have : (xs.map (·.1))[i]? = some x.1 := by rw [List.getElem?_map, hx1]; rfl
        rw [ek, List.getElem?_map, q] at this
        exact (Option.some.inj this).symm
      rw [← hx2]
      show (tupleKind (mixKind P w)).hash x.1 = _
      rw [hk1]
      exact hash_tup n
  · have nd2 : (kT ns).Nodup := by rw [← ek]; exact nd
    exact nodup_map_of (fun a b h => tint_inj h) (nodup_of_map _ nd2)
  · have : ∀ {kw : List (List Key × V)} {xs : List (List Key × Addr × Value)} {ns : List (List Int)}, KT H kw xs → xs.map (·.1) = kT ns → (∀ q ∈ xs, q.2.1 ∉ Mu) → Reps K mg z Mu H (xs.map fun q => V.ref q.2.1) (ns.map tint) := by
      intro kw xs ns k
      induction k generalizing ns with
      | nil =>
        intro e _
        cases ns with
        | nil => exact .nil
        | cons => cases e
      | @cons p q ps qs h t ih =>
        intro e hm
        cases ns with
        | nil => cases e
        | cons n ns =>
          obtain ⟨e1, e2⟩ := List.cons.inj e
          refine .cons (.tup (xs := n.map V.int) (hm q List.mem_cons_self) ?_ (Reps.ints n)) (ih e2 fun r hr => hm r (List.mem_cons_of_mem _ hr))
          rw [h.2.1, h.1, show q.1 = kI n from e1, List.map_map]
          rfl
    exact this kt ek hm
end
section
variable {X : Cx} {z : Zt} {pins : List (Addr × Obj)} {σ : L2.St} {H : Hp} {s : Shared} {Mu : List Addr}
/-- d[k] = v -/
theorem dct_put {a : Addr} {y v : V} {u w : Value} {l : List (D × D)} {k d : D} {Q : Unit → Shared → Prop} (I : Inv X pins σ H s) (c : Cont X.K X.mg z Mu H a (.dct l)) (ha : a ∈ Mu) (py : PR X.K X.mg z Mu H y k) (ry : RelV y u) (rv : RelV v w) (rp : Rep X.K X.mg z Mu H v d) (hk : kOk l k = true) (hl : l.length < 1000)
    (h : ∀ o' s', Inv X pins σ (upd H a (ObV a o')) s' → Cont X.K X.mg z Mu (upd H a (ObV a o')) a (.dct (putD l k d)) → Q () s') :
    (∃ (c : Key) (kvs : List (Key × Value)), (mixKind X.prog X.w).is c u = true ∧ s.heap.DictOf (mixKind X.prog X.w) a kvs ∧ kvs.length ≤ sizeLine ∧ ∀ h' t', h'.DictOf (mixKind X.prog X.w) a (stored kvs c w) → Heap.SameBut a s.heap h' → Q () { s with heap := h', toks := t' }) ∨
    (∃ (c : List Key) (b : Addr) (xs : List (List Key × Addr × Value)), u = .ref b ∧ (tupleKind (mixKind X.prog X.w)).is s.heap c b ∧ s.heap.DictOfH (tupleKind (mixKind X.prog X.w)) a xs ∧ xs.length ≤ sizeLine ∧ ∀ h' t', h'.DictOfH (tupleKind (mixKind X.prog X.w)) a (storedH xs c b w) → Heap.SameBut a s.heap h' → Q () { s with heap := h', toks := t' }) := by
  cases c with
  | @dct o es ep ks vs _ ho hsys hex hdt hz en r1 r2 ky =>
  have hg : s.heap.get? a = some o := (I.hok a _ ho).1
  have hle : es.toList.length = l.length := by rw [Array.length_toList, en.size r1, List.length_map]
  have fin : ∀ {h' : Heap} {t' : Nat} {o' : Obj} {es' : Array DictEntry} {ep' : Nat} {ks' vs' : List V}, Heap.SameBut a s.heap h' → h'.get? a = some o' → o'.ExactDict → o'.data = .dict es' ep' → es'.size ≤ sizeLine → EnK ks' vs' es' → Reps X.K X.mg z Mu H ks' ((putD l k d).map (·.1)) → Reps X.K X.mg z Mu H vs' ((putD l k d).map (·.2)) → KyOk es' ((putD l k d).map (·.1)) → Q () { s with heap := h', toks := t' } := by
    intro h' t' o' es' ep' ks' vs' sb g' hex' hd' hz' en' r1' r2' ky'
    have I' : Inv X pins σ (upd H a (ObV a o')) { s with heap := h', toks := t' } := d_write I (by rw [ho]; exact True.intro) sb ⟨o', g'⟩ ⟨g', ⟨_, g'⟩, fun _ _ h k => k _ h⟩
    have em : ExtM Mu H (upd H a (ObV a o')) := fun b q hq _ hb => by rw [upd_ne (fun e : b = a => hb (e ▸ ha))]; exact hq
    exact h o' _ I' (.dct upd_same hsys hex' hd' hz' en' (r1'.mono em fun _ _ h => h) (r2'.mono em fun _ _ h => h) ky')
  have big : 1000 < sizeLine := by rw [sizeLine_eq]; decide
  cases k <;> first | cases hk | skip
  · rename_i i
    obtain ⟨ns, hn⟩ := Option.isSome_iff_exists.mp (show (intsOf (l.map (·.1))).isSome = true from hk)
    have e := intsOf_eq hn
    rw [e] at r1 ky
    have e1 := Reps.ints_eq r1
    subst e1
    obtain ⟨dd, kv⟩ := raw_dk (X := X) (s := s) hg hex hdt en.1 en.2 ky
    obtain rfl := py.int
    have sz : ((kI ns).zip (es.toList.map (·.val))).length ≤ l.length := by
      rw [List.length_zip, List.length_map, List.length_map, hle]
      exact Nat.min_le_right _ _
    refine .inl ⟨.inl i, _, kV_is (k := .inl i) ry, dd, by omega, fun h' t' dd' hs => ?_⟩
    have kv' := kv.put (.inl i : Key) rv
    obtain ⟨ns', q1, q2, q3⟩ := put_rel (kD := D.int) (kK := (Sum.inl : Int → Key)) (fun a b h => Sum.inl.inj h) (fun a b => rfl) rp (c := i) e r2
    obtain ⟨o', es', ep', g', hex', hd', hsz', en', ky'⟩ := dk_raw dd' kv' q2
    refine fin hs g' hex' hd' ?_ en' (by rw [q1]; exact Reps.ints ns') q3 (by rw [q1]; exact ky')
    rw [hsz', ← kv'.length]
    have := length_putK ((kI ns).zip vs) (.inl i : Key) v
    have l2 : ((kI ns).zip vs).length ≤ l.length := by
      rw [List.length_zip, r2.length, List.length_map (f := fun p : D × D => p.2)]
      exact Nat.min_le_right _ _
    omega
  · rename_i kq
    obtain ⟨h1, h2⟩ := (Bool.and_eq_true _ _).mp (show ((intsOf kq).isSome && (tupsOf (l.map (·.1))).isSome) = true from hk)
    obtain ⟨is, his⟩ := Option.isSome_iff_exists.mp h1
    obtain ⟨ns, hn⟩ := Option.isSome_iff_exists.mp h2
    have e := tupsOf_eq hn
    have ek := intsOf_eq his
    subst ek
    rw [e] at r1 ky
    obtain ⟨bs, rfl, dd, kt⟩ := raw_dt (s := s) I.hok hg hex hdt en r1 ky
    obtain ⟨b, xs, rfl, hbm, hb, rb⟩ := py.tup
    cases ry
    have hb' : H b = some (.tup ((kI is).map kV)) := by
      rw [hb, Reps.ints_eq rb, List.map_map]
      rfl
    have sz : ((kT ns).zip (bs.zip (es.toList.map (·.val)))).length ≤ l.length := by
      rw [List.length_zip, List.length_zip, List.length_map, List.length_map, hle]
      exact Nat.le_trans (Nat.min_le_right _ _) (Nat.min_le_right _ _)
    refine .inr ⟨kI is, b, _, rfl, key_of I.hok hb', dd, by omega, fun h' t' dd' hs => ?_⟩
    have kt' := kt.put (kI is) hb' rv
    have hm : ∀ q ∈ storedH ((kT ns).zip (bs.zip (es.toList.map (·.val)))) (kI is) b w, q.2.1 ∉ Mu := by
      have old : ∀ q ∈ (kT ns).zip (bs.zip (es.toList.map (·.val))), q.2.1 ∉ Mu := fun q hq => by
        have := (List.of_mem_zip hq).2
        have hb2 := (List.of_mem_zip this).1
        have : ∀ {bs : List Addr} {ds : List D}, Reps X.K X.mg z Mu H (bs.map V.ref) (ds) → (∀ d ∈ ds, ∃ q, d = .tup q) → ∀ b ∈ bs, b ∉ Mu := by
          intro bs
          induction bs with
          | nil => intro ds _ _ b hb; cases hb
          | cons b0 bs ih =>
            intro ds r ht b hb
            cases r with
            | cons r1 r2 =>
              rcases List.mem_cons.mp hb with rfl | hb
              · obtain ⟨q, rfl⟩ := ht _ List.mem_cons_self
                cases r1 with | tup n _ _ => exact n
              · exact ih r2 (fun d hd => ht d (List.mem_cons_of_mem _ hd)) b hb
        exact this r1 (fun d hd => by
          obtain ⟨n, _, rfl⟩ := List.mem_map.mp hd
          exact ⟨_, rfl⟩) _ hb2
      intro q hq
      unfold storedH at hq
      split at hq
      · obtain ⟨p, hp, rfl⟩ := List.mem_map.mp hq
        unfold putAt
        split
        · exact old p hp
        · exact old p hp
      · rcases List.mem_append.mp hq with hq | hq
        · exact old q hq
        · rw [List.mem_singleton.mp hq]; exact hbm
    obtain ⟨ns', q1, q2, q3⟩ := put_rel (kD := tint) (kK := kI) (fun a b h => kI_inj h) keq_tint rp (c := is) e r2
    obtain ⟨o', es', ep', g', hex', hd', hsz', en', ky', rk'⟩ := dt_raw (K := X.K) (mg := X.mg) (z := z) (Mu := Mu) dd' kt' q2 hm
    have q1' : (putD l (.tup (is.map D.int)) d).map (·.1) = ns'.map tint := q1
    refine fin hs g' hex' hd' ?_ en' (by rw [q1']; exact rk') q3 (by rw [q1']; exact ky')
    have e3 : (storedH ((kT ns).zip (bs.zip (es.toList.map (·.val)))) (kI is) b w).length = (putK ((kT ns).zip vs) (kI is) v).length := (paired_len kt').symm
    rw [hsz', e3]
    have := length_putK ((kT ns).zip vs) (kI is) v
    have l2 : ((kT ns).zip vs).length ≤ l.length := by
      rw [List.length_zip, r2.length, List.length_map (f := fun p : D × D => p.2)]
      exact Nat.min_le_right _ _
    omega
theorem dct_set {a : Addr} {y v : V} {u w : Value} {l : List (D × D)} {k d : D} {A : Around} {E : Value → Shared → Prop} {Q : Unit → Shared → Prop} (hu : A.units + 1 < cLine) (I : Inv X pins σ H s) (c : Cont X.K X.mg z Mu H a (.dct l)) (ha : a ∈ Mu) (py : PR X.K X.mg z Mu H y k) (ry : RelV y u) (rv : RelV v w) (rp : Rep X.K X.mg z Mu H v d) (hk : kOk l k = true) (hl : l.length < 1000)
    (h : ∀ o' s', Inv X pins σ (upd H a (ObV a o')) s' → Cont X.K X.mg z Mu (upd H a (ObV a o')) a (.dct (putD l k d)) → Q () s') : wpAny (model X.prog X.w) A (setItem (.ref a) u w) Q E s := by
  rcases dct_put (Q := Q) I c ha py ry rv rp hk hl h with ⟨c', kvs, h1, h2, h3, h4⟩ | ⟨c', b, xs, rfl, h1, h2, h3, h4⟩
  · exact wpAny_setItem_pairs (hsz := h3) h1 h2 fun h' dd' hs => h4 h' _ dd' hs
  · exact wpAny_setItem_heap (hsz := h3) (tupleKind_room_in1 hu) h1 h2 fun h' dd' hs => h4 h' _ dd' hs
theorem dct_dictSet {a : Addr} {y v : V} {u w : Value} {l : List (D × D)} {k d : D} {A : Around} {E : Value → Shared → Prop} {Q : Unit → Shared → Prop} (hu : A.units + 1 < cLine) (I : Inv X pins σ H s) (c : Cont X.K X.mg z Mu H a (.dct l)) (ha : a ∈ Mu) (py : PR X.K X.mg z Mu H y k) (ry : RelV y u) (rv : RelV v w) (rp : Rep X.K X.mg z Mu H v d) (hk : kOk l k = true) (hl : l.length < 1000)
    (h : ∀ o' s', Inv X pins σ (upd H a (ObV a o')) s' → Cont X.K X.mg z Mu (upd H a (ObV a o')) a (.dct (putD l k d)) → Q () s') : wpAny (model X.prog X.w) A (dictSet a u w) Q E s := by
  rcases dct_put (Q := Q) I c ha py ry rv rp hk hl h with ⟨c', kvs, h1, h2, h3, h4⟩ | ⟨c', b, xs, rfl, h1, h2, h3, h4⟩
  · exact wpAny_dictSet_pairs (hsz := h3) h1 h2 fun h' dd' hs => h4 h' _ dd' hs
  · exact wpAny_dictSet_heap (hsz := h3) (show A.units < cLine by omega) h1 h2 fun h' dd' hs => h4 h' _ dd' hs
end
end DL
set_option Elab.async false
set_option linter.all false
set_option maxRecDepth 100000
set_option maxHeartbeats 2000000
/-! The value layer, part 38: x[k] = e, x one's own list or dict. -/
namespace DL
open PySem PySem.Spec PyProof.Rows L2

def ownD (ρ : Env) (i : Nat) : Option (List (D × D)) := match ρ[i]? with
  | some (some (true, .dct l)) => some l
  | _ => none
theorem ownD_some {ρ : Env} {i : Nat} {l : List (D × D)} (h : ownD ρ i = some l) : ρ[i]? = some (some (true, .dct l)) := by
  unfold ownD at h
  split at h
  · rename_i l' q
    cases h
    exact q
  · cases h
section
variable {X : Cx} {n : En} {ka kb : Kd} {a e : Expr} {fa fe : Ep} {i : Nat} {s : Str} {p1 p2 pos : Pos}
def sSetK (i : Nat) (fa fe : Ep) : Ss := fun ρ => do
  let d ← fe ρ
  let l ← ofOpt (ownD ρ i)
  let k ← fa ρ
  let l' ← ofOpt (if kOk l k = true ∧ l.length < 1000 then some (putD l k d) else none)
  M.pure (.nx (ρ.set i (some (true, .dct l'))))
/-- what is put where -/
def tSetX (X : Cx) (z : Zt) : TSet := fun o y v H Q => ∃ a l k d Mu, o = .ref a ∧ Cont X.K X.mg z Mu H a (.dct l) ∧ a ∈ Mu ∧ PR X.K X.mg z Mu H y k ∧ Rep X.K X.mg z Mu H v d ∧ kOk l k = true ∧ l.length < 1000 ∧
  ∀ o', Cont X.K X.mg z Mu (upd H a (ObV a o')) a (.dct (putD l k d)) → Q (upd H a (ObV a o'))
theorem set_dctX (hX : XG X) {z : Zt} : PSet X (tSetX X z) := by
  intro pins s σ H o i v ov iv u Q I ro ri rv ⟨a, l, k, d, Mu, eo, c, ha, py, rp, hk, hl, q⟩
  subst eo
  cases (show ov = Value.ref a from ro)
  have hu : X.A.units + 1 < cLine := by have := hX.eq; omega
  exact dct_set hu I c ha py ri rv rp hk hl fun o' s' I' c' => ⟨_, I', q o' c'⟩
theorem ds_setK (hX : XG X) (hv : PE X (.Name s p1) (tVar i)) (ha : DE X n.z n.W ka a fa) (he : DE X n.z n.W .sh e fe)
    (hsub : ∀ v, assign (.Subscript (.Name s p1) a p2) X.env v = (do
      let ov ← holding [v] (eval (.Name s p1) X.env)
      let iv ← holding [v, ov] (eval a X.env)
      standAt p2
      holding [v, ov, iv] (setItem ov iv v)
      release [v, ov, iv] []) := by intro _; rfl)
    (hs : swapsWithSole [.Subscript (.Name s p1) a p2] e pos.line X.env = pure false := by rfl) (hw : swappedStores [.Subscript (.Name s p1) a p2] e X.env = pure none := by rfl)
    (h1 : (assignEach [.Subscript (.Name s p1) a p2] X.env).map (·.2) = [assign (.Subscript (.Name s p1) a p2) X.env] := by rfl) : DS X n (.Assign [.Subscript (.Name s p1) a p2] e pos) (sSetK i fa fe) := by
  refine ⟨fun pins s' σ H D I ⟨ρ, g, Mu, S, hx⟩ => ?_⟩
  refine (ps_asg he (pg_sub hv ha (set_dctX (z := n.z) hX) hsub) hs hw h1).run pins s' σ H D I ⟨ρ, g, Mu, S.env, S.g, R.all_imp (EW.x S (R.all_bind hx)) (fun d g1 hx v H1 e1 G2 k1 => ?_) fun _ _ _ _ h => h⟩
  have S1 := S.step e1 G2
  obtain ⟨l, ho, hx⟩ := R.all_opt (R.all_bind hx)
  have hi := ownD_some ho
  obtain ⟨w0, hb, b, rfl, _⟩ := S1.env.val i true _ hi
  refine ⟨.ref b, hb, ρ, g1, Mu, S1.env, S1.g, R.all_imp (EW.x S1 (R.all_bind hx)) (fun k g2 hx w H2 e2 G3 k2 => ?_) fun _ _ _ _ h => h⟩
  have S2 := S1.step e2 G3
  obtain ⟨l', hl', hx⟩ := R.all_opt (R.all_bind hx)
  obtain ⟨⟨hk, hlen⟩, rfl⟩ := opt_if hl'
  obtain ⟨w, q1, a', ev, hm, np, nl, nc, c⟩ := S2.env.val i true _ hi
  rw [hb] at q1
  cases q1
  cases ev
  have rv : Rep X.K X.mg n.z Mu H1 v d := k1
  have rv2 := rv.ext S1.env.mu S1.g e2
  have py := k2.peek S1.env.mu S2.env.mu G3
  refine ⟨b, l, k, d, Mu, rfl, c, hm, py, rv2, hk, hlen, fun o' c' => ?_⟩
  have hH : ∃ o es ep, H2 b = some (ObV b o) ∧ o.data = .dict es ep := by cases c with | dct h h1 h2 h3 => exact ⟨_, _, _, h, h3⟩
  obtain ⟨o, es, ep, hH, hd⟩ := hH
  exact hx σ _ Mu (S2.write (o := ObV b o') (fun q w => by
    rw [hH] at w
    exact obV_code hd (Option.some.inj w)) trivial hi hb c')
/-- whatever x is -/
def sSetU (i : Nat) (fa fe : Ep) : Ss := fun ρ g => match ownD ρ i with
  | some _ => sSetK i fa fe ρ g
  | none => sSetIx i fa fe ρ g
theorem ds_setU (hX : XG X) (hv : PE X (.Name s p1) (tVar i)) (ha : DE X n.z n.W ka a fa) (he : DE X n.z n.W .sh e fe)
    (hsub : ∀ v, assign (.Subscript (.Name s p1) a p2) X.env v = (do
      let ov ← holding [v] (eval (.Name s p1) X.env)
      let iv ← holding [v, ov] (eval a X.env)
      standAt p2
      holding [v, ov, iv] (setItem ov iv v)
      release [v, ov, iv] []) := by intro _; rfl)
    (hs : swapsWithSole [.Subscript (.Name s p1) a p2] e pos.line X.env = pure false := by rfl) (hw : swappedStores [.Subscript (.Name s p1) a p2] e X.env = pure none := by rfl)
    (h1 : (assignEach [.Subscript (.Name s p1) a p2] X.env).map (·.2) = [assign (.Subscript (.Name s p1) a p2) X.env] := by rfl) : DS X n (.Assign [.Subscript (.Name s p1) a p2] e pos) (sSetU i fa fe) := by
  refine ⟨fun pins s' σ H D I ⟨ρ, g, Mu, S, hx⟩ => ?_⟩
  have hx : (match ownD ρ i with | some _ => sSetK i fa fe ρ g | none => sSetIx i fa fe ρ g).all _ _ := hx
  cases q : ownD ρ i with
  | some l =>
    rw [q] at hx
    exact (ds_setK hX hv ha he hsub hs hw h1).run pins s' σ H D I ⟨ρ, g, Mu, S, hx⟩
  | none =>
    rw [q] at hx
    exact (ds_setIx hv ha he hsub hs hw h1).run pins s' σ H D I ⟨ρ, g, Mu, S, hx⟩
end
end DL
set_option Elab.async false
set_option linter.all false
set_option maxRecDepth 100000
set_option maxHeartbeats 2000000
/-! The value layer, part 39: dict comprehensions. -/
namespace DL
open PySem PySem.Spec PyProof.Rows L2
section
variable {X : Cx}
/-- a new dict's object -/
abbrev dob : Obj := { cls := .type "dict", data := .dict #[] }
/-- what the comprehension asks: A0 the new dict -/
def tDx (z : Zt) (wi : TI) (tg : TG) (tt : TT) (tk tv : TE) (vs : List Nat) : TE := fun σ H Q => wi σ H fun J H1 => ∀ A0, H1 A0 = none → (A0 == sysModules) = false → ∃ Wv : Nat → Nat → Hp → Prop, (∃ m, Wv 0 m (upd H1 A0 (ObV A0 dob))) ∧ ∀ i m Hi, Wv i m Hi →
  (J.stop i Hi ∧ Q (.ref A0) Hi) ∨ (J.go i Hi ∧ ∃ Nx : Hp → Prop, (∀ H', Nx H' → ∃ m', m' < m ∧ Wv (i + 1) m' H') ∧ ∀ x H', J.yld i Hi x H' → tg x (wipe σ vs) H' fun σa Ha => wipe σa vs = wipe σ vs ∧ tt σa Ha fun b Hb =>
    if b = true then tk σa Hb fun y Hc => tv σa Hc fun y2 Hd => tSetX X z (.ref A0) y y2 Hd Nx else Nx Hb)
theorem dcX_core {pins : List (Addr × Obj)} {s : Shared} {σ : L2.St} {H : Hp} {Q : VK} {kx vx tgt it0 : Expr} {ifs : List Expr} {sco : Scope} {own : List (PySem.Str × Nat)} {pos pos' : Pos} {wi : TI} {gt : TG} {tt : TT} {tk tv : TE} {z : Zt} {use : Option (Value → Sem Unit)} {Qf : Value → Shared → Prop}
    (calm : X.calm = true) (nd : X.N.Nodup) (I : Inv X pins σ H s) (hi : PI X tgt it0 wi) (bk : BlkOk X.N X.env.scope sco own)
    (h1 : ∀ (s : Shared) (H : Hp) (C : Addr) (cl : List (PySem.Str × Addr)) (fp : List Addr), PG (X.blk s H sco (compEnvC sco cl C X.env) fp) tgt gt) (h2 : ∀ (s : Shared) (H : Hp) (C : Addr) (cl : List (PySem.Str × Addr)) (fp : List Addr), PTs (X.blk s H sco (compEnvC sco cl C X.env) fp) ifs tt)
    (h3 : ∀ (s : Shared) (H : Hp) (C : Addr) (cl : List (PySem.Str × Addr)) (fp : List Addr), PE (X.blk s H sco (compEnvC sco cl C X.env) fp) kx tk) (h4 : ∀ (s : Shared) (H : Hp) (C : Addr) (cl : List (PySem.Str × Addr)) (fp : List Addr), PE (X.blk s H sco (compEnvC sco cl C X.env) fp) vx tv) (hu : X.A.units + 1 < cLine) (fold : ∀ x, foldedSetIterable it0 X.env x = pure x)
    (asks : tDx (X := X) z wi gt tt tk tv (own.map (·.2)) σ H Q)
    (fin0 : ∀ A0 C s' m H', Inv X pins σ H' s' → Q (.ref A0) H' → s'.heap.Ns C m → FpOk X pins H' C → compPost (model X.prog X.w) X.A X.xe use Qf (.ref A0) C (.ok .next) s') :
    wpAny (model X.prog X.w) X.A (comprehension (.DictComp kx vx [⟨tgt, it0, ifs, 0⟩] sco pos) sco X.env pos' newDict false (eval it0 X.env) use) Qf X.xe s := by
  have clo : ∀ y ∈ sco.names, y.2 = .free → ∃ c, X.env.cells.lookup y.1 = some c := fun y hy e => by
    cases bk.free y hy e with
    | inl k => exact I.ok.has _ (.inl k)
    | inr k => exact I.ok.has _ (.inr k)
  refine wpAny_comprehension_free (use := use) rfl fold (closure_ok clo) bk.kind (fun y hy e => by rw [bk.uniq y hy, e]) (thn (hi.run pins s σ H _ I asks) fun xv sa hxv => thn hxv fun itv sb hsb => ?_)
  obtain ⟨ia, fp, tn, J, Ha, ei, Ia, T, sta, fpa, ask2⟩ := hsb
  subst ei
  refine wpAny_newObj_type (newEnv_comp ?_)
  generalize eA : sb.heap.objs.size = A0
  have freeA : Ha A0 = none := Ia.hok.fresh (Nat.le_of_eq eA)
  have nsys : (A0 == sysModules) = false := by
    rw [← eA]
    exact beq_false_of_ne (Nat.ne_of_gt Ia.big)
  obtain ⟨Wv, ⟨m0, w0⟩, turn⟩ := ask2 A0 freeA nsys
  generalize es3 : ({ sb with heap := sb.heap.push dob } : Shared) = sc
  have Ib : Inv X pins σ (upd Ha A0 (ObV A0 dob)) sc := by
    rw [← es3]
    refine Ia.laid (t' := sb.toks) (fun b o e => Heap.get?_push_of_some _ e) (Nat.le_of_eq eA) ?_
    rw [← eA]
    exact ⟨Heap.get?_push_size _ rfl, ⟨_, Heap.get?_push_size _ rfl⟩, fun _ _ h k => k _ h⟩
  have hsc : sc.heap = sb.heap.push dob := by rw [← es3]
  have small : ∀ b ∈ fp, b < sb.heap.objs.size := fun b hb => by
    obtain ⟨o, e, _⟩ := T.obj _ _ sta b hb
    exact Heap.lt_size e
  have fpb : ∀ b ∈ fp, FpOk X pins (upd Ha A0 (ObV A0 dob)) b ∧ b < sc.heap.objs.size := fun b hb => by
    have lt := small b hb
    refine ⟨⟨?_, (fpa b hb).2⟩, ?_⟩
    · rw [upd_ne (by rw [← eA]; exact Nat.ne_of_lt lt)]
      exact (fpa b hb).1
    · rw [hsc, Heap.size_push]
      exact Nat.lt_succ_of_lt lt
  have stb : tn 0 sc.heap := T.keep _ _ _ sta fun b _ o e => by
    rw [hsc]
    exact Heap.get?_push_of_some _ e
  have Ic := block_start Ib bk nd fpb
  generalize eHb : upd Ha A0 (ObV A0 dob) = Hb at Ib Ic w0 fpb
  let cs := cellsFrom (sc.heap.objs.size + 1) sco.names (cloFrom X.env.cells sco.names [])
  have pg := h1 sc Hb sc.heap.objs.size cs fp
  have pt := h2 sc Hb sc.heap.objs.size cs fp
  have pk := h3 sc Hb sc.heap.objs.size cs fp
  have pe := h4 sc Hb sc.heap.objs.size cs fp
  show codeAny _ _ (.compStart (.DictComp kx vx [⟨tgt, it0, ifs, 0⟩] sco pos) 0 (.ref ia) (.ref A0) (compEnvC sco cs sc.heap.objs.size X.env)) (compPost (model X.prog X.w) X.A X.xe use Qf (.ref A0) sc.heap.objs.size) { sc with heap := pushCells (sc.heap.push { cls := .type "dict", data := .dict #[] }) sco.names }
  have clear : ∀ b ∈ fp, Hb b = none := fun b hb => (fpb b hb).1.1
  generalize ece : compEnvC sco cs sc.heap.objs.size X.env = ce at pg pt pk pe ⊢
  have ece' : compEnvC sco (cellsFrom (sc.heap.objs.size + 1) sco.names (cloFrom X.env.cells sco.names [])) sc.heap.objs.size X.env = ce := ece
  rw [ece'] at Ic
  have locs : ce.locals = sc.heap.objs.size := by subst ece; rfl
  generalize es4 : ({ sc with heap := pushCells (sc.heap.push { cls := .type "dict", data := .dict #[] }) sco.names } : Shared) = sd at Ic ⊢
  have std : tn 0 sd.heap := T.keep _ _ _ stb fun b _ o e => by
    rw [← es4]
    exact pushCells_keeps _ _ _ _ (Heap.get?_push_of_some _ e)
  have fpk : ∀ {σ' : L2.St} {H' : Hp} {s' : Shared}, Inv (X.blk sc Hb sco ce fp) [] σ' H' s' → (∀ b ∈ fp, H' b = none) → ∀ b ∈ fp, FpOk (X.blk sc Hb sco ce fp) [] H' b := fun {σ' H' s'} I' nn b hb =>
    ⟨nn b hb, (I'.ok.exf b hb).1, I'.ok.exfs b hb, .inl hb, fun x c e => (I'.ok.exf b hb).2 x c e, fun p hp => absurd (show p ∈ ([] : List (Addr × Obj)) ++ [] from hp) (by simp)⟩
  refine codeAny_compStart_dict ?_ (T.self X.A 0 _ _ _ std ?_) <;>
  · refine compLoop_anyD (fun n s' => ∃ i H', Inv (X.blk sc Hb sco ce fp) [] (wipe σ (own.map (·.2))) H' s' ∧ tn i s'.heap ∧ (∀ b ∈ fp, H' b = none) ∧ Wv i n H') ?_ m0 ⟨0, Hb, Ic, std, clear, w0⟩
    rintro n se ⟨i, He, Ie, ste, ne, we⟩
    rcases turn i n He we with ⟨stop, qq⟩ | ⟨go, Nx, hNx, step⟩
    · refine thnF (T.done (X.blk sc Hb sco ce fp) rfl rfl rfl calm i [] se _ He (fun _ _ => False) Ie (fpk Ie ne) ste stop) fun r sf ⟨hr, If⟩ => ?_
      subst hr
      have Ig : Inv X pins σ He sf := Ib.call' (ch := fp) If.os If.base If.hok If.bare fun b hb => ⟨(fpb b hb).1.2.2.2.1, (fpb b hb).1.2.1, (fpb b hb).1.2.2.2.2.1, (fpb b hb).1.2.2.2.2.2⟩
      have nC : He sc.heap.objs.size = none := by
        have zz : He ce.locals = none := If.free
        rwa [locs] at zz
      obtain ⟨m, hn, _⟩ := If.loc
      have hn : sf.heap.Ns ce.locals m := hn
      rw [locs] at hn
      exact fin0 A0 sc.heap.objs.size sf m He Ig qq hn (Ib.fpOk (Nat.le_refl _) nC)
    · refine thnF (T.item (X.blk sc Hb sco ce fp) rfl rfl rfl calm i [] se _ He (fun _ _ => False) Ie (fpk Ie ne) ste go) fun r sf ⟨u, hr, hf⟩ => ?_
      subst hr
      refine thnF hf fun _ sg ⟨x, Hg, Ig, rg, yg, stg, ng⟩ => ?_
      have Ig' := Ig.pinned (fpk Ig ng) (T.obj _ _ stg)
      refine thnF (pg.run _ sg _ Hg x u _ Ig' rg (step x Hg yg)) fun _ sh ⟨σh, Hh, Ih, wh, qh⟩ => ?_
      refine thnF (pt.run _ sh σh Hh _ Ih qh) fun b si ⟨Hi, Ii, qi⟩ => ?_
      have close : ∀ {s' : Shared} {H' : Hp}, Inv (X.blk sc Hb sco ce fp) ([] ++ pinsAt fp sg.heap) σh H' s' → Nx H' → ∃ m, m < n ∧ ∃ i H', Inv (X.blk sc Hb sco ce fp) [] (wipe σ (own.map (·.2))) H' s' ∧ tn i s'.heap ∧ (∀ b ∈ fp, H' b = none) ∧ Wv i m H' := fun {s' H'} I' nx => by
        obtain ⟨m', lt, w'⟩ := hNx H' nx
        have pn : ∀ b ∈ fp, ∀ o, sg.heap.get? b = some o → s'.heap.get? b = some o ∧ H' b = none := fun b hb o e => by
          have zz := I'.pin (b, o) (List.mem_append_right _ (List.mem_append_right _ (mem_pinsAt hb e)))
          exact ⟨zz.1, zz.2.1⟩
        have ll : (wipe σ (own.map (·.2))).length = σh.length := by rw [← wh, wipe_length]
        refine ⟨m', lt, i + 1, H', (I'.unpinned (pins := [])).weak ll (fun j v e => ?_), T.keep _ _ _ stg fun b hb o e => (pn b hb o e).1, fun b hb => ?_, w'⟩
        · rw [← wh] at e
          exact (wipe_some e).1
        · obtain ⟨o, e, _⟩ := T.obj _ _ stg b hb
          exact (pn b hb o e).2
      cases b with
      | false =>
        simp only [Bool.false_eq_true, if_false] at qi ⊢
        exact close Ii qi
      | true =>
        simp only [if_true] at qi ⊢
        refine thnF (pk.run _ si σh Hi _ Ii qi) fun u1 sj ⟨y1, Hj, Ij, rj, qj⟩ => ?_
        refine thnF (pe.run _ sj σh Hj _ Ij qj) fun u2 sk ⟨y2, Hk, Ik, rk, a', l', k', d', Mu', ea, cn, hm, py, rp, ok', hl', nx⟩ => ?_
        cases ea
        exact dct_dictSet (X := X.blk sc Hb sco ce fp) hu Ik cn hm py rj rk rp ok' hl' fun o' s' I' c' => close I' (nx o' c')
theorem pe_dcX {kx vx tgt it0 : Expr} {ifs : List Expr} {sco : Scope} {own : List (PySem.Str × Nat)} {pos : Pos} {wi : TI} {gt : TG} {tt : TT} {tk tv : TE} {z : Zt} (calm : X.calm = true) (nd : X.N.Nodup) (hi : PI X tgt it0 wi) (bk : BlkOk X.N X.env.scope sco own)
    (h1 : ∀ (s : Shared) (H : Hp) (C : Addr) (cl : List (PySem.Str × Addr)) (fp : List Addr), PG (X.blk s H sco (compEnvC sco cl C X.env) fp) tgt gt) (h2 : ∀ (s : Shared) (H : Hp) (C : Addr) (cl : List (PySem.Str × Addr)) (fp : List Addr), PTs (X.blk s H sco (compEnvC sco cl C X.env) fp) ifs tt)
    (h3 : ∀ (s : Shared) (H : Hp) (C : Addr) (cl : List (PySem.Str × Addr)) (fp : List Addr), PE (X.blk s H sco (compEnvC sco cl C X.env) fp) kx tk) (h4 : ∀ (s : Shared) (H : Hp) (C : Addr) (cl : List (PySem.Str × Addr)) (fp : List Addr), PE (X.blk s H sco (compEnvC sco cl C X.env) fp) vx tv) (hu : X.A.units + 1 < cLine) (fold : ∀ x, foldedSetIterable it0 X.env x = pure x := by intro _; rfl) :
    PE X (.DictComp kx vx [⟨tgt, it0, ifs, 0⟩] sco pos) (tDx (X := X) z wi gt tt tk tv (own.map (·.2))) := by
  refine ⟨fun pins s σ H Q I asks => ?_⟩
  rw [arm_eval_DictComp]
  refine dcX_core calm nd I hi bk h1 h2 h3 h4 hu fold asks fun A0 C s' m H' I' q hn f => ⟨m, hn, fun h'' sb => ?_⟩
  obtain ⟨f0, f1, f2, f3, f4, f5⟩ := f
  exact ⟨.ref A0, H', I'.turned (t' := s'.toks) (fun b o hb e => (sb.2 b hb).trans e) f0 f1 f3 f4 f5, rfl, q⟩
end
end DL
set_option Elab.async false
set_option linter.all false
set_option maxRecDepth 100000
set_option maxHeartbeats 2000000
/-! The value layer, part 40: dict comprehensions read. -/
namespace DL
open PySem PySem.Spec PyProof.Rows L2

/-- put, if that is known to go -/
def putO (l : List (D × D)) (k d : D) : Option (List (D × D)) := if kOk l k = true ∧ l.length < 1000 then some (putD l k d) else none
def sDcL (ρ : Env) (t : D → Env → Option Env) (tt : Et) (fk fv : Ep) : List D → List (D × D) → M (List (D × D))
  | [], acc => M.pure acc
  | d :: l, acc => do
    let ρ1 ← ofOpt (t d ρ)
    let b ← nox (tt ρ1)
    if b then
      let k ← nox (fk ρ1)
      let y ← nox (fv ρ1)
      let acc' ← ofOpt (putO acc k y)
      sDcL ρ t tt fk fv l acc'
    else sDcL ρ t tt fk fv l acc
def eDc (it : Es) (t : D → Env → Option Env) (tt : Et) (fk fv : Ep) (vs : List Nat) : Ep := fun ρ => do
  let ds ← it ρ
  let r ← sDcL (wipeE ρ vs) t tt fk fv ds []
  M.pure (.dct r)
section
variable {X : Cx} {z : Zt} {W : WX} {kx vx tg iter c : Expr} {ifs : List Expr} {scope : Scope} {own : List (Str × Nat)} {pos : Pos} {it : Es} {gt : TG} {t : D → Env → Option Env} {is : List Nat} {tt : Et} {fk fv : Ep}
theorem dob_cont {K : PySem.W.Frag} {mg : Str → Option Value} {Mu : List Addr} {H : Hp} {a : Addr} (h : H a = some (ObV a dob)) (hs : (a == sysModules) = false) : Cont K mg z Mu H a (.dct []) :=
  .dct (ks := []) (vs := []) h hs ⟨rfl, rfl, rfl⟩ rfl (by show 0 ≤ _; omega) ⟨.nil, .nil⟩ .nil .nil ⟨fun i e d h => by simp at h, .nil⟩
theorem dc_read {σ : L2.St} {H : Hp} {Q : VK} {ρ : Env} {g : G} {Mu : List Addr} (hgo : ∀ (v : V) (d : D) (σ : L2.St) (H : Hp) (ρ ρ' : Env) (Mu : List Addr) (Q : L2.St → Hp → Prop), EnvOk X.K X.mg z Mu H σ ρ → Rep X.K X.mg z Mu H v d → t d ρ = some ρ' → (∀ σ', EnvOk X.K X.mg z Mu H σ' ρ' → Tch is σ σ' ρ ρ' → Q σ' H) → gt v σ H Q)
    (hsub : ∀ i ∈ is, i ∈ own.map (·.2)) (E : EnvOk X.K X.mg z Mu H σ ρ) (G1 : GOk z H g)
    (hx : (eDc it t tt fk fv (own.map (·.2)) ρ g).all (fun d g' => ∀ v H', Ext z H H' → GOk z H' g' → RK X.K X.mg z .new H Mu H' v d → Q v H') (XW X z W Mu σ H)) :
    tDx (X := X) z (tI X z W true it) gt (tT X z W0 tt) (tE X z W0 .sh fk) (tE X z W0 .sh fv) (own.map (·.2)) σ H Q := by
  refine ⟨ρ, g, Mu, E, G1, R.all_imp (R.all_bind hx) (fun ds g1 hx J H1 e1 G2 hy Dd nD hsys => ?_) fun _ _ _ _ h => h⟩
  have hx := R.all_bind hx
  have np : Dd ≠ z.p := fun w => by
    rw [w, G2.p] at nD; cases nD
  have nl : Dd ≠ z.l := fun w => by
    rw [w, G2.l] at nD; cases nD
  have nc : Dd ≠ z.c := fun w => by
    rw [w, G2.c] at nD; cases nD
  have nH : ¬ Oc H Dd := e1.none (oc_none nD) np nl
  have E1 := E.ext G1 e1 G2
  have s1 : Same H1 (upd H1 Dd (ObV Dd dob)) := same_upd' nD
  refine ⟨fun i m H2 => m = ds.length - i ∧ i ≤ ds.length ∧ ∃ acc g2, Cont X.K X.mg z (Dd :: Mu) H2 Dd (.dct acc) ∧ GOk z H2 g2 ∧ Ext z H1 H2 ∧
      (sDcL (wipeE ρ (own.map (·.2))) t tt fk fv (ds.drop i) acc g2).all (fun out g' => ∀ v H', Ext z H H' → GOk z H' g' → RK X.K X.mg z .new H Mu H' v (.dct out) → Q v H') (XW X z W Mu σ H),
    ⟨ds.length, rfl, Nat.zero_le _, [], g1, dob_cont upd_same hsys, G2.same s1, Ext.of s1, hx⟩, ?_⟩
  rintro i m H2 ⟨rfl, hle, acc, g2, hC, G3, e2, hx2⟩
  have hyi : ExtM (if true = true then [z.p, z.l] else Mu) H1 H2 := fun b u q t hn => e2.to b u q t (fun w => hn (by rw [if_pos rfl]; simp [w])) (fun w => hn (by rw [if_pos rfl]; simp [w]))
  obtain ⟨y1, y2⟩ := hy H2 hyi i
  by_cases hlt : i < ds.length
  · obtain ⟨hgo', hyl⟩ := y1 ds[i] (List.getElem?_eq_getElem hlt)
    rw [List.drop_eq_getElem_cons hlt] at hx2
    obtain ⟨ρ3, ht, hx3⟩ := R.all_opt (R.all_bind hx2)
    refine .inr ⟨hgo', fun H' => i + 1 ≤ ds.length ∧ ∃ acc g2, Cont X.K X.mg z (Dd :: Mu) H' Dd (.dct acc) ∧ GOk z H' g2 ∧ Ext z H1 H' ∧
      (sDcL (wipeE ρ (own.map (·.2))) t tt fk fv (ds.drop (i + 1)) acc g2).all (fun out g' => ∀ v H', Ext z H H' → GOk z H' g' → RK X.K X.mg z .new H Mu H' v (.dct out) → Q v H') (XW X z W Mu σ H), fun H' ⟨h1, h2⟩ => ⟨ds.length - (i + 1), by omega, rfl, h1, h2⟩, fun x H3 y => ?_⟩
    obtain ⟨sm, rep⟩ := hyl x H3 y
    have G4 := G3.same sm
    have e3 : Ext z H1 H3 := e2.trans (Ext.of sm)
    have B2 : EnvOk X.K X.mg z (Dd :: Mu) H2 (wipe σ (own.map (·.2))) (wipeE ρ (own.map (·.2))) := (E.bar G1 (e1.trans e2) G3 nH hC.there hC.ncode).wipe _
    have B3 := B2.ext G3 (Ext.of sm) G4
    have rx := rep (Dd :: Mu) (fun b q hn w => by
      rcases List.mem_cons.mp w with w | w
      · exact q.ne (oc_none nD) w
      · exact hn w) B2.mu.at_
    have step : ∀ {Ha Hb : Hp} {acc : List (D × D)}, Cont X.K X.mg z (Dd :: Mu) Ha Dd (.dct acc) → Ext z Ha Hb → Cont X.K X.mg z (Dd :: Mu) Hb Dd (.dct acc) := fun c e =>
      c.mono (fun u q t => e.to _ u q t np nl) (fun b u q t hn => e.to b u q t (fun w => hn (w ▸ B2.mu.p)) (fun w => hn (w ▸ B2.mu.l))) fun _ _ h => h
    have hC3 := step hC (Ext.of sm)
    refine hgo x ds[i] _ H3 _ ρ3 (Dd :: Mu) _ B3 rx ht fun σ4 E4 T4 => ⟨wipe_tch T4 hsub, ?_⟩
    refine ⟨ρ3, g2, Dd :: Mu, E4, G4, R.all_imp (all_nox (E' := XW X z W0 (Dd :: Mu) σ4 H3) (R.all_bind hx3)) (fun b g3 hx4 H5 e5 G5 => ?_) fun _ _ _ _ h => h⟩
    have hC5 := step hC3 e5
    cases b with
    | false => exact ⟨hlt, acc, g3, hC5, G5, e3.trans e5, hx4⟩
    | true =>
      dsimp only
      rw [if_pos rfl]
      have E5 := E4.ext G4 e5 G5
      refine ⟨ρ3, g3, Dd :: Mu, E5, G5, R.all_imp (all_nox (E' := XW X z W0 (Dd :: Mu) σ4 H5) (R.all_bind hx4)) (fun k g4 hx5 v6 H6 e6 G6 k6 => ?_) fun _ _ _ _ h => h⟩
      have E6 := E5.ext G5 e6 G6
      have hC6 := step hC5 e6
      refine ⟨ρ3, g4, Dd :: Mu, E6, G6, R.all_imp (all_nox (E' := XW X z W0 (Dd :: Mu) σ4 H6) (R.all_bind hx5)) (fun yd g5 hx6 v7 H7 e7 G7 k7 => ?_) fun _ _ _ _ h => h⟩
      have hC7 := step hC6 e7
      have k6 : Rep X.K X.mg z (Dd :: Mu) H6 v6 k := k6
      have k7 : Rep X.K X.mg z (Dd :: Mu) H7 v7 yd := k7
      obtain ⟨acc', ha, hx7⟩ := R.all_opt (R.all_bind hx6)
      obtain ⟨⟨hk, hl⟩, rfl⟩ := opt_if ha
      have hH : ∃ o es ep, H7 Dd = some (ObV Dd o) ∧ o.data = .dict es ep := by cases hC7 with | dct h h1 h2 h3 => exact ⟨_, _, _, h, h3⟩
      obtain ⟨o, es, ep, hH, hd⟩ := hH
      refine ⟨Dd, acc, k, yd, Dd :: Mu, rfl, hC7, List.mem_cons_self, .inl (k6.ext E6.mu G6 e7), k7, hk, hl, fun o' c' => ⟨hlt, putD acc k yd, g5, c', G7.write np nl nc (fun ps w => by rw [hH] at w; cases w) (fun q w => by rw [hH] at w; exact obV_code hd (Option.some.inj w)), ⟨fun b u q t h1 h2 => ?_⟩, hx7⟩⟩
      have hb : b ≠ Dd := fun w => by rw [w, nD] at q; cases q
      rw [upd_ne hb]
      exact e7.to b u (e6.to b u (e5.to b u (e3.to b u q t h1 h2) t h1 h2) t h1 h2) t h1 h2
  · refine .inl ⟨y2 (by omega), ?_⟩
    rw [List.drop_eq_nil_of_le (by omega)] at hx2
    have hq : ∀ v H', Ext z H H' → GOk z H' g2 → RK X.K X.mg z .new H Mu H' v (.dct acc) → Q v H' := hx2
    refine hq _ H2 (e1.trans e2) G3 ?_
    show if D.box (.dct acc) = true then ∃ a, V.ref Dd = .ref a ∧ ¬ Oc H a ∧ Cont X.K X.mg z (a :: Mu) H2 a (.dct acc) else Rep X.K X.mg z Mu H2 (.ref Dd) (.dct acc)
    rw [if_pos (show D.box (.dct acc) = true from rfl)]
    exact ⟨Dd, rfl, nH, hC⟩
theorem de_dc (hX : XG X) (hi : DI X z W true tg iter it) (ok : BlkOk X.N X.env.scope scope own) (hsub : ∀ i ∈ is, i ∈ own.map (·.2))
    (hg : ∀ (s : Shared) (H : Hp) (C : Addr) (cl : List (Str × Addr)) (fp : List Addr), TgOk (X.blk s H scope (compEnvC scope cl C X.env) fp) z tg gt t is)
    (ht : ∀ (s : Shared) (H : Hp) (C : Addr) (cl : List (Str × Addr)) (fp : List Addr), DTs (X.blk s H scope (compEnvC scope cl C X.env) fp) z W0 ifs tt)
    (hk : ∀ (s : Shared) (H : Hp) (C : Addr) (cl : List (Str × Addr)) (fp : List Addr), DE (X.blk s H scope (compEnvC scope cl C X.env) fp) z W0 .sh kx fk)
    (he : ∀ (s : Shared) (H : Hp) (C : Addr) (cl : List (Str × Addr)) (fp : List Addr), DE (X.blk s H scope (compEnvC scope cl C X.env) fp) z W0 .sh vx fv) (hs : ∀ x, foldedSetIterable iter X.env x = pure x := by intro _; rfl) :
    DE X z W .new (.DictComp kx vx [⟨tg, iter, ifs, 0⟩] scope pos) (eDc it t tt fk fv (own.map (·.2))) := by
  refine ⟨fun pins s σ H Q I ⟨ρ, g, Mu, E, G1, hx⟩ => ?_⟩
  have hu : X.A.units + 1 < cLine := by have := hX.eq; omega
  refine (pe_dcX (tt := tT X z W0 tt) (tk := tE X z W0 .sh fk) (tv := tE X z W0 .sh fv) (z := z) hX.calm hX.nd hi ok (fun s H C cl fp => (hg s H C cl fp).pg) ht hk he hu hs).run pins s σ H Q I ?_
  exact dc_read (fun v d σ H ρ ρ' Mu Q => (hg s H default [] []).ok v d σ H ρ ρ' Mu Q) hsub E G1 hx
end
end DL
set_option Elab.async false
set_option linter.all false
set_option maxRecDepth 100000
set_option maxHeartbeats 2000000
/-! The value layer, part 41: y = {k: v for ..} on one line. -/
namespace DL
open PySem PySem.Spec PyProof.Rows L2
section
variable {X : Cx} {kx vx tg iter : Expr} {ifs : List Expr} {scope : Scope} {own : List (Str × Nat)} {pos : Pos} {it : Es} {gt : TG} {t : D → Env → Option Env} {is : List Nat} {tt : Et} {fk fv : Ep}
theorem ds_setDc {n : En} {i : Nat} {y : Str} {py spos : Pos} (hX : XG X) (hy : X.N[i]? = some y) (hyl : X.env.scope.names.lookup y = some .local)
    (hsw : swapsWith (.DictComp kx vx [⟨tg, iter, ifs, 0⟩] scope pos) (some (.Name y py)) spos.line X.env = pure true) (hi : DI X n.z n.W true tg iter it) (ok : BlkOk X.N X.env.scope scope own) (hsub : ∀ i ∈ is, i ∈ own.map (·.2))
    (hg : ∀ (s : Shared) (H : Hp) (C : Addr) (cl : List (Str × Addr)) (fp : List Addr), TgOk (X.blk s H scope (compEnvC scope cl C X.env) fp) n.z tg gt t is)
    (ht : ∀ (s : Shared) (H : Hp) (C : Addr) (cl : List (Str × Addr)) (fp : List Addr), DTs (X.blk s H scope (compEnvC scope cl C X.env) fp) n.z W0 ifs tt)
    (hk : ∀ (s : Shared) (H : Hp) (C : Addr) (cl : List (Str × Addr)) (fp : List Addr), DE (X.blk s H scope (compEnvC scope cl C X.env) fp) n.z W0 .sh kx fk)
    (he : ∀ (s : Shared) (H : Hp) (C : Addr) (cl : List (Str × Addr)) (fp : List Addr), DE (X.blk s H scope (compEnvC scope cl C X.env) fp) n.z W0 .sh vx fv) (hs : ∀ x, foldedSetIterable iter X.env x = pure x := by intro _; rfl) :
    DS X n (.Assign [.Name y py] (.DictComp kx vx [⟨tg, iter, ifs, 0⟩] scope pos) spos) (sSet true i (eDc it t tt fk fv (own.map (·.2)))) := by
  refine ⟨fun pins s σ H D I ⟨ρ, g, Mu, S, hq⟩ => ?_⟩
  rw [exec_Assign_Name_used _ _ _ _ hsw]
  refine wpAny_bind (wpAny_standAt (wpAny_bind ?_))
  have hu : X.A.units + 1 < cLine := by have := hX.eq; omega
  show wpAny _ X.A (do let _ ← comprehension (.DictComp kx vx [⟨tg, iter, ifs, 0⟩] scope pos) scope X.env (firstIterPos [⟨tg, iter, ifs, 0⟩] pos) newDict false (eval iter X.env) (some (assign (.Name y py) X.env))) _ _ s
  refine wpAny_bind (thn (dcX_core (Qf := fun _ s' => SP X pins D .next s') (wi := tI X n.z n.W true it) (tt := tT X n.z W0 tt) (tk := tE X n.z W0 .sh fk) (tv := tE X n.z W0 .sh fv) (gt := gt) (z := n.z)
    (Q := fun v H' => ∃ d g', eDc it t tt fk fv (own.map (·.2)) ρ g = .ok d g' ∧ Ext n.z H H' ∧ GOk n.z H' g' ∧ RK X.K X.mg n.z .new H Mu H' v d) hX.calm hX.nd I hi ok (fun s H C cl fp => (hg s H C cl fp).pg) ht hk he hu hs
    (dc_read (fun v d σ H ρ ρ' Mu Q => (hg s H default [] []).ok v d σ H ρ ρ' Mu Q) hsub S.env S.g (R.all_imp (R.all_eq (EW.x S (R.all_bind hq))) (fun d g1 ⟨q, _⟩ v H1 e1 G2 k1 => ⟨d, g1, q, e1, G2, k1⟩) fun _ _ _ _ h => h))
    fun A0 C s' m H' I' ⟨d, g1, q, e1, G2, k1⟩ hn fC => ?_) fun _ s' hq => wpAny_pure (wpAny_pure hq))
  have hq := R.all_bind hq
  rw [q] at hq
  obtain ⟨f0, f1, f2, f3, f4, f5⟩ := fC
  show wpAny _ _ (assign (.Name y py) X.env (.ref A0)) _ _ _
  refine wpAny_assign_Name (store_ok2 (v := V.ref A0) I' hX.nd hy (.inl hyl) rfl (fun s2 I3 ⟨a, sb, ha⟩ => ?_) (.inr hyl))
  have haC : C ≠ a := by
    rcases ha with w | w
    · rw [w]; exact f1
    · exact fun e => f4 y a w e.symm
  refine ⟨m, hn.sameBut sb haC, fun h3 sb3 => ?_⟩
  obtain ⟨Mu', S'⟩ := S.store (i := i) e1 G2 true rfl k1
  exact ⟨_, _, I3.turned (t' := s2.toks) (fun b o hb e => (sb3.2 b hb).trans e) f0 f1 f3 f4 f5, hq _ _ Mu' S'⟩
theorem ds_setDcS {n : En} {i : Nat} {y : Str} {py spos : Pos} (hX : XG X) (hy : X.N[i]? = some y) (hyl : X.env.scope.names.lookup y = some .local)
    (hsw : swapsWith (.DictComp kx vx [⟨tg, iter, ifs, 0⟩] scope pos) (some (.Name y py)) spos.line X.env = pure true) (hi : DI X n.z n.W true tg iter it) (ok : BlkOk X.N X.env.scope scope own) (hsub : ∀ i ∈ is, i ∈ own.map (·.2))
    (hg : ∀ (s : Shared) (H : Hp) (C : Addr) (cl : List (Str × Addr)) (fp : List Addr), TgOk (X.blk s H scope (compEnvC scope cl C X.env) fp) n.z tg gt t is)
    (ht : ∀ (s : Shared) (H : Hp) (C : Addr) (cl : List (Str × Addr)) (fp : List Addr), DTs (X.blk s H scope (compEnvC scope cl C X.env) fp) n.z W0 ifs tt)
    (hk : ∀ (s : Shared) (H : Hp) (C : Addr) (cl : List (Str × Addr)) (fp : List Addr), DE (X.blk s H scope (compEnvC scope cl C X.env) fp) n.z W0 .sh kx fk)
    (he : ∀ (s : Shared) (H : Hp) (C : Addr) (cl : List (Str × Addr)) (fp : List Addr), DE (X.blk s H scope (compEnvC scope cl C X.env) fp) n.z W0 .sh vx fv) (hs : ∀ x, foldedSetIterable iter X.env x = pure x := by intro _; rfl) :
    DS X n (.Assign [.Name y py] (.DictComp kx vx [⟨tg, iter, ifs, 0⟩] scope pos) spos) (sSet false i (eDc it t tt fk fv (own.map (·.2)))) := by
  have h := ds_setDc hX hy hyl hsw hi ok hsub hg ht hk he hs
  refine ⟨fun pins s σ H D I ⟨ρ, g, Mu, S, hq⟩ => ?_⟩
  refine h.run pins s σ H D I ⟨ρ, g, Mu, S, ?_⟩
  have hl : i < ρ.length := by rw [S.env.len, I.len]; exact (List.getElem?_eq_some_iff.mp hy).1
  have hq : ((eDc it t tt fk fv (own.map (·.2)) ρ g).bind fun d => M.pure (.nx (ρ.set i (some (false && d.box, d))))).all (FW X n D) (EW X n) := hq
  show ((eDc it t tt fk fv (own.map (·.2)) ρ g).bind fun d => M.pure (.nx (ρ.set i (some (true && d.box, d))))).all (FW X n D) (EW X n)
  refine R.of_bind (R.all_imp (R.all_bind hq) (fun d g1 hq => ?_) fun _ _ _ _ h => h)
  intro σ' H' Mu' S'
  obtain ⟨Mu2, S2⟩ := S'.frz (i := i)
  refine hq σ' H' Mu2 ?_
  have e : frz (ρ.set i (some (true && d.box, d))) i = ρ.set i (some (false && d.box, d)) := by
    unfold frz
    rw [List.getElem?_set_self hl]
    cases hb : d.box with
    | true => show (ρ.set i (some (true, d))).set i (some (false, d)) = _; rw [List.set_set]; rfl
    | false => rfl
  rw [e] at S2
  exact S2
end
end DL
set_option Elab.async false
set_option linter.all false
set_option maxRecDepth 100000
set_option maxHeartbeats 2000000
/-! The value layer, part 42: dict displays. -/
namespace DL
open PySem PySem.Spec PyProof.Rows L2

def sPrs : List (Ep × Ep) → Env → M (List (D × D))
  | [], _ => M.pure []
  | (fk, fv) :: r, ρ => do
    let k ← nox (fk ρ)
    let y ← nox (fv ρ)
    let l ← sPrs r ρ
    M.pure ((k, y) :: l)
def mkD : List (D × D) → List (D × D) → Option (List (D × D))
  | acc, [] => some acc
  | acc, (k, y) :: l => (putO acc k y).bind fun acc' => mkD acc' l
/-- keys that stand alone only -/
def oddK : D → Bool
  | .non => true
  | .bl _ => true
  | .str _ => true
  | _ => false
def mkO : List (D × D) → Option (List (D × D))
  | [(k, y)] => if oddK k = true then some [(k, y)] else mkD [] [(k, y)]
  | l => mkD [] l
theorem mkO_some {l r : List (D × D)} (h : mkO l = some r) : (∃ k y, l = [(k, y)] ∧ oddK k = true ∧ r = [(k, y)]) ∨ mkD [] l = some r := by
  unfold mkO at h
  split at h
  · rename_i k y
    by_cases ho : oddK k = true
    · rw [if_pos ho] at h
      exact .inl ⟨k, y, rfl, ho, (Option.some.inj h).symm⟩
    · rw [if_neg ho] at h
      exact .inr h
  · exact .inr h
def eDct (ps : List (Ep × Ep)) : Ep := fun ρ => do
  let l ← sPrs ps ρ
  let r ← ofOpt (mkO l)
  M.pure (.dct r)
section
variable {X : Cx} {z : Zt} {W : WX} {σ : L2.St}
abbrev RP (K : PySem.W.Frag) (mg : Str → Option Value) (z : Zt) (Mu : List Addr) (H : Hp) : List (V × V) → List (D × D) → Prop := Paired fun v d => Rep K mg z Mu H v.1 d.1 ∧ Rep K mg z Mu H v.2 d.2
abbrev tPr (X : Cx) (z : Zt) (ps : List (Ep × Ep)) : List (TE × TE) := ps.map fun p => (tE X z W0 .sh p.1, tE X z W0 .sh p.2)
theorem prs_run : ∀ (ps : List (Ep × Ep)) {H : Hp} {Q : List (V × V) → Hp → Prop} {ρ : Env} {g : G} {Mu : List Addr} {E0 : Str → Str → List D → G → Prop}, EnvOk X.K X.mg z Mu H σ ρ → GOk z H g →
    (sPrs ps ρ g).all (fun l g' => ∀ vs H', Ext z H H' → GOk z H' g' → RP X.K X.mg z Mu H' vs l → Q vs H') E0 → tPairs (tPr X z ps) σ H Q
  | [], H, Q, ρ, g, Mu, _, E, G1, hx => (show ∀ vs H', Ext z H H' → GOk z H' g → RP X.K X.mg z Mu H' vs [] → Q vs H' from hx) [] H Ext.refl G1 .nil
  | (fk, fv) :: r, H, Q, ρ, g, Mu, _, E, G1, hx => by
    refine ⟨ρ, g, Mu, E, G1, R.all_imp (all_nox (E' := XW X z W0 Mu σ H) (R.all_bind hx)) (fun k g1 hx v H1 e1 G2 k1 => ?_) fun _ _ _ _ h => h⟩
    have E1 := E.ext G1 e1 G2
    refine ⟨ρ, g1, Mu, E1, G2, R.all_imp (all_nox (E' := XW X z W0 Mu σ H1) (R.all_bind hx)) (fun y g2 hx v2 H2 e2 G3 k2 => ?_) fun _ _ _ _ h => h⟩
    have E2 := E1.ext G2 e2 G3
    refine prs_run r E2 G3 (R.all_imp (R.all_bind hx) (fun l g3 hq vs H3 e3 G4 rp => ?_) fun _ _ _ _ h => h)
    have k1 : Rep X.K X.mg z Mu H1 v k := k1
    have k2 : Rep X.K X.mg z Mu H2 v2 y := k2
    exact hq _ H3 ((e1.trans e2).trans e3) G4 (.cons ⟨(k1.ext E1.mu G2 e2).ext E2.mu G3 e3, k2.ext E2.mu G3 e3⟩ rp)
/-- the pairs are put, one behind the other -/
theorem put_all {pins : List (Addr × Obj)} {a : Addr} {Mu : List Addr} {A : Around} {E : Value → Shared → Prop} (hu : A.units + 1 < cLine) (ha : a ∈ Mu) : ∀ {l : List (D × D)} {vs : List (V × V)} {us : List (Value × Value)} {acc r : List (D × D)} {s : Shared} {H : Hp} {Q : PUnit → Shared → Prop}, Inv X pins σ H s → VV vs us → RP X.K X.mg z Mu H vs l → Cont X.K X.mg z Mu H a (.dct acc) → mkD acc l = some r →
    (∀ H' s', Inv X pins σ H' s' → Cont X.K X.mg z Mu H' a (.dct r) → (∀ b, b ≠ a → H' b = H b) → Q PUnit.unit s') →
    wpAny (model X.prog X.w) A (forIn us PUnit.unit fun (x : Value × Value) (_ : PUnit) => (do dictSet a x.1 x.2; pure (ForInStep.yield PUnit.unit) : Sem (ForInStep PUnit))) Q E s
  | [], _, _, acc, r, s, H, Q, I, vv, rp, c, hr, hq => by
    cases rp
    cases vv
    cases hr
    rw [List.forIn_nil]
    exact wpAny_pure (hq H s I c fun _ _ => rfl)
  | (k, y) :: l, _, _, acc, r, s, H, Q, I, vv, rp, c, hr, hq => by
    cases rp with
    | cons h t =>
    cases vv with
    | @cons p q ps qs h2 t2 =>
    obtain ⟨acc', h3, h4⟩ := Option.bind_eq_some_iff.mp hr
    obtain ⟨⟨hk, hl⟩, rfl⟩ := opt_if h3
    rw [List.forIn_cons]
    refine wpAny_bind (wpAny_bind (dct_dictSet hu I c ha (.inl h.1) h2.1 h2.2 h.2 hk hl fun o' s' I' c' => wpAny_pure ?_))
    have em : ExtM Mu H (upd H a (ObV a o')) := fun b q hb _ hn => by rw [upd_ne (fun e : b = a => hn (e ▸ ha))]; exact hb
    refine put_all hu ha I' t2 (Paired.mapP t fun _ _ w => ⟨w.1.mono em fun _ _ h => h, w.2.mono em fun _ _ h => h⟩) c' h4 fun H' s'' I'' c'' hb => hq H' s'' I'' c'' fun b hba => ?_
    rw [hb b hba, upd_ne hba]
/-- the first key of a dict -/
theorem put_odd {κ : Type} [DecidableEq κ] {pins : List (Addr × Obj)} {s : Shared} {H : Hp} {a : Addr} {Mu : List Addr} {A : Around} {E : Value → Shared → Prop} {Q : Unit → Shared → Prop} {y v : V} {u w : Value} {k d : D} (knd : PySem.KeyKind X.prog X.w κ) (c : κ) (his : knd.is c u = true) (back : ∀ u', knd.is c u' = true → RelV y u')
    (I : Inv X pins σ H s) (cn : Cont X.K X.mg z Mu H a (.dct [])) (ha : a ∈ Mu) (rv : RelV v w) (rk : Rep X.K X.mg z Mu H y k) (rp : Rep X.K X.mg z Mu H v d) (odd : oddK k = true)
    (h : ∀ o' s', Inv X pins σ (upd H a (ObV a o')) s' → Cont X.K X.mg z Mu (upd H a (ObV a o')) a (.dct [(k, d)]) → Q () s') : wpAny (model X.prog X.w) A (dictSet a u w) Q E s := by
  cases cn with
  | @dct o es ep ks vs _ ho hsys hex hdt hz en r1 r2 ky =>
  have hg : s.heap.get? a = some o := (I.hok a _ ho).1
  have e0 : es.toList = [] := by
    have := en.size r1
    rw [← Array.length_toList] at this
    exact List.length_eq_zero_iff.mp this
  have hk0 : PySem.KeysOf knd es := by
    intro e he
    have := Array.mem_toList_iff.mpr he
    rw [e0] at this
    cases this
  have dd : s.heap.DictOf knd a [] := ⟨o, es, ep, hg, hex, hdt, hk0, by rw [e0]; exact .nil, .nil⟩
  refine wpAny_dictSet_pairs (hsz := Nat.zero_le _) his dd fun h' dd' hs => ?_
  obtain ⟨o', es', ep', g', hex', hd', _, hp, _⟩ := dd'
  have hp : Pairs knd es'.toList [(c, w)] := hp
  generalize eL : es'.toList = L at hp
  cases hp with
  | @cons e _ E0 _ q1 q2 q3 =>
    cases q3
    have I' : Inv X pins σ (upd H a (ObV a o')) { s with heap := h', toks := s.toks + 1 } := d_write I (by rw [ho]; exact True.intro) hs ⟨o', g'⟩ ⟨g', ⟨_, g'⟩, fun _ _ h k => k _ h⟩
    have em : ExtM Mu H (upd H a (ObV a o')) := fun b q hq _ hb => by rw [upd_ne (fun e : b = a => hb (e ▸ ha))]; exact hq
    have v1 : Vals [y] (es'.toList.map (·.key)) := by rw [eL]; exact .cons (back _ q1) .nil
    have v2 : Vals [v] (es'.toList.map (·.val)) := by rw [eL]; exact .cons (show RelV v e.val from by rw [q2]; exact rv) .nil
    refine h o' _ I' (.dct (ks := [y]) (vs := [v]) upd_same hsys hex' hd' ?_ ⟨v1, v2⟩ (.cons (rk.mono em fun _ _ h => h) .nil) (.cons (rp.mono em fun _ _ h => h) .nil) ⟨fun i e d hi hk => ?_, by simp⟩)
    · have := congrArg List.length eL
      rw [Array.length_toList] at this
      rw [this, sizeLine_eq]
      show 1 ≤ 16777216
      decide
    · cases i with
      | succ i => simp at hk
      | zero =>
        simp only [List.map_cons, List.map_nil, List.getElem?_cons_zero, Option.some.injEq] at hk
        subst hk
        cases k <;> first | exact True.intro | cases odd
theorem put_odd' {pins : List (Addr × Obj)} {s : Shared} {H : Hp} {a : Addr} {Mu : List Addr} {A : Around} {E : Value → Shared → Prop} {Q : Unit → Shared → Prop} {y v : V} {u w : Value} {k d : D} (I : Inv X pins σ H s) (cn : Cont X.K X.mg z Mu H a (.dct [])) (ha : a ∈ Mu) (ry : RelV y u) (rv : RelV v w) (rk : Rep X.K X.mg z Mu H y k) (rp : Rep X.K X.mg z Mu H v d) (odd : oddK k = true)
    (h : ∀ o' s', Inv X pins σ (upd H a (ObV a o')) s' → Cont X.K X.mg z Mu (upd H a (ObV a o')) a (.dct [(k, d)]) → Q () s') : wpAny (model X.prog X.w) A (dictSet a u w) Q E s := by
  cases k
  case int => cases odd
  case tup => cases odd
  case lst => cases odd
  case dct => cases odd
  case set => cases odd
  case st => cases odd
  case scr => cases odd
  case ty => cases odd
  case fn => cases odd
  case exc => cases odd
  case lam => cases odd
  · cases rk
    cases ry
    exact put_odd (leafKind X.prog X.w) .none rfl (fun u' hu => by cases u' <;> first | rfl | cases hu) I cn ha rv .non rp odd h
  · rename_i b
    cases rk
    cases ry
    exact put_odd (PpSet.boolK X.prog X.w) b (by show (b == b) = true; exact beq_self_eq_true b) (fun u' hu => by rw [PpSet.isB_shape hu]; rfl) I cn ha rv (.bl b) rp odd h
  · rename_i x
    cases rk
    obtain ⟨t, rfl⟩ := ry
    exact put_odd (mixKind X.prog X.w) (.inr x) (mixKind_str _ _ x t) (fun u' hu => relV_key (k := .inr x) hu) I cn ha rv (.str x) rp odd h
/-- the pairs of a display are put -/
theorem put_all' {pins : List (Addr × Obj)} {a : Addr} {Mu : List Addr} {A : Around} {E : Value → Shared → Prop} (hu : A.units + 1 < cLine) (ha : a ∈ Mu) {l : List (D × D)} {vs : List (V × V)} {us : List (Value × Value)} {r : List (D × D)} {s : Shared} {H : Hp} {Q : PUnit → Shared → Prop} (I : Inv X pins σ H s) (vv : VV vs us) (rp : RP X.K X.mg z Mu H vs l) (c : Cont X.K X.mg z Mu H a (.dct [])) (hr : mkO l = some r)
    (hq : ∀ H' s', Inv X pins σ H' s' → Cont X.K X.mg z Mu H' a (.dct r) → (∀ b, b ≠ a → H' b = H b) → Q PUnit.unit s') :
    wpAny (model X.prog X.w) A (forIn us PUnit.unit fun (x : Value × Value) (_ : PUnit) => (do dictSet a x.1 x.2; pure (ForInStep.yield PUnit.unit) : Sem (ForInStep PUnit))) Q E s := by
  rcases mkO_some hr with ⟨k, y, rfl, ho, rfl⟩ | hr
  · cases rp with
    | cons h t =>
    cases t
    cases vv with
    | @cons p q ps qs h2 t2 =>
    cases t2
    rw [List.forIn_cons]
    refine wpAny_bind (wpAny_bind (put_odd' I c ha h2.1 h2.2 h.1 h.2 ho fun o' s' I' c' => wpAny_pure ?_))
    show wpAny (model X.prog X.w) A (pure PUnit.unit : Sem PUnit) Q E s'
    exact wpAny_pure (hq _ s' I' c' fun b hb => upd_ne hb)
  · exact put_all hu ha I vv rp c hr hq
theorem de_dct (hX : XG X) {keys : List (Option Expr)} {values : List Expr} {pos : Pos} {ps : List (Ep × Ep)} (h : PPs X pos keys values (tPr X z ps)) (hall : keys.all (·.isSome) = true := by rfl) (hl : keys.length = values.length := by rfl) (h0 : keys ≠ [] := by intro h; cases h)
    (h15 : keys.length ≤ 15 := by decide) : DE X z W .new (.Dict keys values pos) (eDct ps) := by
  refine ⟨fun pins s σ H Q I ⟨ρ, g, Mu, E, G1, hx⟩ => ?_⟩
  have hu : X.A.units + 1 < cLine := by have := hX.eq; omega
  have hn := pairTrees_length keys values X.env pos hall hl
  have hp0 : pairTrees keys values X.env pos ≠ [] := fun e => by
    rw [e] at hn
    exact h0 (List.length_eq_zero_iff.mp hn.symm)
  rw [arm_eval_Dict, zip_pairTrees keys values X.env pos hall hl, dictDisplay_pairs _ hp0 (by omega)]
  refine wpAny_bind (wpAny_standAt (wpAny_bind ?_))
  unfold subDict
  refine wpAny_bind (wpAny_alloc ?_)
  refine wpAny_bind (wpAny_holding ?_)
  rw [if_pos (by omega)]
  generalize ea : s.heap.objs.size = a
  have nA : H a = none := I.hok.fresh (Nat.le_of_eq ea)
  have hsys : (a == sysModules) = false := by
    rw [← ea]
    exact beq_false_of_ne (Nat.ne_of_gt I.big)
  have I1 : Inv X pins σ (upd H a (ObV a dob)) { s with heap := s.heap.push dob } := by
    refine I.laid (t' := s.toks) (fun b o e => Heap.get?_push_of_some _ e) (Nat.le_of_eq ea) ?_
    rw [← ea]
    exact ⟨Heap.get?_push_size _ rfl, ⟨_, Heap.get?_push_size _ rfl⟩, fun _ _ h k => k _ h⟩
  have np : a ≠ z.p := fun w => by rw [w, G1.p] at nA; cases nA
  have nl : a ≠ z.l := fun w => by rw [w, G1.l] at nA; cases nA
  have nc : a ≠ z.c := fun w => by rw [w, G1.c] at nA; cases nA
  have nH : ¬ Oc H a := oc_none nA
  have sm : Same H (upd H a (ObV a dob)) := same_upd' nA
  have c0 : Cont X.K X.mg z (a :: Mu) (upd H a (ObV a dob)) a (.dct []) := dob_cont upd_same hsys
  have B := E.bar G1 (Ext.of sm) (G1.same sm) nH c0.there c0.ncode
  refine wpAny_bind (thn (h.run pins _ σ _ (fun vs H' => ∃ l r g', mkO l = some r ∧ Ext z (upd H a (ObV a dob)) H' ∧ GOk z H' g' ∧ RP X.K X.mg z (a :: Mu) H' vs l ∧ ∀ v H', Ext z H H' → GOk z H' g' → RK X.K X.mg z .new H Mu H' v (.dct r) → Q v H') I1
    (prs_run ps B (G1.same sm) (R.all_imp (R.all_bind hx) (fun l g1 hx vs H1 e1 G2 rp => ?_) fun _ _ _ _ h => h))) fun us s2 ⟨vs, H2, I2, vv, l, r, g', hr, e2, G2, rp, hq⟩ => ?_)
  · obtain ⟨r, hr, hx⟩ := R.all_opt (R.all_bind hx)
    exact ⟨l, r, g1, hr, e1, G2, rp, hx⟩
  · refine wpAny_holding ?_
    have c2 : Cont X.K X.mg z (a :: Mu) H2 a (.dct []) := c0.mono (fun u q t => e2.to _ u q t np nl) (fun b u q t hb => e2.to b u q t (fun w => hb (w ▸ B.mu.p)) (fun w => hb (w ▸ B.mu.l))) fun _ _ h => h
    have hD : ∃ o es ep, H2 a = some (ObV a o) ∧ o.data = .dict es ep := by cases c2 with | dct h h1 h2 h3 => exact ⟨_, _, _, h, h3⟩
    obtain ⟨o, es, ep, hH, hd⟩ := hD
    refine wpAny_bind (put_all' hu List.mem_cons_self I2 vv rp c2 hr fun H3 s3 I3 c3 hb => wpAny_pure (wpAny_pure (wpAny_pure ?_)))
    have G3 : GOk z H3 g' := by
      have := G2.write (o := ObV a o) np nl nc (fun ps w => by rw [hH] at w; cases w) (fun q w => by rw [hH] at w; exact obV_code hd (Option.some.inj w))
      refine ⟨by rw [hb _ (Ne.symm np)]; exact G2.p, by rw [hb _ (Ne.symm nl)]; exact G2.l, by rw [hb _ (Ne.symm nc)]; exact G2.c, G2.ne, fun p hp => ?_⟩
      obtain ⟨ps', h1, h2, h3⟩ := G2.tb p hp
      have n1 : p.1 ≠ a := fun w => by rw [w, hH] at h1; cases h1
      refine ⟨ps', by rw [hb _ n1]; exact h1, h2, fun pos cv hv => ?_⟩
      obtain ⟨c, e1, e2⟩ := h3 pos cv hv
      have n2 : c ≠ a := fun w => by rw [w, hH] at e2; exact obV_code hd (w ▸ Option.some.inj e2)
      exact ⟨c, e1, by rw [hb _ n2]; exact e2⟩
    refine ⟨.ref a, H3, I3, rfl, hq _ H3 ⟨fun b u q t h1 h2 => ?_⟩ G3 ?_⟩
    · have nb : b ≠ a := fun w => by rw [w, nA] at q; cases q
      rw [hb b nb]
      exact e2.to b u (sm b u q) t h1 h2
    · show if D.box (.dct r) = true then ∃ b, V.ref a = .ref b ∧ ¬ Oc H b ∧ Cont X.K X.mg z (b :: Mu) H3 b (.dct r) else Rep X.K X.mg z Mu H3 (.ref a) (.dct r)
      rw [if_pos (show D.box (.dct r) = true from rfl)]
      exact ⟨a, rfl, nH, c3⟩
end
end DL
set_option Elab.async false
set_option linter.all false
set_option maxRecDepth 100000
set_option maxHeartbeats 2000000
/-! The value layer, part 43: lambdas as values. -/
namespace DL
open PySem PySem.Spec PyProof.Rows L2
section
variable {X : Cx} {pins : List (Addr × Obj)} {σ : L2.St} {H : Hp} {s : Shared}
/-- a lambda's object -/
abbrev lamO (q : Str) (pr : Arguments) (b : Expr) (sc : Scope) (cl : List (Str × Addr)) (pm ctv : Value) (c' : Addr) : Obj := PySem.W.kla_obj "<lambda>" q pr b sc (cloFrom cl sc.names []) pm c' ctv
/-- a lambda is made; it is new -/
theorem lam_new {TT : List (Addr × Str)} {cd tp : Addr} {pr : Arguments} {bd : Expr} {sco : Scope} {pos : Pos} {E : Value → Shared → Prop} {Q : Value → Shared → Prop} (I : Inv X pins σ H s) (tb : LamX.TabB X.base X.mg cd tp) (own : X.env.code = .ref cd)
    (isIn : (tp, X.env.qual ++ "<lambda>") ∈ TT) (one : ∀ p ∈ TT, p.1 = tp → p.2 = X.env.qual ++ "<lambda>") (tabs : LamX.Tabs TT H) (dflt : defaultsOf pr X.env = ([], [])) (caps : ∀ y ∈ sco.names, y.2 = .free → ∃ c, X.env.cells.lookup y.1 = some c)
    (k : ∀ (f cc : Addr) (pm ctv : Value) (H1 : Hp) (s1 : Shared), Inv X pins σ H1 s1 → LamX.ExtN H H1 → LamX.Tabs TT H1 → s1.heap.get? f = some (lamO (X.env.qual ++ "<lambda>") pr bd sco X.env.cells pm ctv cc) → H1 f = none → s.heap.objs.size ≤ f → H1 cc = some (LamX.CodeO cc (X.env.qual ++ "<lambda>")) → Q (.ref f) s1) :
    wpAny (model X.prog X.w) X.A (eval (.Lambda pr bd sco pos) X.env) Q E s := by
  obtain ⟨rows, atT, three, alike⟩ := tabs _ isIn
  have blt : s.heap.BuiltinsAt X.mg tp := tb.bm.keeps I.bk
  have obT : s.heap.get? tp = some { cls := .none, data := .fields rows } := I.hok tp _ atT
  refine PySem.W.kla_eval dflt ?_
  cases known : codeAmong pos rows.toList with
  | some cv =>
    obtain ⟨cc, ec, tracked⟩ := alike pos cv known
    subst ec
    refine PySem.W.kla_makeFunctionHit (mg := X.mg) (c := cd) (P := tp) (ps := rows) (closure_ok caps) I.ok.glob (I.mod.glob.keeps I.bk) own (tb.code.keeps I.bk) obT three known blt fun ctv h1 t1 kp sz => ?_
    refine k h1.objs.size cc _ ctv H { s with heap := h1.push (lamO (X.env.qual ++ "<lambda>") pr bd sco X.env.cells ((X.mg "__name__").getD .none) ctv cc), toks := t1 } (I.kept fun b u hu => Heap.get?_push_of_some _ (kp b u hu)) (LamX.ExtN.refl H) tabs (Heap.get?_push_size _ rfl) (I.hok.fresh sz) sz tracked
  | none =>
    refine PySem.W.kla_makeFunction (mg := X.mg) (c := cd) (P := tp) (ps := rows) (closure_ok caps) I.ok.glob (I.mod.glob.keeps I.bk) own (tb.code.keeps I.bk) obT three known tb.gP blt fun cc ctv h1 t1 kp lo hi rec new => ?_
    obtain ⟨c2, oc, fs, tk, eq2, gc, dc, vc⟩ := rec
    cases eq2
    have freeC : H cc = none := I.hok.fresh lo
    have sz : s.heap.objs.size ≤ h1.objs.size := by omega
    have more : (rows ++ #[rawInt pos.line, rawInt pos.col, .ref cc]).toList = rows.toList ++ [rawInt pos.line, rawInt pos.col, .ref cc] := by simp
    have ext : LamX.ExtN H (upd (upd H tp (.tbl (rows ++ #[rawInt pos.line, rawInt pos.col, .ref cc]))) cc (LamX.CodeO cc (X.env.qual ++ "<lambda>"))) := fun b u hb nt => by
      have b1 : b ≠ cc := ne_of_none hb freeC
      have b2 : b ≠ tp := fun w => nt rows (Option.some.inj (hb.symm.trans (w ▸ atT)))
      rw [upd_ne b1, upd_ne b2]
      exact hb
    refine k h1.objs.size cc _ ctv _ { s with heap := h1.push (lamO (X.env.qual ++ "<lambda>") pr bd sco X.env.cells ((X.mg "__name__").getD .none) ctv cc), toks := t1 } (LamX.inv_table (t' := t1) (more := #[rawInt pos.line, rawInt pos.col, .ref cc]) I atT
      (fun b u hb hu => Heap.get?_push_of_some _ (kp b u hb hu)) (Heap.get?_push_of_some _ new) lo ⟨oc, fs, tk, Heap.get?_push_of_some _ gc, dc, vc⟩) ext (fun p hp => ?_) (Heap.get?_push_size _ rfl) ?_ sz upd_same
    · by_cases same : p.1 = tp
      · rw [one p hp same, same]
        refine ⟨_, by rw [upd_ne (ne_of_none atT freeC), upd_same], by rw [more]; exact PySem.TriplesOk_snoc _ _ _ _ three, fun p1 v1 hv => ?_⟩
        rw [more] at hv
        rcases LamX.among_app _ three hv with w | w
        · obtain ⟨c0, q1, q2⟩ := alike p1 v1 w
          exact ⟨c0, q1, ext _ _ q2 LamX.codeO_ne⟩
        · exact ⟨cc, w, upd_same⟩
      · obtain ⟨rows2, q1, q2, q3⟩ := tabs p hp
        refine ⟨rows2, by rw [upd_ne (ne_of_none q1 freeC), upd_ne same]; exact q1, q2, fun p1 v1 hv => ?_⟩
        obtain ⟨c0, q4, q5⟩ := q3 p1 v1 hv
        exact ⟨c0, q4, ext _ _ q5 LamX.codeO_ne⟩
    · have n1 : h1.objs.size ≠ cc := Nat.ne_of_gt hi
      have n2 : h1.objs.size ≠ tp := Nat.ne_of_gt (Nat.lt_of_lt_of_le (Heap.lt_size obT) sz)
      rw [upd_ne n1, upd_ne n2]
      exact I.hok.fresh sz
variable {z : Zt} {W : WX}
/-- a lambda as a value -/
theorem de_lam {cd tp : Addr} {pr : Arguments} {bd : Expr} {sco : Scope} {pos : Pos} {i : Nat} (tb : LamX.TabB X.base X.mg cd tp) (own : X.env.code = .ref cd) (isIn : (tp, X.env.qual ++ "<lambda>") ∈ z.T) (one : ∀ p ∈ z.T, p.1 = tp → p.2 = X.env.qual ++ "<lambda>")
    (L : LamX.LamS X.env.scope sco) (zm : z.lm[i]? = some (pr, bd, sco)) (zc : z.lc = X.env.cells) (zq : z.lq = X.env.qual ++ "<lambda>") (dflt : defaultsOf pr X.env = ([], []) := by rfl) : DE X z W .sh (.Lambda pr bd sco pos) (eC (.lam i)) := by
  refine ⟨fun pins s σ H Q I ⟨ρ, g, Mu, E, G1, hx⟩ => ?_⟩
  refine lam_new I tb own isIn one G1.tb dflt (L.has I.ok) fun f cc pm ctv H1 s1 I1 eN T1 hf hfn hsz hco => ?_
  have e1 : Ext z H H1 := Ext.ofN eN
  have G2 : GOk z H1 g := G1.extN eN T1
  have E1 := E.ext G1 e1 G2
  have fp := I.fpOk hsz (I.hok.fresh hsz)
  have I2 : Inv X pins σ (upd H1 f (ObV f (lamO (X.env.qual ++ "<lambda>") pr bd sco X.env.cells pm ctv cc))) s1 := I1.take (h' := s1.heap) (t' := s1.toks) (fun b u _ q => q) ⟨hfn, fp.2⟩ ⟨hf, ⟨_, hf⟩, fun _ _ h k => k _ h⟩
  have sm : Same H1 (upd H1 f (ObV f (lamO (X.env.qual ++ "<lambda>") pr bd sco X.env.cells pm ctv cc))) := same_upd' hfn
  have nf : f ∉ Mu := E1.mu.new hfn
  have nc : cc ∉ Mu := fun w => E1.mu.nc cc w _ hco
  have hx : ∀ v H', Ext z H H' → GOk z H' g → RK X.K X.mg z .sh H Mu H' v (.lam i) → Q v H' := hx
  refine ⟨.ref f, _, I2, rfl, hx _ _ (e1.trans (Ext.of sm)) (G2.same sm) ?_⟩
  show Rep X.K X.mg z Mu _ (.ref f) (.lam i)
  exact .lam (pm := pm) (ctv := ctv) nf nc zm (by rw [zc, zq]; exact upd_same) (by rw [zq]; exact sm _ _ hco)
/-- a(), in the def that got the named lambda -/
theorem pe_act2 {CXg : CXT} {Eg : XK} {Ng : List Str} {qg : Str} {sg : Scope} {g f cc : Addr} {cdg pm ctv : Value} {pr : Arguments} {bd : Expr} {sco : Scope} {k i : Nat} {a : Str} {pn : List (Addr × Obj)} {xe : Value → Shared → Prop} {W : WX} {E : XK} {tb : TE} {p1 p2 : Pos}
    (I : Inv X pins σ H s) (L : LamX.LamS X.env.scope sco)
    (binds : bindArgs (PySem.W.kla_fn "<lambda>" (X.env.qual ++ "<lambda>") pr bd sco (cloFrom X.env.cells sco.names []) pm (.ref cc) ctv) ⟨[], []⟩ = pure [])
    (tk : Takes ((cxOf CXg X.prog X.w X.K X.mg X.base Ng qg sg g cdg X.A X.stack s H Eg).tr pn xe) W) (hW : ∀ cls d σ' H', E cls d H' → W cls d σ' H') (hr : Room (k + 1) (X.A.deeper (envOfC qg sg s.heap.objs.size g cdg)))
    (inner : ∀ (A : Around) (outer : List PySem.Env) (s : Shared) (H : Hp), Room k (A.deeper (LamX.lamEnv X sco s.heap.objs.size f cc)) → PE (LamX.lamCx X A outer s H E sco f cc) bd tb)
    (hN : Ng[i]? = some a) (hv : Vis sg a) (hd : (a == ("__debug__" : Str)) = false) (hcd : (a == ("__classdict__" : Str)) = false) :
    PE ((cxOf CXg X.prog X.w X.K X.mg X.base Ng qg sg g cdg X.A X.stack s H Eg).tr pn xe) (.Call (.Name a p1) [] [] p2)
      (fun σZ HZ Q => σZ[i]? = some (some (.ref f)) ∧ HZ cc = some (LamX.CodeO cc (X.env.qual ++ "<lambda>")) ∧ HZ f = some (ObV f (lamO (X.env.qual ++ "<lambda>") pr bd sco X.env.cells pm ctv cc)) ∧ tb σ HZ Q) := by
  refine ⟨fun pinsY sY σY HY Q IY ⟨at0, code, ob, rest⟩ => ?_⟩
  refine wpAny_Call_Name_kw (thn ((pe_var (pos := p1) (i := i) hN hv hd hcd).run pinsY sY σY HY (fun v H1 => v = .ref f ∧ H1 = HY) IY ⟨.ref f, at0, rfl, rfl⟩) fun u s1 ⟨v, H1, I1, r1, ev, eH⟩ => ?_)
  subst ev eH
  cases r1
  have gf : s1.heap.get? f = some (lamO (X.env.qual ++ "<lambda>") pr bd sco X.env.cells pm ctv cc) := (I1.hok f _ ob).1
  obtain ⟨⟨oc, fs, tk0, gc, dc, vc⟩, _, _⟩ := I1.hok cc _ code
  refine PySem.W.callWith_F0 ⟨_, _, _, _, gf⟩ ?_
  have before : Un (frs X.stack) [] H H1 s.heap s1.heap := I1.base
  have ran : codeAny (model X.prog X.w) (X.A.deeper (envOfC qg sg s.heap.objs.size g cdg)) (.call (.ref f) ⟨[], []⟩) (CR (L2.CX X.prog X.w) (envOfC qg sg s.heap.objs.size g cdg :: X.stack) X.prog X.w H1 s1 Q E) s1 := by
    refine PySem.W.kla_callFunE hr.depth gf rfl L.co L.gen rfl ⟨cc, oc, fs, tk0, rfl, gc, dc, vc⟩ ?_
    rw [binds]
    refine wpAny_pure (wpAny_newFunctionEnv (fun y hy => (L.own y hy).2) (fun y hy => absurd hy (by simp)) (fun h1 hns hsb => ⟨I1.nolimit.fresh _ hsb, ?_⟩) L.kind)
    show codeAny _ _ (.expr bd (LamX.lamEnv X sco s1.heap.objs.size f cc)) _ _
    have up : ∀ b o, s1.heap.get? b = some o → h1.get? b = some o := fun b o hb => hsb.extBut b o (Nat.ne_of_lt (Heap.lt_size hb)) (Heap.get?_push_of_some _ hb)
    have J := LamX.lam_start2 (E := E) (c' := cc) (f := f) (tk := s1.toks + ([] : List (Str × Value)).length) I L I1.env0 hr.hd before hns up
    refine PySem.W.kla_codeExpr (wpAny_mono ((inner _ _ s1 H1 (hr.deeper _)).run [] _ _ H1 Q J rest) (fun v s2 ⟨x, H2, J2, rx, q⟩ => ?_) fun _ _ q => q)
    exact ⟨x, H2, J2.os, J2.bare, J2.base, J2.hok, rx, q⟩
  have out : Passes (L2.CX X.prog X.w) ((cxOf CXg X.prog X.w X.K X.mg X.base Ng qg sg g cdg X.A X.stack s H Eg).tr pn xe) E := passes_call tk hW
  refine wpAny_call (codeAny_mono ran fun r s2 hq => ?_)
  cases r with
  | error e => exact out pinsY σY H1 s1 e s2 I1 hq
  | ok fl => cases fl <;> first | exact I1.after hq | exact hq.elim
/-- the named lambdas' readings -/
def eCaughtV (pks : List Str) (fbs : List Ep) (fa : Ep) : Ep := fun ρ => do
  let d ← fa ρ
  match d with
  | .lam j => eCaught pks (fbs.getD j fun _ => stuck) ρ
  | _ => stuck
theorem all_lam {d : D} {pks : List Str} {fbs : List Ep} {ρ : Env} {g : G} {P : D → G → Prop} {E : Str → Str → List D → G → Prop} (h : ((match d with | .lam j => eCaught pks (fbs.getD j fun _ => stuck) ρ | _ => stuck) g : R D).all P E) : ∃ j, d = .lam j ∧ (eCaught pks (fbs.getD j fun _ => stuck) ρ g).all P E := by
  cases d <;> first | exact h.elim | exact ⟨_, rfl, h⟩
/-- what is known of the lambda j -/
structure LamJ (X : Cx) (z : Zt) (k : Nat) (fb : Ep) (pr : Arguments) (bd : Expr) (sco : Scope) : Prop where
  L : LamX.LamS X.env.scope sco
  binds : ∀ (q : Str) (cl : List (Str × Addr)) (pm cv ctv : Value), bindArgs (PySem.W.kla_fn "<lambda>" q pr bd sco cl pm cv ctv) ⟨[], []⟩ = pure []
  run : ∃ kb, ∀ (A : Around) (outer : List PySem.Env) (s : Shared) (H : Hp) (E : XK) (f c' : Addr), Room k (A.deeper (LamX.lamEnv X sco s.heap.objs.size f c')) → Takes (LamX.lamCx X A outer s H E sco f c') (fun cls dd _ H => E cls dd H) →
      DE (LamX.lamCx X A outer s H E sco f c') z (fun cls dd _ H => E cls dd H) kb bd fb
theorem de_caughtV {x a v e en : Str} {k : Nat} {st : Stmt} {arg : Expr} {fa : Ep} {fbs : List Ep} {p pos : Pos} {pks : List Str} (F : IsFn X.K X.mg x st) (CT : CaughtT st a v e en) (hbd : BindsT x st [a]) (pk : PkOk X.K X.mg e pks) (hg : Gl X x) (hr : Room (k + 2) X.A)
    (zc : z.lc = X.env.cells) (zq : z.lq = X.env.qual ++ "<lambda>") (hl : ∀ j pr bd sco, z.lm[j]? = some (pr, bd, sco) → LamJ X z k (fbs.getD j fun _ => stuck) pr bd sco) (ha : DAs X z W [arg] (sCons fa sNil))
    (he : starEach [arg] X.env = (false, eval arg X.env) :: starEach [] X.env := by rfl) (hpl : (backTo pos (starEach [] X.env)).any (·.1) = false := by rfl)
    (hdb : (x == ("__debug__" : Str)) = false := by decide) : DE X z W .new (.Call (.Name x p) [arg] [] pos) (eCaughtV pks fbs fa) := by
  obtain ⟨gf, oc, od, kV, dc, pm0, an, cd, ct, sl, h1, h2, h3, h4⟩ := F
  obtain ⟨CS, hCS, hpk⟩ := pk
  obtain ⟨jn, p1, p2, p3, p4, p5, p6, p7, p8, p9, p10, p11, p12, p13, p14, hb⟩ := CT.body
  refine ⟨fun pins s σ H Q I ⟨ρ, g, Mu, E, G1, hx⟩ => ?_⟩
  refine wpAny_Call_Name_kw (ld_glob I hg h1 ?_ hdb)
  refine PySem.W.callWith_K (h₀ := X.base) I.ok.mod.kin h2 (das_run ha I E G1 (R.of_bind (R.all_imp (R.all_bind hx) (fun d g1 hx => ?_) fun _ _ _ _ h => h))) he hpl
  show ∀ vs us H1 s1, Inv X pins σ H1 s1 → Vals vs us → Ext z H H1 → GOk z H1 g1 → EnvOk X.K X.mg z Mu H1 σ ρ → Reps X.K X.mg z Mu H1 vs [d] → _
  intro vs us H1 s1 I1 r1 e1 G2 E1 k1
  refine ⟨I1.kIn, ?_⟩
  obtain ⟨j, ej, hx2⟩ := all_lam hx
  clear hx
  subst ej
  have hx := hx2
  clear hx2
  cases k1 with
  | cons kf kn =>
  cases kn
  cases r1 with
  | cons rf rn =>
  cases rn
  cases kf with
  | @lam f cc _ pm ctv pr bd sco nf ncc zm ob code =>
  cases rf
  rw [zc, zq] at ob
  rw [zq] at code
  obtain ⟨L, binds, kb, run⟩ := hl j pr bd sco zm
  generalize hfb : (fbs.getD j fun _ => stuck) = fb at run hx
  have give := caught_gives (X := X) (x := x) (q := X.env.qual ++ "<lambda>") (g := gf) (cdg := cd) (j := jn) (p1 := p1) (p2 := p2) (p3 := p3) (p4 := p4) (p5 := p5) (p6 := p6) (p7 := p7) (p8 := p8) (p9 := p9) (p10 := p10) (p11 := p11) (p12 := p12) (p13 := p13) (p14 := p14) CT.sc.nd CT.lv CT.le CT.ge hCS CT.d1 CT.d2 CT.d3 CT.d4 CT.d5
  rw [← hb] at give
  have rc : codeAny (model X.prog X.w) X.A (.call (.ref gf) ⟨[.ref f], []⟩) (CR C8.CX0 X.stack X.prog X.w H1 s1 Q C8.E0) s1 := by
    refine LamX.run_ofS (N := [a, v, en]) (ps := [a]) (us := [.ref f]) (vs := [.ref f]) h3 h4 CT.sc hr I1.env0 ((Binds.all (hbd kV dc pm0 an cd ct)) s1 [.ref f] I1.kIn rfl) (.cons rfl .nil) rfl fun hr' => ?_
    have hT : TCaught X.K CS (fun E H' Q' => H' f = some (ObV f (lamO (X.env.qual ++ "<lambda>") pr bd sco X.env.cells pm ctv cc)) ∧ tE X z (fun cls dd _ H => E cls dd H) kb fb σ H' Q') H1 Q := by
      intro Q' hQ
      refine ⟨ob, ρ, g1, Mu, E1, G2, ?_⟩
      unfold eCaught at hx
      cases q : fb ρ g1 with
      | stuck => rw [q] at hx; exact hx.elim
      | ok d g' =>
        rw [q] at hx
        exact fun v H' e2 G3 _ => hQ v H' (hx .non H' (e1.trans e2) G3 (RK.new_of .non rfl))
      | exc cn fl l g' =>
        rw [q] at hx
        dsimp only at hx
        by_cases hc : cn ∈ pks
        · rw [if_pos hc] at hx
          intro cls dd H' e2 G3 ⟨C, h1, h2, h3⟩
          subst h2
          refine ⟨hpk cn hc C h1, fun b hb => ?_⟩
          have M3 := E1.mu.ext (g := g1) e2 G3
          have nb : b ∉ Mu := M3.new hb
          have s3 : Same H' (upd H' b (ExV (.ref C) dd b)) := same_upd' hb
          refine hx (.ref b) _ ((e1.trans e2).trans (Ext.of s3)) (G3.same s3) (RK.new_of ?_ rfl)
          rcases h3 with ⟨rfl, rfl, rfl⟩ | ⟨dx, v, d, rfl, rfl, h5, h6, h7⟩
          · exact .exc0 nb h1 upd_same
          · exact .exc1 nb h5 h1 upd_same (s3 _ _ h6) (h7.ext M3 G3 (Ext.of s3))
        · rw [if_neg hc] at hx
          exact hx.elim
    obtain ⟨t', ht', hq'⟩ := give f cc s1 H1 Q (fun E H' Q' => H' f = some (ObV f (lamO (X.env.qual ++ "<lambda>") pr bd sco X.env.cells pm ctv cc)) ∧ tE X z (fun cls dd _ H => E cls dd H) kb fb σ H' Q')
      (fun W pn xe E p1 p2 tk hW => pe_act2 (i := 0) I1 L (binds _ _ _ _ _) tk hW hr' (fun A outer s H hr2 => run A outer s H E f cc hr2 (takes_of rfl rfl rfl rfl)) rfl (.inl CT.la) CT.d6 CT.d7) code hT
    exact ⟨t', ht'.nox, hq'⟩
  refine wpAny_call (codeAny_mono rc fun r s2 hq => ?_)
  cases r with
  | error e => exact (show False from hq).elim
  | ok fl => cases fl <;> first | exact I1.after hq | exact False.elim hq
end
end DL
set_option Elab.async false
set_option linter.all false
set_option maxRecDepth 100000
set_option maxHeartbeats 2000000
/-! The value layer, part 44: named lambdas, as the printed terms use them. -/
namespace DL
open PySem PySem.Spec PyProof.Rows L2

def lamE : Expr → Option (Arguments × Expr × Scope)
  | .Lambda pr b sc _ => some (pr, b, sc)
  | _ => none
mutual
/-- the lambdas in the lists that loops walk -/
def lamsS : Stmt → List (Arguments × Expr × Scope)
  | .For _ (.List es _) b _ _ => es.filterMap lamE ++ lamsL b
  | .For _ _ b _ _ => lamsL b
  | .If _ a b _ => lamsL a ++ lamsL b
  | _ => []
def lamsL : List Stmt → List (Arguments × Expr × Scope)
  | [] => []
  | s :: l => lamsS s ++ lamsL l
end
section
variable {X : Cx} {z : Zt} {W : WX}
/-- of all of them -/
def LamAll (X : Cx) (z : Zt) (k : Nat) : List (Arguments × Expr × Scope) → List Ep → Prop
  | [], _ => True
  | _ :: _, [] => False
  | p :: l, f :: fs => LamJ X z k f p.1 p.2.1 p.2.2 ∧ LamAll X z k l fs
theorem lamAll_get {k : Nat} : ∀ {lms : List (Arguments × Expr × Scope)} {fbs : List Ep}, LamAll X z k lms fbs → ∀ (j : Nat) (pr : Arguments) (bd : Expr) (sco : Scope), lms[j]? = some (pr, bd, sco) → LamJ X z k (fbs.getD j fun _ => stuck) pr bd sco
  | [], _, _, j, pr, bd, sco, h => by simp at h
  | _ :: _, [], h, _, _, _, _, _ => h.elim
  | p :: l, f :: fs, ⟨h1, h2⟩, 0, pr, bd, sco, h => by
    simp only [List.getElem?_cons_zero, Option.some.injEq] at h
    subst h
    exact h1
  | p :: l, f :: fs, ⟨h1, h2⟩, j + 1, pr, bd, sco, h => lamAll_get h2 j pr bd sco (by simpa using h)
theorem de_lamT {cd tp : Addr} {pr : Arguments} {bd : Expr} {sco : Scope} {pos : Pos} {i : Nat} {lms : List (Arguments × Expr × Scope)} (hL : LamZ X z lms) (tb : LamX.TabB X.base X.mg cd tp) (own : X.env.code = .ref cd) (hT : z.T = [(tp, X.env.qual ++ "<lambda>")])
    (L : LamX.LamS X.env.scope sco) (zm : lms[i]? = some (pr, bd, sco)) (dflt : defaultsOf pr X.env = ([], []) := by rfl) : DE X z W .sh (.Lambda pr bd sco pos) (eC (.lam i)) :=
  de_lam tb own (by rw [hT]; exact List.mem_cons_self) (fun q hq _ => by rw [hT] at hq; rw [List.mem_singleton.mp hq]) L (by rw [hL.lm]; exact zm) hL.lc hL.lq dflt
theorem de_caughtVT {x a v e en : Str} {k : Nat} {st : Stmt} {arg : Expr} {fa : Ep} {fbs : List Ep} {p pos : Pos} {pks : List Str} {lms : List (Arguments × Expr × Scope)} (F : IsFn X.K X.mg x st) (CT : CaughtT st a v e en) (hbd : BindsT x st [a]) (pk : PkOk X.K X.mg e pks) (hg : Gl X x) (hr : Room (k + 2) X.A)
    (hL : LamZ X z lms) (hl : LamAll X z k lms fbs) (ha : DE X z W .sh arg fa)
    (he : starEach [arg] X.env = (false, eval arg X.env) :: starEach [] X.env := by rfl) (hpl : (backTo pos (starEach [] X.env)).any (·.1) = false := by rfl)
    (hdb : (x == ("__debug__" : Str)) = false := by decide) : DE X z W .new (.Call (.Name x p) [arg] [] pos) (eCaughtV pks fbs fa) :=
  de_caughtV F CT hbd pk hg hr hL.lc hL.lq (fun j pr bd sco h => lamAll_get hl j pr bd sco (by rw [hL.lm] at h; exact h)) (das_cons ha das_nil he) he hpl hdb
end
end DL
set_option Elab.async false
set_option linter.all false
set_option maxRecDepth 100000
set_option maxHeartbeats 2000000
/-! The value layer, part 45: dict(d), dict([(k, v), ..]), keys ints. -/
namespace DL
open PySem PySem.Spec PyProof.Rows L2

theorem zip_self' {α β : Type} : ∀ l : List (α × β), (l.map (·.1)).zip (l.map (·.2)) = l
  | [] => rfl
  | p :: l => by rw [List.map_cons, List.map_cons, List.zip_cons_cons, zip_self' l]
def pairD : D → Option (D × D)
  | .tup [k, y] => some (k, y)
  | _ => none
def pairsD : List D → Option (List (D × D))
  | [] => some []
  | d :: l => match pairD d, pairsD l with
    | some p, some r => some (p :: r)
    | _, _ => none
def fDict : List D → Option D
  | [.dct l] => if (intsOf (l.map (·.1))).isSome = true ∧ l.length ≤ 1000 then some (.dct l) else none
  | [.lst l] => match pairsD l with
    | some ps => if (intsOf (ps.map (·.1))).isSome = true ∧ ps.length ≤ 1000 then (mkD [] ps).map D.dct else none
    | none => none
  | _ => none
section
variable {K : PySem.W.Frag} {mg : Str → Option Value} {z : Zt} {Mu : List Addr} {H : Hp}
/-- many puts -/
theorem merge_rel : ∀ {l : List (D × D)} {is : List Int} {ws : List V} {acc r : List (D × D)} {ns : List Int} {vs : List V}, l.map (·.1) = is.map D.int → Reps K mg z Mu H ws (l.map (·.2)) → acc.map (·.1) = ns.map D.int → Reps K mg z Mu H vs (acc.map (·.2)) → mkD acc l = some r →
    ∃ ns' : List Int, r.map (·.1) = ns'.map D.int ∧ (mergeK ((kI ns).zip vs) ((kI is).zip ws)).map (·.1) = kI ns' ∧ Reps K mg z Mu H ((mergeK ((kI ns).zip vs) ((kI is).zip ws)).map (·.2)) (r.map (·.2))
  | [], is, ws, acc, r, ns, vs, e, rw', ea, ra, hr => by
    cases is with
    | cons => cases e
    | nil =>
      cases hr
      have hl : (kI ns).length = vs.length := by
        have h1 := congrArg List.length ea
        rw [List.length_map, List.length_map] at h1
        have h2 := ra.length
        rw [List.length_map] at h2
        rw [List.length_map]
        omega
      refine ⟨ns, ea, ?_, ?_⟩
      · show ((kI ns).zip vs).map (·.1) = _
        exact zip_fst hl
      · show Reps K mg z Mu H (((kI ns).zip vs).map (·.2)) _
        have : ∀ {a : List Key} {b : List V}, a.length = b.length → (a.zip b).map (·.2) = b := by
          intro a
          induction a with
          | nil => intro b h; cases b with | nil => rfl | cons => cases h
          | cons x a ih =>
            intro b h
            cases b with
            | nil => cases h
            | cons y b => rw [List.zip_cons_cons, List.map_cons, ih (by simpa using h)]
        rw [this hl]
        exact ra
  | (k, y) :: l, is, ws, acc, r, ns, vs, e, rw', ea, ra, hr => by
    cases is with
    | nil => cases e
    | cons i is =>
      obtain ⟨e1, e2⟩ := List.cons.inj e
      have e1 : k = D.int i := e1
      subst e1
      cases rw' with
      | @cons w _ ws _ r1 r2 =>
        obtain ⟨acc', h3, h4⟩ := Option.bind_eq_some_iff.mp hr
        obtain ⟨_, rfl⟩ := opt_if h3
        obtain ⟨ns1, q1, q2, q3⟩ := put_rel (kD := D.int) (kK := (Sum.inl : Int → Key)) (fun a b h => Sum.inl.inj h) (fun a b => rfl) r1 (c := i) ea ra
        obtain ⟨ns', s1, s2, s3⟩ := merge_rel e2 r2 q1 q3 h4
        have ez : (kI ns1).zip ((putK ((kI ns).zip vs) (Sum.inl i : Key) w).map (·.2)) = putK ((kI ns).zip vs) (Sum.inl i : Key) w := by
          rw [← show (putK ((kI ns).zip vs) (Sum.inl i : Key) w).map (·.1) = kI ns1 from q2]
          exact zip_self' _
        rw [ez] at s2 s3
        exact ⟨ns', s1, s2, s3⟩
end
section
variable {X : Cx} {z : Zt}
theorem pairs_at {K : PySem.W.Frag} {mg : Str → Option Value} {Mu : List Addr} {H : Hp} : ∀ {l : List D} {ps : List (D × D)} {xs : List V}, pairsD l = some ps → Reps K mg z Mu H xs l →
    ∃ (bs : List Addr) (ks ws : List V), xs = bs.map V.ref ∧ bs.length = ps.length ∧ Reps K mg z Mu H ks (ps.map (·.1)) ∧ Reps K mg z Mu H ws (ps.map (·.2)) ∧ ∀ (j : Nat) (b : Addr), bs[j]? = some b → ∃ k w, ks[j]? = some k ∧ ws[j]? = some w ∧ H b = some (.tup [k, w])
  | [], ps, _, h, .nil => by cases h; exact ⟨[], [], [], rfl, rfl, .nil, .nil, fun j b h => by simp at h⟩
  | d :: l, ps, _, h, .cons r rs => by
    unfold pairsD at h
    split at h
    · rename_i p r' h1 h2
      cases h
      obtain ⟨bs, ks, ws, rfl, hl, rk, rw', at_⟩ := pairs_at h2 rs
      unfold pairD at h1
      split at h1
      · rename_i k y
        cases h1
        cases r with
        | @tup b ys _ hn hb r2 =>
          cases r2 with
          | @cons v1 _ t1 _ q1 q2 =>
            cases q2 with
            | @cons v2 _ t2 _ q3 q4 =>
              cases q4
              refine ⟨b :: bs, v1 :: ks, v2 :: ws, rfl, by rw [List.length_cons, List.length_cons, hl], .cons q1 rk, .cons q3 rw', fun j b' hj => ?_⟩
              cases j with
              | zero =>
                simp only [List.getElem?_cons_zero, Option.some.injEq] at hj
                subst hj
                exact ⟨v1, v2, rfl, rfl, hb⟩
              | succ j => exact at_ j b' (by simpa using hj)
      · cases h1
    · cases h
/-- the tuples' own values -/
theorem pairs_val {pins : List (Addr × Obj)} {s : Shared} {σ : L2.St} {H : Hp} (I : Inv X pins σ H s) : ∀ {bs : List Addr} {ks ws : List V}, bs.length = ks.length → bs.length = ws.length → (∀ (j : Nat) (b : Addr), bs[j]? = some b → ∃ k w, ks[j]? = some k ∧ ws[j]? = some w ∧ H b = some (.tup [k, w])) →
    ∃ pv : List (Value × Value), Vals ks (pv.map (·.1)) ∧ Vals ws (pv.map (·.2)) ∧ pv.length = bs.length ∧ ∀ (j : Nat) (u w : Value), pv[j]? = some (u, w) → ∃ b, bs[j]? = some b ∧ s.heap.IsTuple b #[u, w]
  | [], [], [], _, _, _ => ⟨[], .nil, .nil, rfl, fun j u w h => by simp at h⟩
  | [], _ :: _, _, h, _, _ => by simp at h
  | [], [], _ :: _, _, h, _ => by simp at h
  | _ :: _, [], _, h, _, _ => by simp at h
  | _ :: _, _ :: _, [], _, h, _ => by simp at h
  | b :: bs, k :: ks, w :: ws, h1, h2, at_ => by
    obtain ⟨pv, v1, v2, hl, hp⟩ := pairs_val I (bs := bs) (ks := ks) (ws := ws) (by simpa using h1) (by simpa using h2) fun j b' hj => by
      obtain ⟨k', w', q1, q2, q3⟩ := at_ (j + 1) b' (by simpa using hj)
      exact ⟨k', w', by simpa using q1, by simpa using q2, q3⟩
    obtain ⟨k', w', q1, q2, hb⟩ := at_ 0 b rfl
    simp only [List.getElem?_cons_zero, Option.some.injEq] at q1 q2
    subst q1 q2
    obtain ⟨its, rv, tup, _⟩ := I.tuple (SqT.of hb)
    cases rv with
    | @cons _ u _ _ r1 rt =>
      cases rt with
      | @cons _ u2 _ _ r2 rn =>
        cases rn
        refine ⟨(u, u2) :: pv, .cons r1 v1, .cons r2 v2, by rw [List.length_cons, List.length_cons, hl], fun j x y hj => ?_⟩
        cases j with
        | zero =>
          simp only [List.getElem?_cons_zero, Option.some.injEq, Prod.mk.injEq] at hj
          obtain ⟨rfl, rfl⟩ := hj
          exact ⟨b, rfl, tup⟩
        | succ j =>
          obtain ⟨b', q1, q2⟩ := hp j x y (by simpa using hj)
          exact ⟨b', by simpa using q1, q2⟩
theorem call_dict' (hX : XG X) : DCall X z .new (.type "dict") fDict := by
  intro pins s σ H Mu g xs us ds d Q I m G1 rv ks hd q
  have hsys : (s.heap.objs.size == sysModules) = false := beq_false_of_ne (Nat.ne_of_gt I.big)
  have nA : H s.heap.objs.size = none := I.hok.fresh (Nat.le_refl _)
  have big : 1000 < sizeLine := by rw [sizeLine_eq]; decide
  have fin : ∀ {h' : Heap} {tk : Nat} {kvs : List (Key × Value)} {kw : List (Key × V)} {ns : List Int} {l : List (D × D)}, (∀ b o, s.heap.get? b = some o → h'.get? b = some o) → h'.DictOf (mixKind X.prog X.w) s.heap.objs.size kvs → KV kw kvs → kw.map (·.1) = kI ns → l.map (·.1) = ns.map D.int → Reps X.K X.mg z Mu H (kw.map (·.2)) (l.map (·.2)) → kw.length ≤ sizeLine → d = .dct l →
      EP X pins σ Q (.ref s.heap.objs.size) { s with heap := h', toks := tk } := by
    intro h' tk kvs kw ns l kp dd kv e1 e2 rs hz ed
    obtain ⟨o', es', ep', g', hex, hdt, hsz, en, ky⟩ := dk_raw dd kv e1
    have I' : Inv X pins σ (upd H s.heap.objs.size (ObV s.heap.objs.size o')) { s with heap := h', toks := tk } := I.laid kp (Nat.le_refl _) ⟨g', ⟨_, g'⟩, fun _ _ h k => k _ h⟩
    have sm : Same H (upd H s.heap.objs.size (ObV s.heap.objs.size o')) := same_upd' nA
    have rs' : Reps X.K X.mg z (s.heap.objs.size :: Mu) (upd H s.heap.objs.size (ObV s.heap.objs.size o')) (kw.map (·.2)) (l.map (·.2)) := rs.mono (fun b u hu _ _ => sm b u hu) fun b hb hn w => by
      rcases List.mem_cons.mp w with w | w
      · exact hb.ne (oc_none nA) w
      · exact hn w
    refine ⟨.ref s.heap.objs.size, _, I', rfl, q _ _ sm ?_⟩
    subst ed
    show if D.box (.dct l) = true then ∃ b, V.ref s.heap.objs.size = .ref b ∧ ¬ Oc H b ∧ Cont X.K X.mg z (b :: Mu) (upd H s.heap.objs.size (ObV s.heap.objs.size o')) b (.dct l) else Rep X.K X.mg z Mu (upd H s.heap.objs.size (ObV s.heap.objs.size o')) (.ref s.heap.objs.size) (.dct l)
    rw [if_pos (show D.box (.dct l) = true from rfl)]
    exact ⟨_, rfl, oc_none nA, .dct upd_same hsys hex hdt (by rw [hsz, ← kv.length]; exact hz) en (by rw [e2]; exact Reps.ints ns) rs' (by rw [e2]; exact ky)⟩
  unfold fDict at hd
  split at hd
  · rename_i l
    obtain ⟨⟨hi, hlen⟩, rfl⟩ := opt_if hd
    obtain ⟨ns, hn⟩ := Option.isSome_iff_exists.mp hi
    have e := intsOf_eq hn
    obtain ⟨v, rfl, p⟩ := ks.one
    obtain ⟨u, rfl, ru⟩ := vals1 rv
    obtain ⟨a, o, es, ep, kk, vv, rfl, ho, hs, hex, hdt, hz, en, r1, r2, ky⟩ := p.dct
    cases ru
    have hg : s.heap.get? a = some o := (I.hok a _ ho).1
    rw [e] at r1 ky
    have e1 := Reps.ints_eq r1
    subst e1
    obtain ⟨dd, kv⟩ := raw_dk (X := X) (s := s) hg hex hdt en.1 en.2 ky
    have hl2 : (kI ns).length = vv.length := by
      have h1 := congrArg List.length e
      rw [List.length_map, List.length_map] at h1
      have h2 := r2.length
      rw [List.length_map] at h2
      rw [List.length_map]
      omega
    have hl3 : ((kI ns).zip (es.toList.map (·.val))).length ≤ sizeLine := by
      rw [List.length_zip, List.length_map]
      have h1 := congrArg List.length e
      rw [List.length_map, List.length_map] at h1
      exact Nat.le_trans (Nat.min_le_left _ _) (by omega)
    have snd : ((kI ns).zip vv).map (·.2) = vv := by
      have : ∀ {a : List Key} {b : List V}, a.length = b.length → (a.zip b).map (·.2) = b := by
        intro a
        induction a with
        | nil => intro b h; cases b with | nil => rfl | cons => cases h
        | cons x a ih =>
          intro b h
          cases b with
          | nil => cases h
          | cons y b => rw [List.zip_cons_cons, List.map_cons, ih (by simpa using h)]
      exact this hl2
    refine kt_call_dict hs dd hl3 fun h' d' hsb => ?_
    refine fin (tk := s.toks) (fun b o hb => (hsb.2 b (Nat.ne_of_lt (Heap.lt_size hb))).trans (Heap.get?_push_of_some _ hb)) d' kv (zip_fst hl2) e (by rw [snd]; exact r2) (by rw [kv.length]; exact hl3) rfl
  · rename_i l
    split at hd
    · rename_i ps hps
      obtain ⟨⟨hi, hlen⟩, hm⟩ : ((intsOf (ps.map (·.1))).isSome = true ∧ ps.length ≤ 1000) ∧ (mkD [] ps).map D.dct = some d := by
        split at hd
        · rename_i c; exact ⟨c, hd⟩
        · cases hd
      obtain ⟨r, hr, rfl⟩ := Option.map_eq_some_iff.mp hm
      obtain ⟨is, hn⟩ := Option.isSome_iff_exists.mp hi
      have e := intsOf_eq hn
      obtain ⟨v, rfl, p⟩ := ks.one
      obtain ⟨u, rfl, ru⟩ := vals1 rv
      obtain ⟨a, ys, rfl, hL, rl⟩ := p.lst
      cases ru
      obtain ⟨bs, kk, ww, rfl, hbl, rk, rw', at_⟩ := pairs_at hps rl
      rw [e] at rk
      have ek := Reps.ints_eq rk
      subst ek
      have l1 : bs.length = is.length := by
        have h1 := congrArg List.length e
        rw [List.length_map, List.length_map] at h1
        omega
      have l2 : bs.length = ww.length := by
        have h1 := rw'.length
        rw [List.length_map] at h1
        omega
      obtain ⟨pv, v1, v2, hpl, hpt⟩ := pairs_val I (by rw [List.length_map]; exact l1) l2 at_
      obtain ⟨its, rvl, plain, _⟩ := I.list (SqL.of hL)
      have eits : its = bs.map Value.ref := by
        have : ∀ {bs : List Addr} {its : List Value}, Vals (bs.map V.ref) its → its = bs.map Value.ref := by
          intro bs
          induction bs with
          | nil => intro its h; cases h; rfl
          | cons b bs ih => intro its h; cases h with | cons h t => rw [ih t, show _ = Value.ref b from h]; rfl
        exact this rvl
      have pr : KV ((kI is).zip ww) ((kI is).zip (pv.map (·.2))) := by
        have : ∀ {a : List Key} {b : List V} {c : List Value}, Vals b c → KV (a.zip b) (a.zip c) := by
          intro a
          induction a with
          | nil => intro b c _; exact .nil
          | cons x a ih =>
            intro b c h
            cases h with
            | nil => exact .nil
            | cons h t => exact .cons ⟨rfl, h⟩ (ih t)
        exact this v2
      have e0 : ([] : List (D × D)).map (·.1) = ([] : List Int).map D.int := rfl
      obtain ⟨ns', s1, s2, s3⟩ := merge_rel (K := X.K) (mg := X.mg) (z := z) (Mu := Mu) (H := H) (vs := []) e rw' e0 .nil hr
      have kvm := KV.merge pr (.nil : KV ([] : List (Key × V)) [])
      have lz : ((kI is).zip (pv.map (·.2))).length = pv.length := by
        rw [List.length_zip, List.length_map, List.length_map]
        omega
      refine PySem.call_dict_pairs (knd := mixKind X.prog X.w) (kvs := (kI is).zip (pv.map (·.2))) (PySem.PairArg.list a its.toArray (fun j => bs.getD j 0) pv) (I.ok.hd hX.calm) ⟨plain, ?_, fun j k w hj => ?_⟩ ⟨lz, fun i key v hj => ?_⟩ (by omega) fun h' tk hd' hk => ?_
      · rw [List.size_toArray, eits, List.length_map, hpl]
      · obtain ⟨b, hb, ht⟩ := hpt j k w hj
        have eb : bs.getD j 0 = b := by rw [List.getD_eq_getElem?_getD, hb]; rfl
        refine ⟨?_, ?_⟩
        · show its.toArray[j]? = some (Value.ref (bs.getD j 0))
          rw [eb, List.getElem?_toArray, eits, List.getElem?_map, hb]; rfl
        · show PairAt s.heap (bs.getD j 0) k w
          rw [eb]; exact .inl ht
      · have hj : pv[i]? = some (key, v) := hj
        have hi : i < is.length := by
          have := (List.getElem?_eq_some_iff.mp hj).1
          omega
        have hin : is[i]? = some is[i] := List.getElem?_eq_getElem hi
        generalize is[i] = n at hin
        refine ⟨.inl n, ?_, ?_⟩
        · rw [List.getElem?_zip_eq_some]
          exact ⟨by rw [List.getElem?_map, hin]; rfl, by rw [List.getElem?_map, hj]; rfl⟩
        · obtain ⟨u, hu, ru⟩ := Vals.get v1 (show (is.map V.int)[i]? = some (V.int n) by rw [List.getElem?_map, hin]; rfl)
          rw [List.getElem?_map, hj] at hu
          cases hu
          exact kV_is (k := .inl n) ru
      · exact fin (fun b o hb => hk b o (fun w => nomatch w) hb) hd' kvm s2 s1 s3 (by
          have := length_mergeK ((kI is).zip ww) []
          have : ((kI is).zip ww).length ≤ is.length := by
            rw [List.length_zip, List.length_map]
            exact Nat.min_le_left _ _
          have h2 : (mergeK [] ((kI is).zip ww)).length ≤ 0 + ((kI is).zip ww).length := length_mergeK ((kI is).zip ww) []
          omega) rfl
    · cases hd
  · cases hd
end
end DL
set_option Elab.async false
set_option linter.all false
set_option maxRecDepth 100000
set_option maxHeartbeats 2000000
/-! The value layer, part 46: d.get(k, x). -/
namespace DL
open PySem PySem.Spec PyProof.Rows L2

def asD : D → Option (List (D × D))
  | .dct l => some l
  | _ => none
theorem asD_some {d : D} {l : List (D × D)} (h : asD d = some l) : d = .dct l := by
  cases d <;> first | cases h; rfl | cases h
def eGet3 (fo fk fx : Ep) : Ep := fun ρ => do
  let o ← fo ρ
  let l ← ofOpt (asD o)
  let k ← fk ρ
  let x ← fx ρ
  ofOpt (if kOk l k = true then some ((look l k).getD x) else none)
section
variable {X : Cx} {z : Zt} {W : WX} {ko kk kx : Kd} {eo ek ex : Expr} {fo fk fx : Ep} {apos cpos : Pos}
/-- what is a dict for sure -/
theorem dct_facts {pins : List (Addr × Obj)} {σ : L2.St} {s : Shared} {H : Hp} {Mu : List Addr} {v : V} {u : Value} {l : List (D × D)} (I : Inv X pins σ H s) (p : PR X.K X.mg z Mu H v (.dct l)) (r : RelV v u) : s.TypeIs u "dict" ∧ ∀ a, u = .ref a → ∃ ob, s.heap.get? a = some ob ∧ ob.dict = none := by
  obtain ⟨a, o, es, ep, ks, vs, rfl, ho, hsys, hex, _⟩ := p.dct
  cases r
  have hg : s.heap.get? a = some o := (I.hok a _ ho).1
  refine ⟨⟨o, hg, hex.1⟩, fun b e => ?_⟩
  cases e
  exact ⟨o, hg, hex.2.1⟩
theorem de_dget3 (hX : XG X) (ho : DE X z W ko eo fo) (hk : DE X z W kk ek fk) (hx0 : DE X z W .sh ex fx) (m : M2 X eo "get" apos ek ex cpos) :
    DE X z W .sh (.Call (.Attribute eo "get" apos) [ek, ex] [] cpos) (eGet3 fo fk fx) := by
  refine ⟨fun pins s σ H Q I ⟨ρ, g, Mu, E, G1, hx⟩ => ?_⟩
  have hu : X.A.units + 1 < cLine := by have := hX.eq; omega
  refine wpAny_Call_method m.base m.few m.line PySem.F.plainAttrs_dict PySem.F.slot_dict_get PySem.F.type_dict_get (de_run ho I E G1 (R.all_imp (R.all_bind hx) (fun d g1 hx v u H1 s1 I1 r1 e1 G2 E1 k1 => ?_) fun _ _ _ _ h => h))
  obtain ⟨l, hl0, hx⟩ := R.all_opt (R.all_bind hx)
  obtain rfl := asD_some hl0
  have p1 := k1.peek E.mu E1.mu G2
  obtain ⟨t1, t2⟩ := dct_facts I1 p1 r1
  refine ⟨t1, t2, ?_⟩
  rw [m.trees]
  refine Calls.callWith_builtin rfl (Calls.evalArgs_plain (Calls.spliced_cons (de_run hk I1 E1 G2 (R.all_imp (Raising.all (R.all_bind hx) e1) (fun k g2 hx v2 u2 H2 s2 I2 r2 e2 G3 E2 k2 => ?_) fun _ _ _ _ h => h))))
  have p2 := k2.peek E1.mu E2.mu G3
  refine Calls.spliced_cons (de_run hx0 I2 E2 G3 (R.all_imp (Raising.all (R.all_bind (Raising.all hx e1)) e2) (fun x g3 hx v3 u3 H3 s3 I3 r3 e3 G4 E3 k3 => Calls.spliced_nil ?_) fun _ _ _ _ h => h))
  obtain ⟨d, hd0, hx⟩ := R.all_opt hx
  obtain ⟨hok, rfl⟩ := opt_if hd0
  have q1 := (p1.ext E1.mu G2 e2).ext E2.mu G3 e3
  have q2 := p2.ext E2.mu G3 e3
  have q3 : Rep X.K X.mg z Mu H3 v3 x := k3
  obtain ⟨a, rfl, hsys, hT, _, gg⟩ := dct_key I3 q1 q2 r1 r2 hok
  have fin : ∀ {w : Value} {v' : V} {t : Nat}, RelV v' w → Rep X.K X.mg z Mu H3 v' ((look l k).getD x) → EP X pins σ Q w { s3 with toks := t } := fun rw' rp => ⟨_, H3, I3.tok _, rw', hx _ H3 ((e1.trans e2).trans e3) G4 rp⟩
  rcases gg with ⟨f, c, h1, h2, h3⟩ | ⟨xs, c, b, rfl, h1, h2, h3⟩
  · refine call_meetsIn PySem.F.slot_dict_get hT PySem.F.entry_dict_get (PySem.F.args_dict_get_3 _ _ _) (meets_dict_get_default (mixKind X.prog X.w) a h1 hsys u3) ⟨_, h2, ?_⟩
    cases hl : look l k with
    | none =>
      rw [hl] at h3
      rw [show f c = none from h3]
      exact fin r3 (by rw [hl]; exact q3)
    | some d =>
      rw [hl] at h3
      obtain ⟨w, v', e, rr, rp⟩ := h3
      rw [e]
      exact fin rr (by rw [hl]; exact rp)
  · refine call_meetsIn PySem.F.slot_dict_get hT PySem.F.entry_dict_get (PySem.F.args_dict_get_3 _ _ _) (meetsH_dict_get_default (tupleKind (mixKind X.prog X.w)) a b hsys u3) ⟨tupleKind_room_in1 hu, c, xs, h1, h2, ?_⟩
    cases hl : look l k with
    | none =>
      rw [hl] at h3
      rw [show atKey xs c = none from h3]
      exact fin r3 (by rw [hl]; exact q3)
    | some d =>
      rw [hl] at h3
      obtain ⟨p, v', e, rr, rp⟩ := h3
      rw [e]
      exact fin rr (by rw [hl]; exact rp)
end
end DL
set_option Elab.async false
set_option linter.all false
set_option maxRecDepth 100000
set_option maxHeartbeats 2000000
/-! The value layer, part 47: walks by zip(range(a), range(b, c)). -/
namespace ZR
open PySem
open PySem.Sem (wp)
section
variable {prog : Program} {w : World} {A : Around} {E : Value → Shared → Prop} {s : Shared}
theorem nextOf_item {it : Addr} {x left step : Int} {Q : Value → Shared → Prop} (hit : IsRangeIter s.heap it x left step) (hleft : 0 < left)
    (hQ : ∀ h', IsRangeIter h' it (x + step) (left - 1) step → Heap.SameBut it s.heap h' → Q (.int x s.toks) { s with heap := h', toks := s.toks + 1 }) :
    wpAny (model prog w) A (Builtin.SmallTypes.nextOf (.ref it)) Q E s := by
  have hT : s.TypeIs (.ref it) "range_iterator" := ⟨_, hit, rfl⟩
  unfold Builtin.SmallTypes.nextOf
  refine wpAny_bind (wpAny_callSpecial?_slot (name := Str.ofString "__next__") hT F.slot_range_iterator_next
    (call_meets F.slot_range_iterator_next hT F.entry_range_iterator_next (F.args_range_iterator_next_1 _) (AutoRange.range_iterator___next___range_iterator_1 it x left step (by omega)) ⟨hit, ?_⟩))
  exact wpAny_pure (hQ _ (Heap.get?_update_self _ (Heap.get?_update_self _ hit rfl) rfl) ((Heap.SameBut.update ..).trans (Heap.SameBut.update ..)))
theorem nextOf_end {it : Addr} {x left step : Int} {Q : Value → Shared → Prop} (hh : A.handled = none) (hit : IsRangeIter s.heap it x left step) (hleft : left ≤ 0)
    (hE : ∀ h' e, Heap.ExtBut it s.heap h' → (∃ o, h'.get? e = some o ∧ o.cls = .type "StopIteration") → E (.ref e) { s with heap := h' }) :
    wpAny (model prog w) A (Builtin.SmallTypes.nextOf (.ref it)) Q E s := by
  have hT : s.TypeIs (.ref it) "range_iterator" := ⟨_, hit, rfl⟩
  unfold Builtin.SmallTypes.nextOf
  refine wpAny_bind (wpAny_callSpecial?_slot (name := Str.ofString "__next__") hT F.slot_range_iterator_next
    (wpAny_call_entry F.slot_range_iterator_next hT F.entry_range_iterator_next ?_ (F.args_range_iterator_next_1 _)))
  show wpAny _ _ (field (.ref it) 0 >>= _) _ _ s
  refine wpAny_bind (wpAny_field hit rfl (x := rawInt x) rfl ?_)
  show wpAny _ _ (field (.ref it) 1 >>= _) _ _ s
  refine wpAny_bind (wpAny_field hit rfl (x := rawInt left) rfl ?_)
  show wpAny _ _ (field (.ref it) 2 >>= _) _ _ s
  refine wpAny_bind (wpAny_field hit rfl (x := rawInt step) rfl ?_)
  show wpAny _ _ (if left ≤ 0 then _ else _) _ _ s
  rw [if_pos hleft]
  refine wpAny_bind (wpAny_rule ?_)
  refine wpAny_bind ?_
  show wpAny _ _ (newExc (.type "StopIteration") [] >>= _) _ _ _
  refine wpAny_bind ?_
  simp only [newExc, newTuple]
  refine wpAny_bind (wpAny_newObj_type ?_ (by size_fits))
  refine wpAny_bind (m := firstArgMember _ _) (wpAny_of_eq (a := Value.none) (by first | rfl | (simp only [firstArgMember]; rfl)) ?_)
  refine wpAny_newObj_type ?_ (by size_fits)
  simp only [raiseNew]
  refine wpAny_bind (wpAny_handled ?_)
  first | rw [show A.in1.handled = none from hh] | rw [hh]
  refine wpAny_bind (wpAny_pure (wpAny_throw ?_))
  exact hE _ _ (((Heap.ExtBut.refl it s.heap).push _).push _) ⟨_, Heap.get?_push_size _ rfl, rfl⟩
theorem next_item {z TI TO i1 i2 l1 l2 : Addr} {x1 x2 m1 m2 : Int} {a b : Value} {Q : Value → Shared → Prop} (D : ZipApart z TI TO i1 i2 l1 l2)
    (hz : IsZip s.heap z TI TO .none) (hTI : IsPair s.heap TI (.ref i1) (.ref i2)) (hTO : IsPair s.heap TO a b)
    (h1 : IsRangeIter s.heap i1 x1 m1 1) (h2 : IsRangeIter s.heap i2 x2 m2 1) (hx : 0 < m1) (hy : 0 < m2)
    (hQ : ∀ h', IsZip h' z TI TO (rawInt s.heap.objs.size) → IsPair h' TO (.int x1 s.toks) (.int x2 (s.toks + 1)) → IsRangeIter h' i1 (x1 + 1) (m1 - 1) 1 → IsRangeIter h' i2 (x2 + 1) (m2 - 1) 1 → IsPair h' s.heap.objs.size (.int x1 s.toks) (.int x2 (s.toks + 1)) → h'.objs.size = s.heap.objs.size + 1 →
      (∀ c o, c ≠ z → c ≠ TO → c ≠ i1 → c ≠ i2 → s.heap.get? c = some o → h'.get? c = some o) → Q (.ref s.heap.objs.size) { s with heap := h', toks := s.toks + 1 + 1 }) :
    wpAny (model prog w) A (Builtin.«zip.__next__» ⟨[.ref z], []⟩) (fun fin s' => ∃ v, fin = .done (.ret v) ∧ Q v s') E s := by
  show wpAny _ _ (field (.ref z) 2 >>= _) _ _ _
  refine wpAny_bind (wpAny_field hz rfl (x := .bool false) rfl ?_)
  show wpAny _ _ (field (.ref z) 3 >>= _) _ _ _
  refine wpAny_bind (wpAny_field hz rfl (x := .ref TI) rfl ?_)
  refine wpAny_bind (wpAny_seqItems hTI rfl ?_)
  show wpAny _ _ (Builtin.SmallTypes.ownedTupleIsFree (.ref z) >>= _) _ _ _
  refine wpAny_bind ?_
  unfold Builtin.SmallTypes.ownedTupleIsFree
  refine wpAny_bind (wpAny_field hz rfl (x := .none) rfl (wpAny_pure ?_))
  simp only [if_true]
  refine wpAny_bind (wpAny_rule ?_)
  refine wpAny_bind (wpAny_field hz rfl (x := .ref TO) rfl ?_)
  refine wpAny_bind (wpAny_setField_rec hz (by simp) fun h₁ hz₁ hs₁ => ?_)
  replace hz₁ : IsZip h₁ z TI TO .ellipsis := hz₁
  refine wpAny_bind ?_
  simp only [List.zipIdx_cons, List.zipIdx_nil, List.forIn_cons, List.forIn_nil]
  refine wpAny_bind (wpAny_bind (wpAny_onRaise ?_))
  show wpAny _ _ (Builtin.SmallTypes.nextOf (.ref i1) >>= _) _ _ _
  refine wpAny_bind (nextOf_item (hs₁.extBut _ _ D.i1z h1) hx fun h₂ h1₂ hs₂ => wpAny_pure ?_)
  have hTO₂ : IsPair h₂ TO a b := hs₂.extBut _ _ D.TOi1 (hs₁.extBut _ _ D.TOz hTO)
  refine wpAny_bind (wpAny_seqItems hTO₂ rfl ?_)
  refine wpAny_bind (wpAny_updateSeq_pair hTO₂ fun h₃ hTO₃ hs₃ => ?_)
  replace hTO₃ : IsPair h₃ TO (.int x1 s.toks) b := hTO₃
  refine wpAny_bind (wpAny_letGo (wpAny_pure ?_))
  refine wpAny_bind (wpAny_bind (wpAny_onRaise ?_))
  show wpAny _ _ (Builtin.SmallTypes.nextOf (.ref i2) >>= _) _ _ _
  refine wpAny_bind (nextOf_item (hs₃.extBut _ _ D.TOi2.symm (hs₂.extBut _ _ D.i12.symm (hs₁.extBut _ _ D.i2z h2))) hy fun h₄ h2₄ hs₄ => wpAny_pure ?_)
  have hTO₄ : IsPair h₄ TO (.int x1 s.toks) b := hs₄.extBut _ _ D.TOi2 hTO₃
  refine wpAny_bind (wpAny_seqItems hTO₄ rfl ?_)
  refine wpAny_bind (wpAny_updateSeq_pair hTO₄ fun h₅ hTO₅ hs₅ => ?_)
  replace hTO₅ : IsPair h₅ TO (.int x1 s.toks) (.int x2 (s.toks + 1)) := hTO₅
  refine wpAny_bind (wpAny_letGo (wpAny_pure (wpAny_pure ?_)))
  refine wpAny_bind (wpAny_seqItems hTO₅ rfl ?_)
  refine wpAny_bind (wpAny_newTuple ?_)
  have hsz : h₅.objs.size = s.heap.objs.size := by rw [hs₅.1, hs₄.1, hs₃.1, hs₂.1, hs₁.1]
  have hz₅ : IsZip h₅ z TI TO .ellipsis := hs₅.extBut _ _ D.TOz.symm (hs₄.extBut _ _ D.i2z.symm (hs₃.extBut _ _ D.TOz.symm (hs₂.extBut _ _ D.i1z.symm hz₁)))
  have hk₅ : ∀ c o, c ≠ z → c ≠ TO → c ≠ i1 → c ≠ i2 → s.heap.get? c = some o → h₅.get? c = some o := fun c o c1 c2 c3 c4 e =>
    hs₅.extBut _ _ c2 (hs₄.extBut _ _ c4 (hs₃.extBut _ _ c2 (hs₂.extBut _ _ c3 (hs₁.extBut _ _ c1 e))))
  have h1₅ : IsRangeIter h₅ i1 (x1 + 1) (m1 - 1) 1 := hs₅.extBut _ _ D.TOi1.symm (hs₄.extBut _ _ D.i12 (hs₃.extBut _ _ D.TOi1.symm h1₂))
  have h2₅ : IsRangeIter h₅ i2 (x2 + 1) (m2 - 1) 1 := hs₅.extBut _ _ D.TOi2.symm h2₄
  have hzlt : z < h₅.objs.size := Heap.lt_size hz₅
  show wpAny _ _ (Builtin.SmallTypes.ownedTupleHandOut (.ref z) (.ref h₅.objs.size) >>= _) _ _ _
  refine wpAny_bind ?_
  unfold Builtin.SmallTypes.ownedTupleHandOut
  have hz₆ : IsZip (h₅.push { cls := .type "tuple", data := .seq #[.int x1 s.toks, .int x2 (s.toks + 1)] }) z TI TO .ellipsis := Heap.get?_push_of_some _ hz₅
  refine wpAny_bind (wpAny_setField_rec hz₆ (by simp) fun h₇ hz₇ hs₇ => ?_)
  replace hz₇ : IsZip h₇ z TI TO (rawInt h₅.objs.size) := hz₇
  refine wpAny_setField_rec hz₇ (by simp) fun h₈ hz₈ hs₈ => ?_
  replace hz₈ : IsZip h₈ z TI TO (rawInt h₅.objs.size) := hz₈
  have up : ∀ c o, c ≠ z → h₅.get? c = some o → h₈.get? c = some o := fun c o c1 e => hs₈.extBut _ _ c1 (hs₇.extBut _ _ c1 (Heap.get?_push_of_some _ e))
  have hT₈ : IsPair h₈ h₅.objs.size (.int x1 s.toks) (.int x2 (s.toks + 1)) := hs₈.extBut _ _ (Nat.ne_of_gt hzlt) (hs₇.extBut _ _ (Nat.ne_of_gt hzlt) (Heap.get?_push_size _ rfl))
  have hz8 : h₈.objs.size = h₅.objs.size + 1 := by rw [hs₈.1, hs₇.1, Heap.size_push]
  rw [hsz] at hz₈ hT₈ hz8
  refine wpAny_pure ⟨_, rfl, ?_⟩
  show Q (.ref h₅.objs.size) _
  rw [hsz]
  exact hQ h₈ hz₈ (up _ _ D.TOz hTO₅) (up _ _ D.i1z h1₅) (up _ _ D.i2z h2₅) hT₈ hz8 fun c o c1 c2 c3 c4 e => up c o c1 (hk₅ c o c1 c2 c3 c4 e)
theorem next_end {z TI TO i1 i2 l1 l2 : Addr} {x1 x2 m1 m2 : Int} {a b : Value} {Q : Fin → Shared → Prop} (hh : A.handled = none) (D : ZipApart z TI TO i1 i2 l1 l2)
    (hz : IsZip s.heap z TI TO .none) (hTI : IsPair s.heap TI (.ref i1) (.ref i2)) (hTO : IsPair s.heap TO a b)
    (h1 : IsRangeIter s.heap i1 x1 m1 1) (h2 : IsRangeIter s.heap i2 x2 m2 1) (hend : m1 ≤ 0 ∨ m2 ≤ 0)
    (hE : ∀ h' e t', (∀ c o, c ≠ z → c ≠ TO → c ≠ i1 → c ≠ i2 → s.heap.get? c = some o → h'.get? c = some o) → (∃ o, h'.get? e = some o ∧ o.cls = .type "StopIteration") → E (.ref e) { s with heap := h', toks := t' }) :
    wpAny (model prog w) A (Builtin.«zip.__next__» ⟨[.ref z], []⟩) Q E s := by
  show wpAny _ _ (field (.ref z) 2 >>= _) _ _ _
  refine wpAny_bind (wpAny_field hz rfl (x := .bool false) rfl ?_)
  show wpAny _ _ (field (.ref z) 3 >>= _) _ _ _
  refine wpAny_bind (wpAny_field hz rfl (x := .ref TI) rfl ?_)
  refine wpAny_bind (wpAny_seqItems hTI rfl ?_)
  show wpAny _ _ (Builtin.SmallTypes.ownedTupleIsFree (.ref z) >>= _) _ _ _
  refine wpAny_bind ?_
  unfold Builtin.SmallTypes.ownedTupleIsFree
  refine wpAny_bind (wpAny_field hz rfl (x := .none) rfl (wpAny_pure ?_))
  simp only [if_true]
  refine wpAny_bind (wpAny_rule ?_)
  refine wpAny_bind (wpAny_field hz rfl (x := .ref TO) rfl ?_)
  refine wpAny_bind (wpAny_setField_rec hz (by simp) fun h₁ hz₁ hs₁ => ?_)
  replace hz₁ : IsZip h₁ z TI TO .ellipsis := hz₁
  refine wpAny_bind ?_
  simp only [List.zipIdx_cons, List.zipIdx_nil, List.forIn_cons, List.forIn_nil]
  refine wpAny_bind (wpAny_bind (wpAny_onRaise ?_))
  show wpAny _ _ (Builtin.SmallTypes.nextOf (.ref i1) >>= _) _ _ _
  by_cases hx : m1 ≤ 0
  · refine wpAny_bind (nextOf_end hh (hs₁.extBut _ _ D.i1z h1) hx fun h₂ e hs₂ he => ?_)
    obtain ⟨oe, hoe, hce⟩ := he
    have hz₂ : IsZip h₂ z TI TO .ellipsis := hs₂ _ _ D.i1z.symm hz₁
    have hez : e ≠ z := fun x => by subst x; rw [hz₂] at hoe; cases hoe; simp at hce
    refine wpAny_setField_rec hz₂ (by simp) fun h₃ _ hs₃ => hE h₃ e _ (fun c o c1 _ c3 _ x => hs₃.extBut _ _ c1 (hs₂ _ _ c3 (hs₁.extBut _ _ c1 x))) ⟨oe, hs₃.extBut _ _ hez hoe, hce⟩
  · have hy : m2 ≤ 0 := by omega
    refine wpAny_bind (nextOf_item (hs₁.extBut _ _ D.i1z h1) (by omega) fun h₂ h1₂ hs₂ => wpAny_pure ?_)
    have hTO₂ : IsPair h₂ TO a b := hs₂.extBut _ _ D.TOi1 (hs₁.extBut _ _ D.TOz hTO)
    refine wpAny_bind (wpAny_seqItems hTO₂ rfl ?_)
    refine wpAny_bind (wpAny_updateSeq_pair hTO₂ fun h₃ hTO₃ hs₃ => ?_)
    refine wpAny_bind (wpAny_letGo (wpAny_pure ?_))
    refine wpAny_bind (wpAny_bind (wpAny_onRaise ?_))
    show wpAny _ _ (Builtin.SmallTypes.nextOf (.ref i2) >>= _) _ _ _
    refine wpAny_bind (nextOf_end hh (hs₃.extBut _ _ D.TOi2.symm (hs₂.extBut _ _ D.i12.symm (hs₁.extBut _ _ D.i2z h2))) hy fun h₄ e hs₄ he => ?_)
    obtain ⟨oe, hoe, hce⟩ := he
    have hz₄ : IsZip h₄ z TI TO .ellipsis := hs₄ _ _ D.i2z.symm (hs₃.extBut _ _ D.TOz.symm (hs₂.extBut _ _ D.i1z.symm hz₁))
    have hez : e ≠ z := fun x => by subst x; rw [hz₄] at hoe; cases hoe; simp at hce
    refine wpAny_setField_rec hz₄ (by simp) fun h₅ _ hs₅ => hE h₅ e _ (fun c o c1 c2 c3 c4 x => hs₅.extBut _ _ c1 (hs₄ _ _ c4 (hs₃.extBut _ _ c2 (hs₂.extBut _ _ c3 (hs₁.extBut _ _ c1 x))))) ⟨oe, hs₅.extBut _ _ hez hoe, hce⟩
theorem py_item {z TI TO i1 i2 l1 l2 : Addr} {x1 x2 m1 m2 : Int} {a b : Value} {Q : Option Value → Shared → Prop} (D : ZipApart z TI TO i1 i2 l1 l2)
    (hz : IsZip s.heap z TI TO .none) (hTI : IsPair s.heap TI (.ref i1) (.ref i2)) (hTO : IsPair s.heap TO a b)
    (h1 : IsRangeIter s.heap i1 x1 m1 1) (h2 : IsRangeIter s.heap i2 x2 m2 1) (hx : 0 < m1) (hy : 0 < m2)
    (hQ : ∀ h', IsZip h' z TI TO (rawInt s.heap.objs.size) → IsPair h' TO (.int x1 s.toks) (.int x2 (s.toks + 1)) → IsRangeIter h' i1 (x1 + 1) (m1 - 1) 1 → IsRangeIter h' i2 (x2 + 1) (m2 - 1) 1 → IsPair h' s.heap.objs.size (.int x1 s.toks) (.int x2 (s.toks + 1)) → h'.objs.size = s.heap.objs.size + 1 →
      (∀ c o, c ≠ z → c ≠ TO → c ≠ i1 → c ≠ i2 → s.heap.get? c = some o → h'.get? c = some o) → Q (some (.ref s.heap.objs.size)) { s with heap := h', toks := s.toks + 1 + 1 }) :
    wpAny (model prog w) A (pyNext (.ref z)) Q E s := by
  have hT : s.TypeIs (.ref z) "zip" := ⟨_, hz, rfl⟩
  unfold pyNext
  exact wpAny_bind (wpAny_attempt (wpAny_callSpecial?_slot (name := Str.ofString "__next__") hT F.slot_zip_next
    (wpAny_call_entry F.slot_zip_next hT F.entry_zip_next
      (next_item D hz hTI hTO h1 h2 hx hy fun h' a1 a2 a3 a4 a5 a6 a7 => wpAny_pure (hQ h' a1 a2 a3 a4 a5 a6 a7)) (F.args_zip_next_1 _))))
theorem py_end {z TI TO i1 i2 l1 l2 : Addr} {x1 x2 m1 m2 : Int} {a b : Value} {Q : Option Value → Shared → Prop} (hh : A.handled = none) (D : ZipApart z TI TO i1 i2 l1 l2)
    (hz : IsZip s.heap z TI TO .none) (hTI : IsPair s.heap TI (.ref i1) (.ref i2)) (hTO : IsPair s.heap TO a b)
    (h1 : IsRangeIter s.heap i1 x1 m1 1) (h2 : IsRangeIter s.heap i2 x2 m2 1) (hend : m1 ≤ 0 ∨ m2 ≤ 0)
    (hQ : ∀ h' t', (∀ c o, c ≠ z → c ≠ TO → c ≠ i1 → c ≠ i2 → s.heap.get? c = some o → h'.get? c = some o) → Q none { s with heap := h', toks := t' }) : wpAny (model prog w) A (pyNext (.ref z)) Q E s := by
  have hT : s.TypeIs (.ref z) "zip" := ⟨_, hz, rfl⟩
  unfold pyNext
  refine wpAny_bind (wpAny_attempt (wpAny_callSpecial?_slot (name := Str.ofString "__next__") hT F.slot_zip_next
    (wpAny_call_entry F.slot_zip_next hT F.entry_zip_next (next_end hh D hz hTI hTO h1 h2 hend fun h' e t' hk he => ?_) (F.args_zip_next_1 _))))
  obtain ⟨o, ho, hc⟩ := he
  refine wpAny_bind (wpAny_isInstance (T := "StopIteration") (b := true) ⟨o, ho, hc⟩ isSubtype_stop ?_)
  exact wpAny_pure (hQ _ _ hk)
end
abbrev rIt (a b : Int) : Obj := { cls := .type "range_iterator", data := .fields #[rawInt a, rawInt (Builtin.Range.rangeSize a b 1), rawInt 1] }
abbrev H1 (h : Heap) (a b : Int) : Heap := h.push (rIt a b)
abbrev H2 (h : Heap) (a b a' b' : Int) : Heap := (H1 h a b).push (rIt a' b')
abbrev H3 (h : Heap) (a b a' b' : Int) : Heap := (H2 h a b a' b').push { cls := .type "tuple", data := .seq #[.ref h.objs.size, .ref (H1 h a b).objs.size] }
abbrev H4 (h : Heap) (a b a' b' : Int) : Heap := (H3 h a b a' b').push { cls := .type "tuple", data := .seq #[.none, .none] }
abbrev H5 (h : Heap) (a b a' b' : Int) : Heap := (H4 h a b a' b').push { cls := .type "zip", data := .fields #[.none, .bool false, .bool false, .ref (H2 h a b a' b').objs.size, .ref (H3 h a b a' b').objs.size] }
theorem meets_new (l1 l2 : Addr) (a b a' b' : Int) (t u v t' u' v' : Tok) (hs : Builtin.Range.small a b 1 = true) (hs' : Builtin.Range.small a' b' 1 = true) :
    Meets (Builtin.«zip.__new__» ⟨[.type "zip", .ref l1, .ref l2], []⟩) (fun _ R s => IsRange s.heap l1 a b 1 t u v ∧ IsRange s.heap l2 a' b' 1 t' u' v' ∧
      R (.ok (.ret (.ref (H4 s.heap a b a' b').objs.size))) { s with heap := H5 s.heap a b a' b' }) :=
  .of_wp fun prog w A R s h => by
    obtain ⟨hp, g, d, tk, os⟩ := s; obtain ⟨hl1, hl2, h⟩ := h
    have hsub := sub_zip
    have hL1 : IsRange (Shared.heap ⟨hp, g, d, tk, os⟩) l1 a b 1 t u v := hl1
    have hL2 : IsRange (Shared.heap ⟨hp.push (rIt a b), g, d, tk, os⟩) l2 a' b' 1 t' u' v' := Heap.get?_push_of_some _ hl2
    wp_walk using wpAny_pyIter_range hL1 hs, wpAny_pyIter_range hL2 hs'
    exact ⟨_, rfl, h⟩
section
variable {prog : Program} {w : World} {A : Around} {E : Value → Shared → Prop} {s : Shared}
theorem call_zip {l1 l2 : Addr} {a b a' b' : Int} {t u v t' u' v' : Tok} {Q : Value → Shared → Prop} (hl1 : IsRange s.heap l1 a b 1 t u v) (hl2 : IsRange s.heap l2 a' b' 1 t' u' v') (hs : Builtin.Range.small a b 1 = true) (hs' : Builtin.Range.small a' b' 1 = true)
    (h : ∀ h', IsZip h' (s.heap.objs.size + 4) (s.heap.objs.size + 2) (s.heap.objs.size + 3) .none → IsPair h' (s.heap.objs.size + 2) (.ref s.heap.objs.size) (.ref (s.heap.objs.size + 1)) →
      IsPair h' (s.heap.objs.size + 3) .none .none → IsRangeIter h' s.heap.objs.size a (Builtin.Range.rangeSize a b 1) 1 → IsRangeIter h' (s.heap.objs.size + 1) a' (Builtin.Range.rangeSize a' b' 1) 1 → h'.objs.size = s.heap.objs.size + 5 →
      (∀ c o, s.heap.get? c = some o → h'.get? c = some o) → Q (.ref (s.heap.objs.size + 4)) { s with heap := h' }) :
    wpAny (model prog w) A (call (.type "zip") [.ref l1, .ref l2]) Q E s := by
  refine callType_new F.called_zip (by decide) (F.typeCall_zip_2 _ _) (F.newCall_zip_2 _ _) (fun obj => F.args_object_init_3 obj _ _) F.entry_zip_new
    (meets_new l1 l2 a b a' b' t u v t' u' v' hs hs') ⟨hl1, hl2, ?_⟩
  have z1 : (H1 s.heap a b).objs.size = s.heap.objs.size + 1 := Heap.size_push ..
  have z2 : (H2 s.heap a b a' b').objs.size = s.heap.objs.size + 2 := by rw [Heap.size_push, z1]
  have z3 : (H3 s.heap a b a' b').objs.size = s.heap.objs.size + 3 := by rw [Heap.size_push, z2]
  have z4 : (H4 s.heap a b a' b').objs.size = s.heap.objs.size + 4 := by rw [Heap.size_push, z3]
  have z5 : (H5 s.heap a b a' b').objs.size = s.heap.objs.size + 5 := by rw [Heap.size_push, z4]
  have g5 : (H5 s.heap a b a' b').get? (H4 s.heap a b a' b').objs.size = some _ := Heap.get?_push_size _ rfl
  have g4 : (H5 s.heap a b a' b').get? (H3 s.heap a b a' b').objs.size = some _ := Heap.get?_push_of_some _ (Heap.get?_push_size _ rfl)
  have g3 : (H5 s.heap a b a' b').get? (H2 s.heap a b a' b').objs.size = some _ := Heap.get?_push_of_some _ (Heap.get?_push_of_some _ (Heap.get?_push_size _ rfl))
  have g2 : (H5 s.heap a b a' b').get? (H1 s.heap a b).objs.size = some _ := Heap.get?_push_of_some _ (Heap.get?_push_of_some _ (Heap.get?_push_of_some _ (Heap.get?_push_size _ rfl)))
  have g1 : (H5 s.heap a b a' b').get? s.heap.objs.size = some _ := Heap.get?_push_of_some _ (Heap.get?_push_of_some _ (Heap.get?_push_of_some _ (Heap.get?_push_of_some _ (Heap.get?_push_size _ rfl))))
  show _ ∧ _
  rw [z2, z3, z4] at g5
  rw [z1, z2] at g3
  rw [z3] at g4
  rw [z1] at g2
  rw [z4]
  exact ⟨⟨_, g5, rfl⟩, h _ g5 g3 g4 g1 g2 z5 fun c o x =>
    Heap.get?_push_of_some _ (Heap.get?_push_of_some _ (Heap.get?_push_of_some _ (Heap.get?_push_of_some _ (Heap.get?_push_of_some _ x))))⟩
end
end ZR
set_option Elab.async false
set_option linter.all false
set_option maxRecDepth 100000
set_option maxHeartbeats 2000000
/-! The value layer, part 48: walks by zip(range(a), range(b, c)): the turns, the rule. -/
namespace DL
open PySem PySem.Spec PyProof.Rows L2

/-- a range object -/
abbrev rgO (i j : Int) (t u v : Tok) : Obj := { cls := .type "range", data := .fields #[.int i t, .int j u, .int 1 v] }
def ItzR (lo lo' : Int) (n n' : Nat) : It :=
  ⟨fun i _ => i < n ∧ i < n', fun i H v H' => ∃ T, v = .ref T ∧ H T = none ∧ H' = upd H T (.tup [.int (lo + (i : Nat)), .int (lo' + (i : Nat))]), fun i _ => n ≤ i ∨ n' ≤ i⟩
theorem turn_zipR {P : Program} {w : World} {K : PySem.W.Frag} {elts : List Expr} {kk : Nat} {tpos : Pos} {a b z TI TO i1 i2 : Addr} {lo lo' : Int} {n n' : Nat} (D : ZipApart z TI TO i1 i2 a b) :
    Turn P w K (.Tuple elts kk tpos) (ItzR lo lo' n n') [z, TI, TO, i1, i2] z (fun i h => IsZip h z TI TO .none ∧ IsPair h TI (.ref i1) (.ref i2) ∧ (∃ x y, IsPair h TO x y) ∧ IsRangeIter h i1 (lo + (i : Nat)) ((n : Int) - (i : Nat)) 1 ∧ IsRangeIter h i2 (lo' + (i : Nat)) ((n' : Int) - (i : Nat)) 1) where
  mem := by simp
  obj := fun i h st c hc => by
    obtain ⟨hz, hTI, ⟨x, y, hTO⟩, h1, h2⟩ := st
    have e' : c = z ∨ c = TI ∨ c = TO ∨ c = i1 ∨ c = i2 := by simpa using hc
    rcases e' with q | q | q | q | q
    · rw [q]; exact ⟨_, hz, fun v q => nomatch q⟩
    · rw [q]; exact ⟨_, hTI, fun v q => nomatch q⟩
    · rw [q]; exact ⟨_, hTO, fun v q => nomatch q⟩
    · rw [q]; exact ⟨_, h1, fun v q => nomatch q⟩
    · rw [q]; exact ⟨_, h2, fun v q => nomatch q⟩
  keep := fun i h h' st k => by
    obtain ⟨hz, hTI, ⟨x, y, hTO⟩, h1, h2⟩ := st
    exact ⟨k z (by simp) _ hz, k TI (by simp) _ hTI, ⟨x, y, k TO (by simp) _ hTO⟩, k i1 (by simp) _ h1, k i2 (by simp) _ h2⟩
  item := by
    intro X hP hw hK hc i pins s σ H E I hf st hg
    subst hP hw hK
    obtain ⟨hz, hTI, ⟨x0, y0, hTO⟩, h1, h2⟩ := st
    obtain ⟨hx, hy⟩ := hg
    have hzl : z < s.heap.objs.size := Heap.lt_size hz
    refine ZR.py_item D hz hTI hTO h1 h2 (by omega) (by omega) fun h' z' TO' h1' h2' hT hsz hk => ?_
    refine ⟨_, rfl, wpAny_letOwnedTupleGo_zip (s := { s with heap := h', toks := s.toks + 1 + 1 }) z' fun h'' z'' sb => ?_⟩
    have hT2 : h''.get? s.heap.objs.size = some { cls := .type "tuple", data := .seq #[.int (lo + (i : Nat)) s.toks, .int (lo' + (i : Nat)) (s.toks + 1)] } := (sb.2 _ (Nat.ne_of_gt hzl)).trans hT
    have new : ObjOk X.prog X.w (upd H s.heap.objs.size (.tup [.int (lo + (i : Nat)), .int (lo' + (i : Nat))])) h'' s.heap.objs.size (.tup [.int (lo + (i : Nat)), .int (lo' + (i : Nat))]) :=
      ⟨by show 2 ≤ sizeLine; decide, [_, _], .cons ⟨_, rfl⟩ (.cons ⟨_, rfl⟩ .nil), ⟨_, hT2, rfl, _, rfl⟩⟩
    have I1 : Inv X pins σ (upd H s.heap.objs.size (.tup [.int (lo + (i : Nat)), .int (lo' + (i : Nat))])) { s with heap := h'', toks := s.toks + 1 + 1 } :=
      I.turnedNew (t' := s.toks + 1 + 1) (ch := [z, TI, TO, i1, i2]) (fun c o hb q => (sb.2 c (fun q' => hb (by simp [q']))).trans (hk c o (fun q' => hb (by simp [q'])) (fun q' => hb (by simp [q'])) (fun q' => hb (by simp [q'])) (fun q' => hb (by simp [q'])) q)) hf (Nat.le_refl _) new
    have a1 : lo + (i : Int) + 1 = lo + ((i + 1 : Nat) : Int) := by push_cast; omega
    have a2 : lo' + (i : Int) + 1 = lo' + ((i + 1 : Nat) : Int) := by push_cast; omega
    have b1 : (n : Int) - (i : Int) - 1 = (n : Int) - ((i + 1 : Nat) : Int) := by push_cast; omega
    have b2 : (n' : Int) - (i : Int) - 1 = (n' : Int) - ((i + 1 : Nat) : Int) := by push_cast; omega
    rw [a1, b1] at h1'
    rw [a2, b2] at h2'
    refine ⟨.ref s.heap.objs.size, _, I1, rfl, ⟨_, rfl, I.hok.fresh (Nat.le_refl _), rfl⟩, ⟨z'', ?_, ⟨.int (lo + (i : Nat)) s.toks, .int (lo' + (i : Nat)) (s.toks + 1), ?_⟩, ?_, ?_⟩, fun c hcm => ?_⟩
    · exact (sb.2 _ D.TIz).trans (hk _ _ D.TIz D.TITO D.TIi1 D.TIi2 hTI)
    · exact (sb.2 _ D.TOz).trans TO'
    · exact (sb.2 _ D.i1z).trans h1'
    · exact (sb.2 _ D.i2z).trans h2'
    · have hlt : c < s.heap.objs.size := by
        have e' : c = z ∨ c = TI ∨ c = TO ∨ c = i1 ∨ c = i2 := by simpa using hcm
        rcases e' with q | q | q | q | q
        · rw [q]; exact hzl
        · rw [q]; exact Heap.lt_size hTI
        · rw [q]; exact Heap.lt_size hTO
        · rw [q]; exact Heap.lt_size h1
        · rw [q]; exact Heap.lt_size h2
      rw [upd_ne (Nat.ne_of_lt hlt)]
      exact (hf c hcm).1
  done := by
    intro X hP hw hK hc i pins s σ H E I hf st hg
    subst hP hw hK
    obtain ⟨hz, hTI, ⟨x0, y0, hTO⟩, h1, h2⟩ := st
    have hg : n ≤ i ∨ n' ≤ i := hg
    exact ZR.py_end (I.ok.hd hc) D hz hTI hTO h1 h2 (by omega) fun h' t' hk => ⟨rfl, I.turnedL (t' := t') (ch := [z, TI, TO, i1, i2]) (fun c o hb q =>
      hk c o (fun q' => hb (by simp [q'])) (fun q' => hb (by simp [q'])) (fun q' => hb (by simp [q'])) (fun q' => hb (by simp [q'])) q) hf⟩
  self := fun A i s Q E st h => wpAny_pyIter_zip st.1 h
abbrev BdR (i j : Int) : Prop := -(2 ^ 62) ≤ i ∧ i < 2 ^ 62 ∧ -(2 ^ 62) ≤ j ∧ j < 2 ^ 62
def iZipR (ta : TA) : TI := fun σ H R => ta σ H fun vs H1 => ∃ (a b : Addr) (i j i' j' : Int) (t u v t' u' v' : Tok), vs = [.ref a, .ref b] ∧ H1 a = some (ObV a (rgO i j t u v)) ∧ H1 b = some (ObV b (rgO i' j' t' u' v')) ∧ BdR i j ∧ BdR i' j' ∧ R (ItzR i i' (j - i).toNat (j' - i').toNat) H1
theorem pi_zipR {X : Cx} {e e2 : Expr} {ta : TA} {p pos tpos : Pos} {elts : List Expr} {kk : Nat} (hg : Gl X "zip") (hm : X.mg "zip" = none) (ha : PA X [e, e2] ta)
    (hs : starEach [e, e2] X.env = (false, eval e X.env) :: starEach [e2] X.env := by rfl) (hpl : (backTo pos (starEach [e2] X.env)).any (·.1) = false := by rfl) :
    PI X (.Tuple elts kk tpos) (.Call (.Name "zip" p) [e, e2] [] pos) (iZipR ta) := by
  refine ⟨fun pins s σ H R I h => ?_⟩
  refine Call_ (ld_blt I hg hm PyProof.Rows.boot_zip (PyProof.Rows.callWith_type1 (thn (ha.run pos pins s σ H _ I h) fun us s1 ⟨vs, H1, I1, r1, q1⟩ => ?_) hs hpl))
  obtain ⟨a, b, i, j, i', j', t, u, v, t', u', v', ex, hqx, hqy, ⟨p1, p2, p3, p4⟩, ⟨p5, p6, p7, p8⟩, q⟩ := q1
  subst ex
  cases r1 with
  | cons r rr =>
    cases rr with
    | cons r' rr =>
      cases rr
      cases r
      cases r'
      have g1 : IsRange s1.heap a i j 1 t u v := (I1.hok a _ hqx).1
      have g2 : IsRange s1.heap b i' j' 1 t' u' v' := (I1.hok b _ hqy).1
      refine ZR.call_zip g1 g2 (small_one p1 p2 p3 p4) (small_one p5 p6 p7 p8) fun h' hz hTI hTO h1 h2 hsz hk => wpAny_pyIter_zip hz ?_
      have I2 : Inv X pins σ H1 { s1 with heap := h' } := I1.kept (t' := s1.toks) hk
      have e1 : Builtin.Range.rangeSize i j 1 = (((j - i).toNat : Nat) : Int) - ((0 : Nat) : Int) := by rw [rangeSize_one]; split <;> omega
      have e2 : Builtin.Range.rangeSize i' j' 1 = (((j' - i').toNat : Nat) : Int) - ((0 : Nat) : Int) := by rw [rangeSize_one]; split <;> omega
      have e3 : ∀ x : Int, x = x + ((0 : Nat) : Int) := fun x => by simp
      rw [e1, e3 i] at h1
      rw [e2, e3 i'] at h2
      refine ⟨s1.heap.objs.size + 4, [s1.heap.objs.size + 4, s1.heap.objs.size + 2, s1.heap.objs.size + 3, s1.heap.objs.size, s1.heap.objs.size + 1], _, _, H1, rfl, I2, turn_zipR (PySem.W.ktu_apart s1.heap.objs.size a b (Heap.lt_size g1) (Heap.lt_size g2)), ⟨hz, hTI, ⟨_, _, hTO⟩, h1, h2⟩, fun c hcm => ?_, by simpa using q⟩
      have e' : c = s1.heap.objs.size + 4 ∨ c = s1.heap.objs.size + 2 ∨ c = s1.heap.objs.size + 3 ∨ c = s1.heap.objs.size ∨ c = s1.heap.objs.size + 1 := by simpa using hcm
      have hle : s1.heap.objs.size ≤ c := by
        rcases e' with z | z | z | z | z
        · rw [z]; exact Nat.le_add_right _ _
        · rw [z]; exact Nat.le_add_right _ _
        · rw [z]; exact Nat.le_add_right _ _
        · rw [z]; exact Nat.le_refl _
        · rw [z]; exact Nat.le_add_right _ _
      exact I1.fpOk hle (I1.hok.fresh hle)
/-- a range object, as a value -/
def tRg1 (ta : TA) : TE := fun σ H Q => ta σ H fun vs H1 => ∃ j : Int, vs = [.int j] ∧ ∀ r t u v, H1 r = none → Q (.ref r) (upd H1 r (ObV r (rgO 0 j t u v)))
def tRg2 (ta : TA) : TE := fun σ H Q => ta σ H fun vs H1 => ∃ i j : Int, vs = [.int i, .int j] ∧ ∀ r t u v, H1 r = none → Q (.ref r) (upd H1 r (ObV r (rgO i j t u v)))
section
variable {X : Cx}
theorem pe_rg1 {a : Expr} {ta : TA} {p pos : Pos} (hg : Gl X "range") (hm : X.mg "range" = none) (ha : PA X [a] ta) (hs : starEach [a] X.env = [(false, eval a X.env)] := by rfl) : PE X (.Call (.Name "range" p) [a] [] pos) (tRg1 ta) := by
  refine ⟨fun pins s σ H Q I h => ?_⟩
  refine Call_ (ld_blt I hg hm boot_range (PyProof.Rows.callWith_type1 (thn (ha.run pos pins s σ H _ I h) fun us s1 ⟨vs, H1, I1, r1, q1⟩ => ?_) hs rfl))
  obtain ⟨j, e, q⟩ := q1
  subst e
  cases r1 with
  | cons r rr =>
    cases rr
    obtain ⟨t, rfl⟩ := r
    refine call_range_1 ?_
    exact ⟨.ref s1.heap.objs.size, _, I1.laid (o := ObV s1.heap.objs.size (rgO 0 j s1.toks t (s1.toks + 1))) (t' := s1.toks + 1 + 1) (fun b o e => Heap.get?_push_of_some _ e) (Nat.le_refl _) ⟨Heap.get?_push_size _ rfl, ⟨_, Heap.get?_push_size _ rfl⟩, fun _ _ h k => k _ h⟩, rfl, q _ _ _ _ (I1.hok.fresh (Nat.le_refl _))⟩
theorem pe_rg2 {a b : Expr} {ta : TA} {p pos : Pos} (hg : Gl X "range") (hm : X.mg "range" = none) (ha : PA X [a, b] ta) (hs : starEach [a, b] X.env = [(false, eval a X.env), (false, eval b X.env)] := by rfl) (hs2 : starEach [b] X.env = [(false, eval b X.env)] := by rfl) :
    PE X (.Call (.Name "range" p) [a, b] [] pos) (tRg2 ta) := by
  refine ⟨fun pins s σ H Q I h => ?_⟩
  refine Call_ (ld_blt I hg hm boot_range (PyProof.Rows.callWith_type1 (thn (ha.run pos pins s σ H _ I h) fun us s1 ⟨vs, H1, I1, r1, q1⟩ => ?_) (by rw [hs, hs2]) (by rw [hs2]; rfl)))
  obtain ⟨i, j, e, q⟩ := q1
  subst e
  cases r1 with
  | cons r rr =>
    cases rr with
    | cons r' rr =>
      cases rr
      obtain ⟨t, rfl⟩ := r
      obtain ⟨t', rfl⟩ := r'
      refine call_range_2 ?_
      exact ⟨.ref s1.heap.objs.size, _, I1.laid (o := ObV s1.heap.objs.size (rgO i j t t' s1.toks)) (t' := s1.toks + 1) (fun b o e => Heap.get?_push_of_some _ e) (Nat.le_refl _) ⟨Heap.get?_push_size _ rfl, ⟨_, Heap.get?_push_size _ rfl⟩, fun _ _ h k => k _ h⟩, rfl, q _ _ _ _ (I1.hok.fresh (Nat.le_refl _))⟩
end
theorem rangeL_get {lo : Int} {n i : Nat} {d : D} (h : (rangeL lo n)[i]? = some d) : i < n ∧ d = .int (lo + (i : Nat)) := by
  unfold rangeL at h
  rw [List.getElem?_map] at h
  obtain ⟨j, hj, rfl⟩ := Option.map_eq_some_iff.mp h
  have hlt : i < n := by
    have h := (List.getElem?_eq_some_iff.mp hj).1
    rwa [List.length_range] at h
  have ej : j = i := by
    rw [List.getElem?_range hlt] at hj
    exact (Option.some.inj hj).symm
  subst ej
  exact ⟨hlt, rfl⟩
theorem yields_zipR {K : PySem.W.Frag} {mg : Str → Option Value} {z : Zt} {Nu Mu : List Addr} {H : Hp} (lo lo' : Int) (n n' : Nat) : Yields K mg z Nu Mu (ItzR lo lo' n n') H (zipD (rangeL lo n) (rangeL lo' n')) := by
  intro H2 e i
  unfold zipD
  refine ⟨fun d hd => ?_, fun hi => ?_⟩
  · obtain ⟨x, y, hx, hy, rfl⟩ := List.getElem?_zipWith_eq_some.mp hd
    obtain ⟨h1, rfl⟩ := rangeL_get hx
    obtain ⟨h2, rfl⟩ := rangeL_get hy
    refine ⟨⟨h1, h2⟩, fun u H3 hu => ?_⟩
    obtain ⟨T, rfl, hT, rfl⟩ := hu
    refine ⟨same_upd' hT, fun M2 hm ho => ?_⟩
    have nT : T ∉ M2 := fun w => by
      obtain ⟨u, q, _⟩ := ho T w
      rw [hT] at q
      cases q
    exact .tup nT upd_same (.cons (.int _) (.cons (.int _) .nil))
  · rw [List.length_zipWith] at hi
    have : (rangeL lo n).length = n := by unfold rangeL; rw [List.length_map, List.length_range]
    have : (rangeL lo' n').length = n' := by unfold rangeL; rw [List.length_map, List.length_range]
    show n ≤ i ∨ n' ≤ i
    omega
def sZipR (f h k : Ep) : Es := fun ρ => do
  let d ← f ρ
  let l ← ofOpt (fR1 d)
  let e ← h ρ
  let e' ← k ρ
  let m ← ofOpt (fR2 e e')
  M.pure (zipD l m)
section
variable {X : Cx} {z : Zt} {W : WX} {pk : Bool} {ka kb kc : Kd} {a b c : Expr} {fa fb fc : Ep} {p pos tpos pr pos1 pr2 pos2 : Pos} {elts : List Expr} {kk : Nat}
theorem di_zipR (hg : Gl X "zip") (hm : X.mg "zip" = none) (hg' : Gl X "range") (hm' : X.mg "range" = none) (ha : DE X z W ka a fa) (hb : DE X z W kb b fb) (hc : DE X z W kc c fc)
    (s1 : starEach [a] X.env = (false, eval a X.env) :: starEach [] X.env := by rfl) (s2 : starEach [b, c] X.env = (false, eval b X.env) :: starEach [c] X.env := by rfl) (s3 : starEach [c] X.env = (false, eval c X.env) :: starEach [] X.env := by rfl)
    (t1 : starEach [a] X.env = [(false, eval a X.env)] := by rfl) (t2 : starEach [b, c] X.env = [(false, eval b X.env), (false, eval c X.env)] := by rfl) (t3 : starEach [c] X.env = [(false, eval c X.env)] := by rfl)
    (hs : starEach [.Call (.Name "range" pr) [a] [] pos1, .Call (.Name "range" pr2) [b, c] [] pos2] X.env = (false, eval (.Call (.Name "range" pr) [a] [] pos1) X.env) :: starEach [.Call (.Name "range" pr2) [b, c] [] pos2] X.env := by rfl)
    (hs' : starEach [.Call (.Name "range" pr2) [b, c] [] pos2] X.env = (false, eval (.Call (.Name "range" pr2) [b, c] [] pos2) X.env) :: starEach [] X.env := by rfl)
    (hpl : (backTo pos (starEach [.Call (.Name "range" pr2) [b, c] [] pos2] X.env)).any (·.1) = false := by rfl) :
    DI X z W pk (.Tuple elts kk tpos) (.Call (.Name "zip" p) [.Call (.Name "range" pr) [a] [] pos1, .Call (.Name "range" pr2) [b, c] [] pos2] [] pos) (sZipR fa fb fc) := by
  refine ⟨fun pins s σ H Rr I ⟨ρ, g, Mu, E, G1, hx⟩ => ?_⟩
  refine (pi_zipR hg hm (pa_cons (pe_rg1 hg' hm' (pa_cons ha pa_nil s1) t1) (pa_cons (pe_rg2 hg' hm' (pa_cons hb (pa_cons hc pa_nil s3) s2) t2 t3) pa_nil hs') hs) hs hpl).run pins s σ H Rr I ⟨ρ, g, Mu, E, G1, R.all_imp (R.all_bind hx) (fun d g1 hx v H1 e1 G2 k1 => ?_) fun _ _ _ _ h => h⟩
  obtain ⟨l, hl, hx⟩ := R.all_opt (R.all_bind hx)
  unfold fR1 at hl
  split at hl
  · rename_i j
    obtain ⟨⟨h1, h2⟩, rfl⟩ := opt_if hl
    have ev := (k1.peek E.mu (E.mu.ext (g := g) e1 G2) G2).int
    subst ev
    refine ⟨j, rfl, fun r t u w nA => ?_⟩
    have sm : Same H1 (upd H1 r (ObV r (rgO 0 j t u w))) := same_upd' nA
    have np : r ≠ z.p := fun w => by rw [w, G2.p] at nA; cases nA
    have nl : r ≠ z.l := fun w => by rw [w, G2.l] at nA; cases nA
    have e1' : Ext z H (upd H1 r (ObV r (rgO 0 j t u w))) := e1.trans (Ext.of sm)
    have G2' := G2.same sm
    have E1 := E.ext G1 e1' G2'
    show tE X z W kb fb σ (upd H1 r (ObV r (rgO 0 j t u w))) _
    refine ⟨ρ, g1, Mu, E1, G2', R.all_imp (Raising.all (R.all_bind hx) e1') (fun d2 g2 hx v2 H2 e2 G3 k2 => ?_) fun _ _ _ _ h => h⟩
    have E2 := E1.ext G2' e2 G3
    show tE X z W kc fc σ H2 _
    refine ⟨ρ, g2, Mu, E2, G3, R.all_imp (Raising.all (R.all_bind hx) (e1'.trans e2)) (fun d3 g3 hx v3 H3 e3 G4 k3 => ?_) fun _ _ _ _ h => h⟩
    obtain ⟨m, hm2, hx⟩ := R.all_opt (R.all_bind hx)
    obtain ⟨i', j', rfl, rfl, b2, rfl⟩ := fR2_some hm2
    have ev2 := (k2.peek E1.mu E2.mu G3).int
    have ev3 := (k3.peek E2.mu (E2.mu.ext (g := g2) e3 G4) G4).int
    subst ev2 ev3
    refine ⟨i', j', rfl, fun r2 t' u' w' nB => ?_⟩
    have q1 : H3 r = some (ObV r (rgO 0 j t u w)) := (e2.trans e3).to r _ upd_same trivial np nl
    have sm2 : Same H3 (upd H3 r2 (ObV r2 (rgO i' j' t' u' w'))) := same_upd' nB
    refine ⟨r, r2, 0, j, i', j', t, u, w, t', u', w', rfl, sm2 _ _ q1, upd_same, ⟨by decide, by decide, h1, h2⟩, b2, ?_⟩
    have := hx (ItzR 0 i' (j - 0).toNat (j' - i').toNat) _ (((e1'.trans e2).trans e3).trans (Ext.of sm2)) (G4.same sm2) (by rw [Int.sub_zero]; exact yields_zipR _ _ _ _)
    exact this
  · cases hl
end
end DL
set_option Elab.async false
set_option linter.all false
set_option maxRecDepth 100000
set_option maxHeartbeats 2000000
/-! The value layer, part 49: list(d), sorted(d) of dicts whose keys are ints. -/
namespace DL
open PySem PySem.Spec PyProof.Rows L2

def fListD : List D → Option D
  | [.dct l] => if (intsOf (l.map (·.1))).isSome = true ∧ l.length ≤ 1000 then some (.lst (l.map (·.1))) else none
  | ds => fList ds
def fSortedD : List D → Option D
  | [.dct l] => if (intsOf (l.map (·.1))).isSome = true ∧ l.length ≤ 1000 then (sortD (l.map (·.1))).map D.lst else none
  | ds => fSorted ds
theorem vals_items : ∀ {ns : List Int} {us : List Value}, us.length = ns.length → (∀ (j : Nat) (v : Value), us[j]? = some v → ∃ n, ns[j]? = some n ∧ RelV (.int n) v) → Vals (ns.map V.int) us
  | [], [], _, _ => .nil
  | [], _ :: _, h, _ => by simp at h
  | _ :: _, [], h, _ => by simp at h
  | n :: ns, u :: us, h, at_ => by
    obtain ⟨m, h1, h2⟩ := at_ 0 u rfl
    simp only [List.getElem?_cons_zero, Option.some.injEq] at h1
    subst h1
    exact .cons h2 (vals_items (by simpa using h) fun j v hj => by
      obtain ⟨m', q1, q2⟩ := at_ (j + 1) v (by simpa using hj)
      exact ⟨m', by simpa using q1, q2⟩)
section
variable {X : Cx} {z : Zt} {σ : L2.St} {pins : List (Addr × Obj)} {s : Shared} {H : Hp} {Mu : List Addr}
/-- a dict of int keys, at the library's level -/
theorem dict_src {v : V} {l : List (D × D)} {ns : List Int} (I : Inv X pins σ H s) (e : l.map (·.1) = ns.map D.int) (p : PR X.K X.mg z Mu H v (.dct l)) :
    ∃ (a : Addr) (kvs : List (Key × Value)) (ep : Nat), v = .ref a ∧ (a == sysModules) = false ∧ s.heap.DictAt (mixKind X.prog X.w) a kvs ep ∧ kvs.length = ns.length ∧
      ∀ (j : Nat) (u : Value), (∃ k x, kvs[j]? = some (k, x) ∧ (mixKind X.prog X.w).is k u = true) → ∃ n, ns[j]? = some n ∧ RelV (.int n) u := by
  obtain ⟨a, o, es, ep, kk, vv, rfl, ho, hs, hex, hdt, hz, en, r1, r2, ky⟩ := p.dct
  have hg : s.heap.get? a = some o := (I.hok a _ ho).1
  rw [e] at r1 ky
  have e1 := Reps.ints_eq r1
  subst e1
  obtain ⟨⟨o', es', ep', q1, q2, q3, q4, q5, q6⟩, kv⟩ := raw_dk (X := X) (s := s) hg hex hdt en.1 en.2 ky
  have hl : (kI ns).length = (es.toList.map (·.val)).length := by
    have h1 := vals_len en.1
    rw [List.length_map, List.length_map] at h1
    rw [List.length_map, List.length_map]
    exact h1
  have hl2 : (kI ns).length = ns.length := by rw [List.length_map]
  refine ⟨a, _, ep', rfl, hs, ⟨o', es', q1, q2, q3, q4, q5, q6⟩, by rw [List.length_zip, ← hl, Nat.min_self, hl2], fun j u ⟨k, x, hj, hk⟩ => ?_⟩
  have h1 : ((kI ns).zip (es.toList.map (·.val)))[j]?.map (·.1) = some k := by rw [hj]; rfl
  rw [← List.getElem?_map, zip_fst hl] at h1
  have h2 : (ns.map (Sum.inl : Int → Key))[j]? = some k := h1
  rw [List.getElem?_map] at h2
  obtain ⟨n, hn, rfl⟩ := Option.map_eq_some_iff.mp h2
  exact ⟨n, hn, relV_key (k := .inl n) hk⟩
theorem sorted_run' {r : Value} {xs : List V} {ds out : List D} {Q : VK} (hX : XG X) (I : Inv X pins σ H s) (m : MuOk z Mu H) {g : G} (G1 : GOk z H g)
    (hc : ∀ (E' : Value → Shared → Prop) (Q' : List Value → Shared → Prop), (∀ h' tk us, Vals xs us → (∀ b o, s.heap.get? b = some o → h'.get? b = some o) → Q' us { s with heap := h', toks := tk }) → wpAny (model X.prog X.w) X.A.in1 (collect r) Q' E' s)
    (rd : Reps X.K X.mg z Mu H xs ds) (ho : sortD ds = some out) (q : ∀ v' H', Same H H' → RK X.K X.mg z .new H Mu H' v' (.lst out) → Q v' H') :
    wpAny (model X.prog X.w) X.A (call (.builtin "sorted") [r]) (EP X pins σ Q) X.xe s := by
  unfold sortD at ho
  split at ho
  case h_2 => cases ho
  rename_i ps hp
  obtain ⟨⟨h1, hz⟩, e⟩ := opt_if ho
  subst e
  obtain ⟨hal, hk, hdep⟩ := sortOk_all h1
  have em := pys_map hp
  refine Calls.call_function_entry kind_sorted plain_sorted entry_sorted (args_sorted1 _) ?_
  unfold Builtin.«sorted»
  refine wpAny_bind (m := checkCount "sorted" 1 1 _) (wpAny_pure ?_)
  refine wpAny_bind (hc _ _ fun h' tk us rv hkp => ?_)
  have hl : us.length ≤ sizeLine := by rw [← rv.length, rd.length]; exact hz
  refine wpAny_bind (wpAny_newList ?_ hl)
  have I1 : Inv X pins σ H { s with heap := h', toks := tk } := I.kept (t' := tk) hkp
  have I2 : Inv X pins σ H { s with heap := h'.push { cls := .type "list", data := .seq us.toArray }, toks := tk } := I1.kept (t' := tk) fun b o e => Heap.get?_push_of_some _ e
  have hob : (h'.push { cls := .type "list", data := .seq us.toArray }).get? h'.objs.size = some (seqObj "list" us.toArray 0) := Heap.get?_push_size _ rfl
  have ea := each_of I1 rv rd hp
  have er : PySem.W.EachIs (fun v b => ∃ as, Reads (h'.push { cls := .type "list", data := .seq us.toArray }) v (pyD b) as ∧ h'.objs.size ∉ as) us ds := by
    refine ea.mono fun u d ⟨_, as, r⟩ => ⟨as, PyProof.Rows.Reads.keeps (fun b o e => Heap.get?_push_of_some _ e) r, ?_⟩
    intro hm
    obtain ⟨o, ho'⟩ := PyProof.On.reads_mem_get r _ hm
    exact absurd (Heap.lt_size ho') (Nat.lt_irrefl _)
  have hu : ∀ b, b ∈ ds → X.A.in1.units + 1 + (pyD b).depth < cLine := fun b hb => by
    have hm : pyD b ∈ ps := by rw [← em]; exact List.mem_map.mpr ⟨b, hb, rfl⟩
    have h2 := hdep _ hm
    have h3 := hX.room.un
    show X.A.units + 1 + 1 + (pyD b).depth < cLine
    omega
  refine wpAny_bind (wpAny_holding (PySem.W.list_sort_data (s := { s with heap := h'.push { cls := .type "list", data := .seq us.toArray }, toks := tk }) (bs := ds) (enc := pyD) hob (ea.mono fun _ _ x => x.1) er (by rw [em]; exact hal) (by rw [em]; exact hk) hz hu fun o hlen eo => ?_))
  obtain ⟨ys, y1, y2⟩ := of_each eo
  obtain ⟨ep, he'⟩ := PyProof.Rows.sortedHeap_at (vs := us) (out := o.toArray) hob
  have hn : H h'.objs.size = none := I1.hok.fresh (Nat.le_refl _)
  have kp : ∀ b ob, h'.get? b = some ob → (sortedHeap (h'.push { cls := .type "list", data := .seq us.toArray }) h'.objs.size us o.toArray).get? b = some ob := fun b ob e => by
    have hlt := Heap.lt_size e
    rw [PyProof.Rows.sortedHeap_old (Nat.ne_of_lt hlt) (by rw [Heap.size_push]; exact Nat.lt_succ_of_lt hlt)]
    exact Heap.get?_push_of_some _ e
  have J : Inv X pins σ (upd H h'.objs.size (.lst ys)) { s with heap := sortedHeap (h'.push { cls := .type "list", data := .seq us.toArray }) h'.objs.size us o.toArray, toks := tk } :=
    I1.laid (t' := tk) kp (Nat.le_refl _) ⟨by rw [y1.length, hlen]; exact hz, o, ep, y1, he'⟩
  exact wpAny_pure ⟨_, rfl, .ref h'.objs.size, _, J, rfl, q _ _ (same_upd' hn) (RK.lst m G1 hn y2)⟩
end
section
variable {X : Cx} {z : Zt}
theorem call_listD (hX : XG X) : DCall X z .new (.type "list") fListD := by
  intro pins s σ H Mu g xs us ds d Q I m G1 r ks hd q
  unfold fListD at hd
  split at hd
  · rename_i l
    obtain ⟨⟨hi, hlen⟩, rfl⟩ := opt_if hd
    obtain ⟨ns, hn⟩ := Option.isSome_iff_exists.mp hi
    have e := intsOf_eq hn
    obtain ⟨v, rfl, p⟩ := ks.one
    obtain ⟨u, rfl, ru⟩ := vals1 r
    obtain ⟨a, kvs, ep, rfl, hs, da, hl, at_⟩ := dict_src (X := X) (s := s) I e p
    cases ru
    have ln : ns.length ≤ sizeLine := by
      have h1 := congrArg List.length e
      rw [List.length_map, List.length_map] at h1
      rw [sizeLine_eq]
      omega
    refine PySem.W.kdl_call (PySem.W.kdl_dict hs) (by exact I.ok.hd hX.calm) da (by rw [hl]; exact ln) fun h' tk acc' c' hk hS' hacc => ?_
    have hn' : H s.heap.objs.size = none := I.hok.fresh (Nat.le_refl _)
    have y1 : Vals (ns.map V.int) acc'.toList := vals_items (by rw [Array.length_toList, hacc.1, hl]) fun j v hj => at_ j v (hacc.2 j v (by rw [← Array.getElem?_toList]; exact hj))
    have J : Inv X pins σ (upd H s.heap.objs.size (.lst (ns.map V.int))) { s with heap := h', toks := tk } :=
      I.laid (t' := tk) hk (Nat.le_refl _) ⟨by rw [List.length_map]; exact ln, acc'.toList, c', y1, by rw [Array.toArray_toList]; exact hS'⟩
    exact ⟨.ref s.heap.objs.size, _, J, rfl, q _ _ (same_upd' hn') (RK.lst m G1 hn' (by rw [e]; exact Reps.ints ns))⟩
  · exact call_list' pins s σ H Mu g xs us ds d Q I m G1 r ks hd q
theorem call_sortedD (hX : XG X) : DCall X z .new (.builtin "sorted") fSortedD := by
  intro pins s σ H Mu g xs us ds d Q I m G1 r ks hd q
  unfold fSortedD at hd
  split at hd
  · rename_i l
    obtain ⟨⟨hi, hlen⟩, hd⟩ : ((intsOf (l.map (·.1))).isSome = true ∧ l.length ≤ 1000) ∧ (sortD (l.map (·.1))).map D.lst = some d := by
      split at hd
      · rename_i c; exact ⟨c, hd⟩
      · cases hd
    obtain ⟨out, ho, rfl⟩ := Option.map_eq_some_iff.mp hd
    obtain ⟨ns, hn⟩ := Option.isSome_iff_exists.mp hi
    have e := intsOf_eq hn
    obtain ⟨v, rfl, p⟩ := ks.one
    obtain ⟨u, rfl, ru⟩ := vals1 r
    obtain ⟨a, kvs, ep, rfl, hs, da, hl, at_⟩ := dict_src (X := X) (s := s) I e p
    cases ru
    have ln : ns.length ≤ sizeLine := by
      have h1 := congrArg List.length e
      rw [List.length_map, List.length_map] at h1
      rw [sizeLine_eq]
      omega
    refine sorted_run' hX I m G1 (xs := ns.map V.int) (fun E' Q' hq => ?_) (by rw [e]; exact Reps.ints ns) ho q
    refine PySem.W.kdu_collect (PySem.W.kdl_dict hs) (by exact I.ok.hd hX.calm) da (by rw [hl]; exact ln) fun h' tk acc hk hacc => ?_
    exact hq h' tk acc.toList (vals_items (by rw [Array.length_toList, hacc.1, hl]) fun j v hj => at_ j v (hacc.2 j v (by rw [← Array.getElem?_toList]; exact hj))) hk
  · exact call_sorted' hX pins s σ H Mu g xs us ds d Q I m G1 r ks hd q
end
end DL
set_option Elab.async false
set_option linter.all false
set_option maxRecDepth 100000
set_option maxHeartbeats 2000000
/-! The value layer, part 50: several names at once where one is a cell: the values are held by a tuple that is made and unpacked. -/
namespace DL
open PySem PySem.Spec PyProof.Rows L2
section
variable {X : Cx} {n : En} {a b c e : Expr} {fa fb fc : Ep} {px py pq pt pos : Pos} {i j l : Nat} {x y w : Str} {o1 o2 o3 : Bool} {kt k2 : Nat} {pt2 : Pos}
theorem ds_par2C (hX : XG X) (hi : X.N[i]? = some x) (hj : X.N[j]? = some y) (hij : i ≠ j) (hx : Loc X.env.scope x) (hy : Loc X.env.scope y) (ha : DE X n.z n.W (kO o1) a fa) (hb : DE X n.z n.W (kO o2) b fb)
    (hs : swapsWithSole [.Tuple [.Name x px, .Name y py] kt pt] (.Tuple [a, b] k2 pt2) pos.line X.env = pure false := by rfl) (hw : swappedStores [.Tuple [.Name x px, .Name y py] kt pt] (.Tuple [a, b] k2 pt2) X.env = pure none := by rfl)
    (h1 : (assignEach [.Tuple [.Name x px, .Name y py] kt pt] X.env).map (·.2) = [assign (.Tuple [.Name x px, .Name y py] kt pt) X.env] := by rfl)
    (fx : X.fn x = true ∨ X.env.scope.names.lookup x = some .local := by first | exact .inl rfl | exact .inr rfl) (fy : X.fn y = true ∨ X.env.scope.names.lookup y = some .local := by first | exact .inl rfl | exact .inr rfl)
    (s1 : starEach [a, b] X.env = (false, eval a X.env) :: starEach [b] X.env := by rfl) (s2 : starEach [b] X.env = (false, eval b X.env) :: starEach [] X.env := by rfl)
    (a1 : (assignEach [.Name x px, .Name y py] X.env).map (·.2) = assign (.Name x px) X.env :: (assignEach [.Name y py] X.env).map (·.2) := by rfl) (a2 : (assignEach [.Name y py] X.env).map (·.2) = assign (.Name y py) X.env :: (assignEach [] X.env).map (·.2) := by rfl)
    (hn : (assignEach [.Name x px, .Name y py] X.env).length = 2 := by rfl) (hst : (assignEach [.Name x px, .Name y py] X.env).findIdx? (·.1) = none := by rfl) :
    DS X n (.Assign [.Tuple [.Name x px, .Name y py] kt pt] (.Tuple [a, b] k2 pt2) pos) (sPar o1 o2 i j fa fb) := by
  refine ⟨fun pins s σ H D I ⟨ρ, g, Mu, S, hq⟩ => ?_⟩
  refine (ps_asg (pe_tup (pa_cons ha (pa_cons hb pa_nil s2) s1)) (pg_tup hX.calm (pgs_cons (pg_name hX.nd hi hx fx) (pgs_cons (pg_name hX.nd hj hy fy) pgs_nil a2) a1) hn hst) hs hw h1).run pins s σ H D I ⟨ρ, g, Mu, S.env, S.g, R.all_imp (EW.x S (R.all_bind hq)) (fun d g1 hq v H1 e1 G2 k1 => ?_) fun _ _ _ _ h => h⟩
  obtain ⟨M1, S1⟩ := S.push e1 G2 o1 rfl k1
  refine ⟨ρ, g1, M1, S1.env.pre S.env.len, S1.g, R.all_imp (EW.x (S1.pre S.env.len) (R.all_bind hq)) (fun d' g2 hq v' H2 e2 G3 k2 => ?_) fun _ _ _ _ h => h⟩
  obtain ⟨M2, S2⟩ := S1.push e2 G3 o2 rfl k2
  refine ⟨by show 2 ≤ sizeLine; decide, fun p hp => ⟨p, [v, v'], rfl, SqT.of upd_same, rfl, v, [v'], rfl, v', [], rfl, rfl, ?_⟩⟩
  have sm : Same H2 (upd H2 p (.tup [v, v'])) := same_upd' hp
  have S3 := S2.step (Ext.of sm) (S2.g.same sm)
  have li : i < σ.length := by rw [I.len]; exact (List.getElem?_eq_some_iff.mp hi).1
  have lj : j < σ.length := by rw [I.len]; exact (List.getElem?_eq_some_iff.mp hj).1
  have T1 := SOk.pop j S1.env.len S3
  rw [List.set_append_left _ _ lj, List.set_append_left _ _ (S.env.len ▸ lj)] at T1
  have T2 := SOk.pop i (by rw [List.length_set, List.length_set]; exact S.env.len) T1
  rw [List.set_comm _ _ hij]
  exact hq _ _ M2 T2
end
end DL
set_option Elab.async false
set_option linter.all false
set_option maxRecDepth 100000
set_option maxHeartbeats 2000000
/-! Readings run: what holds behind an expression, a statement (r.all P E). -/
namespace DL
open PySem PySem.Spec PyProof.Rows L2
abbrev XE := Str → Str → List D → G → Prop
/-- nothing is raised -/
abbrev XF : XE := fun _ _ _ _ => False
theorem R.of_all {α : Type} {r : R α} {P : α → G → Prop} (h : r.all P XF) : ∃ a g, r = .ok a g ∧ P a g := by
  cases r with
  | stuck => exact h.elim
  | ok a g => exact ⟨a, g, rfl, h⟩
  | exc c f l g => exact h.elim
theorem R.all_of {α : Type} {r : R α} {a : α} {g : G} {P : α → G → Prop} {E : XE} (h : r = .ok a g) (p : P a g) : r.all P E := by rw [h]; exact p
theorem w_bind {α β : Type} {m : M α} {k : α → M β} {g : G} {P : β → G → Prop} {E : XE} (h : (m g).all (fun a g1 => (k a g1).all P E) E) : ((m >>= k) g).all P E := R.of_bind h
theorem w_pure {α : Type} {a : α} {g : G} {P : α → G → Prop} {E : XE} (h : P a g) : ((M.pure a : M α) g).all P E := h
/-- of an operation's answer -/
def OpP {α : Type} (o : Option α) (P : α → G → Prop) (g : G) : Prop := match o with
  | some a => P a g
  | none => False
theorem w_opt {α : Type} {o : Option α} {g : G} {P : α → G → Prop} {E : XE} (h : OpP o P g) : ((ofOpt o : M α) g).all P E := by
  cases o with
  | none => exact h
  | some a => exact h
theorem op_some {α : Type} {o : Option α} {a : α} {g : G} {P : α → G → Prop} (e : o = some a) (h : P a g) : OpP o P g := by rw [e]; exact h
/-- of a bool -/
def TrP (P : Bool → G → Prop) (d : D) (g : G) : Prop := match d with
  | .bl b => P b g
  | _ => False
theorem w_trp {P : Bool → G → Prop} {b : Bool} {g : G} (h : P b g) : TrP P (.bl b) g := h
/-- of a number -/
def InP {α : Type} (f : Int → α) (P : α → G → Prop) (d : D) (g : G) : Prop := match d with
  | .int i => P (f i) g
  | _ => False
theorem w_inp {α : Type} {f : Int → α} {P : α → G → Prop} {i : Int} {g : G} (h : P (f i) g) : InP f P (.int i) g := h
/-- of a row -/
def SqP (P : List D → G → Prop) (d : D) (g : G) : Prop := match d with
  | .lst l => P l g
  | .tup l => P l g
  | _ => False
theorem w_sqL {P : List D → G → Prop} {l : List D} {g : G} (h : P l g) : SqP P (.lst l) g := h
theorem w_sqT {P : List D → G → Prop} {l : List D} {g : G} (h : P l g) : SqP P (.tup l) g := h
/-- of what is walked -/
def ItP (P : List D → G → Prop) (d : D) (g : G) : Prop := match d with
  | .lst l => P l g
  | .tup l => P l g
  | .dct l => P (l.map (·.1)) g
  | _ => False
theorem w_itL {P : List D → G → Prop} {l : List D} {g : G} (h : P l g) : ItP P (.lst l) g := h
theorem w_itT {P : List D → G → Prop} {l : List D} {g : G} (h : P l g) : ItP P (.tup l) g := h
theorem w_itD {P : List D → G → Prop} {l : List (D × D)} {g : G} (h : P (l.map (·.1)) g) : ItP P (.dct l) g := h
section
variable {ρ : Env} {g : G} {P : D → G → Prop} {Q : Bool → G → Prop} {S : List D → G → Prop} {E : XE} {f fa fb fc : Ep} {c c1 c2 : Et} {fs gs : Es}
/-! expressions -/
theorem w_var {i : Nat} {d : D} (e : ρ[i]? = some (some (false, d))) (h : P d g) : (eVar i ρ g).all P E := R.all_of (e_var e) h
theorem w_peek {i : Nat} {b : Bool} {d : D} (e : ρ[i]? = some (some (b, d))) (h : P d g) : (ePeek i ρ g).all P E := R.all_of (e_peek e) h
theorem w_c {d : D} (h : P d g) : (eC d ρ g).all P E := h
theorem w_bin {o : D → D → Option D} (h : (fa ρ g).all (fun x g1 => (fb ρ g1).all (fun y g2 => OpP (o x y) P g2) E) E) : (eBin o fa fb ρ g).all P E :=
  w_bind (R.all_imp h (fun _ _ h => w_bind (R.all_imp h (fun _ _ h => w_opt h) fun _ _ _ _ h => h)) fun _ _ _ _ h => h)
theorem w_un {o : D → Option D} (h : (f ρ g).all (fun x g1 => OpP (o x) P g1) E) : (eUn o f ρ g).all P E := w_bind (R.all_imp h (fun _ _ h => w_opt h) fun _ _ _ _ h => h)
theorem w_call {o : List D → Option D} (h : (fs ρ g).all (fun ds g1 => OpP (o ds) P g1) E) : (eCall o fs ρ g).all P E := w_bind (R.all_imp h (fun _ _ h => w_opt h) fun _ _ _ _ h => h)
theorem w_callF {cf : List D → M D} (h : (fs ρ g).all (fun ds g1 => (cf ds g1).all P E) E) : (eCallF cf fs ρ g).all P E := w_bind h
theorem w_callK {cf : List D → M D} {pm : List Nat} (h : (fs ρ g).all (fun ds g1 => (gs ρ g1).all (fun es g2 => (cf (pick pm (ds ++ es)) g2).all P E) E) E) : (eCallK cf pm fs gs ρ g).all P E :=
  w_bind (R.all_imp h (fun _ _ h => w_bind h) fun _ _ _ _ h => h)
theorem w_callP {cf : List D → M D} (h : (fs ρ g).all (fun ds g1 => (flat (cf ds) g1).all P E) E) : (eCallP cf fs ρ g).all P E := w_bind h
theorem w_nil (h : S [] g) : (sNil ρ g).all S E := h
theorem w_cons (h : (f ρ g).all (fun x g1 => (fs ρ g1).all (fun xs g2 => S (x :: xs) g2) E) E) : (sCons f fs ρ g).all S E :=
  w_bind (R.all_imp h (fun _ _ h => w_bind h) fun _ _ _ _ h => h)
theorem w_tr (h : (f ρ g).all (TrP Q) E) : (eTr f ρ g).all Q E :=
  w_bind (R.all_imp h (fun d g1 h => by cases d <;> first | exact h.elim | exact h) fun _ _ _ _ h => h)
theorem w_bo (h : (c ρ g).all (fun b g1 => P (.bl b) g1) E) : (eBo c ρ g).all P E := w_bind h
theorem w_bAnd (h : (c1 ρ g).all (fun b g1 => if b = true then (c2 ρ g1).all Q E else Q false g1) E) : (bAnd c1 c2 ρ g).all Q E :=
  w_bind (R.all_imp h (fun b g1 h => by cases b <;> exact h) fun _ _ _ _ h => h)
theorem w_bOr (h : (c1 ρ g).all (fun b g1 => if b = true then Q true g1 else (c2 ρ g1).all Q E) E) : (bOr c1 c2 ρ g).all Q E :=
  w_bind (R.all_imp h (fun b g1 h => by cases b <;> exact h) fun _ _ _ _ h => h)
theorem w_bNot (h : (c ρ g).all (fun b g1 => Q (!b) g1) E) : (bNot c ρ g).all Q E := w_bind h
theorem w_and (h : (c ρ g).all (fun b g1 => if b = true then (f ρ g1).all P E else P (.bl false) g1) E) : (eAnd c f ρ g).all P E :=
  w_bind (R.all_imp h (fun b g1 h => by cases b <;> exact h) fun _ _ _ _ h => h)
theorem w_or (h : (c ρ g).all (fun b g1 => if b = true then P (.bl true) g1 else (f ρ g1).all P E) E) : (eOr c f ρ g).all P E :=
  w_bind (R.all_imp h (fun b g1 h => by cases b <;> exact h) fun _ _ _ _ h => h)
theorem w_not (h : (f ρ g).all (TrP fun b g1 => P (.bl (!b)) g1) E) : (eNot f ρ g).all P E := w_bo (w_bNot (w_tr h))
theorem w_ife (h : (c ρ g).all (fun b g1 => if b = true then (fa ρ g1).all P E else (fb ρ g1).all P E) E) : (eIf c fa fb ρ g).all P E :=
  w_bind (R.all_imp h (fun b g1 h => by cases b <;> exact h) fun _ _ _ _ h => h)
theorem w_chain {o o' : D → D → Option D} (h : (fa ρ g).all (fun x g1 => (fb ρ g1).all (fun y g2 => OpP (o x y) (TrP fun b g3 => if b = true then (fc ρ g3).all (fun w g4 => OpP (o' y w) P g4) E else P (.bl false) g3) g2) E) E) : (eChain o o' fa fb fc ρ g).all P E := by
  refine w_bind (R.all_imp h (fun x g1 h => w_bind (R.all_imp h (fun y g2 h => w_bind (w_opt ?_)) fun _ _ _ _ h => h)) fun _ _ _ _ h => h)
  cases q : o x y with
  | none => rw [q] at h; exact h
  | some r =>
    rw [q] at h
    cases r <;> first | exact h.elim | skip
    rename_i b
    cases b
    · exact h
    · exact w_bind (R.all_imp h (fun _ _ h => w_opt h) fun _ _ _ _ h => h)
theorem w_tup (h : (fs ρ g).all (fun ds g1 => ds.length ≤ 1000 ∧ P (.tup ds) g1) E) : (eTup fs ρ g).all P E :=
  w_bind (R.all_imp h (fun ds g1 h => w_opt (by rw [if_pos (line_1000 h.1)]; exact h.2)) fun _ _ _ _ h => h)
theorem w_lst (h : (fs ρ g).all (fun ds g1 => ds.length ≤ 1000 ∧ P (.lst ds) g1) E) : (eLst fs ρ g).all P E :=
  w_bind (R.all_imp h (fun ds g1 h => w_opt (by rw [if_pos (line_1000 h.1)]; exact h.2)) fun _ _ _ _ h => h)
theorem w_oNone {T : Option Int → G → Prop} (h : T none g) : (oNone ρ g).all T E := h
theorem w_oSome {T : Option Int → G → Prop} (h : (f ρ g).all (InP some T) E) : (oSome f ρ g).all T E :=
  w_bind (R.all_imp h (fun d g1 h => by cases d <;> first | exact h.elim | exact h) fun _ _ _ _ h => h)
theorem w_sl {a b : Eo} (h : (f ρ g).all (fun x g1 => (a ρ g1).all (fun l g2 => (b ρ g2).all (fun u g3 => OpP (dCut x l u) P g3) E) E) E) : (eSl f a b ρ g).all P E :=
  w_bind (R.all_imp h (fun _ _ h => w_bind (R.all_imp h (fun _ _ h => w_bind (R.all_imp h (fun _ _ h => w_opt h) fun _ _ _ _ h => h)) fun _ _ _ _ h => h)) fun _ _ _ _ h => h)
/-! what is walked -/
theorem w_items (h : (f ρ g).all (ItP S) E) : (sItems f ρ g).all S E := by
  refine w_bind (R.all_imp h (fun d g1 h => ?_) fun _ _ _ _ h => h)
  cases d <;> first | exact h.elim | exact h
theorem w_enum (h : (f ρ g).all (SqP fun l g1 => S (enumD l) g1) E) : (sEnumU f ρ g).all S E := by
  refine w_bind (R.all_imp h (fun d g1 h => ?_) fun _ _ _ _ h => h)
  cases d <;> first | exact h.elim | exact h
theorem w_range1 (h : (f ρ g).all (InP (fun i => i) fun i g1 => (-1000000 ≤ i ∧ i ≤ 1000000) ∧ S (rangeL 0 i.toNat) g1) E) : (sRange1 f ρ g).all S E := by
  refine w_bind (R.all_imp h (fun d g1 h => w_opt ?_) fun _ _ _ _ h => h)
  cases d <;> first | exact h.elim | skip
  rename_i i
  obtain ⟨⟨h0, h1⟩, h2⟩ := (show (-1000000 ≤ i ∧ i ≤ 1000000) ∧ S (rangeL 0 i.toNat) g1 from h)
  exact op_some (show fR1 (.int i) = some (rangeL 0 i.toNat) from by unfold fR1; dsimp only; rw [if_pos ⟨by omega, by omega⟩]) h2
theorem w_range2 (h : (fa ρ g).all (InP (fun i => i) fun i g1 => (fb ρ g1).all (InP (fun i => i) fun j g2 => (-1000000 ≤ i ∧ i ≤ 1000000 ∧ -1000000 ≤ j ∧ j ≤ 1000000) ∧ S (rangeL i (j - i).toNat) g2) E) E) : (sRange2 fa fb ρ g).all S E := by
  refine w_bind (R.all_imp h (fun d g1 h => ?_) fun _ _ _ _ h => h)
  cases d <;> first | exact h.elim | skip
  rename_i i
  refine w_bind (R.all_imp (show (fb ρ g1).all _ E from h) (fun d g2 h => w_opt ?_) fun _ _ _ _ h => h)
  cases d <;> first | exact h.elim | skip
  rename_i j
  obtain ⟨⟨h1, h2, h3, h4⟩, h5⟩ := (show (-1000000 ≤ i ∧ i ≤ 1000000 ∧ -1000000 ≤ j ∧ j ≤ 1000000) ∧ S (rangeL i (j - i).toNat) g2 from h)
  exact op_some (show fR2 (.int i) (.int j) = some (rangeL i (j - i).toNat) from by unfold fR2; dsimp only; rw [if_pos ⟨by omega, by omega, by omega, by omega⟩]) h5
theorem w_zipR (h : (f ρ g).all (InP (fun i => i) fun j0 g1 => (-1000000 ≤ j0 ∧ j0 ≤ 1000000) ∧ (fa ρ g1).all (InP (fun i => i) fun i g2 => (fb ρ g2).all (InP (fun i => i) fun j g3 => (-1000000 ≤ i ∧ i ≤ 1000000 ∧ -1000000 ≤ j ∧ j ≤ 1000000) ∧ S (zipD (rangeL 0 j0.toNat) (rangeL i (j - i).toNat)) g3) E) E) E) : (sZipR f fa fb ρ g).all S E := by
  refine w_bind (R.all_imp h (fun d g1 h => ?_) fun _ _ _ _ h => h)
  cases d <;> first | exact h.elim | skip
  rename_i j0
  obtain ⟨⟨h0, h1⟩, h⟩ := (show (-1000000 ≤ j0 ∧ j0 ≤ 1000000) ∧ (fa ρ g1).all _ E from h)
  refine w_bind (w_opt (op_some (show fR1 (.int j0) = some (rangeL 0 j0.toNat) from by unfold fR1; dsimp only; rw [if_pos ⟨by omega, by omega⟩]) ?_))
  refine w_bind (R.all_imp h (fun d g2 h => ?_) fun _ _ _ _ h => h)
  cases d <;> first | exact h.elim | skip
  rename_i i
  refine w_bind (R.all_imp (show (fb ρ g2).all _ E from h) (fun d g3 h => ?_) fun _ _ _ _ h => h)
  cases d <;> first | exact h.elim | skip
  rename_i j
  obtain ⟨⟨h1, h2, h3, h4⟩, h5⟩ := (show (-1000000 ≤ i ∧ i ≤ 1000000 ∧ -1000000 ≤ j ∧ j ≤ 1000000) ∧ S (zipD (rangeL 0 j0.toNat) (rangeL i (j - i).toNat)) g3 from h)
  exact w_bind (w_opt (op_some (show fR2 (.int i) (.int j) = some (rangeL i (j - i).toNat) from by unfold fR2; dsimp only; rw [if_pos ⟨by omega, by omega, by omega, by omega⟩]) h5))
theorem w_rg1 {T : Int × Int → G → Prop} (h : (f ρ g).all (InP (fun i => (0, i)) T) E) : (eRg1 f ρ g).all T E := by
  refine w_bind (R.all_imp h (fun d g1 h => ?_) fun _ _ _ _ h => h)
  cases d <;> first | exact h.elim | exact h
theorem w_rg2 {T : Int × Int → G → Prop} (h : (fa ρ g).all (InP (fun i => i) fun i g1 => (fb ρ g1).all (InP (fun j => (i, j)) T) E) E) : (eRg2 fa fb ρ g).all T E := by
  refine w_bind (R.all_imp h (fun d g1 h => ?_) fun _ _ _ _ h => h)
  cases d <;> first | exact h.elim | skip
  refine w_bind (R.all_imp (show (fb ρ g1).all _ E from h) (fun d g2 h => ?_) fun _ _ _ _ h => h)
  cases d <;> first | exact h.elim | exact h
theorem w_lstRg {fr : Er} (h : (fr ρ g).all (fun p g1 => (-1000000 ≤ p.1 ∧ p.1 ≤ 1000000 ∧ -1000000 ≤ p.2 ∧ p.2 ≤ 1000000) ∧ P (.lst (rangeL p.1 (p.2 - p.1).toNat)) g1) E) : (eLstRg fr ρ g).all P E := by
  refine w_bind (R.all_imp h (fun p g1 ⟨⟨h1, h2, h3, h4⟩, h5⟩ => w_opt ?_) fun _ _ _ _ h => h)
  rw [if_pos (show RgOk p.1 p.2 from by unfold RgOk; omega)]
  exact h5
theorem w_tupRg {fr : Er} (h : (fr ρ g).all (fun p g1 => (-1000000 ≤ p.1 ∧ p.1 ≤ 1000000 ∧ -1000000 ≤ p.2 ∧ p.2 ≤ 1000000) ∧ P (.tup (rangeL p.1 (p.2 - p.1).toNat)) g1) E) : (eTupRg fr ρ g).all P E := by
  refine w_bind (R.all_imp h (fun p g1 ⟨⟨h1, h2, h3, h4⟩, h5⟩ => w_opt ?_) fun _ _ _ _ h => h)
  rw [if_pos (show RgOk p.1 p.2 from by unfold RgOk; omega)]
  exact h5
/-! comprehensions -/
theorem w_lc {it : Es} {t : D → Env → Option Env} {tt : Et} {vs : List Nat} (h : (it ρ g).all (fun ds g1 => ds.length ≤ 1000 ∧ (sLcL (wipeE ρ vs) t tt f ds g1).all (fun r g2 => P (.lst r) g2) E) E) : (eLc it t tt f vs ρ g).all P E :=
  w_bind (R.all_imp h (fun ds g1 h => w_bind (w_opt (by rw [if_pos (line_1000 h.1)]; exact w_bind h.2)) ) fun _ _ _ _ h => h)
theorem nox_all {α : Type} {m : M α} {g : G} {P : α → G → Prop} {E : XE} (h : (m g).all P XF) : (nox m g).all P E := by
  unfold nox
  cases q : m g with
  | stuck => rw [q] at h; exact h
  | ok a g' => rw [q] at h; exact h
  | exc c f l g' => rw [q] at h; exact h.elim
/-- J: what is left, what came out, the draws -/
theorem w_lcl {t : D → Env → Option Env} {tt : Et} {Pl : List D → G → Prop} (J : List D → List D → G → Prop) (hs : ∀ d l out g, J (d :: l) out g → ∃ ρ1, t d ρ = some ρ1 ∧ (tt ρ1 g).all (fun b g1 => if b = true then (f ρ1 g1).all (fun y g2 => J l (out ++ [y]) g2) XF else J l out g1) XF) :
    ∀ (l out : List D) (g : G), J l out g → (∀ r g1, J [] (out ++ r) g1 → Pl r g1) → (sLcL ρ t tt f l g).all Pl E
  | [], out, g, h, he => he [] g (by rw [List.append_nil]; exact h)
  | d :: l, out, g, h, he => by
    obtain ⟨ρ1, e1, h1⟩ := hs d l out g h
    rw [sLcL]
    refine w_bind (w_opt ?_)
    rw [e1]
    refine w_bind (nox_all (R.all_imp h1 (fun b g1 h2 => ?_) fun _ _ _ _ h => h))
    cases b with
    | false => exact w_lcl J hs l out g1 h2 he
    | true =>
      rw [if_pos rfl] at h2 ⊢
      refine w_bind (nox_all (R.all_imp h2 (fun y g2 h3 => w_bind (w_lcl J hs l (out ++ [y]) g2 h3 fun r g3 hj => ?_)) fun _ _ _ _ h => h))
      exact he (y :: r) g3 (by rw [List.append_assoc] at hj; exact hj)
/-- nothing is drawn; the items that pass the test F, each made G -/
theorem w_lcF {t : D → Env → Option Env} {tt : Et} {Pl : List D → G → Prop} (B : D → Bool) (F : D → D) {l : List D} (hs : ∀ d ∈ l, ∃ ρ1, t d ρ = some ρ1 ∧ (tt ρ1 g).all (fun b g1 => (b = B d ∧ g1 = g) ∧ (B d = true → (f ρ1 g).all (fun y g2 => y = F d ∧ g2 = g) XF)) XF) (h : Pl ((l.filter B).map F) g) : (sLcL ρ t tt f l g).all Pl E := by
  have e := lc_pure (ρ := ρ) (t := t) (tt := tt) (f := f) (g := g) B F l fun d hd => by
    obtain ⟨ρ1, e1, h1⟩ := hs d hd
    obtain ⟨b, g1, q, ⟨rfl, rfl⟩, h2⟩ := R.of_all h1
    refine ⟨ρ1, e1, q, fun hb => ?_⟩
    obtain ⟨y, g2, q2, rfl, rfl⟩ := R.of_all (h2 hb)
    exact q2
  exact R.all_of e h
theorem w_lcM {t : D → Env → Option Env} {Pl : List D → G → Prop} (F : D → D) {l : List D} (hs : ∀ d ∈ l, ∃ ρ1, t d ρ = some ρ1 ∧ (f ρ1 g).all (fun y g2 => y = F d ∧ g2 = g) XF) (h : Pl (l.map F) g) : (sLcL ρ t sYes f l g).all Pl E := by
  have e := lc_all (ρ := ρ) (t := t) (f := f) (g := g) F l fun d hd => by
    obtain ⟨ρ1, e1, h1⟩ := hs d hd
    obtain ⟨y, g2, q2, rfl, rfl⟩ := R.of_all h1
    exact ⟨ρ1, e1, q2⟩
  exact R.all_of e h
/-- .. of items told by xs -/
theorem w_lcTF {α : Type} {t : D → Env → Option Env} {tt : Et} {Pl : List D → G → Prop} (B : α → Bool) (F : α → D) {φ : α → D} : ∀ {xs : List α}, (∀ x ∈ xs, ∃ ρ1, t (φ x) ρ = some ρ1 ∧ (tt ρ1 g).all (fun b g1 => (b = B x ∧ g1 = g) ∧ (B x = true → (f ρ1 g1).all (fun y g2 => y = F x ∧ g2 = g) XF)) XF) → Pl ((xs.filter B).map F) g → (sLcL ρ t tt f (xs.map φ) g).all Pl E := by
  have key : ∀ xs : List α, (∀ x ∈ xs, ∃ ρ1, t (φ x) ρ = some ρ1 ∧ (tt ρ1 g).all (fun b g1 => (b = B x ∧ g1 = g) ∧ (B x = true → (f ρ1 g1).all (fun y g2 => y = F x ∧ g2 = g) XF)) XF) → sLcL ρ t tt f (xs.map φ) g = .ok ((xs.filter B).map F) g := by
    intro xs
    induction xs with
    | nil => exact fun _ => rfl
    | cons x xs ih =>
      intro hs
      obtain ⟨ρ1, e1, h1⟩ := hs x List.mem_cons_self
      obtain ⟨b, g1, q, ⟨rfl, rfl⟩, h2⟩ := R.of_all h1
      have ih := ih fun y hy => hs y (List.mem_cons_of_mem _ hy)
      rw [List.map_cons, sLcL, m_bind, e1, m_opt, rb_ok, m_bind, nox_ok q, rb_ok]
      cases hb : B x with
      | true =>
        obtain ⟨y, g2, q2, rfl, rfl⟩ := R.of_all (h2 hb)
        rw [if_pos rfl, m_bind, nox_ok q2, rb_ok, m_bind, ih, rb_ok, List.filter_cons_of_pos hb, List.map_cons]
      | false => rw [if_neg (by decide), ih, List.filter_cons_of_neg (by rw [hb]; decide)]
  exact fun {xs} hs h => R.all_of (key xs hs) h
theorem w_lcT {α : Type} {t : D → Env → Option Env} {Pl : List D → G → Prop} (F : α → D) {φ : α → D} {xs : List α} (hs : ∀ x ∈ xs, ∃ ρ1, t (φ x) ρ = some ρ1 ∧ (f ρ1 g).all (fun y g2 => y = F x ∧ g2 = g) XF) (h : Pl (xs.map F) g) : (sLcL ρ t sYes f (xs.map φ) g).all Pl E :=
  w_lcTF (fun _ => true) F (fun x hx => by
    obtain ⟨ρ1, e1, h1⟩ := hs x hx
    exact ⟨ρ1, e1, ⟨rfl, rfl⟩, fun _ => h1⟩) (by rw [List.filter_eq_self.mpr fun _ _ => rfl]; exact h)
/-- each item draws c times at most -/
theorem w_lcD {t : D → Env → Option Env} {Pl : List D → G → Prop} (c : Nat) (Qy : D → Prop) {l : List D} {m : Nat} (hm : GI m g) (hc : c * l.length ≤ m) (hs : ∀ d ∈ l, ∀ m g, GI m g → c ≤ m → ∃ ρ1, t d ρ = some ρ1 ∧ (f ρ1 g).all (fun y g2 => Qy y ∧ GI (m - c) g2) XF)
    (h : ∀ r g1, r.length = l.length → (∀ y ∈ r, Qy y) → GI (m - c * l.length) g1 → Pl r g1) : (sLcL ρ t sYes f l g).all Pl E := by
  obtain ⟨ys, g', e, h1, h2, h3⟩ := lc_draw (ρ := ρ) (t := t) (f := f) c Qy l (m - c * l.length) g (fun d hd k g hg => by
    obtain ⟨ρ1, e1, h1⟩ := hs d hd (k + c) g hg (Nat.le_add_left _ _)
    obtain ⟨y, g2, q2, hq, hg2⟩ := R.of_all h1
    rw [Nat.add_sub_cancel] at hg2
    exact ⟨ρ1, y, g2, e1, q2, hg2, hq⟩) (hm.mono (by omega))
  exact R.all_of e (h ys g' h1 h2 h3)
theorem w_scI {it : Es} {t : D → Env → Option Env} {tt : Et} {vs : List Nat} (h : (it ρ g).all (fun ds g1 => ds.length ≤ 1000 ∧ (sLcL (wipeE ρ vs) t tt (eInt f) ds g1).all (fun r g2 => OpP (intsOf r) (fun ns g3 => P (.set ((unlikeL ns).map D.int)) g3) g2) E) E) : (eScI it t tt f vs ρ g).all P E :=
  w_bind (w_bind (R.all_imp h (fun ds g1 h => w_bind (w_opt (by rw [if_pos h.1]; exact w_bind (R.all_imp h.2 (fun r g2 h => w_opt h) fun _ _ _ _ h => h)))) fun _ _ _ _ h => h))
theorem w_eInt (h : (f ρ g).all (InP D.int P) E) : (eInt f ρ g).all P E := by
  refine w_bind (R.all_imp h (fun d g1 h => ?_) fun _ _ _ _ h => h)
  cases d <;> first | exact h.elim | exact h
end
/-! ### statements -/
/-- how a statement ends: nx on, ct continue, bk break, rt returned -/
def FP (nx ct bk : Env → G → Prop) (rt : D → G → Prop) (fl : Fl) (g : G) : Prop := match fl with
  | .nx ρ => nx ρ g
  | .ct ρ => ct ρ g
  | .bk ρ => bk ρ g
  | .ret d => rt d g
abbrev NE : Env → G → Prop := fun _ _ => False
section
variable {ρ : Env} {g : G} {nx ct bk : Env → G → Prop} {rt P : D → G → Prop} {E : XE} {f f1 f2 f3 : Ep} {c : Et} {t u : Ss} {i j l : Nat}
theorem w_fn {n : Nat} {ds : List D} (h : (t (startE n ds) g).all (FP (fun _ g1 => P .non g1) NE NE P) E) : (fnB t n ds g).all P E :=
  w_bind (R.all_imp h (fun fl g1 h => by cases fl <;> first | exact h | exact h.elim) fun _ _ _ _ h => h)
theorem w_seq (h : (t ρ g).all (FP (fun ρ1 g1 => (u ρ1 g1).all (FP nx ct bk rt) E) ct bk rt) E) : (sSeq t u ρ g).all (FP nx ct bk rt) E :=
  w_bind (R.all_imp h (fun fl g1 h => by cases fl <;> exact h) fun _ _ _ _ h => h)
theorem w_skip (h : nx ρ g) : ((fun ρ => M.pure (.nx ρ) : Ss) ρ g).all (FP nx ct bk rt) E := h
theorem w_if (h : (c ρ g).all (fun b g1 => if b = true then (t ρ g1).all (FP nx ct bk rt) E else (u ρ g1).all (FP nx ct bk rt) E) E) : (sIf c t u ρ g).all (FP nx ct bk rt) E :=
  w_bind (R.all_imp h (fun b g1 h => by cases b <;> exact h) fun _ _ _ _ h => h)
theorem w_ret (h : (f ρ g).all rt E) : (sRet f ρ g).all (FP nx ct bk rt) E := w_bind h
theorem w_expr (h : (f ρ g).all (fun _ g1 => nx ρ g1) E) : (sExpr f ρ g).all (FP nx ct bk rt) E := w_bind h
theorem w_set (h : (f ρ g).all (fun d g1 => nx (ρ.set i (some (false, d))) g1) E) : (sSet false i f ρ g).all (FP nx ct bk rt) E := w_bind h
theorem w_setO (h : (f ρ g).all (fun d g1 => nx (ρ.set i (some (d.box, d))) g1) E) : (sSet true i f ρ g).all (FP nx ct bk rt) E := by
  refine w_bind (R.all_imp h (fun d g1 h => ?_) fun _ _ _ _ h => h)
  show nx (ρ.set i (some (true && d.box, d))) g1
  rw [Bool.true_and]
  exact h
theorem w_par {o1 o2 : Bool} (h : (f1 ρ g).all (fun d g1 => (f2 ρ g1).all (fun d' g2 => nx ((ρ.set j (some (o2 && d'.box, d'))).set i (some (o1 && d.box, d))) g2) E) E) : (sPar o1 o2 i j f1 f2 ρ g).all (FP nx ct bk rt) E :=
  w_bind (R.all_imp h (fun _ _ h => w_bind h) fun _ _ _ _ h => h)
theorem w_par3 {o1 o2 o3 : Bool} (h : (f1 ρ g).all (fun d g1 => (f2 ρ g1).all (fun d' g2 => (f3 ρ g2).all (fun d'' g3 => nx (((ρ.set l (some (o3 && d''.box, d''))).set j (some (o2 && d'.box, d'))).set i (some (o1 && d.box, d))) g3) E) E) E) : (sPar3 o1 o2 o3 i j l f1 f2 f3 ρ g).all (FP nx ct bk rt) E :=
  w_bind (R.all_imp h (fun _ _ h => w_bind (R.all_imp h (fun _ _ h => w_bind h) fun _ _ _ _ h => h)) fun _ _ _ _ h => h)
theorem w_asg {tg : D → Env → Option Env} (h : (f ρ g).all (fun d g1 => OpP (tg d ρ) nx g1) E) : (sAsg f tg ρ g).all (FP nx ct bk rt) E :=
  w_bind (R.all_imp h (fun d g1 h => w_bind (w_opt (show OpP (tg d ρ) _ g1 from by cases q : tg d ρ with | none => rw [q] at h; exact h | some r => rw [q] at h; exact h))) fun _ _ _ _ h => h)
theorem w_raise {x : Str} (h : E x Str.empty [] g) : (sRaise x ρ g).all (FP nx ct bk rt) E := h
theorem w_frz {is : List Nat} (h : (t (is.foldl frz ρ) g).all (FP nx ct bk rt) E) : (sFrz is t ρ g).all (FP nx ct bk rt) E := h
theorem w_for {fs : Es} {tg : D → Env → Option Env} {body : Ss} (J : List D → Env → G → Prop) (h0 : (fs ρ g).all (fun l g1 => J l ρ g1) E) (hs : ∀ d l ρ g, J (d :: l) ρ g → ∃ ρ1, tg d ρ = some ρ1 ∧ (body ρ1 g).all (FP (J l) (J l) nx rt) E) (he : ∀ ρ g, J [] ρ g → nx ρ g) : (sFor fs tg body ρ g).all (FP nx ct bk rt) E := by
  have key : ∀ (l : List D) (ρ : Env) (g : G), J l ρ g → (sForL tg body l ρ g).all (FP nx ct bk rt) E := by
    intro l
    induction l with
    | nil => exact fun ρ g h => he ρ g h
    | cons d l ih =>
      intro ρ g h
      obtain ⟨ρ1, e1, h1⟩ := hs d l ρ g h
      rw [sForL]
      refine w_bind (w_opt ?_)
      rw [e1]
      refine w_bind (R.all_imp h1 (fun fl g1 h => ?_) fun _ _ _ _ h => h)
      cases fl with
      | nx ρ2 => exact ih ρ2 g1 h
      | ct ρ2 => exact ih ρ2 g1 h
      | bk ρ2 => exact h
      | ret d => exact h
  exact w_bind (R.all_imp h0 (fun l g1 h => key l ρ g1 h) fun _ _ _ _ h => h)
theorem w_while {body : Ss} {N : Nat} (J : Nat → Env → G → Prop) (h0 : J N ρ g) (hz : ∀ ρ g, ¬ J 0 ρ g) (hs : ∀ n ρ g, J (n + 1) ρ g → (c ρ g).all (fun b g1 => if b = true then (body ρ g1).all (FP (J n) (J n) nx rt) E else nx ρ g1) E) : (sWhile c body N ρ g).all (FP nx ct bk rt) E := by
  induction N generalizing ρ g with
  | zero => exact absurd h0 (hz ρ g)
  | succ n ih =>
    rw [sWhile]
    refine w_bind (R.all_imp (hs n ρ g h0) (fun b g1 h => ?_) fun _ _ _ _ h => h)
    cases b with
    | false => exact h
    | true =>
      rw [if_pos rfl] at h ⊢
      refine w_bind (R.all_imp h (fun fl g2 h => ?_) fun _ _ _ _ h => h)
      cases fl with
      | nx ρ2 => exact ih h
      | ct ρ2 => exact ih h
      | bk ρ2 => exact h
      | ret d => exact h
/-! methods of one's own lists -/
theorem w_mPure {T : Env × D → G → Prop} (h : (f ρ g).all (fun d g1 => T (ρ, d) g1) E) : (mPure f ρ g).all T E := w_bind h
theorem w_mNil {T : Env × List D → G → Prop} (h : T (ρ, []) g) : (mNil ρ g).all T E := h
theorem w_mCons {m : Em} {ms : Ems} {T : Env × List D → G → Prop} (h : (m ρ g).all (fun x g1 => (ms x.1 g1).all (fun y g2 => T (y.1, x.2 :: y.2) g2) E) E) : (mCons m ms ρ g).all T E :=
  w_bind (R.all_imp h (fun _ _ h => w_bind h) fun _ _ _ _ h => h)
theorem w_meth {op : List D → List D → Option (List D × D)} {ms : Ems} {T : Env × D → G → Prop} {l0 : List D} (e : ownL ρ i = some l0) (h : (ms ρ g).all (fun x g1 => OpP (ownL x.1 i) (fun l g2 => OpP (op l x.2) (fun y g3 => T (x.1.set i (some (true, .lst y.1)), y.2) g3) g2) g1) E) : (eMeth i op ms ρ g).all T E := by
  unfold eMeth
  rw [e]
  refine w_bind (w_opt (w_bind (R.all_imp h (fun x g1 h => w_bind (w_opt ?_)) fun _ _ _ _ h => h)))
  cases q : ownL x.1 i with
  | none => rw [q] at h; exact h
  | some l =>
    rw [q] at h
    refine w_bind (w_opt ?_)
    have h : OpP (op l x.2) (fun y g3 => T (x.1.set i (some (true, .lst y.1)), y.2) g3) g1 := h
    cases q2 : op l x.2 with
    | none => rw [q2] at h; exact h.elim
    | some y =>
      rw [q2] at h
      exact h
theorem op_own {T : List D → G → Prop} {l0 : List D} (e : ρ[i]? = some (some (true, .lst l0))) (h : T l0 g) : OpP (ownL ρ i) T g := by
  have q : ownL ρ i = some l0 := by
    unfold ownL
    rw [e]
  rw [q]
  exact h
theorem w_methE {op : List D → List D → Option (List D × D)} {ms : Ems} {T : Env × D → G → Prop} {l0 : List D} (e : ρ[i]? = some (some (true, .lst l0))) (h : (ms ρ g).all (fun x g1 => OpP (ownL x.1 i) (fun l g2 => OpP (op l x.2) (fun y g3 => T (x.1.set i (some (true, .lst y.1)), y.2) g3) g2) g1) E) : (eMeth i op ms ρ g).all T E :=
  w_meth (l0 := l0) (by unfold ownL; rw [e]) h
theorem w_exprM {m : Em} (h : (m ρ g).all (fun x g1 => nx x.1 g1) E) : (sExprM m ρ g).all (FP nx ct bk rt) E := w_bind h
theorem w_setM {m : Em} (h : (m ρ g).all (fun x g1 => nx (x.1.set i (some (false, x.2))) g1) E) : (sSetM i m ρ g).all (FP nx ct bk rt) E := w_bind h
/-- an exception that is caught -/
theorem w_caught {pks : List Str} (h : (f ρ g).all (fun _ g1 => P .non g1) (fun c n l g1 => c ∈ pks ∧ P (.exc c n l) g1)) : (eCaught pks f ρ g).all P E := by
  unfold eCaught
  cases q : f ρ g with
  | stuck => rw [q] at h; exact h
  | ok d g1 => rw [q] at h; exact h
  | exc c n l g1 =>
    rw [q] at h
    dsimp only
    rw [if_pos h.1]
    exact h.2
end
/-! ### ifs -/
theorem w_dec {p A B : Prop} [Decidable p] (h1 : p → A) (h2 : ¬ p → B) : if decide p = true then A else B := by
  by_cases h : p
  · rw [if_pos (decide_eq_true h)]; exact h1 h
  · rw [if_neg (by rw [decide_eq_false h]; decide)]; exact h2 h
theorem w_ndec {p A B : Prop} [Decidable p] (h1 : ¬ p → A) (h2 : p → B) : if (!decide p) = true then A else B := by
  by_cases h : p
  · rw [if_neg (by rw [decide_eq_true h]; decide)]; exact h2 h
  · rw [if_pos (by rw [decide_eq_false h]; decide)]; exact h1 h
theorem w_b {b : Bool} {A B : Prop} (h1 : b = true → A) (h2 : b = false → B) : if b = true then A else B := by
  cases b with
  | true => exact h1 rfl
  | false => exact h2 rfl
theorem w_T {A B : Prop} (h : A) : if true = true then A else B := h
theorem w_F {A B : Prop} (h : B) : if false = true then A else B := h
theorem w_iteT {b : Bool} {A B : Prop} (hb : b = true) (h : A) : if b = true then A else B := by rw [if_pos hb]; exact h
theorem w_iteF {b : Bool} {A B : Prop} (hb : b = false) (h : B) : if b = true then A else B := by rw [if_neg (by rw [hb]; decide)]; exact h
theorem w_nb {b : Bool} {A B : Prop} (h1 : b = false → A) (h2 : b = true → B) : if (!b) = true then A else B := by
  cases b with
  | true => exact h2 rfl
  | false => exact h1 rfl
section
variable {ρ : Env} {g : G} {P : D → G → Prop} {E : XE} {fk fv : Ep} {r : List (Ep × Ep)} {T : List (D × D) → G → Prop}
theorem w_eDct {ps : List (Ep × Ep)} (h : (sPrs ps ρ g).all (fun l g1 => OpP (mkO l) (fun r g2 => P (.dct r) g2) g1) E) : (eDct ps ρ g).all P E :=
  w_bind (R.all_imp h (fun _ _ h => w_bind (w_opt h)) fun _ _ _ _ h => h)
theorem w_prsN (h : T [] g) : (sPrs [] ρ g).all T E := h
theorem w_prsC (h : (fk ρ g).all (fun k g1 => (fv ρ g1).all (fun y g2 => (sPrs r ρ g2).all (fun l g3 => T ((k, y) :: l) g3) E) XF) XF) : (sPrs ((fk, fv) :: r) ρ g).all T E :=
  w_bind (nox_all (R.all_imp h (fun k g1 h => w_bind (nox_all (R.all_imp h (fun y g2 h => w_bind h) fun _ _ _ _ h => h))) fun _ _ _ _ h => h))
/-- a dict comprehension: J: what is left, what came out, the draws -/
theorem w_dcl {t : D → Env → Option Env} {tt : Et} {T : List (D × D) → G → Prop} (J : List D → List (D × D) → G → Prop) (hs : ∀ d l acc g, J (d :: l) acc g → ∃ ρ1, t d ρ = some ρ1 ∧ (tt ρ1 g).all (fun b g1 => if b = true then (fk ρ1 g1).all (fun k g2 => (fv ρ1 g2).all (fun y g3 => OpP (putO acc k y) (fun acc' g4 => J l acc' g4) g3) XF) XF else J l acc g1) XF) :
    ∀ (l : List D) (acc : List (D × D)) (g : G), J l acc g → (∀ r g1, J [] r g1 → T r g1) → (sDcL ρ t tt fk fv l acc g).all T E
  | [], acc, g, h, he => he acc g h
  | d :: l, acc, g, h, he => by
    obtain ⟨ρ1, e1, h1⟩ := hs d l acc g h
    rw [sDcL]
    refine w_bind (w_opt ?_)
    rw [e1]
    refine w_bind (nox_all (R.all_imp h1 (fun b g1 h2 => ?_) fun _ _ _ _ h => h))
    cases b with
    | false => exact w_dcl J hs l acc g1 h2 he
    | true =>
      rw [if_pos rfl] at h2 ⊢
      refine w_bind (nox_all (R.all_imp h2 (fun k g2 h3 => w_bind (nox_all (R.all_imp h3 (fun y g3 h4 => w_bind (w_opt ?_)) fun _ _ _ _ h => h))) fun _ _ _ _ h => h))
      cases q : putO acc k y with
      | none => rw [q] at h4; exact h4
      | some acc' =>
        rw [q] at h4
        exact w_dcl J hs l acc' g3 h4 he
theorem w_eDc {it : Es} {t : D → Env → Option Env} {tt : Et} {vs : List Nat} (h : (it ρ g).all (fun ds g1 => (sDcL (wipeE ρ vs) t tt fk fv ds [] g1).all (fun r g2 => P (.dct r) g2) E) E) : (eDc it t tt fk fv vs ρ g).all P E :=
  w_bind (R.all_imp h (fun ds g1 h => w_bind h) fun _ _ _ _ h => h)
end
end DL
set_option Elab.async false
set_option linter.all false
set_option maxRecDepth 100000
set_option maxHeartbeats 2000000
/-! Values with a Lean type: what is asked of them. -/
namespace DL
open PySem PySem.Spec PyProof.Rows L2
/-- α's values as values of the layer -/
class Enc (α : Type) [DecidableEq α] where
  enc : α → D
  pyd : α → PyData
  py : ∀ a, (enc a).py = some (pyd a)
  nstr : ∀ a x, enc a ≠ .str x
  eqv : ∀ a b, PyData.eqv (pyd a) (pyd b) = decide (a = b)
  lay : ∀ a, (pyd a).canLay0 = true
  dep : Nat
  dep_le : ∀ a, (pyd a).depth ≤ dep
open Enc (enc)
/-- a tuple of one kind of items -/
structure Tu (α : Type) where
  l : List α
  deriving DecidableEq
instance : Enc Int where
  enc := .int
  pyd := .int
  py _ := by rw [D.py]
  nstr _ _ h := by cases h
  eqv a b := by simp only [PyData.eqv]; exact PySem.W.beq_decide a b
  lay _ := by rw [PyData.canLay0]
  dep := 0
  dep_le _ := by rw [PyData.depth]; exact Nat.le_refl _
instance : Enc Bool where
  enc := .bl
  pyd := .bool
  py _ := by rw [D.py]
  nstr _ _ h := by cases h
  eqv a b := by simp only [PyData.eqv]; exact PySem.W.beq_decide a b
  lay _ := by rw [PyData.canLay0]
  dep := 0
  dep_le _ := by rw [PyData.depth]; exact Nat.le_refl _
section
variable {α β : Type} [DecidableEq α] [Enc α] [DecidableEq β] [Enc β]
theorem pys_enc : ∀ l : List α, D.pys (l.map enc) = some (l.map Enc.pyd)
  | [] => by rw [List.map_nil, D.pys]; rfl
  | a :: l => by rw [List.map_cons, D.pys, Enc.py, pys_enc l]; rfl
theorem layAll_enc : ∀ l : List α, PyData.canLayAll0 (l.map Enc.pyd) = true
  | [] => by rw [List.map_nil, PyData.canLayAll0]
  | a :: l => by rw [List.map_cons, PyData.canLayAll0, Enc.lay, layAll_enc l]; rfl
theorem depAll_enc : ∀ l : List α, PyData.depthAll (l.map Enc.pyd) ≤ Enc.dep α
  | [] => by rw [List.map_nil, PyData.depthAll]; exact Nat.zero_le _
  | a :: l => by
    rw [List.map_cons, PyData.depthAll]
    exact Nat.max_le.mpr ⟨Enc.dep_le a, depAll_enc l⟩
theorem eqvAll_enc : ∀ l m : List α, PyData.eqvAll (l.map Enc.pyd) (m.map Enc.pyd) = decide (l = m)
  | [], [] => by simp only [List.map_nil, PyData.eqvAll, decide_true]
  | [], _ :: _ => by simp [PyData.eqvAll]
  | _ :: _, [] => by simp [PyData.eqvAll]
  | x :: xs, y :: ys => by
    rw [List.map_cons, List.map_cons, PyData.eqvAll, Enc.eqv x y, eqvAll_enc xs ys, ← Bool.decide_and]
    exact decide_eq_decide.mpr (by rw [List.cons.injEq])
instance : Enc (List α) where
  enc l := .lst (l.map enc)
  pyd l := .list (l.map Enc.pyd)
  py l := by rw [D.py, pys_enc]
  nstr _ _ h := by cases h
  eqv a b := by simp only [PyData.eqv]; exact eqvAll_enc a b
  lay l := by rw [PyData.canLay0]; exact layAll_enc l
  dep := Enc.dep α + 1
  dep_le l := by rw [PyData.depth]; exact Nat.succ_le_succ (depAll_enc l)
instance : Enc (Tu α) where
  enc t := .tup (t.l.map enc)
  pyd t := .tuple (t.l.map Enc.pyd)
  py t := by rw [D.py, pys_enc]
  nstr _ _ h := by cases h
  eqv a b := by
    simp only [PyData.eqv]
    rw [eqvAll_enc]
    exact decide_eq_decide.mpr ⟨fun e => by cases a; cases b; exact congrArg Tu.mk e, fun e => by rw [e]⟩
  lay t := by rw [PyData.canLay0]; exact layAll_enc t.l
  dep := Enc.dep α + 1
  dep_le t := by rw [PyData.depth]; exact Nat.succ_le_succ (depAll_enc t.l)
instance : Enc (α × β) where
  enc p := .tup [enc p.1, enc p.2]
  pyd p := .tuple [Enc.pyd p.1, Enc.pyd p.2]
  py p := by rw [D.py, D.pys, D.pys, D.pys, Enc.py, Enc.py]
  nstr _ _ h := by cases h
  eqv p q := by
    simp only [PyData.eqv, PyData.eqvAll]
    rw [Enc.eqv, Enc.eqv, Bool.and_true, ← Bool.decide_and]
    exact decide_eq_decide.mpr ⟨fun e => Prod.ext e.1 e.2, fun e => by rw [e]; exact ⟨rfl, rfl⟩⟩
  lay p := by simp only [PyData.canLay0, PyData.canLayAll0, Enc.lay, Bool.and_self]
  dep := max (Enc.dep α) (Enc.dep β) + 1
  dep_le p := by
    simp only [PyData.depth, PyData.depthAll]
    refine Nat.succ_le_succ (Nat.max_le.mpr ⟨Nat.le_trans (Enc.dep_le p.1) (Nat.le_max_left _ _), Nat.max_le.mpr ⟨Nat.le_trans (Enc.dep_le p.2) (Nat.le_max_right _ _), Nat.zero_le _⟩⟩)
theorem shaped_enc (a : α) (h : Enc.dep α ≤ 64) : SeqAt.shaped (Enc.pyd a) = true := by
  unfold SeqAt.shaped
  rw [Enc.lay, Bool.true_and, decide_eq_true_eq]
  exact Nat.le_trans (Enc.dep_le a) h
theorem dEqB_enc (a b : α) (h : Enc.dep α ≤ 64 := by decide) : dEqB (enc a) (enc b) = some (decide (a = b)) := by
  have e : dEqB (enc a) (enc b) = dEqP (enc a) (enc b) := by
    generalize he : enc a = d
    cases d <;> first | rfl | exact absurd he (Enc.nstr a _)
  rw [e]
  unfold dEqP
  rw [Enc.py, Enc.py]
  dsimp only
  rw [if_pos ⟨shaped_enc a h, shaped_enc b h⟩, Enc.eqv]
theorem dEq_enc (a b : α) (h : Enc.dep α ≤ 64 := by decide) : dEq (enc a) (enc b) = some (.bl (decide (a = b))) := by
  unfold dEq
  rw [dEqB_enc a b h]
  rfl
theorem dNe_enc (a b : α) (h : Enc.dep α ≤ 64 := by decide) : dNe (enc a) (enc b) = some (.bl (!decide (a = b))) := by
  unfold dNe
  rw [dEqB_enc a b h]
  rfl
theorem any_enc (a : α) : ∀ l : List α, (l.map Enc.pyd).any (fun w => PyData.eqv w (Enc.pyd a)) = decide (a ∈ l)
  | [] => rfl
  | b :: l => by
    rw [List.map_cons, List.any_cons, any_enc a l, Enc.eqv, ← Bool.decide_or]
    exact decide_eq_decide.mpr (by rw [List.mem_cons]; exact or_congr_left ⟨fun e => e.symm, fun e => e.symm⟩)
theorem shapedL_enc (l : List α) (h : Enc.dep α ≤ 63) : SeqAt.shaped (.list (l.map Enc.pyd)) = true := by
  have := shaped_enc (α := List α) l (by show Enc.dep α + 1 ≤ 64; omega)
  exact this
theorem dInB_lst (a : α) (l : List α) (h : Enc.dep α ≤ 63 := by decide) : dInB (enc a) (.lst (l.map enc)) = some (decide (a ∈ l)) := by
  unfold dInB
  dsimp only
  rw [Enc.py, pys_enc]
  dsimp only
  rw [if_pos ⟨shaped_enc a (by omega), shapedL_enc l h⟩, any_enc]
theorem dInB_tup (a : α) (l : List α) (h : Enc.dep α ≤ 63 := by decide) : dInB (enc a) (.tup (l.map enc)) = some (decide (a ∈ l)) := by
  unfold dInB
  dsimp only
  rw [Enc.py, pys_enc]
  dsimp only
  rw [if_pos ⟨shaped_enc a (by omega), shapedL_enc l h⟩, any_enc]
theorem dIn_lst (a : α) (l : List α) (h : Enc.dep α ≤ 63 := by decide) : dIn (enc a) (.lst (l.map enc)) = some (.bl (decide (a ∈ l))) := by
  show (dInB _ _).map D.bl = _
  rw [dInB_lst a l h]; rfl
theorem dIn_tup (a : α) (l : List α) (h : Enc.dep α ≤ 63 := by decide) : dIn (enc a) (.tup (l.map enc)) = some (.bl (decide (a ∈ l))) := by
  show (dInB _ _).map D.bl = _
  rw [dInB_tup a l h]; rfl
theorem dNotIn_lst (a : α) (l : List α) (h : Enc.dep α ≤ 63 := by decide) : dNotIn (enc a) (.lst (l.map enc)) = some (.bl (!decide (a ∈ l))) := by
  show (dInB _ _).map (fun c => D.bl (!c)) = _
  rw [dInB_lst a l h]; rfl
theorem dNotIn_tup (a : α) (l : List α) (h : Enc.dep α ≤ 63 := by decide) : dNotIn (enc a) (.tup (l.map enc)) = some (.bl (!decide (a ∈ l))) := by
  show (dInB _ _).map (fun c => D.bl (!c)) = _
  rw [dInB_tup a l h]; rfl
end
/-! ### pairs, plans, books -/
abbrev Pr := Int × Int
abbrev Pl := List Pr
def pr (p : Pr) : D := .tup [.int p.1, .int p.2]
def pl (ps : Pl) : D := .tup (ps.map pr)
def bk (b : List Pl) : D := .tup (b.map pl)
theorem pr_enc : (enc : Pr → D) = pr := rfl
theorem pl_enc (ps : Pl) : pl ps = enc (Tu.mk ps) := rfl
theorem eq_pl (a b : Pl) : dEq (pl a) (pl b) = some (.bl (decide (a = b))) := by
  rw [pl_enc, pl_enc, dEq_enc]
  congr 2
  exact decide_eq_decide.mpr ⟨fun e => by cases e; rfl, fun e => by rw [e]⟩
theorem eq_prs (a b : Pl) : dEq (.lst (a.map pr)) (.lst (b.map pr)) = some (.bl (decide (a = b))) := dEq_enc (α := List Pr) a b
theorem eq_ints (a b : List Int) : dEq (.lst (a.map D.int)) (.lst (b.map D.int)) = some (.bl (decide (a = b))) := dEq_enc (α := List Int) a b
theorem ne_ints (a b : List Int) : dNe (.lst (a.map D.int)) (.lst (b.map D.int)) = some (.bl (!decide (a = b))) := dNe_enc (α := List Int) a b
theorem ne_prs (a b : Pl) : dNe (.lst (a.map pr)) (.lst (b.map pr)) = some (.bl (!decide (a = b))) := dNe_enc (α := List Pr) a b
/-! ### plain values -/
/-- plain values: n deep at most, 1000 items at most -/
inductive Ok : Nat → D → Prop
  | non {n} : Ok n .non
  | bl {n} (b : Bool) : Ok n (.bl b)
  | int {n} (i : Int) : Ok n (.int i)
  | str {n} (x : Str) : Ok n (.str x)
  | dct0 {n l} : Ok n (.dct l)
  | tup {n l} : l.length ≤ 1000 → (∀ x ∈ l, Ok n x) → Ok (n + 1) (.tup l)
  | lst {n l} : l.length ≤ 1000 → (∀ x ∈ l, Ok n x) → Ok (n + 1) (.lst l)
theorem Ok.plain {n : Nat} {d : D} (h : Ok n d) : plain d := by cases h <;> rfl
theorem Ok.items {n : Nat} {l : List D} (h : Ok n (.tup l)) : l.length ≤ 1000 ∧ ∀ x ∈ l, DL.plain x := by
  cases h with
  | tup h1 h2 => exact ⟨h1, fun x hx => (h2 x hx).plain⟩
theorem Ok.mono {n m : Nat} {d : D} (h : Ok n d) (hm : n ≤ m) : Ok m d := by
  induction h generalizing m with
  | non => exact .non
  | bl b => exact .bl b
  | int i => exact .int i
  | str x => exact .str x
  | dct0 => exact .dct0
  | tup h1 h2 ih =>
    cases m with
    | zero => omega
    | succ m => exact .tup h1 fun x hx => ih x hx (by omega)
  | lst h1 h2 ih =>
    cases m with
    | zero => omega
    | succ m => exact .lst h1 fun x hx => ih x hx (by omega)
theorem ok_pr (p : Pr) : Ok 1 (pr p) := .tup (by show 2 ≤ 1000; decide) fun x hx => by
  rcases List.mem_cons.mp hx with rfl | hx
  · exact .int _
  · rw [List.mem_singleton.mp hx]; exact .int _
theorem ok_pl (ps : Pl) (h : ps.length ≤ 1000) : Ok 2 (pl ps) := .tup (by rw [List.length_map]; exact h) fun x hx => by
  obtain ⟨p, _, rfl⟩ := List.mem_map.mp hx
  exact ok_pr p
/-! ### isinstance -/
def isIntD : D → Bool
  | .int _ => true
  | .bl _ => true
  | _ => false
def isBlD : D → Bool
  | .bl _ => true
  | _ => false
section
variable {g : G} {P : D → G → Prop} {d : D}
theorem w_isiInt (h : plain d) (hp : P (.bl (isIntD d)) g) : OpP (isi0 [d, .ty "int"]) P g := by
  refine op_some ((isi_int h).trans ?_) hp
  cases d <;> rfl
theorem w_isiBl (h : plain d) (hp : P (.bl (isBlD d)) g) : OpP (isi0 [d, .ty "bool"]) P g := by
  refine op_some ((isi_bool h).trans ?_) hp
  cases d <;> rfl
theorem w_isiTup (h : plain d) (hp : P (.bl (isTup d)) g) : OpP (isi0 [d, .ty "tuple"]) P g := op_some (isi_tup h) hp
/-! ### operations -/
theorem w_addI {a b : Int} (h : P (.int (a + b)) g) : OpP (dAdd (.int a) (.int b)) P g := h
theorem w_subI {a b : Int} (h : P (.int (a - b)) g) : OpP (dSub (.int a) (.int b)) P g := h
theorem w_mulI {a b : Int} (hb : (-1000000000 ≤ a ∧ a ≤ 1000000000) ∨ (-1000000000 ≤ b ∧ b ≤ 1000000000)) (h : P (.int (a * b)) g) : OpP (dMul (.int a) (.int b)) P g :=
  op_some (show dMul (.int a) (.int b) = some (.int (a * b)) from by
    unfold dMul
    dsimp only
    rw [if_pos (hb.imp (fun h => ⟨by omega, by omega⟩) fun h => ⟨by omega, by omega⟩)]) h
theorem w_ltI {a b : Int} (h : P (.bl (decide (a < b))) g) : OpP (dLt (.int a) (.int b)) P g := h
theorem w_leI {a b : Int} (h : P (.bl (decide (a ≤ b))) g) : OpP (dLe (.int a) (.int b)) P g := h
theorem w_gtI {a b : Int} (h : P (.bl (decide (b < a))) g) : OpP (dGt (.int a) (.int b)) P g := h
theorem w_geI {a b : Int} (h : P (.bl (decide (b ≤ a))) g) : OpP (dGe (.int a) (.int b)) P g := h
theorem w_eqI {a b : Int} (h : P (.bl (decide (a = b))) g) : OpP (dEq (.int a) (.int b)) P g := op_some (dEq_enc (α := Int) a b) h
theorem w_neI {a b : Int} (h : P (.bl (!decide (a = b))) g) : OpP (dNe (.int a) (.int b)) P g := op_some (dNe_enc (α := Int) a b) h
theorem w_addT {a b : List D} (hl : a.length + b.length ≤ 1000) (h : P (.tup (a ++ b)) g) : OpP (dAdd (.tup a) (.tup b)) P g := op_some (by unfold dAdd; dsimp only; rw [if_pos (line_1000 hl)]) h
theorem w_addL {a b : List D} (hl : a.length + b.length ≤ 1000) (h : P (.lst (a ++ b)) g) : OpP (dAdd (.lst a) (.lst b)) P g := op_some (by unfold dAdd; dsimp only; rw [if_pos (line_1000 hl)]) h
theorem w_negI {a : Int} (h : P (.int (-a)) g) : OpP (uNeg (.int a)) P g := h
theorem w_lenT {l : List D} (h : P (.int l.length) g) : OpP (fLen [.tup l]) P g := h
theorem w_lenL {l : List D} (h : P (.int l.length) g) : OpP (fLen [.lst l]) P g := h
theorem w_lenD {l : List (D × D)} (h : P (.int l.length) g) : OpP (fLen [.dct l]) P g := h
theorem w_lenS {l : List D} (hl : l.length ≤ 1000) (h : P (.int l.length) g) : OpP (fLen [.set l]) P g := op_some (by unfold fLen; dsimp only; rw [if_pos hl]) h
theorem w_lenR {n : Nat} (h : P (.int n) g) : OpP (fLen [.scr n]) P g := h
theorem w_tupL {l : List D} (h : P (.tup l) g) : OpP (fTuple [.lst l]) P g := h
theorem w_tupT {l : List D} (h : P (.tup l) g) : OpP (fTuple [.tup l]) P g := h
theorem w_lstL {l : List D} (h : P (.lst l) g) : OpP (fList [.lst l]) P g := h
theorem w_lstT {l : List D} (h : P (.lst l) g) : OpP (fList [.tup l]) P g := h
theorem w_cutT {l : List D} {a b : Option Int} (h : P (.tup (cutD l a b)) g) : OpP (dCut (.tup l) a b) P g := h
theorem w_cutL {l : List D} {a b : Option Int} (h : P (.lst (cutD l a b)) g) : OpP (dCut (.lst l) a b) P g := h
theorem w_backT {l : List D} (h : P (.tup l.reverse) g) : OpP (dBack (.tup l)) P g := h
theorem w_backL {l : List D} (h : P (.lst l.reverse) g) : OpP (dBack (.lst l)) P g := h
theorem w_zipL {a b : List D} (h : P (.lst ((a.zip b).map fun p => .tup [p.1, p.2])) g) : OpP (fZipL [.lst a, .lst b]) P g := h
theorem w_min2 {a b : Int} (h : P (.int (if b < a then b else a)) g) : OpP (fMin2 [.int a, .int b]) P g := h
theorem w_max2 {a b : Int} (h : P (.int (if b > a then b else a)) g) : OpP (fMax2 [.int a, .int b]) P g := h
theorem w_ixT {l : List D} {i : Nat} {x : D} (e : l[i]? = some x) (h : P x g) : OpP (dIx (.tup l) (.int (i : Int))) P g := by
  refine op_some ?_ h
  show L2.atI l i = _
  unfold L2.atI ixN
  have hl := (List.getElem?_eq_some_iff.mp e).1
  rw [if_pos (by omega), if_pos (by omega)]
  show l[(i : Int).toNat]? = _
  rw [Int.toNat_natCast]
  exact e
theorem w_ixL {l : List D} {i : Nat} {x : D} (e : l[i]? = some x) (h : P x g) : OpP (dIx (.lst l) (.int (i : Int))) P g := w_ixT (l := l) e h
theorem w_ix0 {l : List D} {x : D} (h : P x g) : OpP (dIx (.tup (x :: l)) (.int 0)) P g := w_ixT (i := 0) rfl h
theorem w_ix1 {l : List D} {x y : D} (h : P y g) : OpP (dIx (.tup (x :: y :: l)) (.int 1)) P g := w_ixT (i := 1) rfl h
theorem w_ix0L {l : List D} {x : D} (h : P x g) : OpP (dIx (.lst (x :: l)) (.int 0)) P g := w_ixL (i := 0) rfl h
theorem w_ix1L {l : List D} {x y : D} (h : P y g) : OpP (dIx (.lst (x :: y :: l)) (.int 1)) P g := w_ixL (i := 1) rfl h
theorem w_int {i : Int} (h : P (.int i) g) : OpP (fInt [.int i]) P g := h
end
/-! ### sorted -/
def leP (a b : Pr) : Bool := decide (a.1 < b.1 ∨ (a.1 = b.1 ∧ a.2 ≤ b.2))
def sortP (ps : Pl) : Pl := ps.mergeSort leP
def sortI (ns : List Int) : List Int := ns.mergeSort fun a b => decide (a ≤ b)
theorem mergeSort_map {α β : Type} (f : α → β) (le : β → β → Bool) (l : List α) : (l.map f).mergeSort le = (l.mergeSort fun a b => le (f a) (f b)).map f := by
  rw [List.map_mergeSort]
  intro a _ b _
  rfl
theorem pyD_int (i : Int) : pyD (.int i) = .int i := by unfold pyD; rw [D.py]; rfl
theorem pyD_pr (p : Pr) : pyD (pr p) = .tuple [.int p.1, .int p.2] := by
  have h := Enc.py p
  have h : (pr p).py = some (.tuple [.int p.1, .int p.2]) := h
  unfold pyD
  rw [h]
  rfl
theorem sort_int (ns : List Int) (hl : ns.length ≤ 1000) : sortD (ns.map D.int) = some ((sortI ns).map D.int) := by
  have hp : D.pys (ns.map D.int) = some (ns.map PyData.int) := pys_enc ns
  have hok : sortOk (ns.map PyData.int) = true := by
    unfold sortOk alikeB sortB
    simp only [Bool.and_eq_true, Bool.or_eq_true, List.all_map, List.all_eq_true, Function.comp_apply, decide_eq_true_eq]
    refine ⟨⟨fun x _ y _ => rfl, .inr fun x _ => trivial⟩, fun x _ => ?_⟩
    rw [PyData.depth]
    omega
  unfold sortD
  rw [hp]
  dsimp only
  rw [if_pos ⟨hok, by rw [List.length_map]; exact line_1000 hl⟩, mergeSort_map]
  have e : (fun a b : Int => PySem.W.dataLe false pyD (D.int a) (D.int b)) = fun a b => decide (a ≤ b) := by
    have h := PySem.W.dataLe_int (β := Int) id
    have h2 : (fun a b : Int => PySem.W.dataLe false pyD (D.int a) (D.int b)) = PySem.W.dataLe false (fun b : Int => PyData.int (id b)) := by
      funext a b
      rw [PySem.W.dataLe_eq, PySem.W.dataLe_eq]
      simp only [pyD_int, id]
    rw [h2, h]
    rfl
  rw [e]
  rfl
theorem sort_pr (ps : Pl) (hl : ps.length ≤ 1000) : sortD (ps.map pr) = some ((sortP ps).map pr) := by
  have hp : D.pys (ps.map pr) = some (ps.map fun p => PyData.tuple [.int p.1, .int p.2]) := pys_enc ps
  have hok : sortOk (ps.map fun p => PyData.tuple [.int p.1, .int p.2]) = true := by
    unfold sortOk alikeB sortB
    simp only [Bool.and_eq_true, Bool.or_eq_true, List.all_map, List.all_eq_true, Function.comp_apply, decide_eq_true_eq]
    refine ⟨⟨fun x _ y _ => ?_, .inl fun x _ => trivial⟩, fun x _ => ?_⟩
    · rfl
    · simp only [PyData.depth, PyData.depthAll]
      omega
  unfold sortD
  rw [hp]
  dsimp only
  rw [if_pos ⟨hok, by rw [List.length_map]; exact line_1000 hl⟩, mergeSort_map]
  have e : (fun a b : Pr => PySem.W.dataLe false pyD (pr a) (pr b)) = leP := by
    have h := PySem.W.dataLe_ii (β := Pr) (fun p => p.1) (fun p => p.2)
    have h2 : (fun a b : Pr => PySem.W.dataLe false pyD (pr a) (pr b)) = PySem.W.dataLe false (fun b : Pr => PyData.tuple [.int b.1, .int b.2]) := by
      funext a b
      rw [PySem.W.dataLe_eq, PySem.W.dataLe_eq]
      simp only [pyD_pr]
    rw [h2, h]
    rfl
  rw [e]
  rfl
section
variable {g : G} {P : D → G → Prop}
theorem w_sortI {ns : List Int} (hl : ns.length ≤ 1000) (h : P (.lst ((sortI ns).map D.int)) g) : OpP (fSorted [.lst (ns.map D.int)]) P g := op_some (show (sortD (ns.map D.int)).map D.lst = _ from by rw [sort_int ns hl]; rfl) h
theorem w_sortP {ps : Pl} (hl : ps.length ≤ 1000) (h : P (.lst ((sortP ps).map pr)) g) : OpP (fSorted [.lst (ps.map pr)]) P g := op_some (show (sortD (ps.map pr)).map D.lst = _ from by rw [sort_pr ps hl]; rfl) h
theorem w_sortPT {ps : Pl} (hl : ps.length ≤ 1000) (h : P (.lst ((sortP ps).map pr)) g) : OpP (fSorted [.tup (ps.map pr)]) P g := op_some (show (sortD (ps.map pr)).map D.lst = _ from by rw [sort_pr ps hl]; rfl) h
theorem w_sortIT {ns : List Int} (hl : ns.length ≤ 1000) (h : P (.lst ((sortI ns).map D.int)) g) : OpP (fSorted [.tup (ns.map D.int)]) P g := op_some (show (sortD (ns.map D.int)).map D.lst = _ from by rw [sort_int ns hl]; rfl) h
end
theorem leP_trans {a b c : Pr} (h1 : leP a b = true) (h2 : leP b c = true) : leP a c = true := by
  unfold leP at *
  simp only [decide_eq_true_eq] at *
  omega
theorem leP_total (a b : Pr) : (leP a b || leP b a) = true := by
  unfold leP
  simp only [Bool.or_eq_true, decide_eq_true_eq]
  omega
theorem sortP_perm (ps : Pl) : (sortP ps).Perm ps := List.mergeSort_perm _ _
theorem sortI_perm (ns : List Int) : (sortI ns).Perm ns := List.mergeSort_perm _ _
theorem sortP_pair (ps : Pl) : (sortP ps).Pairwise (fun a b => leP a b = true) := List.pairwise_mergeSort (le := leP) (fun _ _ _ h1 h2 => leP_trans h1 h2) leP_total ps
theorem sortI_pair (ns : List Int) : (sortI ns).Pairwise (· ≤ ·) := by
  have h := List.pairwise_mergeSort (le := fun a b : Int => decide (a ≤ b)) (fun a b c h1 h2 => by simp only [decide_eq_true_eq] at *; omega) (fun a b => by simp only [Bool.or_eq_true, decide_eq_true_eq]; omega) ns
  exact h.imp fun h => by simpa using h
end DL
set_option Elab.async false
set_option linter.all false
set_option maxRecDepth 100000
namespace SH
open PySem PySem.Spec PyProof.Rows L2 DL
def t_is_between : Ss :=
  (sRet (eAnd (eTr (eCall isi0 (sCons (eVar 0) (sCons (eC (.ty "int")) sNil)))) (eAnd (eTr (eNot (eCall isi0 (sCons (eVar 0) (sCons (eC (.ty "bool")) sNil))))) (eChain dLe dLe (eVar 1) (eVar 0) (eVar 2)))))
def f_is_between : List D → M D := fnB t_is_between 3
def t_is_pair : Ss :=
  (sSeq (sIf (bOr (bNot (eTr (eCall isi0 (sCons (eVar 0) (sCons (eC (.ty "tuple")) sNil))))) (eTr (eBin dNe (eCall fLen (sCons (eVar 0) sNil)) (eC (.int 2)))))
  (sRet (eC (.bl false)))
  (fun ρ => M.pure (.nx ρ)))
  (sRet (eAnd (eTr (eCallF f_is_between (sCons (eBin dIx (eVar 0) (eC (.int 0))) (sCons (eC (.int 0)) (sCons (eC (.int 7)) sNil))))) (eCallF f_is_between (sCons (eBin dIx (eVar 0) (eC (.int 1))) (sCons (eC (.int 0)) (sCons (eC (.int 7)) sNil)))))))
def f_is_pair : List D → M D := fnB t_is_pair 1
def t_are_apart : Ss :=
  (sSeq (sSet false 1 (eScI (sItems (eVar 0)) (gN 3) sYes (eBin dIx (eVar 3) (eC (.int 0))) [3]))
  (sSeq (sSet false 2 (eScI (sItems (eVar 0)) (gN 3) sYes (eBin dIx (eVar 3) (eC (.int 1))) [3]))
  (sRet (eAnd (eTr (eBin dEq (eCall fLen (sCons (eVar 1) sNil)) (eCall fLen (sCons (eVar 0) sNil)))) (eBin dEq (eCall fLen (sCons (eVar 2) sNil)) (eCall fLen (sCons (eVar 0) sNil)))))))
def f_are_apart : List D → M D := fnB t_are_apart 4
def t_plans_right : Ss :=
  (sSeq (sIf (bOr (bNot (eTr (eCall isi0 (sCons (eVar 0) (sCons (eC (.ty "tuple")) sNil))))) (bNot (eTr (eCall fAll (sCons (eLc (sItems (eVar 0)) (gN 1) sYes (eCallF f_is_pair (sCons (eVar 1) sNil)) [1]) sNil)))))
  (sRet (eC (.bl false)))
  (fun ρ => M.pure (.nx ρ)))
  (sRet (eAnd (eTr (eBin dEq (eCall fList (sCons (eVar 0) sNil)) (eCall fSorted (sCons (eVar 0) sNil)))) (eCallF f_are_apart (sCons (eVar 0) sNil)))))
def f_plans_right : List D → M D := fnB t_plans_right 2
def t_books_right : Ss :=
  (sSeq (sIf (bOr (bNot (eTr (eCall isi0 (sCons (eVar 0) (sCons (eC (.ty "tuple")) sNil))))) (bNot (eTr (eChain dLe dLe (eC (.int 1)) (eCall fLen (sCons (eVar 0) sNil)) (eC (.int 16))))))
  (sRet (eC (.bl false)))
  (fun ρ => M.pure (.nx ρ)))
  (sRet (eCall fAll (sCons (eLc (sItems (eVar 0)) (gN 1) sYes (eCallF f_plans_right (sCons (eVar 1) sNil)) [1]) sNil))))
def f_books_right : List D → M D := fnB t_books_right 2
def t_sure_of : Ss :=
  (sSeq (sSet false 1 (eC (.int 0)))
  (sSeq (sFor (sRange2 (eC (.int 1)) (eBin dAdd (eC (.int 7)) (eC (.int 2)))) (gN 2)
  (sIf (eTr (eBin dGe (eCall fLen (sCons (eLc (sItems (eVar 0)) (gN 3) (eTr (eBin dGe (eCall fLen (sCons (eVar 3) sNil)) (eVar 2))) (eVar 3) [3]) sNil)) (eBin dSub (eBin dMul (eC (.int 2)) (eVar 2)) (eC (.int 1)))))
  (sSet false 1 (eVar 2))
  (fun ρ => M.pure (.nx ρ))))
  (sRet (eVar 1))))
def f_sure_of : List D → M D := fnB t_sure_of 4
def t__law_draw : Ss :=
  (sSeq (sWhile (bAnd (eTr (eBin dEq (eStL 0) (eC (.int 0)))) (tLsNe 0 (·.large)))
  (sSt 0 uL (ePopL 0)) 66)
  (sSeq (sIf (eTr (eBin dGt (eStL 0) (eC (.int 0))))
  (sSeq (sSet false 2 (eBin dMod (eCall fInt (sCons (eStL 0) sNil)) (eVar 1)))
  (sSeq (sSt 0 uL (eBin dFdiv (eStL 0) (eVar 1)))
  (sRet (eVar 2))))
  (fun ρ => M.pure (.nx ρ)))
  (sSeq (sSet false 3 (eBin dAdd (eStT 0) (eC (.int 1))))
  (sSeq (sSt 0 uT (eVar 3))
  (sSeq (sSet false 4 (eIf (tLsNe 0 (·.cells)) (eCellIx 0 (eBin dMod (eCall fInt (sCons (eVar 3) sNil)) (eCellLen 0))) (eC (.int 0))))
  (sSeq (sSet false 5 (eBin dMod (eCall fInt (sCons (eBin dPow (eBin dAdd (eBin dAdd (eBin dMod (eCall fInt (sCons (eVar 4) sNil)) (eC (.int 2147483563))) (eBin dMul (eC (.int 40692)) (eVar 3))) (eC (.int 24681))) (eC (.int 3))) sNil)) (eC (.int 2147483629))))
  (sRet (eBin dMod (eCall fInt (sCons (eBin dFdiv (eBin dMod (eCall fInt (sCons (eBin dPow (eBin dAdd (eVar 5) (eBin dMul (eC (.int 104917)) (eVar 3))) (eC (.int 5))) sNil)) (eC (.int 2147483579))) (eC (.int 29))) sNil)) (eVar 1)))))))))
def f__law_draw : List D → M D := fnB t__law_draw 6
def t__law_pick : Ss :=
  (sRet (eBin dIx (eVar 1) (eCallF f__law_draw (sCons (eVar 0) (sCons (eCall fLen (sCons (eVar 1) sNil)) sNil)))))
def f__law_pick : List D → M D := fnB t__law_pick 2
def t__law_mixed : Ss :=
  (sSeq (sPar true true 2 3 (eCall fList (sCons (eVar 1) sNil)) (eLst sNil))
  (sSeq (sWhile (eTr (eBin dNe (ePeek 2) (eLst sNil)))
  (sExprM (eMeth 3 hAppend (mCons (eMeth 2 hPop (mCons (mPure (eCallF f__law_draw (sCons (eVar 0) (sCons (eCall fLen (sCons (ePeek 2) sNil)) sNil)))) mNil)) mNil))) 66)
  (sFrz [3] (sRet (eVar 3)))))
def f__law_mixed : List D → M D := fnB t__law_mixed 4
def t__law_is_whole : Ss :=
  (sRet (eAnd (eTr (eCall isi0 (sCons (eVar 0) (sCons (eC (.ty "int")) sNil)))) (eNot (eCall isi0 (sCons (eVar 0) (sCons (eC (.ty "bool")) sNil))))))
def f__law_is_whole : List D → M D := fnB t__law_is_whole 1
def t__law_is_below : Ss :=
  (sRet (eAnd (eTr (eCallF f__law_is_whole (sCons (eVar 0) sNil))) (eChain dLe dLt (eC (.int 0)) (eVar 0) (eVar 1))))
def f__law_is_below : List D → M D := fnB t__law_is_below 2
def t__law_is_pair : Ss :=
  (sRet (eAnd (eTr (eCall isi0 (sCons (eVar 0) (sCons (eC (.ty "tuple")) sNil)))) (eAnd (eTr (eBin dEq (eCall fLen (sCons (eVar 0) sNil)) (eC (.int 2)))) (eAnd (eTr (eCallF f__law_is_below (sCons (eBin dIx (eVar 0) (eC (.int 0))) (sCons (eC (.int 8)) sNil)))) (eCallF f__law_is_below (sCons (eBin dIx (eVar 0) (eC (.int 1))) (sCons (eC (.int 8)) sNil)))))))
def f__law_is_pair : List D → M D := fnB t__law_is_pair 1
def t__law_are_apart : Ss :=
  (sRet (eAnd (eTr (eBin dEq (eUn fUnlike (eLc (sItems (eVar 0)) (gN 1) sYes (eBin dIx (eVar 1) (eC (.int 0))) [1])) (eCall fLen (sCons (eVar 0) sNil)))) (eBin dEq (eUn fUnlike (eLc (sItems (eVar 0)) (gN 1) sYes (eBin dIx (eVar 1) (eC (.int 1))) [1])) (eCall fLen (sCons (eVar 0) sNil)))))
def f__law_are_apart : List D → M D := fnB t__law_are_apart 2
def t__law_is_plan : Ss :=
  (sSeq (sIf (bOr (bNot (eTr (eCall isi0 (sCons (eVar 0) (sCons (eC (.ty "tuple")) sNil))))) (eTr (eBin dNe (eLc (sItems (eVar 0)) (gN 1) (bNot (eTr (eCallF f__law_is_pair (sCons (eVar 1) sNil)))) (eC (.int 1)) [1]) (eLst sNil))))
  (sRet (eC (.bl false)))
  (fun ρ => M.pure (.nx ρ)))
  (sRet (eAnd (eTr (eBin dEq (eCall fList (sCons (eVar 0) sNil)) (eCall fSorted (sCons (eVar 0) sNil)))) (eCallF f__law_are_apart (sCons (eVar 0) sNil)))))
def f__law_is_plan : List D → M D := fnB t__law_is_plan 2
def t__law_is_book : Ss :=
  (sSeq (sIf (bOr (bNot (eTr (eCall isi0 (sCons (eVar 0) (sCons (eC (.ty "tuple")) sNil))))) (bNot (eTr (eChain dLe dLe (eC (.int 1)) (eCall fLen (sCons (eVar 0) sNil)) (eC (.int 16))))))
  (sRet (eC (.bl false)))
  (fun ρ => M.pure (.nx ρ)))
  (sRet (eBin dEq (eLc (sItems (eVar 0)) (gN 1) (bNot (eTr (eCallF f__law_is_plan (sCons (eVar 1) sNil)))) (eC (.int 1)) [1]) (eLst sNil))))
def f__law_is_book : List D → M D := fnB t__law_is_book 2
def t__law_plan : Ss :=
  (sSeq (sPar false false 3 4 (eSl (eCallF f__law_mixed (sCons (eVar 0) (sCons (eLstRg (eRg1 (eVar 2))) sNil))) oNone (oSome (eVar 1))) (eSl (eCallF f__law_mixed (sCons (eVar 0) (sCons (eLstRg (eRg1 (eVar 2))) sNil))) oNone (oSome (eVar 1))))
  (sRet (eCall fTuple (sCons (eCall fSorted (sCons (eCall fZipL (sCons (eVar 3) (sCons (eVar 4) sNil))) sNil)) sNil))))
def f__law_plan : List D → M D := fnB t__law_plan 5
def t__law_any_plan : Ss :=
  (sRet (eCallF f__law_plan (sCons (eVar 0) (sCons (eCallF f__law_draw (sCons (eVar 0) (sCons (eBin dAdd (eVar 1) (eC (.int 1))) sNil))) (sCons (eVar 1) sNil)))))
def f__law_any_plan : List D → M D := fnB t__law_any_plan 2
def t__law_near_plan : Ss :=
  (sSeq (sIf (eTr (eBin dEq (eVar 1) (eTup sNil)))
  (sRet (eVar 1))
  (fun ρ => M.pure (.nx ρ)))
  (sSeq (sSet true 2 (eCall fList (sCons (eVar 1) sNil)))
  (sSeq (sExprM (eMeth 2 hPop (mCons (mPure (eCallF f__law_draw (sCons (eVar 0) (sCons (eCall fLen (sCons (ePeek 2) sNil)) sNil)))) mNil)))
  (sSeq (sSet false 3 (eLc (sRange1 (eC (.int 8))) (gN 5) (eTr (eBin dNotIn (eVar 5) (eLc (sItems (ePeek 2)) (gN 6) sYes (eBin dIx (eVar 6) (eC (.int 0))) [6]))) (eVar 5) [5]))
  (sSeq (sSet false 4 (eLc (sRange1 (eC (.int 8))) (gN 5) (eTr (eBin dNotIn (eVar 5) (eLc (sItems (ePeek 2)) (gN 6) sYes (eBin dIx (eVar 6) (eC (.int 1))) [6]))) (eVar 5) [5]))
  (sRet (eCall fTuple (sCons (eCall fSorted (sCons (eBin dAdd (ePeek 2) (eLst (sCons (eTup (sCons (eCallF f__law_pick (sCons (eVar 0) (sCons (eVar 3) sNil))) (sCons (eCallF f__law_pick (sCons (eVar 0) (sCons (eVar 4) sNil))) sNil))) sNil))) sNil)) sNil))))))))
def f__law_near_plan : List D → M D := fnB t__law_near_plan 7
def t__law_book : Ss :=
  (sSeq (sAsg (eTup (sCons (eBin dAdd (eC (.int 1)) (eCallF f__law_draw (sCons (eVar 0) (sCons (eVar 1) sNil)))) (sCons (eBin dAdd (eC (.int 2)) (eCallF f__law_draw (sCons (eVar 0) (sCons (eC (.int 7)) sNil)))) (sCons (eCallF f__law_draw (sCons (eVar 0) (sCons (eC (.int 4)) sNil))) sNil)))) (gT (gCs (gN 2) (gCs (gN 3) (gCs (gN 4) gNl)))))
  (sSeq (sIf (eTr (eBin dEq (eVar 4) (eC (.int 0))))
  (sRet (eCall fTuple (sCons (eLc (sRange1 (eVar 2)) (gN 8) sYes (eCallF f__law_any_plan (sCons (eVar 0) (sCons (eVar 3) sNil))) [8]) sNil)))
  (fun ρ => M.pure (.nx ρ)))
  (sSeq (sSet false 5 (eBin dAdd (eC (.int 1)) (eCallF f__law_draw (sCons (eVar 0) (sCons (eVar 3) sNil)))))
  (sSeq (sIf (eTr (eBin dEq (eVar 4) (eC (.int 1))))
  (sRet (eCall fTuple (sCons (eLc (sRange1 (eVar 2)) (gN 8) sYes (eCallF f__law_plan (sCons (eVar 0) (sCons (eVar 5) (sCons (eVar 3) sNil)))) [8]) sNil)))
  (fun ρ => M.pure (.nx ρ)))
  (sSeq (sSet false 6 (eLc (sRange1 (eC (.int 2))) (gN 8) sYes (eCallF f__law_plan (sCons (eVar 0) (sCons (eVar 5) (sCons (eVar 3) sNil)))) [8]))
  (sSeq (sIf (eTr (eBin dEq (eVar 4) (eC (.int 2))))
  (sRet (eCall fTuple (sCons (eLc (sRange1 (eVar 2)) (gN 8) sYes (eCallF f__law_pick (sCons (eVar 0) (sCons (eVar 6) sNil))) [8]) sNil)))
  (fun ρ => M.pure (.nx ρ)))
  (sSeq (sSet false 7 (eLc (sRange1 (eVar 2)) (gN 8) sYes (eCallF f__law_near_plan (sCons (eVar 0) (sCons (eCallF f__law_pick (sCons (eVar 0) (sCons (eVar 6) sNil))) sNil))) [8]))
  (sRet (eCall fTuple (sCons (eLc (sItems (eVar 7)) (gN 9) sYes (eCallF f__law_pick (sCons (eVar 0) (sCons (eLst (sCons (eVar 9) (sCons (eBin dIx (eVar 6) (eC (.int 0))) sNil))) sNil))) [9]) sNil))))))))))
def f__law_book : List D → M D := fnB t__law_book 10
def t__law_bool_pair : Ss :=
  (sSeq (sSet false 3 (eLc (sEnumU (eVar 1)) (gT (gCs (gN 2) (gCs (gN 4) gNl))) (eTr (eBin dLt (eVar 4) (eC (.int 2)))) (eVar 2) [2, 4]))
  (sSeq (sIf (eTr (eBin dEq (eVar 3) (eLst sNil)))
  (sRet (eSl (eVar 1) oNone (oSome (eUn uNeg (eC (.int 1))))))
  (fun ρ => M.pure (.nx ρ)))
  (sSeq (sSet false 2 (eCallF f__law_pick (sCons (eVar 0) (sCons (eVar 3) sNil))))
  (sRet (eBin dAdd (eBin dAdd (eSl (eVar 1) oNone (oSome (eVar 2))) (eTup (sCons (eBin dEq (eBin dIx (eVar 1) (eVar 2)) (eC (.int 1))) sNil))) (eSl (eVar 1) (oSome (eBin dAdd (eVar 2) (eC (.int 1)))) oNone))))))
def f__law_bool_pair : List D → M D := fnB t__law_bool_pair 5
def t__law_bad_plan : Ss :=
  (sSeq (sSet false 1 (eCallF f__law_plan (sCons (eVar 0) (sCons (eBin dAdd (eC (.int 2)) (eCallF f__law_draw (sCons (eVar 0) (sCons (eC (.int 6)) sNil)))) (sCons (eC (.int 8)) sNil)))))
  (sSeq (sSet false 2 (eCallF f__law_draw (sCons (eVar 0) (sCons (eCall fLen (sCons (eVar 1) sNil)) sNil))))
  (sSeq (sPar false false 3 4 (eBin dIx (eVar 1) (eVar 2)) (eBin dIx (eVar 1) (eBin dSub (eVar 2) (eC (.int 1)))))
  (sSeq (sSet true 5 (eLc (sItems (eLst (sCons (eTup (sCons (eBin dIx (eVar 3) (eC (.int 0))) (sCons (eC (.int 8)) sNil))) (sCons (eTup (sCons (eUn uNeg (eC (.int 1))) (sCons (eBin dIx (eVar 3) (eC (.int 1))) sNil))) (sCons (eCall fList (sCons (eVar 3) sNil)) (sCons (eBin dAdd (eVar 3) (eTup (sCons (eC (.int 0)) sNil))) (sCons (eC .non) sNil))))))) (gN 6) sYes (eBin dAdd (eBin dAdd (eSl (eVar 1) oNone (oSome (eVar 2))) (eTup (sCons (eVar 6) sNil))) (eSl (eVar 1) (oSome (eBin dAdd (eVar 2) (eC (.int 1)))) oNone)) [6]))
  (sSeq (sSet true 5 (eBin dAdd (ePeek 5) (eLst (sCons (eUn dBack (eVar 1)) (sCons (eBin dAdd (eVar 1) (eSl (eVar 1) (oSome (eUn uNeg (eC (.int 1)))) oNone)) (sCons (eCall fList (sCons (eVar 1) sNil)) (sCons (eC .non) (sCons (eC (.int 5)) (sCons (eC (.str "plan")) (sCons (eC (.dct [])) (sCons (eTup (sCons (eC (.int 0)) (sCons (eC (.int 1)) sNil))) sNil)))))))))))
  (sSeq (sExprM (eMeth 5 hAppend (mCons (mPure (eCall fTuple (sCons (eCall fSorted (sCons (eBin dAdd (eBin dAdd (eSl (eVar 1) oNone (oSome (eVar 2))) (eSl (eVar 1) (oSome (eBin dAdd (eVar 2) (eC (.int 1)))) oNone)) (eTup (sCons (eTup (sCons (eBin dIx (eVar 3) (eC (.int 0))) (sCons (eBin dIx (eVar 4) (eC (.int 1))) sNil))) sNil))) sNil)) sNil))) mNil)))
  (sRet (eCallF f__law_pick (sCons (eVar 0) (sCons (eBin dAdd (ePeek 5) (eLst (sCons (eBin dAdd (eBin dAdd (eSl (eVar 1) oNone (oSome (eVar 2))) (eTup (sCons (eCallF f__law_bool_pair (sCons (eVar 0) (sCons (eVar 3) sNil))) sNil))) (eSl (eVar 1) (oSome (eBin dAdd (eVar 2) (eC (.int 1)))) oNone)) sNil))) sNil))))))))))
def f__law_bad_plan : List D → M D := fnB t__law_bad_plan 7
def t__law_bad_book : Ss :=
  (sSeq (sSet false 1 (eCallF f__law_book (sCons (eVar 0) (sCons (eC (.int 6)) sNil))))
  (sSeq (sPar false false 2 3 (eCallF f__law_draw (sCons (eVar 0) (sCons (eCall fLen (sCons (eVar 1) sNil)) sNil))) (eCallF f__law_bad_plan (sCons (eVar 0) sNil)))
  (sSeq (sSet false 4 (eLst (sCons (eBin dAdd (eBin dAdd (eSl (eVar 1) oNone (oSome (eVar 2))) (eTup (sCons (eVar 3) sNil))) (eSl (eVar 1) (oSome (eBin dAdd (eVar 2) (eC (.int 1)))) oNone)) (sCons (eBin dAdd (eBin dAdd (eSl (eVar 1) oNone (oSome (eVar 2))) (eTup (sCons (eVar 3) sNil))) (eSl (eVar 1) (oSome (eBin dAdd (eVar 2) (eC (.int 1)))) oNone)) (sCons (eCall fList (sCons (eVar 1) sNil)) (sCons (eTup sNil) (sCons (eC .non) (sCons (eC (.int 5)) (sCons (eC (.dct [])) (sCons (eVar 3) sNil))))))))))
  (sRet (eCallF f__law_pick (sCons (eVar 0) (sCons (eLc (sItems (eBin dAdd (eVar 4) (eLst (sCons (eBin dMul (eTup (sCons (eTup sNil) sNil)) (eC (.int 17))) sNil)))) (gN 5) (bNot (eTr (eCallF f__law_is_book (sCons (eVar 5) sNil)))) (eVar 5) [5]) sNil)))))))
def f__law_bad_book : List D → M D := fnB t__law_bad_book 6
def t_need_book : Ss :=
  (sIf (bNot (eTr (eCallF f_books_right (sCons (eVar 0) sNil))))
  (sRaise "BadBook")
  (fun ρ => M.pure (.nx ρ)))
def f_need_book : List D → M D := fnB t_need_book 1
def t_sure : Ss :=
  (sSeq (sExpr (eCallF f_need_book (sCons (eVar 0) sNil)))
  (sRet (eCallF f_sure_of (sCons (eVar 0) sNil))))
def f_sure : List D → M D := fnB t_sure 1
def t_is_plan : Ss :=
  (sRet (eCallF f_plans_right (sCons (eVar 0) sNil)))
def f_is_plan : List D → M D := fnB t_is_plan 1
def t_is_book : Ss :=
  (sRet (eCallF f_books_right (sCons (eVar 0) sNil)))
def f_is_book : List D → M D := fnB t_is_book 1
def t__law_odd : Ss :=
  (sRet (eCallF f__law_pick (sCons (eVar 0) (sCons (eLst (sCons (eC .non) (sCons (eC (.bl true)) (sCons (eC (.bl false)) (sCons (eC (.str "0")) (sCons (eC (.str "")) (sCons (eLst sNil) (sCons (eC (.dct [])) (sCons (eTup (sCons (eC .non) sNil)) (sCons (eTup (sCons (eC (.str "a")) (sCons (eC (.int 1)) sNil))) (sCons (eLst (sCons (eLst (sCons (eC (.int 0)) sNil)) sNil)) (sCons (eDct [((eC (.int 0)), (eC (.int 0)))]) (sCons (eTup (sCons (eC (.bl true)) sNil)) (sCons (eC (.int 5)) (sCons (eUn uNeg (eC (.int 1))) sNil))))))))))))))) sNil))))
def f__law_odd : List D → M D := fnB t__law_odd 1
def t_need_plan : Ss :=
  (sIf (bNot (eTr (eCallF f_plans_right (sCons (eVar 0) sNil))))
  (sRaise "BadPlan")
  (fun ρ => M.pure (.nx ρ)))
def f_need_plan : List D → M D := fnB t_need_plan 1
def t_persons_in : Ss :=
  (sRet (eCall fTuple (sCons (eLc (sItems (eVar 0)) (gN 1) sYes (eBin dIx (eVar 1) (eC (.int 0))) [1]) sNil)))
def f_persons_in : List D → M D := fnB t_persons_in 2
def t_desks_in : Ss :=
  (sRet (eCall fTuple (sCons (eCall fSorted (sCons (eLc (sItems (eVar 0)) (gN 1) sYes (eBin dIx (eVar 1) (eC (.int 1))) [1]) sNil)) sNil)))
def f_desks_in : List D → M D := fnB t_desks_in 2
def t_turned_plan : Ss :=
  (sRet (eCall fTuple (sCons (eCall fSorted (sCons (eLc (sItems (eVar 0)) (gN 1) sYes (eTup (sCons (eBin dIx (eVar 1) (eC (.int 1))) (sCons (eBin dIx (eVar 1) (eC (.int 0))) sNil))) [1]) sNil)) sNil)))
def f_turned_plan : List D → M D := fnB t_turned_plan 2
def t_persons_of : Ss :=
  (sSeq (sExpr (eCallF f_need_plan (sCons (eVar 0) sNil)))
  (sRet (eCallF f_persons_in (sCons (eVar 0) sNil))))
def f_persons_of : List D → M D := fnB t_persons_of 1
def t_desks_of : Ss :=
  (sSeq (sExpr (eCallF f_need_plan (sCons (eVar 0) sNil)))
  (sRet (eCallF f_desks_in (sCons (eVar 0) sNil))))
def f_desks_of : List D → M D := fnB t_desks_of 1
def t_turned : Ss :=
  (sSeq (sExpr (eCallF f_need_plan (sCons (eVar 0) sNil)))
  (sRet (eCallF f_turned_plan (sCons (eVar 0) sNil))))
def f_turned : List D → M D := fnB t_turned 1
def t_met : Ss :=
  (sSeq (sExpr (eCallF f_need_plan (sCons (eVar 0) sNil)))
  (sSeq (sExpr (eCallF f_need_plan (sCons (eVar 1) sNil)))
  (sRet (eCall fTuple (sCons (eLc (sItems (eVar 0)) (gN 2) (eTr (eBin dIn (eVar 2) (eVar 1))) (eVar 2) [2]) sNil)))))
def f_met : List D → M D := fnB t_met 3
def t_picks_right : Ss :=
  (sSeq (sIf (bOr (bNot (eTr (eCall isi0 (sCons (eVar 1) (sCons (eC (.ty "dict")) sNil))))) (bNot (eTr (eCall fAll (sCons (eLc (sItems (eVar 1)) (gN 2) sYes (eCallF f_is_between (sCons (eVar 2) (sCons (eC (.int 0)) (sCons (eBin dSub (eCall fLen (sCons (eVar 0) sNil)) (eC (.int 1))) sNil)))) [2]) sNil)))))
  (sRet (eC (.bl false)))
  (fun ρ => M.pure (.nx ρ)))
  (sSeq (sIf (bNot (eTr (eCall fAll (sCons (eLc (sItems (eVar 1)) (gN 2) sYes (eAnd (eTr (eCallF f_is_pair (sCons (eBin dIx (eVar 1) (eVar 2)) sNil))) (eBin dIn (eBin dIx (eVar 1) (eVar 2)) (eBin dIx (eVar 0) (eVar 2)))) [2]) sNil))))
  (sRet (eC (.bl false)))
  (fun ρ => M.pure (.nx ρ)))
  (sRet (eCallF f_are_apart (sCons (eLc (sItems (eVar 1)) (gN 2) sYes (eBin dIx (eVar 1) (eVar 2)) [2]) sNil)))))
def f_picks_right : List D → M D := fnB t_picks_right 3
def t_is_pick : Ss :=
  (sSeq (sExpr (eCallF f_need_book (sCons (eVar 0) sNil)))
  (sRet (eCallF f_picks_right (sCons (eVar 0) (sCons (eVar 1) sNil)))))
def f_is_pick : List D → M D := fnB t_is_pick 2
def t__law_rising_pick : Ss :=
  (sRet (eCall fDict (sCons (eLc (sItems (eCall fSortedD (sCons (eVar 0) sNil))) (gN 1) sYes (eTup (sCons (eVar 1) (sCons (eBin dIx (eVar 0) (eVar 1)) sNil))) [1]) sNil)))
def f__law_rising_pick : List D → M D := fnB t__law_rising_pick 2
def t__law_is_pick : Ss :=
  (sSeq (sIf (bOr (bNot (eTr (eCall isi0 (sCons (eVar 1) (sCons (eC (.ty "dict")) sNil))))) (eTr (eBin dNe (eLc (sItems (eVar 1)) (gN 2) (bNot (eTr (eCallF f__law_is_below (sCons (eVar 2) (sCons (eCall fLen (sCons (eVar 0) sNil)) sNil))))) (eC (.int 1)) [2]) (eLst sNil))))
  (sRet (eC (.bl false)))
  (fun ρ => M.pure (.nx ρ)))
  (sSeq (sIf (eTr (eBin dNe (eLc (sItems (eVar 1)) (gN 2) (bOr (bNot (eTr (eCallF f__law_is_pair (sCons (eBin dIx (eVar 1) (eVar 2)) sNil)))) (eTr (eBin dNotIn (eBin dIx (eVar 1) (eVar 2)) (eBin dIx (eVar 0) (eVar 2))))) (eC (.int 1)) [2]) (eLst sNil)))
  (sRet (eC (.bl false)))
  (fun ρ => M.pure (.nx ρ)))
  (sRet (eCallF f__law_are_apart (sCons (eLc (sItems (eVar 1)) (gN 2) sYes (eBin dIx (eVar 1) (eVar 2)) [2]) sNil)))))
def f__law_is_pick : List D → M D := fnB t__law_is_pick 3
def t__law_bad_pick : Ss :=
  (sSeq (sSet false 3 (eCallF f__law_draw (sCons (eVar 0) (sCons (eCall fLen (sCons (eVar 1) sNil)) sNil))))
  (sSeq (sSet true 4 (eLst (sCons (eC .non) (sCons (eC (.int 5)) (sCons (eCall fListD (sCons (eVar 2) sNil)) (sCons (eDct [((eCall fLen (sCons (eVar 1) sNil)), (eTup (sCons (eC (.int 0)) (sCons (eC (.int 0)) sNil))))]) (sCons (eDct [((eUn uNeg (eC (.int 1))), (eTup (sCons (eC (.int 0)) (sCons (eC (.int 0)) sNil))))]) (sCons (eDct [((eVar 3), (eC .non))]) (sCons (eDct [((eVar 3), (eTup (sCons (eC (.int 8)) (sCons (eC (.int 0)) sNil))))]) (sCons (eDct [((eC (.str "0")), (eTup (sCons (eC (.int 0)) (sCons (eC (.int 0)) sNil))))]) (sCons (eDct [((eC .non), (eTup (sCons (eC (.int 0)) (sCons (eC (.int 0)) sNil))))]) (sCons (eC (.str "pick")) sNil))))))))))))
  (sSeq (sFor (sItems (eVar 2)) (gN 5)
  (sSeq (sSet true 4 (eBin dAdd (ePeek 4) (eLst (sCons (eDct [((eVar 5), (eCall fList (sCons (eBin dIx (eVar 2) (eVar 5)) sNil)))]) (sCons (eDct [((eVar 5), (eCallF f__law_bool_pair (sCons (eVar 0) (sCons (eBin dIx (eVar 2) (eVar 5)) sNil))))]) (sCons (eIf (eTr (eBin dLt (eVar 5) (eC (.int 2)))) (eDct [((eBin dEq (eVar 5) (eC (.int 1))), (eBin dIx (eVar 2) (eVar 5)))]) (eC .non)) sNil))))))
  (sExprM (eMeth 4 hAppend (mCons (mPure (eIf (eTr (eBin dEq (eCall fLen (sCons (eBin dIx (eVar 1) (eVar 5)) sNil)) (eC (.int 1)))) (eDct [((eVar 5), (eTup (sCons (eBin dIx (eBin dIx (eVar 2) (eVar 5)) (eC (.int 0))) (sCons (eBin dMod (eCall fInt (sCons (eBin dAdd (eBin dIx (eBin dIx (eVar 2) (eVar 5)) (eC (.int 1))) (eC (.int 1))) sNil)) (eC (.int 8))) sNil))))]) (eC .non))) mNil)))))
  (sSeq (sFor (sZipR (eCall fLen (sCons (eVar 1) sNil)) (eC (.int 1)) (eCall fLen (sCons (eVar 1) sNil))) (gT (gCs (gN 6) (gCs (gN 5) gNl)))
  (sSet true 4 (eBin dAdd (ePeek 4) (eLc (sItems (eBin dIx (eVar 1) (eVar 6))) (gN 7) (eTr (eBin dIn (eVar 7) (eBin dIx (eVar 1) (eVar 5)))) (eDct [((eVar 6), (eVar 7)), ((eVar 5), (eVar 7))]) [7]))))
  (sRet (eCallF f__law_pick (sCons (eVar 0) (sCons (eLc (sItems (ePeek 4)) (gN 8) (bNot (eTr (eCallF f__law_is_pick (sCons (eVar 1) (sCons (eVar 8) sNil))))) (eVar 8) [8]) sNil))))))))
def f__law_bad_pick : List D → M D := fnB t__law_bad_pick 9
def t__law_pick_drawn : Ss :=
  (sSeq (sPar true false 2 3 (eC (.dct [])) (eIf (eTr (eBin dGt (eCallF f__law_draw (sCons (eVar 0) (sCons (eC (.int 3)) sNil))) (eC (.int 0)))) (eCall fLen (sCons (eVar 1) sNil)) (eCallF f__law_draw (sCons (eVar 0) (sCons (eBin dAdd (eCall fLen (sCons (eVar 1) sNil)) (eC (.int 1))) sNil)))))
  (sSeq (sFor (sItems (eCallF f__law_mixed (sCons (eVar 0) (sCons (eLstRg (eRg1 (eCall fLen (sCons (eVar 1) sNil)))) sNil)))) (gN 4)
  (sSeq (sSet false 5 (eLc (sItems (eBin dIx (eVar 1) (eVar 4))) (gN 6) (eTr (eCallF f__law_are_apart (sCons (eBin dAdd (eLc (sItems (ePeek 2)) (gN 7) sYes (eBin dIx (ePeek 2) (eVar 7)) [7]) (eLst (sCons (eVar 6) sNil))) sNil))) (eVar 6) [6]))
  (sIf (bAnd (eTr (eBin dNe (eVar 5) (eLst sNil))) (eTr (eBin dLt (eCall fLen (sCons (ePeek 2) sNil)) (eVar 3))))
  (sSetU 2 (eVar 4) (eCallF f__law_pick (sCons (eVar 0) (sCons (eVar 5) sNil))))
  (fun ρ => M.pure (.nx ρ)))))
  (sFrz [2] (sRet (eVar 2)))))
def f__law_pick_drawn : List D → M D := fnB t__law_pick_drawn 8
end SH
set_option Elab.async false
set_option linter.all false
set_option maxRecDepth 100000
set_option maxHeartbeats 2000000
/-! What the defs that many laws share come to: numbers, pairs, plans, books. -/
open PySem PySem.Spec PyProof.Rows L2 DL
local macro_rules | `(tactic| walk_at "len") => `(tactic| first | with_unfolding_all decide | omega | (simp only [List.length_cons, List.length_nil, List.length_map, List.length_append]; omega))
local macro_rules | `(tactic| walk_at "w1") => `(tactic| with_reducible first
  | refine w_seq ?_ | refine w_if ?_ | refine w_ret ?_ | refine w_set ?_ | refine w_skip ?_ | refine w_T ?_ | refine w_F ?_ | refine w_tr ?_ | refine w_trp ?_ | refine w_callF ?_ | refine w_call ?_ | refine w_cons ?_ | refine w_nil ?_ | refine w_c ?_
  | refine w_var (by with_unfolding_all exact rfl) ?_ | refine w_peek (by with_unfolding_all exact rfl) ?_ | refine w_bin ?_ | refine w_bAnd ?_ | refine w_bOr ?_ | refine w_bNot ?_ | refine w_and ?_ | refine w_or ?_ | refine w_not ?_ | refine w_un ?_ | refine w_inp ?_
  | refine w_chain ?_ | refine w_ife ?_ | refine w_bo ?_ | refine w_expr ?_ | refine w_oNone ?_ | refine w_oSome ?_ | refine w_sl ?_ | refine w_items ?_ | refine w_sqL ?_ | refine w_sqT ?_ | refine w_eDct ?_ | refine w_prsC ?_ | refine w_prsN ?_ | refine w_eDc ?_ | refine w_itL ?_ | refine w_itT ?_ | refine w_itD ?_ | refine w_setO ?_ | refine w_par ?_ | refine w_asg ?_
  | refine w_addI ?_ | refine w_subI ?_ | refine w_ltI ?_ | refine w_leI ?_ | refine w_gtI ?_ | refine w_geI ?_ | refine w_eqI ?_ | refine w_neI ?_ | refine w_negI ?_ | refine w_lenT ?_ | refine w_lenL ?_ | refine w_lenD ?_ | refine w_lenR ?_
  | refine w_tupL ?_ | refine w_tupT ?_ | refine w_lstL ?_ | refine w_lstT ?_ | refine w_cutT ?_ | refine w_cutL ?_ | refine w_backT ?_ | refine w_backL ?_ | refine w_zipL ?_ | refine w_zipR ?_ | refine w_min2 ?_ | refine w_max2 ?_ | refine w_ix0 ?_ | refine w_ix1 ?_ | refine w_ix0L ?_ | refine w_ix1L ?_ | refine w_int ?_
  | refine w_methE (by with_unfolding_all exact rfl) ?_ | refine op_own (by with_unfolding_all exact rfl) ?_ | refine w_mPure ?_ | refine w_mNil ?_ | refine w_mCons ?_ | refine w_exprM ?_ | refine w_setM ?_ | refine w_frz ?_ | refine w_par3 ?_ | refine w_callK ?_ | refine w_enum ?_ | refine w_eInt ?_ | refine w_rg1 ?_ | refine w_rg2 ?_ | refine w_raise ?_ | refine w_lc ?_ | refine w_lstRg ?_ | refine w_tupRg ?_ | refine w_lst ?_ | refine w_tup ?_ | refine w_range1 ?_ | refine w_range2 ?_ | refine And.intro (by walk_at "len") ?_)
local macro_rules | `(tactic| walk_at "w2") => `(tactic| first | walk_at "w1" | with_reducible refine w_iteT (by with_unfolding_all exact rfl) ?_ | with_reducible refine w_iteF (by with_unfolding_all exact rfl) ?_ | dsimp only)
local macro_rules | `(tactic| walk_at "w") => `(tactic| repeat walk_at "w2")
namespace SH
section
variable {g : G} {P : D → G → Prop} {E : XE} {d : D}
/-- a number from lo to hi -/
def btw (d : D) (lo hi : Int) : Bool := match d with
  | .int i => decide (lo ≤ i) && decide (i ≤ hi)
  | _ => false
theorem is_between {lo hi : Int} (h : plain d) (k : P (.bl (btw d lo hi)) g) : (f_is_between [d, .int lo, .int hi] g).all P E := by
  refine w_fn ?_
  unfold t_is_between
  walk_at "w"
  refine w_isiInt h ?_
  cases d <;> first | exact k | skip
  rename_i i
  walk_at "w"
  refine w_isiBl h ?_
  walk_at "w"
  change P (.bl (decide (lo ≤ i) && decide (i ≤ hi))) g at k
  refine w_dec (fun h1 => ?_) fun h1 => ?_
  · walk_at "w"
    rw [decide_eq_true h1] at k
    exact k
  · rw [decide_eq_false h1] at k
    exact k
/-- a pair -/
def toPr (d : D) : Option Pr := match d with
  | .tup [.int a, .int b] => if 0 ≤ a ∧ a ≤ 7 ∧ 0 ≤ b ∧ b ≤ 7 then some (a, b) else none
  | _ => none
theorem toPr_some {d : D} {p : Pr} (h : toPr d = some p) : d = pr p ∧ 0 ≤ p.1 ∧ p.1 ≤ 7 ∧ 0 ≤ p.2 ∧ p.2 ≤ 7 := by
  unfold toPr at h
  split at h
  · obtain ⟨h1, h2⟩ := opt_if h
    subst h2
    exact ⟨rfl, h1⟩
  · cases h
theorem toPr_pr {p : Pr} (h : 0 ≤ p.1 ∧ p.1 ≤ 7 ∧ 0 ≤ p.2 ∧ p.2 ≤ 7) : toPr (pr p) = some p := by
  show (if 0 ≤ p.1 ∧ p.1 ≤ 7 ∧ 0 ≤ p.2 ∧ p.2 ≤ 7 then some (p.1, p.2) else none) = _
  rw [if_pos h]
theorem toPr_two (x y : D) : (toPr (.tup [x, y])).isSome = (btw x 0 7 && btw y 0 7) := by
  unfold toPr
  split
  · rename_i a b e
    cases e
    simp only [btw]
    split <;> simp_all
  · rename_i h
    cases x <;> cases y <;> first | rfl | (exfalso; exact h _ _ rfl) | simp [btw]
theorem toPr_len {l : List D} (h : l.length ≠ 2) : toPr (.tup l) = none := by
  unfold toPr
  split
  · rename_i a b e
    cases e
    exact absurd rfl h
  · rfl
theorem is_pair {n : Nat} (h : Ok n d) (k : P (.bl (toPr d).isSome) g) : (f_is_pair [d] g).all P E := by
  refine w_fn ?_
  unfold t_is_pair
  walk_at "w"
  refine w_isiTup h.plain ?_
  cases d <;> first | exact k | skip
  rename_i l
  walk_at "w"
  obtain ⟨hl, hx⟩ := h.items
  refine w_ndec (fun h1 => ?_) fun h1 => ?_
  · rw [toPr_len (fun w => h1 (by rw [w]; rfl))] at k
    walk_at "w"
    exact k
  · have h1 : l.length = 2 := by omega
    match l, h1, hx, k with
    | [x, y], _, hx, k =>
    rw [toPr_two] at k
    walk_at "w"
    refine is_between (hx x (by simp)) ?_
    walk_at "w"
    refine w_b (fun h2 => ?_) fun h2 => ?_
    · walk_at "w"
      refine is_between (hx y (by simp)) ?_
      rw [h2] at k
      exact k
    · rw [h2] at k
      exact k
theorem unlikeL_all {ns : List Int} : (unlikeL ns).length = ns.length ↔ ns.Nodup := by
  have key : ∀ (l acc : List Int), acc.Nodup → ((l.foldl addNew acc).length = acc.length + l.length ↔ (acc ++ l).Nodup) := by
    intro l
    induction l with
    | nil => intro acc h; simp [h]
    | cons k l ih =>
      intro acc h
      rw [List.foldl_cons]
      have hb : ∀ (l acc : List Int), (l.foldl addNew acc).length ≤ acc.length + l.length := by
        intro l
        induction l with
        | nil => intro acc; simp
        | cons k l ih =>
          intro acc
          rw [List.foldl_cons, List.length_cons]
          refine Nat.le_trans (ih _) ?_
          rw [len_addNew]
          split <;> omega
      by_cases hk : k ∈ acc
      · have e : addNew acc k = acc := by unfold addNew; rw [if_pos hk]
        rw [e]
        constructor
        · intro q
          have := hb l acc
          rw [List.length_cons] at q
          omega
        · intro q
          exact absurd rfl ((List.nodup_append.mp q).2.2 k hk k List.mem_cons_self)
      · have e : addNew acc k = acc ++ [k] := by unfold addNew; rw [if_neg hk]
        rw [e, show acc ++ k :: l = (acc ++ [k]) ++ l by simp, ← ih (acc ++ [k]) (by rw [← e]; exact addNew_nodup h)]
        rw [List.length_append, List.length_cons, List.length_cons, List.length_nil]
        constructor <;> intro q <;> omega
  have := key ns [] List.nodup_nil
  simpa [unlikeL] using this
theorem unlike_eq (ns : List Int) : unlike ns = unlikeL ns := by
  have key : ∀ i, i ≤ ns.length → firstMet (fun i => ns.getD i 0) i = unlikeL (ns.take i) := by
    intro i
    induction i with
    | zero => intro _; rfl
    | succ i ih =>
      intro hi
      rw [firstMet_succ, ih (by omega), List.take_succ, List.getElem?_eq_getElem (by omega)]
      show _ = unlikeL (ns.take i ++ [ns[i]])
      rw [unlikeL_snoc]
      have e : ns.getD i 0 = ns[i] := by rw [List.getD_eq_getElem?_getD, List.getElem?_eq_getElem (by omega)]; rfl
      rw [e]
      unfold addNew step_dedup
      split <;> split <;> simp_all
  have := key ns.length (Nat.le_refl _)
  rw [List.take_length] at this
  exact this
/-- persons and desks unlike -/
def apart (ps : Pl) : Bool := decide (ps.map (·.1)).Nodup && decide (ps.map (·.2)).Nodup
theorem intsOf_map' {α : Type} (f : α → Int) (l : List α) : intsOf (l.map fun x => D.int (f x)) = some (l.map f) := by
  have e : (l.map fun x => D.int (f x)) = (l.map f).map D.int := by rw [List.map_map]; rfl
  rw [e, intsOf_map]
theorem are_apart {ps : Pl} {q : D} (hq : q = pl ps ∨ q = .lst (ps.map pr)) (hl : ps.length ≤ 1000) (k : P (.bl (apart ps)) g) : (f_are_apart [q] g).all P E := by
  have len1 : ∀ {g : G} {T : List D → G → Prop} {ρ : DL.Env}, ρ[0]? = some (some (false, q)) → T (ps.map pr) g → (sItems (eVar 0) ρ g).all T E := fun e h => by
    refine w_items (w_var e ?_)
    rcases hq with rfl | rfl <;> exact h
  have len2 : ∀ {g : G} {T : D → G → Prop}, T (.int ps.length) g → OpP (fLen [q]) T g := fun h => by
    rcases hq with rfl | rfl
    · exact w_lenT (by rw [List.length_map]; exact h)
    · exact w_lenL (by rw [List.length_map]; exact h)
  refine w_fn ?_
  unfold t_are_apart
  walk_at "w"
  refine w_scI (len1 rfl ⟨by rw [List.length_map]; exact hl, ?_⟩)
  refine w_lcT (fun p => .int p.1) (fun p _ => ⟨_, rfl, ?_⟩) ?_
  · walk_at "w"
    exact ⟨rfl, rfl⟩
  refine op_some (intsOf_map' (fun p => p.1) ps) ?_
  walk_at "w"
  refine w_scI (len1 rfl ⟨by rw [List.length_map]; exact hl, ?_⟩)
  refine w_lcT (fun p => .int p.2) (fun p _ => ⟨_, rfl, ?_⟩) ?_
  · walk_at "w"
    exact ⟨rfl, rfl⟩
  refine op_some (intsOf_map' (fun p => p.2) ps) ?_
  have l1 := unlikeL_len (ps.map (·.1))
  have l2 := unlikeL_len (ps.map (·.2))
  rw [List.length_map] at l1 l2
  walk_at "w"
  refine w_lenS (by rw [List.length_map]; omega) ?_
  walk_at "w"
  refine len2 ?_
  walk_at "w"
  have e1 : ((((unlikeL (ps.map (·.1))).map D.int).length : Nat) : Int) = (ps.length : Int) ↔ (ps.map (·.1)).Nodup := by
    rw [List.length_map, ← unlikeL_all, List.length_map]
    omega
  have e2 : ((((unlikeL (ps.map (·.2))).map D.int).length : Nat) : Int) = (ps.length : Int) ↔ (ps.map (·.2)).Nodup := by
    rw [List.length_map, ← unlikeL_all, List.length_map]
    omega
  refine w_dec (fun h => ?_) fun h => ?_
  · walk_at "w"
    refine w_lenS (by rw [List.length_map]; omega) ?_
    walk_at "w"
    refine len2 ?_
    walk_at "w"
    have : apart ps = decide (((((unlikeL (ps.map (·.2))).map D.int).length : Nat) : Int) = (ps.length : Int)) := by
      unfold apart
      rw [decide_eq_true (e1.mp h), Bool.true_and]
      exact decide_eq_decide.mpr e2.symm
    rw [← this]
    exact k
  · have : apart ps = false := by
      unfold apart
      rw [decide_eq_false (fun w => h (e1.mpr w)), Bool.false_and]
    rw [this] at k
    exact k
/-- a plan -/
def toPl : List D → Option Pl
  | [] => some []
  | d :: l => match toPr d, toPl l with
    | some p, some ps => some (p :: ps)
    | _, _ => none
theorem toPl_some : ∀ {l : List D} {ps : Pl}, toPl l = some ps → l = ps.map pr ∧ ∀ p ∈ ps, 0 ≤ p.1 ∧ p.1 ≤ 7 ∧ 0 ≤ p.2 ∧ p.2 ≤ 7
  | [], ps, h => by cases h; exact ⟨rfl, fun _ h => nomatch h⟩
  | d :: l, ps, h => by
    unfold toPl at h
    split at h
    · rename_i p ps' h1 h2
      cases h
      obtain ⟨rfl, hp⟩ := toPr_some h1
      obtain ⟨rfl, hps⟩ := toPl_some h2
      refine ⟨rfl, fun q hq => ?_⟩
      rcases List.mem_cons.mp hq with rfl | hq
      · exact hp
      · exact hps q hq
    · cases h
theorem toPl_map : ∀ {ps : Pl}, (∀ p ∈ ps, 0 ≤ p.1 ∧ p.1 ≤ 7 ∧ 0 ≤ p.2 ∧ p.2 ≤ 7) → toPl (ps.map pr) = some ps
  | [], _ => rfl
  | p :: ps, h => by
    rw [List.map_cons, toPl, toPr_pr (h p List.mem_cons_self), toPl_map fun q hq => h q (List.mem_cons_of_mem _ hq)]
theorem toPl_all : ∀ (l : List D), (toPl l).isSome = l.all fun d => (toPr d).isSome
  | [] => rfl
  | d :: l => by
    rw [toPl, List.all_cons, ← toPl_all l]
    cases toPr d <;> cases toPl l <;> rfl
def planB (d : D) : Bool := match d with
  | .tup l => match toPl l with
    | some ps => decide (ps = sortP ps) && apart ps
    | none => false
  | _ => false
theorem plans_right (h : Ok 3 d) (k : P (.bl (planB d)) g) : (f_plans_right [d] g).all P E := by
  refine w_fn ?_
  unfold t_plans_right
  walk_at "w"
  refine w_isiTup h.plain ?_
  cases d <;> first | exact k | skip
  rename_i l
  cases h with | tup hl hx =>
  walk_at "w"
  refine w_lcM (fun d => .bl (toPr d).isSome) (fun d hd => ⟨_, rfl, ?_⟩) ?_
  · walk_at "w"
    exact is_pair (hx d hd) ⟨rfl, rfl⟩
  have e : (blsOf (l.map fun d => D.bl (toPr d).isSome)).map (fun bs => D.bl (bs.all id)) = some (.bl (toPl l).isSome) := by
    have e2 : (l.map fun d => D.bl (toPr d).isSome) = (l.map fun d => (toPr d).isSome).map D.bl := by rw [List.map_map]; rfl
    rw [e2, blsOf_map, toPl_all]
    show some (D.bl ((l.map fun d => (toPr d).isSome).all id)) = _
    rw [List.all_map]
    rfl
  walk_at "w"
  refine op_some (show fAll [.lst (l.map fun d => D.bl (toPr d).isSome)] = _ from e) ?_
  walk_at "w"
  change P (.bl (match toPl l with | some ps => decide (ps = sortP ps) && apart ps | none => false)) g at k
  cases q : toPl l with
  | none =>
    rw [q] at k
    walk_at "w"
    exact k
  | some ps =>
    rw [q] at k
    change P (.bl (decide (ps = sortP ps) && apart ps)) g at k
    obtain ⟨rfl, hb⟩ := toPl_some q
    rw [List.length_map] at hl
    walk_at "w"
    refine w_sortPT hl ?_
    walk_at "w"
    refine op_some (eq_prs _ _) ?_
    walk_at "w"
    refine w_b (fun h1 => ?_) fun h1 => ?_
    · walk_at "w"
      refine are_apart (.inl rfl) hl ?_
      rw [h1, Bool.true_and] at k
      exact k
    · rw [h1, Bool.false_and] at k
      exact k
end
end SH
set_option Elab.async false
set_option linter.all false
set_option maxRecDepth 100000
set_option maxHeartbeats 2000000
/-! What the defs that many laws share come to: books; the laws' own reading of them. -/
open PySem PySem.Spec PyProof.Rows L2 DL
namespace SH
section
variable {g : G} {P : D → G → Prop} {E : XE} {d : D}
theorem all_bls {α : Type} (B : α → Bool) (l : List α) : fAll [.lst (l.map fun d => D.bl (B d))] = some (.bl (l.all B)) := by
  have e2 : (l.map fun d => D.bl (B d)) = (l.map B).map D.bl := by rw [List.map_map]; rfl
  show (blsOf (l.map fun d => D.bl (B d))).map (fun bs => D.bl (bs.all id)) = _
  rw [e2, blsOf_map]
  show some (D.bl ((l.map B).all id)) = _
  rw [List.all_map]
  rfl
def bookB (d : D) : Bool := match d with
  | .tup l => decide (1 ≤ l.length) && decide (l.length ≤ 16) && l.all planB
  | _ => false
theorem books_right (h : Ok 4 d) (k : P (.bl (bookB d)) g) : (f_books_right [d] g).all P E := by
  refine w_fn ?_
  unfold t_books_right
  walk_at "w"
  refine w_isiTup h.plain ?_
  cases d <;> first | exact k | skip
  rename_i l
  cases h with | tup hl hx =>
  walk_at "w"
  change P (.bl (decide (1 ≤ l.length) && decide (l.length ≤ 16) && l.all planB)) g at k
  have main : l.length ≤ 16 → 1 ≤ l.length → (sRet (eCall fAll (sCons (eLc (sItems (eVar 0)) (gN 1) sYes (eCallF f_plans_right (sCons (eVar 1) sNil)) [1]) sNil)) (startE 2 [.tup l]) g).all (FP (fun _ g1 => P .non g1) NE NE P) E := fun h1 h2 => by
    rw [decide_eq_true h1, decide_eq_true h2] at k
    walk_at "w"
    refine w_lcM (fun d => .bl (planB d)) (fun d hd => ⟨_, rfl, ?_⟩) ?_
    · walk_at "w"
      exact plans_right (hx d hd) ⟨rfl, rfl⟩
    · walk_at "w"
      exact op_some (all_bls planB l) k
  refine w_dec (fun h1 => ?_) fun h1 => ?_
  · walk_at "w"
    refine w_ndec (fun h2 => ?_) fun h2 => ?_
    · walk_at "w"
      rw [decide_eq_false (show ¬ l.length ≤ 16 by omega), Bool.and_false, Bool.false_and] at k
      exact k
    · walk_at "w1"
      exact main (by omega) (by omega)
  · walk_at "w"
    rw [decide_eq_false (show ¬ 1 ≤ l.length by omega), Bool.false_and, Bool.false_and] at k
    exact k
/-! ### the laws' own reading -/
theorem law_whole (h : plain d) (k : P (.bl (isInt d)) g) : (f__law_is_whole [d] g).all P E := by
  refine w_fn ?_
  unfold t__law_is_whole
  walk_at "w"
  refine w_isiInt h ?_
  cases d <;> first | exact k | skip
theorem law_below {n : Int} (h : plain d) (k : P (.bl (btw d 0 (n - 1))) g) : (f__law_is_below [d, .int n] g).all P E := by
  refine w_fn ?_
  unfold t__law_is_below
  walk_at "w"
  refine law_whole h ?_
  cases d <;> first | exact k | skip
  rename_i i
  change P (.bl (decide (0 ≤ i) && decide (i ≤ n - 1))) g at k
  walk_at "w"
  have e : decide (i ≤ n - 1) = decide (i < n) := decide_eq_decide.mpr (by omega)
  rw [e] at k
  refine w_dec (fun h1 => ?_) fun h1 => ?_
  · walk_at "w"
    rw [decide_eq_true h1] at k
    exact k
  · rw [decide_eq_false h1] at k
    exact k
theorem law_pair {n : Nat} (h : Ok n d) (k : P (.bl (toPr d).isSome) g) : (f__law_is_pair [d] g).all P E := by
  refine w_fn ?_
  unfold t__law_is_pair
  walk_at "w"
  refine w_isiTup h.plain ?_
  cases d <;> first | exact k | skip
  rename_i l
  walk_at "w"
  obtain ⟨hl, hx⟩ := h.items
  refine w_dec (fun h1 => ?_) fun h1 => ?_
  · have h1 : l.length = 2 := by omega
    match l, h1, hx, k with
    | [x, y], _, hx, k =>
    rw [toPr_two] at k
    walk_at "w"
    refine law_below (hx x (by simp)) ?_
    walk_at "w"
    refine w_b (fun h2 => ?_) fun h2 => ?_
    · walk_at "w"
      refine law_below (hx y (by simp)) ?_
      rw [show btw x 0 7 = true from h2] at k
      exact k
    · rw [show btw x 0 7 = false from h2] at k
      exact k
  · rw [toPr_len (fun w => h1 (by rw [w]; rfl))] at k
    exact k
theorem law_apart {ps : Pl} (hl : ps.length ≤ 1000) {q : D} (hq : q = pl ps ∨ q = .lst (ps.map pr)) (k : P (.bl (apart ps)) g) : (f__law_are_apart [q] g).all P E := by
  have len1 : ∀ {g : G} {T : List D → G → Prop} {ρ : DL.Env}, ρ[0]? = some (some (false, q)) → T (ps.map pr) g → (sItems (eVar 0) ρ g).all T E := fun e h => by
    refine w_items (w_var e ?_)
    rcases hq with rfl | rfl <;> exact h
  have len2 : ∀ {g : G} {T : D → G → Prop}, T (.int ps.length) g → OpP (fLen [q]) T g := fun h => by
    rcases hq with rfl | rfl
    · exact w_lenT (by rw [List.length_map]; exact h)
    · exact w_lenL (by rw [List.length_map]; exact h)
  have un : ∀ (f : Pr → Int) {T : D → G → Prop} {g : G}, T (.int (unlikeL (ps.map f)).length) g → OpP (fUnlike (.lst (ps.map fun p => D.int (f p)))) T g := fun f T g h => by
    refine op_some ?_ h
    unfold fUnlike
    dsimp only
    rw [intsOf_map']
    dsimp only
    rw [if_pos (by rw [List.length_map]; exact hl), unlike_eq]
  refine w_fn ?_
  unfold t__law_are_apart
  walk_at "w1"
  walk_at "w1"
  walk_at "w1"
  walk_at "w1"
  walk_at "w1"
  refine w_lc (len1 rfl ⟨by rw [List.length_map]; exact hl, ?_⟩)
  refine w_lcT (fun p => .int p.1) (fun p _ => ⟨_, rfl, ?_⟩) (un (fun p => p.1) ?_)
  · walk_at "w"
    exact ⟨rfl, rfl⟩
  walk_at "w"
  refine len2 ?_
  walk_at "w"
  have e1 : (((unlikeL (ps.map (·.1))).length : Nat) : Int) = (ps.length : Int) ↔ (ps.map (·.1)).Nodup := by
    rw [← unlikeL_all, List.length_map]
    omega
  have e2 : (((unlikeL (ps.map (·.2))).length : Nat) : Int) = (ps.length : Int) ↔ (ps.map (·.2)).Nodup := by
    rw [← unlikeL_all, List.length_map]
    omega
  refine w_dec (fun h => ?_) fun h => ?_
  · walk_at "w1"
    walk_at "w1"
    refine w_lc (len1 rfl ⟨by rw [List.length_map]; exact hl, ?_⟩)
    refine w_lcT (fun p => .int p.2) (fun p _ => ⟨_, rfl, ?_⟩) (un (fun p => p.2) ?_)
    · walk_at "w"
      exact ⟨rfl, rfl⟩
    walk_at "w"
    refine len2 ?_
    walk_at "w"
    have : apart ps = decide ((((unlikeL (ps.map (·.2))).length : Nat) : Int) = (ps.length : Int)) := by
      unfold apart
      rw [decide_eq_true (e1.mp h), Bool.true_and]
      exact decide_eq_decide.mpr e2.symm
    rw [← this]
    exact k
  · have : apart ps = false := by
      unfold apart
      rw [decide_eq_false (fun w => h (e1.mpr w)), Bool.false_and]
    rw [this] at k
    exact k
theorem ones {α : Type} (B : α → Bool) (l : List α) : dEq (.lst ((l.filter fun d => !B d).map fun _ => D.int 1)) (.lst []) = some (.bl (l.all B)) := by
  have e : ((l.filter fun d => !B d).map fun _ => D.int 1) = ((l.filter fun d => !B d).map fun _ => (1 : Int)).map D.int := by rw [List.map_map]; rfl
  rw [e, show (D.lst [] : D) = .lst (([] : List Int).map D.int) from rfl, eq_ints]
  congr 2
  rw [Bool.eq_iff_iff, decide_eq_true_eq, List.map_eq_nil_iff, List.filter_eq_nil_iff, List.all_eq_true]
  simp
theorem onesN {α : Type} (B : α → Bool) (l : List α) : dNe (.lst ((l.filter fun d => !B d).map fun _ => D.int 1)) (.lst []) = some (.bl (!l.all B)) := by
  have h := ones B l
  unfold dEq at h
  unfold dNe
  cases q : dEqB (.lst ((l.filter fun d => !B d).map fun _ => D.int 1)) (.lst []) with
  | none => rw [q] at h; cases h
  | some c =>
    rw [q] at h
    injection h with h
    injection h with h
    rw [← h]
    rfl
theorem law_plan (h : Ok 3 d) (k : P (.bl (planB d)) g) : (f__law_is_plan [d] g).all P E := by
  refine w_fn ?_
  unfold t__law_is_plan
  walk_at "w"
  refine w_isiTup h.plain ?_
  cases d <;> first | exact k | skip
  rename_i l
  cases h with | tup hl hx =>
  walk_at "w"
  refine w_lcF (fun d => !(toPr d).isSome) (fun _ => .int 1) (fun d hd => ⟨_, rfl, ?_⟩) ?_
  · walk_at "w"
    exact law_pair (hx d hd) ⟨⟨rfl, rfl⟩, fun _ => ⟨rfl, rfl⟩⟩
  walk_at "w"
  refine op_some (onesN (fun d => (toPr d).isSome) l) ?_
  walk_at "w"
  rw [← toPl_all l]
  change P (.bl (match toPl l with | some ps => decide (ps = sortP ps) && apart ps | none => false)) g at k
  cases q : toPl l with
  | none =>
    rw [q] at k
    walk_at "w"
    exact k
  | some ps =>
    rw [q] at k
    change P (.bl (decide (ps = sortP ps) && apart ps)) g at k
    obtain ⟨rfl, hb⟩ := toPl_some q
    rw [List.length_map] at hl
    walk_at "w"
    refine w_sortPT hl ?_
    walk_at "w"
    refine op_some (eq_prs _ _) ?_
    walk_at "w"
    refine w_b (fun h1 => ?_) fun h1 => ?_
    · walk_at "w"
      refine law_apart hl (.inl rfl) ?_
      rw [h1, Bool.true_and] at k
      exact k
    · rw [h1, Bool.false_and] at k
      exact k
theorem law_book (h : Ok 4 d) (k : P (.bl (bookB d)) g) : (f__law_is_book [d] g).all P E := by
  refine w_fn ?_
  unfold t__law_is_book
  walk_at "w"
  refine w_isiTup h.plain ?_
  cases d <;> first | exact k | skip
  rename_i l
  cases h with | tup hl hx =>
  walk_at "w"
  change P (.bl (decide (1 ≤ l.length) && decide (l.length ≤ 16) && l.all planB)) g at k
  refine w_dec (fun h1 => ?_) fun h1 => ?_
  · walk_at "w"
    refine w_ndec (fun h2 => ?_) fun h2 => ?_
    · walk_at "w"
      rw [decide_eq_false (show ¬ l.length ≤ 16 by omega), Bool.and_false, Bool.false_and] at k
      exact k
    · rw [decide_eq_true (show l.length ≤ 16 by omega), decide_eq_true (show 1 ≤ l.length by omega)] at k
      walk_at "w"
      refine w_lcF (fun d => !planB d) (fun _ => .int 1) (fun d hd => ⟨_, rfl, ?_⟩) ?_
      · walk_at "w"
        exact law_plan (hx d hd) ⟨⟨rfl, rfl⟩, fun _ => ⟨rfl, rfl⟩⟩
      · walk_at "w"
        exact op_some (ones planB l) k
  · walk_at "w"
    rw [decide_eq_false (show ¬ 1 ≤ l.length by omega), Bool.false_and, Bool.false_and] at k
    exact k
end
end SH
set_option Elab.async false
set_option linter.all false
set_option maxRecDepth 100000
set_option maxHeartbeats 2000000
/-! What is drawn: numbers, picks, rows mixed, plans. -/
open PySem PySem.Spec PyProof.Rows L2 DL
namespace SH
open DL.Enc (enc)
section
variable {g : G} {P : D → G → Prop} {E : XE} {d : D} {m : Nat}
theorem draw {n : Int} (hG : GI m g) (hm : 1 ≤ m) (h0 : 0 < n) (h1 : n ≤ 1000000) (k : ∀ (r : Nat) g', (r : Int) < n → GI (m - 1) g' → P (.int r) g') : (f__law_draw [.st, .int n] g).all P E := by
  obtain ⟨r, g', e, r0, r1, h⟩ := draw_ok (k := m - 1) h0 (by omega) (by rw [Nat.sub_add_cancel hm]; exact hG)
  obtain ⟨r, rfl⟩ := Int.eq_ofNat_of_zero_le r0
  exact R.all_of e (k r g' r1 h)
theorem pick {l : List D} (hG : GI m g) (hm : 1 ≤ m) (h0 : l ≠ []) (h1 : l.length ≤ 1000) (k : ∀ d g', d ∈ l → GI (m - 1) g' → P d g') : (f__law_pick [.st, .lst l] g).all P E := by
  refine w_fn ?_
  unfold t__law_pick
  walk_at "w"
  have := List.length_pos_iff.mpr h0
  refine draw hG hm (by omega) (by omega) fun r g' hr hG' => ?_
  walk_at "w"
  have hr : r < l.length := by omega
  exact w_ixL (List.getElem?_eq_getElem hr) (k _ g' (List.getElem_mem _) hG')
/-- pick of what xs tells -/
theorem pickE {α : Type} {φ : α → D} {xs : List α} (hG : GI m g) (hm : 1 ≤ m) (h0 : xs ≠ []) (h1 : xs.length ≤ 1000) (k : ∀ x g', x ∈ xs → GI (m - 1) g' → P (φ x) g') : (f__law_pick [.st, .lst (xs.map φ)] g).all P E :=
  pick hG hm (by rw [Ne, List.map_eq_nil_iff]; exact h0) (by rw [List.length_map]; exact h1) fun d g' hd hG' => by
    obtain ⟨x, hx, rfl⟩ := List.mem_map.mp hd
    exact k x g' hx hG'
theorem w_popE {l : List D} {i : Nat} {x : D} {g : G} {T : List D × D → G → Prop} (e : l[i]? = some x) (hl : l.length ≤ 1000) (h : T (l.eraseIdx i, x) g) : OpP (hPop l [.int (i : Int)]) T g := by
  have hi := (List.getElem?_eq_some_iff.mp e).1
  have q : hPop l [.int (i : Int)] = some (l.eraseIdx i, x) := by
    have ix : ixN l.length (i : Int) = some i := by
      unfold ixN
      rw [if_pos (by omega), if_pos (by omega), Int.toNat_natCast]
    simp only [hPop, ix, e]
    rw [if_pos (by omega)]
  rw [q]
  exact h
theorem w_appE {l : List D} {x : D} {g : G} {T : List D × D → G → Prop} (hl : l.length < 1000) (h : T (l ++ [x], .non) g) : OpP (hAppend l [x]) T g := by
  have q : hAppend l [x] = some (l ++ [x], .non) := by
    simp only [hAppend]
    rw [if_pos (Nat.lt_of_lt_of_le hl (line_1000 (Nat.le_refl _)))]
  rw [q]
  exact h
theorem map_eraseIdx {α β : Type} (f : α → β) : ∀ (l : List α) (i : Nat), (l.map f).eraseIdx i = (l.eraseIdx i).map f
  | [], _ => rfl
  | _ :: _, 0 => rfl
  | a :: l, i + 1 => by
    show f a :: (l.map f).eraseIdx i = f a :: (l.eraseIdx i).map f
    rw [map_eraseIdx f l i]
theorem perm_erase {α : Type} : ∀ {l : List α} {i : Nat} {x : α}, l[i]? = some x → (x :: l.eraseIdx i).Perm l
  | [], i, x, h => by simp at h
  | a :: l, 0, x, h => by cases h; exact .refl _
  | a :: l, i + 1, x, h => by
    have h : l[i]? = some x := by simpa using h
    exact (List.Perm.swap a x _).trans ((perm_erase h).cons a)
theorem mixed {α : Type} [DecidableEq α] [Enc α] {xs : List α} {q : D} (hq : q = .lst (xs.map enc) ∨ q = .tup (xs.map enc)) (hd : Enc.dep α ≤ 60) (hl : xs.length ≤ 60) (hG : GI m g) (hm : xs.length ≤ m) (k : ∀ (ys : List α) g', ys.Perm xs → GI (m - xs.length) g' → P (.lst (ys.map enc)) g') : (f__law_mixed [.st, q] g).all P E := by
  refine w_fn ?_
  unfold t__law_mixed
  walk_at "w"
  have lst : ∀ {g : G} {T : D → G → Prop}, T (.lst (xs.map enc)) g → OpP (fList [q]) T g := fun h => by
    rcases hq with rfl | rfl
    · exact w_lstL h
    · exact w_lstT h
  refine lst ?_
  walk_at "w"
  refine w_while (fun n ρ g => ∃ left found : List α, ρ = [some (false, .st), some (false, q), some (true, .lst (left.map enc)), some (true, .lst (found.map enc))] ∧ left.length < n ∧ (found ++ left).Perm xs ∧ GI (m - found.length) g) ⟨xs, [], rfl, by omega, by simp, hG⟩ (fun ρ g ⟨_, _, _, h, _⟩ => by omega) ?_
  rintro n ρ g ⟨left, found, rfl, hn, hp, hG⟩
  have hlen : found.length + left.length = xs.length := by rw [← List.length_append]; exact hp.length_eq
  walk_at "w"
  refine op_some (dNe_enc (α := List α) left [] (by show Enc.dep α + 1 ≤ 64; omega)) ?_
  walk_at "w"
  refine w_ndec (fun hne => ?_) fun he => ?_
  · have hpos := List.length_pos_iff.mpr hne
    walk_at "w"
    refine draw hG (by omega) (by rw [List.length_map]; omega) (by rw [List.length_map]; omega) fun r g' hr hG' => ?_
    rw [List.length_map] at hr
    have hr : r < left.length := by omega
    walk_at "w"
    have e1 : (left.map enc)[r]? = some (enc left[r]) := by rw [List.getElem?_map, List.getElem?_eq_getElem hr]; rfl
    with_reducible refine w_popE e1 (by rw [List.length_map]; omega) ?_
    walk_at "w"
    with_reducible refine w_appE (by rw [List.length_map]; omega) ?_
    refine ⟨left.eraseIdx r, found ++ [left[r]], ?_, ?_, ?_, ?_⟩
    · rw [← map_eraseIdx, List.map_append]
      rfl
    · rw [List.length_eraseIdx, if_pos hr]
      omega
    · refine List.Perm.trans ?_ hp
      rw [List.append_assoc]
      exact List.Perm.append_left _ (perm_erase (List.getElem?_eq_getElem hr))
    · rw [List.length_append]
      exact hG'.mono (by show m - (found.length + 1) ≤ _; omega)
  · subst he
    walk_at "w"
    rw [List.append_nil] at hp
    refine k found g hp (hG.mono ?_)
    have := hp.length_eq
    omega
end
end SH
set_option Elab.async false
set_option linter.all false
set_option maxRecDepth 100000
set_option maxHeartbeats 2000000
/-! Plans that are drawn. -/
open PySem PySem.Spec PyProof.Rows L2 DL
namespace SH
open DL.Enc (enc)
/-- a plan whose persons and desks are below w -/
structure PlanM (w : Int) (ps : Pl) : Prop where
  rng : ∀ p ∈ ps, 0 ≤ p.1 ∧ p.1 < w ∧ 0 ≤ p.2 ∧ p.2 < w
  srt : ps.Pairwise fun a b => a.1 < b.1
  nd : (ps.map (·.2)).Nodup
theorem PlanM.nd1 {w : Int} {ps : Pl} (h : PlanM w ps) : (ps.map (·.1)).Nodup := by
  rw [List.Nodup, List.pairwise_map]
  exact h.srt.imp fun h => by omega
theorem PlanM.mono {w v : Int} {ps : Pl} (h : PlanM w ps) (hv : w ≤ v) : PlanM v ps := ⟨fun p hp => by have := h.rng p hp; omega, h.srt, h.nd⟩
theorem sortP_id {ps : Pl} (h : ps.Pairwise fun a b => leP a b = true) : sortP ps = ps := List.mergeSort_of_pairwise h
theorem PlanM.leP {w : Int} {ps : Pl} (h : PlanM w ps) : ps.Pairwise fun a b => DL.leP a b = true := h.srt.imp fun {a b} h => by
  unfold DL.leP
  rw [decide_eq_true_eq]
  exact .inl h
theorem PlanM.apart {w : Int} {ps : Pl} (h : PlanM w ps) : SH.apart ps = true := by
  unfold SH.apart
  rw [decide_eq_true h.nd1, decide_eq_true h.nd]
  rfl
theorem strict_of {ps : Pl} (h : ps.Pairwise fun a b => leP a b = true) (n : (ps.map (·.1)).Nodup) : ps.Pairwise fun a b => a.1 < b.1 := by
  rw [List.Nodup, List.pairwise_map] at n
  refine (h.and n).imp fun {a b} ⟨h1, h2⟩ => ?_
  unfold leP at h1
  rw [decide_eq_true_eq] at h1
  rcases h1 with h1 | h1
  · exact h1
  · exact absurd h1.1 h2
theorem planB_pl {ps : Pl} (h : PlanM 8 ps) : planB (pl ps) = true := by
  show (match toPl (ps.map pr) with | some ps => decide (ps = sortP ps) && apart ps | none => false) = true
  rw [toPl_map fun p hp => by have := h.rng p hp; omega]
  show (decide (ps = sortP ps) && apart ps) = true
  rw [sortP_id h.leP, h.apart, decide_eq_true rfl]
  rfl
theorem planB_inv {d : D} (h : planB d = true) : ∃ ps, d = pl ps ∧ PlanM 8 ps := by
  unfold planB at h
  split at h
  · rename_i l
    cases q : toPl l with
    | none => rw [q] at h; cases h
    | some ps =>
      rw [q] at h
      obtain ⟨rfl, hb⟩ := toPl_some q
      have h : (decide (ps = sortP ps) && apart ps) = true := h
      rw [Bool.and_eq_true, decide_eq_true_eq] at h
      unfold apart at h
      rw [Bool.and_eq_true, decide_eq_true_eq, decide_eq_true_eq] at h
      obtain ⟨h1, h2, h3⟩ := h
      refine ⟨ps, rfl, fun p hp => by have := hb p hp; omega, strict_of ?_ h2, h3⟩
      rw [h1]
      exact sortP_pair ps
  · cases h
theorem planB_iff {ps : Pl} : planB (pl ps) = true ↔ PlanM 8 ps := by
  refine ⟨fun h => ?_, planB_pl⟩
  obtain ⟨qs, e, hq⟩ := planB_inv h
  have inj : ∀ {a b : Pl}, a.map pr = b.map pr → a = b := by
    intro a
    induction a with
    | nil => intro b h; cases b with | nil => rfl | cons => cases h
    | cons x a ih =>
      intro b h
      cases b with
      | nil => cases h
      | cons y b =>
        rw [List.map_cons, List.map_cons] at h
        injection h with h1 h2
        have e1 : x = y := by
          unfold pr at h1
          injection h1 with h1
          injection h1 with h3 h4
          injection h4 with h4
          injection h3 with h3
          injection h4 with h4
          exact Prod.ext h3 h4
        rw [e1, ih h2]
  have e : ps = qs := inj (by injection e)
  rw [e]
  exact hq
/-- persons unlike and below w: at most w -/
theorem PlanM.len {w : Int} {ps : Pl} (h : PlanM w ps) (hw : 0 ≤ w) : (ps.length : Int) ≤ w := by
  have h1 : ∀ (l : List Int) (lo : Int), l.Pairwise (· < ·) → (∀ x ∈ l, lo ≤ x ∧ x < w) → lo ≤ w → (l.length : Int) ≤ w - lo := by
    intro l
    induction l with
    | nil => intro lo _ _ hl; simp; omega
    | cons a l ih =>
      intro lo hp hr hl
      rw [List.pairwise_cons] at hp
      have ha := hr a List.mem_cons_self
      have := ih (a + 1) hp.2 (fun x hx => by have := hp.1 x hx; have := hr x (List.mem_cons_of_mem _ hx); omega) (by omega)
      rw [List.length_cons]
      omega
  have := h1 (ps.map (·.1)) 0 (by rw [List.pairwise_map]; exact h.srt) (fun x hx => by
    obtain ⟨p, hp, rfl⟩ := List.mem_map.mp hx
    have := h.rng p hp
    omega) hw
  rw [List.length_map] at this
  omega
def rangeI (n : Nat) : List Int := (List.range n).map fun i : Nat => (i : Int)
theorem rangeL_I (n : Nat) : rangeL 0 n = (rangeI n).map enc := by
  unfold rangeL rangeI
  rw [List.map_map]
  refine List.map_congr_left fun i _ => ?_
  show D.int (0 + (i : Int)) = D.int (i : Int)
  rw [Int.zero_add]
theorem rangeI_len (n : Nat) : (rangeI n).length = n := by unfold rangeI; rw [List.length_map, List.length_range]
theorem mem_rangeI {n : Nat} {i : Int} : i ∈ rangeI n ↔ 0 ≤ i ∧ i < n := by
  unfold rangeI
  rw [List.mem_map]
  constructor
  · rintro ⟨j, hj, rfl⟩
    have := List.mem_range.mp hj
    omega
  · intro h
    exact ⟨i.toNat, List.mem_range.mpr (by omega), by omega⟩
theorem rangeI_nodup (n : Nat) : (rangeI n).Nodup := by
  unfold rangeI
  rw [List.Nodup, List.pairwise_map]
  exact List.nodup_range.imp fun h e => h (by omega)
theorem cut_take (l : List D) (k : Nat) : DL.cutD l none (some (k : Int)) = l.take k := by
  unfold DL.cutD HT.sIx
  dsimp only
  rw [if_neg (by omega), List.drop_zero, Nat.sub_zero]
  by_cases h : k ≤ l.length
  · congr 1
    omega
  · rw [List.take_of_length_le (by omega), List.take_of_length_le (by omega)]
theorem zip_prs (xs ys : List Int) : ((xs.map D.int).zip (ys.map D.int)).map (fun p => D.tup [p.1, p.2]) = (xs.zip ys).map pr := by
  rw [List.zip_map, List.map_map]
  rfl
theorem fst_zip : ∀ xs ys : List Int, ((xs.zip ys).map (·.1)).Sublist xs
  | [], _ => by simp
  | _ :: _, [] => by simp
  | x :: xs, y :: ys => by
    rw [List.zip_cons_cons, List.map_cons]
    exact (fst_zip xs ys).cons_cons x
theorem snd_zip : ∀ xs ys : List Int, ((xs.zip ys).map (·.2)).Sublist ys
  | [], _ => by simp
  | _ :: _, [] => by simp
  | x :: xs, y :: ys => by
    rw [List.zip_cons_cons, List.map_cons]
    exact (snd_zip xs ys).cons_cons y
/-- two rows of unlike numbers laid together are a plan -/
theorem plan_zip {w : Int} {xs ys : List Int} (hx : xs.Nodup) (hy : ys.Nodup) (rx : ∀ i ∈ xs, 0 ≤ i ∧ i < w) (ry : ∀ i ∈ ys, 0 ≤ i ∧ i < w) : PlanM w (sortP (xs.zip ys)) := by
  have pm := sortP_perm (xs.zip ys)
  have key : ∀ (xs ys : List Int), xs.Nodup → ys.Nodup → ((xs.zip ys).map (·.1)).Nodup ∧ ((xs.zip ys).map (·.2)).Nodup := by
    intro xs ys hx hy
    constructor
    · exact (fst_zip xs ys).nodup hx
    · exact (snd_zip xs ys).nodup hy
  obtain ⟨n1, n2⟩ := key xs ys hx hy
  refine ⟨fun p hp => ?_, strict_of (sortP_pair _) ((pm.map _).nodup_iff.mpr n1), (pm.map _).nodup_iff.mpr n2⟩
  have hm := List.of_mem_zip (pm.mem_iff.mp hp)
  have h1 := rx _ hm.1
  have h2 := ry _ hm.2
  omega
section
variable {g : G} {P : D → G → Prop} {E : XE} {d : D} {m : Nat}
theorem law_plan_drawn {many most : Nat} (hG : GI m g) (h8 : most ≤ 8) (hm : 2 * most ≤ m) (k : ∀ ps g', PlanM most ps → ps.length = min many most → GI (m - 2 * most) g' → P (pl ps) g') : (f__law_plan [.st, .int many, .int most] g).all P E := by
  unfold f__law_plan
  with_reducible refine w_fn ?_
  unfold t__law_plan
  walk_at "w"
  rw [show ((most : Int) - 0).toNat = most by omega, rangeL_I]
  refine mixed (.inl rfl) (by decide) (by rw [rangeI_len]; omega) hG (by rw [rangeI_len]; omega) fun xs g1 px hG1 => ?_
  rw [rangeI_len] at hG1
  walk_at "w"
  rw [show ((most : Int) - 0).toNat = most by omega, rangeL_I]
  refine mixed (.inl rfl) (by decide) (by rw [rangeI_len]; omega) hG1 (by rw [rangeI_len]; omega) fun ys g2 py hG2 => ?_
  rw [rangeI_len] at hG2
  walk_at "w"
  rw [cut_take, cut_take, ← List.map_take, ← List.map_take]
  have e := zip_prs (xs.take many) (ys.take many)
  have lx : xs.length = most := by rw [px.length_eq, rangeI_len]
  have ly : ys.length = most := by rw [py.length_eq, rangeI_len]
  have lz : ((xs.take many).zip (ys.take many)).length = min many most := by
    rw [List.length_zip, List.length_take, List.length_take, lx, ly]
    omega
  rw [show (List.map enc (xs.take many)) = (xs.take many).map D.int from rfl, show (List.map enc (ys.take many)) = (ys.take many).map D.int from rfl, e]
  refine w_sortP (by omega) ?_
  walk_at "w"
  have hp : PlanM most (sortP ((xs.take many).zip (ys.take many))) := plan_zip ((List.take_sublist ..).nodup (px.nodup_iff.mpr (rangeI_nodup _))) ((List.take_sublist ..).nodup (py.nodup_iff.mpr (rangeI_nodup _)))
    (fun i hi => mem_rangeI.mp (px.mem_iff.mp (List.mem_of_mem_take hi))) fun i hi => mem_rangeI.mp (py.mem_iff.mp (List.mem_of_mem_take hi))
  exact k _ g2 hp (by rw [(sortP_perm _).length_eq, lz]) (hG2.mono (by omega))
theorem law_any_plan {most : Nat} (hG : GI m g) (h8 : most ≤ 8) (hm : 17 ≤ m) (k : ∀ ps g', PlanM most ps → GI (m - 17) g' → P (pl ps) g') : (f__law_any_plan [.st, .int most] g).all P E := by
  refine w_fn ?_
  unfold t__law_any_plan
  walk_at "w"
  refine draw hG (by omega) (by omega) (by omega) fun r g1 hr hG1 => ?_
  walk_at "w"
  with_reducible refine law_plan_drawn hG1 h8 (by omega) fun ps g2 hp _ hG2 => ?_
  exact k ps g2 hp (hG2.mono (by omega))
end
end SH
set_option Elab.async false
set_option linter.all false
set_option maxRecDepth 100000
set_option maxHeartbeats 2000000
/-! Books that are drawn; near plans. -/
open PySem PySem.Spec PyProof.Rows L2 DL
namespace SH
open DL.Enc (enc)
theorem nodup_len : ∀ {l m : List Int}, l.Nodup → (∀ x ∈ l, x ∈ m) → l.length ≤ m.length
  | [], _, _, _ => Nat.zero_le _
  | a :: l, m, h, s => by
    rw [List.nodup_cons] at h
    have ha := s a List.mem_cons_self
    have := nodup_len (l := l) (m := m.erase a) h.2 fun x hx => by
      have ne : x ≠ a := fun e => h.1 (e ▸ hx)
      exact (List.mem_erase_of_ne ne).mpr (s x (List.mem_cons_of_mem _ hx))
    rw [List.length_erase_of_mem ha] at this
    have := List.length_pos_of_mem ha
    rw [List.length_cons]
    omega
theorem of_allD {α : Type} {φ : α → D} {Q : α → Prop} : ∀ {r : List D}, (∀ y ∈ r, ∃ x, y = φ x ∧ Q x) → ∃ xs : List α, r = xs.map φ ∧ (∀ x ∈ xs, Q x) ∧ xs.length = r.length
  | [], _ => ⟨[], rfl, (fun _ h => nomatch h), rfl⟩
  | y :: r, h => by
    obtain ⟨x, rfl, hx⟩ := h y List.mem_cons_self
    obtain ⟨xs, rfl, hxs, hl⟩ := of_allD (r := r) fun z hz => h z (List.mem_cons_of_mem _ hz)
    refine ⟨x :: xs, rfl, fun z hz => ?_, by rw [List.length_cons, List.length_cons, hl]⟩
    rcases List.mem_cons.mp hz with rfl | hz
    · exact hx
    · exact hxs z hz
theorem cut_drop (l : List D) (k : Nat) : DL.cutD l (some (k : Int)) none = l.drop k := by
  unfold DL.cutD HT.sIx
  dsimp only
  rw [if_neg (by omega), Int.toNat_natCast]
  by_cases h : k ≤ l.length
  · rw [Nat.min_eq_left h, List.take_of_length_le]
    rw [List.length_drop]
    exact Nat.le_refl _
  · rw [Nat.min_eq_right (by omega), List.drop_of_length_le (Nat.le_refl _), List.drop_of_length_le (by omega), List.take_nil]
theorem cut_last (l : List D) : DL.cutD l (some (-1)) none = l.drop (l.length - 1) := by
  unfold DL.cutD HT.sIx
  dsimp only
  rw [if_pos (by decide), show ((-1 : Int) + (l.length : Int)).toNat = l.length - 1 by omega, List.take_of_length_le]
  rw [List.length_drop]
  exact Nat.le_refl _
theorem cut_init (l : List D) : DL.cutD l none (some (-1)) = l.take (l.length - 1) := by
  unfold DL.cutD HT.sIx
  dsimp only
  rw [if_pos (by decide), show ((-1 : Int) + (l.length : Int)).toNat = l.length - 1 by omega, List.drop_zero, Nat.sub_zero]
section
variable {g : G} {P : D → G → Prop} {E : XE} {d : D} {m : Nat}
theorem w_ixTl {l : List D} {x : D} (e : l[l.length - 1]? = some x) (h : P x g) : OpP (dIx (.tup l) (.int (-1))) P g := by
  have hl := (List.getElem?_eq_some_iff.mp e).1
  have q : dIx (.tup l) (.int (-1)) = some x := by
    show L2.atI l (-1) = _
    unfold L2.atI ixN
    rw [if_neg (by decide), if_pos (by omega)]
    show l[((-1 : Int) + (l.length : Int)).toNat]? = _
    rw [show ((-1 : Int) + (l.length : Int)).toNat = l.length - 1 by omega]
    exact e
  rw [q]
  exact h
theorem near_mem {ps : Pl} {r : Nat} {x : Pr} (h : PlanM 8 ps) (e : ps[r]? = some x) : PlanM 8 (ps.eraseIdx r) ∧ (ps.eraseIdx r).length = ps.length - 1 ∧ 1 ≤ ps.length := by
  have hr := (List.getElem?_eq_some_iff.mp e).1
  have sub : (ps.eraseIdx r).Sublist ps := List.eraseIdx_sublist ..
  exact ⟨⟨fun p hp => h.rng p (sub.subset hp), h.srt.sublist sub, (sub.map _).nodup h.nd⟩, by rw [List.length_eraseIdx, if_pos hr], by omega⟩
/-- the numbers below 8 that are not in l -/
abbrev rest8 (l : List Int) : List Int := (rangeI 8).filter fun i => !decide (i ∈ l)
theorem rest8_ne {l : List Int} (h : l.length ≤ 7) : rest8 l ≠ [] := by
  intro e
  unfold rest8 at e
  rw [List.filter_eq_nil_iff] at e
  have := nodup_len (rangeI_nodup 8) (m := l) fun x hx => by
    have := e x hx
    simpa using this
  rw [rangeI_len] at this
  omega
theorem rest8_len (l : List Int) : (rest8 l).length ≤ 8 := by
  have := List.length_filter_le (fun i => !decide (i ∈ l)) (rangeI 8)
  rw [rangeI_len] at this
  exact this
theorem mem_rest8 {l : List Int} {i : Int} (h : i ∈ rest8 l) : 0 ≤ i ∧ i < 8 ∧ i ∉ l := by
  unfold rest8 at h
  rw [List.mem_filter] at h
  have := mem_rangeI.mp h.1
  refine ⟨this.1, by omega, by simpa using h.2⟩
theorem plan_put {ps : Pl} {a b : Int} (h : PlanM 8 ps) (ha : 0 ≤ a ∧ a < 8 ∧ a ∉ ps.map (·.1)) (hb : 0 ≤ b ∧ b < 8 ∧ b ∉ ps.map (·.2)) : PlanM 8 (sortP (ps ++ [(a, b)])) := by
  have pm := sortP_perm (ps ++ [(a, b)])
  have key : ∀ (l : List Int) (x : Int), l.Nodup → x ∉ l → (l ++ [x]).Nodup := fun l x hl hx => List.nodup_append.mpr ⟨hl, by simp, fun y hy z hz e => by
    rw [List.mem_singleton.mp hz] at e
    exact hx (e ▸ hy)⟩
  have n1 : ((ps ++ [(a, b)]).map (·.1)).Nodup := by
    rw [List.map_append]
    exact key _ _ h.nd1 ha.2.2
  have n2 : ((ps ++ [(a, b)]).map (·.2)).Nodup := by
    rw [List.map_append]
    exact key _ _ h.nd hb.2.2
  refine ⟨fun p hp => ?_, strict_of (sortP_pair _) ((pm.map _).nodup_iff.mpr n1), (pm.map _).nodup_iff.mpr n2⟩
  rcases List.mem_append.mp (pm.mem_iff.mp hp) with hp | hp
  · exact h.rng p hp
  · rw [List.mem_singleton.mp hp]
    exact ⟨ha.1, ha.2.1, hb.1, hb.2.1⟩
theorem law_near {ps : Pl} (hp : PlanM 8 ps) (hG : GI m g) (hm : 3 ≤ m) (k : ∀ qs g', PlanM 8 qs → qs.length = ps.length → GI (m - 3) g' → P (pl qs) g') : (f__law_near_plan [.st, pl ps] g).all P E := by
  have hlen := hp.len (by decide)
  unfold f__law_near_plan
  with_reducible refine w_fn ?_
  unfold t__law_near_plan
  walk_at "w"
  rw [show (D.tup [] : D) = pl [] from rfl]
  with_reducible refine op_some (eq_pl ps []) ?_
  walk_at "w"
  refine w_dec (fun h => ?_) fun h => ?_
  · subst h
    walk_at "w"
    exact k [] g hp rfl (hG.mono (by omega))
  walk_at "w"
  unfold pl
  walk_at "w"
  have hpos := List.length_pos_iff.mpr h
  with_reducible refine draw hG (by omega) (by rw [List.length_map]; omega) (by rw [List.length_map]; omega) fun r g1 hr hG1 => ?_
  rw [List.length_map] at hr
  have hr : r < ps.length := by omega
  have e1 : (ps.map pr)[r]? = some (pr ps[r]) := by rw [List.getElem?_map, List.getElem?_eq_getElem hr]; rfl
  have e0 : ps[r]? = some ps[r] := List.getElem?_eq_getElem hr
  have hn := near_mem hp e0
  have hp2 := hn.1
  have hl2 := hn.2.1
  clear hn
  walk_at "w"
  with_reducible refine w_popE e1 (by rw [List.length_map]; omega) ?_
  rw [map_eraseIdx]
  generalize ps.eraseIdx r = qs at hp2 hl2
  walk_at "w"
  rw [show rangeL 0 (8 : Int).toNat = (rangeI 8).map enc from rangeL_I 8]
  refine w_lcTF (fun i => !decide (i ∈ qs.map (·.1))) (fun i => .int i) (fun i hi => ⟨_, rfl, ?_⟩) ?_
  · walk_at "w"
    refine w_lcT (fun p => .int p.1) (fun p _ => ⟨_, rfl, ?_⟩) ?_
    · walk_at "w"
      exact ⟨rfl, rfl⟩
    rw [show (qs.map fun p => D.int p.1) = (qs.map (·.1)).map enc by rw [List.map_map]; rfl]
    refine op_some (dNotIn_lst i (qs.map (·.1))) ?_
    walk_at "w"
    refine ⟨⟨rfl, rfl⟩, fun _ => ?_⟩
    walk_at "w"
    exact ⟨rfl, rfl⟩
  walk_at "w"
  rw [show rangeL 0 (8 : Int).toNat = (rangeI 8).map enc from rangeL_I 8]
  refine w_lcTF (fun i => !decide (i ∈ qs.map (·.2))) (fun i => .int i) (fun i hi => ⟨_, rfl, ?_⟩) ?_
  · walk_at "w"
    refine w_lcT (fun p => .int p.2) (fun p _ => ⟨_, rfl, ?_⟩) ?_
    · walk_at "w"
      exact ⟨rfl, rfl⟩
    rw [show (qs.map fun p => D.int p.2) = (qs.map (·.2)).map enc by rw [List.map_map]; rfl]
    refine op_some (dNotIn_lst i (qs.map (·.2))) ?_
    walk_at "w"
    refine ⟨⟨rfl, rfl⟩, fun _ => ?_⟩
    walk_at "w"
    exact ⟨rfl, rfl⟩
  walk_at "w"
  with_reducible refine pickE (xs := rest8 (qs.map (·.1))) hG1 (by omega) (rest8_ne (by rw [List.length_map]; omega)) (Nat.le_trans (rest8_len _) (by decide)) fun a g2 ha hG2 => ?_
  walk_at "w"
  with_reducible refine pickE (xs := rest8 (qs.map (·.2))) hG2 (by omega) (rest8_ne (by rw [List.length_map]; omega)) (Nat.le_trans (rest8_len _) (by decide)) fun b g3 hb hG3 => ?_
  walk_at "w"
  refine w_addL (by rw [List.length_map]; show _ + 1 ≤ _; omega) ?_
  walk_at "w"
  rw [show qs.map pr ++ [D.tup [.int a, .int b]] = (qs ++ [(a, b)]).map pr by rw [List.map_append]; rfl]
  refine w_sortP (by rw [List.length_append]; show _ + 1 ≤ _; omega) ?_
  walk_at "w"
  refine k _ g3 (plan_put hp2 (mem_rest8 ha) (mem_rest8 hb)) ?_ (hG3.mono (by omega))
  rw [(sortP_perm _).length_eq, List.length_append]
  show _ + 1 = _
  omega
end
end SH
set_option Elab.async false
set_option linter.all false
set_option maxRecDepth 100000
set_option maxHeartbeats 2000000
/-! Books that are drawn; values that are none. -/
open PySem PySem.Spec PyProof.Rows L2 DL
namespace SH
open DL.Enc (enc)
/-- a book -/
structure BookM (b : List Pl) : Prop where
  l1 : 1 ≤ b.length
  l2 : b.length ≤ 16
  pl : ∀ ps ∈ b, PlanM 8 ps
theorem bookB_bk {b : List Pl} (h : BookM b) : bookB (bk b) = true := by
  show (decide (1 ≤ (b.map pl).length) && decide ((b.map pl).length ≤ 16) && (b.map pl).all planB) = true
  have h1 := h.l1
  have h2 := h.l2
  rw [List.length_map, decide_eq_true h1, decide_eq_true h2, List.all_map]
  exact List.all_eq_true.mpr fun ps hps => planB_pl (h.pl ps hps)
theorem ok_bk {b : List Pl} (h : BookM b) : Ok 3 (bk b) := .tup (by rw [List.length_map]; have := h.l2; omega) fun x hx => by
  obtain ⟨ps, hps, rfl⟩ := List.mem_map.mp hx
  have := (h.pl ps hps).len (by decide)
  exact ok_pl ps (by omega)
section
variable {g : G} {P : D → G → Prop} {E : XE} {d : D} {m : Nat}
theorem rows {t : D → DL.Env → Option DL.Env} {f : Ep} {ρ : DL.Env} {Pl' : List D → G → Prop} {Q : Pl → Prop} (c : Nat) {l : List D} {n : Nat} (hl : l.length = n) (hm : GI m g) (hc : c * n ≤ m) (hs : ∀ d ∈ l, ∀ m g, GI m g → c ≤ m → ∃ ρ1, t d ρ = some ρ1 ∧ (f ρ1 g).all (fun y g2 => (∃ ps, y = pl ps ∧ Q ps) ∧ GI (m - c) g2) XF)
    (h : ∀ (b : List Pl) g1, b.length = n → (∀ ps ∈ b, Q ps) → GI (m - c * n) g1 → Pl' (b.map pl) g1) : (sLcL ρ t sYes f l g).all Pl' E := by
  subst hl
  refine w_lcD c (fun y => ∃ ps, y = pl ps ∧ Q ps) hm hc hs fun r g1 h1 h2 h3 => ?_
  obtain ⟨b, rfl, hb, hl⟩ := of_allD h2
  exact h b g1 (by rw [hl, h1]) hb h3
theorem law_book_drawn {most : Nat} (h1 : 1 ≤ most) (h16 : most ≤ 16) (hG : GI m g) (hm : 500 ≤ m) (k : ∀ (b : List Pl) g', BookM b → b.length ≤ most → GI (m - 500) g' → P (bk b) g') : (f__law_book [.st, .int most] g).all P E := by
  unfold f__law_book
  with_reducible refine w_fn ?_
  unfold t__law_book
  walk_at "w"
  with_reducible refine draw hG (by omega) (by omega) (by omega) fun r g1 hr hG1 => ?_
  walk_at "w"
  with_reducible refine draw hG1 (by omega) (by omega) (by omega) fun v g2 hv hG2 => ?_
  walk_at "w"
  with_reducible refine draw hG2 (by omega) (by omega) (by omega) fun y g3 hy hG3 => ?_
  walk_at "w"
  refine op_some rfl ?_
  walk_at "w"
  have e1 : (1 : Int) + (r : Int) = ((1 + r : Nat) : Int) := by omega
  have e2 : (2 : Int) + (v : Int) = ((2 + v : Nat) : Int) := by omega
  rw [e1, e2]
  have hn : (1 + r) ≤ most := by omega
  have hn1 : 1 ≤ 1 + r := by omega
  have hw : 2 + v ≤ 8 := by omega
  generalize hN : 1 + r = n at hn hn1
  generalize hW : 2 + v = w at hw
  have hw2 : 2 ≤ w := by omega
  have mk : ∀ {b : List Pl}, b.length = n → (∀ ps ∈ b, PlanM 8 ps) → BookM b := fun hl hp => ⟨by omega, by omega, hp⟩
  walk_at "w"
  refine w_dec (fun h0 => ?_) fun h0 => ?_
  · walk_at "w"
    with_reducible refine And.intro (by rw [rangeL_len]; omega) ?_
    with_reducible refine rows (Q := PlanM 8) 17 (rangeL_len _ _) hG3 (by omega) (fun d hd m g hg hm => ⟨_, rfl, ?_⟩) fun b g4 hl hp hG4 => ?_
    · walk_at "w"
      with_reducible refine law_any_plan hg hw (by omega) fun ps g' hps hg' => ?_
      exact ⟨⟨ps, rfl, hps.mono (by omega)⟩, hg'⟩
    · walk_at "w"
      rw [Int.toNat_natCast] at hl hG4
      exact k b g4 (mk hl hp) (by omega) (hG4.mono (by omega))
  walk_at "w"
  with_reducible refine draw hG3 (by omega) (by omega) (by omega) fun z g4 hz hG4 => ?_
  walk_at "w"
  have e3 : (1 : Int) + (z : Int) = ((1 + z : Nat) : Int) := by omega
  rw [e3]
  generalize hS : 1 + z = sz
  have plan : ∀ {m : Nat} {g : G} {P : D → G → Prop} {E : XE}, GI m g → 16 ≤ m → (∀ ps g', PlanM 8 ps → GI (m - 16) g' → P (pl ps) g') → (f__law_plan [.st, .int (sz : Int), .int (w : Int)] g).all P E := fun hg hm k => by
    with_reducible refine law_plan_drawn hg hw (by omega) fun ps g' hps _ hg' => ?_
    exact k ps g' (hps.mono (by omega)) (hg'.mono (by omega))
  refine w_dec (fun h0 => ?_) fun h0 => ?_
  · walk_at "w"
    with_reducible refine And.intro (by rw [rangeL_len]; omega) ?_
    with_reducible refine rows (Q := PlanM 8) 16 (rangeL_len _ _) hG4 (by omega) (fun d hd m g hg hm => ⟨_, rfl, ?_⟩) fun b g5 hl hp hG5 => ?_
    · walk_at "w"
      with_reducible refine plan hg (by omega) fun ps g' hps hg' => ?_
      exact ⟨⟨ps, rfl, hps⟩, hg'⟩
    · walk_at "w"
      rw [Int.toNat_natCast] at hl hG5
      exact k b g5 (mk hl hp) (by omega) (hG5.mono (by omega))
  walk_at "w"
  with_reducible refine rows (Q := PlanM 8) 16 (rangeL_len _ _) hG4 (by omega) (fun d hd m g hg hm => ⟨_, rfl, ?_⟩) fun two g5 hl2 hp2 hG5 => ?_
  · walk_at "w"
    with_reducible refine plan hg (by omega) fun ps g' hps hg' => ?_
    exact ⟨⟨ps, rfl, hps⟩, hg'⟩
  have hl2 : two.length = 2 := hl2
  have hG5 : GI (m - 36) g5 := hG5.mono (by omega)
  have two_ne : two ≠ [] := fun e => by rw [e] at hl2; cases hl2
  walk_at "w"
  refine w_dec (fun h0 => ?_) fun h0 => ?_
  · walk_at "w"
    with_reducible refine And.intro (by rw [rangeL_len]; omega) ?_
    with_reducible refine rows (Q := PlanM 8) 1 (rangeL_len _ _) hG5 (by omega) (fun d hd m g hg hm => ⟨_, rfl, ?_⟩) fun b g6 hl hp hG6 => ?_
    · walk_at "w"
      with_reducible refine pickE hg hm two_ne (by omega) fun ps g' hps hg' => ?_
      exact ⟨⟨ps, rfl, hp2 ps hps⟩, hg'⟩
    · walk_at "w"
      rw [Int.toNat_natCast] at hl hG6
      exact k b g6 (mk hl hp) (by omega) (hG6.mono (by omega))
  walk_at "w"
  with_reducible refine And.intro (by rw [rangeL_len]; omega) ?_
  with_reducible refine rows (Q := PlanM 8) 4 (rangeL_len _ _) hG5 (by omega) (fun d hd m g hg hm => ⟨_, rfl, ?_⟩) fun b g6 hl hp hG6 => ?_
  · walk_at "w"
    with_reducible refine pickE hg (by omega) two_ne (by omega) fun ps g' hps hg' => ?_
    walk_at "w"
    with_reducible refine law_near (hp2 ps hps) hg' (by omega) fun qs g2 hqs _ hg2 => ?_
    exact ⟨⟨qs, rfl, hqs⟩, hg2.mono (by omega)⟩
  rw [Int.toNat_natCast] at hl hG6
  walk_at "w"
  with_reducible refine rows (Q := PlanM 8) 1 (n := n) (by rw [List.length_map]; exact hl) hG6 (by omega) (fun d hd m g hg hm => ⟨_, rfl, ?_⟩) fun b2 g7 hl7 hp7 hG7 => ?_
  · obtain ⟨ps, hps, rfl⟩ := List.mem_map.mp hd
    match two, hl2, hp2 with
    | [t1, t2], _, hp2 =>
    rw [show List.map pl [t1, t2] = [pl t1, pl t2] from rfl]
    walk_at "w"
    rw [show [pl ps, pl t1] = List.map pl [ps, t1] from rfl]
    with_reducible refine pickE (φ := pl) (xs := [ps, t1]) hg hm (by simp) (by simp only [List.length_cons, List.length_nil]; omega) fun qs g' hqs hg' => ?_
    refine ⟨⟨qs, rfl, ?_⟩, hg'⟩
    rcases List.mem_cons.mp hqs with rfl | hqs
    · exact hp _ hps
    · rw [List.mem_singleton.mp hqs]
      exact hp2 t1 List.mem_cons_self
  · walk_at "w"
    exact k b2 g7 (mk hl7 hp7) (by omega) (hG7.mono (by omega))
end
end SH
set_option Elab.async false
set_option linter.all false
set_option maxRecDepth 100000
set_option maxHeartbeats 2000000
/-! Values that are no plan, no book. -/
open PySem PySem.Spec PyProof.Rows L2 DL
namespace SH
open DL.Enc (enc)
/-- no pair, but a plain value -/
def NoPr (d : D) : Prop := Ok 2 d ∧ toPr d = none
section
variable {g : G} {P : D → G → Prop} {E : XE} {d : D} {m : Nat}
theorem eq_ints0 (a : List Int) : dEq (.lst (a.map D.int)) (.lst []) = some (.bl (decide (a = []))) := eq_ints a []
theorem ne_ints0 (a : List Int) : dNe (.lst (a.map D.int)) (.lst []) = some (.bl (!decide (a = []))) := ne_ints a []
theorem eq_prs0 (a : Pl) : dEq (.lst (a.map pr)) (.lst []) = some (.bl (decide (a = []))) := eq_prs a []
theorem ne_prs0 (a : Pl) : dNe (.lst (a.map pr)) (.lst []) = some (.bl (!decide (a = []))) := ne_prs a []
theorem law_plan8 {many : Nat} (hG : GI m g) (hm : 16 ≤ m) (k : ∀ ps g', PlanM 8 ps → ps.length = min many 8 → GI (m - 16) g' → P (pl ps) g') : (f__law_plan [.st, .int many, .int 8] g).all P E := law_plan_drawn (most := 8) hG (by decide) hm k
theorem law_any8 (hG : GI m g) (hm : 17 ≤ m) (k : ∀ ps g', PlanM 8 ps → GI (m - 17) g' → P (pl ps) g') : (f__law_any_plan [.st, .int 8] g).all P E := law_any_plan (most := 8) hG (by decide) hm k
theorem enum2 (a b : Int) : enumD [.int a, .int b] = [((0 : Int), a), (1, b)].map pr := rfl
theorem w_ixN {l : List D} {i : Nat} {x : D} {j : Int} (hj : j = (i : Int)) (e : l[i]? = some x) (h : P x g) : OpP (dIx (.tup l) (.int j)) P g := by
  subst hj
  exact w_ixT e h
theorem law_bool_pair {p : Pr} (hG : GI m g) (hm : 1 ≤ m) (k : ∀ d g', NoPr d → GI (m - 1) g' → P d g') : (f__law_bool_pair [.st, pr p] g).all P E := by
  obtain ⟨a, b⟩ := p
  unfold f__law_bool_pair
  with_reducible refine w_fn ?_
  unfold t__law_bool_pair pr
  walk_at "w"
  rw [enum2]
  walk_at "w"
  refine w_lcTF (α := Pr) (fun p => decide (p.2 < 2)) (fun p => .int p.1) (fun p _ => ⟨_, rfl, ?_⟩) ?_
  · walk_at "w"
    refine ⟨⟨rfl, rfl⟩, fun _ => ?_⟩
    walk_at "w"
    exact ⟨rfl, rfl⟩
  walk_at "w"
  generalize hsp : (List.filter (fun p : Pr => decide (p.2 < 2)) [((0 : Int), a), (1, b)]).map (·.1) = spots
  have e : (List.filter (fun p : Pr => decide (p.2 < 2)) [((0 : Int), a), (1, b)]).map (fun p => D.int p.1) = spots.map D.int := by rw [← hsp, List.map_map]; rfl
  have hs : ∀ s ∈ spots, s = 0 ∨ s = 1 := fun s hs => by
    rw [← hsp] at hs
    obtain ⟨p, hp, rfl⟩ := List.mem_map.mp hs
    have := (List.mem_filter.mp hp).1
    simp only [List.mem_cons, List.not_mem_nil, or_false] at this
    rcases this with rfl | rfl
    · exact .inl rfl
    · exact .inr rfl
  have hl : spots.length ≤ 2 := by
    rw [← hsp, List.length_map]
    exact List.length_filter_le _ _
  rw [e]
  with_reducible refine op_some (eq_ints0 spots) ?_
  walk_at "w"
  refine w_dec (fun h => ?_) fun h => ?_
  · walk_at "w"
    rw [cut_init]
    exact k _ g ⟨.tup (by show 1 ≤ 1000; decide) fun x hx => by rw [List.mem_singleton.mp hx]; exact .int _, rfl⟩ (hG.mono (by omega))
  walk_at "w"
  with_reducible refine pickE (xs := spots) hG hm h (by omega) fun s g1 hs1 hG1 => ?_
  have two : ∀ (x y : D), Ok 1 x → Ok 1 y → Ok 2 (.tup [x, y]) := fun x y hx hy => .tup (by show 2 ≤ 1000; decide) fun z hz => by
    rcases List.mem_cons.mp hz with rfl | hz
    · exact hx
    · rw [List.mem_singleton.mp hz]; exact hy
  have cut0 : DL.cutD [D.int a, D.int b] none (some (0:Int)) = [] := rfl
  have cut1 : DL.cutD [D.int a, D.int b] none (some (1:Int)) = [D.int a] := rfl
  have cut2 : DL.cutD [D.int a, D.int b] (some (0 + 1:Int)) none = [D.int b] := rfl
  have cut3 : DL.cutD [D.int a, D.int b] (some (1 + 1:Int)) none = [] := rfl
  rcases hs s hs1 with rfl | rfl
  · walk_at "w"
    rw [cut0]
    refine w_addT (by walk_at "len") ?_
    walk_at "w"
    rw [cut2]
    refine w_addT (by walk_at "len") ?_
    exact k _ g1 ⟨two _ _ (.bl _) (.int _), rfl⟩ hG1
  · walk_at "w"
    rw [cut1]
    refine w_addT (by walk_at "len") ?_
    walk_at "w"
    rw [cut3]
    refine w_addT (by walk_at "len") ?_
    exact k _ g1 ⟨two _ _ (.int _) (.bl _), rfl⟩ hG1
/-- no plan, but a plain value -/
def NoPl (d : D) : Prop := Ok 3 d ∧ planB d = false
theorem toPl_none {a b : List D} {x : D} (h : toPr x = none) : toPl (a ++ [x] ++ b) = none := by
  have e := toPl_all (a ++ [x] ++ b)
  rw [List.all_append, List.all_append, List.all_cons, h] at e
  cases q : toPl (a ++ [x] ++ b) with
  | none => rfl
  | some ps =>
    rw [q] at e
    simp at e
theorem ok_seq {n : Nat} {l : List D} (hl : l.length ≤ 1000) (h : ∀ x ∈ l, Ok n x) : Ok (n + 1) (.tup l) := .tup hl h
theorem ok_prs {l : Pl} : ∀ x ∈ l.map pr, Ok 2 x := fun x hx => by
  obtain ⟨p, _, rfl⟩ := List.mem_map.mp hx
  exact (ok_pr p).mono (by decide)
theorem noPl_item {x : D} (h : NoPr x) {a b : Pl} (hl : a.length + b.length ≤ 900) : NoPl (.tup (a.map pr ++ [x] ++ b.map pr)) := by
  refine ⟨ok_seq ?_ fun y hy => ?_, ?_⟩
  · rw [List.length_append, List.length_append, List.length_map, List.length_map]
    show _ + 1 + _ ≤ _
    omega
  · rcases List.mem_append.mp hy with hy | hy
    · rcases List.mem_append.mp hy with hy | hy
      · exact ok_prs y hy
      · rw [List.mem_singleton.mp hy]; exact h.1
    · exact ok_prs y hy
  · show (match toPl (a.map pr ++ [x] ++ b.map pr) with | some ps => decide (ps = sortP ps) && apart ps | none => false) = false
    rw [toPl_none h.2]
theorem noPl_pl {ps : Pl} (hl : ps.length ≤ 900) (h : ¬ PlanM 8 ps) : NoPl (pl ps) := ⟨ok_pl ps (by omega) |>.mono (by decide), by
  cases q : planB (pl ps) with
  | false => rfl
  | true => exact absurd (planB_iff.mp q) h⟩
theorem noPl_of {d : D} (h : Ok 3 d) (ht : isTup d = false) : NoPl d := ⟨h, by cases d <;> first | rfl | cases ht⟩
theorem two_items : ∀ {l : Pl}, 2 ≤ l.length → ∃ u v l', l = u :: v :: l'
  | [], h => by simp at h
  | [_], h => by simp at h
  | u :: v :: l', _ => ⟨u, v, l', rfl⟩
theorem law_bad_plan (hG : GI m g) (hm : 30 ≤ m) (k : ∀ d g', NoPl d → GI (m - 30) g' → P d g') : (f__law_bad_plan [.st] g).all P E := by
  unfold f__law_bad_plan
  with_reducible refine w_fn ?_
  unfold t__law_bad_plan
  walk_at "w"
  with_reducible refine draw hG (by omega) (by omega) (by omega) fun r g1 hr hG1 => ?_
  walk_at "w"
  rw [show (2 : Int) + (r : Int) = ((2 + r : Nat) : Int) by omega]
  with_reducible refine law_plan8 hG1 (by omega) fun ps g2 hp hl hG2 => ?_
  have hl2 : ps.length = 2 + r := by omega
  walk_at "w"
  unfold pl
  walk_at "w"
  with_reducible refine draw hG2 (by omega) (by rw [List.length_map]; omega) (by rw [List.length_map]; omega) fun s g3 hs hG3 => ?_
  rw [List.length_map] at hs
  have hs : s < ps.length := by omega
  have e1 : ps[s]? = some ps[s] := List.getElem?_eq_getElem hs
  generalize hx : ps[s] = x at e1
  have e2 : (ps.map pr)[s]? = some (.tup [.int x.1, .int x.2]) := by rw [List.getElem?_map, e1]; rfl
  walk_at "w"
  with_reducible refine w_ixT e2 ?_
  walk_at "w"
  have other : ∃ t y, t < ps.length ∧ t ≠ s ∧ ps[t]? = some y ∧ ∀ {T : D → G → Prop}, T (.tup [.int y.1, .int y.2]) g3 → OpP (dIx (.tup (ps.map pr)) (.int ((s : Int) - 1))) T g3 := by
    by_cases h0 : s = 0
    · subst h0
      have ht : ps.length - 1 < ps.length := by omega
      refine ⟨ps.length - 1, ps[ps.length - 1], ht, by omega, List.getElem?_eq_getElem ht, fun h => ?_⟩
      refine w_ixTl ?_ h
      rw [List.length_map, List.getElem?_map, List.getElem?_eq_getElem ht]
      rfl
    · have ht : s - 1 < ps.length := by omega
      refine ⟨s - 1, ps[s - 1], ht, by omega, List.getElem?_eq_getElem ht, fun h => ?_⟩
      refine w_ixN (i := s - 1) (by omega) ?_ h
      rw [List.getElem?_map, List.getElem?_eq_getElem ht]
      rfl
  obtain ⟨t, y, ht, hts, ey, iy⟩ := other
  refine iy ?_
  walk_at "w"
  refine w_addT (by simp only [List.length_cons, List.length_nil]; omega) ?_
  walk_at "w"
  have la : (ps.take s).length = s := by rw [List.length_take]; omega
  have lb : (ps.drop (s + 1)).length = ps.length - (s + 1) := List.length_drop ..
  have hps := hp.len (by decide)
  have cut1 : ∀ {T : D → G → Prop} {item : D} {g : G}, T (.tup ((ps.take s).map pr ++ [item])) g → OpP (dAdd (.tup (DL.cutD (ps.map pr) none (some (s : Int)))) (.tup [item])) T g := fun {T item g} h => by
    rw [cut_take, ← List.map_take]
    exact w_addT (by rw [List.length_map, la]; show _ + 1 ≤ _; omega) h
  have cut2 : ∀ {T : D → G → Prop} {u : List D} {g : G}, u.length ≤ 900 → T (.tup (u ++ (ps.drop (s + 1)).map pr)) g → OpP (dAdd (.tup u) (.tup (DL.cutD (ps.map pr) (some ((s : Int) + 1)) none))) T g := fun {T u g} hu h => by
    rw [show (s : Int) + 1 = ((s + 1 : Nat) : Int) by omega, cut_drop, ← List.map_drop]
    exact w_addT (by rw [List.length_map, lb]; omega) h
  have lu : ∀ item : D, ((ps.take s).map pr ++ [item]).length ≤ 900 := fun item => by
    rw [List.length_append, List.length_map, la]
    show _ + 1 ≤ _
    omega
  have it : ∀ {item : D}, NoPr item → NoPl (.tup ((ps.take s).map pr ++ [item] ++ (ps.drop (s + 1)).map pr)) := fun h => noPl_item h (by rw [la, lb]; omega)
  refine w_lcM (fun item => .tup ((ps.take s).map pr ++ [item] ++ (ps.drop (s + 1)).map pr)) (fun d hd => ⟨_, rfl, ?_⟩) ?_
  · walk_at "w"
    refine cut1 ?_
    walk_at "w"
    exact cut2 (lu _) ⟨rfl, rfl⟩
  have two : ∀ (x y : D), Ok 1 x → Ok 1 y → Ok 2 (.tup [x, y]) := fun x y hx hy => .tup (by show 2 ≤ 1000; decide) fun z hz => by
    rcases List.mem_cons.mp hz with rfl | hz
    · exact hx
    · rw [List.mem_singleton.mp hz]; exact hy
  have five : ∀ d ∈ ([D.tup [D.int x.1, D.int 8], D.tup [D.int (-1), D.int x.2], D.lst [D.int x.1, D.int x.2], D.tup ([D.int x.1, D.int x.2] ++ [D.int 0]), D.non].map fun item => D.tup ((ps.take s).map pr ++ [item] ++ (ps.drop (s + 1)).map pr)), NoPl d := fun d hd => by
    obtain ⟨item, hi, rfl⟩ := List.mem_map.mp hd
    refine it ?_
    simp only [List.mem_cons, List.not_mem_nil, or_false] at hi
    rcases hi with rfl | rfl | rfl | rfl | rfl
    · exact ⟨two _ _ (.int _) (.int _), by unfold toPr; dsimp only; rw [if_neg (by omega)]⟩
    · exact ⟨two _ _ (.int _) (.int _), by unfold toPr; dsimp only; rw [if_neg (by omega)]⟩
    · exact ⟨.lst (by show 2 ≤ 1000; decide) fun z hz => by
        rcases List.mem_cons.mp hz with rfl | hz
        · exact .int _
        · rw [List.mem_singleton.mp hz]; exact .int _, rfl⟩
    · exact ⟨.tup (by show 3 ≤ 1000; decide) fun z hz => by
        simp only [List.cons_append, List.nil_append, List.mem_cons, List.not_mem_nil, or_false] at hz
        rcases hz with rfl | rfl | rfl <;> exact .int _, rfl⟩
    · exact ⟨.non, rfl⟩
  generalize hr0 : ([D.tup [D.int x.1, D.int 8], D.tup [D.int (-1), D.int x.2], D.lst [D.int x.1, D.int x.2], D.tup ([D.int x.1, D.int x.2] ++ [D.int 0]), D.non].map fun item => D.tup ((ps.take s).map pr ++ [item] ++ (ps.drop (s + 1)).map pr)) = r0 at five ⊢
  have lr0 : r0.length = 5 := by rw [← hr0]; rfl
  clear hr0
  walk_at "w"
  rw [cut_last, List.length_map, ← List.map_drop]
  refine w_addT (by rw [List.length_map, List.length_map, List.length_drop]; omega) ?_
  walk_at "w"
  have Lps : ps.length ≤ 900 := by omega
  have p2 := two_items (l := ps) (by omega)
  have dup : NoPl (.tup (ps.map pr ++ (ps.drop (ps.length - 1)).map pr)) := by
    rw [← List.map_append]
    refine noPl_pl (ps := ps ++ ps.drop (ps.length - 1)) (by rw [List.length_append, List.length_drop]; omega) fun h => ?_
    have hz : (ps.drop (ps.length - 1)) ≠ [] := fun e => by
      have := congrArg List.length e
      rw [List.length_drop] at this
      simp at this
      omega
    obtain ⟨z, zs, ez⟩ := List.exists_cons_of_ne_nil hz
    have := (List.pairwise_append.mp h.srt).2.2 z (List.mem_of_mem_drop (i := ps.length - 1) (by rw [ez]; exact List.mem_cons_self)) z (by rw [ez]; exact List.mem_cons_self)
    omega
  have rev : NoPl (.tup (ps.map pr).reverse) := by
    rw [← List.map_reverse]
    refine noPl_pl (ps := ps.reverse) (by rw [List.length_reverse]; omega) fun h => ?_
    have q := List.pairwise_reverse.mp h.srt
    obtain ⟨u, v, ps', rfl⟩ := p2
    have a1 := (List.pairwise_cons.mp q).1 v List.mem_cons_self
    have a2 := (List.pairwise_cons.mp hp.srt).1 v List.mem_cons_self
    omega
  have eight : ∀ d ∈ [D.tup (ps.map pr).reverse, D.tup (ps.map pr ++ (ps.drop (ps.length - 1)).map pr), D.lst (ps.map pr), D.non, D.int 5, D.str (Str.ofString "plan"), D.dct [], D.tup [D.int 0, D.int 1]], NoPl d := fun d hd => by
    simp only [List.mem_cons, List.not_mem_nil, or_false] at hd
    rcases hd with rfl | rfl | rfl | rfl | rfl | rfl | rfl | rfl
    · exact rev
    · exact dup
    · exact noPl_of (.lst (by rw [List.length_map]; omega) ok_prs) rfl
    · exact noPl_of .non rfl
    · exact noPl_of (.int _) rfl
    · exact noPl_of (.str _) rfl
    · exact noPl_of .dct0 rfl
    · exact ⟨(two _ _ (.int _) (.int _)).mono (by decide), rfl⟩
  have l8 : [D.tup (ps.map pr).reverse, D.tup (ps.map pr ++ (ps.drop (ps.length - 1)).map pr), D.lst (ps.map pr), D.non, D.int 5, D.str (Str.ofString "plan"), D.dct [], D.tup [D.int 0, D.int 1]].length = 8 := rfl
  generalize [D.tup (ps.map pr).reverse, D.tup (ps.map pr ++ (ps.drop (ps.length - 1)).map pr), D.lst (ps.map pr), D.non, D.int 5, D.str (Str.ofString "plan"), D.dct [], D.tup [D.int 0, D.int 1]] = r8 at eight l8 ⊢
  refine w_addL (by omega) ?_
  walk_at "w"
  rw [cut_take, ← List.map_take]
  refine cut2 (by rw [List.length_map]; omega) ?_
  walk_at "w"
  rw [← List.map_append]
  refine w_addT (by rw [List.length_map, List.length_append, la, lb]; show _ + 1 ≤ _; omega) ?_
  walk_at "w"
  rw [show List.map pr (ps.take s ++ ps.drop (s + 1)) ++ [D.tup [.int x.1, .int y.2]] = (ps.take s ++ ps.drop (s + 1) ++ [(x.1, y.2)]).map pr by simp only [List.map_append]; rfl]
  have lq : (ps.take s ++ ps.drop (s + 1) ++ [(x.1, y.2)]).length = ps.length := by
    rw [List.length_append, List.length_append, la, lb]
    show _ + 1 = _
    omega
  refine w_sortPT (by omega) ?_
  walk_at "w"
  have tw : NoPl (.tup ((sortP (ps.take s ++ ps.drop (s + 1) ++ [(x.1, y.2)])).map pr)) := by
    have pm := sortP_perm (ps.take s ++ ps.drop (s + 1) ++ [(x.1, y.2)])
    refine noPl_pl (ps := sortP (ps.take s ++ ps.drop (s + 1) ++ [(x.1, y.2)])) (by rw [pm.length_eq]; omega) fun h => ?_
    have n2 := (pm.map (·.2)).nodup_iff.mp h.nd
    rw [List.map_append] at n2
    have ym : y ∈ ps.take s ++ ps.drop (s + 1) := by
      by_cases q : t < s
      · refine List.mem_append_left _ (List.mem_iff_getElem?.mpr ⟨t, ?_⟩)
        rw [List.getElem?_take, if_pos q]
        exact ey
      · refine List.mem_append_right _ (List.mem_iff_getElem?.mpr ⟨t - (s + 1), ?_⟩)
        rw [List.getElem?_drop, show s + 1 + (t - (s + 1)) = t by omega]
        exact ey
    exact (List.nodup_append.mp n2).2.2 y.2 (List.mem_map.mpr ⟨y, ym, rfl⟩) y.2 List.mem_cons_self rfl
  generalize D.tup ((sortP (ps.take s ++ ps.drop (s + 1) ++ [(x.1, y.2)])).map pr) = dtw at tw ⊢
  with_reducible refine w_appE (by rw [List.length_append]; omega) ?_
  walk_at "w"
  rw [show (D.tup [.int x.1, .int x.2]) = pr x from rfl]
  with_reducible refine law_bool_pair hG3 (by omega) fun dn g4 hdn hG4 => ?_
  walk_at "w"
  refine cut1 ?_
  walk_at "w"
  refine cut2 (lu _) ?_
  walk_at "w"
  refine w_addL (by simp only [List.length_append, lr0, l8, List.length_cons, List.length_nil]; decide) ?_
  walk_at "w"
  with_reducible refine pick hG4 (by omega) (by simp) (by simp only [List.length_append, lr0, l8, List.length_cons, List.length_nil]; decide) fun d g5 hd hG5 => ?_
  refine k d g5 ?_ (hG5.mono (by omega))
  rcases List.mem_append.mp hd with hd | hd
  · rcases List.mem_append.mp hd with hd | hd
    · rcases List.mem_append.mp hd with hd | hd
      · exact five d hd
      · exact eight d hd
    · rw [List.mem_singleton.mp hd]
      exact tw
  · rw [List.mem_singleton.mp hd]
    exact it hdn
end
end SH
set_option Elab.async false
set_option linter.all false
set_option maxRecDepth 100000
set_option maxHeartbeats 2000000
/-! Values that are no book; what a book must be; what is sure. -/
open PySem PySem.Spec PyProof.Rows L2 DL
namespace SH
open DL.Enc (enc)
section
variable {g : G} {P : D → G → Prop} {E : XE} {d : D} {m : Nat}
theorem w_mulT {v : D} {k : Int} (h0 : 0 ≤ k) (h1 : k ≤ 1000) (h : P (.tup (List.replicate k.toNat v)) g) : OpP (dMul (.tup [v]) (.int k)) P g := op_some (rep_tup h0 h1) h
/-- no book, but a plain value -/
def NoBk (d : D) : Prop := Ok 4 d ∧ bookB d = false
theorem bookB_empty : bookB (.tup []) = false := rfl
theorem law_book6 (hG : GI m g) (hm : 500 ≤ m) (k : ∀ (b : List Pl) g', BookM b → b.length ≤ 6 → GI (m - 500) g' → P (bk b) g') : (f__law_book [.st, .int 6] g).all P E := law_book_drawn (most := 6) (by decide) (by decide) hG hm k
theorem law_book16 (hG : GI m g) (hm : 500 ≤ m) (k : ∀ (b : List Pl) g', BookM b → b.length ≤ 16 → GI (m - 500) g' → P (bk b) g') : (f__law_book [.st, .int 16] g).all P E := law_book_drawn (most := 16) (by decide) (by decide) hG hm k
theorem law_bad_book (hG : GI m g) (hm : 600 ≤ m) (k : ∀ d g', NoBk d → GI (m - 600) g' → P d g') : (f__law_bad_book [.st] g).all P E := by
  unfold f__law_bad_book
  with_reducible refine w_fn ?_
  unfold t__law_bad_book
  walk_at "w"
  with_reducible refine law_book6 hG (by omega) fun (b : List Pl) g1 hb hbl hG1 => ?_
  walk_at "w"
  rw [show bk b = .tup (b.map pl) from rfl]
  walk_at "w"
  have hb1 := hb.l1
  with_reducible refine draw hG1 (by omega) (by rw [List.length_map]; omega) (by rw [List.length_map]; omega) fun s g2 hs hG2 => ?_
  rw [List.length_map] at hs
  walk_at "w"
  with_reducible refine law_bad_plan hG2 (by omega) fun d g3 hd hG3 => ?_
  walk_at "w"
  have okb : ∀ x ∈ b.map pl, Ok 3 x := fun x hx => by
    obtain ⟨ps, hps, rfl⟩ := List.mem_map.mp hx
    have := (hb.pl ps hps).len (by decide)
    exact (ok_pl ps (by omega)).mono (by decide)
  have la : (b.take s).length = s := by rw [List.length_take]; omega
  have lb : (b.drop (s + 1)).length = b.length - (s + 1) := List.length_drop ..
  have cut1 : ∀ {T : D → G → Prop} {item : D} {g : G}, T (.tup ((b.take s).map pl ++ [item])) g → OpP (dAdd (.tup (DL.cutD (b.map pl) none (some (s : Int)))) (.tup [item])) T g := fun {T item g} h => by
    rw [cut_take, ← List.map_take]
    exact w_addT (by rw [List.length_map, la]; show _ + 1 ≤ _; omega) h
  have cut2 : ∀ {T : D → G → Prop} {u : List D} {g : G}, u.length ≤ 900 → T (.tup (u ++ (b.drop (s + 1)).map pl)) g → OpP (dAdd (.tup u) (.tup (DL.cutD (b.map pl) (some ((s : Int) + 1)) none))) T g := fun {T u g} hu h => by
    rw [show (s : Int) + 1 = ((s + 1 : Nat) : Int) by omega, cut_drop, ← List.map_drop]
    exact w_addT (by rw [List.length_map, lb]; omega) h
  have lu : ∀ item : D, ((b.take s).map pl ++ [item]).length ≤ 900 := fun item => by
    rw [List.length_append, List.length_map, la]
    show _ + 1 ≤ _
    omega
  have it : Ok 4 (.tup ((b.take s).map pl ++ [d] ++ (b.drop (s + 1)).map pl)) := by
    refine .tup ?_ fun x hx => ?_
    · rw [List.length_append, List.length_append, List.length_map, List.length_map, la, lb]
      show s + 1 + _ ≤ _
      omega
    · rcases List.mem_append.mp hx with hx | hx
      · rcases List.mem_append.mp hx with hx | hx
        · exact okb x (by rw [List.map_take] at hx; exact List.mem_of_mem_take hx)
        · rw [List.mem_singleton.mp hx]; exact hd.1
      · exact okb x (by rw [List.map_drop] at hx; exact List.mem_of_mem_drop hx)
  refine cut1 ?_
  walk_at "w"
  refine cut2 (lu _) ?_
  walk_at "w"
  refine cut1 ?_
  walk_at "w"
  refine cut2 (lu _) ?_
  walk_at "w"
  generalize D.tup ((b.take s).map pl ++ [d] ++ (b.drop (s + 1)).map pl) = x at it ⊢
  refine w_mulT (by decide) (by decide) ?_
  walk_at "w"
  have all : ∀ y ∈ [x, x, .lst (b.map pl), .tup [], .non, .int 5, .dct [], d] ++ [D.tup (List.replicate (17 : Int).toNat (.tup []))], Ok 4 y := fun y hy => by
    simp only [List.cons_append, List.nil_append, List.mem_cons, List.not_mem_nil, or_false] at hy
    rcases hy with rfl | rfl | rfl | rfl | rfl | rfl | rfl | rfl | rfl
    · exact it
    · exact it
    · exact .lst (by rw [List.length_map]; omega) okb
    · exact .tup (by show 0 ≤ 1000; decide) fun _ h => nomatch h
    · exact .non
    · exact .int _
    · exact .dct0
    · exact hd.1.mono (by decide)
    · exact .tup (by decide) fun z hz => by
        rw [List.eq_of_mem_replicate hz]
        exact .tup (by show 0 ≤ 1000; decide) fun _ h => nomatch h
  have mem : D.tup [] ∈ [x, x, .lst (b.map pl), .tup [], .non, .int 5, .dct [], d] ++ [D.tup (List.replicate (17 : Int).toNat (.tup []))] := by simp
  have len : ([x, x, .lst (b.map pl), .tup [], .non, .int 5, .dct [], d] ++ [D.tup (List.replicate (17 : Int).toNat (.tup []))]).length = 9 := rfl
  refine w_addL (by show 8 + 1 ≤ 1000; decide) ?_
  generalize [x, x, .lst (b.map pl), .tup [], .non, .int 5, .dct [], d] ++ [D.tup (List.replicate (17 : Int).toNat (.tup []))] = r at all mem len ⊢
  walk_at "w"
  refine w_lcF (fun y => !bookB y) (fun y => y) (fun y hy => ⟨_, rfl, ?_⟩) ?_
  · walk_at "w"
    refine law_book (all y hy) ?_
    walk_at "w"
    refine ⟨⟨rfl, rfl⟩, fun _ => ?_⟩
    walk_at "w"
    exact ⟨rfl, rfl⟩
  rw [List.map_id']
  walk_at "w"
  with_reducible refine pick hG3 (by omega) (fun e => ?_) (Nat.le_trans (List.length_filter_le _ _) (by omega)) fun y g4 hy hG4 => ?_
  · have : D.tup [] ∈ r.filter fun y => !bookB y := List.mem_filter.mpr ⟨mem, rfl⟩
    rw [e] at this
    cases this
  · obtain ⟨h1, h2⟩ := List.mem_filter.mp hy
    exact k y g4 ⟨all y h1, by simpa using h2⟩ (hG4.mono (by omega))
/-! ### what a book must be -/
theorem need_book (h : Ok 4 d) (k : bookB d = true → P .non g) (kx : bookB d = false → E "BadBook" Str.empty [] g) : (f_need_book [d] g).all P E := by
  unfold f_need_book
  with_reducible refine w_fn ?_
  unfold t_need_book
  walk_at "w"
  refine books_right h ?_
  walk_at "w"
  refine w_nb (fun h => ?_) fun h => ?_
  · walk_at "w"
    exact kx h
  · exact k h
/-! ### what is sure -/
/-- how many plans have k pairs or more -/
def wideN (b : List Pl) (k : Int) : Nat := (b.filter fun ps => decide (k ≤ (ps.length : Int))).length
def reach (b : List Pl) (k : Int) : Bool := decide (2 * k - 1 ≤ (wideN b k : Int))
def sureZ (b : List Pl) : Int := [1, 2, 3, 4, 5, 6, 7, 8].foldl (fun f k => if reach b k = true then k else f) 0
theorem wideN_le (b : List Pl) (k : Int) : wideN b k ≤ b.length := List.length_filter_le _ _
theorem sure_of {b : List Pl} (hb : BookM b) (k : P (.int (sureZ b)) g) : (f_sure_of [bk b] g).all P E := by
  unfold f_sure_of
  with_reducible refine w_fn ?_
  unfold t_sure_of
  have h16 := hb.l2
  rw [show bk b = .tup (b.map pl) from rfl]
  walk_at "w"
  refine w_for (fun l ρ g' => g' = g ∧ ∃ (ks : List Int) (f : Int) (x2 : Option (Bool × D)), l = ks.map D.int ∧ ρ = [some (false, .tup (b.map pl)), some (false, .int f), x2, none] ∧ (∀ k ∈ ks, 1 ≤ k ∧ k ≤ 8) ∧ ks.foldl (fun f k => if reach b k = true then k else f) f = sureZ b) ?_ ?_ ?_
  · walk_at "w"
    exact ⟨rfl, [1, 2, 3, 4, 5, 6, 7, 8], 0, none, rfl, rfl, by decide, rfl⟩
  · rintro d l ρ g' ⟨rfl, ks, f, x2, e, rfl, hr, hf⟩
    match ks, e, hr, hf with
    | k1 :: ks, e, hr, hf =>
    obtain ⟨rfl, rfl⟩ := List.cons.inj e
    have hk := hr k1 List.mem_cons_self
    refine ⟨_, rfl, ?_⟩
    walk_at "w"
    refine w_lcTF (fun ps : Pl => decide (k1 ≤ (ps.length : Int))) pl (fun ps _ => ⟨_, rfl, ?_⟩) ?_
    · unfold pl
      walk_at "w"
      rw [List.length_map]
      refine ⟨⟨rfl, rfl⟩, fun _ => ?_⟩
      walk_at "w"
      exact ⟨rfl, rfl⟩
    walk_at "w"
    rw [List.length_map]
    refine w_mulI (by omega) ?_
    walk_at "w"
    have nxt : ∀ {f2 : Int}, f2 = (if reach b k1 = true then k1 else f) → g' = g' ∧ ∃ (ks' : List Int) (f : Int) (x2 : Option (Bool × D)), List.map D.int ks = ks'.map D.int ∧ [some (false, D.tup (b.map pl)), some (false, D.int f2), some (false, D.int k1), none] = [some (false, .tup (b.map pl)), some (false, .int f), x2, none] ∧ (∀ k ∈ ks', 1 ≤ k ∧ k ≤ 8) ∧ ks'.foldl (fun f k => if reach b k = true then k else f) f = sureZ b := fun e =>
      ⟨rfl, ks, _, _, rfl, rfl, fun k hk => hr k (List.mem_cons_of_mem _ hk), by rw [e]; exact hf⟩
    refine w_dec (fun h => ?_) fun h => ?_
    · walk_at "w"
      exact nxt (by rw [if_pos (show reach b k1 = true from decide_eq_true h)])
    · walk_at "w"
      exact nxt (by rw [if_neg (show ¬ reach b k1 = true from by unfold reach wideN; rw [decide_eq_false h]; decide)])
  · rintro ρ g' ⟨rfl, ks, f, x2, e, rfl, _, hf⟩
    cases ks with
    | cons _ _ => cases e
    | nil =>
      walk_at "w"
      rw [show f = sureZ b from hf]
      exact k
theorem sure_ok {b : List Pl} (hb : BookM b) (k : P (.int (sureZ b)) g) : (f_sure [bk b] g).all P E := by
  unfold f_sure
  with_reducible refine w_fn ?_
  unfold t_sure
  walk_at "w"
  refine need_book ((ok_bk hb).mono (by decide)) (fun _ => ?_) fun h => ?_
  · walk_at "w"
    exact sure_of hb k
  · rw [bookB_bk hb] at h
    cases h
theorem sure_bad (h : NoBk d) (k : E "BadBook" Str.empty [] g) : (f_sure [d] g).all P E := by
  unfold f_sure
  with_reducible refine w_fn ?_
  unfold t_sure
  walk_at "w"
  refine need_book h.1 (fun q => ?_) fun _ => k
  rw [h.2] at q
  cases q
end
/-! ### the law's own number -/
theorem fold_max0 {l : List Int} (h : ∀ x ∈ l, 0 ≤ x) (s : l.Pairwise (· ≤ ·)) : ∀ n : Int, (∀ x ∈ l, n ≤ x) → l.foldl (fun a b => if b > a then b else a) n = l.foldl (fun _ k => k) n := by
  induction l with
  | nil => intro n _; rfl
  | cons a l ih =>
    intro n hn
    rw [List.pairwise_cons] at s
    rw [List.foldl_cons, List.foldl_cons]
    have : (if a > n then a else n) = a := by
      have := hn a List.mem_cons_self
      split <;> omega
    rw [this]
    exact ih (fun x hx => h x (List.mem_cons_of_mem _ hx)) s.2 a s.1
theorem fold_filter (B : Int → Bool) : ∀ (l : List Int) (n : Int), l.foldl (fun f k => if B k = true then k else f) n = (l.filter B).foldl (fun _ k => k) n
  | [], n => rfl
  | a :: l, n => by
    rw [List.foldl_cons, fold_filter B l]
    cases h : B a with
    | true => rw [List.filter_cons_of_pos h]; rfl
    | false => rw [List.filter_cons_of_neg (by rw [h]; decide)]; rfl
def nums (b : List Pl) : List Int := [1, 2, 3, 4, 5, 6, 7, 8].filter (reach b)
theorem due_sure (b : List Pl) : fMaxS [.lst ([.int 0] ++ (nums b).map D.int)] = some (.int (sureZ b)) := by
  show ((intsOf ((0 :: nums b).map D.int)).bind greatest).map D.int = _
  rw [intsOf_map]
  show some (D.int ((nums b).foldl (fun a b => if b > a then b else a) 0)) = _
  have r : ∀ x ∈ nums b, 1 ≤ x := fun x hx => by
    exact (show ∀ x ∈ ([1, 2, 3, 4, 5, 6, 7, 8] : List Int), 1 ≤ x by decide) x (List.mem_filter.mp hx).1
  rw [fold_max0 (l := nums b) (fun x hx => by have := r x hx; omega) (List.Pairwise.filter _ (by decide)) 0 fun x hx => by have := r x hx; omega]
  unfold sureZ
  rw [fold_filter]
  rfl
theorem sureZ_le (b : List Pl) : 0 ≤ sureZ b ∧ sureZ b ≤ 8 := by
  unfold sureZ
  have key : ∀ (l : List Int) (n : Int), (0 ≤ n ∧ n ≤ 8) → (∀ x ∈ l, 0 ≤ x ∧ x ≤ 8) → 0 ≤ l.foldl (fun f k => if reach b k = true then k else f) n ∧ l.foldl (fun f k => if reach b k = true then k else f) n ≤ 8 := by
    intro l
    induction l with
    | nil => intro n hn _; exact hn
    | cons a l ih =>
      intro n hn hl
      rw [List.foldl_cons]
      refine ih _ ?_ fun x hx => hl x (List.mem_cons_of_mem _ hx)
      split
      · exact hl a List.mem_cons_self
      · exact hn
  exact key _ _ (by decide) (by decide)
theorem sureZ_none (n : Nat) : sureZ (List.replicate n []) = 0 := by
  have e : nums (List.replicate n []) = [] := by
    unfold nums
    rw [List.filter_eq_nil_iff]
    intro x hx
    have hx := (show ∀ x ∈ ([1, 2, 3, 4, 5, 6, 7, 8] : List Int), 1 ≤ x by decide) x hx
    unfold reach wideN
    rw [List.filter_replicate, if_neg (by simp; omega)]
    simp
    omega
  unfold sureZ
  rw [fold_filter]
  show (nums (List.replicate n [])).foldl _ _ = _
  rw [e]
  rfl
theorem okr2 {w : Int} (h0 : -100 ≤ w) (h1 : w ≤ 100) : okR (.list [.int w, .int w]) = true := by
  have h : ∀ n ∈ List.range 201, okR (.list [.int ((n : Int) - 100), .int ((n : Int) - 100)]) = true := by decide +kernel
  have e := h (w + 100).toNat (List.mem_range.mpr (by omega))
  have q : (((w + 100).toNat : Nat) : Int) - 100 = w := by omega
  rw [q] at e
  exact e
theorem w_repr {d : D} {p : PyData} {P : D → G → Prop} {g : G} (e : d.py = some p) (ho : okR p = true) (h : P (.str p.shown) g) : OpP (fRepr [d]) P g := by
  refine op_some ?_ h
  unfold fRepr
  dsimp only
  rw [e]
  dsimp only
  rw [if_pos ho]
theorem w_neSelf {x : Str} {P : D → G → Prop} {g : G} (h : P (.bl false) g) : OpP (dNe (.str x) (.str x)) P g := op_some (dNe_str_self x) h
theorem w_eqSelf {x : Str} {P : D → G → Prop} {g : G} (h : P (.bl true) g) : OpP (dEq (.str x) (.str x)) P g := op_some (by show (some (decide (x = x))).map D.bl = _; rw [decide_eq_true rfl]; rfl) h
end SH
set_option Elab.async false
set_option linter.all false
set_option maxRecDepth 100000
set_option maxHeartbeats 2000000
/-! Odd values; is_plan, is_book. -/
open PySem PySem.Spec PyProof.Rows L2 DL
namespace SH
open DL.Enc (enc)
section
variable {g : G} {P : D → G → Prop} {E : XE} {d : D} {m : Nat}
theorem ok_one {n : Nat} {x : D} (h : Ok n x) : ∀ y ∈ [x], Ok n y := fun y hy => by rw [List.mem_singleton.mp hy]; exact h
theorem law_odd (hG : GI m g) (hm : 1 ≤ m) (k : ∀ d g', Ok 2 d → GI (m - 1) g' → P d g') : (f__law_odd [.st] g).all P E := by
  unfold f__law_odd
  with_reducible refine w_fn ?_
  unfold t__law_odd
  walk_at "w"
  refine op_some (a := [(.int 0, .int 0)]) rfl ?_
  walk_at "w"
  with_reducible refine pick hG hm (by simp) (by simp only [List.length_cons, List.length_nil]; decide) fun d g1 hd hG1 => ?_
  refine k d g1 ?_ hG1
  simp only [List.mem_cons, List.not_mem_nil, or_false] at hd
  rcases hd with rfl | rfl | rfl | rfl | rfl | rfl | rfl | rfl | rfl | rfl | rfl | rfl | rfl | rfl
  · exact .non
  · exact .bl _
  · exact .bl _
  · exact .str _
  · exact .str _
  · exact .lst (by show 0 ≤ 1000; decide) fun _ h => nomatch h
  · exact .dct0
  · exact .tup (by show 1 ≤ 1000; decide) (ok_one .non)
  · exact .tup (by show 2 ≤ 1000; decide) fun z hz => by
      rcases List.mem_cons.mp hz with rfl | hz
      · exact .str _
      · rw [List.mem_singleton.mp hz]; exact .int _
  · exact .lst (by show 1 ≤ 1000; decide) (ok_one (.lst (by show 1 ≤ 1000; decide) (ok_one (.int _))))
  · exact .dct0
  · exact .tup (by show 1 ≤ 1000; decide) (ok_one (.bl _))
  · exact .int _
  · exact .int _
theorem is_plan (h : Ok 3 d) (k : P (.bl (planB d)) g) : (f_is_plan [d] g).all P E := by
  unfold f_is_plan
  with_reducible refine w_fn ?_
  unfold t_is_plan
  walk_at "w"
  exact plans_right h k
theorem is_book (h : Ok 4 d) (k : P (.bl (bookB d)) g) : (f_is_book [d] g).all P E := by
  unfold f_is_book
  with_reducible refine w_fn ?_
  unfold t_is_book
  walk_at "w"
  exact books_right h k
theorem okrB (b : Bool) : okR (.list [.bool b, .bool b]) = true := by
  cases b <;> decide +kernel
end
end SH
set_option Elab.async false
set_option linter.all false
set_option maxRecDepth 100000
set_option maxHeartbeats 2000000
/-! What plans tell. -/
open PySem PySem.Spec PyProof.Rows L2 DL
namespace SH
open DL.Enc (enc)
def ips (l : List Int) : D := .tup (l.map D.int)
def sw (p : Pr) : Pr := (p.2, p.1)
def turnP (ps : Pl) : Pl := sortP (ps.map sw)
section
variable {g : G} {P : D → G → Prop} {E : XE} {d : D} {m : Nat}
theorem need_plan (h : Ok 3 d) (k : planB d = true → P .non g) (kx : planB d = false → E "BadPlan" Str.empty [] g) : (f_need_plan [d] g).all P E := by
  unfold f_need_plan
  with_reducible refine w_fn ?_
  unfold t_need_plan
  walk_at "w"
  refine plans_right h ?_
  walk_at "w"
  refine w_nb (fun h => ?_) fun h => ?_
  · walk_at "w"
    exact kx h
  · exact k h
theorem PlanM.l8 {ps : Pl} (h : PlanM 8 ps) : ps.length ≤ 8 := by have := h.len (by decide); omega
theorem PlanM.ok {ps : Pl} (h : PlanM 8 ps) : Ok 2 (pl ps) := ok_pl _ (by have := h.l8; omega)
theorem map_fst_D (ps : Pl) : (ps.map fun p => D.int p.1) = (ps.map (·.1)).map D.int := by rw [List.map_map]; rfl
theorem map_snd_D (ps : Pl) : (ps.map fun p => D.int p.2) = (ps.map (·.2)).map D.int := by rw [List.map_map]; rfl
theorem persons_in {ps : Pl} (hl : ps.length ≤ 1000) (k : P (ips (ps.map (·.1))) g) : (f_persons_in [pl ps] g).all P E := by
  unfold f_persons_in
  with_reducible refine w_fn ?_
  unfold t_persons_in pl
  walk_at "w"
  refine w_lcT (fun p => .int p.1) (fun p _ => ⟨_, rfl, ?_⟩) ?_
  · walk_at "w"
    exact ⟨rfl, rfl⟩
  rw [map_fst_D]
  walk_at "w"
  exact k
theorem desks_in {ps : Pl} (hl : ps.length ≤ 1000) (k : P (ips (sortI (ps.map (·.2)))) g) : (f_desks_in [pl ps] g).all P E := by
  unfold f_desks_in
  with_reducible refine w_fn ?_
  unfold t_desks_in pl
  walk_at "w"
  refine w_lcT (fun p => .int p.2) (fun p _ => ⟨_, rfl, ?_⟩) ?_
  · walk_at "w"
    exact ⟨rfl, rfl⟩
  rw [map_snd_D]
  walk_at "w"
  refine w_sortI (by rw [List.length_map]; exact hl) ?_
  walk_at "w"
  exact k
theorem turned_plan {ps : Pl} (hl : ps.length ≤ 1000) (k : P (pl (turnP ps)) g) : (f_turned_plan [pl ps] g).all P E := by
  unfold f_turned_plan
  with_reducible refine w_fn ?_
  unfold t_turned_plan pl
  walk_at "w"
  refine w_lcT (fun p => pr (sw p)) (fun p _ => ⟨_, rfl, ?_⟩) ?_
  · walk_at "w"
    exact ⟨by show 2 ≤ 1000; decide, rfl, rfl⟩
  rw [show (ps.map fun p => pr (sw p)) = (ps.map sw).map pr by rw [List.map_map]; rfl]
  walk_at "w"
  refine w_sortP (by rw [List.length_map]; exact hl) ?_
  walk_at "w"
  exact k
theorem turn_plan {ps : Pl} (h : PlanM 8 ps) : PlanM 8 (turnP ps) := by
  have pm := sortP_perm (ps.map sw)
  have m1 : (ps.map sw).map (·.1) = ps.map (·.2) := by rw [List.map_map]; rfl
  have m2 : (ps.map sw).map (·.2) = ps.map (·.1) := by rw [List.map_map]; rfl
  refine ⟨fun p hp => ?_, strict_of (sortP_pair _) ?_, ?_⟩
  · obtain ⟨q, hq, rfl⟩ := List.mem_map.mp (pm.mem_iff.mp hp)
    have := h.rng q hq
    exact ⟨this.2.2.1, this.2.2.2, this.1, this.2.1⟩
  · exact (pm.map _).nodup_iff.mpr (by rw [m1]; exact h.nd)
  · exact (pm.map _).nodup_iff.mpr (by rw [m2]; exact h.nd1)
/-- two plans with the same pairs are the same -/
theorem plan_perm {w v : Int} {a b : Pl} (ha : PlanM w a) (hb : PlanM v b) (p : a.Perm b) : a = b :=
  List.Perm.eq_of_pairwise (fun x y _ _ h1 h2 => by omega) ha.srt hb.srt p
theorem turn_turn {ps : Pl} (h : PlanM 8 ps) : turnP (turnP ps) = ps := by
  refine plan_perm (turn_plan (turn_plan h)) h ?_
  have p1 := sortP_perm ((turnP ps).map sw)
  have p2 := (sortP_perm (ps.map sw)).map sw
  have e : (ps.map sw).map sw = ps := by
    rw [List.map_map]
    exact List.map_id ps
  rw [e] at p2
  exact p1.trans p2
theorem persons_of {ps : Pl} (h : PlanM 8 ps) (k : P (ips (ps.map (·.1))) g) : (f_persons_of [pl ps] g).all P E := by
  unfold f_persons_of
  with_reducible refine w_fn ?_
  unfold t_persons_of
  walk_at "w"
  refine need_plan (h.ok.mono (by decide)) (fun _ => ?_) fun q => by rw [planB_pl h] at q; cases q
  walk_at "w"
  exact persons_in (by have := h.l8; omega) k
theorem desks_of {ps : Pl} (h : PlanM 8 ps) (k : P (ips (sortI (ps.map (·.2)))) g) : (f_desks_of [pl ps] g).all P E := by
  unfold f_desks_of
  with_reducible refine w_fn ?_
  unfold t_desks_of
  walk_at "w"
  refine need_plan (h.ok.mono (by decide)) (fun _ => ?_) fun q => by rw [planB_pl h] at q; cases q
  walk_at "w"
  exact desks_in (by have := h.l8; omega) k
theorem turned {ps : Pl} (h : PlanM 8 ps) (k : P (pl (turnP ps)) g) : (f_turned [pl ps] g).all P E := by
  unfold f_turned
  with_reducible refine w_fn ?_
  unfold t_turned
  walk_at "w"
  refine need_plan (h.ok.mono (by decide)) (fun _ => ?_) fun q => by rw [planB_pl h] at q; cases q
  walk_at "w"
  exact turned_plan (by have := h.l8; omega) k
theorem persons_bad (h : NoPl d) (k : E "BadPlan" Str.empty [] g) : (f_persons_of [d] g).all P E := by
  unfold f_persons_of
  with_reducible refine w_fn ?_
  unfold t_persons_of
  walk_at "w"
  exact need_plan h.1 (fun q => by rw [h.2] at q; cases q) fun _ => k
theorem desks_bad (h : NoPl d) (k : E "BadPlan" Str.empty [] g) : (f_desks_of [d] g).all P E := by
  unfold f_desks_of
  with_reducible refine w_fn ?_
  unfold t_desks_of
  walk_at "w"
  exact need_plan h.1 (fun q => by rw [h.2] at q; cases q) fun _ => k
theorem turned_bad (h : NoPl d) (k : E "BadPlan" Str.empty [] g) : (f_turned [d] g).all P E := by
  unfold f_turned
  with_reducible refine w_fn ?_
  unfold t_turned
  walk_at "w"
  exact need_plan h.1 (fun q => by rw [h.2] at q; cases q) fun _ => k
/-- the pairs of both -/
def both (a b : Pl) : Pl := a.filter fun p => decide (p ∈ b)
theorem in_pl (p : Pr) (b : Pl) : dIn (pr p) (pl b) = some (.bl (decide (p ∈ b))) := (dIn_tup p b).trans (congrArg (fun c => some (D.bl c)) (decide_eq_decide.mpr Iff.rfl))
theorem met_ok {a b : Pl} (ha : PlanM 8 a) (hb : PlanM 8 b) (k : P (pl (both a b)) g) : (f_met [pl a, pl b] g).all P E := by
  have := ha.l8
  unfold f_met
  with_reducible refine w_fn ?_
  unfold t_met
  walk_at "w"
  refine need_plan (ha.ok.mono (by decide)) (fun _ => ?_) fun q => by rw [planB_pl ha] at q; cases q
  walk_at "w"
  refine need_plan (hb.ok.mono (by decide)) (fun _ => ?_) fun q => by rw [planB_pl hb] at q; cases q
  rw [show pl a = .tup (a.map pr) from rfl]
  walk_at "w"
  refine w_lcTF (fun p => decide (p ∈ b)) pr (fun p _ => ⟨_, rfl, ?_⟩) ?_
  · walk_at "w"
    refine op_some (in_pl p b) ?_
    walk_at "w"
    refine ⟨⟨rfl, rfl⟩, fun _ => ?_⟩
    walk_at "w"
    exact ⟨rfl, rfl⟩
  walk_at "w"
  exact k
theorem both_comm {w v : Int} {a b : Pl} (ha : PlanM w a) (hb : PlanM v b) : both a b = both b a := by
  have key : ∀ {w : Int} {a b : Pl}, PlanM w a → PlanM w (both a b) := fun h => ⟨fun p hp => h.rng p (List.mem_filter.mp hp).1, h.srt.sublist List.filter_sublist, (List.filter_sublist.map _).nodup h.nd⟩
  refine plan_perm (key ha) (key hb) ?_
  have nd : ∀ {w : Int} {a : Pl}, PlanM w a → a.Nodup := fun h => nodup_of_map _ h.nd1
  refine (List.perm_ext_iff_of_nodup (nd (key ha)) (nd (key hb))).mpr fun p => ?_
  unfold both
  rw [List.mem_filter, List.mem_filter, decide_eq_true_eq, decide_eq_true_eq]
  exact And.comm
theorem met_bad1 (h : NoPl d) {d2 : D} (k : E "BadPlan" Str.empty [] g) : (f_met [d, d2] g).all P E := by
  unfold f_met
  with_reducible refine w_fn ?_
  unfold t_met
  walk_at "w"
  exact need_plan h.1 (fun q => by rw [h.2] at q; cases q) fun _ => k
theorem met_bad2 {a : Pl} (ha : PlanM 8 a) (h : NoPl d) (k : E "BadPlan" Str.empty [] g) : (f_met [pl a, d] g).all P E := by
  unfold f_met
  with_reducible refine w_fn ?_
  unfold t_met
  walk_at "w"
  refine need_plan (ha.ok.mono (by decide)) (fun _ => ?_) fun q => by rw [planB_pl ha] at q; cases q
  walk_at "w"
  exact need_plan h.1 (fun q => by rw [h.2] at q; cases q) fun _ => k
end
end SH
set_option Elab.async false
set_option linter.all false
set_option maxRecDepth 100000
set_option maxHeartbeats 2000000
/-! Texts of values: repr. -/
open PySem PySem.Spec PyProof.Rows L2 DL
namespace SH
/-- a text can be made of p -/
structure Rs (p : PyData) (w d : Nat) : Prop where
  s : p.showable = true
  l : p.leavesShort 13 = true
  w : p.weight ≤ w
  d : p.depth ≤ d
theorem Rs.ok {p : PyData} {w d : Nat} (r : Rs p w d) (hw : w ≤ 2 ^ 20) (hd : d ≤ 64) : okR p = true := by
  unfold okR
  rw [r.s, r.l, decide_eq_true (Nat.le_trans r.w hw), decide_eq_true (Nat.le_trans r.d hd)]
  rfl
theorem Rs.mono {p : PyData} {w d w' d' : Nat} (r : Rs p w d) (hw : w ≤ w') (hd : d ≤ d') : Rs p w' d' := ⟨r.s, r.l, Nat.le_trans r.w hw, Nat.le_trans r.d hd⟩
theorem rs_int {i : Int} (h0 : -100 ≤ i) (h1 : i ≤ 1000) : Rs (.int i) 20 0 := by
  have h : ∀ n ∈ List.range 1101, ((PyData.int ((n : Int) - 100)).showable && (PyData.int ((n : Int) - 100)).leavesShort 13 && decide ((PyData.int ((n : Int) - 100)).weight ≤ 20)) = true := by decide +kernel
  have e := h (i + 100).toNat (List.mem_range.mpr (by omega))
  have q : (((i + 100).toNat : Nat) : Int) - 100 = i := by omega
  rw [q, Bool.and_eq_true, Bool.and_eq_true, decide_eq_true_eq] at e
  exact ⟨e.1.1, e.1.2, e.2, by simp only [PyData.depth]; exact Nat.le_refl _⟩
theorem rs_bool (b : Bool) : Rs (.bool b) 20 0 := ⟨by simp only [PyData.showable], by simp only [PyData.leavesShort], by simp only [PyData.weight]; exact Nat.zero_le _, by simp only [PyData.depth]; exact Nat.le_refl _⟩
theorem rs_none : Rs .none 20 0 := ⟨by simp only [PyData.showable], by simp only [PyData.leavesShort], by simp only [PyData.weight]; exact Nat.zero_le _, by simp only [PyData.depth]; exact Nat.le_refl _⟩
theorem rs_all {w d : Nat} : ∀ {l : List PyData}, (∀ x ∈ l, Rs x w d) → PyData.showableAll l = true ∧ PyData.leavesShortAll 13 l = true ∧ PyData.weightAll l ≤ l.length * (w + 1) ∧ PyData.depthAll l ≤ d
  | [], _ => ⟨by simp only [PyData.showableAll], by simp only [PyData.leavesShortAll], by simp only [PyData.weightAll]; exact Nat.zero_le _, by simp only [PyData.depthAll]; exact Nat.zero_le _⟩
  | x :: l, h => by
    obtain ⟨h1, h2, h4, h5⟩ := rs_all (l := l) fun y hy => h y (List.mem_cons_of_mem _ hy)
    have r := h x List.mem_cons_self
    refine ⟨?_, ?_, ?_, ?_⟩
    · simp only [PyData.showableAll, r.s, h1, Bool.and_self]
    · simp only [PyData.leavesShortAll, r.l, h2, Bool.and_self]
    · simp only [PyData.weightAll, List.length_cons]
      have := r.w
      rw [Nat.add_mul, Nat.one_mul]
      omega
    · simp only [PyData.depthAll]
      exact Nat.max_le.mpr ⟨r.d, h5⟩
theorem rs_tup {w d n : Nat} {l : List PyData} (h : ∀ x ∈ l, Rs x w d) (hn : l.length ≤ n) : Rs (.tuple l) (n * (w + 1)) (d + 1) := by
  obtain ⟨h1, h2, h4, h5⟩ := rs_all h
  exact ⟨by simp only [PyData.showable]; exact h1, by simp only [PyData.leavesShort]; exact h2, by simp only [PyData.weight]; exact Nat.le_trans h4 (Nat.mul_le_mul_right _ hn), by simp only [PyData.depth]; omega⟩
theorem rs_lst {w d n : Nat} {l : List PyData} (h : ∀ x ∈ l, Rs x w d) (hn : l.length ≤ n) : Rs (.list l) (n * (w + 1)) (d + 1) := by
  obtain ⟨h1, h2, h4, h5⟩ := rs_all h
  exact ⟨by simp only [PyData.showable]; exact h1, by simp only [PyData.leavesShort]; exact h2, by simp only [PyData.weight]; exact Nat.le_trans h4 (Nat.mul_le_mul_right _ hn), by simp only [PyData.depth]; omega⟩
theorem rs_kv {w d : Nat} : ∀ {l : List (PyData × PyData)}, (∀ x ∈ l, Rs x.1 w d ∧ Rs x.2 w d) → PyData.showableKv l = true ∧ PyData.leavesShortKv 13 l = true ∧ PyData.weightKv l ≤ l.length * (2 * (w + 2)) ∧ PyData.depthKv l ≤ d
  | [], _ => ⟨by simp only [PyData.showableKv], by simp only [PyData.leavesShortKv], by simp only [PyData.weightKv]; exact Nat.zero_le _, by simp only [PyData.depthKv]; exact Nat.zero_le _⟩
  | (x, y) :: l, h => by
    obtain ⟨h1, h2, h4, h5⟩ := rs_kv (l := l) fun y hy => h y (List.mem_cons_of_mem _ hy)
    obtain ⟨r, q⟩ := h (x, y) List.mem_cons_self
    refine ⟨?_, ?_, ?_, ?_⟩
    · simp only [PyData.showableKv, r.s, q.s, h1, Bool.and_self]
    · simp only [PyData.leavesShortKv, r.l, q.l, h2, Bool.and_self]
    · simp only [PyData.weightKv, List.length_cons]
      have := r.w
      have := q.w
      dsimp only at *
      rw [Nat.add_mul, Nat.one_mul]
      omega
    · simp only [PyData.depthKv]
      have := r.d
      have := q.d
      dsimp only at *
      omega
theorem rs_dct {w d n : Nat} {l : List (PyData × PyData)} (h : ∀ x ∈ l, Rs x.1 w d ∧ Rs x.2 w d) (hn : l.length ≤ n) : Rs (.dict l) (n * (2 * (w + 2))) (d + 1) := by
  obtain ⟨h1, h2, h4, h5⟩ := rs_kv h
  exact ⟨by simp only [PyData.showable]; exact h1, by simp only [PyData.leavesShort]; exact h2, by simp only [PyData.weight]; exact Nat.le_trans h4 (Nat.mul_le_mul_right _ hn), by simp only [PyData.depth]; omega⟩
/-- .. of a value of the layer -/
def RD (x : D) (w d : Nat) : Prop := ∃ p, x.py = some p ∧ Rs p w d
theorem rd_int {i : Int} (h0 : -100 ≤ i) (h1 : i ≤ 1000) : RD (.int i) 20 0 := ⟨_, by rw [D.py], rs_int h0 h1⟩
theorem rd_bool (b : Bool) : RD (.bl b) 20 0 := ⟨_, by rw [D.py], rs_bool b⟩
theorem rd_none : RD .non 20 0 := ⟨_, by rw [D.py], rs_none⟩
theorem rd_all {w d : Nat} : ∀ {l : List D}, (∀ x ∈ l, RD x w d) → ∃ ps, D.pys l = some ps ∧ (∀ p ∈ ps, Rs p w d) ∧ ps.length = l.length
  | [], _ => ⟨[], by rw [D.pys], (fun _ h => nomatch h), rfl⟩
  | x :: l, h => by
    obtain ⟨p, h1, h2⟩ := h x List.mem_cons_self
    obtain ⟨ps, h3, h4, h5⟩ := rd_all (l := l) fun y hy => h y (List.mem_cons_of_mem _ hy)
    refine ⟨p :: ps, by rw [D.pys, h1, h3], fun q hq => ?_, by rw [List.length_cons, List.length_cons, h5]⟩
    rcases List.mem_cons.mp hq with rfl | hq
    · exact h2
    · exact h4 q hq
theorem rd_tup {w d n : Nat} {l : List D} (h : ∀ x ∈ l, RD x w d) (hn : l.length ≤ n) : RD (.tup l) (n * (w + 1)) (d + 1) := by
  obtain ⟨ps, h1, h2, h3⟩ := rd_all h
  exact ⟨.tuple ps, by rw [D.py, h1], rs_tup h2 (by omega)⟩
theorem rd_lst {w d n : Nat} {l : List D} (h : ∀ x ∈ l, RD x w d) (hn : l.length ≤ n) : RD (.lst l) (n * (w + 1)) (d + 1) := by
  obtain ⟨ps, h1, h2, h3⟩ := rd_all h
  exact ⟨.list ps, by rw [D.py, h1], rs_lst h2 (by omega)⟩
theorem rd_kv {w d : Nat} : ∀ {l : List (D × D)}, (∀ x ∈ l, RD x.1 w d ∧ RD x.2 w d) → ∃ ps, D.pyKv l = some ps ∧ (∀ p ∈ ps, Rs p.1 w d ∧ Rs p.2 w d) ∧ ps.length = l.length
  | [], _ => ⟨[], by rw [D.pyKv], (fun _ h => nomatch h), rfl⟩
  | (x, y) :: l, h => by
    obtain ⟨⟨p, h1, h2⟩, q, h3, h4⟩ := h (x, y) List.mem_cons_self
    obtain ⟨ps, h5, h6, h7⟩ := rd_kv (l := l) fun y hy => h y (List.mem_cons_of_mem _ hy)
    dsimp only at h1 h3
    refine ⟨(p, q) :: ps, by rw [D.pyKv, h1, h3, h5], fun r hr => ?_, by rw [List.length_cons, List.length_cons, h7]⟩
    rcases List.mem_cons.mp hr with rfl | hr
    · exact ⟨h2, h4⟩
    · exact h6 r hr
theorem rd_dct {w d n : Nat} {l : List (D × D)} (h : ∀ x ∈ l, RD x.1 w d ∧ RD x.2 w d) (hn : l.length ≤ n) : RD (.dct l) (n * (2 * (w + 2))) (d + 1) := by
  obtain ⟨ps, h1, h2, h3⟩ := rd_kv h
  exact ⟨.dict ps, by rw [D.py, h1], rs_dct h2 (by omega)⟩
theorem RD.mono {x : D} {w d w' d' : Nat} (r : RD x w d) (hw : w ≤ w') (hd : d ≤ d') : RD x w' d' := let ⟨p, h1, h2⟩ := r; ⟨p, h1, h2.mono hw hd⟩
theorem rd_pr {p : Pr} (h : (-100 ≤ p.1 ∧ p.1 ≤ 1000) ∧ -100 ≤ p.2 ∧ p.2 ≤ 1000) : RD (pr p) 42 1 := rd_tup (w := 20) (n := 2) (l := [.int p.1, .int p.2]) (fun x hx => by
  rcases List.mem_cons.mp hx with rfl | hx
  · exact rd_int h.1.1 h.1.2
  · rw [List.mem_singleton.mp hx]; exact rd_int h.2.1 h.2.2) (Nat.le_refl _)
theorem rd_pl {ps : Pl} (h : PlanM 8 ps) : RD (pl ps) 400 2 := (rd_tup (w := 42) (n := 8) (l := ps.map pr) (fun x hx => by
  obtain ⟨p, hp, rfl⟩ := List.mem_map.mp hx
  have := h.rng p hp
  exact rd_pr (by omega)) (by rw [List.length_map]; exact h.l8)).mono (by decide) (Nat.le_refl _)
theorem rd_ips {l : List Int} {n : Nat} (h : ∀ i ∈ l, -100 ≤ i ∧ i ≤ 1000) (hl : l.length ≤ n) : RD (ips l) (n * 21) 1 := rd_tup (w := 20) (fun x hx => by
  obtain ⟨i, hi, rfl⟩ := List.mem_map.mp hx
  exact rd_int (h i hi).1 (h i hi).2) (by rw [List.length_map]; exact hl)
theorem all2 {x y : D} {w d : Nat} (hx : RD x w d) (hy : RD y w d) : ∀ z ∈ [x, y], RD z w d := fun z hz => by
  rcases List.mem_cons.mp hz with rfl | hz
  · exact hx
  · rw [List.mem_singleton.mp hz]; exact hy
theorem all3 {x y u : D} {w d : Nat} (hx : RD x w d) (hy : RD y w d) (hu : RD u w d) : ∀ z ∈ [x, y, u], RD z w d := fun z hz => by
  rcases List.mem_cons.mp hz with rfl | hz
  · exact hx
  · exact all2 hy hu z hz
/-- the text -/
def reprS (x : D) : Str := match x.py with
  | some p => p.shown
  | none => Str.empty
theorem w_reprS {x : D} {w d : Nat} {P : D → G → Prop} {g : G} (r : RD x w d) (hw : w ≤ 2 ^ 20) (hd : d ≤ 64) (h : P (.str (reprS x)) g) : OpP (fRepr [x]) P g := by
  obtain ⟨p, h1, h2⟩ := r
  refine w_repr h1 (h2.ok hw hd) ?_
  unfold reprS at h
  rw [h1] at h
  exact h
end SH
set_option Elab.async false
set_option linter.all false
set_option maxRecDepth 100000
set_option maxHeartbeats 2000000
/-! Picks: values that may be picks, judged. -/
open PySem PySem.Spec PyProof.Rows L2 DL
namespace SH
open DL.Enc (enc)
section
variable {g : G} {P : D → G → Prop} {E : XE} {d : D} {m : Nat}
/-- a dict whose keys are ints, or with one key alone -/
structure PkOk (l : List (D × D)) : Prop where
  len : l.length ≤ 1000
  keys : (∃ ns : List Int, l.map (·.1) = ns.map D.int ∧ ns.Nodup) ∨ ∃ k y, l = [(k, y)] ∧ ∀ i, k ≠ .int i
  pl : ∀ e ∈ l, plain e.1
  vals : ∀ e ∈ l, Ok 3 e.2
def inPl (y : D) (ps : Pl) : Bool := match toPr y with
  | some q => decide (q ∈ ps)
  | none => false
def plAt (b : List Pl) (d : D) : Pl := match d with
  | .int i => b.getD i.toNat []
  | _ => []
def pickB (b : List Pl) (l : List (D × D)) : Bool := (l.all fun e => btw e.1 0 ((b.length : Int) - 1)) && ((l.all fun e => inPl e.2 (plAt b e.1)) && apart (l.filterMap fun e => toPr e.2))
theorem w_isiDct {l : List (D × D)} (h : P (.bl true) g) : OpP (isi0 [.dct l, .ty "dict"]) P g := op_some (by with_unfolding_all exact rfl) h
theorem btw_int {d : D} {lo hi : Int} (h : btw d lo hi = true) : ∃ i, d = .int i ∧ lo ≤ i ∧ i ≤ hi := by
  unfold btw at h
  split at h
  · rename_i i
    rw [Bool.and_eq_true, decide_eq_true_eq, decide_eq_true_eq] at h
    exact ⟨i, rfl, h.1, h.2⟩
  · cases h
theorem look_ints : ∀ {l : List (D × D)} {ns : List Int}, l.map (·.1) = ns.map D.int → ns.Nodup → ∀ e ∈ l, look l e.1 = some e.2
  | [], _, _, _, e, he => nomatch he
  | p :: l, [], h, _, e, he => by simp at h
  | p :: l, n :: ns, h, nd, e, he => by
    obtain ⟨h1, h2⟩ := List.cons.inj h
    have h1 : p.1 = D.int n := h1
    obtain ⟨n1, n2⟩ := List.nodup_cons.mp nd
    unfold look
    rw [List.find?_cons]
    rcases List.mem_cons.mp he with rfl | he
    · rw [show keq e.1 e.1 = true by rw [h1]; show decide (n = n) = true; exact decide_eq_true rfl]
      rfl
    · have hm : e.1 ∈ ns.map D.int := h2 ▸ List.mem_map.mpr ⟨e, he, rfl⟩
      obtain ⟨j, hj, ej⟩ := List.mem_map.mp hm
      rw [show keq p.1 e.1 = false by rw [h1, ← ej]; show decide (n = j) = false; exact decide_eq_false fun w => n1 (w ▸ hj)]
      exact look_ints h2 n2 e he
/-- the keys stand in the book: the dict read -/
theorem PkOk.ix {l : List (D × D)} (h : PkOk l) {n : Int} (hk : (l.all fun e => btw e.1 0 n) = true) : ∀ e ∈ l, dIx (.dct l) e.1 = some e.2 := by
  intro e he
  obtain ⟨i, e1, _⟩ := btw_int (List.all_eq_true.mp hk e he)
  rcases h.keys with ⟨ns, h1, h2⟩ | ⟨k, y, rfl, hn⟩
  · have h3 := look_ints h1 h2 e he
    show (if kOk l e.1 = true then look l e.1 else none) = _
    rw [if_pos (show kOk l e.1 = true from by rw [e1]; show (intsOf (l.map (·.1))).isSome = true; rw [h1, intsOf_map]; rfl), h3]
  · rw [List.mem_singleton.mp he] at e1
    exact absurd e1 (hn i)
theorem ix_book {b : List Pl} {i : Int} (h0 : 0 ≤ i) (h1 : i ≤ (b.length : Int) - 1) : dIx (.tup (b.map pl)) (.int i) = some (pl (b.getD i.toNat [])) := by
  have hl : i.toNat < b.length := by omega
  show L2.atI (b.map pl) i = _
  unfold L2.atI ixN
  rw [if_pos h0, if_pos (by rw [List.length_map]; omega)]
  show (b.map pl)[i.toNat]? = _
  rw [List.getElem?_map, List.getElem?_eq_getElem hl, List.getD_eq_getElem?_getD, List.getElem?_eq_getElem hl]
  rfl
theorem vals_pr {b : List Pl} : ∀ {l : List (D × D)}, (l.all fun e => inPl e.2 (plAt b e.1)) = true → l.map (fun e => e.2) = (l.filterMap fun e => toPr e.2).map pr
  | [], _ => rfl
  | e :: l, h => by
    rw [List.all_cons, Bool.and_eq_true] at h
    have ih := vals_pr h.2
    have h1 := h.1
    unfold inPl at h1
    cases hp : toPr e.2 with
    | none => rw [hp] at h1; cases h1
    | some q => rw [List.filterMap_cons, hp, List.map_cons, List.map_cons, ih, ← (toPr_some hp).1]
theorem picks_right_dct {b : List Pl} {l : List (D × D)} (hb : BookM b) (h : PkOk l) (k : P (.bl (pickB b l)) g) : (f_picks_right [bk b, .dct l] g).all P E := by
  unfold f_picks_right
  with_reducible refine w_fn ?_
  unfold t_picks_right
  have h16 := hb.l2
  rw [show bk b = .tup (b.map pl) from rfl]
  walk_at "w"
  refine w_isiDct ?_
  walk_at "w"
  refine ⟨by rw [List.length_map]; exact h.len, w_lcT (fun e => .bl (btw e.1 0 ((b.length : Int) - 1))) (fun e he => ⟨_, rfl, ?_⟩) ?_⟩
  · walk_at "w"
    rw [List.length_map]
    exact is_between (h.pl e he) ⟨rfl, rfl⟩
  walk_at "w"
  refine op_some (all_bls (fun e : D × D => btw e.1 0 ((b.length : Int) - 1)) l) ?_
  walk_at "w"
  unfold pickB at k
  refine w_nb (fun hk => ?_) fun hk => ?_
  · walk_at "w"
    rw [hk] at k
    exact k
  rw [hk] at k
  have hix := h.ix hk
  walk_at "w"
  refine ⟨by rw [List.length_map]; exact h.len, w_lcT (fun e => .bl (inPl e.2 (plAt b e.1))) (fun e he => ⟨_, rfl, ?_⟩) ?_⟩
  · obtain ⟨i, e1, i0, i1⟩ := btw_int (List.all_eq_true.mp hk e he)
    have ep : plAt b e.1 = b.getD i.toNat [] := by rw [e1]; rfl
    walk_at "w"
    refine op_some (hix e he) ?_
    walk_at "w"
    refine is_pair (h.vals e he) ?_
    walk_at "w"
    unfold inPl
    cases hp : toPr e.2 with
    | none =>
      walk_at "w"
      exact ⟨rfl, rfl⟩
    | some q =>
      walk_at "w"
      refine op_some (hix e he) ?_
      walk_at "w"
      rw [e1]
      refine op_some (ix_book i0 i1) ?_
      rw [(toPr_some hp).1]
      exact op_some (in_pl q _) ⟨rfl, rfl⟩
  walk_at "w"
  refine op_some (all_bls (fun e : D × D => inPl e.2 (plAt b e.1)) l) ?_
  walk_at "w"
  rw [Bool.true_and] at k
  refine w_nb (fun hv => ?_) fun hv => ?_
  · walk_at "w"
    rw [hv] at k
    exact k
  rw [hv, Bool.true_and] at k
  walk_at "w"
  refine ⟨by rw [List.length_map]; exact h.len, w_lcT (fun e => e.2) (fun e he => ⟨_, rfl, ?_⟩) ?_⟩
  · walk_at "w"
    exact op_some (hix e he) ⟨rfl, rfl⟩
  walk_at "w"
  have hlp : (l.filterMap fun e => toPr e.2).length ≤ 1000 := Nat.le_trans (List.length_filterMap_le _ _) h.len
  exact are_apart (ps := l.filterMap fun e => toPr e.2) (.inr (by rw [vals_pr hv])) hlp k
theorem notin_pl (p : Pr) (b : Pl) : dNotIn (pr p) (pl b) = some (.bl (!decide (p ∈ b))) := by
  have h := in_pl p b
  unfold dIn at h
  unfold dNotIn
  change (dInB (pr p) (pl b)).map D.bl = _ at h
  show (dInB (pr p) (pl b)).map (fun c => D.bl (!c)) = _
  cases q : dInB (pr p) (pl b) with
  | none => rw [q] at h; cases h
  | some c =>
    rw [q] at h
    have h := D.bl.inj (Option.some.inj h)
    rw [← h]
    rfl
theorem law_is_pick_dct {b : List Pl} {l : List (D × D)} (hb : BookM b) (h : PkOk l) (k : P (.bl (pickB b l)) g) : (f__law_is_pick [bk b, .dct l] g).all P E := by
  unfold f__law_is_pick
  with_reducible refine w_fn ?_
  unfold t__law_is_pick
  have h16 := hb.l2
  rw [show bk b = .tup (b.map pl) from rfl]
  walk_at "w"
  refine w_isiDct ?_
  walk_at "w"
  refine ⟨by rw [List.length_map]; exact h.len, w_lcTF (fun e => !btw e.1 0 ((b.length : Int) - 1)) (fun _ => .int 1) (fun e he => ⟨_, rfl, ?_⟩) ?_⟩
  · walk_at "w"
    rw [List.length_map]
    exact law_below (h.pl e he) ⟨⟨rfl, rfl⟩, fun _ => ⟨rfl, rfl⟩⟩
  walk_at "w"
  refine op_some (onesN (fun e : D × D => btw e.1 0 ((b.length : Int) - 1)) l) ?_
  walk_at "w"
  unfold pickB at k
  refine w_nb (fun hk => ?_) fun hk => ?_
  · walk_at "w"
    rw [hk] at k
    exact k
  rw [hk] at k
  have hix := h.ix hk
  walk_at "w"
  refine ⟨by rw [List.length_map]; exact h.len, w_lcTF (fun e => !inPl e.2 (plAt b e.1)) (fun _ => .int 1) (fun e he => ⟨_, rfl, ?_⟩) ?_⟩
  · obtain ⟨i, e1, i0, i1⟩ := btw_int (List.all_eq_true.mp hk e he)
    have ep : plAt b e.1 = b.getD i.toNat [] := by rw [e1]; rfl
    walk_at "w"
    refine op_some (hix e he) ?_
    walk_at "w"
    refine law_pair (h.vals e he) ?_
    walk_at "w"
    unfold inPl
    cases hp : toPr e.2 with
    | none =>
      walk_at "w"
      exact ⟨⟨rfl, rfl⟩, fun _ => ⟨rfl, rfl⟩⟩
    | some q =>
      walk_at "w"
      refine op_some (hix e he) ?_
      walk_at "w"
      rw [e1]
      refine op_some (ix_book i0 i1) ?_
      rw [(toPr_some hp).1]
      refine op_some (notin_pl q _) ?_
      exact ⟨⟨rfl, rfl⟩, fun _ => ⟨rfl, rfl⟩⟩
  walk_at "w"
  refine op_some (onesN (fun e : D × D => inPl e.2 (plAt b e.1)) l) ?_
  walk_at "w"
  rw [Bool.true_and] at k
  refine w_nb (fun hv => ?_) fun hv => ?_
  · walk_at "w"
    rw [hv] at k
    exact k
  rw [hv, Bool.true_and] at k
  walk_at "w"
  refine ⟨by rw [List.length_map]; exact h.len, w_lcT (fun e => e.2) (fun e he => ⟨_, rfl, ?_⟩) ?_⟩
  · walk_at "w"
    exact op_some (hix e he) ⟨rfl, rfl⟩
  walk_at "w"
  have hlp : (l.filterMap fun e => toPr e.2).length ≤ 1000 := Nat.le_trans (List.length_filterMap_le _ _) h.len
  exact law_apart (ps := l.filterMap fun e => toPr e.2) hlp (.inr (by rw [vals_pr hv])) k
def isDct (d : D) : Bool := match d with
  | .dct _ => true
  | _ => false
theorem isi_dct {sub : Str → Str → Option Bool} {cls : Str → Bool} {d : D} (h : plain d) : fIsi sub cls [d, .ty "dict"] = some (.bl (isDct d)) := by
  obtain ⟨t, ht⟩ := plain_ty h
  rw [isi_ty ht (by simp)]
  cases d <;> simp only [tyN, reduceCtorEq, Option.some.injEq] at ht <;> subst ht <;> rfl
theorem w_isiDct' (h : plain d) (hp : P (.bl (isDct d)) g) : OpP (isi0 [d, .ty "dict"]) P g := op_some (isi_dct h) hp
/-- a plain value; where it is a dict, one whose keys are alike or alone -/
def PkV (d : D) : Prop := plain d ∧ ∀ l, d = .dct l → PkOk l
def pickD (b : List Pl) (d : D) : Bool := match d with
  | .dct l => pickB b l
  | _ => false
theorem isDct_some {d : D} (h : isDct d = true) : ∃ l, d = .dct l := by
  unfold isDct at h
  split at h
  · exact ⟨_, rfl⟩
  · cases h
theorem pickD_non {b : List Pl} {d : D} (h : isDct d = false) : pickD b d = false := by
  unfold pickD
  split
  · cases h
  · rfl
theorem picks_right {b : List Pl} (hb : BookM b) (h : PkV d) (k : P (.bl (pickD b d)) g) : (f_picks_right [bk b, d] g).all P E := by
  cases hd : isDct d with
  | true =>
    obtain ⟨l, rfl⟩ := isDct_some hd
    exact picks_right_dct hb (h.2 l rfl) k
  | false =>
    rw [pickD_non hd] at k
    unfold f_picks_right
    with_reducible refine w_fn ?_
    unfold t_picks_right
    walk_at "w"
    refine w_isiDct' h.1 ?_
    rw [hd]
    walk_at "w"
    exact k
theorem law_is_pick {b : List Pl} (hb : BookM b) (h : PkV d) (k : P (.bl (pickD b d)) g) : (f__law_is_pick [bk b, d] g).all P E := by
  cases hd : isDct d with
  | true =>
    obtain ⟨l, rfl⟩ := isDct_some hd
    exact law_is_pick_dct hb (h.2 l rfl) k
  | false =>
    rw [pickD_non hd] at k
    unfold f__law_is_pick
    with_reducible refine w_fn ?_
    unfold t__law_is_pick
    walk_at "w"
    refine w_isiDct' h.1 ?_
    rw [hd]
    walk_at "w"
    exact k
theorem is_pick {b : List Pl} (hb : BookM b) (h : PkV d) (k : P (.bl (pickD b d)) g) : (f_is_pick [bk b, d] g).all P E := by
  unfold f_is_pick
  with_reducible refine w_fn ?_
  unfold t_is_pick
  walk_at "w"
  refine need_book ((ok_bk hb).mono (by decide)) (fun _ => ?_) fun h => ?_
  · walk_at "w"
    exact picks_right hb h k
  · rw [bookB_bk hb] at h
    cases h
theorem is_pick_bad {d2 : D} (h : NoBk d) (k : E "BadBook" Str.empty [] g) : (f_is_pick [d, d2] g).all P E := by
  unfold f_is_pick
  with_reducible refine w_fn ?_
  unfold t_is_pick
  walk_at "w"
  refine need_book h.1 (fun h1 => ?_) fun _ => ?_
  · rw [h.2] at h1
    cases h1
  · exact k
end
end SH
set_option Elab.async false
set_option linter.all false
set_option maxRecDepth 100000
set_option maxHeartbeats 2000000
/-! Picks drawn; odd values beside picks. -/
open PySem PySem.Spec PyProof.Rows L2 DL
namespace SH
open DL.Enc (enc)
section
variable {g : G} {P : D → G → Prop} {E : XE} {d : D} {m : Nat}
theorem pkv_non {d : D} (h : plain d) (hd : isDct d = false) : PkV d := ⟨h, fun l e => by rw [e] at hd; cases hd⟩
theorem pkok_nil : PkOk [] := ⟨by show 0 ≤ 1000; decide, .inl ⟨[], rfl, .nil⟩, fun _ h => (nomatch h), fun _ h => (nomatch h)⟩
theorem pkok_int {i : Int} {y : D} (h : Ok 3 y) : PkOk [(.int i, y)] :=
  ⟨by show 1 ≤ 1000; decide, .inl ⟨[i], rfl, by simp⟩, fun e he => by rw [List.mem_singleton.mp he]; rfl, fun e he => by rw [List.mem_singleton.mp he]; exact h⟩
theorem pkok_one {k y : D} (hk : plain k) (hn : ∀ i, k ≠ .int i) (h : Ok 3 y) : PkOk [(k, y)] :=
  ⟨by show 1 ≤ 1000; decide, .inr ⟨k, y, rfl, hn⟩, fun e he => by rw [List.mem_singleton.mp he]; exact hk, fun e he => by rw [List.mem_singleton.mp he]; exact h⟩
theorem pkv_dct {l : List (D × D)} (h : PkOk l) : PkV (.dct l) := ⟨rfl, fun l' e => by cases e; exact h⟩
theorem law_oddP (hG : GI m g) (hm : 1 ≤ m) (k : ∀ d g', PkV d → GI (m - 1) g' → P d g') : (f__law_odd [.st] g).all P E := by
  unfold f__law_odd
  with_reducible refine w_fn ?_
  unfold t__law_odd
  walk_at "w"
  refine op_some (a := [(.int 0, .int 0)]) rfl ?_
  walk_at "w"
  with_reducible refine pick hG hm (by simp) (by simp only [List.length_cons, List.length_nil]; decide) fun d g1 hd hG1 => ?_
  refine k d g1 ?_ hG1
  simp only [List.mem_cons, List.not_mem_nil, or_false] at hd
  rcases hd with rfl | rfl | rfl | rfl | rfl | rfl | rfl | rfl | rfl | rfl | rfl | rfl | rfl | rfl
  case inr.inr.inr.inr.inr.inr.inl => exact pkv_dct pkok_nil
  case inr.inr.inr.inr.inr.inr.inr.inr.inr.inr.inl => exact pkv_dct (pkok_int (.int _))
  all_goals exact pkv_non rfl rfl
/-- a pick as a value -/
def pk (t : List (Int × Pr)) : D := .dct (t.map fun e => (.int e.1, pr e.2))
theorem pk_ok {t : List (Int × Pr)} (hl : t.length ≤ 1000) (nd : (t.map (·.1)).Nodup) : PkOk (t.map fun e => (D.int e.1, pr e.2)) := by
  refine ⟨by rw [List.length_map]; exact hl, .inl ⟨t.map (·.1), by rw [List.map_map, List.map_map]; rfl, nd⟩, fun e he => ?_, fun e he => ?_⟩
  · obtain ⟨x, _, rfl⟩ := List.mem_map.mp he
    rfl
  · obtain ⟨x, _, rfl⟩ := List.mem_map.mp he
    exact .tup (by show 2 ≤ 1000; decide) fun z hz => by
      rcases List.mem_cons.mp hz with rfl | hz
      · exact .int _
      · rw [List.mem_singleton.mp hz]; exact .int _
end
end SH
set_option Elab.async false
set_option linter.all false
set_option maxRecDepth 100000
set_option maxHeartbeats 2000000
/-! Rules for dicts: x[k] = v of one's own dict; puts of int keys. -/
namespace DL
open PySem PySem.Spec PyProof.Rows L2
section
variable {ρ : Env} {g : G} {nx ct bk : Env → G → Prop} {rt P : D → G → Prop} {E : XE} {fa fe : Ep} {i : Nat} {l : List (D × D)}
/-- the reading of x[k] = v, x one's own dict -/
theorem w_setU (ho : ρ[i]? = some (some (true, .dct l))) (h : (fe ρ g).all (fun d g1 => (fa ρ g1).all (fun k g2 => OpP (putO l k d) (fun l' g3 => nx (ρ.set i (some (true, .dct l'))) g3) g2) E) E) : (sSetU i fa fe ρ g).all (FP nx ct bk rt) E := by
  have e : ownD ρ i = some l := by unfold ownD; rw [ho]
  have e2 : sSetU i fa fe ρ g = sSetK i fa fe ρ g := by unfold sSetU; rw [e]
  rw [e2]
  unfold sSetK
  refine w_bind (R.all_imp h (fun d g1 h => ?_) fun _ _ _ _ h => h)
  rw [e]
  refine w_bind (w_opt (op_some rfl ?_))
  refine w_bind (R.all_imp h (fun k g2 h => ?_) fun _ _ _ _ h => h)
  exact w_bind (w_opt h)
/-- a new int key -/
theorem put_new {ns : List Int} {n : Int} {d : D} (h : l.map (·.1) = ns.map D.int) (hn : n ∉ ns) (hl : l.length < 1000) : putO l (.int n) d = some (l ++ [(.int n, d)]) := by
  unfold putO
  rw [if_pos ⟨by show (intsOf (l.map (·.1))).isSome = true; rw [h, intsOf_map]; rfl, hl⟩]
  unfold putD
  rw [if_neg]
  rw [Bool.not_eq_true, List.any_eq_false]
  intro p hp hk
  have hm : p.1 ∈ ns.map D.int := h ▸ List.mem_map.mpr ⟨p, hp, rfl⟩
  obtain ⟨j, hj, ej⟩ := List.mem_map.mp hm
  rw [← ej] at hk
  have hk : decide (j = n) = true := hk
  exact hn (of_decide_eq_true hk ▸ hj)
/-- unlike int keys, put one behind the other -/
theorem mkD_new : ∀ {l acc : List (D × D)} {ns ms : List Int}, l.map (·.1) = ns.map D.int → acc.map (·.1) = ms.map D.int → (ms ++ ns).Nodup → acc.length + l.length ≤ 1000 → mkD acc l = some (acc ++ l)
  | [], acc, _, _, _, _, _, _ => by rw [List.append_nil]; rfl
  | (k, y) :: l, acc, [], _, h, _, _, _ => by simp at h
  | (k, y) :: l, acc, n :: ns, ms, h, ha, nd, hl => by
    obtain ⟨h1, h2⟩ := List.cons.inj h
    have h1 : k = D.int n := h1
    subst h1
    rw [List.length_cons] at hl
    have hn : n ∉ ms := fun w => (List.nodup_append.mp nd).2.2 n w n List.mem_cons_self rfl
    unfold mkD
    rw [put_new ha hn (by omega)]
    show mkD (acc ++ [(D.int n, y)]) l = _
    rw [mkD_new (ms := ms ++ [n]) h2 (by rw [List.map_append, List.map_append, ha]; rfl) (by rw [List.append_assoc]; exact nd) (by rw [List.length_append]; show acc.length + 1 + l.length ≤ 1000; omega), List.append_assoc]
    rfl
end
end DL
set_option Elab.async false
set_option linter.all false
set_option maxRecDepth 100000
set_option maxHeartbeats 2000000
/-! Picks in the sequence of their numbers. -/
open PySem PySem.Spec PyProof.Rows L2 DL
namespace SH
open DL.Enc (enc)
section
variable {g : G} {P : D → G → Prop} {E : XE} {d : D} {m : Nat}
abbrev pkl (t : List (Int × Pr)) : List (D × D) := t.map fun e => (D.int e.1, pr e.2)
def valAt (t : List (Int × Pr)) (x : Int) : Pr := match t.find? (fun e => decide (e.1 = x)) with
  | some e => e.2
  | none => (0, 0)
theorem pkl_keys (t : List (Int × Pr)) : (pkl t).map (·.1) = (t.map (·.1)).map D.int := by
  rw [List.map_map, List.map_map]
  rfl
theorem look_pk (t : List (Int × Pr)) {x : Int} (hx : x ∈ t.map (·.1)) : look (pkl t) (.int x) = some (pr (valAt t x)) := by
  induction t with
  | nil => cases hx
  | cons e t ih =>
    unfold look valAt
    rw [show pkl (e :: t) = (D.int e.1, pr e.2) :: pkl t from rfl, List.find?_cons, List.find?_cons]
    by_cases h : e.1 = x
    · rw [show keq (D.int e.1) (.int x) = true from by show decide (e.1 = x) = true; exact decide_eq_true h, show decide (e.1 = x) = true from decide_eq_true h]
      rfl
    · rw [show keq (D.int e.1) (.int x) = false from by show decide (e.1 = x) = false; exact decide_eq_false h, show decide (e.1 = x) = false from decide_eq_false h]
      have h2 : x ∈ t.map (·.1) := by
        rcases List.mem_cons.mp hx with w | w
        · exact absurd w.symm h
        · exact w
      exact ih h2
theorem ix_pk (t : List (Int × Pr)) {x : Int} (hx : x ∈ t.map (·.1)) : dIx (pk t) (.int x) = some (pr (valAt t x)) := by
  show (if kOk (pkl t) (.int x) = true then look (pkl t) (.int x) else none) = _
  rw [if_pos (show kOk (pkl t) (.int x) = true from by show (intsOf ((pkl t).map (·.1))).isSome = true; rw [pkl_keys, intsOf_map]; rfl), look_pk t hx]
def risen (t : List (Int × Pr)) : List (Int × Pr) := (sortI (t.map (·.1))).map fun x => (x, valAt t x)
theorem pairs_pk (t : List (Int × Pr)) : pairsD (t.map fun e => D.tup [.int e.1, pr e.2]) = some (pkl t) := by
  induction t with
  | nil => rfl
  | cons e t ih =>
    show (match pairD (D.tup [.int e.1, pr e.2]), pairsD (t.map fun e => D.tup [.int e.1, pr e.2]) with | some p, some r => some (p :: r) | _, _ => none) = _
    rw [ih]
    rfl
theorem dict_pk {t : List (Int × Pr)} (hl : t.length ≤ 1000) (nd : (t.map (·.1)).Nodup) : fDict [.lst (t.map fun e => D.tup [.int e.1, pr e.2])] = some (pk t) := by
  have e := mkD_new (acc := []) (ms := []) (pkl_keys t) rfl (by rw [List.nil_append]; exact nd) (by rw [List.length_map]; show 0 + _ ≤ _; omega)
  unfold fDict
  dsimp only
  rw [pairs_pk]
  show (if (intsOf ((pkl t).map (·.1))).isSome = true ∧ (pkl t).length ≤ 1000 then (mkD [] (pkl t)).map D.dct else none) = _
  rw [if_pos ⟨by rw [pkl_keys, intsOf_map]; rfl, by rw [List.length_map]; exact hl⟩, e]
  rfl
theorem sorted_pk {t : List (Int × Pr)} (hl : t.length ≤ 1000) : fSortedD [pk t] = some (.lst ((sortI (t.map (·.1))).map D.int)) := by
  show (if (intsOf ((pkl t).map (·.1))).isSome = true ∧ (pkl t).length ≤ 1000 then (sortD ((pkl t).map (·.1))).map D.lst else none) = _
  rw [if_pos ⟨by rw [pkl_keys, intsOf_map]; rfl, by rw [List.length_map]; exact hl⟩, pkl_keys, sort_int _ (by rw [List.length_map]; exact hl)]
  rfl
theorem risen_keys (t : List (Int × Pr)) : (risen t).map (·.1) = sortI (t.map (·.1)) := by
  unfold risen
  rw [List.map_map]
  exact List.map_id _
theorem law_rising {t : List (Int × Pr)} (hl : t.length ≤ 1000) (nd : (t.map (·.1)).Nodup) (k : P (pk (risen t)) g) : (f__law_rising_pick [pk t] g).all P E := by
  unfold f__law_rising_pick
  with_reducible refine w_fn ?_
  unfold t__law_rising_pick
  have hs : (sortI (t.map (·.1))).length ≤ 1000 := by rw [(sortI_perm _).length_eq, List.length_map]; exact hl
  walk_at "w"
  refine op_some (sorted_pk hl) ?_
  walk_at "w"
  refine w_lcT (fun x => .tup [.int x, pr (valAt t x)]) (fun x hx => ⟨_, rfl, ?_⟩) ?_
  · walk_at "w"
    refine op_some (ix_pk t ((sortI_perm _).mem_iff.mp hx)) ?_
    walk_at "w"
    exact ⟨rfl, rfl⟩
  walk_at "w"
  refine op_some (a := pk (risen t)) ?_ k
  have e := dict_pk (t := risen t) (by unfold risen; rw [List.length_map]; exact hs) (by rw [risen_keys]; exact (sortI_perm _).nodup_iff.mpr nd)
  unfold risen at e ⊢
  rw [List.map_map] at e
  exact e
end
end SH
set_option Elab.async false
set_option linter.all false
set_option maxRecDepth 100000
set_option maxHeartbeats 2000000
/-! Picks drawn. -/
open PySem PySem.Spec PyProof.Rows L2 DL
namespace SH
open DL.Enc (enc)
section
variable {g : G} {P : D → G → Prop} {E : XE} {d : D} {m : Nat}
/-- a pick of a book -/
structure PickM (b : List Pl) (t : List (Int × Pr)) : Prop where
  nd : (t.map (·.1)).Nodup
  key : ∀ e ∈ t, 0 ≤ e.1 ∧ e.1 < b.length ∧ e.2 ∈ b.getD e.1.toNat []
  ap : apart (t.map (·.2)) = true
theorem PickM.len {b : List Pl} {t : List (Int × Pr)} (h : PickM b t) : t.length ≤ b.length := by
  have := nodup_len (l := t.map (·.1)) (m := rangeI b.length) h.nd fun x hx => by
    obtain ⟨e, he, rfl⟩ := List.mem_map.mp hx
    have := h.key e he
    exact mem_rangeI.mpr ⟨this.1, this.2.1⟩
  rwa [List.length_map, rangeI_len] at this
theorem pkl_vals (t : List (Int × Pr)) (nd : (t.map (·.1)).Nodup) : (t.map (·.1)).map (valAt t) = t.map (·.2) := by
  induction t with
  | nil => rfl
  | cons e t ih =>
    obtain ⟨h1, h2⟩ := List.nodup_cons.mp (show (e.1 :: t.map (·.1)).Nodup from nd)
    rw [List.map_cons, List.map_cons, List.map_cons]
    refine congr (congrArg List.cons ?_) ?_
    · unfold valAt
      rw [List.find?_cons, decide_eq_true rfl]
    · rw [← ih h2]
      refine List.map_congr_left fun x hx => ?_
      have hne : e.1 ≠ x := fun w => h1 (w ▸ hx)
      unfold valAt
      rw [List.find?_cons, decide_eq_false hne]
theorem w_itK {t : List (Int × Pr)} {Q : List D → G → Prop} (h : Q ((t.map (·.1)).map D.int) g) : ItP Q (pk t) g := by
  show Q ((pkl t).map (·.1)) g
  rw [pkl_keys]
  exact h
theorem w_lenK {t : List (Int × Pr)} (h : P (.int t.length) g) : OpP (fLen [pk t]) P g := by
  refine w_lenD ?_
  rw [List.length_map]
  exact h
theorem w_via {α : Type} {r : R α} {P Q : α → G → Prop} {E : XE} (h : r.all Q XF) (k : ∀ a g, Q a g → P a g) : r.all P E := R.all_imp h k fun _ _ _ _ h => h.elim
theorem law_pick_drawn {b : List Pl} (hb : BookM b) (hG : GI m g) (hm : 60 ≤ m) (k : ∀ (t : List (Int × Pr)) g', PickM b t → GI (m - 60) g' → P (pk t) g') : (f__law_pick_drawn [.st, bk b] g).all P E := by
  unfold f__law_pick_drawn
  with_reducible refine w_fn ?_
  unfold t__law_pick_drawn
  have h16 := hb.l2
  have h1 := hb.l1
  rw [show bk b = .tup (b.map pl) from rfl]
  with_reducible refine w_seq (w_par (w_c (w_via (Q := fun d g' => (∃ w : Int, d = .int w) ∧ GI (m - 2) g') ?_ ?_)))
  · walk_at "w"
    with_reducible refine draw hG (by omega) (by decide) (by decide) fun r g1 hr hG1 => ?_
    walk_at "w"
    refine w_dec (fun _ => ?_) fun _ => ?_
    · walk_at "w"
      exact ⟨⟨_, rfl⟩, hG1.mono (by omega)⟩
    · walk_at "w"
      rw [List.length_map]
      with_reducible refine draw (n := (b.length : Int) + 1) hG1 (by omega) (by omega) (by omega) fun r g2 hr hG2 => ?_
      exact ⟨⟨_, rfl⟩, hG2.mono (by omega)⟩
  intro d2 g2 hd2
  have hd2 : (∃ w : Int, d2 = .int w) ∧ GI (m - 2) g2 := hd2
  have hG2 := hd2.2
  have hw0 := hd2.1
  clear hd2
  with_reducible refine Exists.elim hw0 fun w hw => ?_
  rw [hw]
  with_reducible refine w_seq ?_
  with_reducible refine w_for (fun l ρ g' => ∃ (ys : List Int) (t : List (Int × Pr)) (a4 a5 a6 a7 : Option (Bool × D)), l = ys.map D.int ∧ ys.Nodup ∧ (∀ y ∈ ys, 0 ≤ y ∧ y < b.length) ∧ PickM b t ∧ (∀ y ∈ ys, y ∉ t.map (·.1)) ∧ GI (m - 20 - (b.length - ys.length)) g' ∧
    ρ = [some (false, .st), some (false, .tup (b.map pl)), some (true, pk t), some (false, .int w), a4, a5, a6, a7]) ?_ ?_ ?_
  · walk_at "w"
    rw [List.length_map]
    rw [show ((b.length : Int) - 0).toNat = b.length by omega, rangeL_I]
    with_reducible refine mixed (.inl rfl) (by decide) (by rw [rangeI_len]; omega) hG2 (by rw [rangeI_len]; omega) fun ys g3 hy hG3 => ?_
    rw [rangeI_len] at hG3
    walk_at "w"
    have ly := hy.length_eq
    rw [rangeI_len] at ly
    refine ⟨ys, [], _, _, _, _, rfl, hy.nodup_iff.mpr (rangeI_nodup _), fun y h => mem_rangeI.mp (hy.mem_iff.mp h), ⟨.nil, fun _ h => (nomatch h), by decide⟩, fun _ _ => List.not_mem_nil, hG3.mono (by omega), rfl⟩
  · rintro d0 l ρ g' ⟨ys, t, a4, a5, a6, a7, e0, nd, rg, hp, hn, hG', rfl⟩
    cases ys with
    | nil => cases e0
    | cons y ys =>
    obtain ⟨rfl, rfl⟩ := List.cons.inj e0
    obtain ⟨n1, n2⟩ := List.nodup_cons.mp nd
    have ry := rg y List.mem_cons_self
    have ht := hp.len
    refine ⟨_, rfl, ?_⟩
    walk_at "w"
    refine op_some (ix_book ry.1 (by omega)) ?_
    generalize hq : b.getD y.toNat [] = q
    have hqp : PlanM 8 q := by
      rw [← hq, List.getD_eq_getElem?_getD]
      cases e : b[y.toNat]? with
      | none => exact ⟨fun _ h => (nomatch h), .nil, .nil⟩
      | some x => exact hb.pl x (List.mem_of_getElem? e)
    have hq8 := hqp.l8
    rw [show pl q = .tup (q.map pr) from rfl]
    walk_at "w"
    refine w_lcTF (fun p => apart (t.map (·.2) ++ [p])) pr (fun p _ => ⟨_, rfl, ?_⟩) ?_
    · walk_at "w"
      refine w_itK ?_
      walk_at "w"
      refine w_lcT (fun x => pr (valAt t x)) (fun x hx => ⟨_, rfl, ?_⟩) ?_
      · walk_at "w"
        exact op_some (ix_pk t hx) ⟨rfl, rfl⟩
      rw [show ((t.map (·.1)).map fun x => pr (valAt t x)) = (t.map (·.2)).map pr by rw [← pkl_vals t hp.nd]; simp only [List.map_map]; rfl]
      walk_at "w"
      refine w_addL (by rw [List.length_map, List.length_map]; simp; omega) ?_
      walk_at "w"
      rw [show (t.map (·.2)).map pr ++ [pr p] = (t.map (·.2) ++ [p]).map pr by rw [List.map_append]; rfl]
      refine law_apart (by simp; omega) (.inr rfl) ?_
      walk_at "w"
      exact ⟨⟨rfl, rfl⟩, fun _ => ⟨rfl, rfl⟩⟩
    generalize hf : q.filter (fun p => apart (t.map (·.2) ++ [p])) = fq
    walk_at "w"
    refine op_some (ne_prs0 fq) ?_
    walk_at "w"
    have stay : ∀ {g4 : G} {ρ' : DL.Env}, GI (m - 20 - (b.length - ys.length)) g4 → (∃ a4 a5 a6 a7, ρ' = [some (false, D.st), some (false, .tup (b.map pl)), some (true, pk t), some (false, .int w), a4, a5, a6, a7]) → ∃ (ys' : List Int) (t : List (Int × Pr)) (a4 a5 a6 a7 : Option (Bool × D)), ys.map D.int = ys'.map D.int ∧ ys'.Nodup ∧ (∀ y ∈ ys', 0 ≤ y ∧ y < b.length) ∧ PickM b t ∧ (∀ y ∈ ys', y ∉ t.map (·.1)) ∧ GI (m - 20 - (b.length - ys'.length)) g4 ∧
      ρ' = [some (false, .st), some (false, .tup (b.map pl)), some (true, pk t), some (false, .int w), a4, a5, a6, a7] := fun h ⟨a4, a5, a6, a7, e⟩ => ⟨ys, t, a4, a5, a6, a7, rfl, n2, fun y h => rg y (List.mem_cons_of_mem _ h), hp, fun y h => hn y (List.mem_cons_of_mem _ h), h, e⟩
    have ly : (y :: ys).length ≤ b.length := by
      have := nodup_len nd fun x hx => mem_rangeI.mpr (rg x hx)
      rwa [rangeI_len] at this
    rw [List.length_cons] at hG' ly
    refine w_ndec (fun hne => ?_) fun _ => ?_
    · walk_at "w"
      refine w_lenK ?_
      walk_at "w"
      refine w_dec (fun _ => ?_) fun _ => ?_
      · walk_at "w"
        have hfl : fq.length ≤ 8 := by rw [← hf]; exact Nat.le_trans (List.length_filter_le ..) hq8
        with_reducible refine w_setU (by with_unfolding_all exact rfl) ?_
        walk_at "w"
        with_reducible refine pickE hG' (by omega) hne (by omega) fun p g4 hpf hG4 => ?_
        walk_at "w"
        have hy : y ∉ t.map (·.1) := hn y List.mem_cons_self
        refine op_some (put_new (ns := t.map (·.1)) (pkl_keys t) hy (by rw [List.length_map]; omega)) ?_
        obtain ⟨pm, pa⟩ := List.mem_filter.mp (hf ▸ hpf)
        refine ⟨ys, t ++ [(y, p)], some (false, .int y), some (false, .lst (fq.map pr)), a6, a7, rfl, n2, fun y h => rg y (List.mem_cons_of_mem _ h), ⟨?_, ?_, ?_⟩, ?_, hG4.mono (by omega), ?_⟩
        · rw [List.map_append, List.nodup_append]
          refine ⟨hp.nd, by simp, fun x hx z hz => ?_⟩
          rw [List.mem_singleton.mp (show z ∈ [y] from hz)]
          exact fun e => hy (e ▸ hx)
        · intro e he
          rcases List.mem_append.mp he with he | he
          · exact hp.key e he
          · rw [List.mem_singleton.mp he]
            exact ⟨ry.1, ry.2, by rw [hq]; exact pm⟩
        · rw [List.map_append]
          exact pa
        · intro z hz w
          rw [List.map_append] at w
          rcases List.mem_append.mp w with w | w
          · exact hn z (List.mem_cons_of_mem _ hz) w
          · rw [List.mem_singleton.mp (show z ∈ [y] from w)] at hz
            exact n1 hz
        · show _ = [_, _, some (true, pk (t ++ [(y, p)])), _, _, _, _, _]
          rw [show pk (t ++ [(y, p)]) = .dct (pkl t ++ [(.int y, pr p)]) by show D.dct _ = _; rw [List.map_append]; rfl]
          rfl
      · walk_at "w"
        exact stay (hG'.mono (by omega)) ⟨_, _, _, _, rfl⟩
    · walk_at "w"
      exact stay (hG'.mono (by omega)) ⟨_, _, _, _, rfl⟩
  · rintro ρ g' ⟨ys, t, a4, a5, a6, a7, e0, nd, rg, hp, hn, hG', rfl⟩
    walk_at "w"
    exact k t g' hp (hG'.mono (by omega))
end
end SH
set_option Elab.async false
set_option linter.all false
set_option maxRecDepth 100000
set_option maxHeartbeats 2000000
/-! More rules of one step: pairs, picks. -/
open PySem PySem.Spec PyProof.Rows L2 DL
namespace SH
section
variable {g : G} {P : D → G → Prop} {q : Pr}
theorem w_ixP0 (h : P (.int q.1) g) : OpP (dIx (pr q) (.int 0)) P g := w_ix0 h
theorem w_ixP1 (h : P (.int q.2) g) : OpP (dIx (pr q) (.int 1)) P g := w_ix1 h
theorem w_lstPr (h : P (.lst [.int q.1, .int q.2]) g) : OpP (fList [pr q]) P g := h
theorem w_ixK {t : List (Int × Pr)} {x : Int} (hx : x ∈ t.map (·.1)) (h : P (pr (valAt t x)) g) : OpP (dIx (pk t) (.int x)) P g := op_some (ix_pk t hx) h
theorem w_mk1 {i : Int} {y : D} {T : List (D × D) → G → Prop} (h : T [(.int i, y)] g) : OpP (mkO [(.int i, y)]) T g := op_some rfl h
theorem w_mkO {k y : D} {T : List (D × D) → G → Prop} (ho : oddK k = true) (h : T [(k, y)] g) : OpP (mkO [(k, y)]) T g := op_some (show (if oddK k = true then some [(k, y)] else mkD [] [(k, y)]) = _ by rw [if_pos ho]) h
theorem w_modI8 {a : Int} (h : P (.int (a % 8)) g) : OpP (dMod (.int a) (.int 8)) P g := op_some rfl h
theorem w_ixBk {b : List Pl} {i : Int} (h0 : 0 ≤ i) (h1 : i < b.length) (h : P (pl (b.getD i.toNat [])) g) : OpP (dIx (.tup (b.map pl)) (.int i)) P g := op_some (ix_book h0 (by omega)) h
theorem w_lenPl {ps : Pl} (h : P (.int ps.length) g) : OpP (fLen [pl ps]) P g := by
  refine w_lenT ?_
  rw [List.length_map]
  exact h
theorem w_itPl {ps : Pl} {Q : List D → G → Prop} (h : Q (ps.map pr) g) : ItP Q (pl ps) g := h
/-- one pair of a pick exchanged -/
def setAt (t : List (Int × Pr)) (x : Int) (q : Pr) : List (Int × Pr) := t.map fun e => if e.1 = x then (e.1, q) else e
theorem setAt_keys (t : List (Int × Pr)) (x : Int) (q : Pr) : (setAt t x q).map (·.1) = t.map (·.1) := by
  unfold setAt
  rw [List.map_map]
  refine List.map_congr_left fun e _ => ?_
  show (if e.1 = x then (e.1, q) else e).1 = e.1
  split <;> rfl
theorem put_old {t : List (Int × Pr)} {x : Int} (hx : x ∈ t.map (·.1)) (q : Pr) (hl : t.length < 1000) : putO (pkl t) (.int x) (pr q) = some (pkl (setAt t x q)) := by
  unfold putO
  rw [if_pos ⟨by show (intsOf ((pkl t).map (·.1))).isSome = true; rw [pkl_keys, intsOf_map]; rfl, by rw [List.length_map]; exact hl⟩]
  unfold putD
  rw [if_pos]
  · unfold setAt
    rw [List.map_map]
    show some _ = some (List.map _ (List.map _ t))
    rw [List.map_map]
    refine congrArg some (List.map_congr_left fun e _ => ?_)
    show (if decide (e.1 = x) = true then (D.int e.1, pr q) else (D.int e.1, pr e.2)) = (D.int (if e.1 = x then (e.1, q) else e).1, pr (if e.1 = x then (e.1, q) else e).2)
    by_cases h : e.1 = x
    · rw [if_pos (decide_eq_true h), if_pos h]
    · rw [if_neg (by rw [decide_eq_false h]; decide), if_neg h]
  · rw [List.any_eq_true]
    obtain ⟨e, he, rfl⟩ := List.mem_map.mp hx
    exact ⟨(.int e.1, pr e.2), List.mem_map.mpr ⟨e, he, rfl⟩, by show decide (e.1 = e.1) = true; exact decide_eq_true rfl⟩
theorem pairs_told {t : List (Int × Pr)} (nd : (t.map (·.1)).Nodup) : (t.map (·.1)).map (fun x => D.tup [.int x, pr (valAt t x)]) = t.map fun e => D.tup [.int e.1, pr e.2] := by
  have h := pkl_vals t nd
  rw [List.map_map] at h ⊢
  refine List.map_congr_left fun e he => ?_
  have := List.map_inj_left.mp h e he
  show D.tup [D.int e.1, pr (valAt t e.1)] = _
  rw [show valAt t e.1 = e.2 from this]
theorem BookM.at {b : List Pl} (hb : BookM b) (i : Nat) : PlanM 8 (b.getD i []) := by
  rw [List.getD_eq_getElem?_getD]
  cases e : b[i]? with
  | none => exact ⟨fun _ h => (nomatch h), .nil, .nil⟩
  | some x => exact hb.pl x (List.mem_of_getElem? e)
end
end SH
set_option Elab.async false
set_option linter.all false
set_option maxRecDepth 100000
set_option maxHeartbeats 2000000
/-! Values that are no pick. -/
open PySem PySem.Spec PyProof.Rows L2 DL
namespace SH
open DL.Enc (enc)
local macro_rules | `(tactic| walk_at "k1") => `(tactic| first | walk_at "w2" | with_reducible refine w_ixP0 ?_ | with_reducible refine w_ixP1 ?_ | with_reducible refine w_lstPr ?_ | with_reducible refine w_lenK ?_ | with_reducible refine w_itK ?_ | with_reducible refine w_ixK (by assumption) ?_ | with_reducible refine w_mk1 ?_ | with_reducible refine w_mkO rfl ?_ | with_reducible refine w_modI8 ?_ | with_reducible refine w_addL (by walk_at "len") ?_ | with_reducible refine w_addT (by walk_at "len") ?_ | with_reducible refine w_ixBk (by walk_at "len") (by walk_at "len") ?_ | with_reducible refine w_lenPl ?_ | with_reducible refine w_itPl ?_ | with_reducible refine w_appE (by walk_at "len") ?_)
local macro_rules | `(tactic| walk_at "k") => `(tactic| repeat walk_at "k1")
section
variable {g : G} {P : D → G → Prop} {E : XE} {d : D} {m : Nat}
theorem list_pk {t : List (Int × Pr)} (hl : t.length ≤ 1000) : fListD [pk t] = some (.lst ((t.map (·.1)).map D.int)) := by
  show (if (intsOf ((pkl t).map (·.1))).isSome = true ∧ (pkl t).length ≤ 1000 then some (D.lst ((pkl t).map (·.1))) else none) = _
  rw [if_pos ⟨by rw [pkl_keys, intsOf_map]; rfl, by rw [List.length_map]; exact hl⟩, pkl_keys]
theorem pkok_two {i j : Int} {y w : D} (h : Ok 3 y) (h2 : Ok 3 w) (n : i ≠ j) : PkOk [(.int i, y), (.int j, w)] :=
  ⟨by show 2 ≤ 1000; decide, .inl ⟨[i, j], rfl, by simpa using n⟩, fun e he => by
    rcases List.mem_cons.mp he with rfl | he
    · rfl
    · rw [List.mem_singleton.mp he]; rfl, fun e he => by
    rcases List.mem_cons.mp he with rfl | he
    · exact h
    · rw [List.mem_singleton.mp he]; exact h2⟩
theorem pk_two (i j : Int) (y w : D) (n : i ≠ j) : mkO [(.int i, y), (.int j, w)] = some [(.int i, y), (.int j, w)] :=
  mkD_new (l := [(.int i, y), (.int j, w)]) (acc := []) (ns := [i, j]) (ms := []) rfl rfl (by simpa using n) (by show 0 + 2 ≤ 1000; decide)
theorem pk_single (i : Int) (y : D) : mkO [(.int i, y)] = some [(.int i, y)] := rfl
theorem zip_next (n : Nat) : zipD (rangeL 0 n) (rangeL 1 (n - 1)) = (List.range (n - 1)).map fun i : Nat => D.tup [.int (i : Int), .int ((i : Int) + 1)] := by
  refine List.ext_getElem? fun i => ?_
  unfold zipD rangeL
  rw [List.getElem?_zipWith, List.getElem?_map, List.getElem?_map, List.getElem?_map]
  by_cases h : i < n - 1
  · rw [List.getElem?_range (by omega), List.getElem?_range h]
    show some (D.tup [D.int (0 + (i : Int)), D.int (1 + (i : Int))]) = _
    rw [Int.zero_add, Int.add_comm 1]
    rfl
  · rw [List.getElem?_eq_none (l := List.range (n - 1)) (by rw [List.length_range]; omega)]
    cases (List.range n)[i]? <;> rfl
theorem law_bad_pick {b : List Pl} {t : List (Int × Pr)} (hb : BookM b) (ht : PickM b t) (hG : GI m g) (hm : 20 ≤ m) (k : ∀ d g', PkV d → pickD b d = false → GI (m - 20) g' → P d g') : (f__law_bad_pick [.st, bk b, pk t] g).all P E := by
  unfold f__law_bad_pick
  with_reducible refine w_fn ?_
  unfold t__law_bad_pick
  have h16 := hb.l2
  have h1 := hb.l1
  have htl := ht.len
  rw [show bk b = .tup (b.map pl) from rfl]
  walk_at "w"
  rw [List.length_map]
  with_reducible refine draw (n := (b.length : Int)) hG (by omega) (by omega) (by omega) fun r g1 hr hG1 => ?_
  walk_at "w"
  with_reducible refine op_some (list_pk (by omega)) ?_
  walk_at "w"
  walk_at "k"
  have key : ∀ e ∈ t, 0 ≤ e.1 ∧ e.1 < b.length := fun e he => ⟨(ht.key e he).1, (ht.key e he).2.1⟩
  have ok0 : Ok 3 (D.tup [D.int 0, D.int 0]) := .tup (by show 2 ≤ 1000; decide) fun x hx => by
    simp only [List.mem_cons, List.not_mem_nil, or_false] at hx
    rcases hx with rfl | rfl <;> exact .int _
  with_reducible refine w_for (fun l ρ g' => ∃ (ks : List Int) (L : List D) (a5 a6 a7 a8 : Option (Bool × D)), l = ks.map D.int ∧ (∀ y ∈ ks, y ∈ t.map (·.1)) ∧ (∀ x ∈ L, PkV x) ∧ D.non ∈ L ∧ L.length + 4 * ks.length ≤ 74 ∧ GI (m - 19 + ks.length) g' ∧
    ρ = [some (false, .st), some (false, .tup (b.map pl)), some (false, pk t), some (false, .int r), some (true, .lst L), a5, a6, a7, a8]) ?_ ?_ ?_
  · walk_at "w"
    refine w_itK ?_
    refine ⟨t.map (·.1), _, _, _, _, _, rfl, fun y h => h, ?_, List.mem_cons_self, ?_, hG1.mono (by rw [List.length_map]; omega), rfl⟩
    · intro x hx
      simp only [List.mem_cons, List.not_mem_nil, or_false] at hx
      rcases hx with rfl | rfl | rfl | rfl | rfl | rfl | rfl | rfl | rfl | rfl
      · exact pkv_non rfl rfl
      · exact pkv_non rfl rfl
      · exact pkv_non rfl rfl
      · exact pkv_dct (pkok_int ok0)
      · exact pkv_dct (pkok_int ok0)
      · exact pkv_dct (pkok_int .non)
      · refine pkv_dct (pkok_int (.tup (by show 2 ≤ 1000; decide) fun x hx => ?_))
        simp only [List.mem_cons, List.not_mem_nil, or_false] at hx
        rcases hx with rfl | rfl <;> exact .int _
      · exact pkv_dct (pkok_one rfl (fun _ h => by cases h) ok0)
      · exact pkv_dct (pkok_one rfl (fun _ h => by cases h) ok0)
      · exact pkv_non rfl rfl
    · rw [List.length_map, List.length_map]
      show 10 + _ ≤ _
      omega
  · rintro d0 l ρ g' ⟨ks, L, a5, a6, a7, a8, e0, hk, hL, hz, hl, hG', rfl⟩
    cases ks with
    | nil => cases e0
    | cons y ks =>
    obtain ⟨rfl, rfl⟩ := List.cons.inj e0
    have hy := hk y List.mem_cons_self
    obtain ⟨e, he, ey⟩ := List.mem_map.mp hy
    have ry := key e he
    rw [ey] at ry
    rw [List.length_cons] at hl hG'
    have okp : Ok 3 (pr (valAt t y)) := (ok_pr _).mono (by decide)
    have oki : ∀ {i j : Int}, Ok 3 (D.tup [.int i, .int j]) := fun {i j} => (ok_pr (i, j)).mono (by decide)
    have okl : Ok 3 (D.lst [D.int (valAt t y).fst, D.int (valAt t y).snd]) := .lst (by show 2 ≤ 1000; decide) fun x hx => by
      simp only [List.mem_cons, List.not_mem_nil, or_false] at hx
      rcases hx with rfl | rfl <;> exact .int _
    refine ⟨_, rfl, ?_⟩
    walk_at "w"
    walk_at "k"
    with_reducible refine law_bool_pair hG' (by omega) fun d1 g4 hd1 hG4 => ?_
    walk_at "k"
    refine w_dec (fun h2 => ?_) fun h2 => ?_
    all_goals walk_at "k"
    all_goals refine w_dec (fun h3 => ?_) fun h3 => ?_
    all_goals walk_at "k"
    all_goals with_reducible refine ⟨ks, _, _, _, _, _, rfl, fun y h => hk y (List.mem_cons_of_mem _ h), ?_, List.mem_append_left _ (List.mem_append_left _ hz), ?_, hG4.mono (by omega), rfl⟩
    all_goals first
      | (simp only [List.length_append, List.length_cons, List.length_nil]; omega)
      | (intro x hx
         simp only [List.mem_append, List.mem_cons, List.not_mem_nil, or_false] at hx
         rcases hx with (hx | rfl | rfl | rfl) | rfl
         · exact hL x hx
         · exact pkv_dct (pkok_int okl)
         · exact pkv_dct (pkok_int (hd1.1.mono (by decide)))
         · first
             | exact pkv_non rfl rfl
             | exact pkv_dct (pkok_one rfl (fun _ h => by cases h) okp)
         · first
             | exact pkv_non rfl rfl
             | exact pkv_dct (pkok_int oki))
  · rintro ρ g' ⟨ks, L, a5, a6, a7, a8, e0, hk, hL, hz, hl, hG', rfl⟩
    cases ks with
    | cons y ks => cases e0
    | nil =>
    walk_at "k"
    with_reducible refine w_for (fun l ρ g' => ∃ (ks : List Nat) (L : List D) (a5 a6 a7 a8 : Option (Bool × D)), l = ks.map (fun i : Nat => D.tup [.int (i : Int), .int ((i : Int) + 1)]) ∧ (∀ y ∈ ks, y + 1 < b.length) ∧ (∀ x ∈ L, PkV x) ∧ D.non ∈ L ∧ L.length + 8 * ks.length ≤ 200 ∧ GI (m - 19) g' ∧
      ρ = [some (false, .st), some (false, .tup (b.map pl)), some (false, pk t), some (false, .int r), some (true, .lst L), a5, a6, a7, a8]) ?_ ?_ ?_
    · walk_at "k"
      rw [List.length_map]
      rw [show ((b.length : Int)).toNat = b.length by omega, show ((b.length : Int) - 1).toNat = b.length - 1 by omega, zip_next]
      refine ⟨List.range (b.length - 1), L, a5, a6, a7, a8, rfl, fun y h => ?_, hL, hz, ?_, hG', rfl⟩
      · have := List.mem_range.mp h
        omega
      · rw [List.length_range]
        omega
    · rintro d0 l ρ g' ⟨ks, L, a5, a6, a7, a8, e0, hk, hL, hz, hl, hG', rfl⟩
      cases ks with
      | nil => cases e0
      | cons y ks =>
      obtain ⟨rfl, rfl⟩ := List.cons.inj e0
      have hy := hk y List.mem_cons_self
      rw [List.length_cons] at hl
      refine ⟨_, rfl, ?_⟩
      walk_at "k"
      generalize hq1 : b.getD (y : Int).toNat [] = q1
      have hqp : PlanM 8 q1 := by
        rw [← hq1, List.getD_eq_getElem?_getD]
        cases e : b[(y : Int).toNat]? with
        | none => exact ⟨fun _ h => (nomatch h), .nil, .nil⟩
        | some x => exact hb.pl x (List.mem_of_getElem? e)
      have hq8 := hqp.l8
      walk_at "k"
      refine w_lcTF (fun p => decide (p ∈ b.getD ((y : Int) + 1).toNat [])) (fun p => .dct [(.int y, pr p), (.int ((y : Int) + 1), pr p)]) (fun p _ => ⟨_, rfl, ?_⟩) ?_
      · walk_at "k"
        refine op_some (in_pl _ _) ?_
        walk_at "k"
        refine ⟨⟨rfl, rfl⟩, fun _ => ?_⟩
        walk_at "k"
        refine op_some (pk_two _ _ _ _ (by omega)) ⟨rfl, rfl⟩
      walk_at "k"
      have hfl : (q1.filter (fun p => decide (p ∈ b.getD ((y : Int) + 1).toNat []))).length ≤ 8 := Nat.le_trans (List.length_filter_le ..) hq8
      refine w_addL (by rw [List.length_map]; omega) ?_
      refine ⟨ks, _, _, _, _, _, rfl, fun y h => hk y (List.mem_cons_of_mem _ h), fun x hx => ?_, List.mem_append_left _ hz, ?_, hG', rfl⟩
      · rcases List.mem_append.mp hx with hx | hx
        · exact hL x hx
        · obtain ⟨p, _, rfl⟩ := List.mem_map.mp hx
          exact pkv_dct (pkok_two ((ok_pr _).mono (by decide)) ((ok_pr _).mono (by decide)) (by omega))
      · rw [List.length_append, List.length_map]
        omega
    · rintro ρ g' ⟨ks, L, a5, a6, a7, a8, e0, hk, hL, hz, hl, hG', rfl⟩
      walk_at "k"
      refine w_lcF (fun d => !pickD b d) id (fun d hd => ⟨_, rfl, ?_⟩) ?_
      · walk_at "k"
        refine law_is_pick hb (hL d hd) ?_
        walk_at "k"
        exact ⟨⟨rfl, rfl⟩, fun _ => ⟨rfl, rfl⟩⟩
      rw [List.map_id]
      walk_at "k"
      have hln : (L.filter fun d => !pickD b d).length ≤ 1000 := Nat.le_trans (List.length_filter_le ..) (by omega)
      have hne : (L.filter fun d => !pickD b d) ≠ [] := List.ne_nil_of_mem (List.mem_filter.mpr ⟨hz, rfl⟩)
      with_reducible refine pick hG' (by omega) hne hln fun d g6 hd hG6 => ?_
      obtain ⟨h4, h5⟩ := List.mem_filter.mp hd
      refine k d g6 (hL d h4) ?_ (hG6.mono (by omega))
      cases q : pickD b d with
      | false => rfl
      | true => rw [q] at h5; cases h5
end
end SH
set_option Elab.async false
set_option linter.all false
set_option maxRecDepth 100000
set_option maxHeartbeats 4000000
namespace K10
open PySem PySem.Spec PyProof.Rows L2 DL
abbrev pw : Program := PySem.Challenge.pw_pairpicks_k10_picks_judged
def top (i : Nat) : Stmt := pw.main.body.getD i (.Pass ⟨0, 0, 0, 0⟩)
theorem nogd {A : Around} {b : Heap} : false = true → GdOk A b := fun h => by cases h

abbrev s__law_begun : Stmt := top 16
abbrev s__law_caught : Stmt := top 20
theorem b__law_caught : BindsT "_law_caught" s__law_caught ["_law_work"] := fun _ _ _ _ _ _ us hl => match us, hl with | [_], _ => rfl
theorem ca_ok : CaughtT s__law_caught "_law_work" "_law_caught_here" "PickError" "error" := ⟨⟨_, _, _, _, _, _, _, _, _, _, _, _, _, _, _, rfl⟩, ⟨rfl, rfl, rfl, by decide +kernel, rfl, by decide +kernel, by decide +kernel⟩, rfl, rfl, rfl, rfl, by decide, by decide, by decide, by decide, by decide, by decide, by decide⟩
theorem b__law_begun : BindsT "_law_begun" s__law_begun ["_law_script"] := fun _ _ _ _ _ _ us hl => match us, hl with | [_], _ => rfl
def pks : List Str := ["BadBook"]
def isiT : List (Str × Str × Bool) := [("BadBook", "BadBook", true)]
def isiC : List Str := ["BadBook"]
abbrev isi : List D → Option D := fIsi (subOf isiT) (fun c => isiC.contains c)
abbrev s_is_between : Stmt := top 6
abbrev N_is_between : List Str := ["thing", "low", "high"]
abbrev t_is_between : Ss := SH.t_is_between
abbrev f_is_between : List D → M D := SH.f_is_between
theorem sc_is_between : FnScope N_is_between ["thing", "low", "high"] (defScope s_is_between) := ⟨rfl, rfl, rfl, by decide +kernel, rfl, by decide +kernel, by decide +kernel⟩
theorem b_is_between : BindsT "is_between" s_is_between ["thing", "low", "high"] := fun _ _ _ _ _ _ us hl => match us, hl with | [_, _, _], _ => rfl
abbrev s_is_pair : Stmt := top 7
abbrev N_is_pair : List Str := ["thing"]
abbrev t_is_pair : Ss := SH.t_is_pair
abbrev f_is_pair : List D → M D := SH.f_is_pair
theorem sc_is_pair : FnScope N_is_pair ["thing"] (defScope s_is_pair) := ⟨rfl, rfl, rfl, by decide +kernel, rfl, by decide +kernel, by decide +kernel⟩
theorem b_is_pair : BindsT "is_pair" s_is_pair ["thing"] := fun _ _ _ _ _ _ us hl => match us, hl with | [_], _ => rfl
abbrev s_are_apart : Stmt := top 8
abbrev N_are_apart : List Str := ["pairs", "persons", "desks", "pair"]
abbrev t_are_apart : Ss := SH.t_are_apart
abbrev f_are_apart : List D → M D := SH.f_are_apart
theorem sc_are_apart : FnScope N_are_apart ["pairs"] (defScope s_are_apart) := ⟨rfl, rfl, rfl, by decide +kernel, rfl, by decide +kernel, by decide +kernel⟩
theorem b_are_apart : BindsT "are_apart" s_are_apart ["pairs"] := fun _ _ _ _ _ _ us hl => match us, hl with | [_], _ => rfl
abbrev s_plans_right : Stmt := top 9
abbrev N_plans_right : List Str := ["thing", "pair"]
abbrev t_plans_right : Ss := SH.t_plans_right
abbrev f_plans_right : List D → M D := SH.f_plans_right
theorem sc_plans_right : FnScope N_plans_right ["thing"] (defScope s_plans_right) := ⟨rfl, rfl, rfl, by decide +kernel, rfl, by decide +kernel, by decide +kernel⟩
theorem b_plans_right : BindsT "plans_right" s_plans_right ["thing"] := fun _ _ _ _ _ _ us hl => match us, hl with | [_], _ => rfl
abbrev s_books_right : Stmt := top 10
abbrev N_books_right : List Str := ["thing", "plan"]
abbrev t_books_right : Ss := SH.t_books_right
abbrev f_books_right : List D → M D := SH.f_books_right
theorem sc_books_right : FnScope N_books_right ["thing"] (defScope s_books_right) := ⟨rfl, rfl, rfl, by decide +kernel, rfl, by decide +kernel, by decide +kernel⟩
theorem b_books_right : BindsT "books_right" s_books_right ["thing"] := fun _ _ _ _ _ _ us hl => match us, hl with | [_], _ => rfl
abbrev s_need_book : Stmt := top 11
abbrev N_need_book : List Str := ["book"]
abbrev t_need_book : Ss := SH.t_need_book
abbrev f_need_book : List D → M D := SH.f_need_book
theorem sc_need_book : FnScope N_need_book ["book"] (defScope s_need_book) := ⟨rfl, rfl, rfl, by decide +kernel, rfl, by decide +kernel, by decide +kernel⟩
theorem b_need_book : BindsT "need_book" s_need_book ["book"] := fun _ _ _ _ _ _ us hl => match us, hl with | [_], _ => rfl
abbrev s_picks_right : Stmt := top 13
abbrev N_picks_right : List Str := ["book", "thing", "number"]
abbrev t_picks_right : Ss := SH.t_picks_right
abbrev f_picks_right : List D → M D := SH.f_picks_right
theorem sc_picks_right : FnScope N_picks_right ["book", "thing"] (defScope s_picks_right) := ⟨rfl, rfl, rfl, by decide +kernel, rfl, by decide +kernel, by decide +kernel⟩
theorem b_picks_right : BindsT "picks_right" s_picks_right ["book", "thing"] := fun _ _ _ _ _ _ us hl => match us, hl with | [_, _], _ => rfl
abbrev s_is_pick : Stmt := top 14
abbrev N_is_pick : List Str := ["book", "thing"]
abbrev t_is_pick : Ss := SH.t_is_pick
abbrev f_is_pick : List D → M D := SH.f_is_pick
theorem sc_is_pick : FnScope N_is_pick ["book", "thing"] (defScope s_is_pick) := ⟨rfl, rfl, rfl, by decide +kernel, rfl, by decide +kernel, by decide +kernel⟩
theorem b_is_pick : BindsT "is_pick" s_is_pick ["book", "thing"] := fun _ _ _ _ _ _ us hl => match us, hl with | [_, _], _ => rfl
abbrev s__law_draw : Stmt := top 17
abbrev N__law_draw : List Str := ["_law_state", "_law_size_here", "_law_found", "_law_turn", "_law_cell", "_law_mixed_here"]
abbrev t__law_draw : Ss := SH.t__law_draw
abbrev f__law_draw : List D → M D := SH.f__law_draw
theorem sc__law_draw : FnScope N__law_draw ["_law_state", "_law_size_here"] (defScope s__law_draw) := ⟨rfl, rfl, rfl, by decide +kernel, rfl, by decide +kernel, by decide +kernel⟩
theorem b__law_draw : BindsT "_law_draw" s__law_draw ["_law_state", "_law_size_here"] := fun _ _ _ _ _ _ us hl => match us, hl with | [_, _], _ => rfl
abbrev s__law_pick : Stmt := top 18
abbrev N__law_pick : List Str := ["_law_state", "_law_several"]
abbrev t__law_pick : Ss := SH.t__law_pick
abbrev f__law_pick : List D → M D := SH.f__law_pick
theorem sc__law_pick : FnScope N__law_pick ["_law_state", "_law_several"] (defScope s__law_pick) := ⟨rfl, rfl, rfl, by decide +kernel, rfl, by decide +kernel, by decide +kernel⟩
theorem b__law_pick : BindsT "_law_pick" s__law_pick ["_law_state", "_law_several"] := fun _ _ _ _ _ _ us hl => match us, hl with | [_, _], _ => rfl
abbrev s__law_mixed : Stmt := top 19
abbrev N__law_mixed : List Str := ["_law_state", "_law_several", "_law_left", "_law_found"]
abbrev t__law_mixed : Ss := SH.t__law_mixed
abbrev f__law_mixed : List D → M D := SH.f__law_mixed
theorem sc__law_mixed : FnScope N__law_mixed ["_law_state", "_law_several"] (defScope s__law_mixed) := ⟨rfl, rfl, rfl, by decide +kernel, rfl, by decide +kernel, by decide +kernel⟩
theorem b__law_mixed : BindsT "_law_mixed" s__law_mixed ["_law_state", "_law_several"] := fun _ _ _ _ _ _ us hl => match us, hl with | [_, _], _ => rfl
abbrev s__law_is_whole : Stmt := top 21
abbrev N__law_is_whole : List Str := ["_law_item"]
abbrev t__law_is_whole : Ss := SH.t__law_is_whole
abbrev f__law_is_whole : List D → M D := SH.f__law_is_whole
theorem sc__law_is_whole : FnScope N__law_is_whole ["_law_item"] (defScope s__law_is_whole) := ⟨rfl, rfl, rfl, by decide +kernel, rfl, by decide +kernel, by decide +kernel⟩
theorem b__law_is_whole : BindsT "_law_is_whole" s__law_is_whole ["_law_item"] := fun _ _ _ _ _ _ us hl => match us, hl with | [_], _ => rfl
abbrev s__law_odd : Stmt := top 22
abbrev N__law_odd : List Str := ["_law_state"]
abbrev t__law_odd : Ss := SH.t__law_odd
abbrev f__law_odd : List D → M D := SH.f__law_odd
theorem sc__law_odd : FnScope N__law_odd ["_law_state"] (defScope s__law_odd) := ⟨rfl, rfl, rfl, by decide +kernel, rfl, by decide +kernel, by decide +kernel⟩
theorem b__law_odd : BindsT "_law_odd" s__law_odd ["_law_state"] := fun _ _ _ _ _ _ us hl => match us, hl with | [_], _ => rfl
abbrev s__law_is_below : Stmt := top 23
abbrev N__law_is_below : List Str := ["_law_item", "_law_many"]
abbrev t__law_is_below : Ss := SH.t__law_is_below
abbrev f__law_is_below : List D → M D := SH.f__law_is_below
theorem sc__law_is_below : FnScope N__law_is_below ["_law_item", "_law_many"] (defScope s__law_is_below) := ⟨rfl, rfl, rfl, by decide +kernel, rfl, by decide +kernel, by decide +kernel⟩
theorem b__law_is_below : BindsT "_law_is_below" s__law_is_below ["_law_item", "_law_many"] := fun _ _ _ _ _ _ us hl => match us, hl with | [_, _], _ => rfl
abbrev s__law_is_pair : Stmt := top 24
abbrev N__law_is_pair : List Str := ["_law_item"]
abbrev t__law_is_pair : Ss := SH.t__law_is_pair
abbrev f__law_is_pair : List D → M D := SH.f__law_is_pair
theorem sc__law_is_pair : FnScope N__law_is_pair ["_law_item"] (defScope s__law_is_pair) := ⟨rfl, rfl, rfl, by decide +kernel, rfl, by decide +kernel, by decide +kernel⟩
theorem b__law_is_pair : BindsT "_law_is_pair" s__law_is_pair ["_law_item"] := fun _ _ _ _ _ _ us hl => match us, hl with | [_], _ => rfl
abbrev s__law_are_apart : Stmt := top 25
abbrev N__law_are_apart : List Str := ["_law_several", "_law_pair"]
abbrev t__law_are_apart : Ss := SH.t__law_are_apart
abbrev f__law_are_apart : List D → M D := SH.f__law_are_apart
theorem sc__law_are_apart : FnScope N__law_are_apart ["_law_several"] (defScope s__law_are_apart) := ⟨rfl, rfl, rfl, by decide +kernel, rfl, by decide +kernel, by decide +kernel⟩
theorem b__law_are_apart : BindsT "_law_are_apart" s__law_are_apart ["_law_several"] := fun _ _ _ _ _ _ us hl => match us, hl with | [_], _ => rfl
abbrev s__law_is_plan : Stmt := top 26
abbrev N__law_is_plan : List Str := ["_law_item", "_law_pair"]
abbrev t__law_is_plan : Ss := SH.t__law_is_plan
abbrev f__law_is_plan : List D → M D := SH.f__law_is_plan
theorem sc__law_is_plan : FnScope N__law_is_plan ["_law_item"] (defScope s__law_is_plan) := ⟨rfl, rfl, rfl, by decide +kernel, rfl, by decide +kernel, by decide +kernel⟩
theorem b__law_is_plan : BindsT "_law_is_plan" s__law_is_plan ["_law_item"] := fun _ _ _ _ _ _ us hl => match us, hl with | [_], _ => rfl
abbrev s__law_is_book : Stmt := top 27
abbrev N__law_is_book : List Str := ["_law_item", "_law_told"]
abbrev t__law_is_book : Ss := SH.t__law_is_book
abbrev f__law_is_book : List D → M D := SH.f__law_is_book
theorem sc__law_is_book : FnScope N__law_is_book ["_law_item"] (defScope s__law_is_book) := ⟨rfl, rfl, rfl, by decide +kernel, rfl, by decide +kernel, by decide +kernel⟩
theorem b__law_is_book : BindsT "_law_is_book" s__law_is_book ["_law_item"] := fun _ _ _ _ _ _ us hl => match us, hl with | [_], _ => rfl
abbrev s__law_plan : Stmt := top 28
abbrev N__law_plan : List Str := ["_law_state", "_law_many", "_law_most", "_law_persons", "_law_desks"]
abbrev t__law_plan : Ss := SH.t__law_plan
abbrev f__law_plan : List D → M D := SH.f__law_plan
theorem sc__law_plan : FnScope N__law_plan ["_law_state", "_law_many", "_law_most"] (defScope s__law_plan) := ⟨rfl, rfl, rfl, by decide +kernel, rfl, by decide +kernel, by decide +kernel⟩
theorem b__law_plan : BindsT "_law_plan" s__law_plan ["_law_state", "_law_many", "_law_most"] := fun _ _ _ _ _ _ us hl => match us, hl with | [_, _, _], _ => rfl
abbrev s__law_any_plan : Stmt := top 29
abbrev N__law_any_plan : List Str := ["_law_state", "_law_most"]
abbrev t__law_any_plan : Ss := SH.t__law_any_plan
abbrev f__law_any_plan : List D → M D := SH.f__law_any_plan
theorem sc__law_any_plan : FnScope N__law_any_plan ["_law_state", "_law_most"] (defScope s__law_any_plan) := ⟨rfl, rfl, rfl, by decide +kernel, rfl, by decide +kernel, by decide +kernel⟩
theorem b__law_any_plan : BindsT "_law_any_plan" s__law_any_plan ["_law_state", "_law_most"] := fun _ _ _ _ _ _ us hl => match us, hl with | [_, _], _ => rfl
abbrev s__law_near_plan : Stmt := top 30
abbrev N__law_near_plan : List Str := ["_law_state", "_law_told", "_law_left", "_law_persons", "_law_desks", "_law_item", "_law_pair"]
abbrev t__law_near_plan : Ss := SH.t__law_near_plan
abbrev f__law_near_plan : List D → M D := SH.f__law_near_plan
theorem sc__law_near_plan : FnScope N__law_near_plan ["_law_state", "_law_told"] (defScope s__law_near_plan) := ⟨rfl, rfl, rfl, by decide +kernel, rfl, by decide +kernel, by decide +kernel⟩
theorem b__law_near_plan : BindsT "_law_near_plan" s__law_near_plan ["_law_state", "_law_told"] := fun _ _ _ _ _ _ us hl => match us, hl with | [_, _], _ => rfl
abbrev s__law_book : Stmt := top 31
abbrev N__law_book : List Str := ["_law_state", "_law_most", "_law_many", "_law_wide", "_law_way", "_law_size_here", "_law_two", "_law_found", "_law_lap", "_law_told"]
abbrev t__law_book : Ss := SH.t__law_book
abbrev f__law_book : List D → M D := SH.f__law_book
theorem sc__law_book : FnScope N__law_book ["_law_state", "_law_most"] (defScope s__law_book) := ⟨rfl, rfl, rfl, by decide +kernel, rfl, by decide +kernel, by decide +kernel⟩
theorem b__law_book : BindsT "_law_book" s__law_book ["_law_state", "_law_most"] := fun _ _ _ _ _ _ us hl => match us, hl with | [_, _], _ => rfl
abbrev s__law_pick_drawn : Stmt := top 32
abbrev N__law_pick_drawn : List Str := ["_law_state", "_law_book_here", "_law_found", "_law_wanted", "_law_number", "_law_some", "_law_pair", "_law_other"]
abbrev t__law_pick_drawn : Ss := SH.t__law_pick_drawn
abbrev f__law_pick_drawn : List D → M D := SH.f__law_pick_drawn
theorem sc__law_pick_drawn : FnScope N__law_pick_drawn ["_law_state", "_law_book_here"] (defScope s__law_pick_drawn) := ⟨rfl, rfl, rfl, by decide +kernel, rfl, by decide +kernel, by decide +kernel⟩
theorem b__law_pick_drawn : BindsT "_law_pick_drawn" s__law_pick_drawn ["_law_state", "_law_book_here"] := fun _ _ _ _ _ _ us hl => match us, hl with | [_, _], _ => rfl
abbrev s__law_rising_pick : Stmt := top 33
abbrev N__law_rising_pick : List Str := ["_law_told", "_law_number"]
abbrev t__law_rising_pick : Ss := SH.t__law_rising_pick
abbrev f__law_rising_pick : List D → M D := SH.f__law_rising_pick
theorem sc__law_rising_pick : FnScope N__law_rising_pick ["_law_told"] (defScope s__law_rising_pick) := ⟨rfl, rfl, rfl, by decide +kernel, rfl, by decide +kernel, by decide +kernel⟩
theorem b__law_rising_pick : BindsT "_law_rising_pick" s__law_rising_pick ["_law_told"] := fun _ _ _ _ _ _ us hl => match us, hl with | [_], _ => rfl
abbrev s__law_is_pick : Stmt := top 34
abbrev N__law_is_pick : List Str := ["_law_book_here", "_law_item", "_law_number"]
abbrev t__law_is_pick : Ss := SH.t__law_is_pick
abbrev f__law_is_pick : List D → M D := SH.f__law_is_pick
theorem sc__law_is_pick : FnScope N__law_is_pick ["_law_book_here", "_law_item"] (defScope s__law_is_pick) := ⟨rfl, rfl, rfl, by decide +kernel, rfl, by decide +kernel, by decide +kernel⟩
theorem b__law_is_pick : BindsT "_law_is_pick" s__law_is_pick ["_law_book_here", "_law_item"] := fun _ _ _ _ _ _ us hl => match us, hl with | [_, _], _ => rfl
abbrev s__law_bool_pair : Stmt := top 35
abbrev N__law_bool_pair : List Str := ["_law_state", "_law_pair", "_law_spot", "_law_spots_here", "_law_item"]
abbrev t__law_bool_pair : Ss := SH.t__law_bool_pair
abbrev f__law_bool_pair : List D → M D := SH.f__law_bool_pair
theorem sc__law_bool_pair : FnScope N__law_bool_pair ["_law_state", "_law_pair"] (defScope s__law_bool_pair) := ⟨rfl, rfl, rfl, by decide +kernel, rfl, by decide +kernel, by decide +kernel⟩
theorem b__law_bool_pair : BindsT "_law_bool_pair" s__law_bool_pair ["_law_state", "_law_pair"] := fun _ _ _ _ _ _ us hl => match us, hl with | [_, _], _ => rfl
abbrev s__law_bad_plan : Stmt := top 36
abbrev N__law_bad_plan : List Str := ["_law_state", "_law_told", "_law_spot", "_law_pair", "_law_other", "_law_some", "_law_item"]
abbrev t__law_bad_plan : Ss := SH.t__law_bad_plan
abbrev f__law_bad_plan : List D → M D := SH.f__law_bad_plan
theorem sc__law_bad_plan : FnScope N__law_bad_plan ["_law_state"] (defScope s__law_bad_plan) := ⟨rfl, rfl, rfl, by decide +kernel, rfl, by decide +kernel, by decide +kernel⟩
theorem b__law_bad_plan : BindsT "_law_bad_plan" s__law_bad_plan ["_law_state"] := fun _ _ _ _ _ _ us hl => match us, hl with | [_], _ => rfl
abbrev s__law_bad_book : Stmt := top 37
abbrev N__law_bad_book : List Str := ["_law_state", "_law_told", "_law_spot", "_law_bad", "_law_some", "_law_item"]
abbrev t__law_bad_book : Ss := SH.t__law_bad_book
abbrev f__law_bad_book : List D → M D := SH.f__law_bad_book
theorem sc__law_bad_book : FnScope N__law_bad_book ["_law_state"] (defScope s__law_bad_book) := ⟨rfl, rfl, rfl, by decide +kernel, rfl, by decide +kernel, by decide +kernel⟩
theorem b__law_bad_book : BindsT "_law_bad_book" s__law_bad_book ["_law_state"] := fun _ _ _ _ _ _ us hl => match us, hl with | [_], _ => rfl
abbrev s__law_bad_pick : Stmt := top 38
abbrev N__law_bad_pick : List Str := ["_law_state", "_law_book_here", "_law_told", "_law_number", "_law_some", "_law_other", "_law_one", "_law_pair", "_law_item"]
abbrev t__law_bad_pick : Ss := SH.t__law_bad_pick
abbrev f__law_bad_pick : List D → M D := SH.f__law_bad_pick
theorem sc__law_bad_pick : FnScope N__law_bad_pick ["_law_state", "_law_book_here", "_law_told"] (defScope s__law_bad_pick) := ⟨rfl, rfl, rfl, by decide +kernel, rfl, by decide +kernel, by decide +kernel⟩
theorem b__law_bad_pick : BindsT "_law_bad_pick" s__law_bad_pick ["_law_state", "_law_book_here", "_law_told"] := fun _ _ _ _ _ _ us hl => match us, hl with | [_, _, _], _ => rfl
abbrev s_law : Stmt := top 39
abbrev N_law : List Str := ["_law_script", "_law_state", "_law_turn", "_law_book_here_here", "_law_some", "_law_number", "_law_item", "_law_other", "_law_due", "_law_bad", "_law_told"]
def t_law : Ss :=
  (sSeq (sFor (sRange1 (eBin dAdd (eC (.int 2)) (eCall fMin2 (sCons (eCall fLen (sCons (eVar 0) sNil)) (sCons (eC (.int 8)) sNil))))) (gN 2)
  (sSeq (sSet false 3 (eCallF f__law_book (sCons (eVar 1) (sCons (eC (.int 16)) sNil))))
  (sSeq (sSet false 10 (eCallF f__law_pick_drawn (sCons (eVar 1) (sCons (eVar 3) sNil))))
  (sSeq (sSet true 4 (eLst (sCons (eVar 10) (sCons (eC (.dct [])) (sCons (eCallF f__law_bad_pick (sCons (eVar 1) (sCons (eVar 3) (sCons (eVar 10) sNil)))) (sCons (eCallF f__law_bad_pick (sCons (eVar 1) (sCons (eVar 3) (sCons (eVar 10) sNil)))) (sCons (eCallF f__law_odd (sCons (eVar 1) sNil)) (sCons (eCallF f__law_rising_pick (sCons (eVar 10) sNil)) sNil))))))))
  (sSeq (sFor (sItems (eSl (eCallF f__law_mixed (sCons (eVar 1) (sCons (eCall fListD (sCons (eVar 10) sNil)) sNil))) oNone (oSome (eC (.int 2))))) (gN 5)
  (sSeq (sSet true 7 (eCall fDict (sCons (eLc (sItems (eVar 10)) (gN 6) sYes (eTup (sCons (eVar 6) (sCons (eBin dIx (eVar 10) (eVar 6)) sNil))) [6]) sNil)))
  (sSeq (sSetU 7 (eVar 5) (eCallF f__law_pick (sCons (eVar 1) (sCons (eBin dAdd (eCall fList (sCons (eBin dIx (eVar 3) (eVar 5)) sNil)) (eLst (sCons (eTup (sCons (eCallF f__law_draw (sCons (eVar 1) (sCons (eC (.int 8)) sNil))) (sCons (eCallF f__law_draw (sCons (eVar 1) (sCons (eC (.int 8)) sNil))) sNil))) sNil))) sNil))))
  (sFrz [7] (sExprM (eMeth 4 hAppend (mCons (mPure (eVar 7)) mNil)))))))
  (sSeq (sFrz [4] (sFor (sItems (eVar 4)) (gN 6)
  (sSeq (sSet false 8 (eCallF f__law_is_pick (sCons (eVar 3) (sCons (eVar 6) sNil))))
  (sIf (eTr (eBin dNe (eCall fRepr (sCons (eLst (sCons (eCallF f_is_pick (sCons (eVar 3) (sCons (eVar 6) sNil))) (sCons (eCallK f_is_pick [1, 0] sNil (sCons (eVar 6) (sCons (eVar 3) sNil))) sNil))) sNil)) (eCall fRepr (sCons (eLst (sCons (eVar 8) (sCons (eVar 8) sNil))) sNil))))
  (sRet (eC (.bl false)))
  (fun ρ => M.pure (.nx ρ))))))
  (sSeq (sSet false 9 (eCallF f__law_bad_book (sCons (eVar 1) sNil)))
  (sIf (bNot (eTr (eCall isi (sCons (eCaught pks (eCallF f_is_pick (sCons (eVar 9) (sCons (eVar 10) sNil)))) (sCons (eC (.fn "BadBook")) sNil)))))
  (sRet (eC (.bl false)))
  (fun ρ => M.pure (.nx ρ))))))))))
  (sRet (eC (.bl true))))
def f_law : List D → M D := fnB t_law 11
theorem sc_law : FnScope N_law ["_law_script"] (defScope s_law) := ⟨rfl, rfl, rfl, by decide +kernel, rfl, by decide +kernel, by decide +kernel⟩
theorem b_law : BindsT "law" s_law ["_law_script"] := fun _ _ _ _ _ _ us hl => match us, hl with | [_], _ => rfl
theorem kb_is_pick_thing_book : KBindsT "is_pick" s_is_pick ["book", "thing"] ["thing", "book"] [1, 0] 0 := fun _ _ _ _ _ _ us ws h1 h2 => match us, ws, h1, h2 with | [], [_, _], _, _ => ⟨rfl, rfl⟩
/-- what the top has written -/
structure Tx (K : PySem.W.Frag) (mg : Str → Option Value) (cL : Addr) : Prop where
  F_is_between : IsFn K mg "is_between" s_is_between
  F_is_pair : IsFn K mg "is_pair" s_is_pair
  F_are_apart : IsFn K mg "are_apart" s_are_apart
  F_plans_right : IsFn K mg "plans_right" s_plans_right
  F_books_right : IsFn K mg "books_right" s_books_right
  F_need_book : IsFn K mg "need_book" s_need_book
  F_picks_right : IsFn K mg "picks_right" s_picks_right
  F_is_pick : IsFn K mg "is_pick" s_is_pick
  F__law_begun : IsFn K mg "_law_begun" s__law_begun
  F__law_draw : IsFn K mg "_law_draw" s__law_draw
  F__law_pick : IsFn K mg "_law_pick" s__law_pick
  F__law_mixed : IsFn K mg "_law_mixed" s__law_mixed
  F__law_caught : IsFn K mg "_law_caught" s__law_caught
  F__law_is_whole : IsFn K mg "_law_is_whole" s__law_is_whole
  F__law_odd : IsFn K mg "_law_odd" s__law_odd
  F__law_is_below : IsFn K mg "_law_is_below" s__law_is_below
  F__law_is_pair : IsFn K mg "_law_is_pair" s__law_is_pair
  F__law_are_apart : IsFn K mg "_law_are_apart" s__law_are_apart
  F__law_is_plan : IsFn K mg "_law_is_plan" s__law_is_plan
  F__law_is_book : IsFn K mg "_law_is_book" s__law_is_book
  F__law_plan : IsFn K mg "_law_plan" s__law_plan
  F__law_any_plan : IsFn K mg "_law_any_plan" s__law_any_plan
  F__law_near_plan : IsFn K mg "_law_near_plan" s__law_near_plan
  F__law_book : IsFn K mg "_law_book" s__law_book
  F__law_pick_drawn : IsFn K mg "_law_pick_drawn" s__law_pick_drawn
  F__law_rising_pick : IsFn K mg "_law_rising_pick" s__law_rising_pick
  F__law_is_pick : IsFn K mg "_law_is_pick" s__law_is_pick
  F__law_bool_pair : IsFn K mg "_law_bool_pair" s__law_bool_pair
  F__law_bad_plan : IsFn K mg "_law_bad_plan" s__law_bad_plan
  F__law_bad_book : IsFn K mg "_law_bad_book" s__law_bad_book
  F__law_bad_pick : IsFn K mg "_law_bad_pick" s__law_bad_pick
  F_law : IsFnL K mg "law" s_law cL
  E_BadBook : IsExc K mg "BadBook"
  I_MOST_NUMBER : IsInt mg "MOST_NUMBER" 7
  I_MOST_PLANS : IsInt mg "MOST_PLANS" 16
  n_abs : mg "abs" = none
  n_all : mg "all" = none
  n_bool : mg "bool" = none
  n_dict : mg "dict" = none
  n_enumerate : mg "enumerate" = none
  n_int : mg "int" = none
  n_isinstance : mg "isinstance" = none
  n_len : mg "len" = none
  n_list : mg "list" = none
  n_min : mg "min" = none
  n_range : mg "range" = none
  n_repr : mg "repr" = none
  n_set : mg "set" = none
  n_sorted : mg "sorted" = none
  n_tuple : mg "tuple" = none
  n_zip : mg "zip" = none
  isi : IsiOk K mg (subOf isiT) (fun c => isiC.contains c)
  pk : PkOk K mg "PickError" pks
section
variable {P : Program} {w : World} {K : PySem.W.Frag} {mg : Str → Option Value} {base : Heap} {T : List (Addr × Str)} {cL : Addr}
theorem ok_is_between (X0 : Tx K mg cL) : Cal false P w K mg base T 1 "is_between" s_is_between ["thing", "low", "high"] .sh f_is_between := by
  refine cal_of (t := t_is_between) X0.F_is_between sc_is_between (fun f cdv A outer s H E n hX hr tk hgdT hk hTm => ?_)
  exact (ds_one (ds_retS hk (DE.sh (de_and (de_callB (call_isi' isi0_ok) rfl X0.n_isinstance rfl (da_cons (de_var (pv 0)) (da_cons (de_ty rfl X0.n_int rfl) da_nil))) (de_and (de_not (de_callB (call_isi' isi0_ok) rfl X0.n_isinstance rfl (da_cons (de_var (pv 0)) (da_cons (de_ty rfl X0.n_bool rfl) da_nil)))) (de_one (de_chain op_dLe op_dLe (de_var (pv 1)) (de_var (pv 0)) (de_var (pv 2)))))))))
theorem ok_is_pair (X0 : Tx K mg cL) : Cal false P w K mg base T 2 "is_pair" s_is_pair ["thing"] .sh f_is_pair := by
  refine cal_of (t := t_is_pair) X0.F_is_pair sc_is_pair (fun f cdv A outer s H E n hX hr tk hgdT hk hTm => ?_)
  exact (ds_cons (ds_if (dt_w (dw_or (dt_not (dt_of (de_callB (call_isi' isi0_ok) rfl X0.n_isinstance rfl (da_cons (de_var (pv 0)) (da_cons (de_ty rfl X0.n_tuple rfl) da_nil))))) (dw_or1 (dt_cmp (op_dNe hX) (de_callB call_len' rfl X0.n_len rfl (da_cons (de_var (pv 0)) da_nil)) de_int (nomark _))))) (ds_one (ds_retS hk (DE.sh de_bl))) ds_nil) (ds_one (ds_retS hk (de_and (de_cal (ok_is_between X0) b_is_between nogd tk hr (by decide) rfl (das_cons (de_ix (ix_seq' hX) (de_var (pv 0)) de_int) (das_cons (DE.sh de_int) (das_cons (DE.sh (de_gint X0.I_MOST_NUMBER rfl)) das_nil))) (al_cons (al_cons (al_cons al_nil)))) (de_one (de_cal (ok_is_between X0) b_is_between nogd tk hr (by decide) rfl (das_cons (de_ix (ix_seq' hX) (de_var (pv 0)) de_int) (das_cons (DE.sh de_int) (das_cons (DE.sh (de_gint X0.I_MOST_NUMBER rfl)) das_nil))) (al_cons (al_cons (al_cons al_nil)))))))))
theorem ok_are_apart (X0 : Tx K mg cL) : Cal false P w K mg base T 1 "are_apart" s_are_apart ["pairs"] .sh f_are_apart := by
  refine cal_of (t := t_are_apart) X0.F_are_apart sc_are_apart (fun f cdv A outer s H E n hX hr tk hgdT hk hTm => ?_)
  exact (ds_cons (ds_setScS (own := [("pair", 3)]) hX rfl rfl rfl (di_seq (DE.peek (de_var (pv 0)))) (blkOk_by (by kernel_rfl)) (by decide) (fun _ _ _ _ _ => (tg_name (XG.blk hX).nd rfl (.inl rfl))) (fun _ _ _ _ _ => dts_nil) (fun _ _ _ _ _ => (de_ix (ix_seq' (XG.blk hX)) (de_var (pv 3)) de_int))) (ds_cons (ds_setScS (own := [("pair", 3)]) hX rfl rfl rfl (di_seq (DE.peek (de_var (pv 0)))) (blkOk_by (by kernel_rfl)) (by decide) (fun _ _ _ _ _ => (tg_name (XG.blk hX).nd rfl (.inl rfl))) (fun _ _ _ _ _ => dts_nil) (fun _ _ _ _ _ => (de_ix (ix_seq' (XG.blk hX)) (de_var (pv 3)) de_int))) (ds_one (ds_retS hk (DE.sh (de_and (de_cmp (op_dEq hX) (de_callB call_len' rfl X0.n_len rfl (da_cons (de_var (pv 1)) da_nil)) (de_callB call_len' rfl X0.n_len rfl (da_cons (de_var (pv 0)) da_nil)) (nomark _)) (de_one (de_cmp (op_dEq hX) (de_callB call_len' rfl X0.n_len rfl (da_cons (de_var (pv 2)) da_nil)) (de_callB call_len' rfl X0.n_len rfl (da_cons (de_var (pv 0)) da_nil)) (nomark _)))))))))
theorem ok_plans_right (X0 : Tx K mg cL) : Cal false P w K mg base T 3 "plans_right" s_plans_right ["thing"] .sh f_plans_right := by
  refine cal_of (t := t_plans_right) X0.F_plans_right sc_plans_right (fun f cdv A outer s H E n hX hr tk hgdT hk hTm => ?_)
  exact (ds_cons (ds_if (dt_w (dw_or (dt_not (dt_of (de_callB (call_isi' isi0_ok) rfl X0.n_isinstance rfl (da_cons (de_var (pv 0)) (da_cons (de_ty rfl X0.n_tuple rfl) da_nil))))) (dw_or1 (dt_not (dt_of (de_callB (call_all' hX) rfl X0.n_all rfl (da_cons (de_lc (own := [("pair", 1)]) hX (di_seq (DE.peek (de_var (pv 0)))) (blkOk_by (by kernel_rfl)) (by decide) (fun _ _ _ _ _ => (tg_name (XG.blk hX).nd rfl (.inl rfl))) (fun _ _ _ _ _ => dts_nil) (fun _ _ _ _ _ => (de_cal (ok_is_pair X0) b_is_pair nogd LamX.takes0 hr (by decide) rfl (das_cons (de_var (pv 1)) das_nil) (al_cons al_nil)))) da_nil))))))) (ds_one (ds_retS hk (DE.sh de_bl))) ds_nil) (ds_one (ds_retS hk (de_and (de_cmp (op_dEq hX) (de_callTy call_list' rfl X0.n_list rfl (da_cons (de_var (pv 0)) da_nil)) (de_callB (call_sorted' hX) rfl X0.n_sorted rfl (da_cons (de_var (pv 0)) da_nil)) (nomark _)) (de_one (de_cal (ok_are_apart X0) b_are_apart nogd tk hr (by decide) rfl (das_cons (de_var (pv 0)) das_nil) (al_cons al_nil)))))))
theorem ok_books_right (X0 : Tx K mg cL) : Cal false P w K mg base T 4 "books_right" s_books_right ["thing"] .sh f_books_right := by
  refine cal_of (t := t_books_right) X0.F_books_right sc_books_right (fun f cdv A outer s H E n hX hr tk hgdT hk hTm => ?_)
  exact (ds_cons (ds_if (dt_w (dw_or (dt_not (dt_of (de_callB (call_isi' isi0_ok) rfl X0.n_isinstance rfl (da_cons (de_var (pv 0)) (da_cons (de_ty rfl X0.n_tuple rfl) da_nil))))) (dw_or1 (dt_not (dt_chain op_dLe op_dLe de_int (de_callB call_len' rfl X0.n_len rfl (da_cons (de_var (pv 0)) da_nil)) (de_gint X0.I_MOST_PLANS rfl)))))) (ds_one (ds_retS hk (DE.sh de_bl))) ds_nil) (ds_one (ds_retS hk (DE.sh (de_callB (call_all' hX) rfl X0.n_all rfl (da_cons (de_lc (own := [("plan", 1)]) hX (di_seq (DE.peek (de_var (pv 0)))) (blkOk_by (by kernel_rfl)) (by decide) (fun _ _ _ _ _ => (tg_name (XG.blk hX).nd rfl (.inl rfl))) (fun _ _ _ _ _ => dts_nil) (fun _ _ _ _ _ => (de_cal (ok_plans_right X0) b_plans_right nogd LamX.takes0 hr (by decide) rfl (das_cons (de_var (pv 1)) das_nil) (al_cons al_nil)))) da_nil))))))
theorem ok_need_book (X0 : Tx K mg cL) : Cal false P w K mg base T 5 "need_book" s_need_book ["book"] .sh f_need_book := by
  refine cal_of (t := t_need_book) X0.F_need_book sc_need_book (fun f cdv A outer s H E n hX hr tk hgdT hk hTm => ?_)
  exact (ds_one (ds_if (dt_not (dt_of (de_cal (ok_books_right X0) b_books_right nogd tk hr (by decide) rfl (das_cons (de_var (pv 0)) das_nil) (al_cons al_nil)))) (ds_one (ds_raiseC hX tk X0.E_BadBook rfl)) ds_nil))
theorem ok_picks_right (X0 : Tx K mg cL) : Cal false P w K mg base T 3 "picks_right" s_picks_right ["book", "thing"] .sh f_picks_right := by
  refine cal_of (t := t_picks_right) X0.F_picks_right sc_picks_right (fun f cdv A outer s H E n hX hr tk hgdT hk hTm => ?_)
  exact (ds_cons (ds_if (dt_w (dw_or (dt_not (dt_of (de_callB (call_isi' isi0_ok) rfl X0.n_isinstance rfl (da_cons (de_var (pv 1)) (da_cons (de_ty rfl X0.n_dict rfl) da_nil))))) (dw_or1 (dt_not (dt_of (de_callB (call_all' hX) rfl X0.n_all rfl (da_cons (de_lc (own := [("number", 2)]) hX (di_seq (DE.peek (de_var (pv 1)))) (blkOk_by (by kernel_rfl)) (by decide) (fun _ _ _ _ _ => (tg_name (XG.blk hX).nd rfl (.inl rfl))) (fun _ _ _ _ _ => dts_nil) (fun _ _ _ _ _ => (de_cal (ok_is_between X0) b_is_between nogd LamX.takes0 hr (by decide) rfl (das_cons (de_var (pv 2)) (das_cons (DE.sh de_int) (das_cons (DE.sh (de_bin op_dSub (de_callB call_len' rfl X0.n_len rfl (da_cons (de_var (pv 0)) da_nil)) de_int)) das_nil))) (al_cons (al_cons (al_cons al_nil)))))) da_nil))))))) (ds_one (ds_retS hk (DE.sh de_bl))) ds_nil) (ds_cons (ds_if (dt_not (dt_of (de_callB (call_all' hX) rfl X0.n_all rfl (da_cons (de_lc (own := [("number", 2)]) hX (di_seq (DE.peek (de_var (pv 1)))) (blkOk_by (by kernel_rfl)) (by decide) (fun _ _ _ _ _ => (tg_name (XG.blk hX).nd rfl (.inl rfl))) (fun _ _ _ _ _ => dts_nil) (fun _ _ _ _ _ => (DE.sh (de_and (de_cal (ok_is_pair X0) b_is_pair nogd LamX.takes0 hr (by decide) rfl (das_cons (de_ix (ix_seq' (XG.blk hX)) (de_var (pv 1)) (de_var (pv 2))) das_nil) (al_cons al_nil)) (de_one (de_cmp (op_dIn (XG.blk hX)) (de_ix (ix_seq' (XG.blk hX)) (de_var (pv 1)) (de_var (pv 2))) (de_ix (ix_seq' (XG.blk hX)) (de_var (pv 0)) (de_var (pv 2))) (by rfl))))))) da_nil)))) (ds_one (ds_retS hk (DE.sh de_bl))) ds_nil) (ds_one (ds_retS hk (de_cal (ok_are_apart X0) b_are_apart nogd tk hr (by decide) rfl (das_cons (DE.sh (de_lc (own := [("number", 2)]) hX (di_seq (DE.peek (de_var (pv 1)))) (blkOk_by (by kernel_rfl)) (by decide) (fun _ _ _ _ _ => (tg_name (XG.blk hX).nd rfl (.inl rfl))) (fun _ _ _ _ _ => dts_nil) (fun _ _ _ _ _ => (de_ix (ix_seq' (XG.blk hX)) (de_var (pv 1)) (de_var (pv 2)))))) das_nil) (al_cons al_nil))))))
theorem ok_is_pick (X0 : Tx K mg cL) : Cal false P w K mg base T 6 "is_pick" s_is_pick ["book", "thing"] .sh f_is_pick := by
  refine cal_of (t := t_is_pick) X0.F_is_pick sc_is_pick (fun f cdv A outer s H E n hX hr tk hgdT hk hTm => ?_)
  exact (ds_cons (ds_expr (de_cal (ok_need_book X0) b_need_book nogd tk hr (by decide) rfl (das_cons (de_var (pv 0)) das_nil) (al_cons al_nil))) (ds_one (ds_retS hk (de_cal (ok_picks_right X0) b_picks_right nogd tk hr (by decide) rfl (das_cons (de_var (pv 0)) (das_cons (de_var (pv 1)) das_nil)) (al_cons (al_cons al_nil))))))
theorem ok__law_draw (X0 : Tx K mg cL) : Cal false P w K mg base T 1 "_law_draw" s__law_draw ["_law_state", "_law_size_here"] .sh f__law_draw := by
  refine cal_of (t := t__law_draw) X0.F__law_draw sc__law_draw (fun f cdv A outer s H E n hX hr tk hgdT hk hTm => ?_)
  exact (ds_cons (ds_while 66 (passes_of rfl) (dt_w (dw_and (dt_cmp (op_dEq hX) (de_stL hX (pv 0)) de_int (nomark _)) (dw_and1 (dt_large hX (pv 0))))) (ds_one (ds_stL hX (pv 0) (de_popL hX (pv 0))))) (ds_cons (ds_if (dt_cmp op_dGt (de_stL hX (pv 0)) de_int (nomark _)) (ds_cons (ds_set false hX.nd rfl (.inl rfl) (DE.sh (de_bin op_dMod (de_callTy call_int' rfl X0.n_int rfl (da_cons (de_stL hX (pv 0)) da_nil)) (de_var (pv 1))))) (ds_cons (ds_stL hX (pv 0) (de_bin op_dFdiv (de_stL hX (pv 0)) (de_var (pv 1)))) (ds_one (ds_retS hk (de_var (pv 2)))))) ds_nil) (ds_cons (ds_set false hX.nd rfl (.inl rfl) (DE.sh (de_bin op_dAdd (de_stT hX (pv 0)) de_int))) (ds_cons (ds_stT hX (pv 0) (de_var (pv 3))) (ds_cons (ds_set false hX.nd rfl (.inl rfl) (DE.sh (de_if (dt_cells hX (pv 0)) (de_cellIx hX (pv 0) (de_bin op_dMod (de_callTy call_int' rfl X0.n_int rfl (da_cons (de_var (pv 3)) da_nil)) (de_cellLen hX rfl X0.n_len (pv 0)))) de_int))) (ds_cons (ds_set false hX.nd rfl (.inl rfl) (DE.sh (de_bin op_dMod (de_callTy call_int' rfl X0.n_int rfl (da_cons (de_bin op_dPow (de_bin op_dAdd (de_bin op_dAdd (de_bin op_dMod (de_callTy call_int' rfl X0.n_int rfl (da_cons (de_var (pv 4)) da_nil)) de_int) (de_bin op_dMul de_int (de_var (pv 3)))) de_int) de_int) da_nil)) de_int))) (ds_one (ds_retS hk (DE.sh (de_bin op_dMod (de_callTy call_int' rfl X0.n_int rfl (da_cons (de_bin op_dFdiv (de_bin op_dMod (de_callTy call_int' rfl X0.n_int rfl (da_cons (de_bin op_dPow (de_bin op_dAdd (de_var (pv 5)) (de_bin op_dMul de_int (de_var (pv 3)))) de_int) da_nil)) de_int) de_int) da_nil)) (de_var (pv 1))))))))))))
theorem ok__law_pick (X0 : Tx K mg cL) : Cal false P w K mg base T 2 "_law_pick" s__law_pick ["_law_state", "_law_several"] .sh f__law_pick := by
  refine cal_of (t := t__law_pick) X0.F__law_pick sc__law_pick (fun f cdv A outer s H E n hX hr tk hgdT hk hTm => ?_)
  exact (ds_one (ds_retS hk (de_ix (ix_seq' hX) (de_var (pv 1)) (de_cal (ok__law_draw X0) b__law_draw nogd tk hr (by decide) rfl (das_cons (de_var (pv 0)) (das_cons (DE.sh (de_callB call_len' rfl X0.n_len rfl (da_cons (de_var (pv 1)) da_nil))) das_nil)) (al_cons (al_cons al_nil))))))
theorem ok__law_mixed (X0 : Tx K mg cL) : Cal false P w K mg base T 2 "_law_mixed" s__law_mixed ["_law_state", "_law_several"] .sh f__law_mixed := by
  refine cal_of (t := t__law_mixed) X0.F__law_mixed sc__law_mixed (fun f cdv A outer s H E n hX hr tk hgdT hk hTm => ?_)
  exact (ds_cons (ds_par2 (o1 := true) (o2 := true) (i := 2) (j := 3) hX rfl rfl (by decide) rfl rfl (de_callTy call_list' rfl X0.n_list rfl (da_cons (de_var (pv 1)) da_nil)) (de_lst das_nil)) (ds_cons (ds_while 66 (passes_of rfl) (dt_cmp (op_dNe hX) (de_peek (pv 2)) (de_lst das_nil) (nomark _)) (ds_one (ds_exprM (me_meth1 PySem.F.slot_list_append PySem.F.type_list_append mt_append lm_append (pv 3) (me_meth1 PySem.F.slot_list_pop PySem.F.type_list_pop mt_popAt lm_pop (pv 2) (me_of (de_cal (ok__law_draw X0) b__law_draw nogd tk hr (by decide) rfl (das_cons (de_var (pv 0)) (das_cons (DE.sh (de_callB call_len' rfl X0.n_len rfl (da_cons (de_peek (pv 2)) da_nil))) das_nil)) (al_cons (al_cons al_nil))))))))) (ds_one (ds_frz [3] (ds_retS hk (de_var (pv 3)))))))
theorem ok__law_is_whole (X0 : Tx K mg cL) : Cal false P w K mg base T 1 "_law_is_whole" s__law_is_whole ["_law_item"] .sh f__law_is_whole := by
  refine cal_of (t := t__law_is_whole) X0.F__law_is_whole sc__law_is_whole (fun f cdv A outer s H E n hX hr tk hgdT hk hTm => ?_)
  exact (ds_one (ds_retS hk (DE.sh (de_and (de_callB (call_isi' isi0_ok) rfl X0.n_isinstance rfl (da_cons (de_var (pv 0)) (da_cons (de_ty rfl X0.n_int rfl) da_nil))) (de_one (de_not (de_callB (call_isi' isi0_ok) rfl X0.n_isinstance rfl (da_cons (de_var (pv 0)) (da_cons (de_ty rfl X0.n_bool rfl) da_nil)))))))))
theorem ok__law_odd (X0 : Tx K mg cL) : Cal false P w K mg base T 3 "_law_odd" s__law_odd ["_law_state"] .sh f__law_odd := by
  refine cal_of (t := t__law_odd) X0.F__law_odd sc__law_odd (fun f cdv A outer s H E n hX hr tk hgdT hk hTm => ?_)
  exact (ds_one (ds_retS hk (de_cal (ok__law_pick X0) b__law_pick nogd tk hr (by decide) rfl (das_cons (de_var (pv 0)) (das_cons (DE.sh (de_lst (das_cons (DE.sh de_non) (das_cons (DE.sh de_bl) (das_cons (DE.sh de_bl) (das_cons (DE.sh de_str) (das_cons (DE.sh de_str) (das_cons (DE.sh (de_lst das_nil)) (das_cons (DE.sh de_dct0) (das_cons (DE.sh (de_tup (das_cons (DE.sh de_non) das_nil))) (das_cons (DE.sh (de_tup (das_cons (DE.sh de_str) (das_cons (DE.sh de_int) das_nil)))) (das_cons (DE.sh (de_lst (das_cons (DE.sh (de_lst (das_cons (DE.sh de_int) das_nil))) das_nil))) (das_cons (DE.sh (de_dct (ps := [((eC (.int 0)), (eC (.int 0)))]) hX (pps_cons (DE.sh de_int) (DE.sh de_int) pps_nil))) (das_cons (DE.sh (de_tup (das_cons (DE.sh de_bl) das_nil))) (das_cons (DE.sh de_int) (das_cons (DE.sh (de_un op_neg de_int)) das_nil)))))))))))))))) das_nil)) (al_cons (al_cons al_nil)))))
theorem ok__law_is_below (X0 : Tx K mg cL) : Cal false P w K mg base T 2 "_law_is_below" s__law_is_below ["_law_item", "_law_many"] .sh f__law_is_below := by
  refine cal_of (t := t__law_is_below) X0.F__law_is_below sc__law_is_below (fun f cdv A outer s H E n hX hr tk hgdT hk hTm => ?_)
  exact (ds_one (ds_retS hk (DE.sh (de_and (de_cal (ok__law_is_whole X0) b__law_is_whole nogd tk hr (by decide) rfl (das_cons (de_var (pv 0)) das_nil) (al_cons al_nil)) (de_one (de_chain op_dLe op_dLt de_int (de_var (pv 0)) (de_var (pv 1))))))))
theorem ok__law_is_pair (X0 : Tx K mg cL) : Cal false P w K mg base T 3 "_law_is_pair" s__law_is_pair ["_law_item"] .sh f__law_is_pair := by
  refine cal_of (t := t__law_is_pair) X0.F__law_is_pair sc__law_is_pair (fun f cdv A outer s H E n hX hr tk hgdT hk hTm => ?_)
  exact (ds_one (ds_retS hk (de_and (de_callB (call_isi' isi0_ok) rfl X0.n_isinstance rfl (da_cons (de_var (pv 0)) (da_cons (de_ty rfl X0.n_tuple rfl) da_nil))) (de_and (de_cmp (op_dEq hX) (de_callB call_len' rfl X0.n_len rfl (da_cons (de_var (pv 0)) da_nil)) de_int (nomark _)) (de_and (de_cal (ok__law_is_below X0) b__law_is_below nogd tk hr (by decide) rfl (das_cons (de_ix (ix_seq' hX) (de_var (pv 0)) de_int) (das_cons (DE.sh de_int) das_nil)) (al_cons (al_cons al_nil))) (de_one (de_cal (ok__law_is_below X0) b__law_is_below nogd tk hr (by decide) rfl (das_cons (de_ix (ix_seq' hX) (de_var (pv 0)) de_int) (das_cons (DE.sh de_int) das_nil)) (al_cons (al_cons al_nil)))))))))
theorem ok__law_are_apart (X0 : Tx K mg cL) : Cal false P w K mg base T 1 "_law_are_apart" s__law_are_apart ["_law_several"] .sh f__law_are_apart := by
  refine cal_of (t := t__law_are_apart) X0.F__law_are_apart sc__law_are_apart (fun f cdv A outer s H E n hX hr tk hgdT hk hTm => ?_)
  exact (ds_one (ds_retS hk (DE.sh (de_and (de_cmp (op_dEq hX) (de_lenSet hX rfl X0.n_len rfl X0.n_set (de_lc (own := [("_law_pair", 1)]) hX (di_seq (DE.peek (de_var (pv 0)))) (blkOk_by (by kernel_rfl)) (by decide) (fun _ _ _ _ _ => (tg_name (XG.blk hX).nd rfl (.inl rfl))) (fun _ _ _ _ _ => dts_nil) (fun _ _ _ _ _ => (de_ix (ix_seq' (XG.blk hX)) (de_var (pv 1)) de_int)))) (de_callB call_len' rfl X0.n_len rfl (da_cons (de_var (pv 0)) da_nil)) (nomark _)) (de_one (de_cmp (op_dEq hX) (de_lenSet hX rfl X0.n_len rfl X0.n_set (de_lc (own := [("_law_pair", 1)]) hX (di_seq (DE.peek (de_var (pv 0)))) (blkOk_by (by kernel_rfl)) (by decide) (fun _ _ _ _ _ => (tg_name (XG.blk hX).nd rfl (.inl rfl))) (fun _ _ _ _ _ => dts_nil) (fun _ _ _ _ _ => (de_ix (ix_seq' (XG.blk hX)) (de_var (pv 1)) de_int)))) (de_callB call_len' rfl X0.n_len rfl (da_cons (de_var (pv 0)) da_nil)) (nomark _)))))))
theorem ok__law_is_plan (X0 : Tx K mg cL) : Cal false P w K mg base T 4 "_law_is_plan" s__law_is_plan ["_law_item"] .sh f__law_is_plan := by
  refine cal_of (t := t__law_is_plan) X0.F__law_is_plan sc__law_is_plan (fun f cdv A outer s H E n hX hr tk hgdT hk hTm => ?_)
  exact (ds_cons (ds_if (dt_w (dw_or (dt_not (dt_of (de_callB (call_isi' isi0_ok) rfl X0.n_isinstance rfl (da_cons (de_var (pv 0)) (da_cons (de_ty rfl X0.n_tuple rfl) da_nil))))) (dw_or1 (dt_cmp (op_dNe hX) (de_lc (own := [("_law_pair", 1)]) hX (di_seq (DE.peek (de_var (pv 0)))) (blkOk_by (by kernel_rfl)) (by decide) (fun _ _ _ _ _ => (tg_name (XG.blk hX).nd rfl (.inl rfl))) (fun _ _ _ _ _ => (dts_one (dt_not (dt_of (de_cal (ok__law_is_pair X0) b__law_is_pair nogd LamX.takes0 hr (by decide) rfl (das_cons (de_var (pv 1)) das_nil) (al_cons al_nil)))))) (fun _ _ _ _ _ => (DE.sh de_int))) (de_lst das_nil) (nomark _))))) (ds_one (ds_retS hk (DE.sh de_bl))) ds_nil) (ds_one (ds_retS hk (de_and (de_cmp (op_dEq hX) (de_callTy call_list' rfl X0.n_list rfl (da_cons (de_var (pv 0)) da_nil)) (de_callB (call_sorted' hX) rfl X0.n_sorted rfl (da_cons (de_var (pv 0)) da_nil)) (nomark _)) (de_one (de_cal (ok__law_are_apart X0) b__law_are_apart nogd tk hr (by decide) rfl (das_cons (de_var (pv 0)) das_nil) (al_cons al_nil)))))))
theorem ok__law_is_book (X0 : Tx K mg cL) : Cal false P w K mg base T 5 "_law_is_book" s__law_is_book ["_law_item"] .sh f__law_is_book := by
  refine cal_of (t := t__law_is_book) X0.F__law_is_book sc__law_is_book (fun f cdv A outer s H E n hX hr tk hgdT hk hTm => ?_)
  exact (ds_cons (ds_if (dt_w (dw_or (dt_not (dt_of (de_callB (call_isi' isi0_ok) rfl X0.n_isinstance rfl (da_cons (de_var (pv 0)) (da_cons (de_ty rfl X0.n_tuple rfl) da_nil))))) (dw_or1 (dt_not (dt_chain op_dLe op_dLe de_int (de_callB call_len' rfl X0.n_len rfl (da_cons (de_var (pv 0)) da_nil)) de_int))))) (ds_one (ds_retS hk (DE.sh de_bl))) ds_nil) (ds_one (ds_retS hk (DE.sh (de_cmp (op_dEq hX) (de_lc (own := [("_law_told", 1)]) hX (di_seq (DE.peek (de_var (pv 0)))) (blkOk_by (by kernel_rfl)) (by decide) (fun _ _ _ _ _ => (tg_name (XG.blk hX).nd rfl (.inl rfl))) (fun _ _ _ _ _ => (dts_one (dt_not (dt_of (de_cal (ok__law_is_plan X0) b__law_is_plan nogd LamX.takes0 hr (by decide) rfl (das_cons (de_var (pv 1)) das_nil) (al_cons al_nil)))))) (fun _ _ _ _ _ => (DE.sh de_int))) (de_lst das_nil) (nomark _))))))
theorem ok__law_plan (X0 : Tx K mg cL) : Cal false P w K mg base T 3 "_law_plan" s__law_plan ["_law_state", "_law_many", "_law_most"] .sh f__law_plan := by
  refine cal_of (t := t__law_plan) X0.F__law_plan sc__law_plan (fun f cdv A outer s H E n hX hr tk hgdT hk hTm => ?_)
  exact (ds_cons (ds_par2 (o1 := false) (o2 := false) (i := 3) (j := 4) hX rfl rfl (by decide) rfl rfl (DE.sh (de_sl (de_cal (ok__law_mixed X0) b__law_mixed nogd tk hr (by decide) rfl (das_cons (de_var (pv 0)) (das_cons (DE.sh (de_listRg hX rfl X0.n_list (drg_1 rfl X0.n_range (de_var (pv 2))))) das_nil)) (al_cons (al_cons al_nil))) do_none (do_some (de_var (pv 1))))) (DE.sh (de_sl (de_cal (ok__law_mixed X0) b__law_mixed nogd tk hr (by decide) rfl (das_cons (de_var (pv 0)) (das_cons (DE.sh (de_listRg hX rfl X0.n_list (drg_1 rfl X0.n_range (de_var (pv 2))))) das_nil)) (al_cons (al_cons al_nil))) do_none (do_some (de_var (pv 1)))))) (ds_one (ds_retS hk (DE.sh (de_callTy call_tuple' rfl X0.n_tuple rfl (da_cons (de_callB (call_sorted' hX) rfl X0.n_sorted rfl (da_cons (de_listZip hX rfl X0.n_list rfl X0.n_zip (da_cons (de_var (pv 3)) (da_cons (de_var (pv 4)) da_nil))) da_nil)) da_nil))))))
theorem ok__law_any_plan (X0 : Tx K mg cL) : Cal false P w K mg base T 4 "_law_any_plan" s__law_any_plan ["_law_state", "_law_most"] .sh f__law_any_plan := by
  refine cal_of (t := t__law_any_plan) X0.F__law_any_plan sc__law_any_plan (fun f cdv A outer s H E n hX hr tk hgdT hk hTm => ?_)
  exact (ds_one (ds_retS hk (de_cal (ok__law_plan X0) b__law_plan nogd tk hr (by decide) rfl (das_cons (de_var (pv 0)) (das_cons (de_cal (ok__law_draw X0) b__law_draw nogd tk hr (by decide) rfl (das_cons (de_var (pv 0)) (das_cons (DE.sh (de_bin op_dAdd (de_var (pv 1)) de_int)) das_nil)) (al_cons (al_cons al_nil))) (das_cons (de_var (pv 1)) das_nil))) (al_cons (al_cons (al_cons al_nil))))))
theorem ok__law_near_plan (X0 : Tx K mg cL) : Cal false P w K mg base T 3 "_law_near_plan" s__law_near_plan ["_law_state", "_law_told"] .sh f__law_near_plan := by
  refine cal_of (t := t__law_near_plan) X0.F__law_near_plan sc__law_near_plan (fun f cdv A outer s H E n hX hr tk hgdT hk hTm => ?_)
  exact (ds_cons (ds_if (dt_cmp (op_dEq hX) (de_var (pv 1)) (de_tup das_nil) (nomark _)) (ds_one (ds_retS hk (de_var (pv 1)))) ds_nil) (ds_cons (ds_set true hX.nd rfl (.inr rfl) (de_callTy call_list' rfl X0.n_list rfl (da_cons (de_var (pv 1)) da_nil))) (ds_cons (ds_exprM (me_meth1 PySem.F.slot_list_pop PySem.F.type_list_pop mt_popAt lm_pop (pv 2) (me_of (de_cal (ok__law_draw X0) b__law_draw nogd tk hr (by decide) rfl (das_cons (de_var (pv 0)) (das_cons (DE.sh (de_callB call_len' rfl X0.n_len rfl (da_cons (de_peek (pv 2)) da_nil))) das_nil)) (al_cons (al_cons al_nil)))))) (ds_cons (ds_setLcS (own := [("_law_item", 5)]) hX rfl rfl rfl (di_range1 rfl X0.n_range de_int) (blkOk_by (by kernel_rfl)) (by decide) (fun _ _ _ _ _ => (tg_name (XG.blk hX).nd rfl (.inl rfl))) (fun _ _ _ _ _ => (dts_one (dt_cmp (op_dNotIn (XG.blk hX)) (de_var (pv 5)) (de_lc (own := [("_law_pair", 6)]) (XG.blk hX) (di_seq (de_peek (pv 2))) (blkOk_by (by kernel_rfl)) (by decide) (fun _ _ _ _ _ => (tg_name (XG.blk (XG.blk hX)).nd rfl (.inl rfl))) (fun _ _ _ _ _ => dts_nil) (fun _ _ _ _ _ => (de_ix (ix_seq' (XG.blk (XG.blk hX))) (de_var (pv 6)) de_int))) (by rfl)))) (fun _ _ _ _ _ => (de_var (pv 5)))) (ds_cons (ds_setLcS (own := [("_law_item", 5)]) hX rfl rfl rfl (di_range1 rfl X0.n_range de_int) (blkOk_by (by kernel_rfl)) (by decide) (fun _ _ _ _ _ => (tg_name (XG.blk hX).nd rfl (.inl rfl))) (fun _ _ _ _ _ => (dts_one (dt_cmp (op_dNotIn (XG.blk hX)) (de_var (pv 5)) (de_lc (own := [("_law_pair", 6)]) (XG.blk hX) (di_seq (de_peek (pv 2))) (blkOk_by (by kernel_rfl)) (by decide) (fun _ _ _ _ _ => (tg_name (XG.blk (XG.blk hX)).nd rfl (.inl rfl))) (fun _ _ _ _ _ => dts_nil) (fun _ _ _ _ _ => (de_ix (ix_seq' (XG.blk (XG.blk hX))) (de_var (pv 6)) de_int))) (by rfl)))) (fun _ _ _ _ _ => (de_var (pv 5)))) (ds_one (ds_retS hk (DE.sh (de_callTy call_tuple' rfl X0.n_tuple rfl (da_cons (de_callB (call_sorted' hX) rfl X0.n_sorted rfl (da_cons (de_bin op_dAdd (de_peek (pv 2)) (de_lst (das_cons (DE.sh (de_tup (das_cons (de_cal (ok__law_pick X0) b__law_pick nogd tk hr (by decide) rfl (das_cons (de_var (pv 0)) (das_cons (de_var (pv 3)) das_nil)) (al_cons (al_cons al_nil))) (das_cons (de_cal (ok__law_pick X0) b__law_pick nogd tk hr (by decide) rfl (das_cons (de_var (pv 0)) (das_cons (de_var (pv 4)) das_nil)) (al_cons (al_cons al_nil))) das_nil)))) das_nil))) da_nil)) da_nil))))))))))
theorem ok__law_book (X0 : Tx K mg cL) : Cal false P w K mg base T 5 "_law_book" s__law_book ["_law_state", "_law_most"] .sh f__law_book := by
  refine cal_of (t := t__law_book) X0.F__law_book sc__law_book (fun f cdv A outer s H E n hX hr tk hgdT hk hTm => ?_)
  exact (ds_cons (ds_asg (DE.sh (de_tup (das_cons (DE.sh (de_bin op_dAdd de_int (de_cal (ok__law_draw X0) b__law_draw nogd tk hr (by decide) rfl (das_cons (de_var (pv 0)) (das_cons (de_var (pv 1)) das_nil)) (al_cons (al_cons al_nil))))) (das_cons (DE.sh (de_bin op_dAdd de_int (de_cal (ok__law_draw X0) b__law_draw nogd tk hr (by decide) rfl (das_cons (de_var (pv 0)) (das_cons (DE.sh de_int) das_nil)) (al_cons (al_cons al_nil))))) (das_cons (de_cal (ok__law_draw X0) b__law_draw nogd tk hr (by decide) rfl (das_cons (de_var (pv 0)) (das_cons (DE.sh de_int) das_nil)) (al_cons (al_cons al_nil))) das_nil))))) (tg_names3 K 2 3 4 rfl hX.calm hX.nd rfl rfl rfl (.inl rfl) (.inr rfl) (.inl rfl) (by first | exact .inl rfl | exact .inr rfl) (by first | exact .inl rfl | exact .inr rfl) (by first | exact .inl rfl | exact .inr rfl))) (ds_cons (ds_if (dt_cmp (op_dEq hX) (de_var (pv 4)) de_int (nomark _)) (ds_one (ds_retS hk (DE.sh (de_callTy call_tuple' rfl X0.n_tuple rfl (da_cons (de_lc (own := [("_law_lap", 8)]) hX (di_range1 rfl X0.n_range (de_var (pv 2))) (blkOk_by (by kernel_rfl)) (by decide) (fun _ _ _ _ _ => (tg_name (XG.blk hX).nd rfl (.inl rfl))) (fun _ _ _ _ _ => dts_nil) (fun _ _ _ _ _ => (de_cal (ok__law_any_plan X0) b__law_any_plan nogd LamX.takes0 hr (by decide) rfl (das_cons (de_var (pv 0)) (das_cons (de_var (pv 3)) das_nil)) (al_cons (al_cons al_nil))))) da_nil))))) ds_nil) (ds_cons (ds_set false hX.nd rfl (.inr rfl) (DE.sh (de_bin op_dAdd de_int (de_cal (ok__law_draw X0) b__law_draw nogd tk hr (by decide) rfl (das_cons (de_var (pv 0)) (das_cons (de_var (pv 3)) das_nil)) (al_cons (al_cons al_nil)))))) (ds_cons (ds_if (dt_cmp (op_dEq hX) (de_var (pv 4)) de_int (nomark _)) (ds_one (ds_retS hk (DE.sh (de_callTy call_tuple' rfl X0.n_tuple rfl (da_cons (de_lc (own := [("_law_lap", 8)]) hX (di_range1 rfl X0.n_range (de_var (pv 2))) (blkOk_by (by kernel_rfl)) (by decide) (fun _ _ _ _ _ => (tg_name (XG.blk hX).nd rfl (.inl rfl))) (fun _ _ _ _ _ => dts_nil) (fun _ _ _ _ _ => (de_cal (ok__law_plan X0) b__law_plan nogd LamX.takes0 hr (by decide) rfl (das_cons (de_var (pv 0)) (das_cons (de_var (pv 5)) (das_cons (de_var (pv 3)) das_nil))) (al_cons (al_cons (al_cons al_nil)))))) da_nil))))) ds_nil) (ds_cons (ds_set false hX.nd rfl (.inr rfl) (DE.sh (de_lc (own := [("_law_lap", 8)]) hX (di_range1 rfl X0.n_range de_int) (blkOk_by (by kernel_rfl)) (by decide) (fun _ _ _ _ _ => (tg_name (XG.blk hX).nd rfl (.inl rfl))) (fun _ _ _ _ _ => dts_nil) (fun _ _ _ _ _ => (de_cal (ok__law_plan X0) b__law_plan nogd LamX.takes0 hr (by decide) rfl (das_cons (de_var (pv 0)) (das_cons (de_var (pv 5)) (das_cons (de_var (pv 3)) das_nil))) (al_cons (al_cons (al_cons al_nil)))))))) (ds_cons (ds_if (dt_cmp (op_dEq hX) (de_var (pv 4)) de_int (nomark _)) (ds_one (ds_retS hk (DE.sh (de_callTy call_tuple' rfl X0.n_tuple rfl (da_cons (de_lc (own := [("_law_lap", 8)]) hX (di_range1 rfl X0.n_range (de_var (pv 2))) (blkOk_by (by kernel_rfl)) (by decide) (fun _ _ _ _ _ => (tg_name (XG.blk hX).nd rfl (.inl rfl))) (fun _ _ _ _ _ => dts_nil) (fun _ _ _ _ _ => (de_cal (ok__law_pick X0) b__law_pick nogd LamX.takes0 hr (by decide) rfl (das_cons (de_var (pv 0)) (das_cons (de_var (pv 6)) das_nil)) (al_cons (al_cons al_nil))))) da_nil))))) ds_nil) (ds_cons (ds_setLcS (own := [("_law_lap", 8)]) hX rfl rfl rfl (di_range1 rfl X0.n_range (de_var (pv 2))) (blkOk_by (by kernel_rfl)) (by decide) (fun _ _ _ _ _ => (tg_name (XG.blk hX).nd rfl (.inl rfl))) (fun _ _ _ _ _ => dts_nil) (fun _ _ _ _ _ => (de_cal (ok__law_near_plan X0) b__law_near_plan nogd LamX.takes0 hr (by decide) rfl (das_cons (de_var (pv 0)) (das_cons (de_cal (ok__law_pick X0) b__law_pick nogd LamX.takes0 hr (by decide) rfl (das_cons (de_var (pv 0)) (das_cons (de_var (pv 6)) das_nil)) (al_cons (al_cons al_nil))) das_nil)) (al_cons (al_cons al_nil))))) (ds_one (ds_retS hk (DE.sh (de_callTy call_tuple' rfl X0.n_tuple rfl (da_cons (de_lc (own := [("_law_told", 9)]) hX (di_seq (DE.peek (de_var (pv 7)))) (blkOk_by (by kernel_rfl)) (by decide) (fun _ _ _ _ _ => (tg_name (XG.blk hX).nd rfl (.inl rfl))) (fun _ _ _ _ _ => dts_nil) (fun _ _ _ _ _ => (de_cal (ok__law_pick X0) b__law_pick nogd LamX.takes0 hr (by decide) rfl (das_cons (de_var (pv 0)) (das_cons (DE.sh (de_lst (das_cons (de_var (pv 9)) (das_cons (de_ix (ix_seq' (XG.blk hX)) (de_var (pv 6)) de_int) das_nil)))) das_nil)) (al_cons (al_cons al_nil))))) da_nil))))))))))))
theorem ok__law_pick_drawn (X0 : Tx K mg cL) : Cal false P w K mg base T 3 "_law_pick_drawn" s__law_pick_drawn ["_law_state", "_law_book_here"] .sh f__law_pick_drawn := by
  refine cal_of (t := t__law_pick_drawn) X0.F__law_pick_drawn sc__law_pick_drawn (fun f cdv A outer s H E n hX hr tk hgdT hk hTm => ?_)
  exact (ds_cons (ds_par2C (o1 := true) (o2 := false) (i := 2) (j := 3) hX rfl rfl (by decide) (.inr rfl) (.inl rfl) de_dct0 (de_if (dt_cmp op_dGt (de_cal (ok__law_draw X0) b__law_draw nogd tk hr (by decide) rfl (das_cons (de_var (pv 0)) (das_cons (DE.sh de_int) das_nil)) (al_cons (al_cons al_nil))) de_int (nomark _)) (DE.sh (de_callB call_len' rfl X0.n_len rfl (da_cons (de_var (pv 1)) da_nil))) (de_cal (ok__law_draw X0) b__law_draw nogd tk hr (by decide) rfl (das_cons (de_var (pv 0)) (das_cons (DE.sh (de_bin op_dAdd (de_callB call_len' rfl X0.n_len rfl (da_cons (de_var (pv 1)) da_nil)) de_int)) das_nil)) (al_cons (al_cons al_nil))))) (ds_cons (ds_for (passes_of rfl) hX.calm (di_seq (de_cal (ok__law_mixed X0) b__law_mixed nogd tk hr (by decide) rfl (das_cons (de_var (pv 0)) (das_cons (DE.sh (de_listRg hX rfl X0.n_list (drg_1 rfl X0.n_range (de_callB call_len' rfl X0.n_len rfl (da_cons (de_var (pv 1)) da_nil))))) das_nil)) (al_cons (al_cons al_nil)))) (tg_name hX.nd rfl (.inl rfl)) (fun _ _ => (ds_cons (ds_setLcS (own := [("_law_pair", 6)]) hX rfl rfl rfl (di_seq (DE.peek (de_ix (ix_seq' hX) (de_var (pv 1)) (de_var (pv 4))))) (blkOk_by (by kernel_rfl)) (by decide) (fun _ _ _ _ _ => (tg_name (XG.blk hX).nd rfl (.inl rfl))) (fun _ _ _ _ _ => (dts_one (dt_of (de_cal (ok__law_are_apart X0) b__law_are_apart nogd LamX.takes0 hr (by decide) rfl (das_cons (DE.sh (de_bin op_dAdd (de_lc (own := [("_law_other", 7)]) (XG.blk hX) (di_seq (de_peek (pv 2))) (blkOk_by (by kernel_rfl)) (by decide) (fun _ _ _ _ _ => (tg_name (XG.blk (XG.blk hX)).nd rfl (.inl rfl))) (fun _ _ _ _ _ => dts_nil) (fun _ _ _ _ _ => (de_ix (ix_seq' (XG.blk (XG.blk hX))) (de_peek (pv 2)) (de_var (pv 7))))) (de_lst (das_cons (de_var (pv 6)) das_nil)))) das_nil) (al_cons al_nil))))) (fun _ _ _ _ _ => (de_var (pv 6)))) (ds_one (ds_if (dt_w (dw_and (dt_cmp (op_dNe hX) (de_var (pv 5)) (de_lst das_nil) (nomark _)) (dw_and1 (dt_cmp op_dLt (de_callB call_len' rfl X0.n_len rfl (da_cons (de_peek (pv 2)) da_nil)) (de_var (pv 3)) (nomark _))))) (ds_one (ds_setU hX (pv 2) (de_var (pv 4)) (de_cal (ok__law_pick X0) b__law_pick nogd tk hr (by decide) rfl (das_cons (de_var (pv 0)) (das_cons (de_var (pv 5)) das_nil)) (al_cons (al_cons al_nil))))) ds_nil))))) (ds_one (ds_frz [2] (ds_retS hk (de_var (pv 2)))))))
theorem ok__law_rising_pick (X0 : Tx K mg cL) : Cal false P w K mg base T 1 "_law_rising_pick" s__law_rising_pick ["_law_told"] .sh f__law_rising_pick := by
  refine cal_of (t := t__law_rising_pick) X0.F__law_rising_pick sc__law_rising_pick (fun f cdv A outer s H E n hX hr tk hgdT hk hTm => ?_)
  exact (ds_one (ds_retS hk (DE.sh (de_callTy (call_dict' hX) rfl X0.n_dict rfl (da_cons (de_lc (own := [("_law_number", 1)]) hX (di_seq (DE.peek (de_callB (call_sortedD hX) rfl X0.n_sorted rfl (da_cons (de_var (pv 0)) da_nil)))) (blkOk_by (by kernel_rfl)) (by decide) (fun _ _ _ _ _ => (tg_name (XG.blk hX).nd rfl (.inl rfl))) (fun _ _ _ _ _ => dts_nil) (fun _ _ _ _ _ => (DE.sh (de_tup (das_cons (de_var (pv 1)) (das_cons (de_ix (ix_seq' (XG.blk hX)) (de_var (pv 0)) (de_var (pv 1))) das_nil)))))) da_nil)))))
theorem ok__law_is_pick (X0 : Tx K mg cL) : Cal false P w K mg base T 4 "_law_is_pick" s__law_is_pick ["_law_book_here", "_law_item"] .sh f__law_is_pick := by
  refine cal_of (t := t__law_is_pick) X0.F__law_is_pick sc__law_is_pick (fun f cdv A outer s H E n hX hr tk hgdT hk hTm => ?_)
  exact (ds_cons (ds_if (dt_w (dw_or (dt_not (dt_of (de_callB (call_isi' isi0_ok) rfl X0.n_isinstance rfl (da_cons (de_var (pv 1)) (da_cons (de_ty rfl X0.n_dict rfl) da_nil))))) (dw_or1 (dt_cmp (op_dNe hX) (de_lc (own := [("_law_number", 2)]) hX (di_seq (DE.peek (de_var (pv 1)))) (blkOk_by (by kernel_rfl)) (by decide) (fun _ _ _ _ _ => (tg_name (XG.blk hX).nd rfl (.inl rfl))) (fun _ _ _ _ _ => (dts_one (dt_not (dt_of (de_cal (ok__law_is_below X0) b__law_is_below nogd LamX.takes0 hr (by decide) rfl (das_cons (de_var (pv 2)) (das_cons (DE.sh (de_callB call_len' rfl X0.n_len rfl (da_cons (de_var (pv 0)) da_nil))) das_nil)) (al_cons (al_cons al_nil))))))) (fun _ _ _ _ _ => (DE.sh de_int))) (de_lst das_nil) (nomark _))))) (ds_one (ds_retS hk (DE.sh de_bl))) ds_nil) (ds_cons (ds_if (dt_cmp (op_dNe hX) (de_lc (own := [("_law_number", 2)]) hX (di_seq (DE.peek (de_var (pv 1)))) (blkOk_by (by kernel_rfl)) (by decide) (fun _ _ _ _ _ => (tg_name (XG.blk hX).nd rfl (.inl rfl))) (fun _ _ _ _ _ => (dts_one (dt_w (dw_or (dt_not (dt_of (de_cal (ok__law_is_pair X0) b__law_is_pair nogd LamX.takes0 hr (by decide) rfl (das_cons (de_ix (ix_seq' (XG.blk hX)) (de_var (pv 1)) (de_var (pv 2))) das_nil) (al_cons al_nil)))) (dw_or1 (dt_cmp (op_dNotIn (XG.blk hX)) (de_ix (ix_seq' (XG.blk hX)) (de_var (pv 1)) (de_var (pv 2))) (de_ix (ix_seq' (XG.blk hX)) (de_var (pv 0)) (de_var (pv 2))) (by rfl))))))) (fun _ _ _ _ _ => (DE.sh de_int))) (de_lst das_nil) (nomark _)) (ds_one (ds_retS hk (DE.sh de_bl))) ds_nil) (ds_one (ds_retS hk (de_cal (ok__law_are_apart X0) b__law_are_apart nogd tk hr (by decide) rfl (das_cons (DE.sh (de_lc (own := [("_law_number", 2)]) hX (di_seq (DE.peek (de_var (pv 1)))) (blkOk_by (by kernel_rfl)) (by decide) (fun _ _ _ _ _ => (tg_name (XG.blk hX).nd rfl (.inl rfl))) (fun _ _ _ _ _ => dts_nil) (fun _ _ _ _ _ => (de_ix (ix_seq' (XG.blk hX)) (de_var (pv 1)) (de_var (pv 2)))))) das_nil) (al_cons al_nil))))))
theorem ok__law_bool_pair (X0 : Tx K mg cL) : Cal false P w K mg base T 3 "_law_bool_pair" s__law_bool_pair ["_law_state", "_law_pair"] .sh f__law_bool_pair := by
  refine cal_of (t := t__law_bool_pair) X0.F__law_bool_pair sc__law_bool_pair (fun f cdv A outer s H E n hX hr tk hgdT hk hTm => ?_)
  exact (ds_cons (ds_setLcS (own := [("_law_spot", 2), ("_law_item", 4)]) hX rfl rfl rfl (di_enumU rfl X0.n_enumerate (DE.peek (de_var (pv 1)))) (blkOk_by (by kernel_rfl)) (by decide) (fun _ _ _ _ _ => (tg_names2 K 2 4 rfl (XG.blk hX).calm (XG.blk hX).nd rfl rfl (.inl rfl) (.inl rfl) (by first | exact .inl rfl | exact .inr rfl) (by first | exact .inl rfl | exact .inr rfl))) (fun _ _ _ _ _ => (dts_one (dt_cmp op_dLt (de_var (pv 4)) de_int (nomark _)))) (fun _ _ _ _ _ => (de_var (pv 2)))) (ds_cons (ds_if (dt_cmp (op_dEq hX) (de_var (pv 3)) (de_lst das_nil) (nomark _)) (ds_one (ds_retS hk (DE.sh (de_sl (de_var (pv 1)) do_none (do_some (de_un op_neg de_int)))))) ds_nil) (ds_cons (ds_set false hX.nd rfl (.inl rfl) (de_cal (ok__law_pick X0) b__law_pick nogd tk hr (by decide) rfl (das_cons (de_var (pv 0)) (das_cons (de_var (pv 3)) das_nil)) (al_cons (al_cons al_nil)))) (ds_one (ds_retS hk (DE.sh (de_bin op_dAdd (de_bin op_dAdd (de_sl (de_var (pv 1)) do_none (do_some (de_var (pv 2)))) (de_tup (das_cons (DE.sh (de_cmp (op_dEq hX) (de_ix (ix_seq' hX) (de_var (pv 1)) (de_var (pv 2))) de_int (nomark _))) das_nil))) (de_sl (de_var (pv 1)) (do_some (de_bin op_dAdd (de_var (pv 2)) de_int)) do_none))))))))
theorem ok__law_bad_plan (X0 : Tx K mg cL) : Cal false P w K mg base T 4 "_law_bad_plan" s__law_bad_plan ["_law_state"] .sh f__law_bad_plan := by
  refine cal_of (t := t__law_bad_plan) X0.F__law_bad_plan sc__law_bad_plan (fun f cdv A outer s H E n hX hr tk hgdT hk hTm => ?_)
  exact (ds_cons (ds_set false hX.nd rfl (.inr rfl) (de_cal (ok__law_plan X0) b__law_plan nogd tk hr (by decide) rfl (das_cons (de_var (pv 0)) (das_cons (DE.sh (de_bin op_dAdd de_int (de_cal (ok__law_draw X0) b__law_draw nogd tk hr (by decide) rfl (das_cons (de_var (pv 0)) (das_cons (DE.sh de_int) das_nil)) (al_cons (al_cons al_nil))))) (das_cons (DE.sh de_int) das_nil))) (al_cons (al_cons (al_cons al_nil))))) (ds_cons (ds_set false hX.nd rfl (.inr rfl) (de_cal (ok__law_draw X0) b__law_draw nogd tk hr (by decide) rfl (das_cons (de_var (pv 0)) (das_cons (DE.sh (de_callB call_len' rfl X0.n_len rfl (da_cons (de_var (pv 1)) da_nil))) das_nil)) (al_cons (al_cons al_nil)))) (ds_cons (ds_par2 (o1 := false) (o2 := false) (i := 3) (j := 4) hX rfl rfl (by decide) rfl rfl (de_ix (ix_seq' hX) (de_var (pv 1)) (de_var (pv 2))) (de_ix (ix_seq' hX) (de_var (pv 1)) (de_bin op_dSub (de_var (pv 2)) de_int))) (ds_cons (ds_setLc (own := [("_law_item", 6)]) hX rfl rfl rfl (di_seq (DE.peek (de_lst (das_cons (DE.sh (de_tup (das_cons (de_ix (ix_seq' hX) (de_var (pv 3)) de_int) (das_cons (DE.sh de_int) das_nil)))) (das_cons (DE.sh (de_tup (das_cons (DE.sh (de_un op_neg de_int)) (das_cons (de_ix (ix_seq' hX) (de_var (pv 3)) de_int) das_nil)))) (das_cons (DE.sh (de_callTy call_list' rfl X0.n_list rfl (da_cons (de_var (pv 3)) da_nil))) (das_cons (DE.sh (de_bin op_dAdd (de_var (pv 3)) (de_tup (das_cons (DE.sh de_int) das_nil)))) (das_cons (DE.sh de_non) das_nil)))))))) (blkOk_by (by kernel_rfl)) (by decide) (fun _ _ _ _ _ => (tg_name (XG.blk hX).nd rfl (.inl rfl))) (fun _ _ _ _ _ => dts_nil) (fun _ _ _ _ _ => (DE.sh (de_bin op_dAdd (de_bin op_dAdd (de_sl (de_var (pv 1)) do_none (do_some (de_var (pv 2)))) (de_tup (das_cons (de_var (pv 6)) das_nil))) (de_sl (de_var (pv 1)) (do_some (de_bin op_dAdd (de_var (pv 2)) de_int)) do_none))))) (ds_cons (ds_set true hX.nd rfl (.inl rfl) (de_bin op_dAdd (de_peek (pv 5)) (de_lst (das_cons (DE.sh (de_back (de_var (pv 1)))) (das_cons (DE.sh (de_bin op_dAdd (de_var (pv 1)) (de_sl (de_var (pv 1)) (do_some (de_un op_neg de_int)) do_none))) (das_cons (DE.sh (de_callTy call_list' rfl X0.n_list rfl (da_cons (de_var (pv 1)) da_nil))) (das_cons (DE.sh de_non) (das_cons (DE.sh de_int) (das_cons (DE.sh de_str) (das_cons (DE.sh de_dct0) (das_cons (DE.sh (de_tup (das_cons (DE.sh de_int) (das_cons (DE.sh de_int) das_nil)))) das_nil))))))))))) (ds_cons (ds_exprM (me_meth1 PySem.F.slot_list_append PySem.F.type_list_append mt_append lm_append (pv 5) (me_of (DE.sh (de_callTy call_tuple' rfl X0.n_tuple rfl (da_cons (de_callB (call_sorted' hX) rfl X0.n_sorted rfl (da_cons (de_bin op_dAdd (de_bin op_dAdd (de_sl (de_var (pv 1)) do_none (do_some (de_var (pv 2)))) (de_sl (de_var (pv 1)) (do_some (de_bin op_dAdd (de_var (pv 2)) de_int)) do_none)) (de_tup (das_cons (DE.sh (de_tup (das_cons (de_ix (ix_seq' hX) (de_var (pv 3)) de_int) (das_cons (de_ix (ix_seq' hX) (de_var (pv 4)) de_int) das_nil)))) das_nil))) da_nil)) da_nil)))))) (ds_one (ds_retS hk (de_cal (ok__law_pick X0) b__law_pick nogd tk hr (by decide) rfl (das_cons (de_var (pv 0)) (das_cons (DE.sh (de_bin op_dAdd (de_peek (pv 5)) (de_lst (das_cons (DE.sh (de_bin op_dAdd (de_bin op_dAdd (de_sl (de_var (pv 1)) do_none (do_some (de_var (pv 2)))) (de_tup (das_cons (de_cal (ok__law_bool_pair X0) b__law_bool_pair nogd tk hr (by decide) rfl (das_cons (de_var (pv 0)) (das_cons (de_var (pv 3)) das_nil)) (al_cons (al_cons al_nil))) das_nil))) (de_sl (de_var (pv 1)) (do_some (de_bin op_dAdd (de_var (pv 2)) de_int)) do_none))) das_nil)))) das_nil)) (al_cons (al_cons al_nil)))))))))))
theorem ok__law_bad_book (X0 : Tx K mg cL) : Cal false P w K mg base T 6 "_law_bad_book" s__law_bad_book ["_law_state"] .sh f__law_bad_book := by
  refine cal_of (t := t__law_bad_book) X0.F__law_bad_book sc__law_bad_book (fun f cdv A outer s H E n hX hr tk hgdT hk hTm => ?_)
  exact (ds_cons (ds_set false hX.nd rfl (.inl rfl) (de_cal (ok__law_book X0) b__law_book nogd tk hr (by decide) rfl (das_cons (de_var (pv 0)) (das_cons (DE.sh de_int) das_nil)) (al_cons (al_cons al_nil)))) (ds_cons (ds_par2 (o1 := false) (o2 := false) (i := 2) (j := 3) hX rfl rfl (by decide) rfl rfl (de_cal (ok__law_draw X0) b__law_draw nogd tk hr (by decide) rfl (das_cons (de_var (pv 0)) (das_cons (DE.sh (de_callB call_len' rfl X0.n_len rfl (da_cons (de_var (pv 1)) da_nil))) das_nil)) (al_cons (al_cons al_nil))) (de_cal (ok__law_bad_plan X0) b__law_bad_plan nogd tk hr (by decide) rfl (das_cons (de_var (pv 0)) das_nil) (al_cons al_nil))) (ds_cons (ds_set false hX.nd rfl (.inl rfl) (DE.sh (de_lst (das_cons (DE.sh (de_bin op_dAdd (de_bin op_dAdd (de_sl (de_var (pv 1)) do_none (do_some (de_var (pv 2)))) (de_tup (das_cons (de_var (pv 3)) das_nil))) (de_sl (de_var (pv 1)) (do_some (de_bin op_dAdd (de_var (pv 2)) de_int)) do_none))) (das_cons (DE.sh (de_bin op_dAdd (de_bin op_dAdd (de_sl (de_var (pv 1)) do_none (do_some (de_var (pv 2)))) (de_tup (das_cons (de_var (pv 3)) das_nil))) (de_sl (de_var (pv 1)) (do_some (de_bin op_dAdd (de_var (pv 2)) de_int)) do_none))) (das_cons (DE.sh (de_callTy call_list' rfl X0.n_list rfl (da_cons (de_var (pv 1)) da_nil))) (das_cons (DE.sh (de_tup das_nil)) (das_cons (DE.sh de_non) (das_cons (DE.sh de_int) (das_cons (DE.sh de_dct0) (das_cons (de_var (pv 3)) das_nil))))))))))) (ds_one (ds_retS hk (de_cal (ok__law_pick X0) b__law_pick nogd tk hr (by decide) rfl (das_cons (de_var (pv 0)) (das_cons (DE.sh (de_lc (own := [("_law_item", 5)]) hX (di_seq (DE.peek (de_bin op_dAdd (de_var (pv 4)) (de_lst (das_cons (DE.sh (de_bin op_dMul (de_tup (das_cons (DE.sh (de_tup das_nil)) das_nil)) de_int)) das_nil))))) (blkOk_by (by kernel_rfl)) (by decide) (fun _ _ _ _ _ => (tg_name (XG.blk hX).nd rfl (.inl rfl))) (fun _ _ _ _ _ => (dts_one (dt_not (dt_of (de_cal (ok__law_is_book X0) b__law_is_book nogd LamX.takes0 hr (by decide) rfl (das_cons (de_var (pv 5)) das_nil) (al_cons al_nil)))))) (fun _ _ _ _ _ => (de_var (pv 5))))) das_nil)) (al_cons (al_cons al_nil))))))))
theorem ok__law_bad_pick (X0 : Tx K mg cL) : Cal false P w K mg base T 5 "_law_bad_pick" s__law_bad_pick ["_law_state", "_law_book_here", "_law_told"] .sh f__law_bad_pick := by
  refine cal_of (t := t__law_bad_pick) X0.F__law_bad_pick sc__law_bad_pick (fun f cdv A outer s H E n hX hr tk hgdT hk hTm => ?_)
  exact (ds_cons (ds_set false hX.nd rfl (.inl rfl) (de_cal (ok__law_draw X0) b__law_draw nogd tk hr (by decide) rfl (das_cons (de_var (pv 0)) (das_cons (DE.sh (de_callB call_len' rfl X0.n_len rfl (da_cons (de_var (pv 1)) da_nil))) das_nil)) (al_cons (al_cons al_nil)))) (ds_cons (ds_set true hX.nd rfl (.inl rfl) (de_lst (das_cons (DE.sh de_non) (das_cons (DE.sh de_int) (das_cons (DE.sh (de_callTy (call_listD hX) rfl X0.n_list rfl (da_cons (de_var (pv 2)) da_nil))) (das_cons (DE.sh (de_dct (ps := [((eCall fLen (sCons (eVar 1) sNil)), (eTup (sCons (eC (.int 0)) (sCons (eC (.int 0)) sNil))))]) hX (pps_cons (DE.sh (de_callB call_len' rfl X0.n_len rfl (da_cons (de_var (pv 1)) da_nil))) (DE.sh (de_tup (das_cons (DE.sh de_int) (das_cons (DE.sh de_int) das_nil)))) pps_nil))) (das_cons (DE.sh (de_dct (ps := [((eUn uNeg (eC (.int 1))), (eTup (sCons (eC (.int 0)) (sCons (eC (.int 0)) sNil))))]) hX (pps_cons (DE.sh (de_un op_neg de_int)) (DE.sh (de_tup (das_cons (DE.sh de_int) (das_cons (DE.sh de_int) das_nil)))) pps_nil))) (das_cons (DE.sh (de_dct (ps := [((eVar 3), (eC .non))]) hX (pps_cons (de_var (pv 3)) (DE.sh de_non) pps_nil))) (das_cons (DE.sh (de_dct (ps := [((eVar 3), (eTup (sCons (eC (.int 8)) (sCons (eC (.int 0)) sNil))))]) hX (pps_cons (de_var (pv 3)) (DE.sh (de_tup (das_cons (DE.sh de_int) (das_cons (DE.sh de_int) das_nil)))) pps_nil))) (das_cons (DE.sh (de_dct (ps := [((eC (.str "0")), (eTup (sCons (eC (.int 0)) (sCons (eC (.int 0)) sNil))))]) hX (pps_cons (DE.sh de_str) (DE.sh (de_tup (das_cons (DE.sh de_int) (das_cons (DE.sh de_int) das_nil)))) pps_nil))) (das_cons (DE.sh (de_dct (ps := [((eC .non), (eTup (sCons (eC (.int 0)) (sCons (eC (.int 0)) sNil))))]) hX (pps_cons (DE.sh de_non) (DE.sh (de_tup (das_cons (DE.sh de_int) (das_cons (DE.sh de_int) das_nil)))) pps_nil))) (das_cons (DE.sh de_str) das_nil)))))))))))) (ds_cons (ds_for (passes_of rfl) hX.calm (di_seq (de_var (pv 2))) (tg_name hX.nd rfl (.inr rfl)) (fun _ _ => (ds_cons (ds_set true hX.nd rfl (.inl rfl) (de_bin op_dAdd (de_peek (pv 4)) (de_lst (das_cons (DE.sh (de_dct (ps := [((eVar 5), (eCall fList (sCons (eBin dIx (eVar 2) (eVar 5)) sNil)))]) hX (pps_cons (de_var (pv 5)) (DE.sh (de_callTy call_list' rfl X0.n_list rfl (da_cons (de_ix (ix_seq' hX) (de_var (pv 2)) (de_var (pv 5))) da_nil))) pps_nil))) (das_cons (DE.sh (de_dct (ps := [((eVar 5), (eCallF f__law_bool_pair (sCons (eVar 0) (sCons (eBin dIx (eVar 2) (eVar 5)) sNil))))]) hX (pps_cons (de_var (pv 5)) (de_cal (ok__law_bool_pair X0) b__law_bool_pair nogd LamX.takes0 hr (by decide) rfl (das_cons (de_var (pv 0)) (das_cons (de_ix (ix_seq' hX) (de_var (pv 2)) (de_var (pv 5))) das_nil)) (al_cons (al_cons al_nil))) pps_nil))) (das_cons (DE.sh (de_if (dt_cmp op_dLt (de_var (pv 5)) de_int (nomark _)) (de_dct (ps := [((eBin dEq (eVar 5) (eC (.int 1))), (eBin dIx (eVar 2) (eVar 5)))]) hX (pps_cons (DE.sh (de_cmp (op_dEq hX) (de_var (pv 5)) de_int (nomark _))) (de_ix (ix_seq' hX) (de_var (pv 2)) (de_var (pv 5))) pps_nil)) de_non)) das_nil)))))) (ds_one (ds_exprM (me_meth1 PySem.F.slot_list_append PySem.F.type_list_append mt_append lm_append (pv 4) (me_of (DE.sh (de_if (dt_cmp (op_dEq hX) (de_callB call_len' rfl X0.n_len rfl (da_cons (de_ix (ix_seq' hX) (de_var (pv 1)) (de_var (pv 5))) da_nil)) de_int (nomark _)) (de_dct (ps := [((eVar 5), (eTup (sCons (eBin dIx (eBin dIx (eVar 2) (eVar 5)) (eC (.int 0))) (sCons (eBin dMod (eCall fInt (sCons (eBin dAdd (eBin dIx (eBin dIx (eVar 2) (eVar 5)) (eC (.int 1))) (eC (.int 1))) sNil)) (eC (.int 8))) sNil))))]) hX (pps_cons (de_var (pv 5)) (DE.sh (de_tup (das_cons (de_ix (ix_seq' hX) (de_ix (ix_seq' hX) (de_var (pv 2)) (de_var (pv 5))) de_int) (das_cons (DE.sh (de_bin op_dMod (de_callTy call_int' rfl X0.n_int rfl (da_cons (de_bin op_dAdd (de_ix (ix_seq' hX) (de_ix (ix_seq' hX) (de_var (pv 2)) (de_var (pv 5))) de_int) de_int) da_nil)) de_int)) das_nil)))) pps_nil)) de_non))))))))) (ds_cons (ds_for (passes_of rfl) hX.calm (di_zipR rfl X0.n_zip rfl X0.n_range (de_callB call_len' rfl X0.n_len rfl (da_cons (de_var (pv 1)) da_nil)) de_int (de_callB call_len' rfl X0.n_len rfl (da_cons (de_var (pv 1)) da_nil))) (tg_names2 K 6 5 rfl hX.calm hX.nd rfl rfl (.inr rfl) (.inr rfl) (by first | exact .inl rfl | exact .inr rfl) (by first | exact .inl rfl | exact .inr rfl)) (fun _ _ => (ds_one (ds_set true hX.nd rfl (.inl rfl) (de_bin op_dAdd (de_peek (pv 4)) (de_lc (own := [("_law_pair", 7)]) hX (di_seq (DE.peek (de_ix (ix_seq' hX) (de_var (pv 1)) (de_var (pv 6))))) (blkOk_by (by kernel_rfl)) (by decide) (fun _ _ _ _ _ => (tg_name (XG.blk hX).nd rfl (.inl rfl))) (fun _ _ _ _ _ => (dts_one (dt_cmp (op_dIn (XG.blk hX)) (de_var (pv 7)) (de_ix (ix_seq' (XG.blk hX)) (de_var (pv 1)) (de_var (pv 5))) (by rfl)))) (fun _ _ _ _ _ => (DE.sh (de_dct (ps := [((eVar 6), (eVar 7)), ((eVar 5), (eVar 7))]) (XG.blk hX) (pps_cons (de_var (pv 6)) (de_var (pv 7)) (pps_cons (de_var (pv 5)) (de_var (pv 7)) pps_nil))))))))))) (ds_one (ds_retS hk (de_cal (ok__law_pick X0) b__law_pick nogd tk hr (by decide) rfl (das_cons (de_var (pv 0)) (das_cons (DE.sh (de_lc (own := [("_law_item", 8)]) hX (di_seq (de_peek (pv 4))) (blkOk_by (by kernel_rfl)) (by decide) (fun _ _ _ _ _ => (tg_name (XG.blk hX).nd rfl (.inl rfl))) (fun _ _ _ _ _ => (dts_one (dt_not (dt_of (de_cal (ok__law_is_pick X0) b__law_is_pick nogd LamX.takes0 hr (by decide) rfl (das_cons (de_var (pv 1)) (das_cons (de_var (pv 8)) das_nil)) (al_cons (al_cons al_nil))))))) (fun _ _ _ _ _ => (de_var (pv 8))))) das_nil)) (al_cons (al_cons al_nil)))))))))
theorem sc__law_begun : FnScope ["_law_script", "_law_cells_here", "_law_large", "_law_cell"] ["_law_script"] (defScope s__law_begun) := ⟨rfl, rfl, rfl, by decide +kernel, rfl, by decide +kernel, by decide +kernel⟩
theorem ok__law_begun (X0 : Tx K mg cL) : ∃ (f : Addr) (kV dc pm : Value) (an : Option Addr) (cd ct : Value), mg "_law_begun" = some (.ref f) ∧ PySem.W.keepIn K (.ref f) = true ∧ FnOk P w K mg base (L2.CX P w) 2 f (FDn "_law_begun" s__law_begun kV dc pm an cd ct) ["_law_script"] (spBegun K T) := by
  obtain ⟨f, oc, od, kV, dc, pm, an, cd, ct, sl, h1, h2, h3, h4⟩ := X0.F__law_begun
  refine ⟨f, kV, dc, pm, an, cd, ct, h1, h2, fn_of (N := ["_law_script", "_law_cells_here", "_law_large", "_law_cell"]) h3 h4 sc__law_begun (fun vs H Q E h => ?_) fun A outer s H vs Q E hr h => ⟨t_begun K, ?_, pure_begun vs H Q E h⟩⟩
  · obtain ⟨a, ns, rfl, _⟩ := h
    rfl
  · exact pss_cons (ps_setLc (own := [("_law_cell", 3)]) rfl sc__law_begun.nd rfl rfl rfl (pi_list (pv 0)) (blkOk_by (by kernel_rfl)) (fun _ _ _ _ _ => pg_name (i := 3) sc__law_begun.nd rfl (.inl rfl)) (fun _ _ _ _ _ => pts_nil) (fun _ _ _ _ _ => pe_callB call_abs rfl X0.n_abs rfl (pa_cons (pv 3) pa_nil)))
      (pss_cons (ps_setLc (own := [("_law_cell", 3)]) rfl sc__law_begun.nd rfl rfl rfl (pi_list (pv 1)) (blkOk_by (by kernel_rfl)) (fun _ _ _ _ _ => pg_name (i := 3) sc__law_begun.nd rfl (.inl rfl)) (fun _ _ _ _ _ => pts_one (pt_cmpR op_ge (pv 3) (pe_op op_pow pe_int pe_int) (nomark _))) (fun _ _ _ _ _ => pe_op op_sub (pv 3) (pe_op op_pow pe_int pe_int)))
      (pss_one (ps_ret (pe_disp (pps_cons pe_str (pv 2) (pps_cons pe_str (pv 1) (pps_cons pe_str pe_int (pps_cons pe_str pe_int pps_nil)))) rfl rfl (List.cons_ne_nil _ _) (by decide)))))
theorem law_end {h : Heap} {fa pL : Addr} {l : PySem.W.OpenLaw} (hprog : l.prog = P) (X0 : Tx K mg cL) (hfa : mg "law" = some (.ref fa)) (nP : K.lookup pL = none) (tP : h.get? pL = some tab0) (C : PySem.W.CodeHd h cL pL) (pure_ : ∀ ns : List Int, ns.length ≤ 63 → ∃ g', t_law (startLaw 11 ns.length) (g0 ns) = .ok (.ret (.bl true)) g') : LawEnd l w K 63 mg fa h := by
  refine ⟨[(cL, pL)], fun p hp => (by rw [List.mem_singleton.mp hp]; exact tP), fun p hp => (by rw [List.mem_singleton.mp hp]; exact nP), fun p hp => (by rw [List.mem_singleton.mp hp]; exact C), fun s a ns base H hl kin hns TBs e0 hcs hS hsd => ?_⟩
  obtain ⟨f, oc, od, kV, dc, pm, an, ct, sl, h1, h2, h3, h4⟩ := X0.F_law
  cases hfa.symm.trans h1
  have TB := TBs (cL, pL) List.mem_cons_self
  obtain ⟨fb, kVb, dcb, pmb, anb, cdb, ctb, g1, g2, g3⟩ := ok__law_begun (P := l.prog) (w := w) (base := base) (T := [(pL, (("law" : Str) ++ (".<locals>." : Str)) ++ ("<lambda>" : Str))]) X0
  have hgdT : true = true → GdOk callerA base := fun _ => ⟨rfl, hsd⟩
  have hgd := hgdT rfl
  refine law_run (lms := lamsL (defBody s_law)) (T := [(pL, (("law" : Str) ++ (".<locals>." : Str)) ++ ("<lambda>" : Str))]) (cs := [(cL, pL)]) (m := 63) (k := 8) (N := N_law) h3 h4 sc_law rfl (by decide) b_law (by decide) (fun hr => ?h0) (fun n hX hr tk hk hTm hL => ?rest) ⟨rfl, by decide, by decide⟩ e0 (fun p hp => ⟨(cL, pL), List.mem_cons_self, (by rw [List.mem_singleton.mp hp])⟩) hcs hS hl pure_
  case h0 => exact ps_set (i := 1) sc_law.nd rfl (.inl rfl) (pe_callS g3 (hr.mono (by decide)) rfl g1 g2 (.all (b__law_begun kVb dcb pmb anb cdb ctb)) (fun σ => passAt LamX.takes0 σ) (pa_cons (pv 0) pa_nil))
  case rest =>
    exact (ds_cons (ds_for (passes_of rfl) hX.calm (di_range1 rfl X0.n_range (de_bin op_dAdd de_int (de_callB (call_min2' hX) rfl X0.n_min rfl (da_cons (de_callB call_len' rfl X0.n_len rfl (da_cons (de_var (pv 0)) da_nil)) (da_cons de_int da_nil))))) (tg_name hX.nd rfl (.inl rfl)) (fun _ _ => (ds_cons (ds_set false hX.nd rfl (.inl rfl) (de_cal (ok__law_book X0) b__law_book nogd tk hr (by decide) rfl (das_cons (de_var (pv 1)) (das_cons (DE.sh de_int) das_nil)) (al_cons (al_cons al_nil)))) (ds_cons (ds_set false hX.nd rfl (.inr rfl) (de_cal (ok__law_pick_drawn X0) b__law_pick_drawn nogd tk hr (by decide) rfl (das_cons (de_var (pv 1)) (das_cons (de_var (pv 3)) das_nil)) (al_cons (al_cons al_nil)))) (ds_cons (ds_set true hX.nd rfl (.inl rfl) (de_lst (das_cons (de_var (pv 10)) (das_cons (DE.sh de_dct0) (das_cons (de_cal (ok__law_bad_pick X0) b__law_bad_pick nogd tk hr (by decide) rfl (das_cons (de_var (pv 1)) (das_cons (de_var (pv 3)) (das_cons (de_var (pv 10)) das_nil))) (al_cons (al_cons (al_cons al_nil)))) (das_cons (de_cal (ok__law_bad_pick X0) b__law_bad_pick nogd tk hr (by decide) rfl (das_cons (de_var (pv 1)) (das_cons (de_var (pv 3)) (das_cons (de_var (pv 10)) das_nil))) (al_cons (al_cons (al_cons al_nil)))) (das_cons (de_cal (ok__law_odd X0) b__law_odd nogd tk hr (by decide) rfl (das_cons (de_var (pv 1)) das_nil) (al_cons al_nil)) (das_cons (de_cal (ok__law_rising_pick X0) b__law_rising_pick nogd tk hr (by decide) rfl (das_cons (de_var (pv 10)) das_nil) (al_cons al_nil)) das_nil)))))))) (ds_cons (ds_for (passes_of rfl) hX.calm (di_seq (DE.sh (de_sl (de_cal (ok__law_mixed X0) b__law_mixed nogd tk hr (by decide) rfl (das_cons (de_var (pv 1)) (das_cons (DE.sh (de_callTy (call_listD hX) rfl X0.n_list rfl (da_cons (de_var (pv 10)) da_nil))) das_nil)) (al_cons (al_cons al_nil))) do_none (do_some de_int)))) (tg_name hX.nd rfl (.inl rfl)) (fun _ _ => (ds_cons (ds_set true hX.nd rfl (.inl rfl) (de_callTy (call_dict' hX) rfl X0.n_dict rfl (da_cons (de_lc (own := [("_law_item", 6)]) hX (di_seq (DE.peek (de_var (pv 10)))) (blkOk_by (by kernel_rfl)) (by decide) (fun _ _ _ _ _ => (tg_name (XG.blk hX).nd rfl (.inl rfl))) (fun _ _ _ _ _ => dts_nil) (fun _ _ _ _ _ => (DE.sh (de_tup (das_cons (de_var (pv 6)) (das_cons (de_ix (ix_seq' (XG.blk hX)) (de_var (pv 10)) (de_var (pv 6))) das_nil)))))) da_nil))) (ds_cons (ds_setU hX (pv 7) (de_var (pv 5)) (de_cal (ok__law_pick X0) b__law_pick nogd tk hr (by decide) rfl (das_cons (de_var (pv 1)) (das_cons (DE.sh (de_bin op_dAdd (de_callTy call_list' rfl X0.n_list rfl (da_cons (de_ix (ix_seq' hX) (de_var (pv 3)) (de_var (pv 5))) da_nil)) (de_lst (das_cons (DE.sh (de_tup (das_cons (de_cal (ok__law_draw X0) b__law_draw nogd tk hr (by decide) rfl (das_cons (de_var (pv 1)) (das_cons (DE.sh de_int) das_nil)) (al_cons (al_cons al_nil))) (das_cons (de_cal (ok__law_draw X0) b__law_draw nogd tk hr (by decide) rfl (das_cons (de_var (pv 1)) (das_cons (DE.sh de_int) das_nil)) (al_cons (al_cons al_nil))) das_nil)))) das_nil)))) das_nil)) (al_cons (al_cons al_nil)))) (ds_one (ds_frz [7] (ds_exprM (me_meth1 PySem.F.slot_list_append PySem.F.type_list_append mt_append lm_append (pv 4) (me_of (de_var (pv 7))))))))))) (ds_cons (ds_frz [4] (ds_for (passes_of rfl) hX.calm (di_seq (de_var (pv 4))) (tg_name hX.nd rfl (.inl rfl)) (fun _ _ => (ds_cons (ds_set false hX.nd rfl (.inl rfl) (de_cal (ok__law_is_pick X0) b__law_is_pick nogd tk hr (by decide) rfl (das_cons (de_var (pv 3)) (das_cons (de_var (pv 6)) das_nil)) (al_cons (al_cons al_nil)))) (ds_one (ds_if (dt_cmp (op_dNe hX) (de_callB (call_repr' hgd hX) rfl X0.n_repr rfl (da_cons (de_lst (das_cons (de_cal (ok_is_pick X0) b_is_pick nogd tk hr (by decide) rfl (das_cons (de_var (pv 3)) (das_cons (de_var (pv 6)) das_nil)) (al_cons (al_cons al_nil))) (das_cons (de_calK0 (ok_is_pick X0) kb_is_pick_thing_book nogd tk hr (by decide) rfl (dk_cons (de_var (pv 6)) (dk_cons (de_var (pv 3)) dk_nil)) (al_cons (al_cons al_nil))) das_nil))) da_nil)) (de_callB (call_repr' hgd hX) rfl X0.n_repr rfl (da_cons (de_lst (das_cons (de_var (pv 8)) (das_cons (de_var (pv 8)) das_nil))) da_nil)) (nomark _)) (ds_one (ds_retS hk (DE.sh de_bl))) ds_nil)))))) (ds_cons (ds_set false hX.nd rfl (.inr rfl) (de_cal (ok__law_bad_book X0) b__law_bad_book nogd tk hr (by decide) rfl (das_cons (de_var (pv 1)) das_nil) (al_cons al_nil))) (ds_one (ds_if (dt_not (dt_of (de_callB (call_isi' X0.isi) rfl X0.n_isinstance rfl (da_cons (de_caughtT (k := 6) X0.F__law_caught ca_ok b__law_caught X0.pk rfl TB rfl hTm (hr.mono (by decide)) (LamX.lamS_by (by kernel_rfl)) (fun _ _ _ _ _ _ _ hrL tkL => (de_cal (ok_is_pick X0) b_is_pick nogd tkL hrL (by decide) rfl (das_cons (de_var (pv 9)) (das_cons (de_var (pv 10)) das_nil)) (al_cons (al_cons al_nil))))) (da_cons (de_cls X0.E_BadBook rfl) da_nil))))) (ds_one (ds_retS hk (DE.sh de_bl))) ds_nil)))))))))) (ds_one (ds_retS hk (DE.sh de_bl))))
theorem mem2 {α : Type} {a : α} {l : List α} {p : α → Prop} (h : p a) (t : ∀ x ∈ l, p x) : ∀ x ∈ a :: l, p x := fun x hx => (List.mem_cons.mp hx).elim (fun e => e ▸ h) (t x)
theorem law_all {l : PySem.W.OpenLaw} {h : Heap} {fa pL : Addr} {f_is_between : Addr} {oc_is_between kV_is_between dc_is_between pm_is_between cd_is_between ct_is_between : Value} {od_is_between an_is_between : Option Addr} {sl_is_between : Array (Option Value)} {f_is_pair : Addr} {oc_is_pair kV_is_pair dc_is_pair pm_is_pair cd_is_pair ct_is_pair : Value} {od_is_pair an_is_pair : Option Addr} {sl_is_pair : Array (Option Value)} {f_are_apart : Addr} {oc_are_apart kV_are_apart dc_are_apart pm_are_apart cd_are_apart ct_are_apart : Value} {od_are_apart an_are_apart : Option Addr} {sl_are_apart : Array (Option Value)} {f_plans_right : Addr} {oc_plans_right kV_plans_right dc_plans_right pm_plans_right cd_plans_right ct_plans_right : Value} {od_plans_right an_plans_right : Option Addr} {sl_plans_right : Array (Option Value)} {f_books_right : Addr} {oc_books_right kV_books_right dc_books_right pm_books_right cd_books_right ct_books_right : Value} {od_books_right an_books_right : Option Addr} {sl_books_right : Array (Option Value)} {f_need_book : Addr} {oc_need_book kV_need_book dc_need_book pm_need_book cd_need_book ct_need_book : Value} {od_need_book an_need_book : Option Addr} {sl_need_book : Array (Option Value)} {f_picks_right : Addr} {oc_picks_right kV_picks_right dc_picks_right pm_picks_right cd_picks_right ct_picks_right : Value} {od_picks_right an_picks_right : Option Addr} {sl_picks_right : Array (Option Value)} {f_is_pick : Addr} {oc_is_pick kV_is_pick dc_is_pick pm_is_pick cd_is_pick ct_is_pick : Value} {od_is_pick an_is_pick : Option Addr} {sl_is_pick : Array (Option Value)} {f__law_begun : Addr} {oc__law_begun kV__law_begun dc__law_begun pm__law_begun cd__law_begun ct__law_begun : Value} {od__law_begun an__law_begun : Option Addr} {sl__law_begun : Array (Option Value)} {f__law_draw : Addr} {oc__law_draw kV__law_draw dc__law_draw pm__law_draw cd__law_draw ct__law_draw : Value} {od__law_draw an__law_draw : Option Addr} {sl__law_draw : Array (Option Value)} {f__law_pick : Addr} {oc__law_pick kV__law_pick dc__law_pick pm__law_pick cd__law_pick ct__law_pick : Value} {od__law_pick an__law_pick : Option Addr} {sl__law_pick : Array (Option Value)} {f__law_mixed : Addr} {oc__law_mixed kV__law_mixed dc__law_mixed pm__law_mixed cd__law_mixed ct__law_mixed : Value} {od__law_mixed an__law_mixed : Option Addr} {sl__law_mixed : Array (Option Value)} {f__law_caught : Addr} {oc__law_caught kV__law_caught dc__law_caught pm__law_caught cd__law_caught ct__law_caught : Value} {od__law_caught an__law_caught : Option Addr} {sl__law_caught : Array (Option Value)} {f__law_is_whole : Addr} {oc__law_is_whole kV__law_is_whole dc__law_is_whole pm__law_is_whole cd__law_is_whole ct__law_is_whole : Value} {od__law_is_whole an__law_is_whole : Option Addr} {sl__law_is_whole : Array (Option Value)} {f__law_odd : Addr} {oc__law_odd kV__law_odd dc__law_odd pm__law_odd cd__law_odd ct__law_odd : Value} {od__law_odd an__law_odd : Option Addr} {sl__law_odd : Array (Option Value)} {f__law_is_below : Addr} {oc__law_is_below kV__law_is_below dc__law_is_below pm__law_is_below cd__law_is_below ct__law_is_below : Value} {od__law_is_below an__law_is_below : Option Addr} {sl__law_is_below : Array (Option Value)} {f__law_is_pair : Addr} {oc__law_is_pair kV__law_is_pair dc__law_is_pair pm__law_is_pair cd__law_is_pair ct__law_is_pair : Value} {od__law_is_pair an__law_is_pair : Option Addr} {sl__law_is_pair : Array (Option Value)} {f__law_are_apart : Addr} {oc__law_are_apart kV__law_are_apart dc__law_are_apart pm__law_are_apart cd__law_are_apart ct__law_are_apart : Value} {od__law_are_apart an__law_are_apart : Option Addr} {sl__law_are_apart : Array (Option Value)} {f__law_is_plan : Addr} {oc__law_is_plan kV__law_is_plan dc__law_is_plan pm__law_is_plan cd__law_is_plan ct__law_is_plan : Value} {od__law_is_plan an__law_is_plan : Option Addr} {sl__law_is_plan : Array (Option Value)} {f__law_is_book : Addr} {oc__law_is_book kV__law_is_book dc__law_is_book pm__law_is_book cd__law_is_book ct__law_is_book : Value} {od__law_is_book an__law_is_book : Option Addr} {sl__law_is_book : Array (Option Value)} {f__law_plan : Addr} {oc__law_plan kV__law_plan dc__law_plan pm__law_plan cd__law_plan ct__law_plan : Value} {od__law_plan an__law_plan : Option Addr} {sl__law_plan : Array (Option Value)} {f__law_any_plan : Addr} {oc__law_any_plan kV__law_any_plan dc__law_any_plan pm__law_any_plan cd__law_any_plan ct__law_any_plan : Value} {od__law_any_plan an__law_any_plan : Option Addr} {sl__law_any_plan : Array (Option Value)} {f__law_near_plan : Addr} {oc__law_near_plan kV__law_near_plan dc__law_near_plan pm__law_near_plan cd__law_near_plan ct__law_near_plan : Value} {od__law_near_plan an__law_near_plan : Option Addr} {sl__law_near_plan : Array (Option Value)} {f__law_book : Addr} {oc__law_book kV__law_book dc__law_book pm__law_book cd__law_book ct__law_book : Value} {od__law_book an__law_book : Option Addr} {sl__law_book : Array (Option Value)} {f__law_pick_drawn : Addr} {oc__law_pick_drawn kV__law_pick_drawn dc__law_pick_drawn pm__law_pick_drawn cd__law_pick_drawn ct__law_pick_drawn : Value} {od__law_pick_drawn an__law_pick_drawn : Option Addr} {sl__law_pick_drawn : Array (Option Value)} {f__law_rising_pick : Addr} {oc__law_rising_pick kV__law_rising_pick dc__law_rising_pick pm__law_rising_pick cd__law_rising_pick ct__law_rising_pick : Value} {od__law_rising_pick an__law_rising_pick : Option Addr} {sl__law_rising_pick : Array (Option Value)} {f__law_is_pick : Addr} {oc__law_is_pick kV__law_is_pick dc__law_is_pick pm__law_is_pick cd__law_is_pick ct__law_is_pick : Value} {od__law_is_pick an__law_is_pick : Option Addr} {sl__law_is_pick : Array (Option Value)} {f__law_bool_pair : Addr} {oc__law_bool_pair kV__law_bool_pair dc__law_bool_pair pm__law_bool_pair cd__law_bool_pair ct__law_bool_pair : Value} {od__law_bool_pair an__law_bool_pair : Option Addr} {sl__law_bool_pair : Array (Option Value)} {f__law_bad_plan : Addr} {oc__law_bad_plan kV__law_bad_plan dc__law_bad_plan pm__law_bad_plan cd__law_bad_plan ct__law_bad_plan : Value} {od__law_bad_plan an__law_bad_plan : Option Addr} {sl__law_bad_plan : Array (Option Value)} {f__law_bad_book : Addr} {oc__law_bad_book kV__law_bad_book dc__law_bad_book pm__law_bad_book cd__law_bad_book ct__law_bad_book : Value} {od__law_bad_book an__law_bad_book : Option Addr} {sl__law_bad_book : Array (Option Value)} {f__law_bad_pick : Addr} {oc__law_bad_pick kV__law_bad_pick dc__law_bad_pick pm__law_bad_pick cd__law_bad_pick ct__law_bad_pick : Value} {od__law_bad_pick an__law_bad_pick : Option Addr} {sl__law_bad_pick : Array (Option Value)} {f_law : Addr} {oc_law kV_law dc_law pm_law ct_law : Value} {od_law an_law : Option Addr} {sl_law : Array (Option Value)} {eL : Value} {ddL : Option Addr} {usL : Array Value} {slL : Array (Option Value)} {C_BadBook : Addr} {C_PickError : Addr} {t_MOST_NUMBER : Tok} {t_MOST_PLANS : Tok} (hprog : l.prog = P) (pure_ : ∀ ns : List Int, ns.length ≤ 63 → ∃ g', t_law (startLaw 11 ns.length) (g0 ns) = .ok (.ret (.bl true)) g') (X : K.In h) (G : h.Ns mainGlobals mg) (hfa : mg "law" = some (.ref fa)) (own : OwnT K "law" mg h)
    (a_is_between : PySem.W.nsIn K mainGlobals "is_between" = some (some (.ref f_is_between)))
    (l_is_between : K.lookup f_is_between = some ⟨oc_is_between, od_is_between, .func (FDn "is_between" s_is_between kV_is_between dc_is_between pm_is_between an_is_between cd_is_between ct_is_between), sl_is_between⟩)
    (c_is_between : PySem.W.codeIn K cd_is_between "is_between" = true)
    (k_is_between : PySem.W.keepIn K (.ref f_is_between) = true)
    (a_is_pair : PySem.W.nsIn K mainGlobals "is_pair" = some (some (.ref f_is_pair)))
    (l_is_pair : K.lookup f_is_pair = some ⟨oc_is_pair, od_is_pair, .func (FDn "is_pair" s_is_pair kV_is_pair dc_is_pair pm_is_pair an_is_pair cd_is_pair ct_is_pair), sl_is_pair⟩)
    (c_is_pair : PySem.W.codeIn K cd_is_pair "is_pair" = true)
    (k_is_pair : PySem.W.keepIn K (.ref f_is_pair) = true)
    (a_are_apart : PySem.W.nsIn K mainGlobals "are_apart" = some (some (.ref f_are_apart)))
    (l_are_apart : K.lookup f_are_apart = some ⟨oc_are_apart, od_are_apart, .func (FDn "are_apart" s_are_apart kV_are_apart dc_are_apart pm_are_apart an_are_apart cd_are_apart ct_are_apart), sl_are_apart⟩)
    (c_are_apart : PySem.W.codeIn K cd_are_apart "are_apart" = true)
    (k_are_apart : PySem.W.keepIn K (.ref f_are_apart) = true)
    (a_plans_right : PySem.W.nsIn K mainGlobals "plans_right" = some (some (.ref f_plans_right)))
    (l_plans_right : K.lookup f_plans_right = some ⟨oc_plans_right, od_plans_right, .func (FDn "plans_right" s_plans_right kV_plans_right dc_plans_right pm_plans_right an_plans_right cd_plans_right ct_plans_right), sl_plans_right⟩)
    (c_plans_right : PySem.W.codeIn K cd_plans_right "plans_right" = true)
    (k_plans_right : PySem.W.keepIn K (.ref f_plans_right) = true)
    (a_books_right : PySem.W.nsIn K mainGlobals "books_right" = some (some (.ref f_books_right)))
    (l_books_right : K.lookup f_books_right = some ⟨oc_books_right, od_books_right, .func (FDn "books_right" s_books_right kV_books_right dc_books_right pm_books_right an_books_right cd_books_right ct_books_right), sl_books_right⟩)
    (c_books_right : PySem.W.codeIn K cd_books_right "books_right" = true)
    (k_books_right : PySem.W.keepIn K (.ref f_books_right) = true)
    (a_need_book : PySem.W.nsIn K mainGlobals "need_book" = some (some (.ref f_need_book)))
    (l_need_book : K.lookup f_need_book = some ⟨oc_need_book, od_need_book, .func (FDn "need_book" s_need_book kV_need_book dc_need_book pm_need_book an_need_book cd_need_book ct_need_book), sl_need_book⟩)
    (c_need_book : PySem.W.codeIn K cd_need_book "need_book" = true)
    (k_need_book : PySem.W.keepIn K (.ref f_need_book) = true)
    (a_picks_right : PySem.W.nsIn K mainGlobals "picks_right" = some (some (.ref f_picks_right)))
    (l_picks_right : K.lookup f_picks_right = some ⟨oc_picks_right, od_picks_right, .func (FDn "picks_right" s_picks_right kV_picks_right dc_picks_right pm_picks_right an_picks_right cd_picks_right ct_picks_right), sl_picks_right⟩)
    (c_picks_right : PySem.W.codeIn K cd_picks_right "picks_right" = true)
    (k_picks_right : PySem.W.keepIn K (.ref f_picks_right) = true)
    (a_is_pick : PySem.W.nsIn K mainGlobals "is_pick" = some (some (.ref f_is_pick)))
    (l_is_pick : K.lookup f_is_pick = some ⟨oc_is_pick, od_is_pick, .func (FDn "is_pick" s_is_pick kV_is_pick dc_is_pick pm_is_pick an_is_pick cd_is_pick ct_is_pick), sl_is_pick⟩)
    (c_is_pick : PySem.W.codeIn K cd_is_pick "is_pick" = true)
    (k_is_pick : PySem.W.keepIn K (.ref f_is_pick) = true)
    (a__law_begun : PySem.W.nsIn K mainGlobals "_law_begun" = some (some (.ref f__law_begun)))
    (l__law_begun : K.lookup f__law_begun = some ⟨oc__law_begun, od__law_begun, .func (FDn "_law_begun" s__law_begun kV__law_begun dc__law_begun pm__law_begun an__law_begun cd__law_begun ct__law_begun), sl__law_begun⟩)
    (c__law_begun : PySem.W.codeIn K cd__law_begun "_law_begun" = true)
    (k__law_begun : PySem.W.keepIn K (.ref f__law_begun) = true)
    (a__law_draw : PySem.W.nsIn K mainGlobals "_law_draw" = some (some (.ref f__law_draw)))
    (l__law_draw : K.lookup f__law_draw = some ⟨oc__law_draw, od__law_draw, .func (FDn "_law_draw" s__law_draw kV__law_draw dc__law_draw pm__law_draw an__law_draw cd__law_draw ct__law_draw), sl__law_draw⟩)
    (c__law_draw : PySem.W.codeIn K cd__law_draw "_law_draw" = true)
    (k__law_draw : PySem.W.keepIn K (.ref f__law_draw) = true)
    (a__law_pick : PySem.W.nsIn K mainGlobals "_law_pick" = some (some (.ref f__law_pick)))
    (l__law_pick : K.lookup f__law_pick = some ⟨oc__law_pick, od__law_pick, .func (FDn "_law_pick" s__law_pick kV__law_pick dc__law_pick pm__law_pick an__law_pick cd__law_pick ct__law_pick), sl__law_pick⟩)
    (c__law_pick : PySem.W.codeIn K cd__law_pick "_law_pick" = true)
    (k__law_pick : PySem.W.keepIn K (.ref f__law_pick) = true)
    (a__law_mixed : PySem.W.nsIn K mainGlobals "_law_mixed" = some (some (.ref f__law_mixed)))
    (l__law_mixed : K.lookup f__law_mixed = some ⟨oc__law_mixed, od__law_mixed, .func (FDn "_law_mixed" s__law_mixed kV__law_mixed dc__law_mixed pm__law_mixed an__law_mixed cd__law_mixed ct__law_mixed), sl__law_mixed⟩)
    (c__law_mixed : PySem.W.codeIn K cd__law_mixed "_law_mixed" = true)
    (k__law_mixed : PySem.W.keepIn K (.ref f__law_mixed) = true)
    (a__law_caught : PySem.W.nsIn K mainGlobals "_law_caught" = some (some (.ref f__law_caught)))
    (l__law_caught : K.lookup f__law_caught = some ⟨oc__law_caught, od__law_caught, .func (FDn "_law_caught" s__law_caught kV__law_caught dc__law_caught pm__law_caught an__law_caught cd__law_caught ct__law_caught), sl__law_caught⟩)
    (c__law_caught : PySem.W.codeIn K cd__law_caught "_law_caught" = true)
    (k__law_caught : PySem.W.keepIn K (.ref f__law_caught) = true)
    (a__law_is_whole : PySem.W.nsIn K mainGlobals "_law_is_whole" = some (some (.ref f__law_is_whole)))
    (l__law_is_whole : K.lookup f__law_is_whole = some ⟨oc__law_is_whole, od__law_is_whole, .func (FDn "_law_is_whole" s__law_is_whole kV__law_is_whole dc__law_is_whole pm__law_is_whole an__law_is_whole cd__law_is_whole ct__law_is_whole), sl__law_is_whole⟩)
    (c__law_is_whole : PySem.W.codeIn K cd__law_is_whole "_law_is_whole" = true)
    (k__law_is_whole : PySem.W.keepIn K (.ref f__law_is_whole) = true)
    (a__law_odd : PySem.W.nsIn K mainGlobals "_law_odd" = some (some (.ref f__law_odd)))
    (l__law_odd : K.lookup f__law_odd = some ⟨oc__law_odd, od__law_odd, .func (FDn "_law_odd" s__law_odd kV__law_odd dc__law_odd pm__law_odd an__law_odd cd__law_odd ct__law_odd), sl__law_odd⟩)
    (c__law_odd : PySem.W.codeIn K cd__law_odd "_law_odd" = true)
    (k__law_odd : PySem.W.keepIn K (.ref f__law_odd) = true)
    (a__law_is_below : PySem.W.nsIn K mainGlobals "_law_is_below" = some (some (.ref f__law_is_below)))
    (l__law_is_below : K.lookup f__law_is_below = some ⟨oc__law_is_below, od__law_is_below, .func (FDn "_law_is_below" s__law_is_below kV__law_is_below dc__law_is_below pm__law_is_below an__law_is_below cd__law_is_below ct__law_is_below), sl__law_is_below⟩)
    (c__law_is_below : PySem.W.codeIn K cd__law_is_below "_law_is_below" = true)
    (k__law_is_below : PySem.W.keepIn K (.ref f__law_is_below) = true)
    (a__law_is_pair : PySem.W.nsIn K mainGlobals "_law_is_pair" = some (some (.ref f__law_is_pair)))
    (l__law_is_pair : K.lookup f__law_is_pair = some ⟨oc__law_is_pair, od__law_is_pair, .func (FDn "_law_is_pair" s__law_is_pair kV__law_is_pair dc__law_is_pair pm__law_is_pair an__law_is_pair cd__law_is_pair ct__law_is_pair), sl__law_is_pair⟩)
    (c__law_is_pair : PySem.W.codeIn K cd__law_is_pair "_law_is_pair" = true)
    (k__law_is_pair : PySem.W.keepIn K (.ref f__law_is_pair) = true)
    (a__law_are_apart : PySem.W.nsIn K mainGlobals "_law_are_apart" = some (some (.ref f__law_are_apart)))
    (l__law_are_apart : K.lookup f__law_are_apart = some ⟨oc__law_are_apart, od__law_are_apart, .func (FDn "_law_are_apart" s__law_are_apart kV__law_are_apart dc__law_are_apart pm__law_are_apart an__law_are_apart cd__law_are_apart ct__law_are_apart), sl__law_are_apart⟩)
    (c__law_are_apart : PySem.W.codeIn K cd__law_are_apart "_law_are_apart" = true)
    (k__law_are_apart : PySem.W.keepIn K (.ref f__law_are_apart) = true)
    (a__law_is_plan : PySem.W.nsIn K mainGlobals "_law_is_plan" = some (some (.ref f__law_is_plan)))
    (l__law_is_plan : K.lookup f__law_is_plan = some ⟨oc__law_is_plan, od__law_is_plan, .func (FDn "_law_is_plan" s__law_is_plan kV__law_is_plan dc__law_is_plan pm__law_is_plan an__law_is_plan cd__law_is_plan ct__law_is_plan), sl__law_is_plan⟩)
    (c__law_is_plan : PySem.W.codeIn K cd__law_is_plan "_law_is_plan" = true)
    (k__law_is_plan : PySem.W.keepIn K (.ref f__law_is_plan) = true)
    (a__law_is_book : PySem.W.nsIn K mainGlobals "_law_is_book" = some (some (.ref f__law_is_book)))
    (l__law_is_book : K.lookup f__law_is_book = some ⟨oc__law_is_book, od__law_is_book, .func (FDn "_law_is_book" s__law_is_book kV__law_is_book dc__law_is_book pm__law_is_book an__law_is_book cd__law_is_book ct__law_is_book), sl__law_is_book⟩)
    (c__law_is_book : PySem.W.codeIn K cd__law_is_book "_law_is_book" = true)
    (k__law_is_book : PySem.W.keepIn K (.ref f__law_is_book) = true)
    (a__law_plan : PySem.W.nsIn K mainGlobals "_law_plan" = some (some (.ref f__law_plan)))
    (l__law_plan : K.lookup f__law_plan = some ⟨oc__law_plan, od__law_plan, .func (FDn "_law_plan" s__law_plan kV__law_plan dc__law_plan pm__law_plan an__law_plan cd__law_plan ct__law_plan), sl__law_plan⟩)
    (c__law_plan : PySem.W.codeIn K cd__law_plan "_law_plan" = true)
    (k__law_plan : PySem.W.keepIn K (.ref f__law_plan) = true)
    (a__law_any_plan : PySem.W.nsIn K mainGlobals "_law_any_plan" = some (some (.ref f__law_any_plan)))
    (l__law_any_plan : K.lookup f__law_any_plan = some ⟨oc__law_any_plan, od__law_any_plan, .func (FDn "_law_any_plan" s__law_any_plan kV__law_any_plan dc__law_any_plan pm__law_any_plan an__law_any_plan cd__law_any_plan ct__law_any_plan), sl__law_any_plan⟩)
    (c__law_any_plan : PySem.W.codeIn K cd__law_any_plan "_law_any_plan" = true)
    (k__law_any_plan : PySem.W.keepIn K (.ref f__law_any_plan) = true)
    (a__law_near_plan : PySem.W.nsIn K mainGlobals "_law_near_plan" = some (some (.ref f__law_near_plan)))
    (l__law_near_plan : K.lookup f__law_near_plan = some ⟨oc__law_near_plan, od__law_near_plan, .func (FDn "_law_near_plan" s__law_near_plan kV__law_near_plan dc__law_near_plan pm__law_near_plan an__law_near_plan cd__law_near_plan ct__law_near_plan), sl__law_near_plan⟩)
    (c__law_near_plan : PySem.W.codeIn K cd__law_near_plan "_law_near_plan" = true)
    (k__law_near_plan : PySem.W.keepIn K (.ref f__law_near_plan) = true)
    (a__law_book : PySem.W.nsIn K mainGlobals "_law_book" = some (some (.ref f__law_book)))
    (l__law_book : K.lookup f__law_book = some ⟨oc__law_book, od__law_book, .func (FDn "_law_book" s__law_book kV__law_book dc__law_book pm__law_book an__law_book cd__law_book ct__law_book), sl__law_book⟩)
    (c__law_book : PySem.W.codeIn K cd__law_book "_law_book" = true)
    (k__law_book : PySem.W.keepIn K (.ref f__law_book) = true)
    (a__law_pick_drawn : PySem.W.nsIn K mainGlobals "_law_pick_drawn" = some (some (.ref f__law_pick_drawn)))
    (l__law_pick_drawn : K.lookup f__law_pick_drawn = some ⟨oc__law_pick_drawn, od__law_pick_drawn, .func (FDn "_law_pick_drawn" s__law_pick_drawn kV__law_pick_drawn dc__law_pick_drawn pm__law_pick_drawn an__law_pick_drawn cd__law_pick_drawn ct__law_pick_drawn), sl__law_pick_drawn⟩)
    (c__law_pick_drawn : PySem.W.codeIn K cd__law_pick_drawn "_law_pick_drawn" = true)
    (k__law_pick_drawn : PySem.W.keepIn K (.ref f__law_pick_drawn) = true)
    (a__law_rising_pick : PySem.W.nsIn K mainGlobals "_law_rising_pick" = some (some (.ref f__law_rising_pick)))
    (l__law_rising_pick : K.lookup f__law_rising_pick = some ⟨oc__law_rising_pick, od__law_rising_pick, .func (FDn "_law_rising_pick" s__law_rising_pick kV__law_rising_pick dc__law_rising_pick pm__law_rising_pick an__law_rising_pick cd__law_rising_pick ct__law_rising_pick), sl__law_rising_pick⟩)
    (c__law_rising_pick : PySem.W.codeIn K cd__law_rising_pick "_law_rising_pick" = true)
    (k__law_rising_pick : PySem.W.keepIn K (.ref f__law_rising_pick) = true)
    (a__law_is_pick : PySem.W.nsIn K mainGlobals "_law_is_pick" = some (some (.ref f__law_is_pick)))
    (l__law_is_pick : K.lookup f__law_is_pick = some ⟨oc__law_is_pick, od__law_is_pick, .func (FDn "_law_is_pick" s__law_is_pick kV__law_is_pick dc__law_is_pick pm__law_is_pick an__law_is_pick cd__law_is_pick ct__law_is_pick), sl__law_is_pick⟩)
    (c__law_is_pick : PySem.W.codeIn K cd__law_is_pick "_law_is_pick" = true)
    (k__law_is_pick : PySem.W.keepIn K (.ref f__law_is_pick) = true)
    (a__law_bool_pair : PySem.W.nsIn K mainGlobals "_law_bool_pair" = some (some (.ref f__law_bool_pair)))
    (l__law_bool_pair : K.lookup f__law_bool_pair = some ⟨oc__law_bool_pair, od__law_bool_pair, .func (FDn "_law_bool_pair" s__law_bool_pair kV__law_bool_pair dc__law_bool_pair pm__law_bool_pair an__law_bool_pair cd__law_bool_pair ct__law_bool_pair), sl__law_bool_pair⟩)
    (c__law_bool_pair : PySem.W.codeIn K cd__law_bool_pair "_law_bool_pair" = true)
    (k__law_bool_pair : PySem.W.keepIn K (.ref f__law_bool_pair) = true)
    (a__law_bad_plan : PySem.W.nsIn K mainGlobals "_law_bad_plan" = some (some (.ref f__law_bad_plan)))
    (l__law_bad_plan : K.lookup f__law_bad_plan = some ⟨oc__law_bad_plan, od__law_bad_plan, .func (FDn "_law_bad_plan" s__law_bad_plan kV__law_bad_plan dc__law_bad_plan pm__law_bad_plan an__law_bad_plan cd__law_bad_plan ct__law_bad_plan), sl__law_bad_plan⟩)
    (c__law_bad_plan : PySem.W.codeIn K cd__law_bad_plan "_law_bad_plan" = true)
    (k__law_bad_plan : PySem.W.keepIn K (.ref f__law_bad_plan) = true)
    (a__law_bad_book : PySem.W.nsIn K mainGlobals "_law_bad_book" = some (some (.ref f__law_bad_book)))
    (l__law_bad_book : K.lookup f__law_bad_book = some ⟨oc__law_bad_book, od__law_bad_book, .func (FDn "_law_bad_book" s__law_bad_book kV__law_bad_book dc__law_bad_book pm__law_bad_book an__law_bad_book cd__law_bad_book ct__law_bad_book), sl__law_bad_book⟩)
    (c__law_bad_book : PySem.W.codeIn K cd__law_bad_book "_law_bad_book" = true)
    (k__law_bad_book : PySem.W.keepIn K (.ref f__law_bad_book) = true)
    (a__law_bad_pick : PySem.W.nsIn K mainGlobals "_law_bad_pick" = some (some (.ref f__law_bad_pick)))
    (l__law_bad_pick : K.lookup f__law_bad_pick = some ⟨oc__law_bad_pick, od__law_bad_pick, .func (FDn "_law_bad_pick" s__law_bad_pick kV__law_bad_pick dc__law_bad_pick pm__law_bad_pick an__law_bad_pick cd__law_bad_pick ct__law_bad_pick), sl__law_bad_pick⟩)
    (c__law_bad_pick : PySem.W.codeIn K cd__law_bad_pick "_law_bad_pick" = true)
    (k__law_bad_pick : PySem.W.keepIn K (.ref f__law_bad_pick) = true)
    (a_law : PySem.W.nsIn K mainGlobals "law" = some (some (.ref f_law)))
    (l_law : K.lookup f_law = some ⟨oc_law, od_law, .func (FDn "law" s_law kV_law dc_law pm_law an_law (.ref cL) ct_law), sl_law⟩)
    (c_law : PySem.W.codeIn K (.ref cL) "law" = true)
    (k_law : PySem.W.keepIn K (.ref f_law) = true)
    (l_code : K.lookup cL = some ⟨eL, ddL, .fields usL, slL⟩)
    (u_code : usL[11]? = some (.ref pL))
    (h_code : PySem.W.codeHdIn K cL pL = true)
    (p_code : K.lookup pL = none)
    (g_BadBook : PySem.W.nsIn K mainGlobals "BadBook" = some (some (.ref C_BadBook)))
    (x_BadBook : PySem.W.excIn K C_BadBook [.type "ValueError", .type "Exception", .type "BaseException", .type "object"] "ValueError.__new__" = true)
    (kp_BadBook : PySem.W.keepIn K (.ref C_BadBook) = true)
    (ty_BadBook : PySem.W.typeIn K (.ref C_BadBook) = some (.type "type"))
    (e1_BadBook : PySem.W.findIn K (.ref C_BadBook) "__getattribute__" = some (some (.builtin "BaseException.__getattribute__")))
    (e2_BadBook : PySem.W.findIn K (.ref C_BadBook) "__getattr__" = some none)
    (e3_BadBook : PySem.W.subIn K (.ref C_BadBook) (.type "BaseException") = some true)
    (e4_BadBook : PySem.W.hasDictIn K C_BadBook = true)
    (e5_BadBook : PySem.W.findIn K (.ref C_BadBook) "__class__" = some (some (.builtin "object.__class__")))
    (e6_BadBook : PySem.W.mroIn K C_BadBook (.type "object") = some true)
    (g_PickError : PySem.W.nsIn K mainGlobals "PickError" = some (some (.ref C_PickError)))
    (x_PickError : PySem.W.excIn K C_PickError [.type "ValueError", .type "Exception", .type "BaseException", .type "object"] "ValueError.__new__" = true)
    (kp_PickError : PySem.W.keepIn K (.ref C_PickError) = true)
    (ty_PickError : PySem.W.typeIn K (.ref C_PickError) = some (.type "type"))
    (e1_PickError : PySem.W.findIn K (.ref C_PickError) "__getattribute__" = some (some (.builtin "BaseException.__getattribute__")))
    (e2_PickError : PySem.W.findIn K (.ref C_PickError) "__getattr__" = some none)
    (e3_PickError : PySem.W.subIn K (.ref C_PickError) (.type "BaseException") = some true)
    (e4_PickError : PySem.W.hasDictIn K C_PickError = true)
    (e5_PickError : PySem.W.findIn K (.ref C_PickError) "__class__" = some (some (.builtin "object.__class__")))
    (e6_PickError : PySem.W.mroIn K C_PickError (.type "object") = some true)
    (e7 : PySem.W.specialIn K (.builtin "object.__class__") "__get__" = some (some (.builtin "getset_descriptor.__get__")))
    (e8 : PySem.W.takesIn K (.builtin "object.__class__") = some true)
    (i_MOST_NUMBER : PySem.W.nsIn K mainGlobals "MOST_NUMBER" = some (some (.int 7 t_MOST_NUMBER)))
    (i_MOST_PLANS : PySem.W.nsIn K mainGlobals "MOST_PLANS" = some (some (.int 16 t_MOST_PLANS)))
    (z_abs : PySem.W.nsIn K mainGlobals "abs" = some none)
    (z_all : PySem.W.nsIn K mainGlobals "all" = some none)
    (z_bool : PySem.W.nsIn K mainGlobals "bool" = some none)
    (z_dict : PySem.W.nsIn K mainGlobals "dict" = some none)
    (z_enumerate : PySem.W.nsIn K mainGlobals "enumerate" = some none)
    (z_int : PySem.W.nsIn K mainGlobals "int" = some none)
    (z_isinstance : PySem.W.nsIn K mainGlobals "isinstance" = some none)
    (z_len : PySem.W.nsIn K mainGlobals "len" = some none)
    (z_list : PySem.W.nsIn K mainGlobals "list" = some none)
    (z_min : PySem.W.nsIn K mainGlobals "min" = some none)
    (z_range : PySem.W.nsIn K mainGlobals "range" = some none)
    (z_repr : PySem.W.nsIn K mainGlobals "repr" = some none)
    (z_set : PySem.W.nsIn K mainGlobals "set" = some none)
    (z_sorted : PySem.W.nsIn K mainGlobals "sorted" = some none)
    (z_tuple : PySem.W.nsIn K mainGlobals "tuple" = some none)
    (z_zip : PySem.W.nsIn K mainGlobals "zip" = some none)
    (y_NoneType_BadBook : PySem.W.subIn K (.type "NoneType") (.ref C_BadBook) = some false)
    (y_bool_BadBook : PySem.W.subIn K (.type "bool") (.ref C_BadBook) = some false)
    (y_int_BadBook : PySem.W.subIn K (.type "int") (.ref C_BadBook) = some false)
    (y_str_BadBook : PySem.W.subIn K (.type "str") (.ref C_BadBook) = some false)
    (y_tuple_BadBook : PySem.W.subIn K (.type "tuple") (.ref C_BadBook) = some false)
    (y_list_BadBook : PySem.W.subIn K (.type "list") (.ref C_BadBook) = some false)
    (y_dict_BadBook : PySem.W.subIn K (.type "dict") (.ref C_BadBook) = some false)
    (q_BadBook : PySem.W.subIn K (.ref C_BadBook) (.ref C_PickError) = some true) : LawEnd l w K 63 mg fa h := by
  have X0 : Tx K mg cL := ⟨⟨_, _, _, _, _, _, _, _, _, _, PySem.W.mg_of X G a_is_between, k_is_between, l_is_between, c_is_between⟩,
    ⟨_, _, _, _, _, _, _, _, _, _, PySem.W.mg_of X G a_is_pair, k_is_pair, l_is_pair, c_is_pair⟩,
    ⟨_, _, _, _, _, _, _, _, _, _, PySem.W.mg_of X G a_are_apart, k_are_apart, l_are_apart, c_are_apart⟩,
    ⟨_, _, _, _, _, _, _, _, _, _, PySem.W.mg_of X G a_plans_right, k_plans_right, l_plans_right, c_plans_right⟩,
    ⟨_, _, _, _, _, _, _, _, _, _, PySem.W.mg_of X G a_books_right, k_books_right, l_books_right, c_books_right⟩,
    ⟨_, _, _, _, _, _, _, _, _, _, PySem.W.mg_of X G a_need_book, k_need_book, l_need_book, c_need_book⟩,
    ⟨_, _, _, _, _, _, _, _, _, _, PySem.W.mg_of X G a_picks_right, k_picks_right, l_picks_right, c_picks_right⟩,
    ⟨_, _, _, _, _, _, _, _, _, _, PySem.W.mg_of X G a_is_pick, k_is_pick, l_is_pick, c_is_pick⟩,
    ⟨_, _, _, _, _, _, _, _, _, _, PySem.W.mg_of X G a__law_begun, k__law_begun, l__law_begun, c__law_begun⟩,
    ⟨_, _, _, _, _, _, _, _, _, _, PySem.W.mg_of X G a__law_draw, k__law_draw, l__law_draw, c__law_draw⟩,
    ⟨_, _, _, _, _, _, _, _, _, _, PySem.W.mg_of X G a__law_pick, k__law_pick, l__law_pick, c__law_pick⟩,
    ⟨_, _, _, _, _, _, _, _, _, _, PySem.W.mg_of X G a__law_mixed, k__law_mixed, l__law_mixed, c__law_mixed⟩,
    ⟨_, _, _, _, _, _, _, _, _, _, PySem.W.mg_of X G a__law_caught, k__law_caught, l__law_caught, c__law_caught⟩,
    ⟨_, _, _, _, _, _, _, _, _, _, PySem.W.mg_of X G a__law_is_whole, k__law_is_whole, l__law_is_whole, c__law_is_whole⟩,
    ⟨_, _, _, _, _, _, _, _, _, _, PySem.W.mg_of X G a__law_odd, k__law_odd, l__law_odd, c__law_odd⟩,
    ⟨_, _, _, _, _, _, _, _, _, _, PySem.W.mg_of X G a__law_is_below, k__law_is_below, l__law_is_below, c__law_is_below⟩,
    ⟨_, _, _, _, _, _, _, _, _, _, PySem.W.mg_of X G a__law_is_pair, k__law_is_pair, l__law_is_pair, c__law_is_pair⟩,
    ⟨_, _, _, _, _, _, _, _, _, _, PySem.W.mg_of X G a__law_are_apart, k__law_are_apart, l__law_are_apart, c__law_are_apart⟩,
    ⟨_, _, _, _, _, _, _, _, _, _, PySem.W.mg_of X G a__law_is_plan, k__law_is_plan, l__law_is_plan, c__law_is_plan⟩,
    ⟨_, _, _, _, _, _, _, _, _, _, PySem.W.mg_of X G a__law_is_book, k__law_is_book, l__law_is_book, c__law_is_book⟩,
    ⟨_, _, _, _, _, _, _, _, _, _, PySem.W.mg_of X G a__law_plan, k__law_plan, l__law_plan, c__law_plan⟩,
    ⟨_, _, _, _, _, _, _, _, _, _, PySem.W.mg_of X G a__law_any_plan, k__law_any_plan, l__law_any_plan, c__law_any_plan⟩,
    ⟨_, _, _, _, _, _, _, _, _, _, PySem.W.mg_of X G a__law_near_plan, k__law_near_plan, l__law_near_plan, c__law_near_plan⟩,
    ⟨_, _, _, _, _, _, _, _, _, _, PySem.W.mg_of X G a__law_book, k__law_book, l__law_book, c__law_book⟩,
    ⟨_, _, _, _, _, _, _, _, _, _, PySem.W.mg_of X G a__law_pick_drawn, k__law_pick_drawn, l__law_pick_drawn, c__law_pick_drawn⟩,
    ⟨_, _, _, _, _, _, _, _, _, _, PySem.W.mg_of X G a__law_rising_pick, k__law_rising_pick, l__law_rising_pick, c__law_rising_pick⟩,
    ⟨_, _, _, _, _, _, _, _, _, _, PySem.W.mg_of X G a__law_is_pick, k__law_is_pick, l__law_is_pick, c__law_is_pick⟩,
    ⟨_, _, _, _, _, _, _, _, _, _, PySem.W.mg_of X G a__law_bool_pair, k__law_bool_pair, l__law_bool_pair, c__law_bool_pair⟩,
    ⟨_, _, _, _, _, _, _, _, _, _, PySem.W.mg_of X G a__law_bad_plan, k__law_bad_plan, l__law_bad_plan, c__law_bad_plan⟩,
    ⟨_, _, _, _, _, _, _, _, _, _, PySem.W.mg_of X G a__law_bad_book, k__law_bad_book, l__law_bad_book, c__law_bad_book⟩,
    ⟨_, _, _, _, _, _, _, _, _, _, PySem.W.mg_of X G a__law_bad_pick, k__law_bad_pick, l__law_bad_pick, c__law_bad_pick⟩,
    ⟨_, _, _, _, _, _, _, _, _, PySem.W.mg_of X G a_law, k_law, l_law, c_law⟩,
    ⟨C_BadBook, PySem.W.mg_of X G g_BadBook, ⟨x_BadBook, kp_BadBook, ty_BadBook, ⟨e1_BadBook, e2_BadBook, e3_BadBook, e4_BadBook, e5_BadBook, e7, e8, e6_BadBook⟩⟩⟩,
    ⟨t_MOST_NUMBER, PySem.W.mg_of X G i_MOST_NUMBER⟩,
    ⟨t_MOST_PLANS, PySem.W.mg_of X G i_MOST_PLANS⟩,
    PySem.W.mg_none_of X G z_abs,
    PySem.W.mg_none_of X G z_all,
    PySem.W.mg_none_of X G z_bool,
    PySem.W.mg_none_of X G z_dict,
    PySem.W.mg_none_of X G z_enumerate,
    PySem.W.mg_none_of X G z_int,
    PySem.W.mg_none_of X G z_isinstance,
    PySem.W.mg_none_of X G z_len,
    PySem.W.mg_none_of X G z_list,
    PySem.W.mg_none_of X G z_min,
    PySem.W.mg_none_of X G z_range,
    PySem.W.mg_none_of X G z_repr,
    PySem.W.mg_none_of X G z_set,
    PySem.W.mg_none_of X G z_sorted,
    PySem.W.mg_none_of X G z_tuple,
    PySem.W.mg_none_of X G z_zip,
    isi_of (mem2 (fun C C' h1 h2 => by
      cases (PySem.W.mg_of X G g_BadBook).symm.trans h1
      cases (PySem.W.mg_of X G g_BadBook).symm.trans h2
      exact ⟨(⟨x_BadBook, kp_BadBook, ty_BadBook, ⟨e1_BadBook, e2_BadBook, e3_BadBook, e4_BadBook, e5_BadBook, e7, e8, e6_BadBook⟩⟩ : ExcF K C_BadBook).ec, if_pos (beq_self_eq_true _)⟩)
    (fun _ h => nomatch h))
    (mem2 (fun C' h t ht => by
      cases (PySem.W.mg_of X G g_BadBook).symm.trans h
      simp only [List.mem_cons, List.not_mem_nil, or_false] at ht
      rcases ht with rfl | rfl | rfl | rfl | rfl | rfl | rfl
      · exact kit_own e4_BadBook ty_BadBook rfl y_NoneType_BadBook
      · exact kit_own e4_BadBook ty_BadBook rfl y_bool_BadBook
      · exact kit_own e4_BadBook ty_BadBook rfl y_int_BadBook
      · exact kit_own e4_BadBook ty_BadBook rfl y_str_BadBook
      · exact kit_own e4_BadBook ty_BadBook rfl y_tuple_BadBook
      · exact kit_own e4_BadBook ty_BadBook rfl y_list_BadBook
      · exact kit_own e4_BadBook ty_BadBook rfl y_dict_BadBook)
    (fun _ h => nomatch h)),
    ⟨C_PickError, PySem.W.mg_of X G g_PickError, (mem2 (fun C h => by
      cases (PySem.W.mg_of X G g_BadBook).symm.trans h
      exact PySem.W.exm_ref e3_PickError e4_PickError ty_PickError q_BadBook)
    (fun _ h => nomatch h))⟩⟩
  exact law_end (P := P) hprog X0 hfa p_code (own f_law cL pL _ _ _ _ _ _ (PySem.W.mg_of X G a_law) l_law rfl rfl l_code u_code) (PySem.W.codeHd_of_K X h_code) pure_
end
end K10
set_option Elab.async false
set_option linter.all false
set_option maxRecDepth 100000
set_option maxHeartbeats 2000000
/-! The law k10 on its readings. -/
open PySem PySem.Spec PyProof.Rows L2 DL SH
local macro_rules | `(tactic| walk_at "k1") => `(tactic| first | walk_at "w2" | with_reducible refine w_ixP0 ?_ | with_reducible refine w_ixP1 ?_ | with_reducible refine w_lstPr ?_ | with_reducible refine w_lenK ?_ | with_reducible refine w_itK ?_ | with_reducible refine w_ixK (by assumption) ?_ | with_reducible refine w_mk1 ?_ | with_reducible refine w_mkO rfl ?_ | with_reducible refine w_modI8 ?_ | with_reducible refine w_addL (by walk_at "len") ?_ | with_reducible refine w_addT (by walk_at "len") ?_ | with_reducible refine w_ixBk (by walk_at "len") (by walk_at "len") ?_ | with_reducible refine w_lenPl ?_ | with_reducible refine w_itPl ?_ | with_reducible refine w_appE (by walk_at "len") ?_)
local macro_rules | `(tactic| walk_at "k") => `(tactic| repeat walk_at "k1")
namespace K10
abbrev Vr := Option (Bool × D)
abbrev row (n : Nat) (a2 a3 a4 a5 a6 a7 a8 a9 a10 : Vr) : DL.Env := [some (false, .scr n), some (false, .st), a2, a3, a4, a5, a6, a7, a8, a9, a10]
theorem m_bk : ("BadBook" : Str) ∈ pks := by decide
theorem isi_bk : isi [.exc "BadBook" Str.empty [], .fn "BadBook"] = some (.bl true) := by
  show (subOf isiT "BadBook" "BadBook").map D.bl = _
  rw [show subOf isiT "BadBook" "BadBook" = some true by decide]
  rfl
theorem law_runs {ns : List Int} (hns : ns.length ≤ 63) : (t_law (startLaw 11 ns.length) (g0 ns)).all (FP NE NE NE fun d _ => d = .bl true) XF := by
  unfold t_law
  with_reducible refine w_seq ?_
  with_reducible refine w_for (fun l ρ g => (∃ a2 a3 a4 a5 a6 a7 a8 a9 a10, ρ = row ns.length a2 a3 a4 a5 a6 a7 a8 a9 a10) ∧ GI (3000 * l.length + 10) g) ?_ ?_ ?_
  · walk_at "w"
    have hG := gi0 hns
    have hc : ∀ k : Int, 0 ≤ k → k ≤ 8 → ((∃ a2 a3 a4 a5 a6 a7 a8 a9 a10, startLaw 11 ns.length = row ns.length a2 a3 a4 a5 a6 a7 a8 a9 a10) ∧ GI (3000 * (rangeL 0 (2 + k).toNat).length + 10) (g0 ns)) := fun k h0 h8 =>
      ⟨⟨_, _, _, _, _, _, _, _, _, rfl⟩, hG.mono (by rw [rangeL_len]; omega)⟩
    refine hc _ ?_ ?_
    · split <;> omega
    · split <;> omega
  · rintro d0 l ρ g ⟨⟨a2, a3, a4, a5, a6, a7, a8, a9, a10, rfl⟩, hG⟩
    refine ⟨_, rfl, ?_⟩
    rw [List.length_cons] at hG
    generalize hm : 3000 * (l.length + 1) + 10 = m at hG
    have fin : ∀ {g' : G} {ρ' : DL.Env} {c : Nat}, GI (m - c) g' → c ≤ 3000 → (∃ a2 a3 a4 a5 a6 a7 a8 a9 a10, ρ' = row ns.length a2 a3 a4 a5 a6 a7 a8 a9 a10) → (∃ a2 a3 a4 a5 a6 a7 a8 a9 a10, ρ' = row ns.length a2 a3 a4 a5 a6 a7 a8 a9 a10) ∧ GI (3000 * l.length + 10) g' := fun h1 h2 h3 => ⟨h3, h1.mono (by omega)⟩
    have hm3 : 3000 ≤ m := by omega
    clear hm
    walk_at "k"
    with_reducible refine law_book16 hG (by omega) fun (b : List Pl) g2 hb _ hG2 => ?_
    walk_at "k"
    have b1 := hb.l1
    have b2 := hb.l2
    with_reducible refine law_pick_drawn hb hG2 (by omega) fun t g3 ht hG3 => ?_
    have htl := ht.len
    walk_at "k"
    with_reducible refine law_bad_pick hb ht hG3 (by omega) fun x1 g4 hx1 _ hG4 => ?_
    walk_at "k"
    with_reducible refine law_bad_pick hb ht hG4 (by omega) fun x2 g5 hx2 _ hG5 => ?_
    walk_at "k"
    with_reducible refine law_oddP hG5 (by omega) fun x3 g6 hx3 hG6 => ?_
    walk_at "k"
    with_reducible refine law_rising (by omega) ht.nd ?_
    walk_at "k"
    with_reducible refine w_for (fun l' ρ g' => ∃ (ys : List Int) (L : List D) (x5 x6 x7 : Vr), l' = ys.map D.int ∧ (∀ y ∈ ys, y ∈ t.map (·.1)) ∧ (∀ x ∈ L, PkV x) ∧ ys.length ≤ 2 ∧ L.length + ys.length ≤ 10 ∧ GI (m - 700 + 3 * ys.length) g' ∧
      ρ = row ns.length (some (false, d0)) (some (false, bk b)) (some (true, .lst L)) x5 x6 x7 a8 a9 (some (false, pk t))) ?_ ?_ ?_
    · walk_at "k"
      with_reducible refine op_some (list_pk (by omega)) ?_
      walk_at "k"
      with_reducible refine mixed (α := Int) (.inl rfl) (by decide) (by rw [List.length_map]; omega) hG6 (by rw [List.length_map]; omega) fun ys g7 hy hG7 => ?_
      rw [List.length_map] at hG7
      walk_at "k"
      rw [show (some (2 : Int)) = some ((2 : Nat) : Int) from rfl, cut_take, ← List.map_take]
      refine ⟨ys.take 2, _, _, _, _, rfl, fun y h => hy.mem_iff.mp (List.mem_of_mem_take h), ?_, ?_, ?_, hG7.mono ?_, rfl⟩
      · intro x hx
        simp only [List.mem_cons, List.not_mem_nil, or_false] at hx
        rcases hx with rfl | rfl | rfl | rfl | rfl | rfl
        · exact pkv_dct (pk_ok (by omega) ht.nd)
        · exact pkv_dct pkok_nil
        · exact hx1
        · exact hx2
        · exact hx3
        · exact pkv_dct (pk_ok (by unfold risen; rw [List.length_map, (sortI_perm _).length_eq, List.length_map]; omega) (by rw [risen_keys]; exact (sortI_perm _).nodup_iff.mpr ht.nd))
      · rw [List.length_take]; omega
      · rw [List.length_take]; show 6 + _ ≤ 10; omega
      · rw [List.length_take]; omega
    · rintro d1 l' ρ g' ⟨ys, L, x5, x6, x7, e0, hy, hL, h2, hl, hG', rfl⟩
      cases ys with
      | nil => cases e0
      | cons y ys =>
      obtain ⟨rfl, rfl⟩ := List.cons.inj e0
      have hy0 := hy y List.mem_cons_self
      obtain ⟨e, he, ey⟩ := List.mem_map.mp hy0
      have ry := ht.key e he
      rw [ey] at ry
      rw [List.length_cons] at h2 hl hG'
      refine ⟨_, rfl, ?_⟩
      walk_at "k"
      refine w_lcT (fun x => D.tup [.int x, pr (valAt t x)]) (fun x hx => ⟨_, rfl, ?_⟩) ?_
      · walk_at "k"
        exact ⟨rfl, rfl⟩
      rw [pairs_told ht.nd]
      walk_at "k"
      with_reducible refine op_some (dict_pk (by omega) ht.nd) ?_
      walk_at "k"
      with_reducible refine w_setU (by with_unfolding_all exact rfl) ?_
      rw [show bk b = .tup (b.map pl) from rfl]
      walk_at "k"
      generalize hq : b.getD y.toNat [] = q
      have hqp : PlanM 8 q := hq ▸ hb.at _
      have hq8 := hqp.l8
      rw [show pl q = .tup (q.map pr) from rfl]
      walk_at "k"
      with_reducible refine draw hG' (by omega) (by decide) (by decide) fun r1 g7 _ hG7 => ?_
      walk_at "k"
      with_reducible refine draw hG7 (by omega) (by decide) (by decide) fun r2 g8 _ hG8 => ?_
      walk_at "k"
      rw [show q.map pr ++ [D.tup [.int r1, .int r2]] = (q ++ [((r1 : Int), (r2 : Int))]).map pr by rw [List.map_append]; rfl]
      walk_at "k"
      with_reducible refine pickE hG8 (by omega) (by simp) (by rw [List.length_append, List.length_singleton]; omega) fun p g9 _ hG9 => ?_
      walk_at "k"
      with_reducible refine op_some (put_old hy0 p (by omega)) ?_
      walk_at "k"
      refine ⟨ys, _, _, _, _, rfl, fun y h => hy y (List.mem_cons_of_mem _ h), fun x hx => ?_, by omega, ?_, hG9.mono (by omega), rfl⟩
      · rcases List.mem_append.mp hx with hx | hx
        · exact hL x hx
        · rw [List.mem_singleton.mp hx]
          exact pkv_dct (pk_ok (t := setAt t y p) (by unfold setAt; rw [List.length_map]; omega) (by rw [setAt_keys]; exact ht.nd))
      · rw [List.length_append, List.length_singleton]
        omega
    · rintro ρ g' ⟨ys, L, x5, x6, x7, e0, hy, hL, h2, hl, hG', rfl⟩
      walk_at "k"
      with_reducible refine w_for (fun l' ρ g' => ∃ (x5 x6 x7 x8 x9 : Vr), (∀ x ∈ l', PkV x) ∧ GI (m - 700) g' ∧
        ρ = row ns.length (some (false, d0)) (some (false, bk b)) (some (false, .lst L)) x5 x6 x7 x8 x9 (some (false, pk t))) ?_ ?_ ?_
      · walk_at "k"
        exact ⟨_, _, _, _, _, hL, hG'.mono (by omega), rfl⟩
      · rintro d l' ρ g' ⟨x5, x6, x7, x8, x9, hd, hg, rfl⟩
        refine ⟨_, rfl, ?_⟩
        walk_at "k"
        with_reducible refine law_is_pick hb (hd d List.mem_cons_self) ?_
        walk_at "k"
        with_reducible refine is_pick hb (hd d List.mem_cons_self) ?_
        walk_at "k"
        refine is_pick hb (hd d List.mem_cons_self) ?_
        walk_at "k"
        refine w_repr rfl (okrB _) ?_
        walk_at "k"
        refine w_repr rfl (okrB _) ?_
        walk_at "k"
        refine w_neSelf ?_
        walk_at "k"
        exact ⟨_, _, _, _, _, fun d' hd' => hd d' (List.mem_cons_of_mem _ hd'), hg, rfl⟩
      · rintro ρ g' ⟨x5, x6, x7, x8, x9, hd, hg, rfl⟩
        walk_at "k"
        with_reducible refine law_bad_book hg (by omega) fun y g9 hy hG9 => ?_
        walk_at "k"
        refine w_caught ?_
        walk_at "k"
        refine is_pick_bad hy ⟨m_bk, ?_⟩
        walk_at "k"
        refine op_some isi_bk ?_
        walk_at "k"
        exact fin (c := 1300) (hG9.mono (by omega)) (by omega) ⟨_, _, _, _, _, _, _, _, _, rfl⟩
  · rintro ρ g ⟨⟨a2, a3, a4, a5, a6, a7, a8, a9, a10, rfl⟩, hG⟩
    walk_at "w"
theorem pure_law : ∀ ns : List Int, ns.length ≤ 63 → ∃ g', t_law (startLaw 11 ns.length) (g0 ns) = .ok (.ret (.bl true)) g' := fun ns hns => by
  obtain ⟨fl, g', e, h⟩ := R.of_all (law_runs hns)
  cases fl with
  | ret d => exact ⟨g', by rw [e, show d = .bl true from h]⟩
  | nx => exact h.elim
  | ct => exact h.elim
  | bk => exact h.elim
end K10
open PySem PySem.W PyProof.Rows in
set_option maxRecDepth 100000 in
set_option maxHeartbeats 0 in
theorem PySem.Challenge.cw_pairpicks_k10_picks_judged_holds : PySem.Challenge.rw_pairpicks_k10_picks_judged.Holds := by
  w_on; o_law; k_head; (case hw => w_witness2)
  k_fill
  first
    | refine DL.walk_end (n := 63) (l := PySem.Challenge.rw_pairpicks_k10_picks_judged) rfl (by decide) rfl (by first | rfl | decide | kernel_rfl) (fun w h Y => PySem.W.kIn_of Y) ?F
    | refine DL.walk_end (n := 63) (l := PySem.Challenge.rw_pairpicks_k10_picks_judged) rfl (by decide) rfl (by first | rfl | decide | kernel_rfl) (fun w h Y => PySem.W.km_in_of Y) ?F
  case F =>
    intro w mg fa h Y KX G hmg own
    refine' K10.law_all (l := PySem.Challenge.rw_pairpicks_k10_picks_judged) rfl K10.pure_law KX G hmg (own "law" (by rfl)) ?a_is_between ?l_is_between ?c_is_between ?k_is_between ?a_is_pair ?l_is_pair ?c_is_pair ?k_is_pair ?a_are_apart ?l_are_apart ?c_are_apart ?k_are_apart ?a_plans_right ?l_plans_right ?c_plans_right ?k_plans_right ?a_books_right ?l_books_right ?c_books_right ?k_books_right ?a_need_book ?l_need_book ?c_need_book ?k_need_book ?a_picks_right ?l_picks_right ?c_picks_right ?k_picks_right ?a_is_pick ?l_is_pick ?c_is_pick ?k_is_pick ?a__law_begun ?l__law_begun ?c__law_begun ?k__law_begun ?a__law_draw ?l__law_draw ?c__law_draw ?k__law_draw ?a__law_pick ?l__law_pick ?c__law_pick ?k__law_pick ?a__law_mixed ?l__law_mixed ?c__law_mixed ?k__law_mixed ?a__law_caught ?l__law_caught ?c__law_caught ?k__law_caught ?a__law_is_whole ?l__law_is_whole ?c__law_is_whole ?k__law_is_whole ?a__law_odd ?l__law_odd ?c__law_odd ?k__law_odd ?a__law_is_below ?l__law_is_below ?c__law_is_below ?k__law_is_below ?a__law_is_pair ?l__law_is_pair ?c__law_is_pair ?k__law_is_pair ?a__law_are_apart ?l__law_are_apart ?c__law_are_apart ?k__law_are_apart ?a__law_is_plan ?l__law_is_plan ?c__law_is_plan ?k__law_is_plan ?a__law_is_book ?l__law_is_book ?c__law_is_book ?k__law_is_book ?a__law_plan ?l__law_plan ?c__law_plan ?k__law_plan ?a__law_any_plan ?l__law_any_plan ?c__law_any_plan ?k__law_any_plan ?a__law_near_plan ?l__law_near_plan ?c__law_near_plan ?k__law_near_plan ?a__law_book ?l__law_book ?c__law_book ?k__law_book ?a__law_pick_drawn ?l__law_pick_drawn ?c__law_pick_drawn ?k__law_pick_drawn ?a__law_rising_pick ?l__law_rising_pick ?c__law_rising_pick ?k__law_rising_pick ?a__law_is_pick ?l__law_is_pick ?c__law_is_pick ?k__law_is_pick ?a__law_bool_pair ?l__law_bool_pair ?c__law_bool_pair ?k__law_bool_pair ?a__law_bad_plan ?l__law_bad_plan ?c__law_bad_plan ?k__law_bad_plan ?a__law_bad_book ?l__law_bad_book ?c__law_bad_book ?k__law_bad_book ?a__law_bad_pick ?l__law_bad_pick ?c__law_bad_pick ?k__law_bad_pick ?a_law ?l_law ?c_law ?k_law ?l_code ?u_code ?h_code ?p_code ?g_BadBook ?x_BadBook ?kp_BadBook ?ty_BadBook ?e1_BadBook ?e2_BadBook ?e3_BadBook ?e4_BadBook ?e5_BadBook ?e6_BadBook ?g_PickError ?x_PickError ?kp_PickError ?ty_PickError ?e1_PickError ?e2_PickError ?e3_PickError ?e4_PickError ?e5_PickError ?e6_PickError ?e7 ?e8 ?i_MOST_NUMBER ?i_MOST_PLANS ?z_abs ?z_all ?z_bool ?z_dict ?z_enumerate ?z_int ?z_isinstance ?z_len ?z_list ?z_min ?z_range ?z_repr ?z_set ?z_sorted ?z_tuple ?z_zip ?y_NoneType_BadBook ?y_bool_BadBook ?y_int_BadBook ?y_str_BadBook ?y_tuple_BadBook ?y_list_BadBook ?y_dict_BadBook ?q_BadBook
    (case a_is_between => k_is)
    (case l_is_between => k_is)
    (case c_is_between => k_is)
    (case k_is_between => k_is)
    (case a_is_pair => k_is)
    (case l_is_pair => k_is)
    (case c_is_pair => k_is)
    (case k_is_pair => k_is)
    (case a_are_apart => k_is)
    (case l_are_apart => k_is)
    (case c_are_apart => k_is)
    (case k_are_apart => k_is)
    (case a_plans_right => k_is)
    (case l_plans_right => k_is)
    (case c_plans_right => k_is)
    (case k_plans_right => k_is)
    (case a_books_right => k_is)
    (case l_books_right => k_is)
    (case c_books_right => k_is)
    (case k_books_right => k_is)
    (case a_need_book => k_is)
    (case l_need_book => k_is)
    (case c_need_book => k_is)
    (case k_need_book => k_is)
    (case a_picks_right => k_is)
    (case l_picks_right => k_is)
    (case c_picks_right => k_is)
    (case k_picks_right => k_is)
    (case a_is_pick => k_is)
    (case l_is_pick => k_is)
    (case c_is_pick => k_is)
    (case k_is_pick => k_is)
    (case a__law_begun => k_is)
    (case l__law_begun => k_is)
    (case c__law_begun => k_is)
    (case k__law_begun => k_is)
    (case a__law_draw => k_is)
    (case l__law_draw => k_is)
    (case c__law_draw => k_is)
    (case k__law_draw => k_is)
    (case a__law_pick => k_is)
    (case l__law_pick => k_is)
    (case c__law_pick => k_is)
    (case k__law_pick => k_is)
    (case a__law_mixed => k_is)
    (case l__law_mixed => k_is)
    (case c__law_mixed => k_is)
    (case k__law_mixed => k_is)
    (case a__law_caught => k_is)
    (case l__law_caught => k_is)
    (case c__law_caught => k_is)
    (case k__law_caught => k_is)
    (case a__law_is_whole => k_is)
    (case l__law_is_whole => k_is)
    (case c__law_is_whole => k_is)
    (case k__law_is_whole => k_is)
    (case a__law_odd => k_is)
    (case l__law_odd => k_is)
    (case c__law_odd => k_is)
    (case k__law_odd => k_is)
    (case a__law_is_below => k_is)
    (case l__law_is_below => k_is)
    (case c__law_is_below => k_is)
    (case k__law_is_below => k_is)
    (case a__law_is_pair => k_is)
    (case l__law_is_pair => k_is)
    (case c__law_is_pair => k_is)
    (case k__law_is_pair => k_is)
    (case a__law_are_apart => k_is)
    (case l__law_are_apart => k_is)
    (case c__law_are_apart => k_is)
    (case k__law_are_apart => k_is)
    (case a__law_is_plan => k_is)
    (case l__law_is_plan => k_is)
    (case c__law_is_plan => k_is)
    (case k__law_is_plan => k_is)
    (case a__law_is_book => k_is)
    (case l__law_is_book => k_is)
    (case c__law_is_book => k_is)
    (case k__law_is_book => k_is)
    (case a__law_plan => k_is)
    (case l__law_plan => k_is)
    (case c__law_plan => k_is)
    (case k__law_plan => k_is)
    (case a__law_any_plan => k_is)
    (case l__law_any_plan => k_is)
    (case c__law_any_plan => k_is)
    (case k__law_any_plan => k_is)
    (case a__law_near_plan => k_is)
    (case l__law_near_plan => k_is)
    (case c__law_near_plan => k_is)
    (case k__law_near_plan => k_is)
    (case a__law_book => k_is)
    (case l__law_book => k_is)
    (case c__law_book => k_is)
    (case k__law_book => k_is)
    (case a__law_pick_drawn => k_is)
    (case l__law_pick_drawn => k_is)
    (case c__law_pick_drawn => k_is)
    (case k__law_pick_drawn => k_is)
    (case a__law_rising_pick => k_is)
    (case l__law_rising_pick => k_is)
    (case c__law_rising_pick => k_is)
    (case k__law_rising_pick => k_is)
    (case a__law_is_pick => k_is)
    (case l__law_is_pick => k_is)
    (case c__law_is_pick => k_is)
    (case k__law_is_pick => k_is)
    (case a__law_bool_pair => k_is)
    (case l__law_bool_pair => k_is)
    (case c__law_bool_pair => k_is)
    (case k__law_bool_pair => k_is)
    (case a__law_bad_plan => k_is)
    (case l__law_bad_plan => k_is)
    (case c__law_bad_plan => k_is)
    (case k__law_bad_plan => k_is)
    (case a__law_bad_book => k_is)
    (case l__law_bad_book => k_is)
    (case c__law_bad_book => k_is)
    (case k__law_bad_book => k_is)
    (case a__law_bad_pick => k_is)
    (case l__law_bad_pick => k_is)
    (case c__law_bad_pick => k_is)
    (case k__law_bad_pick => k_is)
    (case a_law => k_is)
    (case l_law => k_is)
    (case c_law => k_is)
    (case k_law => k_is)
    (case l_code => k_is)
    (case u_code => first | rfl | k_is)
    (case h_code => first | exact rfl | kernel_rfl)
    (case p_code => first | rfl | k_is)
    (case g_BadBook => k_is)
    (case x_BadBook => first | k_is | k_exc)
    (case kp_BadBook => k_is)
    (case ty_BadBook => k_is)
    (case e1_BadBook => k_is)
    (case e2_BadBook => k_is)
    (case e3_BadBook => k_is)
    (case e4_BadBook => k_is)
    (case e5_BadBook => k_is)
    (case e6_BadBook => k_is)
    (case g_PickError => k_is)
    (case x_PickError => first | k_is | k_exc)
    (case kp_PickError => k_is)
    (case ty_PickError => k_is)
    (case e1_PickError => k_is)
    (case e2_PickError => k_is)
    (case e3_PickError => k_is)
    (case e4_PickError => k_is)
    (case e5_PickError => k_is)
    (case e6_PickError => k_is)
    (case e7 => k_is)
    (case e8 => k_is)
    (case i_MOST_NUMBER => k_is)
    (case i_MOST_PLANS => k_is)
    (case z_abs => k_is)
    (case z_all => k_is)
    (case z_bool => k_is)
    (case z_dict => k_is)
    (case z_enumerate => k_is)
    (case z_int => k_is)
    (case z_isinstance => k_is)
    (case z_len => k_is)
    (case z_list => k_is)
    (case z_min => k_is)
    (case z_range => k_is)
    (case z_repr => k_is)
    (case z_set => k_is)
    (case z_sorted => k_is)
    (case z_tuple => k_is)
    (case z_zip => k_is)
    (case y_NoneType_BadBook => k_is)
    (case y_bool_BadBook => k_is)
    (case y_int_BadBook => k_is)
    (case y_str_BadBook => k_is)
    (case y_tuple_BadBook => k_is)
    (case y_list_BadBook => k_is)
    (case y_dict_BadBook => k_is)
    (case q_BadBook => k_is)
