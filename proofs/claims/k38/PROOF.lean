import PyProof.Rows.All
import Wide.All
import OpenK.AllK
import Wide.FinOn
import HandS.ForMost
import HandS.Exc
import HandS.TryOnly
import HandS.ExcOwn
import HandS.Lambda
import HandS.TupAny
import HandS.IsInst
import HandS.SortInts
import HandS.SortKw
import HandS.Wide
import KE.SortData
import KE.Datum
import KE.KDictKeyed
import KE.KDictWalk
import PyProof.ReprRoads
import HandS.EndTab
import HandS.TupMul
import PyProof.TupleOfSeq
import PyProof.Transfer
import HandS.ExcValue
import HandS.ExcIs
import HandS.TupLe
import HandS.Style
import PyProof.ReprLen
import HandS.Words
import HandS.EndOwn
import KE.KNestM
import PySem.Challenge.RW_pairpicks_k38_sizes_that_make_sure
set_option Elab.async false
set_option linter.all false
set_option maxRecDepth 100000
set_option maxHeartbeats 2000000
/-! The value layer, part 1: values without a heap (D), results (R), the draw state (G), what a value of the heap reads as (Rep). -/
namespace DL
open PySem PySem.Spec PyProof.Rows L2

/-- values as pure data -/
inductive D where
  | non | bl (b : Bool) | int (i : Int) | str (s : Str)
  | tup (l : List D) | lst (l : List D) | dct (l : List (D × D)) | set (l : List D)
  | st | scr (n : Nat) | ty (n : String) | fn (f : Str) | exc (c : Str) (f : Str) (l : List D)

/-- the state of the draws -/
structure G where
  large : List Int
  cells : List Int
  left : Int
  turn : Int

inductive R (α : Type) where
  | stuck
  | ok (a : α) (g : G)
  | exc (c : Str) (f : Str) (l : List D) (g : G)

abbrev M (α : Type) := G → R α
def R.bind {α β : Type} (r : R α) (k : α → M β) : R β :=
  match r with
  | .stuck => .stuck
  | .ok a g => k a g
  | .exc c f l g => .exc c f l g
@[reducible] def M.pure {α : Type} (a : α) : M α := fun g => .ok a g
@[reducible] def M.bind {α β : Type} (m : M α) (k : α → M β) : M β := fun g => (m g).bind k
instance : Monad M where
  pure := M.pure
  bind := M.bind
def stuck {α : Type} : M α := fun _ => .stuck
def ofOpt {α : Type} : Option α → M α
  | some a => M.pure a
  | none => stuck

/-- where the draw state stands: its dict, the list of large numbers, the list of cells -/
structure Zt where
  p : Addr
  l : Addr
  c : Addr
  T : List (Addr × Str)
def stK (z : Zt) (g : G) : List (Key × V) := [(.inr "large", .ref z.l), (.inr "cells", .ref z.c), (.inr "left", .int g.left), (.inr "turn", .int g.turn)]
structure GOk (z : Zt) (H : Hp) (g : G) : Prop where
  p : H z.p = some (.dK (stK z g))
  l : H z.l = some (.lst (g.large.map V.int))
  c : H z.c = some (.lst (g.cells.map V.int))
  ne : z.l ≠ z.c
  tb : LamX.Tabs z.T H
theorem GOk.pl {z : Zt} {H : Hp} {g : G} (h : GOk z H g) : z.p ≠ z.l := ne_of h.p h.l (by intro q; cases q)
theorem GOk.pc {z : Zt} {H : Hp} {g : G} (h : GOk z H g) : z.p ≠ z.c := ne_of h.p h.c (by intro q; cases q)
theorem GOk.same {z : Zt} {H H' : Hp} {g : G} (h : GOk z H g) (s : Same H H') : GOk z H' g := ⟨s _ _ h.p, s _ _ h.l, s _ _ h.c, h.ne, h.tb.ext s⟩

/-- no table of code objects -/
def NT : HO → Prop
  | .tbl _ => False
  | _ => True
/-- something stands at b, and no table of code objects -/
def Oc (H : Hp) (b : Addr) : Prop := ∃ u, H b = some u ∧ NT u
theorem oc_none {H : Hp} {b : Addr} (h : H b = none) : ¬ Oc H b := fun ⟨u, e, _⟩ => by rw [h] at e; cases e
theorem Oc.ne {H : Hp} {a b : Addr} (h : Oc H b) (n : ¬ Oc H a) : b ≠ a := fun e => n (e ▸ h)
/-- all but the draw state's own objects and the tables of code objects stands -/
structure Ext (z : Zt) (H H' : Hp) : Prop where
  to : ∀ b u, H b = some u → NT u → b ≠ z.p → b ≠ z.l → H' b = some u
theorem Ext.of {z : Zt} {H H' : Hp} (s : Same H H') : Ext z H H' := ⟨fun b u e _ _ _ => s b u e⟩
theorem Ext.refl {z : Zt} {H : Hp} : Ext z H H := ⟨fun _ _ e _ _ _ => e⟩
theorem Ext.trans {z : Zt} {H H1 H2 : Hp} (a : Ext z H H1) (b : Ext z H1 H2) : Ext z H H2 :=
  ⟨fun c u e n h1 h2 => b.to c u (a.to c u e n h1 h2) n h1 h2⟩
/-- what stood stands -/
theorem Ext.there {z : Zt} {H H' : Hp} {b : Addr} (e : Ext z H H') (h : Oc H b) (h1 : b ≠ z.p) (h2 : b ≠ z.l) : Oc H' b := by
  obtain ⟨u, q, n⟩ := h
  exact ⟨u, e.to b u q n h1 h2, n⟩
theorem Ext.none {z : Zt} {H H' : Hp} {b : Addr} (e : Ext z H H') (h : ¬ Oc H' b) (h1 : b ≠ z.p) (h2 : b ≠ z.l) : ¬ Oc H b := fun o => h (e.there o h1 h2)
theorem GOk.op {z : Zt} {H : Hp} {g : G} (h : GOk z H g) : Oc H z.p := ⟨_, h.p, trivial⟩
theorem GOk.ol {z : Zt} {H : Hp} {g : G} (h : GOk z H g) : Oc H z.l := ⟨_, h.l, trivial⟩
theorem GOk.oc {z : Zt} {H : Hp} {g : G} (h : GOk z H g) : Oc H z.c := ⟨_, h.c, trivial⟩
theorem Same.refl {H : Hp} : Same H H := fun _ _ e => e

/-- an exception object at a -/
def ExV (cls : Value) (d : Option Addr) (a : Addr) : HO := .ext fun h => ∃ (oe : Obj) (vs : Array Value), h.get? a = some oe ∧ Zc cls d oe ∧ oe.data = .fields vs
/-- the very object o at a -/
def ObV (a : Addr) (o : Obj) : HO := .ext fun h => h.get? a = some o

/-- what is read of a dict's entries: keys, values -/
def EnK (ks vs : List V) (es : Array DictEntry) : Prop := Vals ks (es.toList.map (·.key)) ∧ Vals vs (es.toList.map (·.val))

mutual
/-- the value v reads as d in H; no list, dict or set of it stands at one of the addresses Mu (those may change) -/
inductive Rep (K : PySem.W.Frag) (mg : Str → Option Value) (z : Zt) (Mu : List Addr) (H : Hp) : V → D → Prop
  | non : Rep K mg z Mu H .non .non
  | bl (b) : Rep K mg z Mu H (.bl b) (.bl b)
  | int (i) : Rep K mg z Mu H (.int i) (.int i)
  | str (s) : Rep K mg z Mu H (.str s) (.str s)
  | tup {a xs ds} : a ∉ Mu → H a = some (.tup xs) → Reps K mg z Mu H xs ds → Rep K mg z Mu H (.ref a) (.tup ds)
  | lst {a xs ds} : a ∉ Mu → H a = some (.lst xs) → Reps K mg z Mu H xs ds → Rep K mg z Mu H (.ref a) (.lst ds)
  | dct {a o es ep ks vs kvs} : a ∉ Mu → H a = some (ObV a o) → (a == sysModules) = false → o.ExactDict → o.data = .dict es ep → es.size ≤ sizeLine → EnK ks vs es → Reps K mg z Mu H ks (kvs.map (·.1)) → Reps K mg z Mu H vs (kvs.map (·.2)) → Rep K mg z Mu H (.ref a) (.dct kvs)
  | st : Rep K mg z Mu H (.ref z.p) .st
  | ty (n) : Rep K mg z Mu H (.ty n) (.ty n)
  | scrR {a xs} : a ∉ Mu → Rd H a (.lst xs) → Rep K mg z Mu H (.ref a) (.scr xs.length)
  | scrK {a xs o its n} : K.lookup a = some o → o.cls = .type "list" → o.dict = none → o.data = .seq its n → its.size ≤ sizeLine → Vals xs its.toList → Rep K mg z Mu H (.ref a) (.scr xs.length)
  | fn {x f} : mg x = some (.ref f) → Rep K mg z Mu H (.ref f) (.fn x)
  | exc0 {a c C} : a ∉ Mu → mg c = some (.ref C) → H a = some (ExV (.ref C) none a) → Rep K mg z Mu H (.ref a) (.exc c Str.empty [])
  | exc1 {a dx c C f v d} : a ∉ Mu → dx ∉ Mu → mg c = some (.ref C) → H a = some (ExV (.ref C) (some dx) a) → H dx = some (.xd [(f, v)]) → Rep K mg z Mu H v d → Rep K mg z Mu H (.ref a) (.exc c f [d])
inductive Reps (K : PySem.W.Frag) (mg : Str → Option Value) (z : Zt) (Mu : List Addr) (H : Hp) : List V → List D → Prop
  | nil : Reps K mg z Mu H [] []
  | cons {v d vs ds} : Rep K mg z Mu H v d → Reps K mg z Mu H vs ds → Reps K mg z Mu H (v :: vs) (d :: ds)
end

section
variable {K : PySem.W.Frag} {mg : Str → Option Value} {z : Zt} {Mu Mu' : List Addr} {H H' : Hp} {v : V} {d : D} {vs ws : List V} {ds es : List D}
theorem Reps.length : ∀ {vs : List V} {ds : List D}, Reps K mg z Mu H vs ds → vs.length = ds.length
  | _, _, .nil => rfl
  | _, _, .cons _ r => by rw [List.length_cons, List.length_cons, r.length]
theorem Reps.append : ∀ {vs ws : List V} {ds es : List D}, Reps K mg z Mu H vs ds → Reps K mg z Mu H ws es → Reps K mg z Mu H (vs ++ ws) (ds ++ es)
  | _, _, _, _, .nil, s => s
  | _, _, _, _, .cons r t, s => .cons r (t.append s)
theorem Reps.get : ∀ {vs : List V} {ds : List D} {i : Nat} {v : V}, Reps K mg z Mu H vs ds → vs[i]? = some v → ∃ d, ds[i]? = some d ∧ Rep K mg z Mu H v d
  | _, _, _, _, .nil, e => by simp at e
  | _, _, 0, _, .cons r _, e => ⟨_, rfl, by simpa using (Option.some.inj e) ▸ r⟩
  | _, _, i + 1, _, .cons _ t, e => t.get (i := i) (by simpa using e)
theorem Reps.get' : ∀ {vs : List V} {ds : List D} {i : Nat} {d : D}, Reps K mg z Mu H vs ds → ds[i]? = some d → ∃ v, vs[i]? = some v ∧ Rep K mg z Mu H v d
  | _, _, _, _, .nil, e => by simp at e
  | _, _, 0, _, .cons r _, e => ⟨_, rfl, by simpa using (Option.some.inj e) ▸ r⟩
  | _, _, i + 1, _, .cons _ t, e => t.get' (i := i) (by simpa using e)
theorem Reps.take : ∀ {vs : List V} {ds : List D} (n : Nat), Reps K mg z Mu H vs ds → Reps K mg z Mu H (vs.take n) (ds.take n)
  | _, _, 0, _ => .nil
  | _, _, _ + 1, .nil => .nil
  | _, _, n + 1, .cons r t => .cons r (t.take n)
theorem Reps.drop : ∀ {vs : List V} {ds : List D} (n : Nat), Reps K mg z Mu H vs ds → Reps K mg z Mu H (vs.drop n) (ds.drop n)
  | _, _, 0, r => r
  | _, _, _ + 1, .nil => .nil
  | _, _, n + 1, .cons _ t => t.drop n
theorem Reps.set {x : V} {y : D} (r : Rep K mg z Mu H x y) : ∀ {vs : List V} {ds : List D} (i : Nat), Reps K mg z Mu H vs ds → Reps K mg z Mu H (vs.set i x) (ds.set i y)
  | _, _, _, .nil => .nil
  | _, _, 0, .cons _ t => .cons r t
  | _, _, i + 1, .cons q t => .cons q (Reps.set r i t)
theorem Reps.one (r : Rep K mg z Mu H v d) : Reps K mg z Mu H [v] [d] := .cons r .nil
theorem Reps.reverse : ∀ {vs : List V} {ds : List D}, Reps K mg z Mu H vs ds → Reps K mg z Mu H vs.reverse ds.reverse
  | _, _, .nil => .nil
  | _, _, .cons r t => by rw [List.reverse_cons, List.reverse_cons]; exact t.reverse.append (.one r)
theorem Reps.ints : ∀ ns : List Int, Reps K mg z Mu H (ns.map V.int) (ns.map D.int)
  | [] => .nil
  | n :: ns => .cons (.int n) (Reps.ints ns)

/-- all but what stands at the addresses Mu stands -/
def ExtM (Mu : List Addr) (H H' : Hp) : Prop := ∀ b u, H b = some u → NT u → b ∉ Mu → H' b = some u
theorem Ext.m (e : Ext z H H') (zp : z.p ∈ Mu) (zl : z.l ∈ Mu) : ExtM Mu H H' := fun b u q t n => e.to b u q t (fun w => n (w ▸ zp)) (fun w => n (w ▸ zl))
mutual
/-- what reads on: all stands but at Mu; fewer addresses are barred, or further ones at which nothing stood -/
theorem Rep.mono (e : ExtM Mu H H') (m : ∀ b, Oc H b → b ∉ Mu → b ∉ Mu') : ∀ {v : V} {d : D}, Rep K mg z Mu H v d → Rep K mg z Mu' H' v d
  | _, _, .non => .non
  | _, _, .bl b => .bl b
  | _, _, .int i => .int i
  | _, _, .str s => .str s
  | _, _, .tup n h r => .tup (m _ ⟨_, h, trivial⟩ n) (e _ _ h trivial n) (Reps.mono e m r)
  | _, _, .lst n h r => .lst (m _ ⟨_, h, trivial⟩ n) (e _ _ h trivial n) (Reps.mono e m r)
  | _, _, .dct n h h1 h2 h3 h4 h5 r1 r2 => .dct (m _ ⟨_, h, trivial⟩ n) (e _ _ h trivial n) h1 h2 h3 h4 h5 (Reps.mono e m r1) (Reps.mono e m r2)
  | _, _, .st => .st
  | _, _, .ty n => .ty n
  | _, _, .scrR n h => .scrR (m _ (h.elim (fun h => ⟨_, h, trivial⟩) fun ⟨_, h⟩ => ⟨_, h, trivial⟩) n) (h.elim (fun h => .inl (e _ _ h trivial n)) fun ⟨o, h⟩ => .inr ⟨o, e _ _ h trivial n⟩)
  | _, _, .scrK h1 h2 h3 h4 h5 h6 => .scrK h1 h2 h3 h4 h5 h6
  | _, _, .fn h => .fn h
  | _, _, .exc0 n h q => .exc0 (m _ ⟨_, q, trivial⟩ n) h (e _ _ q trivial n)
  | _, _, .exc1 n n2 h q q2 r => .exc1 (m _ ⟨_, q, trivial⟩ n) (m _ ⟨_, q2, trivial⟩ n2) h (e _ _ q trivial n) (e _ _ q2 trivial n2) (Rep.mono e m r)
theorem Reps.mono (e : ExtM Mu H H') (m : ∀ b, Oc H b → b ∉ Mu → b ∉ Mu') : ∀ {vs : List V} {ds : List D}, Reps K mg z Mu H vs ds → Reps K mg z Mu' H' vs ds
  | _, _, .nil => .nil
  | _, _, .cons r t => .cons (Rep.mono e m r) (Reps.mono e m t)
end

/-- the barred addresses: the draw state's are among them, something stands at each -/
structure MuOk (z : Zt) (Mu : List Addr) (H : Hp) : Prop where
  p : z.p ∈ Mu
  l : z.l ∈ Mu
  c : z.c ∈ Mu
  at_ : ∀ b ∈ Mu, Oc H b
theorem MuOk.ext {g g' : G} (m : MuOk z Mu H) (e : Ext z H H') (G' : GOk z H' g') : MuOk z Mu H' := by
  refine ⟨m.p, m.l, m.c, fun b hb => ?_⟩
  by_cases h1 : b = z.p
  · rw [h1]; exact G'.op
  by_cases h2 : b = z.l
  · rw [h2]; exact G'.ol
  exact e.there (m.at_ b hb) h1 h2
theorem Rep.ext {g : G} (r : Rep K mg z Mu H v d) (m : MuOk z Mu H) (G1 : GOk z H g) (e : Ext z H H') : Rep K mg z Mu H' v d := Rep.mono (e.m m.p m.l) (fun _ _ h => h) r
theorem Reps.ext {g : G} (r : Reps K mg z Mu H vs ds) (m : MuOk z Mu H) (G1 : GOk z H g) (e : Ext z H H') : Reps K mg z Mu H' vs ds := Reps.mono (e.m m.p m.l) (fun _ _ h => h) r
theorem Rep.less {g : G} (r : Rep K mg z Mu H v d) (m : MuOk z Mu H) (G1 : GOk z H g) (h : ∀ b ∈ Mu', b ∈ Mu) : Rep K mg z Mu' H v d := Rep.mono (fun _ _ e _ _ => e) (fun b _ n q => n (h b q)) r
theorem Reps.less {g : G} (r : Reps K mg z Mu H vs ds) (m : MuOk z Mu H) (G1 : GOk z H g) (h : ∀ b ∈ Mu', b ∈ Mu) : Reps K mg z Mu' H vs ds := Reps.mono (fun _ _ e _ _ => e) (fun b _ n q => n (h b q)) r
theorem Rep.more {g : G} {a : Addr} (r : Rep K mg z Mu H v d) (m : MuOk z Mu H) (G1 : GOk z H g) (e : Ext z H H') (n : ¬ Oc H a) : Rep K mg z (a :: Mu) H' v d :=
  Rep.mono (e.m m.p m.l) (fun b q h w => by
    rcases List.mem_cons.mp w with w | w
    · exact q.ne n w
    · exact h w) r
theorem Reps.more {g : G} {a : Addr} (r : Reps K mg z Mu H vs ds) (m : MuOk z Mu H) (G1 : GOk z H g) (e : Ext z H H') (n : ¬ Oc H a) : Reps K mg z (a :: Mu) H' vs ds :=
  Reps.mono (e.m m.p m.l) (fun b q h w => by
    rcases List.mem_cons.mp w with w | w
    · exact q.ne n w
    · exact h w) r

/-- what stands at a: a list, a dict -/
inductive Cont (K : PySem.W.Frag) (mg : Str → Option Value) (z : Zt) (Mu : List Addr) (H : Hp) (a : Addr) : D → Prop
  | lst {xs ds} : H a = some (.lst xs) → Reps K mg z Mu H xs ds → Cont K mg z Mu H a (.lst ds)
  | dct {o es ep ks vs kvs} : H a = some (ObV a o) → (a == sysModules) = false → o.ExactDict → o.data = .dict es ep → es.size ≤ sizeLine → EnK ks vs es → Reps K mg z Mu H ks (kvs.map (·.1)) → Reps K mg z Mu H vs (kvs.map (·.2)) → Cont K mg z Mu H a (.dct kvs)
theorem Cont.rep {a : Addr} (c : Cont K mg z Mu H a d) (n : a ∉ Mu) : Rep K mg z Mu H (.ref a) d := by
  cases c with
  | lst h r => exact .lst n h r
  | dct h h1 h2 h3 h4 h5 r1 r2 => exact .dct n h h1 h2 h3 h4 h5 r1 r2
theorem Cont.there {a : Addr} (c : Cont K mg z Mu H a d) : Oc H a := by
  cases c with
  | lst h r => exact ⟨_, h, trivial⟩
  | dct h h1 h2 h3 h4 h5 r1 r2 => exact ⟨_, h, trivial⟩
theorem Cont.mono {a : Addr} (c : Cont K mg z Mu H a d) (ea : ∀ u, H a = some u → NT u → H' a = some u) (e : ExtM Mu H H') (m : ∀ b, Oc H b → b ∉ Mu → b ∉ Mu') : Cont K mg z Mu' H' a d := by
  cases c with
  | lst h r => exact .lst (ea _ h trivial) (r.mono e m)
  | dct h h1 h2 h3 h4 h5 r1 r2 => exact .dct (ea _ h trivial) h1 h2 h3 h4 h5 (r1.mono e m) (r2.mono e m)

/-- the kinds of results: shared (never changed again), new (a list, dict or set is new and nobody else has it), peeked at (perhaps one's own) -/
inductive Kd where
  | sh | new | peek
def D.box : D → Bool
  | .lst _ => true
  | .dct _ => true
  | .set _ => true
  | _ => false
/-- v, the result of a step from H to H', is d -/
def RK (K : PySem.W.Frag) (mg : Str → Option Value) (z : Zt) (k : Kd) (H : Hp) (Mu : List Addr) (H' : Hp) (v : V) (d : D) : Prop :=
  match k with
  | .sh => Rep K mg z Mu H' v d
  | .new => if d.box = true then ∃ a, v = .ref a ∧ ¬ Oc H a ∧ Cont K mg z (a :: Mu) H' a d else Rep K mg z Mu H' v d
  | .peek => Rep K mg z Mu H' v d ∨ ∃ a, v = .ref a ∧ a ∈ Mu ∧ a ≠ z.p ∧ a ≠ z.l ∧ a ≠ z.c ∧ Cont K mg z Mu H' a d
/-- peeked at: the same, wherever from -/
abbrev PR (K : PySem.W.Frag) (mg : Str → Option Value) (z : Zt) (Mu : List Addr) (H : Hp) (v : V) (d : D) : Prop :=
  Rep K mg z Mu H v d ∨ ∃ a, v = .ref a ∧ a ∈ Mu ∧ a ≠ z.p ∧ a ≠ z.l ∧ a ≠ z.c ∧ Cont K mg z Mu H a d
theorem PR.ext {g : G} (r : PR K mg z Mu H v d) (m : MuOk z Mu H) (G1 : GOk z H g) (e : Ext z H H') : PR K mg z Mu H' v d := by
  rcases r with r | ⟨a, ev, ha, n1, n2, n3, c⟩
  · exact .inl (r.ext m G1 e)
  · exact .inr ⟨a, ev, ha, n1, n2, n3, c.mono (fun u q t => e.to a u q t n1 n2) (e.m m.p m.l) fun _ _ h => h⟩
theorem RK.sh_of_new {H0 : Hp} {g : G} (r : RK K mg z .new H0 Mu H v d) (m0 : MuOk z Mu H0) (m : MuOk z Mu H) (G1 : GOk z H g) : Rep K mg z Mu H v d := by
  have r' : if d.box = true then ∃ a, v = .ref a ∧ ¬ Oc H0 a ∧ Cont K mg z (a :: Mu) H a d else Rep K mg z Mu H v d := r
  by_cases hb : d.box = true
  · rw [if_pos hb] at r'
    obtain ⟨a, rfl, n, c⟩ := r'
    have na : a ∉ Mu := fun w => n (m0.at_ a w)
    have np : a ≠ z.p := fun w => na (w ▸ m.p)
    have nl : a ≠ z.l := fun w => na (w ▸ m.l)
    exact Cont.rep (c.mono (Mu' := Mu) (fun _ e _ => e) (fun _ _ e _ _ => e) fun b _ h w => h (List.mem_cons_of_mem _ w)) na
  · rw [if_neg hb] at r'
    exact r'
theorem RK.peek {k : Kd} {H0 : Hp} {g : G} (r : RK K mg z k H0 Mu H v d) (m0 : MuOk z Mu H0) (m : MuOk z Mu H) (G1 : GOk z H g) : PR K mg z Mu H v d := by
  cases k with
  | sh => exact .inl r
  | peek => exact r
  | new => exact .inl (RK.sh_of_new r m0 m G1)
/-- a shared value that is no list, dict or set is new, too -/
theorem RK.new_of {H0 : Hp} (r : Rep K mg z Mu H v d) (h : d.box = false) : RK K mg z .new H0 Mu H v d := by
  unfold RK
  rw [if_neg (by rw [h]; exact Bool.false_ne_true)]
  exact r
end

/-! ### what a local of a def holds -/
abbrev Sl := Bool × D
abbrev Env := List (Option Sl)
def SlOk (K : PySem.W.Frag) (mg : Str → Option Value) (z : Zt) (Mu : List Addr) (H : Hp) (v : V) (t : Bool) (d : D) : Prop :=
  match t with
  | false => Rep K mg z Mu H v d
  | true => ∃ a, v = .ref a ∧ a ∈ Mu ∧ a ≠ z.p ∧ a ≠ z.l ∧ a ≠ z.c ∧ Cont K mg z Mu H a d
structure EnvOk (K : PySem.W.Frag) (mg : Str → Option Value) (z : Zt) (Mu : List Addr) (H : Hp) (σ : L2.St) (ρ : Env) : Prop where
  len : ρ.length = σ.length
  mu : MuOk z Mu H
  val : ∀ (i : Nat) (t : Bool) (d : D), ρ[i]? = some (some (t, d)) → ∃ v, σ[i]? = some (some v) ∧ SlOk K mg z Mu H v t d
  sep : ∀ (i j : Nat) (d d' : D) (a : Addr), ρ[i]? = some (some (true, d)) → ρ[j]? = some (some (true, d')) → σ[i]? = some (some (.ref a)) → σ[j]? = some (some (.ref a)) → i = j
section
variable {K : PySem.W.Frag} {mg : Str → Option Value} {z : Zt} {Mu Mu' : List Addr} {H H' : Hp} {v : V} {d : D} {σ : L2.St} {ρ : Env}
theorem SlOk.ext {g : G} {t : Bool} (r : SlOk K mg z Mu H v t d) (m : MuOk z Mu H) (G1 : GOk z H g) (e : Ext z H H') : SlOk K mg z Mu H' v t d := by
  cases t with
  | false => exact Rep.ext r m G1 e
  | true =>
    obtain ⟨a, ev, ha, n1, n2, n3, c⟩ := r
    exact ⟨a, ev, ha, n1, n2, n3, c.mono (fun u q t => e.to a u q t n1 n2) (e.m m.p m.l) fun _ _ h => h⟩
theorem EnvOk.ext {g g' : G} (h : EnvOk K mg z Mu H σ ρ) (G1 : GOk z H g) (e : Ext z H H') (G2 : GOk z H' g') : EnvOk K mg z Mu H' σ ρ :=
  ⟨h.len, h.mu.ext (g := g) e G2, fun i t d q => by
    obtain ⟨v, q1, q2⟩ := h.val i t d q
    exact ⟨v, q1, q2.ext h.mu G1 e⟩, h.sep⟩
end
end DL
set_option Elab.async false
set_option linter.all false
set_option maxRecDepth 100000
set_option maxHeartbeats 2000000
/-! The value layer, part 2: what an expression comes to (DE), a test (DT), arguments (DA); names, constants, operators, comparisons, and, or, not, if. -/
namespace DL
open PySem PySem.Spec PyProof.Rows L2

abbrev Ep := Env → M D
abbrev Et := Env → M Bool
abbrev Es := Env → M (List D)

/-- P of a result, E of an exception -/
def R.all {α : Type} (r : R α) (P : α → G → Prop) (E : Str → Str → List D → G → Prop) : Prop :=
  match r with
  | .stuck => False
  | .ok a g => P a g
  | .exc c f l g => E c f l g
theorem R.all_bind {α β : Type} {r : R α} {k : α → M β} {P : β → G → Prop} {E : Str → Str → List D → G → Prop} (h : (r.bind k).all P E) : r.all (fun a g => (k a g).all P E) E := by
  cases r <;> exact h
theorem R.all_imp {α : Type} {r : R α} {P P' : α → G → Prop} {E E' : Str → Str → List D → G → Prop} (h : r.all P E) (hp : ∀ a g, P a g → P' a g) (he : ∀ c f l g, E c f l g → E' c f l g) : r.all P' E' := by
  cases r with
  | stuck => exact h
  | ok a g => exact hp _ _ h
  | exc c f l g => exact he _ _ _ _ h
theorem R.all_eq {α : Type} {r : R α} {P : α → G → Prop} {E : Str → Str → List D → G → Prop} (h : r.all P E) : r.all (fun a g => r = .ok a g ∧ P a g) E := by
  cases r with
  | stuck => exact h
  | ok a g => exact ⟨rfl, h⟩
  | exc c f l g => exact h
theorem R.all_opt {α : Type} {o : Option α} {g : G} {P : α → G → Prop} {E : Str → Str → List D → G → Prop} (h : (ofOpt o g).all P E) : ∃ a, o = some a ∧ P a g := by
  cases o with
  | none => exact h.elim
  | some a => exact ⟨a, rfl, h⟩

/-- the exception of the class c, with its attribute f where it has one -/
def ExcIs (K : PySem.W.Frag) (mg : Str → Option Value) (z : Zt) (Mu : List Addr) (H : Hp) (c f : Str) (l : List D) (cls : Value) (dd : Option Addr) : Prop :=
  ∃ C, mg c = some (.ref C) ∧ cls = .ref C ∧ ((f = Str.empty ∧ l = [] ∧ dd = none) ∨ ∃ dx v d, l = [d] ∧ dd = some dx ∧ dx ∉ Mu ∧ H dx = some (.xd [(f, v)]) ∧ Rep K mg z Mu H v d)
abbrev XW (X : Cx) (z : Zt) (W : WX) (Mu : List Addr) (σ : L2.St) (H : Hp) : Str → Str → List D → G → Prop := fun c f l g' =>
  ∀ cls dd H', Ext z H H' → GOk z H' g' → ExcIs X.K X.mg z Mu H' c f l cls dd → W cls dd σ H'
def tE (X : Cx) (z : Zt) (W : WX) (k : Kd) (f : Ep) : TE := fun σ H Q => ∃ ρ g Mu, EnvOk X.K X.mg z Mu H σ ρ ∧ GOk z H g ∧
  (f ρ g).all (fun d g' => ∀ v H', Ext z H H' → GOk z H' g' → RK X.K X.mg z k H Mu H' v d → Q v H') (XW X z W Mu σ H)
def tT (X : Cx) (z : Zt) (W : WX) (f : Et) : TT := fun σ H Q => ∃ ρ g Mu, EnvOk X.K X.mg z Mu H σ ρ ∧ GOk z H g ∧
  (f ρ g).all (fun b g' => ∀ H', Ext z H H' → GOk z H' g' → Q b H') (XW X z W Mu σ H)
/-- values peeked at, or shared, one by one -/
inductive RKs (K : PySem.W.Frag) (mg : Str → Option Value) (z : Zt) (Mu : List Addr) (H : Hp) : List V → List D → Prop
  | nil : RKs K mg z Mu H [] []
  | cons {v d vs ds} : PR K mg z Mu H v d → RKs K mg z Mu H vs ds → RKs K mg z Mu H (v :: vs) (d :: ds)
def tA (X : Cx) (z : Zt) (W : WX) (f : Es) : TA := fun σ H Q => ∃ ρ g Mu, EnvOk X.K X.mg z Mu H σ ρ ∧ GOk z H g ∧
  (f ρ g).all (fun ds g' => ∀ vs H', Ext z H H' → GOk z H' g' → RKs X.K X.mg z Mu H' vs ds → Q vs H') (XW X z W Mu σ H)
/-- arguments that are shared -/
def tAs (X : Cx) (z : Zt) (W : WX) (f : Es) : TA := fun σ H Q => ∃ ρ g Mu, EnvOk X.K X.mg z Mu H σ ρ ∧ GOk z H g ∧
  (f ρ g).all (fun ds g' => ∀ vs H', Ext z H H' → GOk z H' g' → Reps X.K X.mg z Mu H' vs ds → Q vs H') (XW X z W Mu σ H)

abbrev DE (X : Cx) (z : Zt) (W : WX) (k : Kd) (e : Expr) (f : Ep) : Prop := PE X e (tE X z W k f)
abbrev DT (X : Cx) (z : Zt) (W : WX) (e : Expr) (f : Et) : Prop := PT X e (tT X z W f)
abbrev DA (X : Cx) (z : Zt) (W : WX) (es : List Expr) (f : Es) : Prop := PA X es (tA X z W f)
abbrev DAs (X : Cx) (z : Zt) (W : WX) (es : List Expr) (f : Es) : Prop := PA X es (tAs X z W f)

section
variable {X : Cx} {z : Zt} {W : WX} {k : Kd} {e a b : Expr} {f fa fb : Ep} {pos : Pos} {pins : List (Addr × Obj)} {s : Shared} {σ : L2.St} {H : Hp} {Mu : List Addr} {ρ : Env} {g : G}

theorem XW.step {H1 : Hp} {c n : Str} {l : List D} {g' : G} (h : XW X z W Mu σ H c n l g') (e : Ext z H H1) : XW X z W Mu σ H1 c n l g' := fun cls dd H' e1 g1 x => h cls dd H' (e.trans e1) g1 x
theorem Raising.all {α : Type} {r : R α} {P : α → G → Prop} {H1 : Hp} (h : r.all P (XW X z W Mu σ H)) (e : Ext z H H1) : r.all P (XW X z W Mu σ H1) := R.all_imp h (fun _ _ h => h) fun _ _ _ _ h => XW.step h e

/-- an expression runs to its value -/
theorem de_run {Q : Value → Shared → Prop} (h : DE X z W k e f) (I : Inv X pins σ H s) (E : EnvOk X.K X.mg z Mu H σ ρ) (G1 : GOk z H g)
    (hx : (f ρ g).all (fun d g' => ∀ v u H' s', Inv X pins σ H' s' → RelV v u → Ext z H H' → GOk z H' g' → EnvOk X.K X.mg z Mu H' σ ρ → RK X.K X.mg z k H Mu H' v d → Q u s') (XW X z W Mu σ H)) :
    wpAny (model X.prog X.w) X.A (eval e X.env) Q X.xe s := by
  refine thn (h.run pins s σ H (fun v H' => ∃ d g', f ρ g = .ok d g' ∧ Ext z H H' ∧ GOk z H' g' ∧ RK X.K X.mg z k H Mu H' v d) I ⟨ρ, g, Mu, E, G1, ?_⟩) ?_
  · cases q : f ρ g with
    | stuck => rw [q] at hx; exact hx
    | ok d g' => exact fun v H' e1 g1 r => ⟨d, g', rfl, e1, g1, r⟩
    | exc c n l g' => rw [q] at hx; exact hx
  · rintro u s' ⟨v, H', I', r, d, g', q, e1, g1, rk⟩
    rw [q] at hx
    exact hx v u H' s' I' r e1 g1 (E.ext G1 e1 g1) rk
theorem dt_run {f : Et} {Q : Bool → Shared → Prop} (h : DT X z W e f) (I : Inv X pins σ H s) (E : EnvOk X.K X.mg z Mu H σ ρ) (G1 : GOk z H g)
    (hx : (f ρ g).all (fun b g' => ∀ H' s', Inv X pins σ H' s' → Ext z H H' → GOk z H' g' → EnvOk X.K X.mg z Mu H' σ ρ → Q b s') (XW X z W Mu σ H)) :
    wpAny (model X.prog X.w) X.A (isTrue e X.env (eval e X.env)) Q X.xe s := by
  refine thn (h.run pins s σ H (fun b H' => ∃ g', f ρ g = .ok b g' ∧ Ext z H H' ∧ GOk z H' g') I ⟨ρ, g, Mu, E, G1, ?_⟩) ?_
  · cases q : f ρ g with
    | stuck => rw [q] at hx; exact hx
    | ok d g' => exact fun H' e1 g1 => ⟨g', rfl, e1, g1⟩
    | exc c n l g' => rw [q] at hx; exact hx
  · rintro b s' ⟨H', I', g', q, e1, g1⟩
    rw [q] at hx
    exact hx H' s' I' e1 g1 (E.ext G1 e1 g1)
theorem da_run {es : List Expr} {f : Es} {Q : List Value → Shared → Prop} (h : DA X z W es f) (I : Inv X pins σ H s) (E : EnvOk X.K X.mg z Mu H σ ρ) (G1 : GOk z H g)
    (hx : (f ρ g).all (fun ds g' => ∀ vs us H' s', Inv X pins σ H' s' → Vals vs us → Ext z H H' → GOk z H' g' → EnvOk X.K X.mg z Mu H' σ ρ → RKs X.K X.mg z Mu H' vs ds → Q us s') (XW X z W Mu σ H)) :
    wpAny (model X.prog X.w) X.A (spliced (backTo pos (starEach es X.env))) Q X.xe s := by
  refine thn (h.run pos pins s σ H (fun vs H' => ∃ ds g', f ρ g = .ok ds g' ∧ Ext z H H' ∧ GOk z H' g' ∧ RKs X.K X.mg z Mu H' vs ds) I ⟨ρ, g, Mu, E, G1, ?_⟩) ?_
  · cases q : f ρ g with
    | stuck => rw [q] at hx; exact hx
    | ok d g' => exact fun vs H' e1 g1 r => ⟨d, g', rfl, e1, g1, r⟩
    | exc c n l g' => rw [q] at hx; exact hx
  · rintro us s' ⟨vs, H', I', r, ds, g', q, e1, g1, rk⟩
    rw [q] at hx
    exact hx vs us H' s' I' r e1 g1 (E.ext G1 e1 g1) rk
theorem das_run {es : List Expr} {f : Es} {Q : List Value → Shared → Prop} (h : DAs X z W es f) (I : Inv X pins σ H s) (E : EnvOk X.K X.mg z Mu H σ ρ) (G1 : GOk z H g)
    (hx : (f ρ g).all (fun ds g' => ∀ vs us H' s', Inv X pins σ H' s' → Vals vs us → Ext z H H' → GOk z H' g' → EnvOk X.K X.mg z Mu H' σ ρ → Reps X.K X.mg z Mu H' vs ds → Q us s') (XW X z W Mu σ H)) :
    wpAny (model X.prog X.w) X.A (spliced (backTo pos (starEach es X.env))) Q X.xe s := by
  refine thn (h.run pos pins s σ H (fun vs H' => ∃ ds g', f ρ g = .ok ds g' ∧ Ext z H H' ∧ GOk z H' g' ∧ Reps X.K X.mg z Mu H' vs ds) I ⟨ρ, g, Mu, E, G1, ?_⟩) ?_
  · cases q : f ρ g with
    | stuck => rw [q] at hx; exact hx
    | ok d g' => exact fun vs H' e1 g1 r => ⟨d, g', rfl, e1, g1, r⟩
    | exc c n l g' => rw [q] at hx; exact hx
  · rintro us s' ⟨vs, H', I', r, ds, g', q, e1, g1, rk⟩
    rw [q] at hx
    exact hx vs us H' s' I' r e1 g1 (E.ext G1 e1 g1) rk

/-- a value that is shared, told as new or peeked at -/
theorem DE.peek (h : DE X z W k e f) : DE X z W .peek e f := by
  refine ⟨fun pins s σ H Q I ⟨ρ, g, Mu, E, G1, hx⟩ => ?_⟩
  refine de_run h I E G1 (R.all_imp hx (fun d g' hq v u H' s' I' r e1 g1 E1 rk => ?_) fun _ _ _ _ h => h)
  exact ⟨v, H', I', r, hq v H' e1 g1 (rk.peek E.mu E1.mu g1)⟩
theorem DE.sh (h : DE X z W .new e f) : DE X z W .sh e f := by
  refine ⟨fun pins s σ H Q I ⟨ρ, g, Mu, E, G1, hx⟩ => ?_⟩
  refine de_run h I E G1 (R.all_imp hx (fun d g' hq v u H' s' I' r e1 g1 E1 rk => ?_) fun _ _ _ _ h => h)
  exact ⟨v, H', I', r, hq v H' e1 g1 (rk.sh_of_new E.mu E1.mu g1)⟩

/-! ### names, constants -/
def shAt (ρ : Env) (i : Nat) : Option D := match ρ[i]? with
  | some (some (false, d)) => some d
  | _ => none
def anyAt (ρ : Env) (i : Nat) : Option D := match ρ[i]? with
  | some (some (_, d)) => some d
  | _ => none
theorem shAt_some {ρ : Env} {i : Nat} {d : D} (h : shAt ρ i = some d) : ρ[i]? = some (some (false, d)) := by
  unfold shAt at h
  split at h
  · rename_i e q
    cases h
    exact q
  · cases h
theorem anyAt_some {ρ : Env} {i : Nat} {d : D} (h : anyAt ρ i = some d) : ∃ t, ρ[i]? = some (some (t, d)) := by
  unfold anyAt at h
  split at h
  · rename_i t e q
    cases h
    exact ⟨t, q⟩
  · cases h
def eVar (i : Nat) : Ep := fun ρ => ofOpt (shAt ρ i)
def ePeek (i : Nat) : Ep := fun ρ => ofOpt (anyAt ρ i)
def eC (d : D) : Ep := fun _ => M.pure d
theorem de_of {t : TE} (h : PE X e t) (hi : ∀ σ H ρ g Mu Q, EnvOk X.K X.mg z Mu H σ ρ → GOk z H g → (f ρ g).all (fun d g' => ∀ v H', Ext z H H' → GOk z H' g' → RK X.K X.mg z k H Mu H' v d → Q v H') (XW X z W Mu σ H) → t σ H Q) : DE X z W k e f :=
  ⟨fun pins s σ H Q I ⟨ρ, g, Mu, E, G1, hx⟩ => h.run pins s σ H Q I (hi σ H ρ g Mu Q E G1 hx)⟩
theorem de_var {i : Nat} {x : Str} (h : PE X (.Name x pos) (tVar i)) : DE X z W .sh (.Name x pos) (eVar i) := by
  refine de_of h fun σ H ρ g Mu Q E G1 hx => ?_
  obtain ⟨d, q, hx⟩ := R.all_opt hx
  obtain ⟨v, hv, r⟩ := E.val i false d (shAt_some q)
  exact ⟨v, hv, hx v H Ext.refl G1 r⟩
theorem de_peek {i : Nat} {x : Str} (h : PE X (.Name x pos) (tVar i)) : DE X z W .peek (.Name x pos) (ePeek i) := by
  refine de_of h fun σ H ρ g Mu Q E G1 hx => ?_
  obtain ⟨d, q, hx⟩ := R.all_opt hx
  obtain ⟨t, q⟩ := anyAt_some q
  obtain ⟨v, hv, r⟩ := E.val i t d q
  refine ⟨v, hv, hx v H Ext.refl G1 ?_⟩
  cases t with
  | false => exact .inl r
  | true => exact .inr r
theorem de_const {v : V} {d : D} (h : PE X e (tC v)) (r : ∀ Mu H, Rep X.K X.mg z Mu H v d) (hb : d.box = false) : DE X z W .new e (eC d) :=
  de_of h fun σ H ρ g Mu Q E G1 hx => hx v H Ext.refl G1 (RK.new_of (r Mu H) hb)
theorem de_int {i : Int} {j : Nat} : DE X z W .new (.Constant (.int i) j pos) (eC (.int i)) := de_const pe_int (fun _ _ => .int i) rfl
theorem de_bl {b : Bool} {j : Nat} : DE X z W .new (.Constant (.bool b) j pos) (eC (.bl b)) := de_const pe_bl (fun _ _ => .bl b) rfl
theorem de_non {j : Nat} : DE X z W .new (.Constant .none j pos) (eC .non) := de_const pe_non (fun _ _ => .non) rfl
theorem de_str {x : Str} {j : Nat} : DE X z W .new (.Constant (.str x) j pos) (eC (.str x)) := de_const pe_str (fun _ _ => .str x) rfl
theorem de_glob_int {x : Str} {i : Int} {t : Tok} (hg : Gl X x) (hm : X.mg x = some (.int i t)) (hd : (x == ("__debug__" : Str)) = false := by decide) : DE X z W .new (.Name x pos) (eC (.int i)) := de_const (v := .int i) (pe_glob hg hm ⟨t, rfl⟩ hd) (fun _ _ => .int i) rfl
theorem de_glob_fn {x : Str} {q : Addr} (hg : Gl X x) (hm : X.mg x = some (.ref q)) (hd : (x == ("__debug__" : Str)) = false := by decide) : DE X z W .new (.Name x pos) (eC (.fn x)) := de_const (v := .ref q) (pe_glob hg hm rfl hd) (fun _ _ => .fn hm) rfl

/-! ### operators by values -/
/-- f of two values comes to h of what they read as -/
def DOp (X : Cx) (z : Zt) (k : Kd) (f : Value → Value → Sem Value) (h : D → D → Option D) : Prop :=
  ∀ (pins : List (Addr × Obj)) (s : Shared) (σ : L2.St) (H : Hp) (Mu : List Addr) (g : G) (x y : V) (v u : Value) (dx dy d : D) (Q : VK), Inv X pins σ H s → MuOk z Mu H → GOk z H g → RelV x v → RelV y u → PR X.K X.mg z Mu H x dx → PR X.K X.mg z Mu H y dy →
    h dx dy = some d → (∀ v' H', Same H H' → RK X.K X.mg z k H Mu H' v' d → Q v' H') → wpAny (model X.prog X.w) X.A (f v u) (EP X pins σ Q) X.xe s
def eBin (h : D → D → Option D) (fa fb : Ep) : Ep := fun ρ => do let x ← fa ρ; let y ← fb ρ; ofOpt (h x y)
theorem RK.back {H0 H1 H2 : Hp} {K : PySem.W.Frag} {mg : Str → Option Value} {v : V} {d : D} {g1 : G} (r : RK K mg z k H1 Mu H2 v d) (e : Ext z H0 H1) (G1 : GOk z H1 g1) : RK K mg z k H0 Mu H2 v d := by
  cases k with
  | sh => exact r
  | peek => exact r
  | new =>
    have r' : if d.box = true then ∃ a, v = .ref a ∧ ¬ Oc H1 a ∧ Cont K mg z (a :: Mu) H2 a d else Rep K mg z Mu H2 v d := r
    show if d.box = true then ∃ a, v = .ref a ∧ ¬ Oc H0 a ∧ Cont K mg z (a :: Mu) H2 a d else Rep K mg z Mu H2 v d
    by_cases hb : d.box = true
    · rw [if_pos hb] at r' ⊢
      obtain ⟨a, ev, n, c⟩ := r'
      refine ⟨a, ev, ?_, c⟩
      exact e.none n (fun w => n (w ▸ G1.op)) (fun w => n (w ▸ G1.ol))
    · rw [if_neg hb] at r' ⊢
      exact r'
/-- two values in a row, then f -/
theorem bin_run {h : D → D → Option D} {fv : Value → Value → Sem Value} {ka kb : Kd} (ho : DOp X z k fv h) (ha : DE X z W ka a fa) (hb : DE X z W kb b fb) (I : Inv X pins σ H s) (E : EnvOk X.K X.mg z Mu H σ ρ) (G1 : GOk z H g) {Q : VK}
    (hx : (eBin h fa fb ρ g).all (fun d g' => ∀ v H', Ext z H H' → GOk z H' g' → RK X.K X.mg z k H Mu H' v d → Q v H') (XW X z W Mu σ H)) :
    wpAny (model X.prog X.w) X.A (eval a X.env) (fun v s₁ => wpAny (model X.prog X.w) X.A (eval b X.env) (fun u s₂ => wpAny (model X.prog X.w) X.A (fv v u) (EP X pins σ Q) X.xe s₂) X.xe s₁) X.xe s := by
  refine de_run ha I E G1 (R.all_imp (R.all_bind hx) (fun dx g1 hx v u H1 s1 I1 r1 e1 G2 E1 k1 => ?_) fun _ _ _ _ h => h)
  refine de_run hb I1 E1 G2 (R.all_imp (Raising.all (R.all_bind hx) e1) (fun dy g2 hx v' u' H2 s2 I2 r2 e2 G3 E2 k2 => ?_) fun _ _ _ _ h => h)
  obtain ⟨d, hd, hx⟩ := R.all_opt hx
  have p1 : PR X.K X.mg z Mu H2 v dx := (k1.peek E.mu E1.mu G2).ext E1.mu G2 e2
  have p2 : PR X.K X.mg z Mu H2 v' dy := k2.peek E1.mu E2.mu G3
  refine ho pins s2 σ H2 Mu g2 v v' u u' dx dy d Q I2 E2.mu G3 r1 r2 p1 p2 hd fun w H3 s3 k3 => ?_
  exact hx w H3 ((e1.trans e2).trans (Ext.of s3)) (G3.same s3) (k3.back (e1.trans e2) G3)
theorem de_bin {op : Operator} {h : D → D → Option D} {ka kb : Kd} (ho : DOp X z k (binaryOp op) h) (ha : DE X z W ka a fa) (hb : DE X z W kb b fb) : DE X z W k (.BinOp a op b pos) (eBin h fa fb) := by
  refine ⟨fun pins s σ H Q I ⟨ρ, g, Mu, E, G1, hx⟩ => ?_⟩
  exact wpAny_BinOp (bin_run ho ha hb I E G1 hx)
theorem de_cmp {op : CmpOp} {h : D → D → Option D} {ka kb : Kd} (ho : DOp X z k (compareOp op) h) (ha : DE X z W ka a fa) (hb : DE X z W kb b fb) (hm : behindInMarks op b = false) : DE X z W k (.Compare a [op] [b] pos) (eBin h fa fb) := by
  refine ⟨fun pins s σ H Q I ⟨ρ, g, Mu, E, G1, hx⟩ => ?_⟩
  exact wpAny_Compare1 (bin_run ho ha hb I E G1 hx) hm
/-- a value's truth, of a bool -/
def eTr (f : Ep) : Et := fun ρ => do
  let d ← f ρ
  match d with
  | .bl b => M.pure b
  | _ => stuck
theorem all_tr {d : D} {P : Bool → G → Prop} {E : Str → Str → List D → G → Prop} {g : G} (h : ((match d with | .bl b => M.pure b | _ => stuck) g : R Bool).all P E) : ∃ b, d = .bl b ∧ P b g := by
  cases d <;> first | exact h.elim | exact ⟨_, rfl, h⟩
theorem PR.bl {K : PySem.W.Frag} {mg : Str → Option Value} {v : V} {b : Bool} (r : PR K mg z Mu H v (.bl b)) : v = .bl b := by
  rcases r with r | ⟨_, _, _, _, _, _, c⟩
  · cases r; rfl
  · cases c
theorem PR.int {K : PySem.W.Frag} {mg : Str → Option Value} {v : V} {i : Int} (r : PR K mg z Mu H v (.int i)) : v = .int i := by
  rcases r with r | ⟨_, _, _, _, _, _, c⟩
  · cases r; rfl
  · cases c
theorem PR.str {K : PySem.W.Frag} {mg : Str → Option Value} {v : V} {i : Str} (r : PR K mg z Mu H v (.str i)) : v = .str i := by
  rcases r with r | ⟨_, _, _, _, _, _, c⟩
  · cases r; rfl
  · cases c
theorem PR.non {K : PySem.W.Frag} {mg : Str → Option Value} {v : V} (r : PR K mg z Mu H v .non) : v = .non := by
  rcases r with r | ⟨_, _, _, _, _, _, c⟩
  · cases r; rfl
  · cases c
theorem PR.tup {K : PySem.W.Frag} {mg : Str → Option Value} {v : V} {ds : List D} (r : PR K mg z Mu H v (.tup ds)) : ∃ a xs, v = .ref a ∧ a ∉ Mu ∧ H a = some (.tup xs) ∧ Reps K mg z Mu H xs ds := by
  rcases r with r | ⟨_, _, _, _, _, _, c⟩
  · cases r with | tup n h r => exact ⟨_, _, rfl, n, h, r⟩
  · cases c
theorem PR.lst {K : PySem.W.Frag} {mg : Str → Option Value} {v : V} {ds : List D} (r : PR K mg z Mu H v (.lst ds)) : ∃ a xs, v = .ref a ∧ H a = some (.lst xs) ∧ Reps K mg z Mu H xs ds := by
  rcases r with r | ⟨a, rfl, _, _, _, _, c⟩
  · cases r with | lst _ h r => exact ⟨_, _, rfl, h, r⟩
  · cases c with | lst h r => exact ⟨_, _, rfl, h, r⟩
/-- a value that is a bool, as a test -/
theorem dt_of (h : DE X z W k e f) (he : ∀ whole, isTrue e X.env whole = (do let v ← whole; standAt e.pos; holding [v] (truthy v)) := by intro _; rfl) : DT X z W e (eTr f) := by
  refine ⟨fun pins s σ H Q I ⟨ρ, g, Mu, E, G1, hx⟩ => ?_⟩
  refine isTrue_plain (de_run h I E G1 (R.all_imp (R.all_bind hx) (fun d g1 hx v u H1 s1 I1 r1 e1 G2 E1 k1 => ?_) fun _ _ _ _ h => h)) (he _)
  obtain ⟨b, rfl, hx⟩ := all_tr hx
  have ev := (k1.peek E.mu E1.mu G2).bl
  subst ev
  cases r1
  exact wpAny_truthy_bool ⟨H1, I1, hx H1 e1 G2⟩
theorem dt_cmp {op : CmpOp} {h : D → D → Option D} {ka kb : Kd} (ho : DOp X z k (compareOp op) h) (ha : DE X z W ka a fa) (hb : DE X z W kb b fb) (hm : behindInMarks op b = false) : DT X z W (.Compare a [op] [b] pos) (eTr (eBin h fa fb)) := by
  refine ⟨fun pins s σ H Q I ⟨ρ, g, Mu, E, G1, hx⟩ => ?_⟩
  have w := bin_run (Q := fun v H' => ∃ b g', eBin h fa fb ρ g = .ok (.bl b) g' ∧ v = .bl b ∧ Ext z H H' ∧ GOk z H' g') ho ha hb I E G1 (R.all_imp (R.all_eq (R.all_bind hx)) (fun d g1 ⟨q, hx⟩ v H' e1 G2 k1 => ?_) fun _ _ _ _ h => h)
  · refine wpAny_isTrue_Compare1 (thn w fun v s1 h1 => thn h1 fun u s2 h2 => thn h2 fun c s3 ⟨x, H1, I1, r1, b, g', q, ev, e1, G2⟩ => ?_) hm
    subst ev
    cases r1
    have hx' : ((eBin h fa fb ρ g).bind fun d => (match d with | .bl b => M.pure b | _ => stuck : M Bool)).all (fun b g' => ∀ H', Ext z H H' → GOk z H' g' → Q b H') (XW X z W Mu σ H) := hx
    rw [q] at hx'
    exact wpAny_truthy_bool ⟨H1, I1, hx' H1 e1 G2⟩
  · obtain ⟨b, rfl, _⟩ := all_tr hx
    have m1 : MuOk z Mu H' := E.mu.ext (g := g) e1 G2
    exact ⟨b, g1, q, (k1.peek E.mu m1 G2).bl, e1, G2⟩
end

/-! ### and, or, not, if -/
abbrev DW (X : Cx) (z : Zt) (W : WX) (e : Expr) (f : Et) : Prop := PW X e (tT X z W f)
def bAnd (f h : Et) : Et := fun ρ => do if ← f ρ then h ρ else M.pure false
def bOr (f h : Et) : Et := fun ρ => do if ← f ρ then M.pure true else h ρ
def bNot (f : Et) : Et := fun ρ => do let b ← f ρ; M.pure (!b)
/-- a test's answer as a value -/
def eBo (f : Et) : Ep := fun ρ => do let b ← f ρ; M.pure (.bl b)
def eAnd (f : Et) (h : Ep) : Ep := fun ρ => do if ← f ρ then h ρ else M.pure (.bl false)
def eOr (f : Et) (h : Ep) : Ep := fun ρ => do if ← f ρ then M.pure (.bl true) else h ρ
def eIf (c : Et) (f h : Ep) : Ep := fun ρ => do if ← c ρ then f ρ else h ρ
section
variable {X : Cx} {z : Zt} {W : WX} {k : Kd} {e a b : Expr} {rest : List Expr} {f fa fb : Ep} {ta tb tc : Et} {pos : Pos}
theorem dw_and1 (ha : DT X z W a ta) : DW X z W (.BoolOp .And [a] pos) ta := pw_and1 ha
theorem dw_or1 (ha : DT X z W a ta) : DW X z W (.BoolOp .Or [a] pos) ta := pw_or1 ha
theorem dw_and (ha : DT X z W a ta) (hb : DW X z W (.BoolOp .And (b :: rest) pos) tb) : DW X z W (.BoolOp .And (a :: b :: rest) pos) (bAnd ta tb) := by
  refine ⟨fun wh pins s σ H Q I ⟨ρ, g, Mu, E, G1, hx⟩ => ?_⟩
  refine isTrue_and (dt_run ha I E G1 (R.all_imp (R.all_bind hx) (fun c g1 hx H1 s1 I1 e1 G2 E1 => ?_) fun _ _ _ _ h => h))
  cases c with
  | true =>
    refine hb.run wh pins s1 σ H1 Q I1 ⟨ρ, g1, Mu, E1, G2, ?_⟩
    exact R.all_imp hx (fun c g2 h H2 e2 G3 => h H2 (e1.trans e2) G3) fun _ _ _ _ h => h.step e1
  | false => exact ⟨H1, I1, hx H1 e1 G2⟩
theorem dw_or (ha : DT X z W a ta) (hb : DW X z W (.BoolOp .Or (b :: rest) pos) tb) : DW X z W (.BoolOp .Or (a :: b :: rest) pos) (bOr ta tb) := by
  refine ⟨fun wh pins s σ H Q I ⟨ρ, g, Mu, E, G1, hx⟩ => ?_⟩
  refine isTrue_or (dt_run ha I E G1 (R.all_imp (R.all_bind hx) (fun c g1 hx H1 s1 I1 e1 G2 E1 => ?_) fun _ _ _ _ h => h))
  cases c with
  | true => exact ⟨H1, I1, hx H1 e1 G2⟩
  | false =>
    refine hb.run wh pins s1 σ H1 Q I1 ⟨ρ, g1, Mu, E1, G2, ?_⟩
    exact R.all_imp hx (fun c g2 h H2 e2 G3 => h H2 (e1.trans e2) G3) fun _ _ _ _ h => h.step e1
theorem dt_w (h : DW X z W e ta) : DT X z W e ta := h.pt
theorem dt_not (ha : DT X z W a ta) : DT X z W (.UnaryOp .Not a pos) (bNot ta) := by
  refine ⟨fun pins s σ H Q I ⟨ρ, g, Mu, E, G1, hx⟩ => ?_⟩
  exact isTrue_not (dt_run ha I E G1 (R.all_imp (R.all_bind hx) (fun c g1 hx H1 s1 I1 e1 G2 E1 => ⟨H1, I1, hx H1 e1 G2⟩) fun _ _ _ _ h => h))
/-- .. as values -/
theorem de_one {op} (h : DE X z W k a f) : DE X z W k (.BoolOp op [a] pos) f := pe_one h
theorem de_and {ka : Kd} (ha : DE X z W ka a fa) (hb : DE X z W k (.BoolOp .And (b :: rest) pos) fb) : DE X z W k (.BoolOp .And (a :: b :: rest) pos) (eAnd (eTr fa) fb) := by
  refine ⟨fun pins s σ H Q I ⟨ρ, g, Mu, E, G1, hx⟩ => ?_⟩
  refine BoolOp_and (de_run ha I E G1 (R.all_imp (R.all_bind (R.all_bind hx)) (fun d g1 hx v u H1 s1 I1 r1 e1 G2 E1 k1 => ?_) fun _ _ _ _ h => h))
  obtain ⟨c, rfl, hx⟩ := all_tr hx
  have ev := (k1.peek E.mu E1.mu G2).bl
  subst ev
  cases r1
  refine wpAny_truthy_bool ?_
  cases c with
  | true =>
    refine hb.run pins s1 σ H1 Q I1 ⟨ρ, g1, Mu, E1, G2, ?_⟩
    exact R.all_imp hx (fun d g2 h w H2 e2 G3 k2 => h w H2 (e1.trans e2) G3 (k2.back e1 G2)) fun _ _ _ _ h => h.step e1
  | false =>
    refine ⟨.bl false, H1, I1, rfl, hx (.bl false) H1 e1 G2 ?_⟩
    cases k with
    | sh => exact .bl false
    | new => exact RK.new_of (.bl false) rfl
    | peek => exact .inl (.bl false)
theorem de_or {ka : Kd} (ha : DE X z W ka a fa) (hb : DE X z W k (.BoolOp .Or (b :: rest) pos) fb) : DE X z W k (.BoolOp .Or (a :: b :: rest) pos) (eOr (eTr fa) fb) := by
  refine ⟨fun pins s σ H Q I ⟨ρ, g, Mu, E, G1, hx⟩ => ?_⟩
  refine BoolOp_or (de_run ha I E G1 (R.all_imp (R.all_bind (R.all_bind hx)) (fun d g1 hx v u H1 s1 I1 r1 e1 G2 E1 k1 => ?_) fun _ _ _ _ h => h))
  obtain ⟨c, rfl, hx⟩ := all_tr hx
  have ev := (k1.peek E.mu E1.mu G2).bl
  subst ev
  cases r1
  refine wpAny_truthy_bool ?_
  cases c with
  | false =>
    refine hb.run pins s1 σ H1 Q I1 ⟨ρ, g1, Mu, E1, G2, ?_⟩
    exact R.all_imp hx (fun d g2 h w H2 e2 G3 k2 => h w H2 (e1.trans e2) G3 (k2.back e1 G2)) fun _ _ _ _ h => h.step e1
  | true =>
    refine ⟨.bl true, H1, I1, rfl, hx (.bl true) H1 e1 G2 ?_⟩
    cases k with
    | sh => exact .bl true
    | new => exact RK.new_of (.bl true) rfl
    | peek => exact .inl (.bl true)
def eNot (f : Ep) : Ep := eBo (bNot (eTr f))
theorem de_not {ka : Kd} (ha : DE X z W ka a fa) : DE X z W .new (.UnaryOp .Not a pos) (eNot fa) := by
  refine ⟨fun pins s σ H Q I ⟨ρ, g, Mu, E, G1, hx⟩ => ?_⟩
  refine UnaryOp_ (de_run ha I E G1 (R.all_imp (R.all_bind (R.all_bind (R.all_bind hx))) (fun d g1 hx v u H1 s1 I1 r1 e1 G2 E1 k1 => ?_) fun _ _ _ _ h => h))
  obtain ⟨c, rfl, hx⟩ := all_tr hx
  have ev := (k1.peek E.mu E1.mu G2).bl
  subst ev
  cases r1
  exact not_of (wpAny_truthy_bool ⟨.bl (!c), H1, I1, rfl, hx (.bl (!c)) H1 e1 G2 (RK.new_of (.bl _) rfl)⟩)
theorem de_if {c : Expr} (hc : DT X z W c tc) (ha : DE X z W k a fa) (hb : DE X z W k b fb) : DE X z W k (.IfExp c a b pos) (eIf tc fa fb) := by
  refine ⟨fun pins s σ H Q I ⟨ρ, g, Mu, E, G1, hx⟩ => ?_⟩
  refine wpAny_IfExp (dt_run hc I E G1 (R.all_imp (R.all_bind hx) (fun d g1 hx H1 s1 I1 e1 G2 E1 => ?_) fun _ _ _ _ h => h))
  cases d with
  | true =>
    refine ha.run pins s1 σ H1 Q I1 ⟨ρ, g1, Mu, E1, G2, ?_⟩
    exact R.all_imp hx (fun d g2 h w H2 e2 G3 k2 => h w H2 (e1.trans e2) G3 (k2.back e1 G2)) fun _ _ _ _ h => h.step e1
  | false =>
    refine hb.run pins s1 σ H1 Q I1 ⟨ρ, g1, Mu, E1, G2, ?_⟩
    exact R.all_imp hx (fun d g2 h w H2 e2 G3 k2 => h w H2 (e1.trans e2) G3 (k2.back e1 G2)) fun _ _ _ _ h => h.step e1
/-- an operation on one value -/
def UOp (X : Cx) (z : Zt) (k : Kd) (f : Value → Sem Value) (h : D → Option D) : Prop :=
  ∀ (pins : List (Addr × Obj)) (s : Shared) (σ : L2.St) (H : Hp) (Mu : List Addr) (g : G) (x : V) (v : Value) (dx d : D) (Q : VK), Inv X pins σ H s → MuOk z Mu H → GOk z H g → RelV x v → PR X.K X.mg z Mu H x dx →
    h dx = some d → (∀ v' H', Same H H' → RK X.K X.mg z k H Mu H' v' d → Q v' H') → wpAny (model X.prog X.w) X.A (f v) (EP X pins σ Q) X.xe s
def eUn (h : D → Option D) (f : Ep) : Ep := fun ρ => do let x ← f ρ; ofOpt (h x)
theorem de_un {op : UnaryOp} {h : D → Option D} {ka : Kd} (ho : UOp X z k (unaryOp op) h) (ha : DE X z W ka a fa) : DE X z W k (.UnaryOp op a pos) (eUn h fa) := by
  refine ⟨fun pins s σ H Q I ⟨ρ, g, Mu, E, G1, hx⟩ => ?_⟩
  refine UnaryOp_ (de_run ha I E G1 (R.all_imp (R.all_bind hx) (fun d g1 hx v u H1 s1 I1 r1 e1 G2 E1 k1 => ?_) fun _ _ _ _ h => h))
  obtain ⟨d', hd, hx⟩ := R.all_opt hx
  exact ho pins s1 σ H1 Mu g1 v u d d' Q I1 E1.mu G2 r1 (k1.peek E.mu E1.mu G2) hd fun w H2 s2 k2 => hx w H2 (e1.trans (Ext.of s2)) (G2.same s2) (k2.back e1 G2)
def uNeg : D → Option D
  | .int i => some (.int (-i))
  | _ => none
theorem op_neg : UOp X z .new (unaryOp .USub) uNeg := by
  intro pins s σ H Mu g x v dx d Q I m G1 r p hd q
  cases dx <;> simp only [uNeg, reduceCtorEq, Option.some.injEq] at hd
  subst hd
  have e := p.int
  subst e
  exact un_neg pins s σ H _ v Q I r ⟨_, rfl, q _ H Same.refl (RK.new_of (.int _) rfl)⟩
end
end DL
set_option Elab.async false
set_option linter.all false
set_option maxRecDepth 100000
set_option maxHeartbeats 2000000
/-! The value layer, part 3: the operators, displays, subscripts, slices. -/
namespace DL
open PySem PySem.Spec PyProof.Rows L2

/-! ### numbers -/
def dAdd : D → D → Option D
  | .int a, .int b => some (.int (a + b))
  | .str a, .str b => if a.length + b.length ≤ sizeLine then some (.str (a ++ b)) else none
  | .tup a, .tup b => if a.length + b.length ≤ sizeLine then some (.tup (a ++ b)) else none
  | .lst a, .lst b => if a.length + b.length ≤ sizeLine then some (.lst (a ++ b)) else none
  | _, _ => none
def dSub : D → D → Option D
  | .int a, .int b => some (.int (a - b))
  | _, _ => none
/-- a * b for a number of at most 64 bits, or a sequence repeated -/
def dMul : D → D → Option D
  | .int a, .int b => if (-(2 ^ 64) < a ∧ a < 2 ^ 64) ∨ (-(2 ^ 64) < b ∧ b < 2 ^ 64) then some (.int (a * b)) else none
  | .tup a, .int k => if -(2 ^ 63) ≤ k ∧ k ≤ 1000 ∧ a.length ≤ 1000 ∧ ¬ a.isEmpty = true then some (.tup (List.replicate k.toNat a).flatten) else none
  | .lst a, .int k => if -(2 ^ 63) ≤ k ∧ k < 2 ^ 63 ∧ a.length * k.toNat ≤ sizeLine then some (.lst (List.replicate k.toNat a).flatten) else none
  | _, _ => none
def dFdiv : D → D → Option D
  | .int a, .int b => if 0 < b ∧ b.natAbs.log2 < 9000 then some (.int (a / b)) else none
  | _, _ => none
def dMod : D → D → Option D
  | .int a, .int b => if 0 < b then some (.int (a % b)) else none
  | _, _ => none
def dPow : D → D → Option D
  | .int a, .int b => if 0 ≤ b ∧ b ≤ 1000000 ∧ a.natAbs < 2 ^ 64 then some (.int (a ^ b.toNat)) else none
  | _, _ => none
def dLt : D → D → Option D
  | .int a, .int b => some (.bl (decide (a < b)))
  | _, _ => none
def dLe : D → D → Option D
  | .int a, .int b => some (.bl (decide (a ≤ b)))
  | _, _ => none
def dGt : D → D → Option D
  | .int a, .int b => some (.bl (decide (b < a)))
  | _, _ => none
def dGe : D → D → Option D
  | .int a, .int b => some (.bl (decide (b ≤ a)))
  | _, _ => none
section
variable {X : Cx} {z : Zt} {W : WX} {k : Kd}
theorem RK.int {K : PySem.W.Frag} {mg : Str → Option Value} {H0 H : Hp} {Mu : List Addr} {i : Int} : RK K mg z .new H0 Mu H (.int i) (.int i) := RK.new_of (.int i) rfl
theorem RK.bl {K : PySem.W.Frag} {mg : Str → Option Value} {H0 H : Hp} {Mu : List Addr} {b : Bool} : RK K mg z .new H0 Mu H (.bl b) (.bl b) := RK.new_of (.bl b) rfl
theorem RK.str {K : PySem.W.Frag} {mg : Str → Option Value} {H0 H : Hp} {Mu : List Addr} {x : Str} : RK K mg z .new H0 Mu H (.str x) (.str x) := RK.new_of (.str x) rfl
theorem same_upd' {H : Hp} {p : Addr} {o : HO} (h : H p = none) : Same H (upd H p o) := fun b u e => by rw [upd_ne (ne_of_none e h)]; exact e
/-- a new list -/
theorem RK.lst {K : PySem.W.Frag} {mg : Str → Option Value} {H : Hp} {Mu : List Addr} {p : Addr} {xs : List V} {ds : List D} {g : G} (m : MuOk z Mu H) (G1 : GOk z H g) (hp : H p = none) (r : Reps K mg z Mu H xs ds) : RK K mg z .new H Mu (upd H p (.lst xs)) (.ref p) (.lst ds) := by
  show if D.box (.lst ds) = true then ∃ a, V.ref p = .ref a ∧ ¬ Oc H a ∧ Cont K mg z (a :: Mu) (upd H p (.lst xs)) a (.lst ds) else Rep K mg z Mu (upd H p (.lst xs)) (.ref p) (.lst ds)
  rw [if_pos (show D.box (.lst ds) = true from rfl)]
  exact ⟨p, rfl, oc_none hp, .lst upd_same (r.more m G1 (Ext.of (same_upd' hp)) (oc_none hp))⟩
theorem MuOk.new {H : Hp} {Mu : List Addr} {p : Addr} (m : MuOk z Mu H) (h : H p = none) : p ∉ Mu := fun w => oc_none h (m.at_ p w)
theorem RK.tup {K : PySem.W.Frag} {mg : Str → Option Value} {H : Hp} {Mu : List Addr} {p : Addr} {xs : List V} {ds : List D} {g : G} (m : MuOk z Mu H) (G1 : GOk z H g) (hp : H p = none) (r : Reps K mg z Mu H xs ds) : RK K mg z .new H Mu (upd H p (.tup xs)) (.ref p) (.tup ds) :=
  RK.new_of (.tup (m.new hp) upd_same (r.ext m G1 (Ext.of (same_upd' hp)))) rfl
theorem RK.tup_same {K : PySem.W.Frag} {mg : Str → Option Value} {H0 H : Hp} {Mu : List Addr} {p : Addr} {xs : List V} {ds : List D} (n : p ∉ Mu) (h : H p = some (.tup xs)) (r : Reps K mg z Mu H xs ds) : RK K mg z .new H0 Mu H (.ref p) (.tup ds) := RK.new_of (.tup n h r) rfl

theorem op_dAdd : DOp X z .new (binaryOp .Add) dAdd := by
  intro pins s σ H Mu g x y v u dx dy d Q I m G1 rx ry px py hd q
  cases dx <;> cases dy <;> simp only [dAdd, reduceCtorEq, Option.some.injEq] at hd
  · subst hd
    obtain rfl := px.int
    obtain rfl := py.int
    exact L2.op_add pins s σ H _ _ v u Q I rx ry ⟨_, _, rfl, rfl, q _ H Same.refl RK.int⟩
  · split at hd
    · rename_i hz
      cases hd
      obtain rfl := px.str
      obtain rfl := py.str
      exact L2.op_add_str pins s σ H _ _ v u Q I rx ry ⟨_, _, rfl, rfl, hz, q _ H Same.refl RK.str⟩
    · cases hd
  · split at hd
    · rename_i hz
      cases hd
      obtain ⟨a, xs, rfl, nx, hx, rx'⟩ := px.tup
      obtain ⟨b, ys, rfl, ny, hy, ry'⟩ := py.tup
      refine L2.op_catA pins s σ H _ _ v u Q I rx ry ⟨a, b, xs, ys, rfl, rfl, SqT.of hx, SqT.of hy, by rw [rx'.length, ry'.length]; exact hz, fun e => ?_, fun e1 e2 => ?_, fun _ _ p hp => ?_⟩
      · subst e
        cases rx'
        exact q _ H Same.refl (RK.tup_same ny hy ry')
      · subst e2
        cases ry'
        rw [List.append_nil] at q
        exact q _ H Same.refl (RK.tup_same nx hx rx')
      · exact q _ _ (same_upd' hp) (RK.tup m G1 hp (rx'.append ry'))
    · cases hd
  · split at hd
    · rename_i hz
      cases hd
      obtain ⟨a, xs, rfl, hx, rx'⟩ := px.lst
      obtain ⟨b, ys, rfl, hy, ry'⟩ := py.lst
      exact L2.op_cat pins s σ H _ _ v u Q I rx ry ⟨a, b, xs, ys, rfl, rfl, hx, hy, by rw [rx'.length, ry'.length]; exact hz, fun p hp => q _ _ (same_upd' hp) (RK.lst m G1 hp (rx'.append ry'))⟩
    · cases hd
/-- a tuple times 1, times 0 and less -/
theorem tuple_mul1 (l : Addr) (items : Array Value) (n : Nat) (dd : Option Addr) (sl : Array (Option Value)) (u : Tok) :
    Meets (Builtin.«tuple.__mul__» ⟨[.ref l, .int 1 u], []⟩) (fun _ R s => s.heap.get? l = some { cls := .type "tuple", dict := dd, data := .seq items n, slots := sl } ∧ R (.ok (.ret (Value.ref l))) s) :=
  .of_wp fun prog w A R s h => by
    obtain ⟨hp, g, d, tk, os⟩ := s
    obtain ⟨hl, h⟩ := h
    have f1 := AutoSeq1.idx_int
    wp_walk using wpAny_loadPart' hl
    exact ⟨_, rfl, h⟩
theorem tuple_mul0 (l : Addr) (items : Array Value) (n : Nat) (dd : Option Addr) (sl : Array (Option Value)) (x : Int) (u : Tok) (c0 : (decide (x < -(2 ^ 63)) || decide (x ≥ 2 ^ 63)) = false) (c1 : (items.isEmpty || x == 1) = false) (c2 : (decide (x ≤ 0) || items.isEmpty) = true) :
    Meets (Builtin.«tuple.__mul__» ⟨[.ref l, .int x u], []⟩) (fun _ R s => s.heap.get? l = some { cls := .type "tuple", dict := dd, data := .seq items n, slots := sl } ∧
      R (.ok (.ret (Value.ref s.heap.objs.size))) { s with heap := s.heap.push { cls := Value.type "tuple", data := Data.seq #[] }, toks := s.toks }) :=
  .of_wp fun prog w A R s h => by
    obtain ⟨hp, g, d, tk, os⟩ := s
    obtain ⟨hl, h⟩ := h
    have f1 := AutoSeq1.idx_int
    wp_walk using wpAny_loadPart' hl
    repeat (first
      | (refine wpAny_ite_false (decide_eq_false (by rw [c0]; exact Bool.false_ne_true)) ?_; wp_walk using wpAny_loadPart' hl)
      | (refine wpAny_ite_false (decide_eq_false (by rw [c1]; exact Bool.false_ne_true)) ?_; wp_walk using wpAny_loadPart' hl)
      | (refine wpAny_ite_true (decide_eq_true c2) ?_; wp_walk using wpAny_loadPart' hl))
    exact ⟨_, rfl, h⟩
theorem op_rep1 {pins : List (Addr × Obj)} {s : Shared} {σ : L2.St} {H : Hp} {l : Addr} {t : Tok} {xs : List V} {Q : VK} (I : Inv X pins σ H s) (hT : SqT X.K H l xs) (q : Q (.ref l) H) :
    wpAny (model X.prog X.w) X.A (binaryOp .Mult (.ref l) (.int 1 t)) (EP X pins σ Q) X.xe s := by
  obtain ⟨its, r, ⟨⟨cls, dd, data, sl⟩, ho, hc, n, hd⟩, hs⟩ := I.tuple hT
  simp only at hc hd
  subst hc hd
  refine wpAny_binaryOp_repeat_ref (T := "tuple") (U := "int") (by decide) ⟨_, ho, rfl⟩ (fun s' => typeIs_int s' 1 t) noFill_tuple_mul F.fills_int_mul F.slot_int_rmul repeat_tuple F.slot_int_index.lookup
    (call_meets F.slot_int_rmul (typeIs_int s 1 t) F.entry_int_rmul (F.args_int_rmul_2 _ _) (int_rmul_tuple 1 t l its.toArray n dd sl)
      ⟨ho, rfl, ⟨_, ho, rfl⟩, call_meets F.slot_tuple_mul ⟨_, ho, rfl⟩ F.entry_tuple_mul (F.args_tuple_mul_2 _ _) (tuple_mul1 l its.toArray n dd sl t) ⟨ho, ?_⟩⟩)
  exact ⟨.ref l, H, I, rfl, q⟩
theorem op_rep0 {pins : List (Addr × Obj)} {s : Shared} {σ : L2.St} {H : Hp} {l : Addr} {k : Int} {t : Tok} {xs : List V} {Q : VK} (I : Inv X pins σ H s) (hT : SqT X.K H l xs) (hne : xs ≠ []) (h0 : k ≤ 0) (h1 : -(2 ^ 63) ≤ k) (q : ∀ p, H p = none → Q (.ref p) (upd H p (.tup []))) :
    wpAny (model X.prog X.w) X.A (binaryOp .Mult (.ref l) (.int k t)) (EP X pins σ Q) X.xe s := by
  obtain ⟨its, r, ⟨⟨cls, dd, data, sl⟩, ho, hc, n, hd⟩, hs⟩ := I.tuple hT
  simp only at hc hd
  subst hc hd
  have hle : its.length = xs.length := r.length.symm
  have hn : its ≠ [] := fun e => hne (by
    rw [e] at hle
    exact List.eq_nil_of_length_eq_zero hle.symm)
  have hi : its.toArray.isEmpty = false := by
    cases its with
    | nil => exact absurd rfl hn
    | cons a b => rfl
  have c0 : (decide (k < -(2 ^ 63)) || decide (k ≥ 2 ^ 63)) = false := by
    rw [decide_eq_false (by omega), decide_eq_false (by omega)] <;> rfl
  have c1 : (its.toArray.isEmpty || k == 1) = false := by
    rw [hi, Bool.false_or]
    exact beq_eq_false_iff_ne.mpr (by omega)
  have c2 : (decide (k ≤ 0) || its.toArray.isEmpty) = true := by
    rw [hi, Bool.or_false]
    exact decide_eq_true (by omega)
  refine wpAny_binaryOp_repeat_ref (T := "tuple") (U := "int") (by decide) ⟨_, ho, rfl⟩ (fun s' => typeIs_int s' k t) noFill_tuple_mul F.fills_int_mul F.slot_int_rmul repeat_tuple F.slot_int_index.lookup
    (call_meets F.slot_int_rmul (typeIs_int s k t) F.entry_int_rmul (F.args_int_rmul_2 _ _) (int_rmul_tuple k t l its.toArray n dd sl)
      ⟨ho, rfl, ⟨_, ho, rfl⟩, call_meets F.slot_tuple_mul ⟨_, ho, rfl⟩ F.entry_tuple_mul (F.args_tuple_mul_2 _ _) (tuple_mul0 l its.toArray n dd sl k t c0 c1 c2) ⟨ho, ?_⟩⟩)
  refine ⟨.ref s.heap.objs.size, _, I.laid (t' := s.toks) (o := .tup []) (fun b ob q => Heap.get?_push_of_some _ q) (Nat.le_refl _) ?_, rfl, q _ (I.hok.fresh (Nat.le_refl _))⟩
  exact ⟨Nat.zero_le _, _, .nil, IsTup.new _ _⟩
theorem Reps.rep {K : PySem.W.Frag} {mg : Str → Option Value} {H : Hp} {Mu : List Addr} {xs : List V} {ds : List D} (r : Reps K mg z Mu H xs ds) : ∀ n : Nat, Reps K mg z Mu H (List.replicate n xs).flatten (List.replicate n ds).flatten
  | 0 => .nil
  | n + 1 => by rw [List.replicate_succ, List.replicate_succ, List.flatten_cons, List.flatten_cons]; exact r.append (Reps.rep r n)
theorem op_dMul : DOp X z .new (binaryOp .Mult) dMul := by
  intro pins s σ H Mu g x y v u dx dy d Q I m G1 rx ry px py hd q
  cases dx <;> cases dy <;> simp only [dMul, reduceCtorEq, Option.some.injEq] at hd
  · split at hd
    · rename_i hz
      cases hd
      obtain rfl := px.int
      obtain rfl := py.int
      exact L2.op_mul pins s σ H _ _ v u Q I rx ry ⟨_, _, rfl, rfl, hz, q _ H Same.refl RK.int⟩
    · cases hd
  · rename_i ds k
    split at hd
    · rename_i hz
      cases hd
      obtain ⟨a, xs, rfl, nx, hx, rx'⟩ := px.tup
      obtain rfl := py.int
      have hne : xs ≠ [] := fun e => by
        subst e
        cases rx'
        exact hz.2.2.2 rfl
      by_cases h1 : k = 1
      · subst h1
        cases rx
        obtain ⟨t, rfl⟩ := ry
        refine op_rep1 I (SqT.of hx) ?_
        have e : (List.replicate (Int.toNat 1) ds).flatten = ds := by simp
        rw [e] at q
        exact q _ H Same.refl (RK.tup_same nx hx rx')
      · by_cases h0 : k ≤ 0
        · cases rx
          obtain ⟨t, rfl⟩ := ry
          refine op_rep0 I (SqT.of hx) hne h0 hz.1 fun p hp => ?_
          have e : k.toNat = 0 := by omega
          rw [e] at q
          exact q _ _ (same_upd' hp) (RK.tup m G1 hp .nil)
        · exact op_repT pins s σ H _ _ v u Q I rx ry ⟨a, k, xs, rfl, rfl, SqT.of hx, hne, by omega, hz.2.1, by rw [rx'.length]; exact hz.2.2.1, fun p hp => q _ _ (same_upd' hp) (RK.tup m G1 hp (rx'.rep _))⟩
    · cases hd
  · split at hd
    · rename_i hz
      cases hd
      obtain ⟨a, xs, rfl, hx, rx'⟩ := px.lst
      obtain rfl := py.int
      exact L2.op_rep pins s σ H _ _ v u Q I rx ry ⟨a, _, xs, rfl, rfl, hx, hz.1, hz.2.1, by rw [rx'.length]; exact hz.2.2, fun p hp => q _ _ (same_upd' hp) (RK.lst m G1 hp (rx'.rep _))⟩
    · cases hd
theorem op_dSub : DOp X z .new (binaryOp .Sub) dSub := by
  intro pins s σ H Mu g x y v u dx dy d Q I m G1 rx ry px py hd q
  cases dx <;> cases dy <;> simp only [dSub, reduceCtorEq, Option.some.injEq] at hd
  subst hd
  obtain rfl := px.int
  obtain rfl := py.int
  exact L2.op_sub pins s σ H _ _ v u Q I rx ry ⟨_, _, rfl, rfl, q _ H Same.refl RK.int⟩
theorem op_dFdiv : DOp X z .new (binaryOp .FloorDiv) dFdiv := by
  intro pins s σ H Mu g x y v u dx dy d Q I m G1 rx ry px py hd q
  cases dx <;> cases dy <;> simp only [dFdiv, reduceCtorEq, Option.some.injEq] at hd
  split at hd
  · rename_i hz
    cases hd
    obtain rfl := px.int
    obtain rfl := py.int
    exact L2.op_fdivW pins s σ H _ _ v u Q I rx ry ⟨_, _, rfl, rfl, hz, q _ H Same.refl RK.int⟩
  · cases hd
theorem op_dMod : DOp X z .new (binaryOp .Mod) dMod := by
  intro pins s σ H Mu g x y v u dx dy d Q I m G1 rx ry px py hd q
  cases dx <;> cases dy <;> simp only [dMod, reduceCtorEq, Option.some.injEq] at hd
  split at hd
  · rename_i hz
    cases hd
    obtain rfl := px.int
    obtain rfl := py.int
    exact L2.op_mod pins s σ H _ _ v u Q I rx ry ⟨_, _, rfl, rfl, hz, q _ H Same.refl RK.int⟩
  · cases hd
theorem op_dPow : DOp X z .new (binaryOp .Pow) dPow := by
  intro pins s σ H Mu g x y v u dx dy d Q I m G1 rx ry px py hd q
  cases dx <;> cases dy <;> simp only [dPow, reduceCtorEq, Option.some.injEq] at hd
  split at hd
  · rename_i hz
    cases hd
    obtain rfl := px.int
    obtain rfl := py.int
    exact L2.op_pow pins s σ H _ _ v u Q I rx ry ⟨_, _, rfl, rfl, hz, q _ H Same.refl RK.int⟩
  · cases hd
theorem op_dLt : DOp X z .new (compareOp .Lt) dLt := by
  intro pins s σ H Mu g x y v u dx dy d Q I m G1 rx ry px py hd q
  cases dx <;> cases dy <;> simp only [dLt, reduceCtorEq, Option.some.injEq] at hd
  subst hd
  obtain rfl := px.int
  obtain rfl := py.int
  exact L2.op_lt pins s σ H _ _ v u Q I rx ry ⟨_, _, rfl, rfl, q _ H Same.refl RK.bl⟩
theorem op_dLe : DOp X z .new (compareOp .LtE) dLe := by
  intro pins s σ H Mu g x y v u dx dy d Q I m G1 rx ry px py hd q
  cases dx <;> cases dy <;> simp only [dLe, reduceCtorEq, Option.some.injEq] at hd
  subst hd
  obtain rfl := px.int
  obtain rfl := py.int
  exact L2.op_le pins s σ H _ _ v u Q I rx ry ⟨_, _, rfl, rfl, q _ H Same.refl RK.bl⟩
theorem op_dGt : DOp X z .new (compareOp .Gt) dGt := by
  intro pins s σ H Mu g x y v u dx dy d Q I m G1 rx ry px py hd q
  cases dx <;> cases dy <;> simp only [dGt, reduceCtorEq, Option.some.injEq] at hd
  subst hd
  obtain rfl := px.int
  obtain rfl := py.int
  exact L2.op_gt pins s σ H _ _ v u Q I rx ry ⟨_, _, rfl, rfl, q _ H Same.refl RK.bl⟩
theorem op_dGe : DOp X z .new (compareOp .GtE) dGe := by
  intro pins s σ H Mu g x y v u dx dy d Q I m G1 rx ry px py hd q
  cases dx <;> cases dy <;> simp only [dGe, reduceCtorEq, Option.some.injEq] at hd
  subst hd
  obtain rfl := px.int
  obtain rfl := py.int
  exact L2.op_ge pins s σ H _ _ v u Q I rx ry ⟨_, _, rfl, rfl, q _ H Same.refl RK.bl⟩
end
end DL
set_option Elab.async false
set_option linter.all false
set_option maxRecDepth 100000
set_option maxHeartbeats 2000000
/-! The value layer, part 4: argument lists, displays, subscripts, slices, == and in. -/
namespace DL
open PySem PySem.Spec PyProof.Rows L2

/-- what holds of every context that we walk in -/
structure XG (X : Cx) : Prop where
  calm : X.calm = true
  room : Room 0 X.A
  nd : X.N.Nodup
theorem XG.eq {X : Cx} (h : XG X) : X.A.units + 64 < cLine := h.room.units

def sNil : Es := fun _ => M.pure []
def sCons (f : Ep) (h : Es) : Es := fun ρ => do let x ← f ρ; let xs ← h ρ; M.pure (x :: xs)
section
variable {X : Cx} {z : Zt} {W : WX} {k ka kb : Kd} {e a b : Expr} {es : List Expr} {f fa fb : Ep} {h : Es} {pos : Pos}
theorem da_nil : DA X z W [] sNil := by
  refine ⟨fun pos pins s σ H Q I ⟨ρ, g, Mu, E, G1, hx⟩ => ?_⟩
  exact Calls.spliced_nil ⟨[], H, I, .nil, hx [] H Ext.refl G1 .nil⟩
theorem das_nil : DAs X z W [] sNil := by
  refine ⟨fun pos pins s σ H Q I ⟨ρ, g, Mu, E, G1, hx⟩ => ?_⟩
  exact Calls.spliced_nil ⟨[], H, I, .nil, hx [] H Ext.refl G1 .nil⟩
theorem RKs.ext {K : PySem.W.Frag} {mg : Str → Option Value} {H H' : Hp} {Mu : List Addr} {g : G} (m : MuOk z Mu H) (G1 : GOk z H g) (e : Ext z H H') : ∀ {vs : List V} {ds : List D}, RKs K mg z Mu H vs ds → RKs K mg z Mu H' vs ds
  | _, _, .nil => .nil
  | _, _, .cons r t => .cons (r.ext m G1 e) (RKs.ext m G1 e t)
theorem da_cons (ha : DE X z W k a f) (hr : DA X z W es h) (hs : starEach (a :: es) X.env = (false, eval a X.env) :: starEach es X.env := by rfl) : DA X z W (a :: es) (sCons f h) := by
  refine ⟨fun pos pins s σ H Q I ⟨ρ, g, Mu, E, G1, hx⟩ => ?_⟩
  rw [hs]
  show wpAny _ _ (spliced ((false, eval a X.env) :: backTo pos (starEach es X.env))) _ _ s
  refine Calls.spliced_cons (de_run ha I E G1 (R.all_imp (R.all_bind hx) (fun d g1 hx v u H1 s1 I1 r1 e1 G2 E1 k1 => ?_) fun _ _ _ _ h => h))
  refine da_run hr I1 E1 G2 (R.all_imp (Raising.all (R.all_bind hx) e1) (fun ds g2 hx vs us H2 s2 I2 r2 e2 G3 E2 k2 => ?_) fun _ _ _ _ h => h)
  exact ⟨v :: vs, H2, I2, .cons r1 r2, hx (v :: vs) H2 (e1.trans e2) G3 (.cons ((k1.peek E.mu E1.mu G2).ext E1.mu G2 e2) k2)⟩
theorem das_cons (ha : DE X z W .sh a f) (hr : DAs X z W es h) (hs : starEach (a :: es) X.env = (false, eval a X.env) :: starEach es X.env := by rfl) : DAs X z W (a :: es) (sCons f h) := by
  refine ⟨fun pos pins s σ H Q I ⟨ρ, g, Mu, E, G1, hx⟩ => ?_⟩
  rw [hs]
  show wpAny _ _ (spliced ((false, eval a X.env) :: backTo pos (starEach es X.env))) _ _ s
  refine Calls.spliced_cons (de_run ha I E G1 (R.all_imp (R.all_bind hx) (fun d g1 hx v u H1 s1 I1 r1 e1 G2 E1 k1 => ?_) fun _ _ _ _ h => h))
  refine das_run hr I1 E1 G2 (R.all_imp (Raising.all (R.all_bind hx) e1) (fun ds g2 hx vs us H2 s2 I2 r2 e2 G3 E2 k2 => ?_) fun _ _ _ _ h => h)
  exact ⟨v :: vs, H2, I2, .cons r1 r2, hx (v :: vs) H2 (e1.trans e2) G3 (.cons (Rep.ext (show Rep X.K X.mg z Mu H1 v d from k1) E1.mu G2 e2) k2)⟩
/-! ### displays -/
def eTup (h : Es) : Ep := fun ρ => do let ds ← h ρ; ofOpt (if ds.length ≤ sizeLine then some (.tup ds) else none)
def eLst (h : Es) : Ep := fun ρ => do let ds ← h ρ; ofOpt (if ds.length ≤ sizeLine then some (.lst ds) else none)
theorem opt_if {α : Type} {c : Prop} [Decidable c] {a b : α} (h : (if c then some a else none) = some b) : c ∧ a = b := by
  split at h
  · exact ⟨by assumption, Option.some.inj h⟩
  · cases h
theorem de_tup {x1 : Nat} (hs : DAs X z W es h) : DE X z W .new (.Tuple es x1 pos) (eTup h) := by
  refine ⟨fun pins s σ H Q I ⟨ρ, g, Mu, E, G1, hx⟩ => ?_⟩
  refine wpAny_Tuple_spliced (das_run hs I E G1 (R.all_imp (R.all_bind hx) (fun ds g1 hx vs us H1 s1 I1 r1 e1 G2 E1 k1 => ?_) fun _ _ _ _ h => h))
  obtain ⟨d, hd, hx⟩ := R.all_opt hx
  obtain ⟨hz, rfl⟩ := opt_if hd
  have hz' : vs.length ≤ sizeLine := by rw [k1.length]; exact hz
  have hf : H1 s1.heap.objs.size = none := I1.hok.fresh (Nat.le_refl _)
  refine ⟨by rw [← r1.length]; exact hz', .ref s1.heap.objs.size, upd H1 s1.heap.objs.size (.tup vs), I1.laid (t' := s1.toks) (fun b u e => Heap.get?_push_of_some _ e) (Nat.le_refl _) ?_, rfl,
    hx _ _ (e1.trans (Ext.of (same_upd' hf))) (G2.same (same_upd' hf)) ((RK.tup E1.mu G2 hf k1).back e1 G2)⟩
  exact ⟨hz', us, r1, ⟨_, Heap.get?_push_size _ rfl, rfl, _, rfl⟩⟩
theorem de_lst (hs : DAs X z W es h) : DE X z W .new (.List es pos) (eLst h) := by
  refine ⟨fun pins s σ H Q I ⟨ρ, g, Mu, E, G1, hx⟩ => ?_⟩
  refine wpAny_List_spliced (das_run hs I E G1 (R.all_imp (R.all_bind hx) (fun ds g1 hx vs us H1 s1 I1 r1 e1 G2 E1 k1 => ?_) fun _ _ _ _ h => h))
  obtain ⟨d, hd, hx⟩ := R.all_opt hx
  obtain ⟨hz, rfl⟩ := opt_if hd
  have hz' : vs.length ≤ sizeLine := by rw [k1.length]; exact hz
  have hf : H1 s1.heap.objs.size = none := I1.hok.fresh (Nat.le_refl _)
  refine ⟨by rw [← r1.length]; exact hz', .ref s1.heap.objs.size, upd H1 s1.heap.objs.size (.lst vs), I1.laid (t' := s1.toks) (fun b u e => Heap.get?_push_of_some _ e) (Nat.le_refl _) ?_, rfl,
    hx _ _ (e1.trans (Ext.of (same_upd' hf))) (G2.same (same_upd' hf)) ((RK.lst E1.mu G2 hf k1).back e1 G2)⟩
  exact ⟨hz', us, 0, r1, Heap.get?_push_size _ rfl⟩
/-! ### subscripts -/
/-- an operation on two values behind a [..] -/
def dIx : D → D → Option D
  | .tup l, .int i => atI l i
  | .lst l, .int i => atI l i
  | _, _ => none
def DIx (X : Cx) (z : Zt) (h : D → D → Option D) : Prop :=
  ∀ (value slice : Expr) (pins : List (Addr × Obj)) (s : Shared) (σ : L2.St) (H : Hp) (Mu : List Addr) (g : G) (x y : V) (v u : Value) (dx dy d : D) (Q : VK), Inv X pins σ H s → MuOk z Mu H → GOk z H g → RelV x v → RelV y u → PR X.K X.mg z Mu H x dx → PR X.K X.mg z Mu H y dy →
    h dx dy = some d → (∀ v' H', Same H H' → Rep X.K X.mg z Mu H' v' d → Q v' H') → subscripted slice false v u = operate [v, u] (getItem v u) → wpAny (model X.prog X.w) X.A (subscriptTail value slice v u) (EP X pins σ Q) X.xe s
theorem Reps.atI {K : PySem.W.Frag} {mg : Str → Option Value} {H : Hp} {Mu : List Addr} {xs : List V} {ds : List D} {i : Int} {d : D} (r : Reps K mg z Mu H xs ds) (h : atI ds i = some d) : ∃ v, L2.atI xs i = some v ∧ Rep K mg z Mu H v d := by
  unfold L2.atI at h ⊢
  rw [r.length]
  cases q : ixN ds.length i with
  | none => rw [q] at h; cases h
  | some j =>
    rw [q] at h
    exact r.get' h
theorem ix_seq' : DIx X z dIx := by
  intro value slice pins s σ H Mu g x y v u dx dy d Q I m G1 rx ry px py hd q hs
  cases dx <;> cases dy <;> simp only [dIx, reduceCtorEq] at hd
  · obtain ⟨a, xs, rfl, _, hx, rx'⟩ := px.tup
    obtain rfl := py.int
    obtain ⟨w, hw, rw'⟩ := rx'.atI hd
    exact ix_tup value slice pins s σ H _ _ v u Q I rx ry ⟨a, xs, _, w, rfl, rfl, SqT.of hx, hw, q _ H Same.refl rw'⟩ hs
  · obtain ⟨a, xs, rfl, hx, rx'⟩ := px.lst
    obtain rfl := py.int
    obtain ⟨w, hw, rw'⟩ := rx'.atI hd
    exact ix_list value slice pins s σ H _ _ v u Q I rx ry ⟨a, xs, _, w, rfl, rfl, SqL.of hx, hw, q _ H Same.refl rw'⟩ hs
theorem de_ix {h : D → D → Option D} (ho : DIx X z h) (ha : DE X z W ka a fa) (hb : DE X z W kb b fb) (hs : PlainIx b := by exact fun _ _ => rfl) : DE X z W .sh (.Subscript a b pos) (eBin h fa fb) := by
  refine ⟨fun pins s σ H Q I ⟨ρ, g, Mu, E, G1, hx⟩ => ?_⟩
  refine Subscript_ (de_run ha I E G1 (R.all_imp (R.all_bind hx) (fun dx g1 hx v u H1 s1 I1 r1 e1 G2 E1 k1 => ?_) fun _ _ _ _ h => h))
  refine de_run hb I1 E1 G2 (R.all_imp (Raising.all (R.all_bind hx) e1) (fun dy g2 hx v' u' H2 s2 I2 r2 e2 G3 E2 k2 => ?_) fun _ _ _ _ h => h)
  obtain ⟨d, hd, hx⟩ := R.all_opt hx
  exact ho a b pins s2 σ H2 Mu g2 v v' u u' dx dy d Q I2 E2.mu G3 r1 r2 ((k1.peek E.mu E1.mu G2).ext E1.mu G2 e2) (k2.peek E1.mu E2.mu G3) hd
    (fun w H3 s3 k3 => hx w H3 ((e1.trans e2).trans (Ext.of s3)) (G3.same s3) k3) (hs _ _)
/-! ### slices -/
/-- the part of a list between two places -/
def cutD (xs : List D) (lo hi : Option Int) : List D := (xs.drop (HT.sIx xs.length 0 lo)).take (HT.sIx xs.length xs.length hi - HT.sIx xs.length 0 lo)
theorem Reps.cut {K : PySem.W.Frag} {mg : Str → Option Value} {H : Hp} {Mu : List Addr} {xs : List V} {ds : List D} (r : Reps K mg z Mu H xs ds) (lo hi : Option Int) : Reps K mg z Mu H (cutV xs lo hi) (cutD ds lo hi) := by
  unfold cutV cutD
  rw [r.length]
  exact (r.drop _).take _
abbrev Eo := Env → M (Option Int)
def oNone : Eo := fun _ => M.pure none
def oSome (f : Ep) : Eo := fun ρ => do
  let d ← f ρ
  match d with
  | .int i => M.pure (some i)
  | _ => stuck
theorem all_oSome {d : D} {P : Option Int → G → Prop} {E : Str → Str → List D → G → Prop} {g : G} (h : ((match d with | .int i => M.pure (some i) | _ => stuck) g : R (Option Int)).all P E) : ∃ i, d = .int i ∧ P (some i) g := by
  cases d <;> first | exact h.elim | exact ⟨_, rfl, h⟩
def tO (X : Cx) (z : Zt) (W : WX) (f : Eo) : TO := fun σ H Q => ∃ ρ g Mu, EnvOk X.K X.mg z Mu H σ ρ ∧ GOk z H g ∧
  (f ρ g).all (fun o g' => ∀ H', Ext z H H' → GOk z H' g' → Q o H') (XW X z W Mu σ H)
abbrev DO (X : Cx) (z : Zt) (W : WX) (e : Option Expr) (f : Eo) : Prop := PO X e (tO X z W f)
theorem do_none : DO X z W none oNone := by
  refine ⟨fun pins s σ H Q I ⟨ρ, g, Mu, E, G1, hx⟩ => ?_⟩
  rw [evalPart_none]
  exact wpAny_pure ⟨none, H, I, .none, hx H Ext.refl G1⟩
theorem do_some (ha : DE X z W k a f) : DO X z W (some a) (oSome f) := by
  refine ⟨fun pins s σ H Q I ⟨ρ, g, Mu, E, G1, hx⟩ => ?_⟩
  have hp := (po_some ha).run pins s σ H (fun o H' => Q o H') I ⟨ρ, g, Mu, E, G1, R.all_imp (R.all_bind hx) (fun d g1 hx v H' e1 G2 k1 => ?_) fun _ _ _ _ h => h⟩
  · exact hp
  · obtain ⟨i, rfl, hx⟩ := all_oSome hx
    exact ⟨i, (k1.peek E.mu (E.mu.ext (g := g) e1 G2) G2).int, hx H' e1 G2⟩
def dCut : D → Option Int → Option Int → Option D
  | .tup l, lo, hi => some (.tup (cutD l lo hi))
  | .lst l, lo, hi => some (.lst (cutD l lo hi))
  | _, _, _ => none
def eSl (f : Ep) (lo hi : Eo) : Ep := fun ρ => do let x ← f ρ; let l ← lo ρ; let u ← hi ρ; ofOpt (dCut x l u)
theorem do_run {oe : Option Expr} {f : Eo} {Q : Value → Shared → Prop} {pins : List (Addr × Obj)} {s : Shared} {σ : L2.St} {H : Hp} {Mu : List Addr} {ρ : Env} {g : G} (h : DO X z W oe f) (I : Inv X pins σ H s) (E : EnvOk X.K X.mg z Mu H σ ρ) (G1 : GOk z H g)
    (hx : (f ρ g).all (fun o g' => ∀ u H' s', Inv X pins σ H' s' → IsPart u o → Ext z H H' → GOk z H' g' → EnvOk X.K X.mg z Mu H' σ ρ → Q u s') (XW X z W Mu σ H)) :
    wpAny (model X.prog X.w) X.A (evalPart oe X.env) Q X.xe s := by
  refine thn (h.run pins s σ H (fun o H' => ∃ g', f ρ g = .ok o g' ∧ Ext z H H' ∧ GOk z H' g') I ⟨ρ, g, Mu, E, G1, ?_⟩) ?_
  · cases q : f ρ g with
    | stuck => rw [q] at hx; exact hx
    | ok d g' => exact fun H' e1 g1 => ⟨g', rfl, e1, g1⟩
    | exc c n l g' => rw [q] at hx; exact hx
  · rintro u s' ⟨o, H', I', r, g', q, e1, g1⟩
    rw [q] at hx
    exact hx u H' s' I' r e1 g1 (E.ext G1 e1 g1)
theorem de_sl {lo hi : Option Expr} {fl fh : Eo} {p2 : Pos} (ha : DE X z W ka a fa) (hl : DO X z W lo fl) (hh : DO X z W hi fh) : DE X z W .new (.Subscript a (.Slice lo hi none p2) pos) (eSl fa fl fh) := by
  refine ⟨fun pins s σ H Q I ⟨ρ, g, Mu, E, G1, hx⟩ => ?_⟩
  refine Subscript_ (de_run ha I E G1 (R.all_imp (R.all_bind hx) (fun dx g1 hx v u H1 s1 I1 r1 e1 G2 E1 k1 => ?_) fun _ _ _ _ h => h))
  refine wpAny_Slice (do_run hl I1 E1 G2 (R.all_imp (Raising.all (R.all_bind hx) e1) (fun l g2 hx vl H2 s2 I2 pl e2 G3 E2 => ?_) fun _ _ _ _ h => h))
  refine do_run hh I2 E2 G3 (R.all_imp (Raising.all (R.all_bind hx) (e1.trans e2)) (fun r g3 hx vu H3 s3 I3 pu e3 G4 E3 => ?_) fun _ _ _ _ h => h)
  obtain ⟨d, hd, hx⟩ := R.all_opt hx
  have px : PR X.K X.mg z Mu H3 v dx := (k1.peek E.mu E1.mu G2).ext E1.mu G2 (e2.trans e3)
  have e13 := (e1.trans e2).trans e3
  rw [evalPart_none]
  refine wpAny_pure ?_
  have I4 : Inv X pins σ H3 { s3 with heap := s3.heap.push { cls := .type "slice", data := .fields #[vl, vu, .none] } } := I3.kept (t' := s3.toks) fun b ob q => Heap.get?_push_of_some _ q
  have main : ∀ {r' : V → Option Int → Option Int → Hp → VK → Prop}, SlR X r' → r' v l r H3 Q →
      wpAny (model X.prog X.w) X.A (subscriptTail a (.Slice lo hi none p2) u (.ref s3.heap.objs.size)) (EP X pins σ Q) X.xe { s3 with heap := s3.heap.push { cls := .type "slice", data := .fields #[vl, vu, .none] } } := fun hr hq => by
    obtain ⟨T, id, hT, ht, hg⟩ := hr pins { s3 with heap := s3.heap.push { cls := .type "slice", data := .fields #[vl, vu, .none] } } σ H3 v u vl vu l r s3.heap.objs.size Q I4 r1 (Heap.IsSliceOf.new ..) pl pu hq
    exact tail_any (ops := [.ref s3.heap.objs.size, u]) ht hT hg (by with_unfolding_all rfl)
  cases dx <;> simp only [dCut, reduceCtorEq, Option.some.injEq] at hd
  · subst hd
    obtain ⟨p, xs, rfl, np, hp, rp⟩ := px.tup
    refine main sl_tupA ⟨p, xs, rfl, SqT.of hp, fun ⟨w1, w2⟩ => ?_, fun w q hq => ?_⟩
    · refine hx _ H3 e13 G4 (RK.tup_same np hp ?_)
      unfold cutD
      rw [rp.length] at w1 w2
      rw [w1, w2, Nat.sub_zero, List.drop_zero, List.take_length]
      exact rp
    · exact hx _ _ (e13.trans (Ext.of (same_upd' hq))) (G4.same (same_upd' hq)) ((RK.tup E3.mu G4 hq (rp.cut l r)).back e13 G4)
  · subst hd
    obtain ⟨p, xs, rfl, hp, rp⟩ := px.lst
    refine main sl_list ⟨p, xs, rfl, SqL.of hp, fun q hq => ?_⟩
    exact hx _ _ (e13.trans (Ext.of (same_upd' hq))) (G4.same (same_upd' hq)) ((RK.lst E3.mu G4 hq (rp.cut l r)).back e13 G4)
end
/-! ### the same as plain data -/
mutual
def D.py : D → Option PyData
  | .non => some .none
  | .bl b => some (.bool b)
  | .int i => some (.int i)
  | .str s => some (.str s)
  | .tup l => match D.pys l with
    | some xs => some (.tuple xs)
    | none => none
  | .lst l => match D.pys l with
    | some xs => some (.list xs)
    | none => none
  | .dct l => match D.pyKv l with
    | some xs => some (.dict xs)
    | none => none
  | .set _ => none
  | .st => none
  | .ty _ => none
  | .scr _ => none
  | .fn _ => none
  | .exc _ _ _ => none
def D.pys : List D → Option (List PyData)
  | [] => some []
  | d :: l => match D.py d, D.pys l with
    | some x, some xs => some (x :: xs)
    | _, _ => none
def D.pyKv : List (D × D) → Option (List (PyData × PyData))
  | [] => some []
  | (a, b) :: l => match D.py a, D.py b, D.pyKv l with
    | some x, some y, some xs => some ((x, y) :: xs)
    | _, _, _ => none
end
theorem py_tup {l : List D} {p : PyData} (h : (D.tup l).py = some p) : ∃ xs, D.pys l = some xs ∧ p = .tuple xs := by
  rw [D.py] at h
  split at h
  · rename_i xs q
    exact ⟨xs, q, (Option.some.inj h).symm⟩
  · cases h
theorem py_lst {l : List D} {p : PyData} (h : (D.lst l).py = some p) : ∃ xs, D.pys l = some xs ∧ p = .list xs := by
  rw [D.py] at h
  split at h
  · rename_i xs q
    exact ⟨xs, q, (Option.some.inj h).symm⟩
  · cases h
theorem py_dct {l : List (D × D)} {p : PyData} (h : (D.dct l).py = some p) : ∃ xs, D.pyKv l = some xs ∧ p = .dict xs := by
  rw [D.py] at h
  split at h
  · rename_i xs q
    exact ⟨xs, q, (Option.some.inj h).symm⟩
  · cases h
theorem pys_cons {d : D} {l : List D} {ps : List PyData} (h : D.pys (d :: l) = some ps) : ∃ x xs, d.py = some x ∧ D.pys l = some xs ∧ ps = x :: xs := by
  rw [D.pys] at h
  split at h
  · rename_i x xs q1 q2
    exact ⟨x, xs, q1, q2, (Option.some.inj h).symm⟩
  · cases h
theorem pyKv_split : ∀ {l : List (D × D)} {ps : List (PyData × PyData)}, D.pyKv l = some ps → D.pys (l.map (·.1)) = some (ps.map (·.1)) ∧ D.pys (l.map (·.2)) = some (ps.map (·.2))
  | [], ps, h => by
    rw [D.pyKv] at h
    cases h
    exact ⟨by rw [List.map_nil, D.pys]; rfl, by rw [List.map_nil, D.pys]; rfl⟩
  | (a, b) :: l, ps, h => by
    rw [D.pyKv] at h
    split at h
    · rename_i x y xs q1 q2 q3
      cases h
      obtain ⟨h1, h2⟩ := pyKv_split q3
      constructor
      · rw [List.map_cons, D.pys, q1, h1]; rfl
      · rw [List.map_cons, D.pys, q2, h2]; rfl
    · cases h
section
variable {X : Cx} {z : Zt} {pins : List (Addr × Obj)} {σ : L2.St} {H : Hp} {s : Shared} {Mu : List Addr}
mutual
theorem Rep.reads (I : Inv X pins σ H s) : ∀ {v : V} {d : D} {u : Value} {p : PyData}, Rep X.K X.mg z Mu H v d → RelV v u → d.py = some p → ∃ as, Reads s.heap u p as
  | _, _, _, _, .non, r, h => by
    rw [D.py] at h; cases h; cases r
    exact ⟨_, Reads.none⟩
  | _, _, _, _, .bl b, r, h => by
    rw [D.py] at h; cases h; cases r
    exact ⟨_, Reads.bool b⟩
  | _, _, _, _, .int i, r, h => by
    rw [D.py] at h; cases h
    obtain ⟨t, rfl⟩ := r
    exact ⟨_, Reads.int i t⟩
  | _, _, _, _, .str x, r, h => by
    rw [D.py] at h; cases h
    obtain ⟨t, rfl⟩ := r
    exact ⟨_, Reads.str x t⟩
  | _, _, _, _, .tup _ hq rs, r, h => by
    obtain ⟨ps, hp, rfl⟩ := py_tup h
    cases r
    obtain ⟨its, rv, ⟨o, ho, hc, n, hd⟩, _⟩ := I.tuple (SqT.of hq)
    obtain ⟨as, hr⟩ := Reps.reads I rs rv hp
    exact ⟨_, Reads.tuple ho hc hd hr⟩
  | _, _, _, _, .lst _ hq rs, r, h => by
    obtain ⟨ps, hp, rfl⟩ := py_lst h
    cases r
    obtain ⟨its, rv, ⟨o, n, ho, hc, _, hd⟩, _⟩ := I.list (SqL.of hq)
    obtain ⟨as, hr⟩ := Reps.reads I rs rv hp
    exact ⟨_, Reads.list ho hc hd hr⟩
  | _, _, _, _, .dct (a := a) (o := o) _ ho _ hex hd _ ⟨k1, k2⟩ r1 r2, r, h => by
    obtain ⟨ps, hp, rfl⟩ := py_dct h
    obtain ⟨p1, p2⟩ := pyKv_split hp
    cases r
    obtain ⟨as, h1⟩ := Reps.reads I r1 k1 p1
    obtain ⟨bs, h2⟩ := Reps.reads I r2 k2 p2
    have ho' : s.heap.get? a = some o := (I.hok a _ ho).1
    exact ⟨_, Reads.dict ho' hex.1 hd h1 h2⟩
  | _, _, _, _, .st, _, h => by rw [D.py] at h; cases h
  | _, _, _, _, .ty _, _, h => by rw [D.py] at h; cases h
  | _, _, _, _, .scrR _ _, _, h => by rw [D.py] at h; cases h
  | _, _, _, _, .scrK _ _ _ _ _ _, _, h => by rw [D.py] at h; cases h
  | _, _, _, _, .fn _, _, h => by rw [D.py] at h; cases h
  | _, _, _, _, .exc0 _ _ _, _, h => by rw [D.py] at h; cases h
  | _, _, _, _, .exc1 _ _ _ _ _ _, _, h => by rw [D.py] at h; cases h
theorem Reps.reads (I : Inv X pins σ H s) : ∀ {vs : List V} {ds : List D} {us : List Value} {ps : List PyData}, Reps X.K X.mg z Mu H vs ds → Vals vs us → D.pys ds = some ps → ∃ as, ReadsAll s.heap us ps as
  | _, _, _, _, .nil, .nil, h => by
    rw [D.pys] at h; cases h
    exact ⟨_, .nil⟩
  | _, _, _, _, .cons r rs, .cons q qs, h => by
    obtain ⟨x, xs, h1, h2, rfl⟩ := pys_cons h
    obtain ⟨as, a1⟩ := Rep.reads I r q h1
    obtain ⟨bs, b1⟩ := Reps.reads I rs qs h2
    exact ⟨_, .cons a1 b1⟩
end
theorem PR.reads {v : V} {d : D} {u : Value} {p : PyData} (I : Inv X pins σ H s) (r : PR X.K X.mg z Mu H v d) (q : RelV v u) (h : d.py = some p) : ∃ as, Reads s.heap u p as := by
  rcases r with r | ⟨a, rfl, _, _, _, _, c⟩
  · exact r.reads I q h
  · cases c with
    | lst hq rs =>
      obtain ⟨ps, hp, rfl⟩ := py_lst h
      cases q
      obtain ⟨its, rv, ⟨o, n, ho, hc, _, hd⟩, _⟩ := I.list (SqL.of hq)
      obtain ⟨as, hr⟩ := rs.reads I rv hp
      exact ⟨_, Reads.list ho hc hd hr⟩
    | dct ho _ hex hd _ hk r1 r2 =>
      obtain ⟨k1, k2⟩ := hk
      obtain ⟨ps, hp, rfl⟩ := py_dct h
      obtain ⟨p1, p2⟩ := pyKv_split hp
      cases q
      obtain ⟨as, h1⟩ := r1.reads I k1 p1
      obtain ⟨bs, h2⟩ := r2.reads I k2 p2
      exact ⟨_, Reads.dict (I.hok a _ ho).1 hex.1 hd h1 h2⟩
end
/-- == of two values that are plain data without dicts -/
def dEqP (a b : D) : Option Bool :=
  match a.py, b.py with
  | some x, some y => if SeqAt.shaped x = true ∧ SeqAt.shaped y = true then some (PyData.eqv x y) else none
  | _, _ => none
def dEqB : D → D → Option Bool
  | .str x, .str y => some (decide (x = y))
  | a, b => dEqP a b
def dEq (a b : D) : Option D := (dEqB a b).map D.bl
def dNe (a b : D) : Option D := (dEqB a b).map fun c => D.bl (!c)
theorem dEqP_some {a b : D} {c : Bool} (h : dEqP a b = some c) : ∃ x y, a.py = some x ∧ b.py = some y ∧ SeqAt.shaped x = true ∧ SeqAt.shaped y = true ∧ c = PyData.eqv x y := by
  unfold dEqP at h
  split at h
  · rename_i x y q1 q2
    obtain ⟨⟨h1, h2⟩, e⟩ := opt_if h
    exact ⟨x, y, q1, q2, h1, h2, e.symm⟩
  · cases h
theorem dEqB_some {a b : D} {c : Bool} (h : dEqB a b = some c) : (∃ x y, a = .str x ∧ b = .str y ∧ c = decide (x = y)) ∨ dEqP a b = some c := by
  cases a <;> cases b <;> first | exact .inr h | exact .inl ⟨_, _, rfl, rfl, (Option.some.inj h).symm⟩
section
variable {X : Cx} {z : Zt} {W : WX} {k ka kb : Kd} {e a b : Expr}
theorem op_dEq (hX : XG X) : DOp X z .new (compareOp .Eq) dEq := by
  intro pins s σ H Mu g x y v u dx dy d Q I m G1 rx ry px py hd q
  obtain ⟨c, hc, rfl⟩ := Option.map_eq_some_iff.mp hd
  rcases dEqB_some hc with ⟨a, b, rfl, rfl, rfl⟩ | hc
  · have e1 := px.str
    have e2 := py.str
    subst e1 e2
    refine L2.op_eq pins s σ H _ _ v u Q I rx ry ⟨rfl, ?_⟩
    have e : decide (V.str a = V.str b) = decide (a = b) := by
      by_cases h : a = b
      · rw [h]; simp
      · rw [decide_eq_false h, decide_eq_false fun w => h (V.str.inj w)]
    rw [e]
    exact q _ H Same.refl RK.bl
  obtain ⟨p1, p2, h1, h2, s1, s2, rfl⟩ := dEqP_some hc
  obtain ⟨as, r1⟩ := px.reads I rx h1
  obtain ⟨bs, r2⟩ := py.reads I ry h2
  exact eq_dataH r1 r2 s1 s2 hX.eq ⟨.bl _, H, I, rfl, q _ H Same.refl RK.bl⟩
theorem op_dNe (hX : XG X) : DOp X z .new (compareOp .NotEq) dNe := by
  intro pins s σ H Mu g x y v u dx dy d Q I m G1 rx ry px py hd q
  obtain ⟨c, hc, rfl⟩ := Option.map_eq_some_iff.mp hd
  rcases dEqB_some hc with ⟨a, b, rfl, rfl, rfl⟩ | hc
  · have e1 := px.str
    have e2 := py.str
    subst e1 e2
    refine L2.op_ne pins s σ H _ _ v u Q I rx ry ⟨rfl, ?_⟩
    have e : decide (V.str a = V.str b) = decide (a = b) := by
      by_cases h : a = b
      · rw [h]; simp
      · rw [decide_eq_false h, decide_eq_false fun w => h (V.str.inj w)]
    rw [e]
    exact q _ H Same.refl RK.bl
  obtain ⟨p1, p2, h1, h2, s1, s2, rfl⟩ := dEqP_some hc
  obtain ⟨as, r1⟩ := px.reads I rx h1
  obtain ⟨bs, r2⟩ := py.reads I ry h2
  exact ne_dataH r1 r2 s1 s2 hX.eq ⟨.bl _, H, I, rfl, q _ H Same.refl RK.bl⟩
/-- is, is not: None, True, False on the right -/
def dIs : D → D → Option D
  | .non, .non => some (.bl true)
  | _, .non => some (.bl false)
  | .bl a, .bl b => some (.bl (decide (a = b)))
  | _, _ => none
def dIsN (a b : D) : Option D := match dIs a b with
  | some (.bl c) => some (.bl (!c))
  | _ => none
end
end DL
set_option Elab.async false
set_option linter.all false
set_option maxRecDepth 100000
set_option maxHeartbeats 2000000
/-! The value layer, part 5: calls of built-ins. -/
namespace DL
open PySem PySem.Spec PyProof.Rows L2

/-- the call of the value f with values comes to h of what they read as -/
def DCall (X : Cx) (z : Zt) (k : Kd) (f : Value) (h : List D → Option D) : Prop :=
  ∀ (pins : List (Addr × Obj)) (s : Shared) (σ : L2.St) (H : Hp) (Mu : List Addr) (g : G) (xs : List V) (us : List Value) (ds : List D) (d : D) (Q : VK), Inv X pins σ H s → MuOk z Mu H → GOk z H g → Vals xs us → RKs X.K X.mg z Mu H xs ds →
    h ds = some d → (∀ v' H', Same H H' → RK X.K X.mg z k H Mu H' v' d → Q v' H') → wpAny (model X.prog X.w) X.A (call f us) (EP X pins σ Q) X.xe s
def eCall (h : List D → Option D) (fs : Es) : Ep := fun ρ => do let ds ← fs ρ; ofOpt (h ds)
section
variable {X : Cx} {z : Zt} {W : WX} {k ka : Kd} {e : Expr} {es : List Expr} {fs : Es} {x : Str} {p pos : Pos} {id T : String} {h : List D → Option D}
theorem de_callB (hc : DCall X z k (.builtin id) h) (hg : Gl X x) (hm : X.mg x = none) (hv : bootBuiltins x = some (.builtin id)) (ha : DA X z W (e :: es) fs) (hn : x ≠ "__name__" := by decide) (hdb : (x == ("__debug__" : Str)) = false := by decide)
    (he : starEach (e :: es) X.env = (false, eval e X.env) :: starEach es X.env := by rfl) (hpl : (backTo pos (starEach es X.env)).any (·.1) = false := by rfl) : DE X z W k (.Call (.Name x p) (e :: es) [] pos) (eCall h fs) := by
  refine ⟨fun pins s σ H Q I ⟨ρ, g, Mu, E, G1, hx⟩ => ?_⟩
  refine wpAny_Call_Name_kw (ld_blt I hg hm hv ?_ hn hdb)
  refine PyProof.Rows.callWith_builtin1 (da_run ha I E G1 (R.all_imp (R.all_bind hx) (fun ds g1 hx vs us H1 s1 I1 r1 e1 G2 E1 k1 => ?_) fun _ _ _ _ h => h)) he hpl
  obtain ⟨d, hd, hx⟩ := R.all_opt hx
  exact hc pins s1 σ H1 Mu g1 vs us ds d Q I1 E1.mu G2 r1 k1 hd fun w H2 s2 k2 => hx w H2 (e1.trans (Ext.of s2)) (G2.same s2) (k2.back e1 G2)
theorem de_callTy (hc : DCall X z k (.type T) h) (hg : Gl X x) (hm : X.mg x = none) (hv : bootBuiltins x = some (.type T)) (ha : DA X z W (e :: es) fs) (hn : x ≠ "__name__" := by decide) (hdb : (x == ("__debug__" : Str)) = false := by decide)
    (he : starEach (e :: es) X.env = (false, eval e X.env) :: starEach es X.env := by rfl) (hpl : (backTo pos (starEach es X.env)).any (·.1) = false := by rfl) : DE X z W k (.Call (.Name x p) (e :: es) [] pos) (eCall h fs) := by
  refine ⟨fun pins s σ H Q I ⟨ρ, g, Mu, E, G1, hx⟩ => ?_⟩
  refine wpAny_Call_Name_kw (ld_blt I hg hm hv ?_ hn hdb)
  refine PyProof.Rows.callWith_type1 (da_run ha I E G1 (R.all_imp (R.all_bind hx) (fun ds g1 hx vs us H1 s1 I1 r1 e1 G2 E1 k1 => ?_) fun _ _ _ _ h => h)) he hpl
  obtain ⟨d, hd, hx⟩ := R.all_opt hx
  exact hc pins s1 σ H1 Mu g1 vs us ds d Q I1 E1.mu G2 r1 k1 hd fun w H2 s2 k2 => hx w H2 (e1.trans (Ext.of s2)) (G2.same s2) (k2.back e1 G2)
end
theorem RKs.one {K : PySem.W.Frag} {mg : Str → Option Value} {z : Zt} {Mu : List Addr} {H : Hp} {xs : List V} {d : D} (r : RKs K mg z Mu H xs [d]) : ∃ v, xs = [v] ∧ PR K mg z Mu H v d := by
  cases r with
  | cons r t => cases t; exact ⟨_, rfl, r⟩
theorem RKs.two {K : PySem.W.Frag} {mg : Str → Option Value} {z : Zt} {Mu : List Addr} {H : Hp} {xs : List V} {d d' : D} (r : RKs K mg z Mu H xs [d, d']) : ∃ v w, xs = [v, w] ∧ PR K mg z Mu H v d ∧ PR K mg z Mu H w d' := by
  cases r with
  | cons r t =>
    cases t with
    | cons r' t => cases t; exact ⟨_, _, rfl, r, r'⟩

theorem PR.dct {K : PySem.W.Frag} {mg : Str → Option Value} {z : Zt} {Mu : List Addr} {H : Hp} {v : V} {l : List (D × D)} (r : PR K mg z Mu H v (.dct l)) :
    ∃ a o es ep ks vs, v = .ref a ∧ H a = some (ObV a o) ∧ (a == sysModules) = false ∧ o.ExactDict ∧ o.data = .dict es ep ∧ es.size ≤ sizeLine ∧ EnK ks vs es ∧ Reps K mg z Mu H ks (l.map (·.1)) ∧ Reps K mg z Mu H vs (l.map (·.2)) := by
  rcases r with r | ⟨a, rfl, _, _, _, _, c⟩
  · cases r with | dct _ h h1 h2 h3 h4 h5 r1 r2 => exact ⟨_, _, _, _, _, _, rfl, h, h1, h2, h3, h4, h5, r1, r2⟩
  · cases c with | dct h h1 h2 h3 h4 h5 r1 r2 => exact ⟨_, _, _, _, _, _, rfl, h, h1, h2, h3, h4, h5, r1, r2⟩
theorem EnK.size {K : PySem.W.Frag} {mg : Str → Option Value} {z : Zt} {Mu : List Addr} {H : Hp} {ks vs : List V} {es : Array DictEntry} {l : List D} (h : EnK ks vs es) (r : Reps K mg z Mu H ks l) : es.size = l.length := by
  have e : ks.length = (es.toList.map (·.key)).length := Vals.length h.1
  rw [List.length_map, r.length] at e
  rw [← Array.length_toList]
  exact e.symm

/-! ### the built-ins as functions -/
def fAbs : List D → Option D
  | [.int i] => some (.int (if i < 0 then -i else i))
  | _ => none
def fInt : List D → Option D
  | [.int i] => some (.int i)
  | [.bl b] => some (.int (if b then 1 else 0))
  | _ => none
def fLen : List D → Option D
  | [.tup l] => some (.int l.length)
  | [.lst l] => some (.int l.length)
  | [.dct l] => some (.int l.length)
  | [.scr n] => some (.int n)
  | [.str x] => if x.length ≤ sizeLine then some (.int x.length) else none
  | _ => none
def fMin2 : List D → Option D
  | [.int i, .int j] => some (.int (if j < i then j else i))
  | _ => none
def fMax2 : List D → Option D
  | [.int i, .int j] => some (.int (if j > i then j else i))
  | _ => none
/-- a list's numbers, if it has nothing else -/
def intsOf : List D → Option (List Int)
  | [] => some []
  | .int i :: l => (intsOf l).map (i :: ·)
  | _ => none
def blsOf : List D → Option (List Bool)
  | [] => some []
  | .bl i :: l => (blsOf l).map (i :: ·)
  | _ => none
def fSum : List D → Option D
  | [.lst l] => (intsOf l).map fun ns => .int ns.sum
  | _ => none
def fAll : List D → Option D
  | [.lst l] => (blsOf l).map fun bs => .bl (bs.all id)
  | _ => none
def fAny : List D → Option D
  | [.lst l] => (blsOf l).map fun bs => .bl (bs.any id)
  | _ => none
def fTuple : List D → Option D
  | [.lst l] => some (.tup l)
  | [.tup l] => some (.tup l)
  | _ => none
def fList : List D → Option D
  | [.lst l] => some (.lst l)
  | [.tup l] => some (.lst l)
  | _ => none
theorem intsOf_eq : ∀ {l : List D} {ns : List Int}, intsOf l = some ns → l = ns.map D.int
  | [], ns, h => by cases h; rfl
  | .int i :: l, ns, h => by
    obtain ⟨ms, h1, rfl⟩ := Option.map_eq_some_iff.mp h
    rw [intsOf_eq h1]; rfl
  | .non :: _, _, h => by cases h
  | .bl _ :: _, _, h => by cases h
  | .str _ :: _, _, h => by cases h
  | .tup _ :: _, _, h => by cases h
  | .lst _ :: _, _, h => by cases h
  | .dct _ :: _, _, h => by cases h
  | .set _ :: _, _, h => by cases h
  | .st :: _, _, h => by cases h
  | .fn _ :: _, _, h => by cases h
  | .exc _ _ _ :: _, _, h => by cases h
theorem intsOf_map (ns : List Int) : intsOf (ns.map D.int) = some ns := by
  induction ns with
  | nil => rfl
  | cons n ns ih => rw [List.map_cons, intsOf, ih]; rfl
theorem blsOf_eq : ∀ {l : List D} {ns : List Bool}, blsOf l = some ns → l = ns.map D.bl
  | [], ns, h => by cases h; rfl
  | .bl i :: l, ns, h => by
    obtain ⟨ms, h1, rfl⟩ := Option.map_eq_some_iff.mp h
    rw [blsOf_eq h1]; rfl
  | .non :: _, _, h => by cases h
  | .int _ :: _, _, h => by cases h
  | .str _ :: _, _, h => by cases h
  | .tup _ :: _, _, h => by cases h
  | .lst _ :: _, _, h => by cases h
  | .dct _ :: _, _, h => by cases h
  | .set _ :: _, _, h => by cases h
  | .st :: _, _, h => by cases h
  | .fn _ :: _, _, h => by cases h
  | .exc _ _ _ :: _, _, h => by cases h
theorem blsOf_map (ns : List Bool) : blsOf (ns.map D.bl) = some ns := by
  induction ns with
  | nil => rfl
  | cons n ns ih => rw [List.map_cons, blsOf, ih]; rfl
section
variable {K : PySem.W.Frag} {mg : Str → Option Value} {z : Zt} {Mu : List Addr} {H : Hp}
theorem Reps.unInts : ∀ {xs : List V} {ns : List Int}, Reps K mg z Mu H xs (ns.map D.int) → xs = ns.map V.int
  | _, [], .nil => rfl
  | _, n :: ns, .cons r t => by
    cases r
    rw [Reps.unInts t]; rfl
theorem Reps.unBls : ∀ {xs : List V} {ns : List Bool}, Reps K mg z Mu H xs (ns.map D.bl) → xs = ns.map V.bl
  | _, [], .nil => rfl
  | _, n :: ns, .cons r t => by
    cases r
    rw [Reps.unBls t]; rfl
end
section
variable {X : Cx} {z : Zt} {W : WX}
theorem call_abs' : DCall X z .new (.builtin "abs") fAbs := by
  intro pins s σ H Mu g xs us ds d Q I m G1 r ks hd q
  unfold fAbs at hd
  split at hd
  · cases hd
    obtain ⟨v, rfl, p⟩ := ks.one
    obtain rfl := p.int
    exact L2.call_abs pins s σ H _ us Q I r ⟨_, rfl, q _ H Same.refl RK.int⟩
  · cases hd
theorem call_int' : DCall X z .new (.type "int") fInt := by
  intro pins s σ H Mu g xs us ds d Q I m G1 r ks hd q
  unfold fInt at hd
  split at hd
  · cases hd
    obtain ⟨v, rfl, p⟩ := ks.one
    obtain rfl := p.int
    exact L2.call_int1 pins s σ H _ us Q I r (.inl ⟨_, rfl, q _ H Same.refl RK.int⟩)
  · cases hd
    obtain ⟨v, rfl, p⟩ := ks.one
    obtain rfl := p.bl
    exact L2.call_int1 pins s σ H _ us Q I r (.inr ⟨_, rfl, q _ H Same.refl RK.int⟩)
  · cases hd
theorem call_len' : DCall X z .new (.builtin "len") fLen := by
  intro pins s σ H Mu g xs us ds d Q I m G1 r ks hd q
  unfold fLen at hd
  split at hd
  · cases hd
    obtain ⟨v, rfl, p⟩ := ks.one
    obtain ⟨a, ys, rfl, _, hs, rs⟩ := p.tup
    refine L2.call_len pins s σ H _ us Q I r ⟨_, ys.length, rfl, .inr ⟨ys, SqT.of hs, rfl⟩, ?_⟩
    rw [rs.length]
    exact q _ H Same.refl RK.int
  · cases hd
    obtain ⟨v, rfl, p⟩ := ks.one
    obtain ⟨a, ys, rfl, hs, rs⟩ := p.lst
    refine L2.call_len pins s σ H _ us Q I r ⟨_, ys.length, rfl, .inl ⟨ys, SqL.of hs, rfl⟩, ?_⟩
    rw [rs.length]
    exact q _ H Same.refl RK.int
  · cases hd
    obtain ⟨v, rfl, p⟩ := ks.one
    obtain ⟨a, o, es, ep, kk, vv, rfl, ho, hsys, hex, hdt, hz, en, r1, r2⟩ := p.dct
    obtain ⟨u, rfl, ru⟩ := vals1 r
    cases ru
    have hl := en.size r1
    have raw : s.heap.DictRaw a es ep := ⟨o, (I.hok a _ ho).1, hex, hdt⟩
    refine call_len_slot (n := (es.size : Nat)) raw.typeIs F.slot_dict_len (fun Q' hq => call_len_raw hsys raw hq) (by omega) (by rw [sizeLine_eq] at hz; omega) ?_
    rw [hl, List.length_map]
    exact ⟨.int _, H, I.tok _, ⟨_, rfl⟩, q _ H Same.refl RK.int⟩
  · cases hd
    obtain ⟨v, rfl, p⟩ := ks.one
    rcases p with p | ⟨_, _, _, _, _, _, c⟩
    · cases p with
      | scrR _ h => exact L2.call_len pins s σ H _ us Q I r ⟨_, _, rfl, .inl ⟨_, .inl h, rfl⟩, q _ H Same.refl RK.int⟩
      | scrK h1 h2 h3 h4 h5 h6 => exact L2.call_len pins s σ H _ us Q I r ⟨_, _, rfl, .inl ⟨_, .inr ⟨_, _, _, h1, h2, h3, h4, h5, h6⟩, rfl⟩, q _ H Same.refl RK.int⟩
    · cases c
  · obtain ⟨hz, e⟩ := opt_if hd
    subst e
    obtain ⟨v, rfl, p⟩ := ks.one
    obtain rfl := p.str
    exact L2.call_len pins s σ H _ us Q I r ⟨_, _, rfl, ⟨hz, rfl⟩, q _ H Same.refl RK.int⟩
  · cases hd
theorem call_min2' (hX : XG X) : DCall X z .new (.builtin "min") fMin2 := by
  intro pins s σ H Mu g xs us ds d Q I m G1 r ks hd q
  unfold fMin2 at hd
  split at hd
  · cases hd
    obtain ⟨v, w, rfl, p1, p2⟩ := ks.two
    obtain rfl := p1.int
    obtain rfl := p2.int
    exact L2.call_min2 hX.calm pins s σ H _ us Q I r ⟨_, _, rfl, q _ H Same.refl RK.int⟩
  · cases hd
theorem call_max2' (hX : XG X) : DCall X z .new (.builtin "max") fMax2 := by
  intro pins s σ H Mu g xs us ds d Q I m G1 r ks hd q
  unfold fMax2 at hd
  split at hd
  · cases hd
    obtain ⟨v, w, rfl, p1, p2⟩ := ks.two
    obtain rfl := p1.int
    obtain rfl := p2.int
    exact L2.call_max2 hX.calm pins s σ H _ us Q I r ⟨_, _, rfl, q _ H Same.refl RK.int⟩
  · cases hd
theorem call_sum' (hX : XG X) : DCall X z .new (.builtin "sum") fSum := by
  intro pins s σ H Mu g xs us ds d Q I m G1 r ks hd q
  unfold fSum at hd
  split at hd
  · obtain ⟨ns, h1, rfl⟩ := Option.map_eq_some_iff.mp hd
    have e := intsOf_eq h1
    subst e
    obtain ⟨v, rfl, p⟩ := ks.one
    obtain ⟨a, ys, rfl, hs, rs⟩ := p.lst
    have e := rs.unInts
    subst e
    exact L2.cr_sum hX.calm pins s σ H _ us Q I r ⟨a, ns, rfl, SqL.of hs, q _ H Same.refl RK.int⟩
  · cases hd
theorem call_all' (hX : XG X) : DCall X z .new (.builtin "all") fAll := by
  intro pins s σ H Mu g xs us ds d Q I m G1 r ks hd q
  unfold fAll at hd
  split at hd
  · obtain ⟨ns, h1, rfl⟩ := Option.map_eq_some_iff.mp hd
    have e := blsOf_eq h1
    subst e
    obtain ⟨v, rfl, p⟩ := ks.one
    obtain ⟨a, ys, rfl, hs, rs⟩ := p.lst
    have e := rs.unBls
    subst e
    exact L2.cr_all hX.calm pins s σ H _ us Q I r ⟨a, ns, rfl, SqL.of hs, q _ H Same.refl RK.bl⟩
  · cases hd
theorem call_any' (hX : XG X) : DCall X z .new (.builtin "any") fAny := by
  intro pins s σ H Mu g xs us ds d Q I m G1 r ks hd q
  unfold fAny at hd
  split at hd
  · obtain ⟨ns, h1, rfl⟩ := Option.map_eq_some_iff.mp hd
    have e := blsOf_eq h1
    subst e
    obtain ⟨v, rfl, p⟩ := ks.one
    obtain ⟨a, ys, rfl, hs, rs⟩ := p.lst
    have e := rs.unBls
    subst e
    exact L2.cr_any hX.calm pins s σ H _ us Q I r ⟨a, ns, rfl, SqL.of hs, q _ H Same.refl RK.bl⟩
  · cases hd
theorem call_tuple' : DCall X z .new (.type "tuple") fTuple := by
  intro pins s σ H Mu g xs us ds d Q I m G1 r ks hd q
  unfold fTuple at hd
  split at hd
  · cases hd
    obtain ⟨v, rfl, p⟩ := ks.one
    obtain ⟨a, ys, rfl, hs, rs⟩ := p.lst
    exact L2.call_tuple_of pins s σ H _ us Q I r ⟨a, ys, rfl, .inl ⟨SqL.of hs, fun t ht => q _ _ (same_upd' ht) (RK.tup m G1 ht rs)⟩⟩
  · cases hd
    obtain ⟨v, rfl, p⟩ := ks.one
    obtain ⟨a, ys, rfl, ns, hs, rs⟩ := p.tup
    exact L2.call_tuple_of pins s σ H _ us Q I r ⟨a, ys, rfl, .inr ⟨SqT.of hs, q _ H Same.refl (RK.tup_same ns hs rs)⟩⟩
  · cases hd
theorem call_list' : DCall X z .new (.type "list") fList := by
  intro pins s σ H Mu g xs us ds d Q I m G1 r ks hd q
  unfold fList at hd
  split at hd
  · cases hd
    obtain ⟨v, rfl, p⟩ := ks.one
    obtain ⟨a, ys, rfl, hs, rs⟩ := p.lst
    exact L2.call_list_of pins s σ H _ us Q I r ⟨a, ys, rfl, .inl (SqL.of hs), fun t ht => q _ _ (same_upd' ht) (RK.lst m G1 ht rs)⟩
  · cases hd
    obtain ⟨v, rfl, p⟩ := ks.one
    obtain ⟨a, ys, rfl, ns, hs, rs⟩ := p.tup
    exact L2.call_list_of pins s σ H _ us Q I r ⟨a, ys, rfl, .inr (SqT.of hs), fun t ht => q _ _ (same_upd' ht) (RK.lst m G1 ht rs)⟩
  · cases hd
end
/-! ### sorted -/
def alikeB (ps : List PyData) : Bool := ps.all fun p => ps.all fun q => PySem.W.alike p q
def sortB (ps : List PyData) : Bool := (ps.all fun p => match p with | .tuple (_ :: _) => true | _ => false) || ps.all fun p => match p with | .none => false | .tuple _ => false | _ => true
def sortOk (ps : List PyData) : Bool := alikeB ps && sortB ps && ps.all fun p => decide (p.depth ≤ 64)
def pyD (d : D) : PyData := d.py.getD .none
def sortD (l : List D) : Option (List D) := match D.pys l with
  | some ps => if sortOk ps = true ∧ l.length ≤ sizeLine then some (l.mergeSort (PySem.W.dataLe false pyD)) else none
  | none => none
def fSorted : List D → Option D
  | [.lst l] => (sortD l).map D.lst
  | [.tup l] => (sortD l).map D.lst
  | _ => none
theorem pys_map : ∀ {l : List D} {ps : List PyData}, D.pys l = some ps → l.map pyD = ps
  | [], ps, h => by rw [D.pys] at h; cases h; rfl
  | d :: l, ps, h => by
    obtain ⟨x, xs, h1, h2, rfl⟩ := pys_cons h
    rw [List.map_cons, pys_map h2]
    unfold pyD
    rw [h1]; rfl
theorem sortOk_all {ps : List PyData} (h : sortOk ps = true) : PySem.W.AllAlike ps ∧ PySem.W.Sortable ps ∧ ∀ p ∈ ps, p.depth ≤ 64 := by
  unfold sortOk at h
  simp only [Bool.and_eq_true] at h
  obtain ⟨⟨h1, h2⟩, h3⟩ := h
  refine ⟨fun d hd d' hd' => List.all_eq_true.mp (List.all_eq_true.mp h1 d hd) d' hd', ?_, fun p hp => of_decide_eq_true (List.all_eq_true.mp h3 p hp)⟩
  unfold sortB at h2
  rcases Bool.or_eq_true_iff.mp h2 with h | h
  · refine .inl fun d hd => ?_
    have q := List.all_eq_true.mp h d hd
    cases d with
    | tuple xs =>
      cases xs with
      | nil => cases q
      | cons x r => exact ⟨x, r, rfl⟩
    | _ => cases q
  · refine .inr fun d hd => ?_
    have q := List.all_eq_true.mp h d hd
    refine ⟨fun e => ?_, fun xs e => ?_⟩
    · subst e; cases q
    · subst e; cases q
section
variable {X : Cx} {z : Zt} {pins : List (Addr × Obj)} {σ : L2.St} {H : Hp} {s : Shared} {Mu : List Addr}
/-- values beside what they read as -/
theorem each_of (I : Inv X pins σ H s) : ∀ {xs : List V} {us : List Value} {ds : List D} {ps : List PyData}, Vals xs us → Reps X.K X.mg z Mu H xs ds → D.pys ds = some ps →
    PySem.W.EachIs (fun u d => (∃ v, RelV v u ∧ Rep X.K X.mg z Mu H v d) ∧ ∃ as, Reads s.heap u (pyD d) as) us ds
  | _, _, _, _, .nil, .nil, _ => .nil
  | _, _, _, _, .cons r t, .cons q qs, h => by
    obtain ⟨x, xs, h1, h2, rfl⟩ := pys_cons h
    refine .cons ⟨⟨_, r, q⟩, ?_⟩ (each_of I t qs h2)
    obtain ⟨as, a1⟩ := q.reads I r h1
    unfold pyD
    rw [h1]
    exact ⟨as, a1⟩
theorem of_each : ∀ {us : List Value} {ds : List D}, PySem.W.EachIs (fun u d => ∃ v, RelV v u ∧ Rep X.K X.mg z Mu H v d) us ds → ∃ xs, Vals xs us ∧ Reps X.K X.mg z Mu H xs ds
  | _, _, .nil => ⟨[], .nil, .nil⟩
  | _, _, .cons ⟨v, r, q⟩ t => by
    obtain ⟨xs, h1, h2⟩ := of_each t
    exact ⟨v :: xs, .cons r h1, .cons q h2⟩
/-- sorted(x), for any x that gives its items out in a row -/
theorem sorted_run {r : Value} {us : List Value} {xs : List V} {ds out : List D} {Q : VK} (hX : XG X) (I : Inv X pins σ H s) (m : MuOk z Mu H) {g : G} (G1 : GOk z H g)
    (hc : ∀ (E' : Value → Shared → Prop) (Q' : List Value → Shared → Prop), (∀ h' tk, (∀ b o, s.heap.get? b = some o → h'.get? b = some o) → Q' us { s with heap := h', toks := tk }) → wpAny (model X.prog X.w) X.A.in1 (collect r) Q' E' s)
    (rv : Vals xs us) (rd : Reps X.K X.mg z Mu H xs ds) (ho : sortD ds = some out) (q : ∀ v' H', Same H H' → RK X.K X.mg z .new H Mu H' v' (.lst out) → Q v' H') :
    wpAny (model X.prog X.w) X.A (call (.builtin "sorted") [r]) (EP X pins σ Q) X.xe s := by
  unfold sortD at ho
  split at ho
  case h_2 => cases ho
  rename_i ps hp
  obtain ⟨⟨h1, hz⟩, e⟩ := opt_if ho
  subst e
  obtain ⟨hal, hk, hdep⟩ := sortOk_all h1
  have em := pys_map hp
  have hl : us.length ≤ sizeLine := by rw [← rv.length, rd.length]; exact hz
  refine Calls.call_function_entry kind_sorted plain_sorted entry_sorted (args_sorted1 _) ?_
  unfold Builtin.«sorted»
  refine wpAny_bind (m := checkCount "sorted" 1 1 _) (wpAny_pure ?_)
  refine wpAny_bind (hc _ _ fun h' tk hkp => ?_)
  refine wpAny_bind (wpAny_newList ?_ hl)
  have I1 : Inv X pins σ H { s with heap := h', toks := tk } := I.kept (t' := tk) hkp
  have I2 : Inv X pins σ H { s with heap := h'.push { cls := .type "list", data := .seq us.toArray }, toks := tk } := I1.kept (t' := tk) fun b o e => Heap.get?_push_of_some _ e
  have hob : (h'.push { cls := .type "list", data := .seq us.toArray }).get? h'.objs.size = some (seqObj "list" us.toArray 0) := Heap.get?_push_size _ rfl
  have ea := each_of I1 rv rd hp
  have er : PySem.W.EachIs (fun v b => ∃ as, Reads (h'.push { cls := .type "list", data := .seq us.toArray }) v (pyD b) as ∧ h'.objs.size ∉ as) us ds := by
    refine ea.mono fun u d ⟨_, as, r⟩ => ⟨as, PyProof.Rows.Reads.keeps (fun b o e => Heap.get?_push_of_some _ e) r, ?_⟩
    intro hm
    obtain ⟨o, ho'⟩ := PyProof.On.reads_mem_get r _ hm
    exact absurd (Heap.lt_size ho') (Nat.lt_irrefl _)
  have hu : ∀ b, b ∈ ds → X.A.in1.units + 1 + (pyD b).depth < cLine := fun b hb => by
    have hm : pyD b ∈ ps := by rw [← em]; exact List.mem_map.mpr ⟨b, hb, rfl⟩
    have h2 := hdep _ hm
    have h3 := hX.room.un
    show X.A.units + 1 + 1 + (pyD b).depth < cLine
    omega
  refine wpAny_bind (wpAny_holding (PySem.W.list_sort_data (s := { s with heap := h'.push { cls := .type "list", data := .seq us.toArray }, toks := tk }) (bs := ds) (enc := pyD) hob (ea.mono fun _ _ x => x.1) er (by rw [em]; exact hal) (by rw [em]; exact hk) hz hu fun o hlen eo => ?_))
  obtain ⟨ys, y1, y2⟩ := of_each eo
  obtain ⟨ep, he'⟩ := PyProof.Rows.sortedHeap_at (vs := us) (out := o.toArray) hob
  have hn : H h'.objs.size = none := I1.hok.fresh (Nat.le_refl _)
  have kp : ∀ b ob, h'.get? b = some ob → (sortedHeap (h'.push { cls := .type "list", data := .seq us.toArray }) h'.objs.size us o.toArray).get? b = some ob := fun b ob e => by
    have hlt := Heap.lt_size e
    rw [PyProof.Rows.sortedHeap_old (Nat.ne_of_lt hlt) (by rw [Heap.size_push]; exact Nat.lt_succ_of_lt hlt)]
    exact Heap.get?_push_of_some _ e
  have J : Inv X pins σ (upd H h'.objs.size (.lst ys)) { s with heap := sortedHeap (h'.push { cls := .type "list", data := .seq us.toArray }) h'.objs.size us o.toArray, toks := tk } :=
    I1.laid (t' := tk) kp (Nat.le_refl _) ⟨by rw [y1.length, hlen]; exact hz, o, ep, y1, he'⟩
  exact wpAny_pure ⟨_, rfl, .ref h'.objs.size, _, J, rfl, q _ _ (same_upd' hn) (RK.lst m G1 hn y2)⟩
theorem call_sorted' (hX : XG X) : DCall X z .new (.builtin "sorted") fSorted := by
  intro pins s σ H Mu g xs us ds d Q I m G1 r ks hd q
  unfold fSorted at hd
  split at hd
  · obtain ⟨out, ho, rfl⟩ := Option.map_eq_some_iff.mp hd
    obtain ⟨v, rfl, p⟩ := ks.one
    obtain ⟨a, ys, rfl, hs, rs⟩ := p.lst
    obtain ⟨u, rfl, ru⟩ := vals1 r
    cases ru
    obtain ⟨its, rv, ⟨ob, n, hob, hc, hd', hdt⟩, hz⟩ := I.list (SqL.of hs)
    refine sorted_run hX I m G1 (us := its) (fun E' Q' hq => ?_) rv rs ho q
    refine wpAny_collect_seq a (.inl rfl) hob hc hdt (fun h' hk => ?_) (by rw [List.size_toArray, ← rv.length]; exact hz)
    exact hq h' s.toks hk
  · obtain ⟨out, ho, rfl⟩ := Option.map_eq_some_iff.mp hd
    obtain ⟨v, rfl, p⟩ := ks.one
    obtain ⟨a, ys, rfl, ns, hs, rs⟩ := p.tup
    obtain ⟨u, rfl, ru⟩ := vals1 r
    cases ru
    obtain ⟨its, rv, ⟨ob, hob, hc, n, hdt⟩, hz⟩ := I.tuple (SqT.of hs)
    refine sorted_run hX I m G1 (us := its) (fun E' Q' hq => ?_) rv rs ho q
    refine wpAny_collect_seq a (.inr rfl) hob hc hdt (fun h' hk => ?_) (by rw [List.size_toArray, ← rv.length]; exact hz)
    exact hq h' s.toks hk
  · cases hd
end
end DL
set_option Elab.async false
set_option linter.all false
set_option maxRecDepth 100000
set_option maxHeartbeats 2000000
/-! The value layer, part 6: statements. -/
namespace DL
open PySem PySem.Spec PyProof.Rows L2

section
variable {K : PySem.W.Frag} {mg : Str → Option Value} {z : Zt} {Mu Mu' : List Addr} {H H' : Hp} {v : V} {d : D} {σ : L2.St} {ρ : Env}
theorem SlOk.mono {t : Bool} (r : SlOk K mg z Mu H v t d) (ea : ∀ a, v = .ref a → t = true → (∀ u, H a = some u → NT u → H' a = some u) ∧ a ∈ Mu') (e : ExtM Mu H H') (m : ∀ b, Oc H b → b ∉ Mu → b ∉ Mu') : SlOk K mg z Mu' H' v t d := by
  cases t with
  | false => exact Rep.mono e m r
  | true =>
    obtain ⟨a, ev, ha, n1, n2, n3, c⟩ := r
    obtain ⟨h1, h2⟩ := ea a ev rfl
    exact ⟨a, ev, h2, n1, n2, n3, c.mono h1 e m⟩
/-- a local is stored: a shared value -/
theorem EnvOk.set {i : Nat} (E : EnvOk K mg z Mu H σ ρ) (r : Rep K mg z Mu H v d) : EnvOk K mg z Mu H (σ.set i (some v)) (ρ.set i (some (false, d))) := by
  refine ⟨by rw [List.length_set, List.length_set]; exact E.len, E.mu, fun j t d' q => ?_, fun j k d1 d2 a q1 q2 s1 s2 => ?_⟩
  · by_cases hj : i = j
    · subst hj
      have hi : i < ρ.length := by
        have h := (List.getElem?_eq_some_iff.mp q).1
        rwa [List.length_set] at h
      rw [List.getElem?_set_self hi] at q
      cases q
      exact ⟨v, by rw [List.getElem?_set_self (by rw [← E.len]; exact hi)], r⟩
    · rw [List.getElem?_set_ne hj] at q
      rw [List.getElem?_set_ne hj]
      exact E.val j t d' q
  · have hn : ∀ {j : Nat} {d1 : D}, (ρ.set i (some (false, d)))[j]? = some (some (true, d1)) → i ≠ j := fun {j d1} q e => by
      subst e
      have hi : i < ρ.length := by
        have h := (List.getElem?_eq_some_iff.mp q).1
        rwa [List.length_set] at h
      rw [List.getElem?_set_self hi] at q
      cases q
    have h1 := hn q1
    have h2 := hn q2
    rw [List.getElem?_set_ne h1] at q1 s1
    rw [List.getElem?_set_ne h2] at q2 s2
    exact E.sep j k d1 d2 a q1 q2 s1 s2
/-- a local is stored: a new list, dict of its own at a -/
theorem EnvOk.setOwn {i : Nat} {a : Addr} (E : EnvOk K mg z Mu H σ ρ) (hn : ∀ (j : Nat) (d' : D), ρ[j]? = some (some (true, d')) → σ[j]? = some (some (.ref a)) → False) (E' : EnvOk K mg z Mu' H' σ ρ) (ha : a ∈ Mu') (np : a ≠ z.p) (nl : a ≠ z.l) (nc : a ≠ z.c) (c : Cont K mg z Mu' H' a d) :
    EnvOk K mg z Mu' H' (σ.set i (some (.ref a))) (ρ.set i (some (true, d))) := by
  refine ⟨by rw [List.length_set, List.length_set]; exact E.len, E'.mu, fun j t d' q => ?_, fun j k d1 d2 b q1 q2 s1 s2 => ?_⟩
  · by_cases hj : i = j
    · subst hj
      have hi : i < ρ.length := by
        have h := (List.getElem?_eq_some_iff.mp q).1
        rwa [List.length_set] at h
      rw [List.getElem?_set_self hi] at q
      cases q
      exact ⟨.ref a, by rw [List.getElem?_set_self (by rw [← E.len]; exact hi)], a, rfl, ha, np, nl, nc, c⟩
    · rw [List.getElem?_set_ne hj] at q
      rw [List.getElem?_set_ne hj]
      exact E'.val j t d' q
  · have main : ∀ {j k : Nat} {d1 d2 : D}, (ρ.set i (some (true, d)))[j]? = some (some (true, d1)) → (ρ.set i (some (true, d)))[k]? = some (some (true, d2)) → (σ.set i (some (.ref a)))[j]? = some (some (.ref b)) → (σ.set i (some (.ref a)))[k]? = some (some (.ref b)) → i = j → j = k := fun {j k d1 d2} q1 q2 s1 s2 hj => by
      subst hj
      have hi : i < σ.length := by
        have h := (List.getElem?_eq_some_iff.mp s1).1
        rwa [List.length_set] at h
      rw [List.getElem?_set_self hi] at s1
      cases s1
      by_cases hk : i = k
      · exact hk
      · rw [List.getElem?_set_ne hk] at q2 s2
        exact (hn k d2 q2 s2).elim
    by_cases hj : i = j
    · exact main q1 q2 s1 s2 hj
    · by_cases hk : i = k
      · exact (main q2 q1 s2 s1 hk).symm
      · rw [List.getElem?_set_ne hj] at q1 s1
        rw [List.getElem?_set_ne hk] at q2 s2
        exact E.sep j k d1 d2 b q1 q2 s1 s2
/-- the locals, one of which is forgotten -/
theorem EnvOk.unset {i : Nat} (E : EnvOk K mg z Mu H σ ρ) : EnvOk K mg z Mu H (σ.set i none) (ρ.set i none) := by
  refine ⟨by rw [List.length_set, List.length_set]; exact E.len, E.mu, fun j t d' q => ?_, fun j k d1 d2 a q1 q2 s1 s2 => ?_⟩
  · have hj : i ≠ j := fun e => by
      subst e
      have hi : i < ρ.length := by
        have h := (List.getElem?_eq_some_iff.mp q).1
        rwa [List.length_set] at h
      rw [List.getElem?_set_self hi] at q
      cases q
    rw [List.getElem?_set_ne hj] at q
    rw [List.getElem?_set_ne hj]
    exact E.val j t d' q
  · have hn : ∀ {j : Nat} {d1 : D}, (ρ.set i none)[j]? = some (some (true, d1)) → i ≠ j := fun {j d1} q e => by
      subst e
      have hi : i < ρ.length := by
        have h := (List.getElem?_eq_some_iff.mp q).1
        rwa [List.length_set] at h
      rw [List.getElem?_set_self hi] at q
      cases q
    have h1 := hn q1
    have h2 := hn q2
    rw [List.getElem?_set_ne h1] at q1 s1
    rw [List.getElem?_set_ne h2] at q2 s2
    exact E.sep j k d1 d2 a q1 q2 s1 s2
end

/-! ### the state between two statements -/
/-- entered with the heap H, where the addresses M were barred; a look back at the heap kH, where kM were -/
structure Snap where
  H : Hp
  M : List Addr
  kH : Hp
  kM : List Addr
structure SOk (K : PySem.W.Frag) (mg : Str → Option Value) (z : Zt) (P : Snap) (Mu : List Addr) (H : Hp) (σ : L2.St) (ρ : Env) (g : G) : Prop where
  env : EnvOk K mg z Mu H σ ρ
  g : GOk z H g
  ext : Ext z P.H H
  sub : ∀ b ∈ P.M, b ∈ Mu
  m0 : MuOk z P.M P.H
  own : ∀ (i : Nat) (d : D) (a : Addr), ρ[i]? = some (some (true, d)) → σ[i]? = some (some (.ref a)) → ¬ Oc P.H a
  kp : ExtM P.kM P.kH H
  km : ∀ b, Oc P.kH b → b ∉ P.kM → b ∉ Mu
  kz : z.p ∈ P.kM ∧ z.l ∈ P.kM
  kt : ∀ b, Oc P.kH b → b ∉ P.kM → Oc H b
section
variable {K : PySem.W.Frag} {mg : Str → Option Value} {z : Zt} {P : Snap} {Mu : List Addr} {H H' : Hp} {v : V} {d : D} {σ : L2.St} {ρ : Env} {g g' : G}
theorem SOk.step (S : SOk K mg z P Mu H σ ρ g) (e : Ext z H H') (G' : GOk z H' g') : SOk K mg z P Mu H' σ ρ g' :=
  ⟨S.env.ext S.g e G', G', S.ext.trans e, S.sub, S.m0, S.own, fun b u q t n => (e.m S.kz.1 S.kz.2) b u (S.kp b u q t n) t n, S.km, S.kz, fun b h n => e.there (S.kt b h n) (fun w => n (w ▸ S.kz.1)) (fun w => n (w ▸ S.kz.2))⟩
theorem SOk.set {i : Nat} (S : SOk K mg z P Mu H σ ρ g) (r : Rep K mg z Mu H v d) : SOk K mg z P Mu H (σ.set i (some v)) (ρ.set i (some (false, d))) g := by
  refine ⟨S.env.set r, S.g, S.ext, S.sub, S.m0, fun j d' a q s => ?_, S.kp, S.km, S.kz, S.kt⟩
  by_cases hj : i = j
  · subst hj
    have hi : i < ρ.length := by
      have h := (List.getElem?_eq_some_iff.mp q).1
      rwa [List.length_set] at h
    rw [List.getElem?_set_self hi] at q
    cases q
  · rw [List.getElem?_set_ne hj] at q s
    exact S.own j d' a q s
/-- what a step from H gave new at a, stored -/
theorem SOk.setNew {i : Nat} {a : Addr} (S : SOk K mg z P Mu H σ ρ g) (e : Ext z H H') (G' : GOk z H' g') (n : ¬ Oc H a) (c : Cont K mg z (a :: Mu) H' a d) :
    SOk K mg z P (a :: Mu) H' (σ.set i (some (.ref a))) (ρ.set i (some (true, d))) g' := by
  have na : a ∉ Mu := fun w => n (S.env.mu.at_ a w)
  have np : a ≠ z.p := fun w => na (w ▸ S.env.mu.p)
  have nl : a ≠ z.l := fun w => na (w ▸ S.env.mu.l)
  have nc : a ≠ z.c := fun w => na (w ▸ S.env.mu.c)
  have S1 := S.step e G'
  have n0 : ¬ Oc P.H a := by
    exact S.ext.none n np nl
  have E1 : EnvOk K mg z (a :: Mu) H' σ ρ := by
    refine ⟨S.env.len, ⟨List.mem_cons_of_mem _ S1.env.mu.p, List.mem_cons_of_mem _ S1.env.mu.l, List.mem_cons_of_mem _ S1.env.mu.c, fun b hb => ?_⟩, fun j t d' q => ?_, S.env.sep⟩
    · rcases List.mem_cons.mp hb with hb | hb
      · rw [hb]; exact c.there
      · exact S1.env.mu.at_ b hb
    · obtain ⟨w, q1, q2⟩ := S.env.val j t d' q
      refine ⟨w, q1, q2.mono (fun b ev et => ⟨fun u hu nu => ?_, ?_⟩) (e.m S.env.mu.p S.env.mu.l) fun b hu h w => ?_⟩
      · subst et
        obtain ⟨b', ev', hb', m1, m2, m3, _⟩ := q2
        have := ev.symm.trans ev'
        cases this
        exact e.to b u hu nu m1 m2
      · subst et
        obtain ⟨b', ev', hb', m1, m2, m3, _⟩ := q2
        have := ev.symm.trans ev'
        cases this
        exact List.mem_cons_of_mem _ hb'
      · rcases List.mem_cons.mp w with w | w
        · exact hu.ne n w
        · exact h w
  refine ⟨EnvOk.setOwn S.env (fun j d' q s => ?_) E1 List.mem_cons_self np nl nc c, G', S1.ext, fun b hb => List.mem_cons_of_mem _ (S.sub b hb), S.m0, fun j d' b q s => ?_, S1.kp, fun b q h w => ?_, S.kz, S1.kt⟩
  · obtain ⟨w, q1, b', ev', hb', _⟩ := S.env.val j true d' q
    rw [s] at q1
    cases q1
    cases ev'
    exact na hb'
  · by_cases hj : i = j
    · subst hj
      have hi : i < σ.length := by
        have h := (List.getElem?_eq_some_iff.mp s).1
        rwa [List.length_set] at h
      rw [List.getElem?_set_self hi] at s
      cases s
      exact n0
    · rw [List.getElem?_set_ne hj] at q s
      exact S.own j d' b q s
  · rcases List.mem_cons.mp w with w | w
    · exact (S.kt b q h).ne n w
    · exact S.km b q h w
theorem GOk.write {a : Addr} {o : HO} (G1 : GOk z H g) (np : a ≠ z.p) (nl : a ≠ z.l) (nc : a ≠ z.c) (ht : ∀ ps, H a ≠ some (.tbl ps)) (hc : ∀ q, H a ≠ some (LamX.CodeO a q)) : GOk z (upd H a o) g := by
  refine ⟨by rw [upd_ne (Ne.symm np)]; exact G1.p, by rw [upd_ne (Ne.symm nl)]; exact G1.l, by rw [upd_ne (Ne.symm nc)]; exact G1.c, G1.ne, fun p hp => ?_⟩
  obtain ⟨ps, h1, h2, h3⟩ := G1.tb p hp
  have n1 : p.1 ≠ a := fun w => ht ps (w ▸ h1)
  refine ⟨ps, by rw [upd_ne n1]; exact h1, h2, fun pos cv hv => ?_⟩
  obtain ⟨c, e1, e2⟩ := h3 pos cv hv
  have n2 : c ≠ a := fun w => hc p.2 (w ▸ e2)
  exact ⟨c, e1, by rw [upd_ne n2]; exact e2⟩
theorem Cont.nt {a : Addr} (c : Cont K mg z Mu H a d) : ∃ u, H a = some u ∧ NT u := by
  cases c with
  | lst h r => exact ⟨_, h, trivial⟩
  | dct h h1 h2 h3 h4 h5 r1 r2 => exact ⟨_, h, trivial⟩
/-- a list, dict of one's own is changed -/
theorem SOk.write {i : Nat} {a : Addr} {d0 : D} {o : HO} (hcd : ∀ q, H a ≠ some (LamX.CodeO a q)) (no : NT o) (S : SOk K mg z P Mu H σ ρ g) (hi : ρ[i]? = some (some (true, d0))) (hs : σ[i]? = some (some (.ref a))) (c : Cont K mg z Mu (upd H a o) a d) :
    SOk K mg z P Mu (upd H a o) σ (ρ.set i (some (true, d))) g := by
  obtain ⟨w, q1, b', ev', ha, np, nl, nc, c0⟩ := S.env.val i true d0 hi
  rw [hs] at q1
  cases q1
  cases ev'
  have n0 := S.own i d0 a hi hs
  have up : ∀ b u, b ≠ a → H b = some u → upd H a o b = some u := fun b u hb q => by rw [upd_ne hb]; exact q
  have il : i < ρ.length := (List.getElem?_eq_some_iff.mp hi).1
  refine ⟨⟨by rw [List.length_set]; exact S.env.len, ⟨S.env.mu.p, S.env.mu.l, S.env.mu.c, fun b hb => ?_⟩, fun j t d' q => ?_, fun j k d1 d2 b q1 q2 s1 s2 => ?_⟩, S.g.write np nl nc (fun ps w => by obtain ⟨u, e1, e2⟩ := c0.nt; rw [w] at e1; cases e1; exact e2) hcd, ⟨fun b u q t h1 h2 => ?_⟩, S.sub, S.m0, fun j d' b q s => ?_, fun b u q t h => ?_, S.km, S.kz, fun b h n => ?_⟩
  · by_cases hba : b = a
    · rw [hba]; exact ⟨o, upd_same, no⟩
    · obtain ⟨u, e1, e2⟩ := S.env.mu.at_ b hb
      exact ⟨u, by rw [upd_ne hba]; exact e1, e2⟩
  · by_cases hj : i = j
    · subst hj
      rw [List.getElem?_set_self il] at q
      cases q
      exact ⟨.ref a, hs, a, rfl, ha, np, nl, nc, c⟩
    · rw [List.getElem?_set_ne hj] at q
      obtain ⟨w, q1, q2⟩ := S.env.val j t d' q
      refine ⟨w, q1, q2.mono (fun b ev et => ?_) (fun b u hu _ hn => up b u (fun e => hn (e ▸ ha)) hu) fun b _ h => h⟩
      subst et
      obtain ⟨b', ev', hb', m1, m2, m3, _⟩ := id q2
      have := ev.symm.trans ev'
      cases this
      refine ⟨fun u hu _ => up b u (fun e => ?_) hu, hb'⟩
      subst e
      subst ev
      exact hj (S.env.sep i j d0 d' b hi q hs q1)
  · have back : ∀ {j : Nat} {d1 : D}, (ρ.set i (some (true, d)))[j]? = some (some (true, d1)) → ∃ d1', ρ[j]? = some (some (true, d1')) := fun {j d1} q => by
      by_cases hj : i = j
      · subst hj; exact ⟨d0, hi⟩
      · rw [List.getElem?_set_ne hj] at q; exact ⟨_, q⟩
    obtain ⟨e1, h1⟩ := back q1
    obtain ⟨e2, h2⟩ := back q2
    exact S.env.sep j k e1 e2 b h1 h2 s1 s2
  · exact up b u (Oc.ne ⟨u, q, t⟩ n0) (S.ext.to b u q t h1 h2)
  · by_cases hj : i = j
    · subst hj
      exact S.own i d0 b hi s
    · rw [List.getElem?_set_ne hj] at q
      exact S.own j d' b q s
  · exact up b u (fun e => S.km b ⟨u, q, t⟩ h (e ▸ ha)) (S.kp b u q t h)
  · by_cases e : b = a
    · rw [e]; exact ⟨o, upd_same, no⟩
    · obtain ⟨u, e1, e2⟩ := S.kt b h n
      exact ⟨u, by rw [upd_ne e]; exact e1, e2⟩
/-- a list, dict of one's own is shared from now on -/
def frz (ρ : Env) (i : Nat) : Env := match ρ[i]? with
  | some (some (true, d)) => ρ.set i (some (false, d))
  | _ => ρ
theorem SOk.frz {i : Nat} (S : SOk K mg z P Mu H σ ρ g) : ∃ Mu', SOk K mg z P Mu' H σ (frz ρ i) g := by
  unfold DL.frz
  split
  · rename_i d0 hi
    obtain ⟨w, hs, a, rfl, ha, np, nl, nc, c0⟩ := S.env.val i true d0 hi
    have n0 := S.own i d0 a hi hs
    have il : i < ρ.length := (List.getElem?_eq_some_iff.mp hi).1
    refine ⟨Mu.filter (fun b => decide (b ≠ a)), ?_⟩
    have keep : ∀ b, b ∈ Mu → b ≠ a → b ∈ Mu.filter (fun b => decide (b ≠ a)) := fun b hb n => List.mem_filter.mpr ⟨hb, decide_eq_true n⟩
    have less : ∀ b, b ∈ Mu.filter (fun b => decide (b ≠ a)) → b ∈ Mu := fun b hb => (List.mem_filter.mp hb).1
    have na : a ∉ Mu.filter (fun b => decide (b ≠ a)) := fun h => of_decide_eq_true (List.mem_filter.mp h).2 rfl
    refine ⟨⟨by rw [List.length_set]; exact S.env.len, ⟨keep _ S.env.mu.p (Ne.symm np), keep _ S.env.mu.l (Ne.symm nl), keep _ S.env.mu.c (Ne.symm nc), fun b hb => S.env.mu.at_ b (less b hb)⟩, fun j t d' q => ?_, fun j k d1 d2 b q1 q2 s1 s2 => ?_⟩, S.g, S.ext, fun b hb => keep b (S.sub b hb) ((S.m0.at_ b hb).ne n0), S.m0, fun j d' b q s => ?_, S.kp, fun b q h w => S.km b q h (less b w), S.kz, S.kt⟩
    · by_cases hj : i = j
      · subst hj
        rw [List.getElem?_set_self il] at q
        cases q
        exact ⟨.ref a, hs, Cont.rep (c0.mono (fun _ e _ => e) (fun _ _ e _ _ => e) fun b _ h w => h (less b w)) na⟩
      · rw [List.getElem?_set_ne hj] at q
        obtain ⟨w, q1, q2⟩ := S.env.val j t d' q
        refine ⟨w, q1, q2.mono (fun b ev et => ⟨fun _ e _ => e, ?_⟩) (fun _ _ e _ _ => e) fun b _ h w => h (less b w)⟩
        subst et
        obtain ⟨b', ev', hb', m1, m2, m3, _⟩ := id q2
        have := ev.symm.trans ev'
        cases this
        refine keep b hb' fun e => ?_
        subst e
        subst ev
        exact hj (S.env.sep i j d0 d' b hi q hs q1)
    · have back : ∀ {j : Nat} {d1 : D}, (ρ.set i (some (false, d0)))[j]? = some (some (true, d1)) → ρ[j]? = some (some (true, d1)) := fun {j d1} q => by
        by_cases hj : i = j
        · subst hj
          rw [List.getElem?_set_self il] at q
          cases q
        · rw [List.getElem?_set_ne hj] at q; exact q
      exact S.env.sep j k d1 d2 b (back q1) (back q2) s1 s2
    · by_cases hj : i = j
      · subst hj
        rw [List.getElem?_set_self il] at q
        cases q
      · rw [List.getElem?_set_ne hj] at q
        exact S.own j d' b q s
  · exact ⟨Mu, S⟩
/-- a look back at this very state -/
def Snap.at_ (P : Snap) (H : Hp) (Mu : List Addr) : Snap := { P with kH := H, kM := Mu }
theorem SOk.snap (S : SOk K mg z P Mu H σ ρ g) : SOk K mg z (P.at_ H Mu) Mu H σ ρ g := ⟨S.env, S.g, S.ext, S.sub, S.m0, S.own, fun _ _ e _ _ => e, fun _ _ h => h, ⟨S.env.mu.p, S.env.mu.l⟩, fun _ h _ => h⟩
theorem SOk.unsnap {H1 : Hp} {M1 : List Addr} {σ1 : L2.St} {ρ1 : Env} {g1 : G} (S : SOk K mg z P M1 H1 σ1 ρ1 g1) (T : SOk K mg z (P.at_ H1 M1) Mu H σ ρ g) : SOk K mg z P Mu H σ ρ g :=
  ⟨T.env, T.g, T.ext, T.sub, T.m0, T.own, fun b u q t n => T.kp b u (S.kp b u q t n) t (S.km b ⟨u, q, t⟩ n), fun b h n => T.km b (S.kt b h n) (S.km b h n), S.kz, fun b h n => T.kt b (S.kt b h n) (S.km b h n)⟩
end
end DL
set_option Elab.async false
set_option linter.all false
set_option maxRecDepth 100000
set_option maxHeartbeats 2000000
/-! The value layer, part 7: statements' judgement, blocks, if, return, assignments, loops. -/
namespace DL
open PySem PySem.Spec PyProof.Rows L2

inductive Fl where
  | nx (ρ : Env) | ret (d : D) | bk (ρ : Env) | ct (ρ : Env)
abbrev Ss := Env → M Fl
/-- a def's entry: the heap, the barred addresses, the kind of its results -/
structure En where
  z : Zt
  W : WX
  k : Kd
  p : Snap
/-- what is wanted of a state -/
def SW (X : Cx) (n : En) (P : L2.St → Hp → Prop) (ρ : Env) (g : G) : Prop := ∀ σ H Mu, SOk X.K X.mg n.z n.p Mu H σ ρ g → P σ H
/-- what is wanted of an exception -/
def EW (X : Cx) (n : En) : Str → Str → List D → G → Prop := fun c f l g => ∀ σ cls dd H', Ext n.z n.p.H H' → GOk n.z H' g → ExcIs X.K X.mg n.z n.p.M H' c f l cls dd → n.W cls dd σ H'
def FW (X : Cx) (n : En) (D : Ends) : Fl → G → Prop
  | .nx ρ, g => SW X n D.nx ρ g
  | .bk ρ, g => SW X n D.bk ρ g
  | .ct ρ, g => SW X n D.ct ρ g
  | .ret d, g => ∀ v H', Ext n.z n.p.H H' → GOk n.z H' g → RK X.K X.mg n.z n.k n.p.H n.p.M H' v d → D.rt v H'
def tS (X : Cx) (n : En) (t : Ss) : TS := fun D σ H => ∃ ρ g Mu, SOk X.K X.mg n.z n.p Mu H σ ρ g ∧ (t ρ g).all (FW X n D) (EW X n)
abbrev DS (X : Cx) (n : En) (st : Stmt) (t : Ss) : Prop := PS X st (tS X n t)
abbrev DSs (X : Cx) (n : En) (st : List Stmt) (t : Ss) : Prop := PSs X st (tS X n t)

section
variable {X : Cx} {n : En} {st : Stmt} {sts : List Stmt} {k ka : Kd} {e a b : Expr} {f : Ep} {c : Et} {t u : Ss} {pos : Pos} {pins : List (Addr × Obj)} {s : Shared} {σ : L2.St} {H : Hp} {Mu : List Addr} {ρ : Env} {g : G}

/-- an exception within an expression is one of the def -/
theorem EW.x {α : Type} {r : R α} {P : α → G → Prop} (S : SOk X.K X.mg n.z n.p Mu H σ ρ g) (h : r.all P (EW X n)) : r.all P (XW X n.z n.W Mu σ H) :=
  R.all_imp h (fun _ _ h => h) fun c f l g' h cls dd H' e1 g1 x => by
    refine h σ cls dd H' (S.ext.trans e1) g1 ?_
    obtain ⟨C, h1, h2, h3⟩ := x
    refine ⟨C, h1, h2, ?_⟩
    rcases h3 with h3 | ⟨dx, v, d, h4, h5, h5', h6, h7⟩
    · exact .inl h3
    · exact .inr ⟨dx, v, d, h4, h5, fun w => h5' (S.sub dx w), h6, h7.mono (fun _ _ e _ _ => e) fun b _ q w => q (S.sub b w)⟩
theorem ds_pass : DS X n (.Pass pos) (fun ρ => M.pure (.nx ρ)) :=
  ⟨fun pins s σ H D I ⟨ρ, g, Mu, S, hx⟩ => wpAny_Pass ⟨σ, H, I, hx σ H Mu S⟩⟩
theorem ds_nil : DSs X n [] (fun ρ => M.pure (.nx ρ)) :=
  ⟨fun pins s σ H D I ⟨ρ, g, Mu, S, hx⟩ => wpAny_execs_nil ⟨σ, H, I, hx σ H Mu S⟩⟩
/-- one statement, then others -/
def sSeq (t u : Ss) : Ss := fun ρ => do
  let fl ← t ρ
  match fl with
  | .nx ρ' => u ρ'
  | fl => M.pure fl
theorem ds_cons (h1 : DS X n st t) (h2 : DSs X n sts u) : DSs X n (st :: sts) (sSeq t u) := by
  refine ⟨fun pins s σ H D I ⟨ρ, g, Mu, S, hx⟩ => ?_⟩
  refine wpAny_execs_cons (thn (h1.run pins s σ H { D with nx := fun σ' H' => ∃ ρ' g' Mu', SOk X.K X.mg n.z n.p Mu' H' σ' ρ' g' ∧ (u ρ' g').all (FW X n D) (EW X n) } I ⟨ρ, g, Mu, S, ?_⟩) fun fl s1 q => ?_)
  · refine R.all_imp (R.all_bind hx) (fun fl g' h => ?_) fun _ _ _ _ h => h
    cases fl with
    | nx ρ' => exact fun σ' H' Mu' S' => ⟨ρ', g', Mu', S', h⟩
    | ret d => exact h
    | bk ρ' => exact h
    | ct ρ' => exact h
  · cases fl with
    | next =>
      obtain ⟨σ', H', I', q⟩ := q
      exact h2.run pins s1 σ' H' D I' q
    | ret v => exact q
    | brk => exact q
    | cont => exact q
theorem ds_one (h1 : DS X n st t) : DSs X n [st] t := by
  refine ⟨fun pins s σ H D I h => ?_⟩
  refine wpAny_execs_cons (thn (h1.run pins s σ H D I h) fun fl s1 q => ?_)
  cases fl with
  | next => exact wpAny_execs_nil q
  | ret v => exact q
  | brk => exact q
  | cont => exact q
def sIf (c : Et) (t u : Ss) : Ss := fun ρ => do if ← c ρ then t ρ else u ρ
theorem ds_if {A B : List Stmt} (hc : DT X n.z n.W a c) (ha : DSs X n A t) (hb : DSs X n B u) : DS X n (.If a A B pos) (sIf c t u) := by
  refine ⟨fun pins s σ H D I ⟨ρ, g, Mu, S, hx⟩ => ?_⟩
  refine wpAny_If (dt_run hc I S.env S.g (R.all_imp (EW.x S (R.all_bind hx)) (fun d g1 hx H1 s1 I1 e1 G2 E1 => ?_) fun _ _ _ _ h => h))
  cases d with
  | true => exact ha.run pins s1 σ H1 D I1 ⟨ρ, g1, Mu, S.step e1 G2, hx⟩
  | false => exact hb.run pins s1 σ H1 D I1 ⟨ρ, g1, Mu, S.step e1 G2, hx⟩
def sFrz (is : List Nat) (t : Ss) : Ss := fun ρ => t (is.foldl frz ρ)
theorem frz_all {K : PySem.W.Frag} {mg : Str → Option Value} {z : Zt} {P : Snap} : ∀ {is : List Nat} {ρ : Env} {Mu : List Addr}, SOk K mg z P Mu H σ ρ g → ∃ Mu', SOk K mg z P Mu' H σ (is.foldl frz ρ) g
  | [], _, _, S => ⟨_, S⟩
  | i :: is, _, _, S => by
    obtain ⟨M1, S1⟩ := S.frz (i := i)
    exact frz_all (is := is) S1
theorem ds_frz (is : List Nat) (h : DS X n st t) : DS X n st (sFrz is t) := by
  refine ⟨fun pins s σ H D I ⟨ρ, g, Mu, S, hx⟩ => ?_⟩
  obtain ⟨M1, S1⟩ := frz_all (is := is) S
  exact h.run pins s σ H D I ⟨_, g, M1, S1, hx⟩
/-- an expression whose value is dropped -/
def sExpr (f : Ep) : Ss := fun ρ => do let _ ← f ρ; M.pure (.nx ρ)
theorem ds_expr (h : DE X n.z n.W k e f) (hs : swapsWith e none pos.line X.env = pure false := by rfl) : DS X n (.Expr e pos) (sExpr f) := by
  refine ⟨fun pins s σ H D I ⟨ρ, g, Mu, S, hx⟩ => ?_⟩
  refine wpAny_Expr_any (de_run h I S.env S.g (R.all_imp (EW.x S (R.all_bind hx)) (fun d g1 hx v u H1 s1 I1 r1 e1 G2 E1 k1 => ?_) fun _ _ _ _ h => h)) I.quiet hs
  exact ⟨σ, H1, I1, hx σ H1 Mu (S.step e1 G2)⟩
def sRet (f : Ep) : Ss := fun ρ => do let d ← f ρ; M.pure (.ret d)
/-- a result of the statement's kind is one of the def's -/
theorem RK.out {K : PySem.W.Frag} {mg : Str → Option Value} {z : Zt} {P : Snap} {H1 : Hp} {v : V} {d : D} (S : SOk K mg z P Mu H σ ρ g) (hk : k = .new ∨ k = .sh) (r : RK K mg z k H Mu H1 v d) : RK K mg z k P.H P.M H1 v d := by
  have less : ∀ b, Oc H1 b → b ∉ Mu → b ∉ P.M := fun b _ h w => h (S.sub b w)
  rcases hk with rfl | rfl
  · have r1 := RK.back r S.ext S.g
    have r' : if d.box = true then ∃ a, v = .ref a ∧ ¬ Oc P.H a ∧ Cont K mg z (a :: Mu) H1 a d else Rep K mg z Mu H1 v d := r1
    show if d.box = true then ∃ a, v = .ref a ∧ ¬ Oc P.H a ∧ Cont K mg z (a :: P.M) H1 a d else Rep K mg z P.M H1 v d
    by_cases hb : d.box = true
    · rw [if_pos hb] at r' ⊢
      obtain ⟨a, ev, n0, c⟩ := r'
      refine ⟨a, ev, n0, c.mono (fun _ e _ => e) (fun _ _ e _ _ => e) fun b q h w => ?_⟩
      rcases List.mem_cons.mp w with w | w
      · exact h (w ▸ List.mem_cons_self)
      · exact h (List.mem_cons_of_mem _ (S.sub b w))
    · rw [if_neg hb] at r' ⊢
      exact r'.mono (fun _ _ e _ _ => e) less
  · exact Rep.mono (fun _ _ e _ _ => e) less r
theorem ds_ret (h : DE X n.z n.W n.k e f) (hk : n.k = .new ∨ n.k = .sh) : DS X n (.Return (some e) pos) (sRet f) := by
  refine ⟨fun pins s σ H D I ⟨ρ, g, Mu, S, hx⟩ => ?_⟩
  refine wpAny_Return_some (de_run h I S.env S.g (R.all_imp (EW.x S (R.all_bind hx)) (fun d g1 hx v u H1 s1 I1 r1 e1 G2 E1 k1 => ?_) fun _ _ _ _ h => h))
  exact ⟨v, σ, H1, I1, r1, hx v H1 (S.ext.trans e1) G2 (RK.out S hk k1)⟩
/-- return x, x a list, dict of one's own (or no list, dict at all) -/
def ownAt (ρ : Env) (i : Nat) : Option D := match ρ[i]? with
  | some (some (true, d)) => some d
  | some (some (false, d)) => if d.box = true then none else some d
  | _ => none
def eOwn (i : Nat) : Ep := fun ρ => ofOpt (ownAt ρ i)
theorem ds_retOwn {i : Nat} {x : Str} {p : Pos} (h : PE X (.Name x p) (tVar i)) (hk : n.k = .new) : DS X n (.Return (some (.Name x p)) pos) (sRet (eOwn i)) := by
  refine ⟨fun pins s σ H D I ⟨ρ, g, Mu, S, hx⟩ => ?_⟩
  obtain ⟨d, hd, hx⟩ := R.all_opt (R.all_bind hx)
  have key : ∃ v, σ[i]? = some (some v) ∧ RK X.K X.mg n.z .new n.p.H n.p.M H v d := by
    unfold ownAt at hd
    split at hd
    · rename_i d' q
      cases hd
      obtain ⟨v, hs, a, rfl, ha, np, nl, nc, c⟩ := S.env.val i true d q
      refine ⟨.ref a, hs, ?_⟩
      have n0 := S.own i d a q hs
      show if d.box = true then ∃ b, V.ref a = .ref b ∧ ¬ Oc n.p.H b ∧ Cont X.K X.mg n.z (b :: n.p.M) H b d else Rep X.K X.mg n.z n.p.M H (.ref a) d
      have hb : d.box = true := by cases c <;> rfl
      rw [if_pos hb]
      refine ⟨a, rfl, n0, c.mono (fun _ e _ => e) (fun _ _ e _ _ => e) fun b _ h w => ?_⟩
      rcases List.mem_cons.mp w with w | w
      · exact h (w ▸ ha)
      · exact h (S.sub b w)
    · rename_i d' q
      split at hd
      · cases hd
      · rename_i hb
        cases hd
        obtain ⟨v, hs, r⟩ := S.env.val i false d q
        refine ⟨v, hs, RK.new_of (Rep.mono (fun _ _ e _ _ => e) (fun b _ h w => h (S.sub b w)) r) ?_⟩
        exact Bool.eq_false_iff.mpr hb
    · cases hd
  obtain ⟨v, hs, r⟩ := key
  refine wpAny_Return_some (thn (h.run pins s σ H (fun v' H' => v' = v ∧ H' = H) I ⟨v, hs, rfl, rfl⟩) fun u s1 ⟨v', H1, I1, r1, e1, e2⟩ => ?_)
  subst e1 e2
  exact ⟨v', σ, H1, I1, r1, hx v' H1 S.ext S.g (by rw [hk]; exact r)⟩
theorem ds_retN : DS X n (.Return none pos) (fun _ => M.pure (.ret .non)) := by
  refine ⟨fun pins s σ H D I ⟨ρ, g, Mu, S, hx⟩ => wpAny_Return_none ⟨.non, σ, H, I, rfl, hx .non H S.ext S.g ?_⟩⟩
  cases q : n.k with
  | sh => exact .non
  | new => exact RK.new_of .non rfl
  | peek => exact .inl .non
/-! ### x = e -/
def sSet (own : Bool) (i : Nat) (f : Ep) : Ss := fun ρ => do let d ← f ρ; M.pure (.nx (ρ.set i (some (own && d.box, d))))
theorem SOk.store {K : PySem.W.Frag} {mg : Str → Option Value} {z : Zt} {P : Snap} {H1 : Hp} {v : V} {d : D} {i : Nat} {g1 : G} (S : SOk K mg z P Mu H σ ρ g) (e1 : Ext z H H1) (G1 : GOk z H1 g1) (own : Bool) (hk : k = if own = true then .new else .sh) (r : RK K mg z k H Mu H1 v d) :
    ∃ Mu', SOk K mg z P Mu' H1 (σ.set i (some v)) (ρ.set i (some (own && d.box, d))) g1 := by
  cases own with
  | false =>
    have r' : Rep K mg z Mu H1 v d := by rw [hk] at r; exact r
    exact ⟨Mu, (S.step e1 G1).set r'⟩
  | true =>
    have r' : if d.box = true then ∃ a, v = .ref a ∧ ¬ Oc H a ∧ Cont K mg z (a :: Mu) H1 a d else Rep K mg z Mu H1 v d := by rw [hk] at r; exact r
    by_cases hb : d.box = true
    · rw [if_pos hb] at r'
      obtain ⟨a, rfl, n0, c⟩ := r'
      rw [hb]
      exact ⟨a :: Mu, S.setNew e1 G1 n0 c⟩
    · rw [if_neg hb] at r'
      have hb' : d.box = false := Bool.eq_false_iff.mpr hb
      rw [hb']
      exact ⟨Mu, (S.step e1 G1).set r'⟩
theorem ds_set {i : Nat} {x : Str} {p : Pos} (own : Bool) (hN : X.N.Nodup) (hi : X.N[i]? = some x) (hx : Loc X.env.scope x) (h : DE X n.z n.W (if own = true then .new else .sh) e f) (hs : swapsWith e (some (.Name x p)) pos.line X.env = pure false := by rfl)
    (hf : X.fn x = true ∨ X.env.scope.names.lookup x = some .local := by first | exact .inl rfl | exact .inr rfl | assumption) : DS X n (.Assign [.Name x p] e pos) (sSet own i f) := by
  refine ⟨fun pins s σ H D I ⟨ρ, g, Mu, S, hq⟩ => ?_⟩
  refine wpAny_Assign_Name (de_run h I S.env S.g (R.all_imp (EW.x S (R.all_bind hq)) (fun d g1 hq v u H1 s1 I1 r1 e1 G2 E1 k1 => ?_) fun _ _ _ _ h => h)) hs
  obtain ⟨Mu', S'⟩ := S.store (i := i) e1 G2 own rfl k1
  exact store_ok I1 hN hi hx r1 (fun s2 I2 => ⟨_, H1, I2, hq _ H1 Mu' S'⟩) hf
/-- x, y = e1, e2 -/
def sPar (o1 o2 : Bool) (i j : Nat) (f1 f2 : Ep) : Ss := fun ρ => do
  let d ← f1 ρ
  let d' ← f2 ρ
  M.pure (.nx ((ρ.set j (some (o2 && d'.box, d'))).set i (some (o1 && d.box, d))))
end
end DL
set_option Elab.async false
set_option linter.all false
set_option maxRecDepth 100000
set_option maxHeartbeats 2000000
/-! The value layer, part 8: targets, walked things, for, while, two assignments at once. -/
namespace DL
open PySem PySem.Spec PyProof.Rows L2

section
variable {K : PySem.W.Frag} {mg : Str → Option Value} {z : Zt} {P : Snap} {Mu : List Addr} {H H' : Hp} {v : V} {d : D} {σ : L2.St} {ρ : Env} {g g' : G}
/-- a new object is held, by no local yet -/
theorem SOk.bar {a : Addr} (S : SOk K mg z P Mu H σ ρ g) (e : Ext z H H') (G' : GOk z H' g') (n : ¬ Oc H a) (there : Oc H' a) :
    SOk K mg z P (a :: Mu) H' σ ρ g' ∧ ¬ Oc P.H a ∧ a ∉ Mu := by
  have na : a ∉ Mu := fun w => n (S.env.mu.at_ a w)
  have np : a ≠ z.p := fun w => na (w ▸ S.env.mu.p)
  have nl : a ≠ z.l := fun w => na (w ▸ S.env.mu.l)
  have S1 := S.step e G'
  have n0 : ¬ Oc P.H a := S.ext.none n np nl
  refine ⟨⟨⟨S.env.len, ⟨List.mem_cons_of_mem _ S1.env.mu.p, List.mem_cons_of_mem _ S1.env.mu.l, List.mem_cons_of_mem _ S1.env.mu.c, fun b hb => ?_⟩, fun j t d' q => ?_, S.env.sep⟩, G', S1.ext, fun b hb => List.mem_cons_of_mem _ (S.sub b hb), S.m0, S.own, S1.kp, fun b q h w => ?_, S.kz, S1.kt⟩, n0, na⟩
  · rcases List.mem_cons.mp hb with hb | hb
    · rw [hb]; exact there
    · exact S1.env.mu.at_ b hb
  · obtain ⟨w, q1, q2⟩ := S.env.val j t d' q
    refine ⟨w, q1, q2.mono (fun b ev et => ?_) (e.m S.env.mu.p S.env.mu.l) fun b hu h w => ?_⟩
    · subst et
      obtain ⟨b', ev', hb', m1, m2, m3, _⟩ := id q2
      have := ev.symm.trans ev'
      cases this
      exact ⟨fun u hu nu => e.to b u hu nu m1 m2, List.mem_cons_of_mem _ hb'⟩
    · rcases List.mem_cons.mp w with w | w
      · exact hu.ne n w
      · exact h w
  · rcases List.mem_cons.mp w with w | w
    · exact (S.kt b q h).ne n w
    · exact S.km b q h w
/-- .. then a local's -/
theorem SOk.setHeld {i : Nat} {a : Addr} (S : SOk K mg z P Mu H σ ρ g) (ha : a ∈ Mu) (np : a ≠ z.p) (nl : a ≠ z.l) (nc : a ≠ z.c) (n0 : ¬ Oc P.H a) (hn : ∀ (j : Nat) (d' : D), ρ[j]? = some (some (true, d')) → σ[j]? = some (some (.ref a)) → False) (c : Cont K mg z Mu H a d) :
    SOk K mg z P Mu H (σ.set i (some (.ref a))) (ρ.set i (some (true, d))) g := by
  refine ⟨EnvOk.setOwn S.env hn S.env ha np nl nc c, S.g, S.ext, S.sub, S.m0, fun j d' b q s => ?_, S.kp, S.km, S.kz, S.kt⟩
  by_cases hj : i = j
  · subst hj
    have hi : i < σ.length := by
      have h := (List.getElem?_eq_some_iff.mp s).1
      rwa [List.length_set] at h
    rw [List.getElem?_set_self hi] at s
    cases s
    exact n0
  · rw [List.getElem?_set_ne hj] at q s
    exact S.own j d' b q s
end

/-! ### targets -/
/-- what a target's store leaves of the locals -/
structure Tch (is : List Nat) (σ σ' : L2.St) (ρ ρ' : Env) : Prop where
  len : σ'.length = σ.length
  out : ∀ i, i ∉ is → σ'[i]? = σ[i]? ∧ ρ'[i]? = ρ[i]?
  in_ : ∀ i, i ∈ is → ∀ d, ρ'[i]? ≠ some (some (true, d))
theorem Tch.refl {σ : L2.St} {ρ : Env} : Tch [] σ σ ρ ρ := ⟨rfl, fun _ _ => ⟨rfl, rfl⟩, fun _ h => absurd h (by simp)⟩
structure TgOk (X : Cx) (z : Zt) (tg : Expr) (g : TG) (t : D → Env → Option Env) (is : List Nat) : Prop where
  pg : PG X tg g
  ok : ∀ (v : V) (d : D) (σ : L2.St) (H : Hp) (ρ ρ' : Env) (Mu : List Addr) (Q : L2.St → Hp → Prop), EnvOk X.K X.mg z Mu H σ ρ → Rep X.K X.mg z Mu H v d → t d ρ = some ρ' →
    (∀ σ', EnvOk X.K X.mg z Mu H σ' ρ' → Tch is σ σ' ρ ρ' → Q σ' H) → g v σ H Q
structure TgsOk (X : Cx) (z : Zt) (tg : List Expr) (g : TGs) (t : List D → Env → Option Env) (is : List Nat) : Prop where
  pg : PGs X tg g
  ok : ∀ (vs : List V) (ds : List D) (σ : L2.St) (H : Hp) (ρ ρ' : Env) (Mu : List Addr) (Q : L2.St → Hp → Prop), EnvOk X.K X.mg z Mu H σ ρ → Reps X.K X.mg z Mu H vs ds → t ds ρ = some ρ' →
    (∀ σ', EnvOk X.K X.mg z Mu H σ' ρ' → Tch is σ σ' ρ ρ' → Q σ' H) → g vs σ H Q
def gN (i : Nat) : D → Env → Option Env := fun d ρ => some (ρ.set i (some (false, d)))
def gT (t : List D → Env → Option Env) : D → Env → Option Env := fun d ρ => match d with
  | .tup ds => t ds ρ
  | _ => none
def gNl : List D → Env → Option Env := fun ds ρ => match ds with
  | [] => some ρ
  | _ => none
def gCs (t : D → Env → Option Env) (u : List D → Env → Option Env) : List D → Env → Option Env := fun ds ρ => match ds with
  | d :: r => (t d ρ).bind (u r)
  | _ => none
section
variable {X : Cx} {z : Zt} {pos : Pos}
theorem tg_name {i : Nat} {x : Str} (hN : X.N.Nodup) (hi : X.N[i]? = some x) (hx : Loc X.env.scope x) (hf : X.fn x = true ∨ X.env.scope.names.lookup x = some .local := by first | exact .inl rfl | exact .inr rfl | assumption) : TgOk X z (.Name x pos) (gName i) (gN i) [i] := by
  refine ⟨pg_name hN hi hx hf, fun v d σ H ρ ρ' Mu Q E r h q => ?_⟩
  cases h
  refine q _ (E.set r) ⟨by rw [List.length_set], fun j hj => ?_, fun j hj d' h => ?_⟩
  · have hne : i ≠ j := fun e => hj (by simp [e])
    exact ⟨List.getElem?_set_ne hne, List.getElem?_set_ne hne⟩
  · have e : j = i := by simpa using hj
    subst e
    have hl : j < ρ.length := by
      have h1 := (List.getElem?_eq_some_iff.mp h).1
      rwa [List.length_set] at h1
    rw [List.getElem?_set_self hl] at h
    cases h
theorem tgs_nil : TgsOk X z [] gNil gNl [] := by
  refine ⟨pgs_nil, fun vs ds σ H ρ ρ' Mu Q E r h q => ?_⟩
  cases r with
  | nil =>
    cases h
    exact ⟨rfl, q σ E Tch.refl⟩
  | cons _ _ => cases h
theorem Tch.trans {is js : List Nat} {σ σ1 σ2 : L2.St} {ρ ρ1 ρ2 : Env} (a : Tch is σ σ1 ρ ρ1) (b : Tch js σ1 σ2 ρ1 ρ2) : Tch (is ++ js) σ σ2 ρ ρ2 := by
  refine ⟨b.len.trans a.len, fun i hi => ?_, fun i hi d => ?_⟩
  · have h1 : i ∉ is := fun h => hi (List.mem_append_left _ h)
    have h2 : i ∉ js := fun h => hi (List.mem_append_right _ h)
    exact ⟨(b.out i h2).1.trans (a.out i h1).1, (b.out i h2).2.trans (a.out i h1).2⟩
  · by_cases h2 : i ∈ js
    · exact b.in_ i h2 d
    · rw [(b.out i h2).2]
      rcases List.mem_append.mp hi with h | h
      · exact a.in_ i h d
      · exact absurd h h2
theorem tgs_cons {e : Expr} {es : List Expr} {g : TG} {gs : TGs} {t : D → Env → Option Env} {u : List D → Env → Option Env} {is js : List Nat} (h1 : TgOk X z e g t is) (h2 : TgsOk X z es gs u js)
    (hs : (assignEach (e :: es) X.env).map (·.2) = assign e X.env :: (assignEach es X.env).map (·.2) := by rfl) : TgsOk X z (e :: es) (gCons g gs) (gCs t u) (is ++ js) := by
  refine ⟨pgs_cons h1.pg h2.pg hs, fun vs ds σ H ρ ρ' Mu Q E r h q => ?_⟩
  cases r with
  | nil => cases h
  | cons r rs =>
    obtain ⟨ρ1, e1, e2⟩ := Option.bind_eq_some_iff.mp (show (t _ ρ).bind (u _) = some ρ' from h)
    refine ⟨_, _, rfl, h1.ok _ _ σ H ρ ρ1 Mu _ E r e1 fun σ1 E1 T1 => ?_⟩
    exact h2.ok _ _ σ1 H ρ1 ρ' Mu Q E1 rs e2 fun σ2 E2 T2 => q σ2 E2 (T1.trans T2)
theorem Rep.tup_inv {K : PySem.W.Frag} {mg : Str → Option Value} {Mu : List Addr} {H : Hp} {v : V} {ds : List D} (r : Rep K mg z Mu H v (.tup ds)) : ∃ a xs, v = .ref a ∧ a ∉ Mu ∧ H a = some (.tup xs) ∧ Reps K mg z Mu H xs ds := by
  cases r with | tup n h r => exact ⟨_, _, rfl, n, h, r⟩
theorem gCs_len : ∀ {X : Cx} {es : List Expr} {gs : TGs} {u : List D → Env → Option Env} {is : List Nat} {ds : List D} {ρ ρ' : Env}, True := trivial
theorem tg_tup {es : List Expr} {k n : Nat} {gs : TGs} {u : List D → Env → Option Env} {is : List Nat} (hc : X.calm = true) (h : TgsOk X z es gs u is) (hl : ∀ ds ρ ρ', u ds ρ = some ρ' → ds.length = n)
    (hn : (assignEach es X.env).length = n := by rfl) (hst : (assignEach es X.env).findIdx? (·.1) = none := by rfl) : TgOk X z (.Tuple es k pos) (gTup X.K n gs) (gT u) is := by
  refine ⟨pg_tup hc h.pg hn hst, fun v d σ H ρ ρ' Mu Q E r hu q => ?_⟩
  unfold gT at hu
  split at hu
  · rename_i ds
    obtain ⟨a, xs, rfl, na, ha, rs⟩ := r.tup_inv
    exact ⟨a, xs, rfl, SqT.of ha, by rw [rs.length]; exact hl ds ρ ρ' hu, h.ok xs ds σ H ρ ρ' Mu Q E rs hu q⟩
  · cases hu
theorem gNl_len {ds : List D} {ρ ρ' : Env} (h : gNl ds ρ = some ρ') : ds.length = 0 := by
  cases ds with
  | nil => rfl
  | cons _ _ => cases h
theorem gCs_len' {t : D → Env → Option Env} {u : List D → Env → Option Env} {n : Nat} (hu : ∀ ds ρ ρ', u ds ρ = some ρ' → ds.length = n) {ds : List D} {ρ ρ' : Env} (h : gCs t u ds ρ = some ρ') : ds.length = n + 1 := by
  cases ds with
  | nil => cases h
  | cons d r =>
    obtain ⟨ρ1, e1, e2⟩ := Option.bind_eq_some_iff.mp (show (t d ρ).bind (u r) = some ρ' from h)
    rw [List.length_cons, hu _ _ _ e2]
/-- a, b = .. of names -/
theorem tg_two {e1 e2 : Expr} {k : Nat} {g1 g2 : TG} {t1 t2 : D → Env → Option Env} {is js : List Nat} (hc : X.calm = true) (h1 : TgOk X z e1 g1 t1 is) (h2 : TgOk X z e2 g2 t2 js)
    (hs1 : (assignEach [e1, e2] X.env).map (·.2) = assign e1 X.env :: (assignEach [e2] X.env).map (·.2) := by rfl) (hs2 : (assignEach [e2] X.env).map (·.2) = assign e2 X.env :: (assignEach [] X.env).map (·.2) := by rfl)
    (hn : (assignEach [e1, e2] X.env).length = 2 := by rfl) (hst : (assignEach [e1, e2] X.env).findIdx? (·.1) = none := by rfl) :
    TgOk X z (.Tuple [e1, e2] k pos) (gTup X.K 2 (gCons g1 (gCons g2 gNil))) (gT (gCs t1 (gCs t2 gNl))) (is ++ (js ++ [])) :=
  tg_tup hc (tgs_cons h1 (tgs_cons h2 tgs_nil hs2) hs1) (fun _ _ _ h => gCs_len' (fun _ _ _ h => gCs_len' (fun _ _ _ h => gNl_len h) h) h) hn hst
theorem tg_three {e1 e2 e3 : Expr} {k : Nat} {g1 g2 g3 : TG} {t1 t2 t3 : D → Env → Option Env} {is js ks : List Nat} (hc : X.calm = true) (h1 : TgOk X z e1 g1 t1 is) (h2 : TgOk X z e2 g2 t2 js) (h3 : TgOk X z e3 g3 t3 ks)
    (hs1 : (assignEach [e1, e2, e3] X.env).map (·.2) = assign e1 X.env :: (assignEach [e2, e3] X.env).map (·.2) := by rfl) (hs2 : (assignEach [e2, e3] X.env).map (·.2) = assign e2 X.env :: (assignEach [e3] X.env).map (·.2) := by rfl) (hs3 : (assignEach [e3] X.env).map (·.2) = assign e3 X.env :: (assignEach [] X.env).map (·.2) := by rfl)
    (hn : (assignEach [e1, e2, e3] X.env).length = 3 := by rfl) (hst : (assignEach [e1, e2, e3] X.env).findIdx? (·.1) = none := by rfl) :
    TgOk X z (.Tuple [e1, e2, e3] k pos) (gTup X.K 3 (gCons g1 (gCons g2 (gCons g3 gNil)))) (gT (gCs t1 (gCs t2 (gCs t3 gNl)))) (is ++ (js ++ (ks ++ []))) :=
  tg_tup hc (tgs_cons h1 (tgs_cons h2 (tgs_cons h3 tgs_nil hs3) hs2) hs1) (fun _ _ _ h => gCs_len' (fun _ _ _ h => gCs_len' (fun _ _ _ h => gCs_len' (fun _ _ _ h => gNl_len h) h) h) h) hn hst
end

/-! ### what is walked -/
/-- J gives out ds, whatever changes at Nu; the items read with Mu barred -/
def Yields (K : PySem.W.Frag) (mg : Str → Option Value) (z : Zt) (Nu Mu : List Addr) (J : It) (H : Hp) (ds : List D) : Prop :=
  ∀ H2, ExtM Nu H H2 → ∀ i, (∀ d, ds[i]? = some d → J.go i H2 ∧ ∀ x H3, J.yld i H2 x H3 → Same H2 H3 ∧ ∀ M2 : List Addr, (∀ b, Oc H b → b ∉ Mu → b ∉ M2) → (∀ b ∈ M2, Oc H2 b) → Rep K mg z M2 H3 x d) ∧ (ds.length ≤ i → J.stop i H2)
/-- pk: within an expression, where nothing but the draw state changes -/
def tI (X : Cx) (z : Zt) (W : WX) (pk : Bool) (f : Es) : TI := fun σ H R => ∃ ρ g Mu, EnvOk X.K X.mg z Mu H σ ρ ∧ GOk z H g ∧
  (f ρ g).all (fun ds g' => ∀ J H', Ext z H H' → GOk z H' g' → Yields X.K X.mg z (if pk = true then [z.p, z.l] else Mu) Mu J H' ds → R J H') (XW X z W Mu σ H)
abbrev DI (X : Cx) (z : Zt) (W : WX) (pk : Bool) (tg iter : Expr) (f : Es) : Prop := PI X tg iter (tI X z W pk f)
/-- the items of a list, a tuple -/
def sItems (f : Ep) : Es := fun ρ => do
  let d ← f ρ
  match d with
  | .lst l => M.pure l
  | .tup l => M.pure l
  | _ => stuck
theorem all_items {d : D} {P : List D → G → Prop} {E : Str → Str → List D → G → Prop} {g : G} (h : ((match d with | .lst l => M.pure l | .tup l => M.pure l | _ => stuck) g : R (List D)).all P E) : ∃ l, (d = .lst l ∨ d = .tup l) ∧ P l g := by
  cases d <;> first | exact h.elim | exact ⟨_, .inl rfl, h⟩ | exact ⟨_, .inr rfl, h⟩
section
variable {X : Cx} {z : Zt} {W : WX} {k : Kd} {e tg : Expr} {f : Ep} {pos p : Pos}
theorem yields_list {K : PySem.W.Frag} {mg : Str → Option Value} {Nu Mu : List Addr} {H : Hp} {a : Addr} {xs : List V} {ds : List D} (hn : a ∉ Nu) (h : H a = some (.lst xs)) (r : Reps K mg z Mu H xs ds) (hs : ∀ b ∈ Nu, b ∈ Mu) : Yields K mg z Nu Mu (Itl K a) H ds := by
  intro H2 e i
  have h2 : H2 a = some (.lst xs) := e _ _ h trivial hn
  have r2 : ∀ M2 : List Addr, (∀ b, Oc H b → b ∉ Mu → b ∉ M2) → Reps K mg z M2 H2 xs ds := fun M2 hm => r.mono (fun b u q t n => e b u q t (fun w => n (hs b w))) hm
  refine ⟨fun d hd => ?_, fun hi => ⟨xs, SqL.of h2, by rw [r.length]; exact hi⟩⟩
  obtain ⟨v, hv, _⟩ := r.get' hd
  refine ⟨⟨xs, v, SqL.of h2, hv⟩, fun x H3 y => ?_⟩
  obtain ⟨rfl, y⟩ := y
  have q := y xs (SqL.of h2)
  refine ⟨Same.refl, fun M2 hm _ => ?_⟩
  obtain ⟨d', hd', rd⟩ := (r2 M2 hm).get q
  rw [hd] at hd'
  cases hd'
  exact rd
theorem yields_tup {K : PySem.W.Frag} {mg : Str → Option Value} {Nu Mu : List Addr} {H : Hp} {a : Addr} {xs : List V} {ds : List D} (hn : a ∉ Nu) (h : H a = some (.tup xs)) (r : Reps K mg z Mu H xs ds) (hs : ∀ b ∈ Nu, b ∈ Mu) : Yields K mg z Nu Mu (Itt K a) H ds := by
  intro H2 e i
  have h2 : H2 a = some (.tup xs) := e _ _ h trivial hn
  have r2 : ∀ M2 : List Addr, (∀ b, Oc H b → b ∉ Mu → b ∉ M2) → Reps K mg z M2 H2 xs ds := fun M2 hm => r.mono (fun b u q t n => e b u q t (fun w => n (hs b w))) hm
  refine ⟨fun d hd => ?_, fun hi => ⟨xs, SqT.of h2, by rw [r.length]; exact hi⟩⟩
  obtain ⟨v, hv, _⟩ := r.get' hd
  refine ⟨⟨xs, v, SqT.of h2, hv⟩, fun x H3 y => ?_⟩
  obtain ⟨rfl, y⟩ := y
  have q := y xs (SqT.of h2)
  refine ⟨Same.refl, fun M2 hm _ => ?_⟩
  obtain ⟨d', hd', rd⟩ := (r2 M2 hm).get q
  rw [hd] at hd'
  cases hd'
  exact rd
end
end DL
set_option Elab.async false
set_option linter.all false
set_option maxRecDepth 100000
set_option maxHeartbeats 2000000
/-! The value layer, part 9: walks of lists, tuples, ranges; for, while; two assignments at once; list comprehensions. -/
namespace DL
open PySem PySem.Spec PyProof.Rows L2

def rangeL (lo : Int) (n : Nat) : List D := (List.range n).map fun i : Nat => D.int (lo + (i : Int))
def fR1 : D → Option (List D)
  | .int j => if -(2 ^ 62) ≤ j ∧ j < 2 ^ 62 then some (rangeL 0 j.toNat) else none
  | _ => none
def fR2 : D → D → Option (List D)
  | .int i, .int j => if -(2 ^ 62) ≤ i ∧ i < 2 ^ 62 ∧ -(2 ^ 62) ≤ j ∧ j < 2 ^ 62 then some (rangeL i (j - i).toNat) else none
  | _, _ => none
theorem fR2_some {d d' : D} {l : List D} (h : fR2 d d' = some l) : ∃ i j, d = .int i ∧ d' = .int j ∧ (-(2 ^ 62) ≤ i ∧ i < 2 ^ 62 ∧ -(2 ^ 62) ≤ j ∧ j < 2 ^ 62) ∧ l = rangeL i (j - i).toNat := by
  unfold fR2 at h
  split at h
  · split at h
    · rename_i hc
      cases h
      exact ⟨_, _, rfl, rfl, hc, rfl⟩
    · cases h
  · cases h
def sRange1 (f : Ep) : Es := fun ρ => do let d ← f ρ; ofOpt (fR1 d)
def sRange2 (f h : Ep) : Es := fun ρ => do let d ← f ρ; let d' ← h ρ; ofOpt (fR2 d d')
section
variable {X : Cx} {z : Zt} {W : WX} {pk : Bool} {k ka kb : Kd} {e a b tg : Expr} {f fa fb : Ep} {pos p : Pos}
theorem di_seq (h : DE X z W (if pk = true then .peek else .sh) e f) : DI X z W pk tg e (sItems f) := by
  refine ⟨fun pins s σ H Rr I ⟨ρ, g, Mu, E, G1, hx⟩ => ?_⟩
  refine de_run h I E G1 (R.all_imp (R.all_bind hx) (fun d g1 hx v u H1 s1 I1 r1 e1 G2 E1 k1 => ?_) fun _ _ _ _ h => h)
  obtain ⟨l, hd, hx⟩ := all_items hx
  have m1 := E1.mu
  have hs : ∀ b ∈ (if pk = true then [z.p, z.l] else Mu), b ∈ Mu := by
    intro b hb
    cases pk with
    | false => exact hb
    | true =>
      rcases List.mem_cons.mp hb with hb | hb
      · rw [hb]; exact m1.p
      · rw [List.mem_singleton.mp hb]; exact m1.l
  have nn : ∀ a, (a ∉ Mu ∨ (pk = true ∧ a ≠ z.p ∧ a ≠ z.l)) → a ∉ (if pk = true then [z.p, z.l] else Mu) := by
    intro a ha hb
    rcases ha with ha | ⟨hpk, n1, n2⟩
    · exact ha (hs a hb)
    · subst hpk
      rcases List.mem_cons.mp hb with hb | hb
      · exact n1 hb
      · exact n2 (List.mem_singleton.mp hb)
  have L : ∀ {a : Addr} {xs : List V} {ds : List D}, v = .ref a → d = .lst ds → (a ∉ Mu ∨ (pk = true ∧ a ≠ z.p ∧ a ≠ z.l)) → H1 a = some (.lst xs) → Reps X.K X.mg z Mu H1 xs ds → wpAny (model X.prog X.w) X.A (pyIter u) (PIE X pins σ tg Rr) X.xe s1 := by
    intro a xs ds ev ed ha hh rs
    subst ev
    cases r1
    rcases hd with hd | hd
    · rw [ed] at hd
      cases hd
      obtain ⟨its, rv, pl, hz⟩ := I1.list (SqL.of hh)
      refine wpAny_pyIter_list pl.isList ?_
      refine ⟨s1.heap.objs.size, [s1.heap.objs.size], _, _, H1, rfl, I1.kept (t' := s1.toks) fun b o e => Heap.get?_push_of_some _ e, turn_list a _, ⟨_, Heap.get?_push_size _ rfl, rfl, rfl⟩, fun b hb => ?_, hx _ H1 e1 G2 (yields_list (nn a ha) hh rs hs)⟩
      have e : b = s1.heap.objs.size := by simpa using hb
      subst e
      exact I1.fpOk (Nat.le_refl _) (I1.hok.fresh (Nat.le_refl _))
    · rw [ed] at hd; cases hd
  have T : ∀ {a : Addr} {xs : List V} {ds : List D}, v = .ref a → d = .tup ds → a ∉ Mu → H1 a = some (.tup xs) → Reps X.K X.mg z Mu H1 xs ds → wpAny (model X.prog X.w) X.A (pyIter u) (PIE X pins σ tg Rr) X.xe s1 := by
    intro a xs ds ev ed ha hh rs
    subst ev
    cases r1
    rcases hd with hd | hd
    · rw [ed] at hd; cases hd
    · rw [ed] at hd
      cases hd
      obtain ⟨its, rv, pl, hz⟩ := I1.tuple (SqT.of hh)
      refine wpAny_pyIter_tuple (show s1.heap.IsTuple a its.toArray from pl) ?_
      refine ⟨s1.heap.objs.size, [s1.heap.objs.size], _, _, H1, rfl, I1.kept (t' := s1.toks) fun b o e => Heap.get?_push_of_some _ e, turn_tuple a _, ⟨_, Heap.get?_push_size _ rfl, rfl, rfl⟩, fun b hb => ?_, hx _ H1 e1 G2 (yields_tup (nn a (.inl ha)) hh rs hs)⟩
      have e : b = s1.heap.objs.size := by simpa using hb
      subst e
      exact I1.fpOk (Nat.le_refl _) (I1.hok.fresh (Nat.le_refl _))
  have go : PR X.K X.mg z Mu H1 v d → (∀ a, (∃ c : Cont X.K X.mg z Mu H1 a d, True) → v = .ref a → a ∈ Mu → pk = true) → wpAny (model X.prog X.w) X.A (pyIter u) (PIE X pins σ tg Rr) X.xe s1 := by
    intro pr hp
    rcases pr with r | ⟨a, ev, ha, n1, n2, n3, c⟩
    · rcases hd with hd | hd
      · subst hd
        cases r with
        | lst n h rs => exact L rfl rfl (.inl n) h rs
      · subst hd
        cases r with
        | tup n h rs => exact T rfl rfl n h rs
    · have hpk := hp a ⟨c, trivial⟩ ev ha
      rcases hd with hd | hd
      · subst hd
        cases c with
        | lst h rs => exact L ev rfl (.inr ⟨hpk, n1, n2⟩) h rs
      · subst hd
        cases c
  cases pk with
  | true => exact go k1 fun _ _ _ _ => rfl
  | false =>
    have r : Rep X.K X.mg z Mu H1 v d := k1
    rcases hd with hd | hd
    · subst hd
      cases r with
      | lst n h rs => exact L rfl rfl (.inl n) h rs
    · subst hd
      cases r with
      | tup n h rs => exact T rfl rfl n h rs
theorem yields_range {K : PySem.W.Frag} {mg : Str → Option Value} {Nu Mu : List Addr} {H : Hp} (lo : Int) (n : Nat) : Yields K mg z Nu Mu (Itr lo n) H (rangeL lo n) := by
  intro H2 e i
  unfold rangeL
  refine ⟨fun d hd => ?_, fun hi => by rw [List.length_map, List.length_range] at hi; exact hi⟩
  rw [List.getElem?_map] at hd
  obtain ⟨j, hj, rfl⟩ := Option.map_eq_some_iff.mp hd
  have hlt : i < n := by
    have h := (List.getElem?_eq_some_iff.mp hj).1
    rwa [List.length_range] at h
  have ej : j = i := by
    rw [List.getElem?_range hlt] at hj
    exact (Option.some.inj hj).symm
  subst ej
  refine ⟨hlt, fun x H3 y => ?_⟩
  obtain ⟨rfl, rfl⟩ := y
  exact ⟨Same.refl, fun _ _ _ => .int _⟩
theorem di_range1 (hg : Gl X "range") (hm : X.mg "range" = none) (ha : DE X z W k a f) (hs : starEach [a] X.env = (false, eval a X.env) :: starEach [] X.env := by rfl) (hs2 : starEach [a] X.env = [(false, eval a X.env)] := by rfl) : DI X z W pk tg (.Call (.Name "range" p) [a] [] pos) (sRange1 f) := by
  refine ⟨fun pins s σ H Rr I ⟨ρ, g, Mu, E, G1, hx⟩ => ?_⟩
  refine (pi_range1 hg hm (pa_cons ha pa_nil hs) hs2).run pins s σ H Rr I ⟨ρ, g, Mu, E, G1, R.all_imp (R.all_bind hx) (fun d g1 hx v H1 e1 G2 k1 => ?_) fun _ _ _ _ h => h⟩
  obtain ⟨l, hl, hx⟩ := R.all_opt hx
  unfold fR1 at hl
  split at hl
  · rename_i j
    obtain ⟨⟨h1, h2⟩, rfl⟩ := opt_if hl
    have ev := (k1.peek E.mu (E.mu.ext (g := g) e1 G2) G2).int
    subst ev
    exact ⟨j, rfl, h1, h2, hx _ H1 e1 G2 (yields_range 0 _)⟩
  · cases hl
theorem di_range2 (hg : Gl X "range") (hm : X.mg "range" = none) (ha : DE X z W ka a fa) (hb : DE X z W kb b fb) (hs : starEach [a, b] X.env = (false, eval a X.env) :: starEach [b] X.env := by rfl) (hs' : starEach [b] X.env = (false, eval b X.env) :: starEach [] X.env := by rfl)
    (h2 : starEach [a, b] X.env = [(false, eval a X.env), (false, eval b X.env)] := by rfl) (h3 : starEach [b] X.env = [(false, eval b X.env)] := by rfl) : DI X z W pk tg (.Call (.Name "range" p) [a, b] [] pos) (sRange2 fa fb) := by
  refine ⟨fun pins s σ H Rr I ⟨ρ, g, Mu, E, G1, hx⟩ => ?_⟩
  refine (pi_range2 hg hm (pa_cons ha (pa_cons hb pa_nil hs') hs) h2 h3).run pins s σ H Rr I ⟨ρ, g, Mu, E, G1, R.all_imp (R.all_bind hx) (fun d g1 hx v H1 e1 G2 k1 => ?_) fun _ _ _ _ h => h⟩
  have E1 := E.ext G1 e1 G2
  show tCons (tE X z W kb fb) tNil σ H1 _
  refine ⟨ρ, g1, Mu, E1, G2, R.all_imp (Raising.all (R.all_bind hx) e1) (fun d' g2 hx v' H2 e2 G3 k2 => ?_) fun _ _ _ _ h => h⟩
  obtain ⟨l, hl, hx⟩ := R.all_opt hx
  obtain ⟨i, j, rfl, rfl, h1, rfl⟩ := fR2_some hl
  have ev := (k1.peek E.mu E1.mu G2).int
  have ev' := (k2.peek E1.mu (E1.mu.ext (g := g1) e2 G3) G3).int
  subst ev ev'
  exact ⟨i, j, rfl, h1, hx _ H2 (e1.trans e2) G3 (yields_range _ _)⟩
end

/-! ### for -/
def sForL (t : D → Env → Option Env) (body : Ss) : List D → Ss
  | [], ρ => M.pure (.nx ρ)
  | d :: l, ρ => do
    let ρ1 ← ofOpt (t d ρ)
    let fl ← body ρ1
    match fl with
    | .nx ρ' => sForL t body l ρ'
    | .ct ρ' => sForL t body l ρ'
    | .bk ρ' => M.pure (.nx ρ')
    | .ret d => M.pure (.ret d)
def sFor (f : Es) (t : D → Env → Option Env) (body : Ss) : Ss := fun ρ => do
  let l ← f ρ
  sForL t body l ρ
section
variable {X : Cx} {n : En} {tg iter c : Expr} {body : List Stmt} {f : Es} {t : D → Env → Option Env} {is : List Nat} {gt : TG} {tb : Ss} {tc : Et} {pos : Pos}
theorem SOk.tch {K : PySem.W.Frag} {mg : Str → Option Value} {z : Zt} {P : Snap} {H : Hp} {Mu : List Addr} {σ σ' : L2.St} {ρ ρ' : Env} {g : G} (S : SOk K mg z P Mu H σ ρ g) (E : EnvOk K mg z Mu H σ' ρ') (T : Tch is σ σ' ρ ρ') : SOk K mg z P Mu H σ' ρ' g :=
  ⟨E, S.g, S.ext, S.sub, S.m0, fun i d a q s => by
    by_cases hi : i ∈ is
    · exact absurd q (T.in_ i hi d)
    · rw [(T.out i hi).2] at q
      rw [(T.out i hi).1] at s
      exact S.own i d a q s, S.kp, S.km, S.kz, S.kt⟩
/-- the same, with a look back at this state -/
def En.snap (n : En) (H : Hp) (Mu : List Addr) : En := { n with p := n.p.at_ H Mu }
theorem PSs.ex {α : Type} {X : Cx} {b : List Stmt} {t : α → TS} (h : ∀ a, PSs X b (t a)) : PSs X b (fun D σ H => ∃ a, t a D σ H) := ⟨fun pins s σ H D I ⟨a, q⟩ => (h a).run pins s σ H D I q⟩
theorem SW.unsnap {P : L2.St → Hp → Prop} {H1 : Hp} {M1 : List Addr} {σ1 : L2.St} {ρ1 ρ : Env} {g1 g : G} (S : SOk X.K X.mg n.z n.p M1 H1 σ1 ρ1 g1) (h : SW X n P ρ g) : SW X (n.snap H1 M1) P ρ g := fun σ H Mu T => h σ H Mu (S.unsnap T)
theorem ds_for (hp : PassesOwn (model X.prog X.w) X.A X.env X.xe) (hc : X.calm = true) (hi : DI X n.z n.W false tg iter f) (hg : TgOk X n.z tg gt t is) (hb : ∀ H Mu, DSs X (n.snap H Mu) body tb)
    (hs : ∀ x, foldedSetIterable iter X.env x = pure x := by intro _; rfl) : DS X n (.For tg iter body [] pos) (sFor f t tb) := by
  refine ⟨fun pins s σ H D I ⟨ρ, g, Mu, S, hx⟩ => ?_⟩
  refine (ps_for hp hc hi hg.pg (PSs.ex (α := Hp × List Addr) fun a => hb a.1 a.2) hs).run pins s σ H D I ⟨ρ, g, Mu, S.env, S.g, R.all_imp (EW.x S (R.all_eq (R.all_bind hx))) (fun ds g1 ⟨hq, hx⟩ J H1 e1 G2 hy => ?_) fun _ _ _ _ h => h⟩
  have hy : Yields X.K X.mg n.z Mu Mu J H1 ds := hy
  have S1 := S.step e1 G2
  refine ⟨fun i m σ2 H2 => m = ds.length - i ∧ i ≤ ds.length ∧ ∃ ρ2 g2 Mu2, SOk X.K X.mg n.z (n.p.at_ H1 Mu) Mu2 H2 σ2 ρ2 g2 ∧ (sForL t tb (ds.drop i) ρ2 g2).all (FW X n D) (EW X n), ⟨ds.length, rfl, Nat.zero_le _, ρ, g1, Mu, S1.snap, hx⟩, ?_⟩
  rintro i m σ2 H2 ⟨rfl, hle, ρ2, g2, Mu2, S2, hx2⟩
  obtain ⟨y1, y2⟩ := hy H2 S2.kp i
  by_cases hlt : i < ds.length
  · obtain ⟨hgo, hyl⟩ := y1 ds[i] (List.getElem?_eq_getElem hlt)
    rw [List.drop_eq_getElem_cons hlt] at hx2
    have hx2 := R.all_bind hx2
    obtain ⟨ρ3, ht, hx3⟩ := R.all_opt hx2
    refine .inr ⟨hgo, fun σ' H' => ∃ ρ' g' Mu', SOk X.K X.mg n.z (n.p.at_ H1 Mu) Mu' H' σ' ρ' g' ∧ (sForL t tb (ds.drop (i + 1)) ρ' g').all (FW X n D) (EW X n), ?_, fun x H3 y => ?_⟩
    · rintro σ' H' ⟨ρ', g', Mu', S', hx'⟩
      exact ⟨ds.length - (i + 1), by omega, rfl, hlt, ρ', g', Mu', S', hx'⟩
    · obtain ⟨sm, rep⟩ := hyl x H3 y
      have S3 := S2.step (Ext.of sm) (S2.g.same sm)
      have rx := rep Mu2 S2.km S2.env.mu.at_
      refine hg.ok x ds[i] σ2 H3 ρ2 ρ3 Mu2 _ S3.env rx ht fun σ4 E4 T4 => ?_
      refine ⟨(H1, Mu), ρ3, g2, Mu2, S3.tch E4 T4, ?_⟩
      refine R.all_imp (R.all_bind hx3) (fun fl g3 hf => ?_) fun _ _ _ _ h => h
      cases fl with
      | nx ρ' => exact fun σ5 H5 Mu5 S5 => ⟨ρ', g3, Mu5, S5, hf⟩
      | ct ρ' => exact fun σ5 H5 Mu5 S5 => ⟨ρ', g3, Mu5, S5, hf⟩
      | bk ρ' => exact SW.unsnap S1 hf
      | ret d => exact hf
  · refine .inl ⟨y2 (by omega), ?_⟩
    rw [List.drop_eq_nil_of_le (by omega)] at hx2
    exact hx2 σ2 H2 Mu2 (S1.unsnap S2)
/-! ### while -/
/-- at most N turns -/
def sWhile (c : Et) (body : Ss) : Nat → Ss
  | 0, _ => stuck
  | N + 1, ρ => do
    if ← c ρ then
      let fl ← body ρ
      match fl with
      | .nx ρ' => sWhile c body N ρ'
      | .ct ρ' => sWhile c body N ρ'
      | .bk ρ' => M.pure (.nx ρ')
      | .ret d => M.pure (.ret d)
    else M.pure (.nx ρ)
theorem ds_while (N : Nat) (hp : PassesOwn (model X.prog X.w) X.A X.env X.xe) (hc : DT X n.z n.W c tc) (hb : DSs X n body tb) : DS X n (.While c body [] pos) (sWhile tc tb N) := by
  refine ⟨fun pins s σ H D I ⟨ρ, g, Mu, S, hx⟩ => ?_⟩
  refine (ps_while hp hc hb).run pins s σ H D I ⟨fun m σ2 H2 => ∃ ρ2 g2 Mu2, SOk X.K X.mg n.z n.p Mu2 H2 σ2 ρ2 g2 ∧ (sWhile tc tb m ρ2 g2).all (FW X n D) (EW X n), ⟨N, ρ, g, Mu, S, hx⟩, ?_⟩
  rintro m σ2 H2 ⟨ρ2, g2, Mu2, S2, hx2⟩
  cases m with
  | zero => exact hx2.elim
  | succ m =>
    refine ⟨ρ2, g2, Mu2, S2.env, S2.g, R.all_imp (EW.x S2 (R.all_bind hx2)) (fun b g3 hx3 H3 e3 G3 => ?_) fun _ _ _ _ h => h⟩
    have S3 := S2.step e3 G3
    cases b with
    | false => exact hx3 σ2 H3 Mu2 S3
    | true =>
      dsimp only
      rw [if_pos rfl]
      refine ⟨fun σ' H' => ∃ ρ' g' Mu', SOk X.K X.mg n.z n.p Mu' H' σ' ρ' g' ∧ (sWhile tc tb m ρ' g').all (FW X n D) (EW X n), fun σ' H' h => ⟨m, Nat.lt_succ_self _, h⟩, ρ2, g3, Mu2, S3, ?_⟩
      refine R.all_imp (R.all_bind hx3) (fun fl g4 hf => ?_) fun _ _ _ _ h => h
      cases fl with
      | nx ρ' => exact fun σ5 H5 Mu5 S5 => ⟨ρ', g4, Mu5, S5, hf⟩
      | ct ρ' => exact fun σ5 H5 Mu5 S5 => ⟨ρ', g4, Mu5, S5, hf⟩
      | bk ρ' => exact hf
      | ret d => exact hf
end
end DL
set_option Elab.async false
set_option linter.all false
set_option maxRecDepth 100000
set_option maxHeartbeats 2000000
/-! The value layer, part 10: list comprehensions. -/
namespace DL
open PySem PySem.Spec PyProof.Rows L2

/-- what raises has no place here -/
def nox {α : Type} (m : M α) : M α := fun g => match m g with
  | .ok a g' => .ok a g'
  | _ => .stuck
theorem all_nox {α : Type} {m : M α} {g : G} {P : α → G → Prop} {E E' : Str → Str → List D → G → Prop} (h : (nox m g).all P E) : (m g).all P E' := by
  unfold nox at h
  cases q : m g with
  | stuck => rw [q] at h; exact h.elim
  | ok a g' => rw [q] at h; exact h
  | exc c f l g' => rw [q] at h; exact h.elim
def wipeE (ρ : Env) : List Nat → Env
  | [] => ρ
  | v :: vs => (wipeE ρ vs).set v none
def sYes : Et := fun _ => M.pure true
/-- the items that a comprehension makes -/
def sLcL (ρ : Env) (t : D → Env → Option Env) (tt : Et) (f : Ep) : List D → M (List D)
  | [] => M.pure []
  | d :: l => do
    let ρ1 ← ofOpt (t d ρ)
    let b ← nox (tt ρ1)
    if b then
      let y ← nox (f ρ1)
      let r ← sLcL ρ t tt f l
      M.pure (y :: r)
    else sLcL ρ t tt f l
def eLc (it : Es) (t : D → Env → Option Env) (tt : Et) (f : Ep) (vs : List Nat) : Ep := fun ρ => do
  let ds ← it ρ
  let _ ← ofOpt (if ds.length ≤ sizeLine then some () else none)
  let r ← sLcL (wipeE ρ vs) t tt f ds
  M.pure (.lst r)
section
variable {K : PySem.W.Frag} {mg : Str → Option Value} {z : Zt} {Mu : List Addr} {H H' : Hp} {σ : L2.St} {ρ : Env} {g g' : G}
theorem EnvOk.bar {a : Addr} (E : EnvOk K mg z Mu H σ ρ) (G1 : GOk z H g) (e : Ext z H H') (G' : GOk z H' g') (n : ¬ Oc H a) (there : Oc H' a) : EnvOk K mg z (a :: Mu) H' σ ρ := by
  have na : a ∉ Mu := fun w => n (E.mu.at_ a w)
  have E1 := E.ext G1 e G'
  refine ⟨E.len, ⟨List.mem_cons_of_mem _ E1.mu.p, List.mem_cons_of_mem _ E1.mu.l, List.mem_cons_of_mem _ E1.mu.c, fun b hb => ?_⟩, fun j t d' q => ?_, E.sep⟩
  · rcases List.mem_cons.mp hb with hb | hb
    · rw [hb]; exact there
    · exact E1.mu.at_ b hb
  · obtain ⟨w, q1, q2⟩ := E.val j t d' q
    refine ⟨w, q1, q2.mono (fun b ev et => ?_) (e.m E.mu.p E.mu.l) fun b hu h w => ?_⟩
    · subst et
      obtain ⟨b', ev', hb', m1, m2, m3, _⟩ := id q2
      have := ev.symm.trans ev'
      cases this
      exact ⟨fun u hu nu => e.to b u hu nu m1 m2, List.mem_cons_of_mem _ hb'⟩
    · rcases List.mem_cons.mp w with w | w
      · exact hu.ne n w
      · exact h w
theorem EnvOk.wipe (E : EnvOk K mg z Mu H σ ρ) : ∀ vs : List Nat, EnvOk K mg z Mu H (L2.wipe σ vs) (wipeE ρ vs)
  | [] => E
  | v :: vs => (EnvOk.wipe E vs).unset
end
theorem wipe_get (σ : L2.St) : ∀ (vs : List Nat) (i : Nat), (wipe σ vs)[i]? = if i ∈ vs then (if i < σ.length then some none else none) else σ[i]?
  | [], i => by simp [wipe]
  | v :: vs, i => by
    show ((wipe σ vs).set v none)[i]? = _
    rw [List.getElem?_set, wipe_length, wipe_get σ vs i]
    by_cases h : v = i
    · subst h
      simp
    · rw [if_neg h]
      have h' : ¬ i = v := fun e => h e.symm
      simp only [List.mem_cons, h', false_or]
theorem wipe_tch {σ σ' : L2.St} {ρ ρ' : Env} {is vs : List Nat} (T : Tch is (wipe σ vs) σ' ρ ρ') (hs : ∀ i ∈ is, i ∈ vs) : wipe σ' vs = wipe σ vs := by
  apply List.ext_getElem?
  intro i
  rw [wipe_get, wipe_get]
  have hl : σ'.length = σ.length := by rw [T.len, wipe_length]
  by_cases hi : i ∈ vs
  · rw [if_pos hi, if_pos hi, hl]
  · rw [if_neg hi, if_neg hi]
    have h := (T.out i fun w => hi (hs i w)).1
    rw [h, wipe_get, if_neg hi]
section
variable {X : Cx} {z : Zt} {W : WX} {elt tg iter c : Expr} {ifs : List Expr} {scope : Scope} {own : List (Str × Nat)} {pos : Pos} {it : Es} {gt : TG} {t : D → Env → Option Env} {is : List Nat} {tt : Et} {f : Ep}
abbrev W0 : WX := fun _ _ _ _ => False
abbrev DTs (X : Cx) (z : Zt) (W : WX) (es : List Expr) (f : Et) : Prop := PTs X es (tT X z W f)
theorem dts_nil : DTs X z W [] sYes := ⟨fun _ s σ H Q I ⟨ρ, g, Mu, E, G1, hx⟩ => wpAny_tests_nil ⟨H, I, hx H Ext.refl G1⟩⟩
theorem dts_one (h : DT X z W c tt) : DTs X z W [c] tt := pts_one h
theorem lc_read {σ : L2.St} {H : Hp} {Q : VK} {ρ : Env} {g : G} {Mu : List Addr} (hgo : ∀ (v : V) (d : D) (σ : L2.St) (H : Hp) (ρ ρ' : Env) (Mu : List Addr) (Q : L2.St → Hp → Prop), EnvOk X.K X.mg z Mu H σ ρ → Rep X.K X.mg z Mu H v d → t d ρ = some ρ' → (∀ σ', EnvOk X.K X.mg z Mu H σ' ρ' → Tch is σ σ' ρ ρ' → Q σ' H) → gt v σ H Q)
    (hsub : ∀ i ∈ is, i ∈ own.map (·.2)) (E : EnvOk X.K X.mg z Mu H σ ρ) (G1 : GOk z H g)
    (hx : (eLc it t tt f (own.map (·.2)) ρ g).all (fun d g' => ∀ v H', Ext z H H' → GOk z H' g' → RK X.K X.mg z .new H Mu H' v d → Q v H') (XW X z W Mu σ H)) :
    tLc (tI X z W true it) gt (tT X z W0 tt) (tE X z W0 .sh f) (own.map (·.2)) σ H Q := by
  refine ⟨ρ, g, Mu, E, G1, R.all_imp (R.all_bind hx) (fun ds g1 hx J H1 e1 G2 hy Dd nD => ?_) fun _ _ _ _ h => h⟩
  obtain ⟨_, hz, hx⟩ := R.all_opt (R.all_bind hx)
  obtain ⟨hz, _⟩ := opt_if hz
  have hx := R.all_bind hx
  have np : Dd ≠ z.p := fun w => by
    rw [w, G2.p] at nD; cases nD
  have nl : Dd ≠ z.l := fun w => by
    rw [w, G2.l] at nD; cases nD
  have nc : Dd ≠ z.c := fun w => by
    rw [w, G2.c] at nD; cases nD
  have nH : ¬ Oc H Dd := e1.none (oc_none nD) np nl
  have E1 := E.ext G1 e1 G2
  have s1 : Same H1 (upd H1 Dd (.lst [])) := same_upd' nD
  refine ⟨fun i m H2 => m = ds.length - i ∧ i ≤ ds.length ∧ ∃ acc ds' g2, H2 Dd = some (.lst acc) ∧ Reps X.K X.mg z (Dd :: Mu) H2 acc ds' ∧ ds'.length ≤ i ∧ GOk z H2 g2 ∧ Ext z H1 H2 ∧
      (sLcL (wipeE ρ (own.map (·.2))) t tt f (ds.drop i) g2).all (fun out g' => ∀ v H', Ext z H H' → GOk z H' g' → RK X.K X.mg z .new H Mu H' v (.lst (ds' ++ out)) → Q v H') (XW X z W Mu σ H),
    ⟨ds.length, rfl, Nat.zero_le _, [], [], g1, upd_same, .nil, Nat.le_refl _, G2.same s1, Ext.of s1, hx⟩, ?_⟩
  rintro i m H2 ⟨rfl, hle, acc, ds', g2, hD, ra, hl, G3, e2, hx2⟩
  have hyi : ExtM (if true = true then [z.p, z.l] else Mu) H1 H2 := fun b u q t hn => e2.to b u q t (fun w => hn (by rw [if_pos rfl]; simp [w])) (fun w => hn (by rw [if_pos rfl]; simp [w]))
  obtain ⟨y1, y2⟩ := hy H2 hyi i
  by_cases hlt : i < ds.length
  · obtain ⟨hgo', hyl⟩ := y1 ds[i] (List.getElem?_eq_getElem hlt)
    rw [List.drop_eq_getElem_cons hlt] at hx2
    obtain ⟨ρ3, ht, hx3⟩ := R.all_opt (R.all_bind hx2)
    refine .inr ⟨hgo', fun H' => i + 1 ≤ ds.length ∧ ∃ acc ds' g2, H' Dd = some (.lst acc) ∧ Reps X.K X.mg z (Dd :: Mu) H' acc ds' ∧ ds'.length ≤ i + 1 ∧ GOk z H' g2 ∧ Ext z H1 H' ∧
      (sLcL (wipeE ρ (own.map (·.2))) t tt f (ds.drop (i + 1)) g2).all (fun out g' => ∀ v H', Ext z H H' → GOk z H' g' → RK X.K X.mg z .new H Mu H' v (.lst (ds' ++ out)) → Q v H') (XW X z W Mu σ H), fun H' ⟨h1, h2⟩ => ⟨ds.length - (i + 1), by omega, rfl, h1, h2⟩, fun x H3 y => ?_⟩
    obtain ⟨sm, rep⟩ := hyl x H3 y
    have G4 := G3.same sm
    have e3 : Ext z H1 H3 := e2.trans (Ext.of sm)
    have hD3 : H3 Dd = some (.lst acc) := sm _ _ hD
    have B2 : EnvOk X.K X.mg z (Dd :: Mu) H2 (wipe σ (own.map (·.2))) (wipeE ρ (own.map (·.2))) := (E.bar G1 (e1.trans e2) G3 nH ⟨_, hD, trivial⟩).wipe _
    have B3 := B2.ext G3 (Ext.of sm) G4
    have rx := rep (Dd :: Mu) (fun b q hn w => by
      rcases List.mem_cons.mp w with w | w
      · exact q.ne (oc_none nD) w
      · exact hn w) B2.mu.at_
    refine hgo x ds[i] _ H3 _ ρ3 (Dd :: Mu) _ B3 rx ht fun σ4 E4 T4 => ⟨wipe_tch T4 hsub, ?_⟩
    refine ⟨ρ3, g2, Dd :: Mu, E4, G4, R.all_imp (all_nox (E' := XW X z W0 (Dd :: Mu) σ4 H3) (R.all_bind hx3)) (fun b g3 hx4 H5 e5 G5 => ?_) fun _ _ _ _ h => h⟩
    have ra5 : Reps X.K X.mg z (Dd :: Mu) H5 acc ds' := ra.mono (fun b u q t hn => e5.to b u (sm b u q) t (fun w => hn (w ▸ B2.mu.p)) (fun w => hn (w ▸ B2.mu.l))) fun _ _ h => h
    have hD5 : H5 Dd = some (.lst acc) := e5.to _ _ hD3 trivial np nl
    cases b with
    | false => exact ⟨hlt, acc, ds', g3, hD5, ra5, by omega, G5, e3.trans e5, hx4⟩
    | true =>
      dsimp only
      rw [if_pos rfl]
      have E5 := E4.ext G4 e5 G5
      refine ⟨ρ3, g3, Dd :: Mu, E5, G5, R.all_imp (all_nox (E' := XW X z W0 (Dd :: Mu) σ4 H5) (R.all_bind hx4)) (fun y g4 hx5 v H6 e6 G6 k6 => ?_) fun _ _ _ _ h => h⟩
      have k6 : Rep X.K X.mg z (Dd :: Mu) H6 v y := k6
      have hD6 : H6 Dd = some (.lst acc) := e6.to _ _ hD5 trivial np nl
      have ra6 : Reps X.K X.mg z (Dd :: Mu) H6 acc ds' := ra5.ext E5.mu G5 e6
      have up : ExtM (Dd :: Mu) H6 (upd H6 Dd (.lst (acc ++ [v]))) := fun b u q t hn => by rw [upd_ne (fun w => hn (by rw [w]; exact List.mem_cons_self))]; exact q
      have ra7 : Reps X.K X.mg z (Dd :: Mu) (upd H6 Dd (.lst (acc ++ [v]))) (acc ++ [v]) (ds' ++ [y]) := (ra6.append (.one k6)).mono up fun _ _ h => h
      have hlen : acc.length < sizeLine := by
        rw [ra6.length]
        omega
      refine ⟨acc, hD6, hlen, hlt, acc ++ [v], ds' ++ [y], g4, upd_same, ra7, by simp; omega, G6.write np nl nc (fun ps w => by rw [hD6] at w; cases w) (fun q w => by rw [hD6] at w; cases w), ⟨fun b u q t h1 h2 => ?_⟩, ?_⟩
      · have hb : b ≠ Dd := fun w => by rw [w, nD] at q; cases q
        rw [upd_ne hb]
        exact e6.to b u (e5.to b u (e3.to b u q t h1 h2) t h1 h2) t h1 h2
      · refine R.all_imp (R.all_bind hx5) (fun out g5 hq => ?_) fun _ _ _ _ h => h
        intro v' H' e' G' k'
        refine hq v' H' e' G' ?_
        rw [List.append_assoc] at k'
        exact k'
  · refine .inl ⟨y2 (by omega), ?_⟩
    rw [List.drop_eq_nil_of_le (by omega)] at hx2
    have hq : ∀ v H', Ext z H H' → GOk z H' g2 → RK X.K X.mg z .new H Mu H' v (.lst (ds' ++ [])) → Q v H' := hx2
    rw [List.append_nil] at hq
    refine hq _ H2 (e1.trans e2) G3 ?_
    show if D.box (.lst ds') = true then ∃ a, V.ref Dd = .ref a ∧ ¬ Oc H a ∧ Cont X.K X.mg z (a :: Mu) H2 a (.lst ds') else Rep X.K X.mg z Mu H2 (.ref Dd) (.lst ds')
    rw [if_pos (show D.box (.lst ds') = true from rfl)]
    exact ⟨Dd, rfl, nH, .lst hD ra⟩
theorem de_lc (hX : XG X) (hi : DI X z W true tg iter it) (ok : BlkOk X.N X.env.scope scope own) (hsub : ∀ i ∈ is, i ∈ own.map (·.2))
    (hg : ∀ (s : Shared) (H : Hp) (C : Addr) (cl : List (Str × Addr)) (fp : List Addr), TgOk (X.blk s H scope (compEnvC scope cl C X.env) fp) z tg gt t is)
    (ht : ∀ (s : Shared) (H : Hp) (C : Addr) (cl : List (Str × Addr)) (fp : List Addr), DTs (X.blk s H scope (compEnvC scope cl C X.env) fp) z W0 ifs tt)
    (he : ∀ (s : Shared) (H : Hp) (C : Addr) (cl : List (Str × Addr)) (fp : List Addr), DE (X.blk s H scope (compEnvC scope cl C X.env) fp) z W0 .sh elt f) (hs : ∀ x, foldedSetIterable iter X.env x = pure x := by intro _; rfl) :
    DE X z W .new (.ListComp elt [⟨tg, iter, ifs, 0⟩] scope pos) (eLc it t tt f (own.map (·.2))) := by
  refine ⟨fun pins s σ H Q I ⟨ρ, g, Mu, E, G1, hx⟩ => ?_⟩
  refine (pe_lc (tt := tT X z W0 tt) (te := tE X z W0 .sh f) hX.calm hX.nd hi ok (fun s H C cl fp => (hg s H C cl fp).pg) ht he hs).run pins s σ H Q I ?_
  exact lc_read (fun v d σ H ρ ρ' Mu Q => (hg s H default [] []).ok v d σ H ρ ρ' Mu Q) hsub E G1 hx
/-- y = [..] on one line -/
theorem ds_setLc {n : En} {i : Nat} {y : Str} {py spos : Pos} (hX : XG X) (hy : X.N[i]? = some y) (hyl : X.env.scope.names.lookup y = some .local)
    (hsw : swapsWith (.ListComp elt [⟨tg, iter, ifs, 0⟩] scope pos) (some (.Name y py)) spos.line X.env = pure true) (hi : DI X n.z n.W true tg iter it) (ok : BlkOk X.N X.env.scope scope own) (hsub : ∀ i ∈ is, i ∈ own.map (·.2))
    (hg : ∀ (s : Shared) (H : Hp) (C : Addr) (cl : List (Str × Addr)) (fp : List Addr), TgOk (X.blk s H scope (compEnvC scope cl C X.env) fp) n.z tg gt t is)
    (ht : ∀ (s : Shared) (H : Hp) (C : Addr) (cl : List (Str × Addr)) (fp : List Addr), DTs (X.blk s H scope (compEnvC scope cl C X.env) fp) n.z W0 ifs tt)
    (he : ∀ (s : Shared) (H : Hp) (C : Addr) (cl : List (Str × Addr)) (fp : List Addr), DE (X.blk s H scope (compEnvC scope cl C X.env) fp) n.z W0 .sh elt f) (hs : ∀ x, foldedSetIterable iter X.env x = pure x := by intro _; rfl) :
    DS X n (.Assign [.Name y py] (.ListComp elt [⟨tg, iter, ifs, 0⟩] scope pos) spos) (sSet true i (eLc it t tt f (own.map (·.2)))) := by
  refine ⟨fun pins s σ H D I ⟨ρ, g, Mu, S, hq⟩ => ?_⟩
  refine (ps_setLc (tt := tT X n.z W0 tt) (te := tE X n.z W0 .sh f) hX.calm hX.nd hy hyl hsw hi ok (fun s H C cl fp => (hg s H C cl fp).pg) ht he hs).run pins s σ H D I ?_
  refine lc_read (W := n.W) (fun v d σ H ρ ρ' Mu Q => (hg s H default [] []).ok v d σ H ρ ρ' Mu Q) hsub S.env S.g (R.all_imp (EW.x S (R.all_bind hq)) (fun d g1 hq v H1 e1 G2 k1 => ?_) fun _ _ _ _ h => h)
  obtain ⟨Mu', S'⟩ := S.store (i := i) e1 G2 true rfl k1
  exact hq _ H1 Mu' S'
end
end DL
set_option Elab.async false
set_option linter.all false
set_option maxRecDepth 100000
set_option maxHeartbeats 2000000
/-! The value layer, part 11: defs and their calls. -/
namespace DL
open PySem PySem.Spec PyProof.Rows L2

/-- what a def promises: m arguments, results of the kind kr, cf of what the arguments read as -/
def spD (K : PySem.W.Frag) (mg : Str → Option Value) (T : List (Addr × Str)) (m : Nat) (kr : Kd) (cf : List D → M D) : Sp := fun vs H Q E => vs.length = m ∧ ∃ (z : Zt) (ds : List D) (g : G) (Mu : List Addr), z.T = T ∧ MuOk z Mu H ∧ GOk z H g ∧ Reps K mg z Mu H vs ds ∧
  (cf ds g).all (fun d g' => ∀ v H', Ext z H H' → GOk z H' g' → RK K mg z kr H Mu H' v d → Q v H') (fun c f l g' => ∀ cls dd H', Ext z H H' → GOk z H' g' → ExcIs K mg z Mu H' c f l cls dd → E cls dd H')
structure DFn (gd : Bool) (P : Program) (w : World) (K : PySem.W.Frag) (mg : Str → Option Value) (base : Heap) (T : List (Addr × Str)) (k : Nat) (f : Addr) (fd : FuncData) (ps : List Str) (kr : Kd) (cf : List D → M D) : Prop where
  run : ∀ (A : Around) (outer : List PySem.Env) (s : Shared) (H : Hp) (args : Args) (us : List Value) (vs : List V) (Q : VK) (E : XK), Room k A → (gd = true → A.guards = some []) → Env0 P w K mg base A outer s H → BindsTo s fd args (ps.zip us) → Vals vs us →
    spD K mg T ps.length kr cf vs H Q E → codeAny (model P w) A (.call (.ref f) args) (CR (L2.CX P w) outer P w H s Q E) s
theorem DFn.mono {gd : Bool} {P : Program} {w : World} {K : PySem.W.Frag} {mg : Str → Option Value} {base : Heap} {T : List (Addr × Str)} {j k : Nat} {f : Addr} {fd : FuncData} {ps : List Str} {kr : Kd} {cf : List D → M D} (F : DFn gd P w K mg base T j f fd ps kr cf) (h : j ≤ k) : DFn gd P w K mg base T k f fd ps kr cf :=
  ⟨fun A outer s H args us vs Q E hr hg => F.run A outer s H args us vs Q E (hr.mono h) hg⟩
/-- the same where the answers agree -/
theorem DFn.imp {gd : Bool} {P : Program} {w : World} {K : PySem.W.Frag} {mg : Str → Option Value} {base : Heap} {T : List (Addr × Str)} {k : Nat} {f : Addr} {fd : FuncData} {ps : List Str} {kr : Kd} {cf cf' : List D → M D} (F : DFn gd P w K mg base T k f fd ps kr cf)
    (h : ∀ ds g, cf' ds g = .stuck ∨ cf ds g = cf' ds g) : DFn gd P w K mg base T k f fd ps kr cf' :=
  ⟨fun A outer s H args us vs Q E hr hg he hb hv ⟨hl, z, ds, g, Mu, h1, h2, h3, h4, h5⟩ => F.run A outer s H args us vs Q E hr hg he hb hv ⟨hl, z, ds, g, Mu, h1, h2, h3, h4, by
    rcases h ds g with e | e
    · rw [e] at h5; exact h5.elim
    · rw [e]; exact h5⟩⟩

def startE (n : Nat) (ds : List D) : Env := ds.map (fun d => some (false, d)) ++ List.replicate (n - ds.length) none
def fnB (t : Ss) (n : Nat) (ds : List D) : M D := do
  let fl ← t (startE n ds)
  match fl with
  | .ret d => M.pure d
  | .nx _ => M.pure .non
  | _ => stuck
theorem env_start {K : PySem.W.Frag} {mg : Str → Option Value} {z : Zt} {Mu : List Addr} {H : Hp} {N : List Str} {vs : List V} {ds : List D} (m : MuOk z Mu H) (r : Reps K mg z Mu H vs ds) : EnvOk K mg z Mu H (L2.start N vs) (startE N.length ds) := by
  have key : ∀ (i : Nat) (t : Bool) (d : D), (startE N.length ds)[i]? = some (some (t, d)) → t = false ∧ ds[i]? = some d := fun i t d q => by
    unfold startE at q
    by_cases hi : i < ds.length
    · rw [List.getElem?_append_left (by simpa using hi), List.getElem?_map] at q
      cases e : ds[i]? with
      | none => rw [e] at q; cases q
      | some x => rw [e] at q; cases q; exact ⟨rfl, rfl⟩
    · rw [List.getElem?_append_right (by simpa using hi), List.getElem?_replicate] at q
      split at q <;> cases q
  refine ⟨by unfold startE L2.start; simp [r.length], m, fun i t d q => ?_, fun i j d d' a q1 _ _ _ => absurd (key i true d q1).1 (by decide)⟩
  obtain ⟨rfl, hd⟩ := key i t d q
  obtain ⟨v, hv, rv⟩ := r.get' hd
  refine ⟨v, ?_, rv⟩
  unfold L2.start
  rw [List.getElem?_append_left (by rw [List.length_map]; exact (List.getElem?_eq_some_iff.mp hv).1), List.getElem?_map, hv]
  rfl

/-- THE RULE: a def of the text, by its body -/
theorem dfn_of {gd : Bool} {P : Program} {w : World} {K : PySem.W.Frag} {mg : Str → Option Value} {base : Heap} {T : List (Addr × Str)} {k : Nat} {f : Addr} {name qual : Str} {params : Arguments} {body : List Stmt} {scope : Scope} {dV kV doc pm cdv ct oc : Value} {an od : Option Addr}
    {osl : Array (Option Value)} {N ps : List Str} {kr : Kd} {t : Ss} (lk : K.lookup f = some ⟨oc, od, .func (PySem.W.fnOf name qual params body scope dV kV doc pm an cdv ct), osl⟩) (hcd : PySem.W.codeIn K cdv qual = true) (S : FnScope N ps scope)
    (hbody : ∀ (A : Around) (outer : List PySem.Env) (s : Shared) (H : Hp) (E : XK) (n : En), XG (cxOf (L2.CX P w) P w K mg base N qual scope f cdv A outer s H E) → Room k (A.deeper (envOfC qual scope s.heap.objs.size f cdv)) →
      Takes (cxOf (L2.CX P w) P w K mg base N qual scope f cdv A outer s H E) n.W → (gd = true → A.guards = some []) → n.k = kr → n.z.T = T → DSs (cxOf (L2.CX P w) P w K mg base N qual scope f cdv A outer s H E) n body t) :
    DFn gd P w K mg base T (k + 1) f (PySem.W.fnOf name qual params body scope dV kV doc pm an cdv ct) ps kr (fnB t N.length) := by
  refine ⟨fun A outer s H args us vs Q E hr hgd e0 hb r ⟨hl, z, ds, g, Mu, hT, hm, hG, hrep, hsp⟩ => ?_⟩
  refine LamX.run_ofS lk hcd S hr e0 hb r hl fun hr' => ⟨_, hbody A outer s H E ⟨z, fun cls dd _ H => E cls dd H, kr, ⟨H, Mu, H, Mu⟩⟩ ⟨rfl, hr'.mono (Nat.zero_le _), S.nd⟩ hr' (takes_of rfl rfl rfl rfl) hgd rfl hT, ?_⟩
  refine ⟨startE N.length ds, g, Mu, ⟨env_start hm hrep, hG, Ext.refl, fun b h => h, hm, fun i d a q => ?_, fun _ _ e _ _ => e, fun _ _ h => h, ⟨hm.p, hm.l⟩, fun _ h _ => h⟩, ?_⟩
  · unfold startE at q
    by_cases hi : i < ds.length
    · rw [List.getElem?_append_left (by simpa using hi), List.getElem?_map] at q
      cases e : ds[i]? with
      | none => rw [e] at q; cases q
      | some x => rw [e] at q; cases q
    · rw [List.getElem?_append_right (by simpa using hi), List.getElem?_replicate] at q
      split at q <;> cases q
  · refine R.all_imp (R.all_bind hsp) (fun fl g' h => ?_) fun c fl l g' h => ?_
    · cases fl with
      | nx ρ =>
        intro σ H' Mu' S'
        refine h .non H' S'.ext S'.g ?_
        cases kr with
        | sh => exact .non
        | new => exact RK.new_of .non rfl
        | peek => exact .inl .non
      | ret d => exact h
      | bk ρ => exact h.elim
      | ct ρ => exact h.elim
    · exact fun σ cls dd H' => h cls dd H'

/-! ### calls -/
/-- m values are given -/
def AL (f : Es) (m : Nat) : Prop := ∀ ρ g ds g', f ρ g = .ok ds g' → ds.length = m
theorem al_nil : AL sNil 0 := fun ρ g ds g' h => by cases h; rfl
theorem al_cons {f : Ep} {h : Es} {m : Nat} (t : AL h m) : AL (sCons f h) (m + 1) := fun ρ g ds g' q => by
  unfold sCons at q
  have q' : ((f ρ g).bind fun x => (fun g => (h ρ g).bind fun xs => M.pure (x :: xs))) = .ok ds g' := q
  cases e : f ρ g with
  | stuck => rw [e] at q'; cases q'
  | exc c n l g1 => rw [e] at q'; cases q'
  | ok x g1 =>
    rw [e] at q'
    have q2 : (h ρ g1).bind (fun xs => M.pure (x :: xs)) = .ok ds g' := q'
    cases e2 : h ρ g1 with
    | stuck => rw [e2] at q2; cases q2
    | exc c n l g1 => rw [e2] at q2; cases q2
    | ok xs g2 =>
      rw [e2] at q2
      cases q2
      exact congrArg (· + 1) (t _ _ _ _ e2)
def eCallF (cf : List D → M D) (fs : Es) : Ep := fun ρ => do let ds ← fs ρ; cf ds
section
variable {gd : Bool} {X : Cx} {z : Zt} {W : WX} {k : Nat} {f : Addr} {fd : FuncData} {ps : List Str} {kr : Kd} {cf : List D → M D} {x : Str} {p pos kpos : Pos} {e : Expr} {es : List Expr} {fs gs : Es} {pins : List (Addr × Obj)} {s : Shared} {σ : L2.St} {H : Hp} {Mu : List Addr} {g : G}
/-- the callee runs -/
theorem run_dfn {args : Args} {us : List Value} {vs : List V} {ds : List D} {Q : VK} (F : DFn gd X.prog X.w X.K X.mg X.base z.T k f fd ps kr cf) (hgd : gd = true → X.A.guards = some []) (hr : Room k X.A) (tk : Takes X W) (I : Inv X pins σ H s) (hb : BindsTo s fd args (ps.zip us)) (rv : Vals vs us) (hl : vs.length = ps.length)
    (m : MuOk z Mu H) (G1 : GOk z H g) (r : Reps X.K X.mg z Mu H vs ds)
    (hx : (cf ds g).all (fun d g' => ∀ v H', Ext z H H' → GOk z H' g' → RK X.K X.mg z kr H Mu H' v d → Q v H') (XW X z W Mu σ H)) :
    wpAny (model X.prog X.w) X.A (call (.ref f) args.pos args.kw) (EP X pins σ Q) X.xe s := by
  refine wpAny_call (codeAny_mono (F.run X.A X.stack s H args us vs Q (WE W σ) hr hgd I.env0 hb rv ⟨hl, z, ds, g, Mu, rfl, m, G1, r, hx⟩) fun r s' hq => ?_)
  cases r with
  | error e => exact passAt tk σ pins H s e s' I hq
  | ok fl =>
    cases fl with
    | ret u => exact I.after hq
    | next => exact False.elim hq
    | brk => exact False.elim hq
    | cont => exact False.elim hq
theorem de_call (hgd : gd = true → X.A.guards = some []) (tk : Takes X W) (F : DFn gd X.prog X.w X.K X.mg X.base z.T k f fd ps kr cf) (hr : Room k X.A) (hg : Gl X x) (hm : X.mg x = some (.ref f)) (hk : PySem.W.keepIn X.K (.ref f) = true) (hb : Binds X.K fd ps []) (ha : DAs X z W (e :: es) fs) (hal : AL fs ps.length)
    (hdb : (x == ("__debug__" : Str)) = false := by decide) (he : starEach (e :: es) X.env = (false, eval e X.env) :: starEach es X.env := by rfl) (hpl : (backTo pos (starEach es X.env)).any (·.1) = false := by rfl) :
    DE X z W kr (.Call (.Name x p) (e :: es) [] pos) (eCallF cf fs) := by
  refine ⟨fun pins s σ H Q I ⟨ρ, g, Mu, E, G1, hx⟩ => ?_⟩
  refine wpAny_Call_Name_kw (ld_glob I hg hm ?_ hdb)
  refine PySem.W.callWith_K (h₀ := X.base) I.ok.mod.kin hk (das_run ha I E G1 (R.all_imp (R.all_eq (R.all_bind hx)) (fun ds g1 ⟨hq, hx⟩ vs us H1 s1 I1 r1 e1 G2 E1 k1 => ⟨I1.kIn, ?_⟩) fun _ _ _ _ h => h)) he hpl
  have hl : vs.length = ps.length := k1.length.trans (hal _ _ _ _ hq)
  have b := hb s1 us I1.kIn (by rw [List.append_nil, ← r1.length]; exact hl)
  rw [List.append_nil] at b
  exact run_dfn (args := ⟨us, []⟩) F hgd hr tk I1 b r1 hl E1.mu G2 k1 (R.all_imp hx (fun d g' h v H' e2 G3 k2 => h v H' (e1.trans e2) G3 (k2.back e1 G2)) fun _ _ _ _ h => h.step e1)
theorem de_call0 (hgd : gd = true → X.A.guards = some []) (tk : Takes X W) (F : DFn gd X.prog X.w X.K X.mg X.base z.T k f fd [] kr cf) (hr : Room k X.A) (hg : Gl X x) (hm : X.mg x = some (.ref f)) (hk : PySem.W.keepIn X.K (.ref f) = true) (hb : Binds X.K fd [] [])
    (hdb : (x == ("__debug__" : Str)) = false := by decide) : DE X z W kr (.Call (.Name x p) [] [] pos) (eCallF cf sNil) := by
  refine ⟨fun pins s σ H Q I ⟨ρ, g, Mu, E, G1, hx⟩ => ?_⟩
  refine wpAny_Call_Name_kw (ld_glob I hg hm ?_ hdb)
  exact PySem.W.callWith_K0 I.kIn hk (run_dfn (args := ⟨[], []⟩) F hgd hr tk I (hb s [] I.kIn rfl) .nil rfl E.mu G1 .nil hx)

/-! ### arguments that are only looked at -/
def D.scal : D → Bool
  | .non => true
  | .bl _ => true
  | .int _ => true
  | .str _ => true
  | _ => false
/-- a result without parts, an exception without a field -/
def flat (m : M D) : M D := fun g => match m g with
  | .ok d g' => if d.scal = true then .ok d g' else .stuck
  | .exc c f [] g' => .exc c f [] g'
  | _ => .stuck
theorem all_flat {m : M D} {g : G} {P : D → G → Prop} {E : Str → Str → List D → G → Prop} (h : (flat m g).all P E) : (m g).all (fun d g' => d.scal = true ∧ P d g') (fun c f l g' => l = [] ∧ E c f l g') := by
  unfold flat at h
  cases q : m g with
  | stuck => rw [q] at h; exact h
  | ok d g' =>
    rw [q] at h
    dsimp only at h
    by_cases hs : d.scal = true
    · rw [if_pos hs] at h; exact ⟨hs, h⟩
    · rw [if_neg hs] at h; exact h.elim
  | exc c f l g' =>
    rw [q] at h
    cases l with
    | nil => exact ⟨rfl, h⟩
    | cons a b => exact h.elim
theorem RK.scal {K : PySem.W.Frag} {mg : Str → Option Value} {k k' : Kd} {Mu Mu' : List Addr} {H0 H : Hp} {v : V} {d : D} (hs : d.scal = true) (r : RK K mg z k H0 Mu H v d) : RK K mg z k' H0 Mu' H v d := by
  have r1 : Rep K mg z Mu H v d := by
    cases k with
    | sh => exact r
    | new =>
      have r' : if d.box = true then ∃ a, v = .ref a ∧ ¬ Oc H0 a ∧ Cont K mg z (a :: Mu) H a d else Rep K mg z Mu H v d := r
      have hb : ¬ d.box = true := by cases d <;> first | (intro w; cases w; done) | cases hs
      rw [if_neg hb] at r'
      exact r'
    | peek =>
      rcases (show PR K mg z Mu H v d from r) with r | ⟨a, rfl, _, _, _, _, c⟩
      · exact r
      · cases c <;> cases hs
  have r2 : Rep K mg z Mu' H v d := by
    cases r1 <;> first | exact .non | exact .bl _ | exact .int _ | exact .str _ | cases hs
  have hb : d.box = false := by cases d <;> first | rfl | cases hs
  cases k' with
  | sh => exact r2
  | new => exact RK.new_of r2 hb
  | peek => exact .inl r2
theorem RKs.reps {K : PySem.W.Frag} {mg : Str → Option Value} {H : Hp} {Mu Mc : List Addr} (hc : ∀ b ∈ Mc, b ∈ Mu) (h3 : ∀ a, a ≠ z.p → a ≠ z.l → a ≠ z.c → a ∉ Mc) : ∀ {vs : List V} {ds : List D}, RKs K mg z Mu H vs ds → Reps K mg z Mc H vs ds
  | _, _, .nil => .nil
  | _, _, .cons r t => .cons (by
    rcases r with r | ⟨a, rfl, _, n1, n2, n3, c⟩
    · exact r.mono (fun _ _ e _ _ => e) fun b _ h w => h (hc b w)
    · exact Cont.rep (c.mono (fun _ e _ => e) (fun _ _ e _ _ => e) fun b _ h w => h (hc b w)) (h3 a n1 n2 n3)) (RKs.reps hc h3 t)
theorem RKs.length {K : PySem.W.Frag} {mg : Str → Option Value} {H : Hp} {Mu : List Addr} : ∀ {vs : List V} {ds : List D}, RKs K mg z Mu H vs ds → vs.length = ds.length
  | _, _, .nil => rfl
  | _, _, .cons r t => by rw [List.length_cons, List.length_cons, RKs.length t]
def eCallP (cf : List D → M D) (fs : Es) : Ep := fun ρ => do let ds ← fs ρ; flat (cf ds)
theorem de_callP (hgd : gd = true → X.A.guards = some []) (tk : Takes X W) (F : DFn gd X.prog X.w X.K X.mg X.base z.T k f fd ps kr cf) (hr : Room k X.A) (hg : Gl X x) (hm : X.mg x = some (.ref f)) (hk : PySem.W.keepIn X.K (.ref f) = true) (hb : Binds X.K fd ps []) (ha : DA X z W (e :: es) fs) (hal : AL fs ps.length)
    (hdb : (x == ("__debug__" : Str)) = false := by decide) (he : starEach (e :: es) X.env = (false, eval e X.env) :: starEach es X.env := by rfl) (hpl : (backTo pos (starEach es X.env)).any (·.1) = false := by rfl) :
    DE X z W .new (.Call (.Name x p) (e :: es) [] pos) (eCallP cf fs) := by
  refine ⟨fun pins s σ H Q I ⟨ρ, g, Mu, E, G1, hx⟩ => ?_⟩
  refine wpAny_Call_Name_kw (ld_glob I hg hm ?_ hdb)
  refine PySem.W.callWith_K (h₀ := X.base) I.ok.mod.kin hk (da_run ha I E G1 (R.all_imp (R.all_eq (R.all_bind hx)) (fun ds g1 ⟨hq, hx⟩ vs us H1 s1 I1 r1 e1 G2 E1 k1 => ⟨I1.kIn, ?_⟩) fun _ _ _ _ h => h)) he hpl
  have hl : vs.length = ps.length := k1.length.trans (hal _ _ _ _ hq)
  have b := hb s1 us I1.kIn (by rw [List.append_nil, ← r1.length]; exact hl)
  rw [List.append_nil] at b
  have mc : MuOk z [z.p, z.l, z.c] H1 := ⟨by simp, by simp, by simp, fun b hb => by
    simp only [List.mem_cons, List.not_mem_nil, or_false] at hb
    rcases hb with rfl | rfl | rfl
    · exact E1.mu.at_ _ E1.mu.p
    · exact E1.mu.at_ _ E1.mu.l
    · exact E1.mu.at_ _ E1.mu.c⟩
  have kr : Reps X.K X.mg z [z.p, z.l, z.c] H1 vs ds := k1.reps (fun b hb => by
    simp only [List.mem_cons, List.not_mem_nil, or_false] at hb
    rcases hb with rfl | rfl | rfl
    · exact E1.mu.p
    · exact E1.mu.l
    · exact E1.mu.c) fun a n1 n2 n3 w => by
    simp only [List.mem_cons, List.not_mem_nil, or_false] at w
    rcases w with w | w | w
    · exact n1 w
    · exact n2 w
    · exact n3 w
  exact run_dfn (args := ⟨us, []⟩) F hgd hr tk I1 b r1 hl mc G2 kr (R.all_imp (all_flat hx) (fun d g' ⟨hs, h⟩ v H' e2 G3 k2 => h v H' (e1.trans e2) G3 ((RK.scal hs k2).back e1 G2)) fun c n l g' ⟨hl, h⟩ => fun cls dd H' e2 G3 x => h cls dd H' (e1.trans e2) G3 (by
    obtain ⟨C, h1, h2, h3⟩ := x
    refine ⟨C, h1, h2, ?_⟩
    rcases h3 with h3 | ⟨_, _, _, h4, _⟩
    · exact .inl h3
    · rw [hl] at h4; cases h4))

/-! ### keywords -/
abbrev DK (X : Cx) (z : Zt) (W : WX) (kws : List Keyword) (f : Es) : Prop := PK X kws (tAs X z W f)
variable {kws : List Keyword} {nm : Option Str} {fe : Ep} {ks : List Str}
theorem dk_run {f : Es} {ρ : Env} {Q : List Value → Shared → Prop} (h : DK X z W kws f) (I : Inv X pins σ H s) (E : EnvOk X.K X.mg z Mu H σ ρ) (G1 : GOk z H g)
    (hx : (f ρ g).all (fun ds g' => ∀ vs us H' s', Inv X pins σ H' s' → Vals vs us → Ext z H H' → GOk z H' g' → EnvOk X.K X.mg z Mu H' σ ρ → Reps X.K X.mg z Mu H' vs ds → Q us s') (XW X z W Mu σ H)) :
    wpAny (model X.prog X.w) X.A (evalAll ((backToKw pos (keywordEach kws X.env)).map (·.2))) Q X.xe s := by
  refine thn (h.run pos pins s σ H (fun vs H' => ∃ ds g', f ρ g = .ok ds g' ∧ Ext z H H' ∧ GOk z H' g' ∧ Reps X.K X.mg z Mu H' vs ds) I ⟨ρ, g, Mu, E, G1, ?_⟩) ?_
  · cases q : f ρ g with
    | stuck => rw [q] at hx; exact hx
    | ok d g' => exact fun vs H' e1 g1 r => ⟨d, g', rfl, e1, g1, r⟩
    | exc c n l g' => rw [q] at hx; exact hx
  · rintro us s' ⟨vs, H', I', r, ds, g', q, e1, g1, rk⟩
    rw [q] at hx
    exact hx vs us H' s' I' r e1 g1 (E.ext G1 e1 g1) rk
theorem dk_nil : DK X z W [] sNil := ⟨fun _ _ _ _ H Q I ⟨ρ, g, Mu, E, G1, hx⟩ => wpAny_evalAll_nil ⟨[], H, I, .nil, hx [] H Ext.refl G1 .nil⟩⟩
theorem dk_cons (ha : DE X z W .sh e fe) (hr : DK X z W kws gs) : DK X z W (⟨nm, e, kpos⟩ :: kws) (sCons fe gs) := by
  refine ⟨fun pos pins s σ H Q I ⟨ρ, g, Mu, E, G1, hx⟩ => ?_⟩
  show wpAny _ _ (evalAll ((do let v ← eval e X.env; standAt pos; pure v) :: (backToKw pos (keywordEach kws X.env)).map (·.2))) _ _ s
  refine wpAny_evalAll_cons (wpAny_bind (de_run ha I E G1 (R.all_imp (R.all_bind hx) (fun d g1 hx v u H1 s1 I1 r1 e1 G2 E1 k1 => wpAny_bind (wpAny_standAt (wpAny_pure ?_))) fun _ _ _ _ h => h)))
  refine dk_run hr I1 E1 G2 (R.all_imp (Raising.all (R.all_bind hx) e1) (fun ds g2 hx vs us H2 s2 I2 r2 e2 G3 E2 k2 => ?_) fun _ _ _ _ h => h)
  exact ⟨v :: vs, H2, I2, .cons r1 r2, hx (v :: vs) H2 (e1.trans e2) G3 (.cons (Rep.ext (show Rep X.K X.mg z Mu H1 v d from k1) E1.mu G2 e2) k2)⟩
def pick {α : Type} (pm : List Nat) (l : List α) : List α := pm.filterMap fun i => l[i]?
theorem Reps.pick {K : PySem.W.Frag} {mg : Str → Option Value} {H : Hp} {Mu : List Addr} {vs : List V} {ds : List D} (r : Reps K mg z Mu H vs ds) : ∀ pm : List Nat, Reps K mg z Mu H (DL.pick pm vs) (DL.pick pm ds)
  | [] => .nil
  | i :: pm => by
    unfold DL.pick
    rw [List.filterMap_cons, List.filterMap_cons]
    cases e : vs[i]? with
    | none =>
      have h := List.getElem?_eq_none_iff.mp e
      have e2 : ds[i]? = none := List.getElem?_eq_none_iff.mpr (by rw [← r.length]; exact h)
      rw [e2]
      exact Reps.pick r pm
    | some v =>
      obtain ⟨d, hd, rd⟩ := r.get e
      rw [hd]
      exact .cons rd (Reps.pick r pm)
theorem vals_pick {vs : List V} {us : List Value} (r : Vals vs us) : ∀ pm : List Nat, Vals (pick pm vs) (pick pm us)
  | [] => .nil
  | i :: pm => by
    unfold pick
    rw [List.filterMap_cons, List.filterMap_cons]
    cases e : vs[i]? with
    | none =>
      have h := List.getElem?_eq_none_iff.mp e
      have e2 : us[i]? = none := List.getElem?_eq_none_iff.mpr (by rw [← r.length]; exact h)
      rw [e2]
      exact vals_pick r pm
    | some v =>
      obtain ⟨u, hu, ru⟩ := r.get e
      rw [hu]
      exact .cons ru (vals_pick r pm)
def eCallK (cf : List D → M D) (pm : List Nat) (fs gs : Es) : Ep := fun ρ => do
  let ds ← fs ρ
  let es ← gs ρ
  cf (pick pm (ds ++ es))
/-- how a call with keywords binds -/
def KB (K : PySem.W.Frag) (fd : FuncData) (ps ks : List Str) (pm : List Nat) (m : Nat) : Prop := ∀ (s : Shared) (us ws : List Value), K.In s.heap → us.length = m → ws.length = ks.length → BindsTo s fd ⟨us, ks.zip ws⟩ (ps.zip (pick pm (us ++ ws))) ∧ (pick pm (us ++ ws)).length = ps.length
/-- f(k = v, ..) -/
theorem de_callK0 {pm : List Nat} (hgd : gd = true → X.A.guards = some []) (tk : Takes X W) (F : DFn gd X.prog X.w X.K X.mg X.base z.T k f fd ps kr cf) (hr : Room k X.A) (hg : Gl X x) (hm : X.mg x = some (.ref f)) (hk : PySem.W.keepIn X.K (.ref f) = true) (hb : KB X.K fd ps ks pm 0) (hkw : DK X z W kws gs) (hal : AL gs ks.length)
    (hall : (backToKw pos (keywordEach kws X.env)).all (·.1.isSome) = true := by rfl) (hks : (backToKw pos (keywordEach kws X.env)).filterMap (·.1) = ks := by rfl)
    (hdb : (x == ("__debug__" : Str)) = false := by decide) (hpl : ((backTo pos (starEach [] X.env)).any (·.1) || (backToKw pos (keywordEach kws X.env)).any (·.1.isNone)) = false := by rfl) :
    DE X z W kr (.Call (.Name x p) [] kws pos) (eCallK cf pm sNil gs) := by
  refine ⟨fun pins s σ H Q I ⟨ρ, g, Mu, E, G1, hx⟩ => ?_⟩
  refine wpAny_Call_Name_kw (ld_glob I hg hm ?_ hdb)
  have hx : ((gs ρ g).bind fun es => cf (pick pm ([] ++ es))).all (fun d g' => ∀ v H', Ext z H H' → GOk z H' g' → RK X.K X.mg z kr H Mu H' v d → Q v H') (XW X z W Mu σ H) := hx
  refine PySem.W.callWith_KW0 (h₀ := X.base) I.ok.mod.kin hk hall (dk_run hkw I E G1 (R.all_imp (R.all_eq (R.all_bind hx)) (fun ds g1 ⟨hq, hx⟩ vs us H1 s1 I1 r1 e1 G2 E1 k1 => ⟨I1.kIn, ?_⟩) fun _ _ _ _ h => h)) hpl
  rw [hks]
  have hl : us.length = ks.length := by rw [← r1.length, k1.length]; exact hal _ _ _ _ hq
  obtain ⟨b, hn⟩ := hb s1 [] us I1.kIn rfl hl
  have vp := vals_pick r1 pm
  exact run_dfn (args := ⟨[], ks.zip us⟩) F hgd hr tk I1 b vp (by rw [vp.length]; exact hn) E1.mu G2 (k1.pick pm) (R.all_imp hx (fun d g' h v H' e2 G3 k2 => h v H' (e1.trans e2) G3 (k2.back e1 G2)) fun _ _ _ _ h => h.step e1)
/-- f(e, .., k = v, ..) -/
theorem de_callK {pm : List Nat} {m : Nat} (hgd : gd = true → X.A.guards = some []) (tk : Takes X W) (F : DFn gd X.prog X.w X.K X.mg X.base z.T k f fd ps kr cf) (hr : Room k X.A) (hg : Gl X x) (hm : X.mg x = some (.ref f)) (hk : PySem.W.keepIn X.K (.ref f) = true) (hb : KB X.K fd ps ks pm m) (ha : DAs X z W (e :: es) fs) (hal0 : AL fs m) (hkw : DK X z W kws gs) (hal : AL gs ks.length)
    (hall : (backToKw pos (keywordEach kws X.env)).all (·.1.isSome) = true := by rfl) (hks : (backToKw pos (keywordEach kws X.env)).filterMap (·.1) = ks := by rfl)
    (hdb : (x == ("__debug__" : Str)) = false := by decide) (he : starEach (e :: es) X.env = (false, eval e X.env) :: starEach es X.env := by rfl)
    (hpl : ((backTo pos (starEach (e :: es) X.env)).any (·.1) || (backToKw pos (keywordEach kws X.env)).any (·.1.isNone)) = false := by rfl) :
    DE X z W kr (.Call (.Name x p) (e :: es) kws pos) (eCallK cf pm fs gs) := by
  refine ⟨fun pins s σ H Q I ⟨ρ, g, Mu, E, G1, hx⟩ => ?_⟩
  refine wpAny_Call_Name_kw (ld_glob I hg hm ?_ hdb)
  refine PySem.W.callWith_KW (h₀ := X.base) I.ok.mod.kin hk hall (das_run ha I E G1 (R.all_imp (R.all_eq (R.all_bind hx)) (fun ds g1 ⟨hq0, hx⟩ vs us H1 s1 I1 r1 e1 G2 E1 k1 => ?_) fun _ _ _ _ h => h)) hpl he
  refine dk_run hkw I1 E1 G2 (R.all_imp (R.all_eq (Raising.all (R.all_bind hx) e1)) (fun ds' g2 ⟨hq, hx⟩ vs' us' H2 s2 I2 r2 e2 G3 E2 k2 => ⟨I2.kIn, ?_⟩) fun _ _ _ _ h => h)
  rw [hks]
  have hl0 : us.length = m := by rw [← r1.length, k1.length]; exact hal0 _ _ _ _ hq0
  have hl : us'.length = ks.length := by rw [← r2.length, k2.length]; exact hal _ _ _ _ hq
  obtain ⟨b, hn⟩ := hb s2 us us' I2.kIn hl0 hl
  have vp := vals_pick (r1.append r2) pm
  exact run_dfn (args := ⟨us, ks.zip us'⟩) F hgd hr tk I2 b vp (by rw [vp.length]; exact hn) E2.mu G3 (((k1.ext E1.mu G2 e2).append k2).pick pm) (R.all_imp hx (fun d g' h v H' e3 G4 k3 => h v H' ((e1.trans e2).trans e3) G4 (k3.back (e1.trans e2) G3)) fun _ _ _ _ h => h.step (e1.trans e2))
end
end DL
set_option Elab.async false
set_option linter.all false
set_option maxRecDepth 100000
set_option maxHeartbeats 2000000
/-! The value layer, part 12: raise; an exception that a def with a try hands back. -/
namespace DL
open PySem PySem.Spec PyProof.Rows L2

/-! ### raise C('..') -/
def sRaise (c : Str) : Ss := fun _ g => .exc c Str.empty [] g
theorem ds_raise {X : Cx} {n : En} {C : Addr} {bmB : List Value} {B newId initId : String} {x m : Str} {j : Nat} {p p2 pos pos2 : Pos} (hX : XG X) (tk : Takes X n.W) (F : ExcBaseFacts B newId initId bmB) (q : PySem.W.excIn X.K C bmB newId = true) (gC : X.mg x = some (.ref C)) (kC : PySem.W.keepIn X.K (.ref C) = true) (r : Raises X (.ref C)) (hg : Gl X x)
    (hdb : (x == ("__debug__" : Str)) = false := by decide) : DS X n (.Raise (some (.Call (.Name x p) [.Constant (.str m) j p2] [] pos)) none pos2) (sRaise x) := by
  refine ⟨fun pins s σ H D I ⟨ρ, g, Mu, S, hx⟩ => ?_⟩
  exact (ps_raise hX.calm tk (pmk_own F q gC kC r hg hdb)).run pins s σ H D I (hx σ (.ref C) none H S.ext S.g ⟨C, gC, rfl, .inl ⟨rfl, rfl, rfl⟩⟩)

/-! ### try: .. / except x as n: .., where what was caught is kept -/
theorem exV_ok {P : Program} {w : World} {H : Hp} {h : Heap} {a : Addr} {cls : Value} {d : Option Addr} {oe : Obj} {vs : Array Value} (e : h.get? a = some oe) (z : Zc cls d oe) (hd : oe.data = .fields vs) : ObjOk P w H h a (ExV cls d a) :=
  ⟨⟨oe, vs, e, z, hd⟩, ⟨oe, e⟩, fun _ _ ⟨o, v, q, r⟩ k => ⟨o, v, k o q, r⟩⟩
def wKeep (K : PySem.W.Frag) (c : Value) (i : Nat) (ts : TS) (D : Ends) : WX := fun cls d σ H => PySem.W.exmOne K cls c = some true ∧ ∀ a, H a = none →
  ts { nx := fun σ' H' => D.nx (σ'.set i none) H', rt := D.rt, bk := fun σ' H' => D.bk (σ'.set i none) H', ct := fun σ' H' => D.ct (σ'.set i none) H' } (σ.set i (some (.ref a))) (upd H a (ExV cls d a))
section
variable {X : Cx} {pins : List (Addr × Obj)} {σ : L2.St} {H : Hp} {s : Shared} {x n : Str} {c : Value} {i : Nat} {body suite : List Stmt} {b₀ : Stmt} {np pos pos' : Pos} {tb : WX → TS} {ts : TS}
theorem inv_suite (I : Inv X pins σ H s) (a : Addr) : Inv (X.suite a (X.pn ++ pins)) [] σ H s :=
  ⟨I.ok.suite a (X.pn ++ pins), I.os, I.bare, I.base, I.loc, I.cell, I.free, I.freeC, by rw [List.append_nil]; exact I.pin, I.hok, I.len⟩
theorem inv_unsuite {a : Addr} (I : Inv (X.suite a (X.pn ++ pins)) [] σ H s) (ok : X.Ok) : Inv X pins σ H s :=
  ⟨ok, I.os, I.bare, I.base, I.loc, I.cell, I.free, I.freeC, by have q := I.pin; rw [List.append_nil] at q; exact q, I.hok, I.len⟩
/-- the exception at a, on the ground of the heap h, is tracked from now on -/
theorem inv_track {sI s' : Shared} {B h : Heap} {a : Addr} {cls : Value} {d : Option Addr} (I : Inv X pins σ H sI) (nb : ∀ b o, sI.heap.get? b = some o → b ∉ frs X.stack → B.get? b = some o) (na : H a = none) (nB : B.get? a = none) (nf : a ∉ frs X.stack)
    (st : B.StaysIn h) (up : sI.heap.UpToSlots h) (os : s'.os = sI.os) (ag : AllBare s'.gens) (ho : ∃ oe vs, h.get? a = some oe ∧ Zc cls d oe ∧ oe.data = .fields vs) : Inv X pins σ (upd H a (ExV cls d a)) { s' with heap := h } := by
  obtain ⟨G, in_, out_⟩ := restrict h fun b => decide (b ≠ a)
  have keep : ∀ b, b ≠ a → G.get? b = h.get? b := fun b n => in_ b (decide_eq_true n)
  have gone : G.get? a = none := out_ a (by simp)
  have nI : ∀ b o, sI.heap.get? b = some o → b ≠ a := fun b o e z => by
    subst z
    have w := nb b o e nf
    rw [nB] at w
    cases w
  have J : Inv X pins σ H { s' with heap := G } := I.landed nb (fun b o e => (keep b (fun z => by rw [z, nB] at e; cases e)).trans (st b o e))
    (fun b o e hn => let ⟨sl, w⟩ := up b o e hn; ⟨sl, (keep b (nI b o e)).trans w⟩) os ag
  obtain ⟨oe, vs, e1, e2, e3⟩ := ho
  exact J.laidN (h' := h) (t' := s'.toks) (fun b u e => by
    by_cases z : b = a
    · rw [z, gone] at e; cases e
    · exact (keep b z).symm.trans e) gone na (exV_ok e1 e2 e3)
theorem ps_try_keep (hs : X.stack = X.env :: X.outer) (hf : X.env.frame = some X.env.locals) (hN : X.N.Nodup) (hi : X.N[i]? = some n) (hln : X.env.kindOf n = some .local) (hc : Names X x c)
    (hb : ∀ (W : WX) (pn : List (Addr × Obj)) (xe : Value → Shared → Prop), Takes (X.tr pn xe) W → PSs (X.tr pn xe) body (tb W)) (hsu : ∀ (a : Addr) (pn : List (Addr × Obj)), PSs (X.suite a pn) (b₀ :: suite) ts) :
    PS X (.Try body [.ExceptHandler (some (.Name x np)) (some n) (b₀ :: suite) pos'] [] [] pos) (fun D σ H => tb (wKeep X.K c i ts D) D σ H) := by
  refine ⟨fun pins s σ H D I h => wpAny_Try_except (wpAny_mono ((hb (wKeep X.K c i ts D) (X.pn ++ pins) _ ?_).run [] s σ H D (I.toTry _) h) (fun f s1 q => ?_) fun _ _ z => z)⟩
  · rintro u s' ⟨a, B, sI, pins', σ', H', cls, d, rfl, J', nb, up, sky, na, os, ag, hm, hy⟩
    have ok := I.ok
    have J : Inv X pins σ' H' sI := J'.ofTry ok
    have fr : X.A.frames = some (X.env :: X.outer) := by rw [ok.frames, hs]
    rw [show (X.tr (X.pn ++ pins) _).stack = X.env :: X.outer from hs] at sky
    refine Sky.land Zc.steady fr hf sky fun h3 fl3 up3 => ?_
    have J3 : Inv X pins σ' H' { s' with heap := h3 } := J.landed nb fl3.1 (up.trans up3) os ag
    have S3 := inv_suite J3 a
    obtain ⟨oe3, vs3, he3, hz3, hd3⟩ := fl3.there
    have nfr : a ∉ frs X.stack := fun hm => by
      rw [hs] at hm
      obtain ⟨_, o', e', hnf⟩ := fl3.2.2.1.mem hm
      rw [he3] at e'
      cases e'
      exact hnf _ hd3
    refine wpAny_handleBy_cons (codeAny_handlers_test ?_) (by intro q; cases q)
    have ty : PySem.W.Looks (model X.prog X.w) h3 (typeOf (.ref a)) cls := fun A Q E s k q => wpAny_typeOf_ref (k _ _ he3) (by rw [hz3.1]; exact q)
    have mt := PySem.W.exm_one (M := model X.prog X.w) J3.kIn ty hm
    have named : ∀ {Q E : Value → Shared → Prop}, Q c { s' with heap := h3 } → wpAny (model X.prog X.w) (X.A.mark (some (.ref a))) (eval (.Name x np) X.env) Q E { s' with heap := h3 } := fun q => by
      obtain ⟨hg, hd, w | ⟨w, v, n1⟩⟩ := hc
      · exact ld_glob (X := X.suite a (X.pn ++ pins)) S3 hg w q hd
      · exact ld_blt (X := X.suite a (X.pn ++ pins)) S3 hg w v q n1 hd
    refine named (mt.here (codeAny_handlers_suite_as (HandSPX.lands_againZ fl3 fun h4 fl4 up4 => ?_)))
    have S4 := inv_suite (inv_track (cls := cls) (d := d) J nb na fl4.2.1 nfr fl4.1 ((up.trans up3).trans up4) os ag fl4.there) a
    refine store_ok (X := X.suite a (X.pn ++ pins)) (v := .ref a) S4 hN hi (.inl hln) rfl (fun s5 S5 => ?_) (.inr hln)
    refine wpAny_mono ((hsu a (X.pn ++ pins)).run [] s5 _ _ _ S5 (hy a na)) (fun f s6 q => ?_) fun _ _ z => z.elim
    have over : ∀ {σ6 : L2.St} {H6 : Hp} {Q : Shared → Prop}, Inv (X.suite a (X.pn ++ pins)) [] σ6 H6 s6 → (∀ s7, Inv X pins (σ6.set i none) H6 s7 → Q s7) →
        wpAny (model X.prog X.w) X.A (do bindName X.env n .none; unbindBehindTheSuite X.env n pos') (fun _ s7 => Q s7) X.xe s6 := fun S6 k => gone_ok (inv_unsuite S6 ok) hN hi hln k
    cases f <;> first
      | (obtain ⟨σ6, H6, S6, q6⟩ := q; exact over S6 fun s7 J7 => ⟨_, _, J7, q6⟩)
      | (obtain ⟨v6, σ6, H6, S6, r6, q6⟩ := q; exact over S6 fun s7 J7 => ⟨_, _, _, J7, r6, q6⟩)
  · cases f <;> first
      | (obtain ⟨σ', H', J', q⟩ := q; exact wpAny_execs_nil ⟨σ', H', J'.ofTry I.ok, q⟩)
      | (obtain ⟨σ', H', J', q⟩ := q; exact ⟨σ', H', J'.ofTry I.ok, q⟩)
      | (obtain ⟨v, σ', H', J', r, q⟩ := q; exact ⟨v, σ', H', J'.ofTry I.ok, r, q⟩)
end
end DL
set_option Elab.async false
set_option linter.all false
set_option maxRecDepth 100000
set_option maxHeartbeats 2000000
/-! The value layer, part 13: f(lambda: ..), f a def that calls what it gets and hands back the exception that came, or None. -/
namespace DL
open PySem PySem.Spec PyProof.Rows L2

theorem takes_len {X : Cx} {W : WX} (t : Takes X W) : Takes X (fun cls d σ H => σ.length = X.N.length → W cls d σ H) := fun u s' ⟨a, B, sI, pins, σ, H, cls, d, e, I, nb, up, sky, na, os, ag, w⟩ =>
  t u s' ⟨a, B, sI, pins, σ, H, cls, d, e, I, nb, up, sky, na, os, ag, w I.len⟩
/-- what the def makes of the lambda's reading -/
def TCaught (K : PySem.W.Frag) (CS : Addr) : (XK → Hp → VK → Prop) → Hp → VK → Prop := fun tl H Q => ∀ Q' : VK, (∀ v H', Q .non H' → Q' v H') →
  tl (fun cls dd H' => PySem.W.exmOne K cls (.ref CS) = some true ∧ ∀ a, H' a = none → Q (.ref a) (upd H' a (ExV cls dd a))) H Q'
/-- the body of such a def -/
def caughtB (a v e en : Str) (j : Nat) (p1 p2 p3 p4 p5 p6 p7 p8 p9 p10 p11 p12 p13 p14 : Pos) : List Stmt :=
  [.Assign [.Name v p1] (.Constant .none j p2) p3,
   .Try [.Expr (.Call (.Name a p4) [] [] p5) p6] [.ExceptHandler (some (.Name e p7)) (some en) [.Assign [.Name v p8] (.Name en p9) p10] p11] [] [] p12,
   .Return (some (.Name v p13)) p14]
theorem caught_gives {X : Cx} {x a v e en q : Str} {sg : Scope} {g CS : Addr} {cdg : Value} {j : Nat} {p1 p2 p3 p4 p5 p6 p7 p8 p9 p10 p11 p12 p13 p14 : Pos} (nd : [a, v, en].Nodup) (hlv : sg.names.lookup v = some .local) (hle : sg.names.lookup en = some .local)
    (hge : sg.names.lookup e = some .globalImplicit) (hme : X.mg e = some (.ref CS)) (hde : (e == ("__debug__" : Str)) = false) (hdv : (v == ("__debug__" : Str)) = false) (hcv : (v == ("__classdict__" : Str)) = false) (hdn : (en == ("__debug__" : Str)) = false) (hcn : (en == ("__classdict__" : Str)) = false) :
    LamX.GivesTo X [a, v, en] x sg g cdg (caughtB a v e en j p1 p2 p3 p4 p5 p6 p7 p8 p9 p10 p11 p12 p13 p14) a q (TCaught X.K CS) := by
  intro f c' s H Q tl act hc h
  have hgl : Gl (cxOf C8.CX0 X.prog X.w X.K X.mg X.base [a, v, en] x sg g cdg X.A X.stack s H C8.E0).nox e := hge
  refine ⟨_, pss_cons (ps_set (i := 1) nd rfl (.inl hlv) pe_non) (pss_cons
    (ps_try_keep (i := 2) (X := (cxOf C8.CX0 X.prog X.w X.K X.mg X.base [a, v, en] x sg g cdg X.A X.stack s H C8.E0).nox) (c := .ref CS)
      (tb := fun W D σ H => ∃ Ech : XK, (∀ cls d σ' H', Ech cls d H' → σ'.length = 3 → W cls d σ' H') ∧ σ[0]? = some (some (.ref f)) ∧ H c' = some (LamX.CodeO c' q) ∧ tl Ech H (fun _ H' => D.nx σ H'))
      rfl rfl nd rfl hle ⟨hgl, hde, .inl hme⟩ (fun W pn xe tk => ?_) (fun a' pn => pss_one (ps_set (i := 1) nd rfl (.inl hlv) (pe_var (i := 2) rfl (.inl hle) hdn hcn))))
    (pss_one (ps_ret (pe_var (i := 1) rfl (.inl hlv) hdv hcv)))), ?_⟩
  · refine ⟨fun pins s' σ H' D I h' => ?_⟩
    obtain ⟨Ech, hW, h1, h2, h3⟩ := h'
    have hp := act _ pn xe Ech p4 p5 (takes_len tk) (fun cls d σ' H' h hl => hW cls d σ' H' h hl)
    exact (pss_one (ps_expr (pos := p6) hp)).run pins s' σ H' D I ⟨h1, h2, h3⟩
  · refine ⟨_, fun cls d σ' H' h hl => ?_, ?_, hc, h _ fun v H' q => ⟨.non, rfl, q⟩⟩
    · obtain ⟨h1, h2⟩ := h
      refine ⟨h1, fun b hb => ?_⟩
      match σ', hl with
      | [s0, s1, s2], _ => exact ⟨.ref b, rfl, .ref b, rfl, h2 b hb⟩
    · rfl
/-! ### the rule -/
def eCaught (pks : List Str) (fb : Ep) : Ep := fun ρ g => match fb ρ g with
  | .stuck => .stuck
  | .ok _ g' => .ok .non g'
  | .exc c f l g' => if c ∈ pks then .ok (.exc c f l) g' else .stuck
theorem Ext.ofN {z : Zt} {H H' : Hp} (e : LamX.ExtN H H') : Ext z H H' := ⟨fun b u q n _ _ => e b u q fun ps w => by rw [w] at n; exact n⟩
theorem GOk.extN {z : Zt} {H H' : Hp} {g : G} (G1 : GOk z H g) (e : LamX.ExtN H H') (t : LamX.Tabs z.T H') : GOk z H' g :=
  ⟨e _ _ G1.p (fun ps w => by cases w), e _ _ G1.l (fun ps w => by cases w), e _ _ G1.c (fun ps w => by cases w), G1.ne, t⟩
section
variable {X : Cx} {z : Zt} {W : WX} {kb : Kd} {fb : Ep} {x a : Str} {g CS c P : Addr} {k : Nat} {pg : Arguments} {bg : List Stmt} {sg : Scope} {dV kV doc pm cdv ct oc : Value} {an od : Option Addr} {osl : Array (Option Value)} {Ng : List Str}
    {params : Arguments} {body : Expr} {scope : Scope} {p lpos pos : Pos} {pks : List Str}
theorem de_caught (hg : Gl X x) (hm : X.mg x = some (.ref g)) (hk : PySem.W.keepIn X.K (.ref g) = true)
    (lk : X.K.lookup g = some ⟨oc, od, .func (PySem.W.fnOf x x pg bg sg dV kV doc pm an cdv ct), osl⟩) (hcg : PySem.W.codeIn X.K cdv x = true) (hb : L2.Binds X.K (PySem.W.fnOf x x pg bg sg dV kV doc pm an cdv ct) [a] []) (Sg : FnScope Ng [a] sg) (hNg : Ng[0]? = some a) (hva : Vis sg a)
    (hG : LamX.GivesTo X Ng x sg g cdv bg a (X.env.qual ++ "<lambda>") (TCaught X.K CS)) (hpk : ∀ c ∈ pks, ∀ C, X.mg c = some (.ref C) → PySem.W.exmOne X.K (.ref C) (.ref CS) = some true)
    (TB : LamX.TabB X.base X.mg c P) (hcode : X.env.code = .ref c) (hmT : (P, X.env.qual ++ "<lambda>") ∈ z.T) (hu : ∀ p ∈ z.T, p.1 = P → p.2 = X.env.qual ++ "<lambda>") (hr : Room (k + 2) X.A) (L : LamX.LamS X.env.scope scope) (hdef : defaultsOf params X.env = ([], []))
    (hbind : ∀ (q : Str) (cl : List (Str × Addr)) (pm cv ctv : Value), bindArgs (PySem.W.kla_fn "<lambda>" q params body scope cl pm cv ctv) ⟨[], []⟩ = pure [])
    (hbody : ∀ (A : Around) (outer : List PySem.Env) (s : Shared) (H : Hp) (E : XK) (f c' : Addr), Room k (A.deeper (LamX.lamEnv X scope s.heap.objs.size f c')) → Takes (LamX.lamCx X A outer s H E scope f c') (fun cls dd _ H => E cls dd H) →
      DE (LamX.lamCx X A outer s H E scope f c') z (fun cls dd _ H => E cls dd H) kb body fb)
    (hdb : (x == ("__debug__" : Str)) = false := by decide) (hd : (a == ("__debug__" : Str)) = false := by decide) (hcd : (a == ("__classdict__" : Str)) = false := by decide) :
    DE X z W .new (.Call (.Name x p) [.Lambda params body scope lpos] [] pos) (eCaught pks fb) := by
  refine de_of (LamX.pe_lamcall (t := fun E => tE X z (fun cls dd _ H => E cls dd H) kb fb) hg hm hk lk hcg hb Sg hNg hva hG TB hcode hmT hu hr L hdef hbind (fun A outer s H E f c' hr' => hbody A outer s H E f c' hr' (takes_of rfl rfl rfl rfl)) hdb hd hcd) fun σ H ρ gs Mu Q E G1 hx => ⟨G1.tb, fun H1 eN T1 Q' hQ => ?_⟩
  have e1 : Ext z H H1 := Ext.ofN eN
  have G2 : GOk z H1 gs := G1.extN eN T1
  have E1 := E.ext G1 e1 G2
  refine ⟨ρ, gs, Mu, E1, G2, ?_⟩
  unfold eCaught at hx
  cases q : fb ρ gs with
  | stuck => rw [q] at hx; exact hx.elim
  | ok d g' =>
    rw [q] at hx
    exact fun v H' e2 G3 _ => hQ v H' (hx .non H' (e1.trans e2) G3 (RK.new_of .non rfl))
  | exc cn fl l g' =>
    rw [q] at hx
    dsimp only at hx
    by_cases hc : cn ∈ pks
    · rw [if_pos hc] at hx
      intro cls dd H' e2 G3 ⟨C, h1, h2, h3⟩
      subst h2
      refine ⟨hpk cn hc C h1, fun b hb => ?_⟩
      have M3 := E1.mu.ext (g := gs) e2 G3
      have nb : b ∉ Mu := M3.new hb
      have s3 : Same H' (upd H' b (ExV (.ref C) dd b)) := same_upd' hb
      refine hx (.ref b) _ ((e1.trans e2).trans (Ext.of s3)) (G3.same s3) (RK.new_of ?_ rfl)
      rcases h3 with ⟨rfl, rfl, rfl⟩ | ⟨dx, v, d, rfl, rfl, h5, h6, h7⟩
      · exact .exc0 nb h1 upd_same
      · exact .exc1 nb h5 h1 upd_same (s3 _ _ h6) (h7.ext M3 G3 (Ext.of s3))
    · rw [if_neg hc] at hx
      exact hx.elim
end
end DL
set_option Elab.async false
set_option linter.all false
set_option maxRecDepth 100000
set_option maxHeartbeats 2000000
/-! The value layer, part 14: is, in, comparisons in a row, isinstance. -/
namespace DL
open PySem PySem.Spec PyProof.Rows L2

section
variable {X : Cx} {z : Zt} {W : WX} {k ka kb kc : Kd} {e a b c : Expr} {fa fb fc : Ep} {pos : Pos}
/-! ### is -/
theorem PR.none_iff {K : PySem.W.Frag} {mg : Str → Option Value} {Mu : List Addr} {H : Hp} {v : V} {d : D} (r : PR K mg z Mu H v d) : v = .non ↔ d = .non := by
  rcases r with r | ⟨a, rfl, _, _, _, _, c⟩
  · cases r <;> simp
  · cases c <;> simp
theorem op_dIs : DOp X z .new (compareOp .Is) dIs := by
  intro pins s σ H Mu g x y v u dx dy d Q I m G1 rx ry px py hd q
  cases dy <;> try (cases dx <;> simp only [dIs, reduceCtorEq] at hd; done)
  · have e := py.non
    subst e
    refine op_isN pins s σ H x .non v u Q I rx ry ⟨rfl, q _ H Same.refl ?_⟩
    have hn := px.none_iff
    have hd' : d = .bl (decide (x = .non)) := by
      by_cases h : dx = .non
      · subst h
        have := hn.mpr rfl
        subst this
        exact (Option.some.inj hd).symm
      · have hx : ¬ x = .non := fun w => h (hn.mp w)
        rw [decide_eq_false hx]
        cases dx <;> first | exact absurd rfl h | exact (Option.some.inj hd).symm
    rw [hd']
    exact RK.bl
  · cases dx <;> simp only [dIs, reduceCtorEq, Option.some.injEq] at hd
    subst hd
    have e1 := px.bl
    have e2 := py.bl
    subst e1 e2
    exact op_is_bl pins s σ H _ _ v u Q I rx ry ⟨_, _, rfl, rfl, q _ H Same.refl RK.bl⟩
theorem op_dIsN : DOp X z .new (compareOp .IsNot) dIsN := by
  intro pins s σ H Mu g x y v u dx dy d Q I m G1 rx ry px py hd q
  cases dy <;> try (cases dx <;> simp only [dIsN, dIs, reduceCtorEq] at hd; done)
  · have e := py.non
    subst e
    refine op_notN pins s σ H x .non v u Q I rx ry ⟨rfl, q _ H Same.refl ?_⟩
    have hn := px.none_iff
    have hd' : d = .bl (!decide (x = .non)) := by
      by_cases h : dx = .non
      · subst h
        have := hn.mpr rfl
        subst this
        exact (Option.some.inj hd).symm
      · have hx : ¬ x = .non := fun w => h (hn.mp w)
        rw [decide_eq_false hx]
        cases dx <;> first | exact absurd rfl h | exact (Option.some.inj hd).symm
    rw [hd']
    exact RK.bl
  · cases dx <;> simp only [dIsN, dIs, reduceCtorEq, Option.some.injEq] at hd
    subst hd
    have e1 := px.bl
    have e2 := py.bl
    subst e1 e2
    exact op_isnot_bl pins s σ H _ _ v u Q I rx ry ⟨_, _, rfl, rfl, q _ H Same.refl RK.bl⟩
/-! ### in, of a list, a tuple -/
def dInB (x y : D) : Option Bool :=
  match y with
  | .lst l => match x.py, D.pys l with
    | some d, some xs => if SeqAt.shaped d = true ∧ SeqAt.shaped (.list xs) = true then some (xs.any fun w => PyData.eqv w d) else none
    | _, _ => none
  | .tup l => match x.py, D.pys l with
    | some d, some xs => if SeqAt.shaped d = true ∧ SeqAt.shaped (.list xs) = true then some (xs.any fun w => PyData.eqv w d) else none
    | _, _ => none
  | _ => none
def dIn (x y : D) : Option D := (dInB x y).map D.bl
def dNotIn (x y : D) : Option D := (dInB x y).map fun c => D.bl (!c)
theorem dInB_some {x y : D} {c : Bool} (h : dInB x y = some c) : ∃ l d xs, (y = .lst l ∨ y = .tup l) ∧ x.py = some d ∧ D.pys l = some xs ∧ SeqAt.shaped d = true ∧ SeqAt.shaped (.list xs) = true ∧ c = xs.any fun w => PyData.eqv w d := by
  cases y <;> simp only [dInB, reduceCtorEq] at h
  · split at h
    · rename_i d xs q1 q2
      obtain ⟨⟨h1, h2⟩, e⟩ := opt_if h
      exact ⟨_, d, xs, .inr rfl, q1, q2, h1, h2, e.symm⟩
    · cases h
  · split at h
    · rename_i d xs q1 q2
      obtain ⟨⟨h1, h2⟩, e⟩ := opt_if h
      exact ⟨_, d, xs, .inl rfl, q1, q2, h1, h2, e.symm⟩
    · cases h
theorem py_of_lst {l : List D} {xs : List PyData} (h : D.pys l = some xs) : (D.lst l).py = some (.list xs) := by rw [D.py, h]
theorem py_of_tup {l : List D} {xs : List PyData} (h : D.pys l = some xs) : (D.tup l).py = some (.tuple xs) := by rw [D.py, h]
theorem op_dIn (hX : XG X) : DOp X z .new (compareOp .In) dIn := by
  intro pins s σ H Mu g x y v u dx dy d Q I m G1 rx ry px py hd q
  obtain ⟨c, hc, rfl⟩ := Option.map_eq_some_iff.mp hd
  obtain ⟨l, p, xs, hy, h1, h2, s1, s2, rfl⟩ := dInB_some hc
  obtain ⟨as, r1⟩ := px.reads I rx h1
  have hu : X.A.units + 65 < cLine := by have := hX.room.un; omega
  rcases hy with rfl | rfl
  · obtain ⟨bs, r2⟩ := py.reads I ry (py_of_lst h2)
    exact SeqAt.in_list_reads r2 r1 (SeqAt.canLay_of_shaped s2) (SeqAt.canLay_of_shaped s1) (room_in_shaped s1 hu) ⟨.bl _, H, I, rfl, q _ H Same.refl RK.bl⟩
  · obtain ⟨bs, r2⟩ := py.reads I ry (py_of_tup h2)
    exact SeqAt.in_tuple_reads r2 r1 (SeqAt.canLay_of_shaped s2) (SeqAt.canLay_of_shaped s1) (room_in_shaped s1 hu) ⟨.bl _, H, I, rfl, q _ H Same.refl RK.bl⟩
theorem op_dNotIn (hX : XG X) : DOp X z .new (compareOp .NotIn) dNotIn := by
  intro pins s σ H Mu g x y v u dx dy d Q I m G1 rx ry px py hd q
  obtain ⟨c, hc, rfl⟩ := Option.map_eq_some_iff.mp hd
  obtain ⟨l, p, xs, hy, h1, h2, s1, s2, rfl⟩ := dInB_some hc
  obtain ⟨as, r1⟩ := px.reads I rx h1
  have hu : X.A.units + 65 < cLine := by have := hX.room.un; omega
  rcases hy with rfl | rfl
  · obtain ⟨bs, r2⟩ := py.reads I ry (py_of_lst h2)
    exact SeqAt.notIn_list_reads r2 r1 (SeqAt.canLay_of_shaped s2) (SeqAt.canLay_of_shaped s1) (room_in_shaped s1 hu) ⟨.bl _, H, I, rfl, q _ H Same.refl RK.bl⟩
  · obtain ⟨bs, r2⟩ := py.reads I ry (py_of_tup h2)
    exact SeqAt.notIn_tuple_reads r2 r1 (SeqAt.canLay_of_shaped s2) (SeqAt.canLay_of_shaped s1) (room_in_shaped s1 hu) ⟨.bl _, H, I, rfl, q _ H Same.refl RK.bl⟩
/-! ### a op b op' c -/
def eChain (h h' : D → D → Option D) (fa fb fc : Ep) : Ep := fun ρ => do
  let x ← fa ρ
  let y ← fb ρ
  let r ← ofOpt (h x y)
  match r with
  | .bl true => do
    let w ← fc ρ
    ofOpt (h' y w)
  | .bl false => M.pure (.bl false)
  | _ => stuck
theorem all_chain {d : D} {m : M D} {P : D → G → Prop} {E : Str → Str → List D → G → Prop} {g : G} (h : ((match d with | .bl true => m | .bl false => M.pure (.bl false) | _ => stuck : M D) g).all P E) : (d = .bl true ∧ (m g).all P E) ∨ (d = .bl false ∧ P (.bl false) g) := by
  cases d with
  | bl b => cases b <;> first | exact .inl ⟨rfl, h⟩ | exact .inr ⟨rfl, h⟩
  | _ => exact h.elim
variable {op op' : CmpOp} {h h' : D → D → Option D}
theorem de_chain (ho : DOp X z .new (compareOp op) h) (ho' : DOp X z .new (compareOp op') h') (ha : DE X z W ka a fa) (hb : DE X z W kb b fb) (hc : DE X z W kc c fc) (hm : lastMarks [op, op'] [b, c] = false := by with_unfolding_all rfl) :
    DE X z W .new (.Compare a [op, op'] [b, c] pos) (eChain h h' fa fb fc) := by
  refine ⟨fun pins s σ H Q I ⟨ρ, g, Mu, E, G1, hx⟩ => ?_⟩
  refine Compare_chain (de_run ha I E G1 (R.all_imp (R.all_bind hx) (fun dx g1 hx v u H1 s1 I1 r1 e1 G2 E1 k1 => chain_link ?_) fun _ _ _ _ h => h)) hm
  refine de_run hb I1 E1 G2 (R.all_imp (Raising.all (R.all_bind hx) e1) (fun dy g2 hx v' u' H2 s2 I2 r2 e2 G3 E2 k2 => ?_) fun _ _ _ _ h => h)
  obtain ⟨d, hd, hx⟩ := R.all_opt (R.all_bind hx)
  have p1 : PR X.K X.mg z Mu H2 v dx := (k1.peek E.mu E1.mu G2).ext E1.mu G2 e2
  have p2 : PR X.K X.mg z Mu H2 v' dy := k2.peek E1.mu E2.mu G3
  refine thn (ho pins s2 σ H2 Mu g2 v v' u u' dx dy d (fun w H3 => Same H2 H3 ∧ RK X.K X.mg z .new H2 Mu H3 w d) I2 E2.mu G3 r1 r2 p1 p2 hd fun w H3 s3 k3 => ⟨s3, k3⟩) fun w s3 ⟨w', H3, I3, r3, sm, k3⟩ => ?_
  have G4 := G3.same sm
  have E3 := E2.ext G3 (Ext.of sm) G4
  have e13 := (e1.trans e2).trans (Ext.of sm)
  have kb := k3.peek E2.mu E3.mu G4
  rcases all_chain hx with ⟨rfl, hy⟩ | ⟨rfl, hy⟩
  · obtain rfl := kb.bl
    cases r3
    refine wpAny_truthy_bool (ite_tt (chain_last (de_run hc I3 E3 G4 (R.all_imp (Raising.all (R.all_bind hy) e13) (fun dw g3 hx v3 u3 H4 s4 I4 r4 e4 G5 E4 k4 => ?_) fun _ _ _ _ h => h))))
    obtain ⟨d', hd', hx⟩ := R.all_opt hx
    refine ho' pins s4 σ H4 Mu g3 v' v3 u' u3 dy dw d' Q I4 E4.mu G5 r2 r4 (p2.ext E2.mu G3 ((Ext.of sm).trans e4)) (k4.peek E3.mu E4.mu G5) hd' fun w5 H5 s5 k5 => ?_
    exact hx w5 H5 ((e13.trans e4).trans (Ext.of s5)) (G5.same s5) (k5.back (e13.trans e4) G5)
  · obtain rfl := kb.bl
    cases r3
    exact wpAny_truthy_bool (ite_ff ⟨.bl false, H3, I3, rfl, hy (.bl false) H3 e13 G4 RK.bl⟩)
theorem dt_chain (ho : DOp X z .new (compareOp op) h) (ho' : DOp X z .new (compareOp op') h') (ha : DE X z W ka a fa) (hb : DE X z W kb b fb) (hc : DE X z W kc c fc) (hm : lastMarks [op, op'] [b, c] = false := by with_unfolding_all rfl) :
    DT X z W (.Compare a [op, op'] [b, c] pos) (eTr (eChain h h' fa fb fc)) := by
  refine ⟨fun pins s σ H Q I ⟨ρ, g, Mu, E, G1, hx⟩ => ?_⟩
  have hx : ((eChain h h' fa fb fc ρ g).bind fun d => (match d with | .bl b => M.pure b | _ => stuck : M Bool)).all (fun b g' => ∀ H', Ext z H H' → GOk z H' g' → Q b H') (XW X z W Mu σ H) := hx
  have hx := R.all_bind hx
  refine isTrue_chain (de_run ha I E G1 (R.all_imp (R.all_bind hx) (fun dx g1 hx v u H1 s1 I1 r1 e1 G2 E1 k1 => test_link ?_) fun _ _ _ _ h => h)) hm
  refine de_run hb I1 E1 G2 (R.all_imp (Raising.all (R.all_bind hx) e1) (fun dy g2 hx v' u' H2 s2 I2 r2 e2 G3 E2 k2 => ?_) fun _ _ _ _ h => h)
  obtain ⟨d, hd, hx⟩ := R.all_opt (R.all_bind hx)
  have p1 : PR X.K X.mg z Mu H2 v dx := (k1.peek E.mu E1.mu G2).ext E1.mu G2 e2
  have p2 : PR X.K X.mg z Mu H2 v' dy := k2.peek E1.mu E2.mu G3
  refine thn (ho pins s2 σ H2 Mu g2 v v' u u' dx dy d (fun w H3 => Same H2 H3 ∧ RK X.K X.mg z .new H2 Mu H3 w d) I2 E2.mu G3 r1 r2 p1 p2 hd fun w H3 s3 k3 => ⟨s3, k3⟩) fun w s3 ⟨w', H3, I3, r3, sm, k3⟩ => ?_
  have G4 := G3.same sm
  have E3 := E2.ext G3 (Ext.of sm) G4
  have e13 := (e1.trans e2).trans (Ext.of sm)
  have kb := k3.peek E2.mu E3.mu G4
  rcases all_chain hx with ⟨rfl, hy⟩ | ⟨rfl, hy⟩
  · obtain rfl := kb.bl
    cases r3
    refine wpAny_truthy_bool (ite_tt (test_last (de_run hc I3 E3 G4 (R.all_imp (Raising.all (R.all_bind hy) e13) (fun dw g3 hx v3 u3 H4 s4 I4 r4 e4 G5 E4 k4 => ?_) fun _ _ _ _ h => h))))
    obtain ⟨d', hd', hx⟩ := R.all_opt hx
    obtain ⟨b, rfl, hx⟩ := all_tr hx
    refine thn (ho' pins s4 σ H4 Mu g3 v' v3 u' u3 dy dw (.bl b) (fun w H5 => Same H4 H5 ∧ RK X.K X.mg z .new H4 Mu H5 w (.bl b)) I4 E4.mu G5 r2 r4 (p2.ext E2.mu G3 ((Ext.of sm).trans e4)) (k4.peek E3.mu E4.mu G5) hd' fun w5 H5 s5 k5 => ⟨s5, k5⟩) fun w5 s5 ⟨w', H5, I5, r5, sm5, k5⟩ => ?_
    have G6 := G5.same sm5
    have E5 := E4.ext G5 (Ext.of sm5) G6
    obtain rfl := (k5.peek E4.mu E5.mu G6).bl
    cases r5
    exact wpAny_truthy_bool ⟨H5, I5, hx H5 ((e13.trans e4).trans (Ext.of sm5)) G6⟩
  · obtain rfl := kb.bl
    cases r3
    obtain ⟨b, hb, hx⟩ := all_tr (d := .bl false) hy
    cases hb
    exact wpAny_truthy_bool (ite_ff ⟨H3, I3, hx H3 e13 G4⟩)
/-! ### isinstance -/
theorem de_ty {x : Str} {n : String} (hg : Gl X x) (hm : X.mg x = none) (hv : bootBuiltins x = some (.type n)) (hn : x ≠ "__name__" := by decide) (hd : (x == ("__debug__" : Str)) = false := by decide) : DE X z W .new (.Name x pos) (eC (.ty n)) :=
  de_const (v := .ty n) (pe_bltn hg hm hv rfl hn hd) (fun _ _ => .ty n) rfl
def tyN : D → Option String
  | .non => some "NoneType"
  | .bl _ => some "bool"
  | .int _ => some "int"
  | .str _ => some "str"
  | .tup _ => some "tuple"
  | .lst _ => some "list"
  | .dct _ => some "dict"
  | _ => none
/-- what isinstance says: sub of two classes of the text, cls: a class of the text of no built-in kind -/
def fIsi (sub : Str → Str → Option Bool) (cls : Str → Bool) : List D → Option D
  | [.exc c _ [], .fn c'] => (sub c c').map D.bl
  | [d, .fn c'] => match tyN d with
    | some _ => if cls c' = true then some (.bl false) else none
    | none => none
  | [d, .ty n] => match tyN d with
    | some t => (kitB t n).map D.bl
    | none => none
  | _ => none
structure IsiOk (K : PySem.W.Frag) (mg : Str → Option Value) (sub : Str → Str → Option Bool) (cls : Str → Bool) : Prop where
  own : ∀ c c' b C C', sub c c' = some b → mg c = some (.ref C) → mg c' = some (.ref C') → ExcC K C ∧ PySem.W.kitOne K (.ref C) (.ref C') = some b
  not : ∀ c' C', cls c' = true → mg c' = some (.ref C') → ∀ t ∈ ["NoneType", "bool", "int", "str", "tuple", "list", "dict"], PySem.W.kitOne K (.type t) (.ref C') = some false
theorem tyN_mem {d : D} {t : String} (h : tyN d = some t) : t ∈ ["NoneType", "bool", "int", "str", "tuple", "list", "dict"] := by
  cases d <;> simp only [tyN, reduceCtorEq, Option.some.injEq] at h <;> subst h <;> simp
/-- what isinstance asks of a value of a built-in kind -/
theorem kit_D {pins : List (Addr × Obj)} {s : Shared} {σ : L2.St} {H : Hp} {Mu : List Addr} {v : V} {u : Value} {d : D} {t : String} (I : Inv X pins σ H s) (rx : RelV v u) (p : PR X.K X.mg z Mu H v d) (ht : tyN d = some t) :
    ∃ P : Heap → Prop, PySem.W.KitX X.K u (.type t) P ∧ P s.heap ∧ u ≠ .builtin "__main__.__loader__#opaque" := by
  cases d <;> simp only [tyN, reduceCtorEq, Option.some.injEq] at ht <;> subst ht
  · have e := p.non
    subst e
    exact kit_of I rx (.base .non)
  · have e := p.bl
    subst e
    exact kit_of I rx (.base (.bl _))
  · have e := p.int
    subst e
    exact kit_of I rx (.base (.int _))
  · have e := p.str
    subst e
    exact kit_of I rx (.base (.str _))
  · obtain ⟨a, xs, rfl, _, hx, _⟩ := p.tup
    exact kit_of I rx (.base (.tup hx))
  · obtain ⟨a, xs, rfl, hx, _⟩ := p.lst
    exact kit_of I rx (.base (.lst hx))
  · obtain ⟨a, o, es, ep, ks, vs, rfl, ho, _, hex, _⟩ := p.dct
    cases rx
    exact ⟨_, PySem.W.kitx_dict, ⟨o, (I.hok a _ ho).1, hex.1⟩, fun z => nomatch z⟩
theorem call_isi' {sub : Str → Str → Option Bool} {cls : Str → Bool} (ok : IsiOk X.K X.mg sub cls) : DCall X z .new (.builtin "isinstance") (fIsi sub cls) := by
  intro pins s σ H Mu g xs us ds d Q I m G1 rv rs hd q
  match ds, rs, hd with
  | [dx, dy], rs, hd =>
    obtain ⟨v, w, rfl, p1, p2⟩ := rs.two
    obtain ⟨u1, u2, rfl, r1, r2⟩ := vals2 rv
    have fin : ∀ {t : Value} {P : Heap → Prop} {b : Bool}, PySem.W.KitX X.K u1 t P → P s.heap → u1 ≠ .builtin "__main__.__loader__#opaque" → PySem.W.kitOne X.K t u2 = some b → d = .bl b → wpAny (model X.prog X.w) X.A (call (.builtin "isinstance") [u1, u2]) (EP X pins σ Q) X.xe s := fun {t P b} Z hp hn e ed =>
      PySem.W.kia_one Z I.kIn hp e hn fun tk => ⟨.bl b, H, I.tok tk, rfl, by rw [ed] at q; exact q _ H Same.refl RK.bl⟩
    have isfn : ∀ c', dy = .fn c' → ∃ C', X.mg c' = some (.ref C') ∧ u2 = .ref C' := fun c' e => by
      subst e
      rcases p2 with p | ⟨_, _, _, _, _, _, c⟩
      · cases p with | fn hm => exact ⟨_, hm, r2⟩
      · cases c
    have ofTy : ∀ t, tyN dx = some t → (∃ n, dy = .ty n ∧ (kitB t n).map D.bl = some d) ∨ (∃ c', dy = .fn c' ∧ cls c' = true ∧ d = .bl false) → wpAny (model X.prog X.w) X.A (call (.builtin "isinstance") [u1, u2]) (EP X pins σ Q) X.xe s := fun t ht h => by
      obtain ⟨P, Z, hp, hn⟩ := kit_D I r1 p1 ht
      rcases h with ⟨n, e, hk⟩ | ⟨c', e, hc, ed⟩
      · subst e
        obtain ⟨b, hb, rfl⟩ := Option.map_eq_some_iff.mp hk
        have e2 : u2 = .type n := by
          rcases p2 with p | ⟨_, _, _, _, _, _, c⟩
          · cases p; exact r2
          · cases c
        subst e2
        exact fin Z hp hn (kit_ty hb) rfl
      · obtain ⟨C', hm, rfl⟩ := isfn c' e
        exact fin Z hp hn (ok.not c' C' hc hm t (tyN_mem ht)) ed
    have ofB : ∀ t, tyN dx = some t → fIsi sub cls [dx, dy] = some d → wpAny (model X.prog X.w) X.A (call (.builtin "isinstance") [u1, u2]) (EP X pins σ Q) X.xe s := fun t ht hd => by
      refine ofTy t ht ?_
      cases dy with
      | ty n =>
        refine .inl ⟨n, rfl, ?_⟩
        cases dx <;> simp only [tyN, reduceCtorEq, Option.some.injEq] at ht <;> subst ht <;> exact hd
      | fn c' =>
        refine .inr ⟨c', rfl, ?_⟩
        have hd' : (if cls c' = true then some (D.bl false) else none) = some d := by
          cases dx <;> simp only [tyN, reduceCtorEq, Option.some.injEq] at ht <;> exact hd
        obtain ⟨h1, h2⟩ := opt_if hd'
        exact ⟨h1, h2.symm⟩
      | _ => cases dx <;> simp only [tyN, reduceCtorEq, Option.some.injEq] at ht <;> cases hd
    cases dx with
    | exc c f l =>
      cases l with
      | cons _ _ => cases dy <;> simp only [fIsi, tyN, reduceCtorEq] at hd
      | nil =>
        cases dy <;> simp only [fIsi, tyN, reduceCtorEq] at hd
        rename_i c'
        obtain ⟨b, hb, rfl⟩ := Option.map_eq_some_iff.mp hd
        obtain ⟨C', hm, rfl⟩ := isfn c' rfl
        rcases p1 with p | ⟨_, _, _, _, _, _, cc⟩
        · cases p with
          | @exc0 a _ C _ hC ha =>
            obtain ⟨ec, ek⟩ := ok.own c c' b C C' hb hC hm
            cases r1
            obtain ⟨⟨oe, fs, e1, e2, e3⟩, _, _⟩ := I.hok a _ ha
            refine fin (PySem.W.handS_kitx_exc (ox := oe) ec.hg ec.hk ec.hs ec.hd ec.ha ec.hn ec.ht ec.hm) ?_ (fun z => nomatch z) ek rfl
            obtain ⟨oc, od, odt, osl⟩ := oe
            obtain ⟨z1, z2⟩ := e2
            dsimp only at z1 z2 e3
            subst z1 z2 e3
            exact ⟨e1, rfl, rfl, trivial⟩
        · cases cc
    | non => exact ofB _ rfl hd
    | bl _ => exact ofB _ rfl hd
    | int _ => exact ofB _ rfl hd
    | str _ => exact ofB _ rfl hd
    | tup _ => exact ofB _ rfl hd
    | lst _ => exact ofB _ rfl hd
    | dct _ => exact ofB _ rfl hd
    | _ => cases dy <;> simp only [fIsi, tyN, reduceCtorEq] at hd
  | [], _, hd => simp only [fIsi, reduceCtorEq] at hd
  | [_], _, hd => simp only [fIsi, reduceCtorEq] at hd
  | _ :: _ :: _ :: _, _, hd => simp only [fIsi, reduceCtorEq] at hd
end
end DL
set_option Elab.async false
set_option linter.all false
set_option maxRecDepth 100000
set_option maxHeartbeats 2000000
/-! The value layer, part 15: repr; several names assigned at once; targets that are no plain name. -/
namespace DL
open PySem PySem.Spec PyProof.Rows L2

/-! ### repr -/
def okR (p : PyData) : Bool := p.showable && p.leavesShort 13 && decide (p.weight ≤ 2 ^ 20) && decide (p.depth ≤ 64) && !p.hasDict
def fRepr : List D → Option D
  | [d] => match d.py with
    | some p => if okR p = true then some (.str p.shown) else none
    | none => none
  | _ => none
theorem shown_scal : (PyData.none).shown = ("None" : Str) ∧ (∀ b, (PyData.bool b).shown = if b then ("True" : Str) else "False") ∧ (∀ i, (PyData.int i).shown = toString i) ∧ ∀ x, (PyData.str x).shown = reprText x :=
  ⟨by simp only [PyData.shown], fun b => by simp only [PyData.shown], fun i => by simp only [PyData.shown], fun x => by simp only [PyData.shown]⟩
section
variable {X : Cx} {z : Zt}
theorem call_repr' (hgd : X.A.guards = some []) (hX : XG X) : DCall X z .new (.builtin "repr") fRepr := by
  intro pins s σ H Mu g xs us ds d Q I m G1 rv rs hd q
  match ds, rs, hd with
  | [dx], rs, hd =>
    obtain ⟨v, rfl, p1⟩ := rs.one
    obtain ⟨u, rfl, r1⟩ := vals1 rv
    unfold fRepr at hd
    dsimp only at hd
    split at hd
    · rename_i p hp
      obtain ⟨ho, rfl⟩ := opt_if hd
      unfold okR at ho
      simp only [Bool.and_eq_true, decide_eq_true_eq, Bool.not_eq_true'] at ho
      obtain ⟨⟨⟨⟨o1, o2⟩, o3⟩, o4⟩, o5⟩ := ho
      have sz : p.shown.length ≤ sizeLine := PyData.shown_fits (by decide) (by decide) o2 o3
      have fin : ∀ (h' : Heap) (t : Tok) (tk : Nat), (∀ b o, s.heap.get? b = some o → h'.get? b = some o) → EP X pins σ Q (.str p.shown t) { s with heap := h', toks := tk } := fun h' t tk k => ⟨.str p.shown, H, I.kept (t' := tk) k, ⟨t, rfl⟩, q _ H Same.refl RK.str⟩
      obtain ⟨e1, e2, e3, e4⟩ := shown_scal
      obtain ⟨as, rd⟩ := p1.reads I r1 hp
      have ref : ∀ {a : Addr}, u = .ref a → wpAny (model X.prog X.w) X.A (call (.builtin "repr") [u]) (EP X pins σ Q) X.xe s := fun {a} e => by
        subst e
        refine repr_of_reads' rd o1 (fun w => by rw [o5] at w; cases w) hgd ?_ (fun _ _ e => e) (fun h' t tk k => fin h' t tk k) sz
        have := hX.room.un
        omega
      cases rd with
      | none => have := fin s.heap s.toks (s.toks + 1) (fun _ _ e => e); rw [e1] at this; exact PySem.P.repr_of_none this
      | bool b => have := fin s.heap s.toks (s.toks + 1) (fun _ _ e => e); rw [e2] at this; exact PySem.P.repr_of_bool this
      | int i t => have := fin s.heap s.toks (s.toks + 1) (fun _ _ e => e); rw [e3] at this; exact PySem.P.repr_of_int (by simpa [PyData.showable] using o1) this
      | str x t => have := fin s.heap s.toks (s.toks + 1) (fun _ _ e => e); rw [e4] at this; rw [e4] at sz; exact PySem.P.repr_of_str this sz
      | list _ _ _ _ => exact ref rfl
      | tuple _ _ _ _ => exact ref rfl
      | dict _ _ _ _ _ => exact ref rfl
    · cases hd
  | [], _, hd => cases hd
  | _ :: _ :: _, _, hd => cases hd
end

/-! ### values that are held while others are made -/
section
variable {K : PySem.W.Frag} {mg : Str → Option Value} {z : Zt} {P : Snap} {Mu : List Addr} {H H' : Hp} {v : V} {σ τ : L2.St} {ρ θ : Env} {g g' : G} {x : Option Sl}
theorem EnvOk.pre (hl : ρ.length = σ.length) (E : EnvOk K mg z Mu H (σ ++ τ) (ρ ++ θ)) : EnvOk K mg z Mu H σ ρ := by
  have up : ∀ {i : Nat} {s : Option Sl}, ρ[i]? = some s → (ρ ++ θ)[i]? = some s ∧ i < σ.length := fun {i s} h => by
    have hi := (List.getElem?_eq_some_iff.mp h).1
    exact ⟨by rw [List.getElem?_append_left hi]; exact h, hl ▸ hi⟩
  refine ⟨hl, E.mu, fun i t d q => ?_, fun i j d d' a q1 q2 s1 s2 => ?_⟩
  · obtain ⟨w, h1, h2⟩ := E.val i t d (up q).1
    exact ⟨w, by rw [List.getElem?_append_left (up q).2] at h1; exact h1, h2⟩
  · exact E.sep i j d d' a (up q1).1 (up q2).1 (by rw [List.getElem?_append_left (up q1).2]; exact s1) (by rw [List.getElem?_append_left (up q2).2]; exact s2)
theorem SOk.pre (hl : ρ.length = σ.length) (S : SOk K mg z P Mu H (σ ++ τ) (ρ ++ θ) g) : SOk K mg z P Mu H σ ρ g := by
  refine ⟨S.env.pre hl, S.g, S.ext, S.sub, S.m0, fun i d a q s => ?_, S.kp, S.km, S.kz, S.kt⟩
  have hi := (List.getElem?_eq_some_iff.mp q).1
  exact S.own i d a (by rw [List.getElem?_append_left hi]; exact q) (by rw [List.getElem?_append_left (hl ▸ hi)]; exact s)
theorem SOk.app (S : SOk K mg z P Mu H σ ρ g) : SOk K mg z P Mu H (σ ++ [none]) (ρ ++ [none]) g := by
  have dn : ∀ {i : Nat} {s : Sl}, (ρ ++ [none])[i]? = some (some s) → ρ[i]? = some (some s) ∧ i < σ.length := fun {i s} h => by
    by_cases hi : i < ρ.length
    · rw [List.getElem?_append_left hi] at h
      exact ⟨h, S.env.len ▸ hi⟩
    · rw [List.getElem?_append_right (by omega)] at h
      cases e : i - ρ.length with
      | zero => rw [e] at h; cases h
      | succ n => rw [e] at h; cases h
  refine ⟨⟨by rw [List.length_append, List.length_append, S.env.len]; rfl, S.env.mu, fun i t d q => ?_, fun i j d d' a q1 q2 s1 s2 => ?_⟩, S.g, S.ext, S.sub, S.m0, fun i d a q s => ?_, S.kp, S.km, S.kz, S.kt⟩
  · obtain ⟨w, h1, h2⟩ := S.env.val i t d (dn q).1
    exact ⟨w, by rw [List.getElem?_append_left (dn q).2]; exact h1, h2⟩
  · rw [List.getElem?_append_left (dn q1).2] at s1
    rw [List.getElem?_append_left (dn q2).2] at s2
    exact S.env.sep i j d d' a (dn q1).1 (dn q2).1 s1 s2
  · rw [List.getElem?_append_left (dn q).2] at s
    exact S.own i d a (dn q).1 s
/-- the last one held goes into a local -/
theorem SOk.pop (i : Nat) (hl : ρ.length = σ.length) (S : SOk K mg z P Mu H (σ ++ [some v]) (ρ ++ [x]) g) : SOk K mg z P Mu H (σ.set i (some v)) (ρ.set i x) g := by
  have dn : ∀ {k : Nat} {s : Sl}, (ρ.set i x)[k]? = some (some s) → ∃ j, (ρ ++ [x])[j]? = some (some s) ∧ (∀ w, (σ.set i (some v))[k]? = some w ↔ (σ ++ [some v])[j]? = some w) ∧ (j = if k = i then ρ.length else k) ∧ k < ρ.length := fun {k s} h => by
    have hk : k < ρ.length := by
      have h1 := (List.getElem?_eq_some_iff.mp h).1
      rwa [List.length_set] at h1
    by_cases hi : k = i
    · subst hi
      rw [List.getElem?_set_self hk] at h
      refine ⟨ρ.length, by rw [List.getElem?_append_right (Nat.le_refl _), Nat.sub_self]; exact h, fun w => ?_, by rw [if_pos rfl], hk⟩
      rw [List.getElem?_set_self (hl ▸ hk), hl, List.getElem?_append_right (Nat.le_refl _), Nat.sub_self]
      rfl
    · rw [List.getElem?_set_ne (Ne.symm hi)] at h
      refine ⟨k, by rw [List.getElem?_append_left hk]; exact h, fun w => ?_, by rw [if_neg hi], hk⟩
      rw [List.getElem?_set_ne (Ne.symm hi), List.getElem?_append_left (hl ▸ hk)]
  refine ⟨⟨by rw [List.length_set, List.length_set]; exact hl, S.env.mu, fun k t d q => ?_, fun k l d d' a q1 q2 s1 s2 => ?_⟩, S.g, S.ext, S.sub, S.m0, fun k d a q s => ?_, S.kp, S.km, S.kz, S.kt⟩
  · obtain ⟨j, h1, h2, _⟩ := dn q
    obtain ⟨w, h3, h4⟩ := S.env.val j t d h1
    exact ⟨w, (h2 _).mpr h3, h4⟩
  · obtain ⟨j1, h1, h2, h3, h4⟩ := dn q1
    obtain ⟨j2, k1, k2, k3, k4⟩ := dn q2
    have e := S.env.sep j1 j2 d d' a h1 k1 ((h2 _).mp s1) ((k2 _).mp s2)
    rw [h3, k3] at e
    by_cases c1 : k = i <;> by_cases c2 : l = i
    · rw [c1, c2]
    · rw [if_pos c1, if_neg c2] at e; omega
    · rw [if_neg c1, if_pos c2] at e; omega
    · rw [if_neg c1, if_neg c2] at e; exact e
  · obtain ⟨j, h1, h2, _⟩ := dn q
    exact S.own j d a h1 ((h2 _).mp s)
/-- one more is held -/
theorem SOk.push {k : Kd} {H1 : Hp} {d : D} {g1 : G} (S : SOk K mg z P Mu H σ ρ g) (e1 : Ext z H H1) (G1 : GOk z H1 g1) (own : Bool) (hk : k = if own = true then .new else .sh) (r : RK K mg z k H Mu H1 v d) :
    ∃ Mu', SOk K mg z P Mu' H1 (σ ++ [some v]) (ρ ++ [some (own && d.box, d)]) g1 := by
  obtain ⟨Mu', S'⟩ := S.app.store (i := σ.length) e1 G1 own hk r
  refine ⟨Mu', ?_⟩
  have e2 : (σ ++ [none]).set σ.length (some v) = σ ++ [some v] := by rw [List.set_append_right _ _ (Nat.le_refl _), Nat.sub_self]; rfl
  have e3 : (ρ ++ [none]).set σ.length (some (own && d.box, d)) = ρ ++ [some (own && d.box, d)] := by rw [← S.env.len, List.set_append_right _ _ (Nat.le_refl _), Nat.sub_self]; rfl
  rw [e2, e3] at S'
  exact S'
end
section
variable {X : Cx} {n : En} {a b c e : Expr} {fa fb fc : Ep} {px py pq pt pos : Pos} {i j l : Nat} {x y w : Str} {o1 o2 o3 : Bool} {kt k2 : Nat} {pt2 : Pos}
abbrev kO (o : Bool) : Kd := if o = true then .new else .sh
theorem ds_par2 (hX : XG X) (hi : X.N[i]? = some x) (hj : X.N[j]? = some y) (hij : i ≠ j) (hx : X.env.scope.names.lookup x = some .local) (hy : X.env.scope.names.lookup y = some .local) (ha : DE X n.z n.W (kO o1) a fa) (hb : DE X n.z n.W (kO o2) b fb)
    (hw : swappedStores [.Tuple [.Name x px, .Name y py] kt pt] (.Tuple [a, b] k2 pt2) X.env = pure (some [x, y]) := by rfl) (hs : swapsWithSole [.Tuple [.Name x px, .Name y py] kt pt] (.Tuple [a, b] k2 pt2) pos.line X.env = pure false := by rfl)
    (s1 : starEach [a, b] X.env = (false, eval a X.env) :: starEach [b] X.env := by rfl) (s2 : starEach [b] X.env = (false, eval b X.env) :: starEach [] X.env := by rfl) :
    DS X n (.Assign [.Tuple [.Name x px, .Name y py] kt pt] (.Tuple [a, b] k2 pt2) pos) (sPar o1 o2 i j fa fb) := by
  refine ⟨fun pins s σ H D I ⟨ρ, g, Mu, S, hq⟩ => ?_⟩
  refine (ps_par hX.calm hX.nd hi hj hij hx hy (pa_cons ha (pa_cons hb pa_nil s2) s1) hw hs).run pins s σ H D I ⟨ρ, g, Mu, S.env, S.g, R.all_imp (EW.x S (R.all_bind hq)) (fun d g1 hq v H1 e1 G2 k1 => ?_) fun _ _ _ _ h => h⟩
  obtain ⟨M1, S1⟩ := S.push e1 G2 o1 rfl k1
  refine ⟨ρ, g1, M1, S1.env.pre S.env.len, S1.g, R.all_imp (EW.x (S1.pre S.env.len) (R.all_bind hq)) (fun d' g2 hq v' H2 e2 G3 k2 => ?_) fun _ _ _ _ h => h⟩
  · obtain ⟨M2, S2⟩ := S1.push e2 G3 o2 rfl k2
    refine ⟨v, v', rfl, ?_⟩
    have li : i < σ.length := by rw [I.len]; exact (List.getElem?_eq_some_iff.mp hi).1
    have lj : j < σ.length := by rw [I.len]; exact (List.getElem?_eq_some_iff.mp hj).1
    have T1 := SOk.pop j S1.env.len S2
    rw [List.set_append_left _ _ lj, List.set_append_left _ _ (S.env.len ▸ lj)] at T1
    have T2 := SOk.pop i (by rw [List.length_set, List.length_set]; exact S.env.len) T1
    rw [List.set_comm _ _ hij]
    exact hq _ H2 M2 T2
/-- a, b, c = .. -/
def sPar3 (o1 o2 o3 : Bool) (i j l : Nat) (f1 f2 f3 : Ep) : Ss := fun ρ => do
  let d ← f1 ρ
  let d' ← f2 ρ
  let d'' ← f3 ρ
  M.pure (.nx (((ρ.set l (some (o3 && d''.box, d''))).set j (some (o2 && d'.box, d'))).set i (some (o1 && d.box, d))))
theorem ds_par3 (hX : XG X) (hi : X.N[i]? = some x) (hj : X.N[j]? = some y) (hl : X.N[l]? = some w) (hij : i ≠ j) (hil : i ≠ l) (hjl : j ≠ l) (hx : X.env.scope.names.lookup x = some .local) (hy : X.env.scope.names.lookup y = some .local) (hz : X.env.scope.names.lookup w = some .local)
    (ha : DE X n.z n.W (kO o1) a fa) (hb : DE X n.z n.W (kO o2) b fb) (hc : DE X n.z n.W (kO o3) c fc)
    (hw : swappedStores [.Tuple [.Name x px, .Name y py, .Name w pq] kt pt] (.Tuple [a, b, c] k2 pt2) X.env = pure (some [x, y, w]) := by rfl) (hs : swapsWithSole [.Tuple [.Name x px, .Name y py, .Name w pq] kt pt] (.Tuple [a, b, c] k2 pt2) pos.line X.env = pure false := by rfl)
    (s1 : starEach [a, b, c] X.env = (false, eval a X.env) :: starEach [b, c] X.env := by rfl) (s2 : starEach [b, c] X.env = (false, eval b X.env) :: starEach [c] X.env := by rfl) (s3 : starEach [c] X.env = (false, eval c X.env) :: starEach [] X.env := by rfl) :
    DS X n (.Assign [.Tuple [.Name x px, .Name y py, .Name w pq] kt pt] (.Tuple [a, b, c] k2 pt2) pos) (sPar3 o1 o2 o3 i j l fa fb fc) := by
  refine ⟨fun pins s σ H D I ⟨ρ, g, Mu, S, hq⟩ => ?_⟩
  refine (ps_par3 hX.calm hX.nd hi hj hl hij hil hjl hx hy hz (pa_cons ha (pa_cons hb (pa_cons hc pa_nil s3) s2) s1) hw hs).run pins s σ H D I ⟨ρ, g, Mu, S.env, S.g, R.all_imp (EW.x S (R.all_bind hq)) (fun d g1 hq v H1 e1 G2 k1 => ?_) fun _ _ _ _ h => h⟩
  obtain ⟨M1, S1⟩ := S.push e1 G2 o1 rfl k1
  refine ⟨ρ, g1, M1, S1.env.pre S.env.len, S1.g, R.all_imp (EW.x (S1.pre S.env.len) (R.all_bind hq)) (fun d' g2 hq v' H2 e2 G3 k2 => ?_) fun _ _ _ _ h => h⟩
  obtain ⟨M2, S2⟩ := S1.push e2 G3 o2 rfl k2
  have S2' := SOk.pre S1.env.len S2
  refine ⟨ρ, g2, M2, S2'.env.pre S.env.len, S2.g, R.all_imp (EW.x (S2'.pre S.env.len) (R.all_bind hq)) (fun d'' g3 hq v'' H3 e3 G4 k3 => ?_) fun _ _ _ _ h => h⟩
  obtain ⟨M3, S3⟩ := S2.push e3 G4 o3 rfl k3
  refine ⟨v, v', v'', rfl, ?_⟩
  have li : i < σ.length := by rw [I.len]; exact (List.getElem?_eq_some_iff.mp hi).1
  have lj : j < σ.length := by rw [I.len]; exact (List.getElem?_eq_some_iff.mp hj).1
  have ll : l < σ.length := by rw [I.len]; exact (List.getElem?_eq_some_iff.mp hl).1
  have el := S.env.len
  have T1 := SOk.pop l S2.env.len S3
  have ll1 : l < (σ ++ [some v]).length := by rw [List.length_append]; omega
  have ll2 : l < (ρ ++ [some (o1 && d.box, d)]).length := by rw [List.length_append]; omega
  rw [List.set_append_left _ _ ll1, List.set_append_left _ _ ll2, List.set_append_left _ _ ll, List.set_append_left _ _ (el ▸ ll)] at T1
  have T2 := SOk.pop j (by rw [List.length_append, List.length_append, List.length_set, List.length_set, el]; rfl) T1
  rw [List.set_append_left _ _ (by rw [List.length_set]; exact lj), List.set_append_left _ _ (by rw [List.length_set, el]; exact lj)] at T2
  have T3 := SOk.pop i (by rw [List.length_set, List.length_set, List.length_set, List.length_set]; exact el) T2
  have ec : ((σ.set i (some v)).set j (some v')).set l (some v'') = ((σ.set l (some v'')).set j (some v')).set i (some v) := by
    rw [List.set_comm _ _ hjl, List.set_comm _ _ hil, List.set_comm _ _ hij]
  rw [ec]
  exact hq _ H3 M3 T3
/-- a target that is no plain name, a value that is shared -/
def sAsg (f : Ep) (t : D → Env → Option Env) : Ss := fun ρ => do
  let d ← f ρ
  let ρ' ← ofOpt (t d ρ)
  M.pure (.nx ρ')
theorem ds_asg {tg : Expr} {gt : TG} {t : D → Env → Option Env} {is : List Nat} (he : DE X n.z n.W .sh e fa) (hg : TgOk X n.z tg gt t is) (hs : swapsWithSole [tg] e pos.line X.env = pure false := by rfl) (hw : swappedStores [tg] e X.env = pure none := by rfl)
    (h1 : (assignEach [tg] X.env).map (·.2) = [assign tg X.env] := by rfl) : DS X n (.Assign [tg] e pos) (sAsg fa t) := by
  refine ⟨fun pins s σ H D I ⟨ρ, g, Mu, S, hq⟩ => ?_⟩
  refine (ps_asg he hg.pg hs hw h1).run pins s σ H D I ⟨ρ, g, Mu, S.env, S.g, R.all_imp (EW.x S (R.all_bind hq)) (fun d g1 hq v H1 e1 G2 k1 => ?_) fun _ _ _ _ h => h⟩
  obtain ⟨ρ', ht, hq⟩ := R.all_opt (R.all_bind hq)
  have S1 := S.step e1 G2
  exact hg.ok v d σ H1 ρ ρ' Mu _ S1.env k1 ht fun σ' E' T' => hq σ' H1 Mu (S1.tch E' T')
end
end DL
set_option Elab.async false
set_option linter.all false
set_option maxRecDepth 100000
set_option maxHeartbeats 2000000
/-! The value layer, part 16: the state of the draws, looked at and changed. -/
namespace DL
open PySem PySem.Spec PyProof.Rows L2

/-- the parameter that holds the state -/
def tSt (X : Cx) (z : Zt) (i : Nat) (key : Str) : TE := fun σ H Q => ∃ ρ g Mu v, EnvOk X.K X.mg z Mu H σ ρ ∧ GOk z H g ∧ shAt ρ i = some .st ∧ valV (stK z g) (.inr key : Key) = some v ∧ Q v H
theorem Rep.st_inv {K : PySem.W.Frag} {mg : Str → Option Value} {z : Zt} {Mu : List Addr} {H : Hp} {v : V} (r : Rep K mg z Mu H v .st) : v = .ref z.p := by cases r; rfl
theorem EnvOk.stAt {K : PySem.W.Frag} {mg : Str → Option Value} {z : Zt} {Mu : List Addr} {H : Hp} {σ : L2.St} {ρ : Env} {i : Nat} (E : EnvOk K mg z Mu H σ ρ) (h : shAt ρ i = some .st) : σ[i]? = some (some (.ref z.p)) := by
  obtain ⟨v, hv, r⟩ := E.val i false .st (shAt_some h)
  rw [hv, Rep.st_inv r]
section
variable {X : Cx} {z : Zt} {W : WX} {k ka kb : Kd} {e a b : Expr} {f fa fb : Ep} {i j m : Nat} {s key : Str} {p1 p2 p3 p4 p5 pos : Pos}
theorem pe_st (hX : XG X) (h : PE X (.Name s p1) (tVar i)) (hs : NoSl (.Constant (.str key) j p2) := by exact fun _ _ => rfl) : PE X (.Subscript (.Name s p1) (.Constant (.str key) j p2) pos) (tSt X z i key) := by
  have hu : X.A.units + 1 < cLine := by have := hX.room.un; omega
  refine ⟨fun pins s σ H Q I ⟨ρ, g, Mu, v, E, G1, hr, hv, q⟩ => ?_⟩
  refine (pe_dget hu h pe_str hs).run pins s σ H Q I ⟨_, E.stAt hr, ?_⟩
  refine ⟨z.p, v, rfl, ?_, q⟩
  have w := DGet.k (k := (.inr key : Key)) G1.p
  rw [hv] at w
  exact w
def onSt {α : Type} (i : Nat) (f : M α) (ρ : Env) : M α := match shAt ρ i with
  | some .st => f
  | _ => stuck
theorem all_onSt {α : Type} {i : Nat} {f : M α} {ρ : Env} {g : G} {P : α → G → Prop} {E : Str → Str → List D → G → Prop} (h : (onSt i f ρ g).all P E) : shAt ρ i = some .st ∧ (f g).all P E := by
  unfold onSt at h
  cases q : shAt ρ i with
  | none => rw [q] at h; exact h.elim
  | some d => rw [q] at h; cases d <;> first | exact ⟨rfl, h⟩ | exact h.elim
def eStL (i : Nat) : Ep := onSt i fun g => .ok (.int g.left) g
def eStT (i : Nat) : Ep := onSt i fun g => .ok (.int g.turn) g
theorem de_stL (hX : XG X) (h : PE X (.Name s p1) (tVar i)) : DE X z W .new (.Subscript (.Name s p1) (.Constant (.str "left") j p2) pos) (eStL i) :=
  de_of (pe_st hX h) fun σ H ρ g Mu Q E G1 hx => by
    obtain ⟨hs, hx⟩ := all_onSt hx
    exact ⟨ρ, g, Mu, .int g.left, E, G1, hs, rfl, hx _ H Ext.refl G1 RK.int⟩
theorem de_stT (hX : XG X) (h : PE X (.Name s p1) (tVar i)) : DE X z W .new (.Subscript (.Name s p1) (.Constant (.str "turn") j p2) pos) (eStT i) :=
  de_of (pe_st hX h) fun σ H ρ g Mu Q E G1 hx => by
    obtain ⟨hs, hx⟩ := all_onSt hx
    exact ⟨ρ, g, Mu, .int g.turn, E, G1, hs, rfl, hx _ H Ext.refl G1 RK.int⟩
/-- a list of numbers that is not empty -/
def rNeNil : R2 := fun x y H Q => ∃ a b, ∃ ns : List Int, x = .ref a ∧ y = .ref b ∧ H a = some (.lst (ns.map V.int)) ∧ H b = some (.lst []) ∧ ns.length ≤ sizeLine ∧ Q (.bl (decide (ns ≠ []))) H
theorem pys_ints : ∀ ns : List Int, D.pys (ns.map D.int) = some (ns.map PyData.int)
  | [] => by rw [List.map_nil, D.pys]; rfl
  | n :: ns => by rw [List.map_cons, D.pys, D.py, pys_ints ns]; rfl
theorem ints_lay : ∀ ns : List Int, PyData.canLayAll0 (ns.map PyData.int) = true
  | [] => by simp [PyData.canLayAll0]
  | n :: ns => by simp [PyData.canLayAll0, PyData.canLay0, ints_lay ns]
theorem ints_depth : ∀ ns : List Int, PyData.depthAll (ns.map PyData.int) = 0
  | [] => by simp [PyData.depthAll]
  | n :: ns => by simp [PyData.depthAll, PyData.depth, ints_depth ns]
theorem ints_shaped (ns : List Int) : SeqAt.shaped (.list (ns.map PyData.int)) = true := by
  unfold SeqAt.shaped
  rw [Bool.and_eq_true, decide_eq_true_eq]
  refine ⟨by rw [PyData.canLay0]; exact ints_lay ns, ?_⟩
  rw [PyData.depth, ints_depth]
  omega
theorem op_neNil (hX : XG X) : OpR X (compareOp .NotEq) rNeNil := by
  intro pins s σ H x y v u Q I rx ry ⟨a, b, ns, ex, ey, ha, hb, _, q⟩
  subst ex ey
  have r1 : Rep X.K X.mg ⟨0, 0, 0, []⟩ [] H (.ref a) (.lst (ns.map D.int)) := .lst (by simp) ha (Reps.ints ns)
  have r2 : Rep X.K X.mg ⟨0, 0, 0, []⟩ [] H (.ref b) (.lst []) := .lst (by simp) hb .nil
  obtain ⟨as, h1⟩ := r1.reads I rx (py_of_lst (pys_ints ns))
  obtain ⟨bs, h2⟩ := r2.reads I ry (py_of_lst (l := []) (xs := []) (pys_ints []))
  refine ne_dataH h1 h2 (ints_shaped ns) (ints_shaped []) hX.eq ⟨.bl _, H, I, rfl, ?_⟩
  have e : (!PyData.eqv (.list (ns.map PyData.int)) (.list [])) = decide (ns ≠ []) := by
    cases ns with
    | nil => decide +kernel
    | cons n ns =>
      rw [List.map_cons]
      simp [PyData.eqv, PyData.eqvAll]
  rw [e]
  exact q
def tLsNe (i : Nat) (l : G → List Int) : Et := onSt i fun g => .ok (decide (l g ≠ [])) g
theorem dt_lsNe {l : G → List Int} {p : Zt → Addr} (hX : XG X) (hp : ∀ H g, GOk z H g → H (p z) = some (.lst ((l g).map V.int))) (hk : ∀ g, valV (stK z g) (.inr key : Key) = some (.ref (p z))) (h : PE X (.Name s p1) (tVar i)) :
    DT X z W (.Compare (.Subscript (.Name s p1) (.Constant (.str key) j p2) p3) [.NotEq] [.List [] p4] pos) (tLsNe i l) := by
  refine ⟨fun pins s σ H Q I ⟨ρ, g, Mu, E, G1, hx⟩ => ?_⟩
  obtain ⟨hs, hx⟩ := all_onSt hx
  refine (pt_cmpR (op_neNil hX) (pe_st (z := z) hX h) (pe_lst pa_nil) (nomark _)).run pins s σ H Q I ⟨ρ, g, Mu, _, E, G1, hs, hk g, by decide, fun b hb => ?_⟩
  have hl := hp H g G1
  have sm : Same H (upd H b (.lst [])) := same_upd' hb
  have hz : (l g).length ≤ sizeLine := by
    have w := (I.hok _ _ hl).1
    rw [List.length_map] at w
    exact w
  exact ⟨p z, b, l g, rfl, rfl, sm _ _ hl, upd_same, hz, _, rfl, hx _ (Ext.of sm) (G1.same sm)⟩
theorem dt_large (hX : XG X) (h : PE X (.Name s p1) (tVar i)) : DT X z W (.Compare (.Subscript (.Name s p1) (.Constant (.str "large") j p2) p3) [.NotEq] [.List [] p4] pos) (tLsNe i (·.large)) :=
  dt_lsNe (p := fun z => z.l) hX (fun _ _ G1 => G1.l) (fun _ => rfl) h
theorem dt_cells (hX : XG X) (h : PE X (.Name s p1) (tVar i)) : DT X z W (.Compare (.Subscript (.Name s p1) (.Constant (.str "cells") j p2) p3) [.NotEq] [.List [] p4] pos) (tLsNe i (·.cells)) :=
  dt_lsNe (p := fun z => z.c) hX (fun _ _ G1 => G1.c) (fun _ => rfl) h
def eCellLen (i : Nat) : Ep := onSt i fun g => .ok (.int g.cells.length) g
theorem de_cellLen (hX : XG X) (hg : Gl X "len") (hm : X.mg "len" = none) (h : PE X (.Name s p1) (tVar i)) : DE X z W .new (.Call (.Name "len" p3) [.Subscript (.Name s p1) (.Constant (.str "cells") j p2) p4] [] pos) (eCellLen i) :=
  de_of (pe_callB call_len hg hm rfl (pa_cons (pe_st (z := z) hX h) pa_nil)) fun σ H ρ g Mu Q E G1 hx => by
    obtain ⟨hs, hx⟩ := all_onSt hx
    refine ⟨ρ, g, Mu, .ref z.c, E, G1, hs, rfl, _, g.cells.length, rfl, .inl ⟨_, SqL.of G1.c, by rw [List.length_map]⟩, hx _ H Ext.refl G1 RK.int⟩
def eCellIx (i : Nat) (fb : Ep) : Ep := fun ρ => onSt i (do
  let d ← fb ρ
  match d with
  | .int k => fun g => match L2.atI g.cells k with
    | some c => .ok (.int c) g
    | none => .stuck
  | _ => stuck) ρ
theorem de_cellIx (hX : XG X) (h : PE X (.Name s p1) (tVar i)) (hb : DE X z W kb b fb) (hs : PlainIx b := by exact fun _ _ => rfl) : DE X z W .new (.Subscript (.Subscript (.Name s p1) (.Constant (.str "cells") j p2) p4) b pos) (eCellIx i fb) :=
  de_of (pe_ix ix_list (pe_st (z := z) hX h) hb hs) fun σ H ρ g Mu Q E G1 hx => by
    obtain ⟨hs, hx⟩ := all_onSt hx
    refine ⟨ρ, g, Mu, .ref z.c, E, G1, hs, rfl, ρ, g, Mu, E, G1, R.all_imp (R.all_bind hx) (fun d g1 hx v H1 e1 G2 k1 => ?_) fun _ _ _ _ h => h⟩
    cases d with
    | int n =>
      have e := (k1.peek E.mu (E.mu.ext (g := g) e1 G2) G2).int
      subst e
      dsimp only at hx
      cases q : L2.atI g1.cells n with
      | none => rw [q] at hx; exact hx.elim
      | some c =>
        rw [q] at hx
        refine ⟨z.c, _, n, .int c, rfl, rfl, SqL.of G2.c, ?_, hx _ H1 e1 G2 RK.int⟩
        unfold L2.atI at q ⊢
        rw [List.length_map]
        cases w : ixN g1.cells.length n with
        | none => rw [w] at q; cases q
        | some t =>
          rw [w] at q
          have q : g1.cells[t]? = some c := q
          show (g1.cells.map V.int)[t]? = _
          rw [List.getElem?_map, q]
          rfl
    | _ => exact hx.elim
def ePopL (i : Nat) : Ep := onSt i fun g => match g.large with
  | x :: xs => .ok (.int x) { g with large := xs }
  | [] => .stuck
theorem de_popL (hX : XG X) (h : PE X (.Name s p1) (tVar i)) (hbase : attributeBase (.Subscript (.Name s p1) (.Constant (.str "large") j p2) p4) "pop" X.env (eval (.Subscript (.Name s p1) (.Constant (.str "large") j p2) p4) X.env) = eval (.Subscript (.Name s p1) (.Constant (.str "large") j p2) p4) X.env := by rfl)
    (hfew : ((backTo pos (starEach [.Constant (.int 0) m p5] X.env)).all (fun x => !x.1) && (backToKw pos (keywordEach [] X.env)).all (fun x => x.1.isSome)
      && decide ([Expr.Constant (.int 0) m p5].length + ([] : List Keyword).length + (if ([] : List Keyword).isEmpty then 0 else 1) < 30)) = true := by rfl) (hline : (p3.endLine == pos.line) = true := by rfl) (hs : starEach [.Constant (.int 0) m p5] X.env = (false, eval (.Constant (.int 0) m p5) X.env) :: starEach [] X.env := by rfl) (hplain : (backTo pos (starEach [] X.env)).any (·.1) = false := by rfl) :
    DE X z W .new (.Call (.Attribute (.Subscript (.Name s p1) (.Constant (.str "large") j p2) p4) "pop" p3) [.Constant (.int 0) m p5] [] pos) (ePopL i) :=
  de_of (pe_bm PySem.F.plainAttrs_list PySem.F.slot_list_pop PySem.F.type_list_pop mt_popAt (pe_st (z := z) hX h) (pa_cons pe_int pa_nil) hbase hfew hline hs hplain) fun σ H ρ g Mu Q E G1 hx => by
    obtain ⟨hs, hx⟩ := all_onSt hx
    cases q : g.large with
    | nil => rw [q] at hx; exact hx.elim
    | cons x xs =>
      rw [q] at hx
      have hl := G1.l
      rw [q, List.map_cons] at hl
      refine ⟨ρ, g, Mu, .ref z.l, E, G1, hs, rfl, .inl ⟨rfl, _, SqL.of hl⟩, z.l, _, 0, 0, .int x, rfl, rfl, hl, by decide, by decide, seqIndex?_zero (by rw [List.length_cons]; omega), rfl, ?_⟩
      refine hx _ _ ⟨fun b u q _ h1 h2 => by rw [upd_ne h2]; exact q⟩ ⟨by rw [upd_ne (Ne.symm G1.pl.symm)]; exact G1.p, upd_same, by rw [upd_ne G1.ne.symm]; exact G1.c, G1.ne, fun t ht => ?_⟩ RK.int
      obtain ⟨ps, h1, h2, h3⟩ := G1.tb t ht
      refine ⟨ps, by rw [upd_ne (fun w => by rw [w, hl] at h1; cases h1)]; exact h1, h2, fun p v hv => ?_⟩
      obtain ⟨c, e1, e2⟩ := h3 p v hv
      exact ⟨c, e1, by rw [upd_ne (fun w => by rw [w, hl] at e2; cases e2)]; exact e2⟩
end
section
variable {X : Cx} {n : En} {k : Kd} {e : Expr} {f : Ep} {i j : Nat} {s : Str} {p1 p2 p3 pos : Pos}
theorem GOk.put {z : Zt} {H : Hp} {g g' : G} (G1 : GOk z H g) (hl : g'.large = g.large) (hc : g'.cells = g.cells) : GOk z (upd H z.p (.dK (stK z g'))) g' ∧ Ext z H (upd H z.p (.dK (stK z g'))) := by
  refine ⟨⟨upd_same, by rw [upd_ne G1.pl.symm, hl]; exact G1.l, by rw [upd_ne G1.pc.symm, hc]; exact G1.c, G1.ne, fun t ht => ?_⟩, ⟨fun b u q _ h1 _ => by rw [upd_ne h1]; exact q⟩⟩
  have hp := G1.p
  obtain ⟨ps, h1, h2, h3⟩ := G1.tb t ht
  refine ⟨ps, by rw [upd_ne (fun w => by rw [w, hp] at h1; cases h1)]; exact h1, h2, fun p v hv => ?_⟩
  obtain ⟨c, e1, e2⟩ := h3 p v hv
  exact ⟨c, e1, by rw [upd_ne (fun w => by rw [w, hp] at e2; cases e2)]; exact e2⟩
def sSt (i : Nat) (u : G → Int → G) (f : Ep) : Ss := fun ρ => do
  let d ← f ρ
  onSt i (match d with
    | .int v => fun g => .ok (.nx ρ) (u g v)
    | _ => stuck) ρ
theorem ds_st {key : Str} {u : G → Int → G} (hX : XG X) (hput : ∀ z g v, putK (stK z g) (.inr key : Key) (.int v) = stK z (u g v)) (hl : ∀ g v, (u g v).large = g.large) (hc : ∀ g v, (u g v).cells = g.cells) (h : PE X (.Name s p1) (tVar i)) (he : DE X n.z n.W k e f)
    (hs : swapsWith e (some (.Subscript (.Name s p1) (.Constant (.str key) j p2) p3)) pos.line X.env = pure false := by rfl) : DS X n (.Assign [.Subscript (.Name s p1) (.Constant (.str key) j p2) p3] e pos) (sSt i u f) := by
  have hu : X.A.units + 1 < cLine := by have := hX.room.un; omega
  refine ⟨fun pins s σ H D I ⟨ρ, g, Mu, S, hq⟩ => ?_⟩
  refine (ps_dput hu h pe_str he hs).run pins s σ H D I ⟨ρ, g, Mu, S.env, S.g, R.all_imp (EW.x S (R.all_bind hq)) (fun d g1 hq v H1 e1 G2 k1 => ?_) fun _ _ _ _ h => h⟩
  obtain ⟨hs, hq⟩ := all_onSt hq
  have S1 := S.step e1 G2
  cases d with
  | int w =>
    have ev := (k1.peek S.env.mu S1.env.mu G2).int
    subst ev
    refine ⟨_, S1.env.stAt hs, n.z.p, _, rfl, DPut.k (kvs := stK n.z g1) (k := (.inr key : Key)) G2.p (by show 4 < sizeLine; rw [sizeLine_eq]; decide), ?_⟩
    obtain ⟨G3, e3⟩ := G2.put (hl g1 w) (hc g1 w)
    rw [hput]
    exact hq σ _ Mu (S1.step e3 G3)
  | _ => exact hq.elim
def uL (g : G) (v : Int) : G := { g with left := v }
def uT (g : G) (v : Int) : G := { g with turn := v }
theorem ds_stL (hX : XG X) (h : PE X (.Name s p1) (tVar i)) (he : DE X n.z n.W k e f) (hs : swapsWith e (some (.Subscript (.Name s p1) (.Constant (.str "left") j p2) p3)) pos.line X.env = pure false := by rfl) :
    DS X n (.Assign [.Subscript (.Name s p1) (.Constant (.str "left") j p2) p3] e pos) (sSt i uL f) := ds_st hX (fun _ _ _ => rfl) (fun _ _ => rfl) (fun _ _ => rfl) h he hs
theorem ds_stT (hX : XG X) (h : PE X (.Name s p1) (tVar i)) (he : DE X n.z n.W k e f) (hs : swapsWith e (some (.Subscript (.Name s p1) (.Constant (.str "turn") j p2) p3)) pos.line X.env = pure false := by rfl) :
    DS X n (.Assign [.Subscript (.Name s p1) (.Constant (.str "turn") j p2) p3] e pos) (sSt i uT f) := ds_st hX (fun _ _ _ => rfl) (fun _ _ => rfl) (fun _ _ => rfl) h he hs
end
end DL
set_option Elab.async false
set_option linter.all false
set_option maxRecDepth 100000
set_option maxHeartbeats 2000000
/-! The value layer, part 17: what the top has written, by names; calls of defs by names; defs that make lambdas. -/
namespace DL
open PySem PySem.Spec PyProof.Rows L2

theorem XG.blk {X : Cx} {s : Shared} {H : Hp} {scope : Scope} {ce : PySem.Env} {fp : List Addr} (h : XG X) : XG (X.blk s H scope ce fp) := ⟨h.calm, h.room, h.nd⟩
theorem XG.lam {X : Cx} {A : Around} {outer : List PySem.Env} {s : Shared} {H : Hp} {E : XK} {scope : Scope} {f c' : Addr} {k : Nat} (h : XG X) (hr : Room k (A.deeper (LamX.lamEnv X scope s.heap.objs.size f c'))) : XG (LamX.lamCx X A outer s H E scope f c') := ⟨rfl, hr.mono (Nat.zero_le _), h.nd⟩

abbrev FDn (name : Str) (st : Stmt) (kV dc pm : Value) (an : Option Addr) (cd ct : Value) : FuncData := PySem.W.fnOf name name (defArgs st) (defBody st) (defScope st) .none kV dc pm an cd ct
/-- the def st stands under its name -/
def IsFn (K : PySem.W.Frag) (mg : Str → Option Value) (name : Str) (st : Stmt) : Prop := ∃ (f : Addr) (oc : Value) (od : Option Addr) (kV dc pm : Value) (an : Option Addr) (cd ct : Value) (sl : Array (Option Value)),
  mg name = some (.ref f) ∧ PySem.W.keepIn K (.ref f) = true ∧ K.lookup f = some ⟨oc, od, .func (FDn name st kV dc pm an cd ct), sl⟩ ∧ PySem.W.codeIn K cd name = true
/-- what a def of the name promises -/
def Cal (gd : Bool) (P : Program) (w : World) (K : PySem.W.Frag) (mg : Str → Option Value) (base : Heap) (T : List (Addr × Str)) (k : Nat) (name : Str) (st : Stmt) (ps : List Str) (kr : Kd) (cf : List D → M D) : Prop :=
  ∃ (f : Addr) (kV dc pm : Value) (an : Option Addr) (cd ct : Value), mg name = some (.ref f) ∧ PySem.W.keepIn K (.ref f) = true ∧ DFn gd P w K mg base T k f (FDn name st kV dc pm an cd ct) ps kr cf
/-- how the arguments are bound, of a def's text -/
def BindsT (name : Str) (st : Stmt) (ps : List Str) : Prop := ∀ (kV dc pm : Value) (an : Option Addr) (cd ct : Value) (us : List Value), us.length = ps.length → bindArgs (FDn name st kV dc pm an cd ct) ⟨us, []⟩ = pure (ps.zip us)
def KBindsT (name : Str) (st : Stmt) (ps ks : List Str) (pm : List Nat) (m : Nat) : Prop := ∀ (kV dc pmv : Value) (an : Option Addr) (cd ct : Value) (us ws : List Value), us.length = m → ws.length = ks.length → bindArgs (FDn name st kV dc pmv an cd ct) ⟨us, ks.zip ws⟩ = pure (ps.zip (pick pm (us ++ ws))) ∧ (pick pm (us ++ ws)).length = ps.length
section
variable {gd : Bool} {P : Program} {w : World} {K : PySem.W.Frag} {mg : Str → Option Value} {base : Heap} {T : List (Addr × Str)} {k : Nat} {name : Str} {st : Stmt} {N ps : List Str} {kr : Kd} {t : Ss} {cf : List D → M D}
theorem cal_of (F : IsFn K mg name st) (S : FnScope N ps (defScope st))
    (hbody : ∀ (f : Addr) (cdv : Value) (A : Around) (outer : List PySem.Env) (s : Shared) (H : Hp) (E : XK) (n : En), XG (cxOf (L2.CX P w) P w K mg base N name (defScope st) f cdv A outer s H E) → Room k (A.deeper (envOfC name (defScope st) s.heap.objs.size f cdv)) →
      Takes (cxOf (L2.CX P w) P w K mg base N name (defScope st) f cdv A outer s H E) n.W → (gd = true → A.guards = some []) → n.k = kr → n.z.T = T → DSs (cxOf (L2.CX P w) P w K mg base N name (defScope st) f cdv A outer s H E) n (defBody st) t) (hcf : cf = fnB t N.length := by rfl) :
    Cal gd P w K mg base T (k + 1) name st ps kr cf := by
  obtain ⟨f, oc, od, kV, dc, pm, an, cd, ct, sl, h1, h2, h3, h4⟩ := F
  subst hcf
  exact ⟨f, kV, dc, pm, an, cd, ct, h1, h2, dfn_of h3 h4 S fun A outer s H E n hX hr tk hg hk hT => hbody f cd A outer s H E n hX hr tk hg hk hT⟩
theorem Cal.imp {cf' : List D → M D} (C : Cal gd P w K mg base T k name st ps kr cf) (h : ∀ ds g, cf' ds g = .stuck ∨ cf ds g = cf' ds g) : Cal gd P w K mg base T k name st ps kr cf' := by
  obtain ⟨f, kV, dc, pm, an, cd, ct, h1, h2, F⟩ := C
  exact ⟨f, kV, dc, pm, an, cd, ct, h1, h2, F.imp h⟩
end
section
variable {gd : Bool} {X : Cx} {z : Zt} {W : WX} {j k : Nat} {st : Stmt} {ps ks : List Str} {kr : Kd} {cf : List D → M D} {x : Str} {p pos : Pos} {e : Expr} {es : List Expr} {fs gs : Es} {kws : List Keyword}
theorem de_cal (C : Cal gd X.prog X.w X.K X.mg X.base z.T j x st ps kr cf) (hb : BindsT x st ps) (hgd : gd = true → X.A.guards = some []) (tk : Takes X W) (hr : Room k X.A) (hj : j ≤ k) (hg : Gl X x) (ha : DAs X z W (e :: es) fs) (hal : AL fs ps.length)
    (hdb : (x == ("__debug__" : Str)) = false := by decide) (he : starEach (e :: es) X.env = (false, eval e X.env) :: starEach es X.env := by rfl) (hpl : (backTo pos (starEach es X.env)).any (·.1) = false := by rfl) :
    DE X z W kr (.Call (.Name x p) (e :: es) [] pos) (eCallF cf fs) := by
  obtain ⟨f, kV, dc, pm, an, cd, ct, h1, h2, F⟩ := C
  exact de_call hgd tk (F.mono hj) hr hg h1 h2 (.all (hb kV dc pm an cd ct)) ha hal hdb he hpl
theorem de_cal0 (C : Cal gd X.prog X.w X.K X.mg X.base z.T j x st [] kr cf) (hb : BindsT x st []) (hgd : gd = true → X.A.guards = some []) (tk : Takes X W) (hr : Room k X.A) (hj : j ≤ k) (hg : Gl X x)
    (hdb : (x == ("__debug__" : Str)) = false := by decide) : DE X z W kr (.Call (.Name x p) [] [] pos) (eCallF cf sNil) := by
  obtain ⟨f, kV, dc, pm, an, cd, ct, h1, h2, F⟩ := C
  exact de_call0 hgd tk (F.mono hj) hr hg h1 h2 (.all (hb kV dc pm an cd ct)) hdb
theorem de_calP (C : Cal gd X.prog X.w X.K X.mg X.base z.T j x st ps kr cf) (hb : BindsT x st ps) (hgd : gd = true → X.A.guards = some []) (tk : Takes X W) (hr : Room k X.A) (hj : j ≤ k) (hg : Gl X x) (ha : DA X z W (e :: es) fs) (hal : AL fs ps.length)
    (hdb : (x == ("__debug__" : Str)) = false := by decide) (he : starEach (e :: es) X.env = (false, eval e X.env) :: starEach es X.env := by rfl) (hpl : (backTo pos (starEach es X.env)).any (·.1) = false := by rfl) :
    DE X z W .new (.Call (.Name x p) (e :: es) [] pos) (eCallP cf fs) := by
  obtain ⟨f, kV, dc, pm, an, cd, ct, h1, h2, F⟩ := C
  exact de_callP hgd tk (F.mono hj) hr hg h1 h2 (.all (hb kV dc pm an cd ct)) ha hal hdb he hpl
theorem kb_of {K : PySem.W.Frag} {kV dc pmv : Value} {an : Option Addr} {cd ct : Value} {pm : List Nat} {m : Nat} (hb : KBindsT x st ps ks pm m) : KB K (FDn x st kV dc pmv an cd ct) ps ks pm m := fun s us ws _ h1 h2 =>
  ⟨.of_eq (hb kV dc pmv an cd ct us ws h1 h2).1, (hb kV dc pmv an cd ct us ws h1 h2).2⟩
theorem de_calK0 {pm : List Nat} (C : Cal gd X.prog X.w X.K X.mg X.base z.T j x st ps kr cf) (hb : KBindsT x st ps ks pm 0) (hgd : gd = true → X.A.guards = some []) (tk : Takes X W) (hr : Room k X.A) (hj : j ≤ k) (hg : Gl X x) (hkw : DK X z W kws gs) (hal : AL gs ks.length)
    (hall : (backToKw pos (keywordEach kws X.env)).all (·.1.isSome) = true := by rfl) (hks : (backToKw pos (keywordEach kws X.env)).filterMap (·.1) = ks := by rfl)
    (hdb : (x == ("__debug__" : Str)) = false := by decide) (hpl : ((backTo pos (starEach [] X.env)).any (·.1) || (backToKw pos (keywordEach kws X.env)).any (·.1.isNone)) = false := by rfl) :
    DE X z W kr (.Call (.Name x p) [] kws pos) (eCallK cf pm sNil gs) := by
  obtain ⟨f, kV, dc, pmv, an, cd, ct, h1, h2, F⟩ := C
  exact de_callK0 hgd tk (F.mono hj) hr hg h1 h2 (kb_of hb) hkw hal hall hks hdb hpl
theorem de_calK {pm : List Nat} {m : Nat} (C : Cal gd X.prog X.w X.K X.mg X.base z.T j x st ps kr cf) (hb : KBindsT x st ps ks pm m) (hgd : gd = true → X.A.guards = some []) (tk : Takes X W) (hr : Room k X.A) (hj : j ≤ k) (hg : Gl X x) (ha : DAs X z W (e :: es) fs) (hal0 : AL fs m) (hkw : DK X z W kws gs) (hal : AL gs ks.length)
    (hall : (backToKw pos (keywordEach kws X.env)).all (·.1.isSome) = true := by rfl) (hks : (backToKw pos (keywordEach kws X.env)).filterMap (·.1) = ks := by rfl)
    (hdb : (x == ("__debug__" : Str)) = false := by decide) (he : starEach (e :: es) X.env = (false, eval e X.env) :: starEach es X.env := by rfl)
    (hpl : ((backTo pos (starEach (e :: es) X.env)).any (·.1) || (backToKw pos (keywordEach kws X.env)).any (·.1.isNone)) = false := by rfl) :
    DE X z W kr (.Call (.Name x p) (e :: es) kws pos) (eCallK cf pm fs gs) := by
  obtain ⟨f, kV, dc, pmv, an, cd, ct, h1, h2, F⟩ := C
  exact de_callK hgd tk (F.mono hj) hr hg h1 h2 (kb_of hb) ha hal0 hkw hal hall hks hdb he hpl
end

/-! ### exception classes -/
structure ExcF (K : PySem.W.Frag) (C : Addr) : Prop where
  x : PySem.W.excIn K C [.type "ValueError", .type "Exception", .type "BaseException", .type "object"] "ValueError.__new__" = true
  kp : PySem.W.keepIn K (.ref C) = true
  ty : PySem.W.typeIn K (.ref C) = some (.type "type")
  ec : ExcC K C
def IsExc (K : PySem.W.Frag) (mg : Str → Option Value) (c : Str) : Prop := ∃ C, mg c = some (.ref C) ∧ ExcF K C
theorem ds_raiseC {X : Cx} {n : En} {x m : Str} {j : Nat} {p p2 pos pos2 : Pos} (hX : XG X) (tk : Takes X n.W) (F : IsExc X.K X.mg x) (hg : Gl X x) (hdb : (x == ("__debug__" : Str)) = false := by decide) :
    DS X n (.Raise (some (.Call (.Name x p) [.Constant (.str m) j p2] [] pos)) none pos2) (sRaise x) := by
  obtain ⟨C, h1, h2⟩ := F
  exact ds_raise hX tk PySem.F.excBase_ValueError h2.x h1 h2.kp (raises_own h2.ec.hs h2.ty) hg hdb
/-- a class of the text as a value -/
theorem de_cls {X : Cx} {z : Zt} {W : WX} {x : Str} {pos : Pos} (F : IsExc X.K X.mg x) (hg : Gl X x) (hd : (x == ("__debug__" : Str)) = false := by decide) : DE X z W .new (.Name x pos) (eC (.fn x)) := by
  obtain ⟨C, h1, h2⟩ := F
  exact de_glob_fn hg h1 hd
def IsInt (mg : Str → Option Value) (x : Str) (i : Int) : Prop := ∃ t, mg x = some (.int i t)
theorem de_gint {X : Cx} {z : Zt} {W : WX} {x : Str} {i : Int} {pos : Pos} (F : IsInt X.mg x i) (hg : Gl X x) (hd : (x == ("__debug__" : Str)) = false := by decide) : DE X z W .new (.Name x pos) (eC (.int i)) := by
  obtain ⟨t, h1⟩ := F
  exact de_glob_int hg h1 hd
def subOf (tbl : List (Str × Str × Bool)) (c c' : Str) : Option Bool := (tbl.find? fun t => t.1 == c && t.2.1 == c').map (·.2.2)
def IsiT (K : PySem.W.Frag) (mg : Str → Option Value) (t : Str × Str × Bool) : Prop := ∀ C C', mg t.1 = some (.ref C) → mg t.2.1 = some (.ref C') → ExcC K C ∧ PySem.W.kitOne K (.ref C) (.ref C') = some t.2.2
def IsiN (K : PySem.W.Frag) (mg : Str → Option Value) (c : Str) : Prop := ∀ C', mg c = some (.ref C') → ∀ t ∈ ["NoneType", "bool", "int", "str", "tuple", "list", "dict"], PySem.W.kitOne K (.type t) (.ref C') = some false
theorem isi_of {K : PySem.W.Frag} {mg : Str → Option Value} {tbl : List (Str × Str × Bool)} {cl : List Str} (h1 : ∀ t ∈ tbl, IsiT K mg t) (h2 : ∀ c ∈ cl, IsiN K mg c) : IsiOk K mg (subOf tbl) (fun c => cl.contains c) := by
  refine ⟨fun c c' b C C' h hC hC' => ?_, fun c' C' h hC => h2 c' (List.contains_iff_mem.mp h) C' hC⟩
  unfold subOf at h
  obtain ⟨t, ht, hb⟩ := Option.map_eq_some_iff.mp h
  have hm := List.mem_of_find?_eq_some ht
  have hp := List.find?_some ht
  rw [Bool.and_eq_true, beq_iff_eq, beq_iff_eq] at hp
  obtain ⟨rfl, rfl⟩ := hp
  subst hb
  exact h1 t hm C C' hC hC'
theorem kit_own {K : PySem.W.Frag} {C : Addr} {t : Value} {b : Bool} (hd : PySem.W.hasDictIn K C = true) (ht : PySem.W.typeIn K (.ref C) = some (.type "type")) (hn : (t == .ref C) = false) (hs : PySem.W.subIn K t (.ref C) = some b) : PySem.W.kitOne K t (.ref C) = some b := by
  unfold PySem.W.kitOne
  rw [hn]
  have hc : (PySem.W.clsIn K C).isSome = true := by
    obtain ⟨cd, hc, _⟩ := PySem.W.any_some hd
    rw [hc]; rfl
  unfold PySem.W.kitCls
  simp [hc, ht, hs]
end DL
set_option Elab.async false
set_option linter.all false
set_option maxRecDepth 100000
set_option maxHeartbeats 2000000
/-! The value layer, part 18: the end, with what is known of the caller; the first statement of the law. -/
namespace DL
open PySem PySem.Spec PyProof.Rows L2

abbrev tab0 : Obj := { cls := .none, data := .fields #[] }
section
variable {P : Program} {w : World} {K : PySem.W.Frag} {mg mb : Str → Option Value} {fa a : Addr} {cs : List (Addr × Addr)} {s : Shared} {vs : List Value} {ns : List Int}
/-- what is tracked at the start: the empty tables, the script (where it is none of the module's own objects) -/
structure Fst (K : PySem.W.Frag) (cs : List (Addr × Addr)) (a : Addr) (ob : Obj) (xs : List V) (H : Hp) : Prop where
  tb : ∀ p ∈ cs, H p.2 = some (.tbl #[])
  sc : SqL K H a xs
  only : ∀ b u, H b = some u → K.lookup b = none ∧ ((u = .tbl #[] ∧ b ∈ cs.map (·.2)) ∨ (b = a ∧ u = .frz ob (.lst xs)))
theorem fst_ex (KX : K.In s.heap) (hT : ∀ p ∈ cs, s.heap.get? p.2 = some tab0) (nT : ∀ p ∈ cs, K.lookup p.2 = none) (ha : s.heap.get? a = some { cls := .type "list", data := .seq vs.toArray }) (hi : IntsAre vs ns) (hl : ns.length ≤ sizeLine) :
    ∃ H : Hp, Fst K cs a { cls := .type "list", data := .seq vs.toArray } (ns.map V.int) H ∧ HOk P w H s.heap := by
  have rv := vals_ints hi
  have tabs : ∀ b, b ∈ cs.map (·.2) → s.heap.get? b = some tab0 ∧ K.lookup b = none := fun b hb => by
    obtain ⟨p, hp, rfl⟩ := List.mem_map.mp hb
    exact ⟨hT p hp, nT p hp⟩
  have mem : ∀ p ∈ cs, p.2 ∈ cs.map (·.2) := fun p hp => List.mem_map.mpr ⟨p, hp, rfl⟩
  have na : a ∉ cs.map (·.2) := fun h => by
    have q := (tabs a h).1
    rw [ha] at q
    have q' := congrArg Obj.cls (Option.some.inj q)
    cases q'
  cases hk : K.lookup a with
  | some o =>
    have e := KX a o hk
    rw [ha] at e
    cases e
    have inv : ∀ b u, (if b ∈ cs.map (·.2) then some (HO.tbl #[]) else none) = some u → b ∈ cs.map (·.2) ∧ u = .tbl #[] := fun b u h => by
      by_cases hb : b ∈ cs.map (·.2)
      · rw [if_pos hb] at h; exact ⟨hb, (Option.some.inj h).symm⟩
      · rw [if_neg hb] at h; cases h
    refine ⟨fun b => if b ∈ cs.map (·.2) then some (.tbl #[]) else none, ⟨fun p hp => if_pos (mem p hp), .inr ⟨_, vs.toArray, _, hk, rfl, rfl, rfl, ?_, by simpa using rv⟩, fun b u h => ?_⟩, fun b u h => ?_⟩
    · rw [List.size_toArray, hi.length]
      exact hl
    · obtain ⟨h1, h2⟩ := inv b u h
      exact ⟨(tabs b h1).2, .inl ⟨h2, h1⟩⟩
    · obtain ⟨h1, rfl⟩ := inv b u h
      exact (tabs b h1).1
  | none =>
    have inv : ∀ b u, (if b = a then some (HO.frz { cls := .type "list", data := .seq vs.toArray } (.lst (ns.map V.int))) else if b ∈ cs.map (·.2) then some (HO.tbl #[]) else none) = some u →
        (b = a ∧ u = .frz { cls := .type "list", data := .seq vs.toArray } (.lst (ns.map V.int))) ∨ (b ∈ cs.map (·.2) ∧ u = .tbl #[]) := fun b u h => by
      by_cases hb : b = a
      · rw [if_pos hb] at h; exact .inl ⟨hb, (Option.some.inj h).symm⟩
      · rw [if_neg hb] at h
        by_cases hb2 : b ∈ cs.map (·.2)
        · rw [if_pos hb2] at h; exact .inr ⟨hb2, (Option.some.inj h).symm⟩
        · rw [if_neg hb2] at h; cases h
    refine ⟨fun b => if b = a then some (.frz { cls := .type "list", data := .seq vs.toArray } (.lst (ns.map V.int))) else if b ∈ cs.map (·.2) then some (.tbl #[]) else none, ⟨fun p hp => ?_, .inl (.inr ⟨{ cls := .type "list", data := .seq vs.toArray }, if_pos rfl⟩), fun b u h => ?_⟩, fun b u h => ?_⟩
    · have h1 : ¬ p.2 = a := fun e => na (e ▸ mem p hp)
      show (if p.2 = a then _ else _) = _
      rw [if_neg h1, if_pos (mem p hp)]
    · rcases inv b u h with ⟨rfl, h2⟩ | ⟨h1, h2⟩
      · exact ⟨hk, .inr ⟨rfl, h2⟩⟩
      · exact ⟨(tabs b h1).2, .inl ⟨h2, h1⟩⟩
    · rcases inv b u h with ⟨rfl, rfl⟩ | ⟨h1, rfl⟩
      · exact ⟨ha, by rw [List.length_map]; exact hl, vs, _, rv, ha⟩
      · exact (tabs b h1).1
theorem end_call (KX : K.In s.heap) (hns : s.heap.Ns mainGlobals mg) (hb : s.heap.Ns builtinsNs mb) (hbb : ∀ x : Str, x ≠ "__name__" → mb x = bootBuiltins x) (hlim : s.heap.NoLimit) (hg : s.gens = #[])
    (hT : ∀ p ∈ cs, s.heap.get? p.2 = some tab0) (nT : ∀ p ∈ cs, K.lookup p.2 = none) (C : ∀ p ∈ cs, PySem.W.CodeHd s.heap p.1 p.2)
    (hbm : ∃ (bm : Addr) (ob : Obj), mg "__builtins__" = some (.ref bm) ∧ bm ≠ builtinsNs ∧ s.heap.get? bm = some ob ∧ ob.cls = .type "module" ∧ ob.dict = some builtinsNs ∧ ob.data = .plain)
    (ha : s.heap.get? a = some { cls := .type "list", data := .seq vs.toArray }) (hi : IntsAre vs ns) (hl : ns.length ≤ sizeLine)
    (F : ∀ (base : Heap) (H : Hp), K.In base → base.Ns mainGlobals mg → (∀ p ∈ cs, LamX.TabB base mg p.1 p.2) → Env0 P w K mg base callerA [] s H → (∀ p ∈ cs, H p.2 = some (.tbl #[])) → SqL K H a (ns.map V.int) →
      codeAny (model P w) callerA (.call (.ref fa) ⟨[.ref a], []⟩) (CR (L2.CX P w) [] P w H s (fun v _ => v = .bl true) fun _ _ _ => False) s) :
    codeAny (model P w) callerA (.call (.ref fa) ⟨[.ref a], []⟩) (fun r s' => r = .ok (.ret (.bool true)) ∧ OldK s.heap s'.heap ∧ s'.os = s.os ∧ AllBare s'.gens) s := by
  obtain ⟨H, S, hok⟩ := fst_ex (P := P) (w := w) KX hT nT ha hi hl
  -- what is no list and no empty table is not tracked
  have free : ∀ {b : Addr} {o : Obj}, s.heap.get? b = some o → (∀ l n, o.data ≠ .seq l n) → o.data ≠ .fields #[] → H b = none := fun {b o} e h1 h2 => by
    cases q : H b with
    | none => rfl
    | some u =>
      rcases (S.only b u q).2 with ⟨_, hb⟩ | ⟨rfl, _⟩
      · obtain ⟨p, hp, rfl⟩ := List.mem_map.mp hb
        rw [hT p hp] at e
        cases e
        exact absurd rfl h2
      · rw [ha] at e
        cases e
        exact absurd rfl (h1 _ _)
  have freeD : ∀ {b : Addr} {o : Obj} {es : Array DictEntry} {ep : Nat}, s.heap.get? b = some o → o.data = .dict es ep → H b = none := fun {b o es ep} e d => free e (fun l n z => by rw [d] at z; cases z) fun z => by rw [d] at z; cases z
  have keepNs : ∀ {b : Addr} {m : Str → Option Value}, s.heap.Ns b m → (hidT s.heap H).Ns b m := fun {b m} ⟨o, es, ep, e, d, r⟩ => ⟨o, es, ep, hidT_get e (freeD e d), d, r⟩
  have kin : K.In (hidT s.heap H) := fun b o e => hidT_get (KX b o e) (by
    cases q : H b with
    | none => rfl
    | some u =>
      have z := (S.only b u q).1
      rw [e] at z
      cases z)
  have md : L2.Mod K mg (hidT s.heap H) := ⟨kin, keepNs hns, ⟨mb, keepNs hb, hbb⟩, let ⟨mc, h1, h2⟩ := hlim; ⟨mc, keepNs h1, h2⟩⟩
  have tbs : ∀ p ∈ cs, LamX.TabB (hidT s.heap H) mg p.1 p.2 := fun p hp => by
    have ht := hT p hp
    refine ⟨?_, ?_, fun e => ?_⟩
    · obtain ⟨o, us, file, tf, flags, tg, inF, text, tt, e1, e2, e3, e4, r⟩ := C p hp
      refine ⟨o, us, file, tf, flags, tg, inF, text, tt, hidT_get e1 (free e1 (fun l n e => by rw [e3] at e; cases e) fun e => ?_), e2, e3, e4, r⟩
      rw [e3] at e
      cases e
      simp at e4
    · obtain ⟨bm, ob, b1, b2, b3, b4, b5, b6⟩ := hbm
      refine ⟨bm, ob, b1, b2, fun e => ?_, fun e => ?_, hidT_get b3 (free b3 (fun l n e => by rw [b6] at e; cases e) fun e => by rw [b6] at e; cases e), b4, b5, b6⟩
      · obtain ⟨o, es, ep, q, d, _⟩ := hns
        rw [e, q] at b3
        cases b3
        rw [d] at b6
        cases b6
      · rw [e, ht] at b3
        cases b3
        cases b6
    · obtain ⟨o, es, ep, q, d, _⟩ := hns
      rw [e, ht] at q
      cases q
      cases d
  have e0 : Env0 P w K mg (hidT s.heap H) callerA [] s H := ⟨rfl, md, fun b o e => of_hidT e, Nat.le_of_eq (hidT_size _ _), trivial, fun b h => absurd (show b ∈ ([] : List Addr) from h) (by simp), hok, .of_eq hg⟩
  refine codeAny_mono (F _ H kin (keepNs hns) tbs e0 S.tb S.sc) fun r s' h => ?_
  cases r with
  | error e =>
    obtain ⟨_, _, _, _, _, _, _, _, _, _, _, _, z⟩ := h
    exact z.elim
  | ok fl =>
    cases fl with
    | ret u =>
      obtain ⟨v, H', os, bare, un, hok', rv, q⟩ := h
      have q' : v = .bl true := q
      subst q'
      obtain rfl : u = Value.bool true := rv
      -- the tables may have grown, all else is as it was
      have grew : ∀ p ∈ cs, ∃ more : Array Value, s'.heap.get? p.2 = some { cls := .none, data := .fields more } := fun p hp => by
        obtain ⟨more, z⟩ := un.tbls p.2 #[] (S.tb p hp)
        exact ⟨_, hok' p.2 _ z⟩
      have as_was : ∀ b o, b ∉ cs.map (·.2) → s.heap.get? b = some o → s'.heap.get? b = some o := fun b o nb e => by
        cases q : H b with
        | none => exact un.keep b o e q (fun z => absurd (show b ∈ ([] : List Addr) from z) (by simp)) (by simp)
        | some u =>
          rcases (S.only b u q).2 with ⟨_, hb⟩ | ⟨rfl, rfl⟩
          · exact absurd hb nb
          · have h2 := hok' _ _ (un.frzs _ _ _ q)
            have h1 := hok _ _ q
            have e1 := h1.1
            rw [e] at e1
            cases e1
            exact h2.1
      refine ⟨rfl, ⟨fun b o e => ?_, fun b o e => ?_⟩, os, bare⟩
      · by_cases hb : b ∈ cs.map (·.2)
        · obtain ⟨p, hp, rfl⟩ := List.mem_map.mp hb
          obtain ⟨more, hm⟩ := grew p hp
          rw [hT p hp] at e
          cases e
          exact .inr (.inl ⟨((C p hp).tab (hT p hp)).isCodeTable, rfl, #[], more, rfl, by rw [Array.empty_append]; exact hm⟩)
        · exact .inl (as_was b o hb e)
      · by_cases hb : b ∈ cs.map (·.2)
        · obtain ⟨p, hp, rfl⟩ := List.mem_map.mp hb
          obtain ⟨more, hm⟩ := grew p hp
          exact ⟨_, hm⟩
        · exact ⟨o, as_was b o hb e⟩
    | next => exact False.elim h
    | brk => exact False.elim h
    | cont => exact False.elim h
end
/-- the table of the def at fa is empty -/
def OwnT (K : PySem.W.Frag) (name : Str) (mg : Str → Option Value) (h : Heap) : Prop := ∀ (f c P : Addr) (o : Obj) (fd : FuncData) (e : Value) (dd : Option Addr) (us : Array Value) (sl : Array (Option Value)), mg name = some (.ref f) → K.lookup f = some o → o.data = .func fd → fd.code = .ref c →
  K.lookup c = some ⟨e, dd, .fields us, sl⟩ → us[11]? = some (.ref P) → h.get? P = some tab0
/-- what the end wants of the law -/
def LawEnd (l : PySem.W.OpenLaw) (w : World) (K : PySem.W.Frag) (n : Nat) (mg : Str → Option Value) (fa : Addr) (h : Heap) : Prop :=
  ∃ cs : List (Addr × Addr), (∀ p ∈ cs, h.get? p.2 = some tab0) ∧ (∀ p ∈ cs, K.lookup p.2 = none) ∧ (∀ p ∈ cs, PySem.W.CodeHd h p.1 p.2) ∧
    ∀ (s : Shared) (a : Addr) (ns : List Int) (base : Heap) (H : Hp), ns.length ≤ n → K.In base → base.Ns mainGlobals mg → (∀ p ∈ cs, LamX.TabB base mg p.1 p.2) → Env0 l.prog w K mg base callerA [] s H → (∀ p ∈ cs, H p.2 = some (.tbl #[])) → SqL K H a (ns.map V.int) →
      codeAny (model l.prog w) callerA (.call (.ref fa) ⟨[.ref a], []⟩) (CR (L2.CX l.prog w) [] l.prog w H s (fun v _ => v = .bl true) fun _ _ _ => False) s
theorem walk_end {l : PySem.W.OpenLaw} {n : Nat} {q : Program} {loose : List Str} {XP : (Str → Option Value) → Heap → Prop} {YP : World → Heap → Prop} {d : DefRec} {K : Params → PySem.W.Frag}
    (hn : l.most = some n) (hn2 : n ≤ sizeLine) (hdf : d.params.defaults = []) (hY : ∀ (w : World) (h : Heap), YP w h → (K w.params).In h)
    (F : ∀ (w : World) (mg : Str → Option Value) (fa : Addr) (h : Heap), YP w h → (K w.params).In h → h.Ns mainGlobals mg → mg d.name = some (.ref fa) → (∀ name, ((recsOf q).any fun e => e.name == name) = true → OwnT (K w.params) name mg h) → LawEnd l w (K w.params) n mg fa h) :
    PySem.W.WalkO q loose XP YP l.row.toRowW d [] (fun f vs => PySem.call f vs) := by
  refine Att.attach_callB hn hdf fun w s₀ s mg mb fa o pm cd doc a vs ns G Y ho hd hcd hmg hobj hints hlen hbits hg => ?_
  have KX := hY w _ Y
  have own : ∀ name, ((recsOf q).any fun e => e.name == name) = true → OwnT (K w.params) name mg s.heap := fun name hrec f c P o1 fd1 e dd us sl k0 k1 k2 k3 k4 k5 => by
    obtain ⟨dL, hm, hn1⟩ := List.any_eq_true.mp hrec
    have hn2 : dL.name = name := beq_iff_eq.mp hn1
    obtain ⟨a', o', fd', c', P', h1, h2, h3, h4, h5, h6⟩ := G.T.tab dL hm
    rw [hn2, k0] at h1
    cases h1
    rw [KX _ _ k1] at h2
    cases h2
    rw [k2] at h3
    cases h3
    rw [k3] at h4
    cases h4
    obtain ⟨⟨oc, vc, e1, _, e3, e4⟩, hP⟩ := h6
    rw [KX _ _ k4] at e1
    cases e1
    cases e3
    rw [k5] at e4
    cases e4
    exact hP
  obtain ⟨cs, hT, nT, C, hF⟩ := F w mg fa _ Y KX G.T.g hmg own
  exact end_call KX G.T.g G.T.b G.T.builtins G.T.nolimit hg hT nT C G.T.bmain hobj hints (Nat.le_trans hlen hn2) fun base H h1 h2 h3 h4 h5 h6 => hF s a ns base H hlen h1 h2 h3 h4 h5 h6
end DL
set_option Elab.async false
set_option linter.all false
set_option maxRecDepth 100000
set_option maxHeartbeats 2000000
/-! The value layer, part 19: the state of the draws is begun. -/
namespace DL
open PySem PySem.Spec PyProof.Rows L2

def absI (i : Int) : Int := if i < 0 then -i else i
def big : Int := 10 ^ (18 : Int).toNat
def cells0 (ns : List Int) : List Int := ns.map absI
def large0 : List Int → List Int
  | [] => []
  | c :: l => if big ≤ c then (c - big) :: large0 l else large0 l
def g0 (ns : List Int) : G := ⟨large0 (cells0 ns), cells0 ns, 0, 0⟩
theorem large0_app (l : List Int) (c : Int) : large0 (l ++ [c]) = if big ≤ c then large0 l ++ [c - big] else large0 l := by
  induction l with
  | nil => simp only [List.nil_append, large0]
  | cons x l ih =>
    rw [List.cons_append, large0, ih]
    by_cases h : big ≤ x <;> by_cases h2 : big ≤ c <;> simp [large0, h, h2]
theorem large0_len : ∀ l : List Int, (large0 l).length ≤ l.length
  | [] => Nat.le_refl _
  | c :: l => by
    rw [large0]
    have := large0_len l
    by_cases h : big ≤ c
    · rw [if_pos h, List.length_cons, List.length_cons]; omega
    · rw [if_neg h, List.length_cons]; omega
theorem ifT {c : Bool} {A B : Prop} (hc : c = true) (h : A) : if c = true then A else B := by rw [if_pos hc]; exact h
theorem ifF {c : Bool} {A B : Prop} (hc : c = false) (h : B) : if c = true then A else B := by rw [hc, if_neg Bool.false_ne_true]; exact h
theorem take_snoc {α : Type} {l : List α} {i : Nat} {x : α} (h : l[i]? = some x) : l.take (i + 1) = l.take i ++ [x] := by
  rw [List.take_add_one, h]
  rfl
def spBegun (K : PySem.W.Frag) (T : List (Addr × Str)) : Sp := fun vs H Q _ => ∃ (a : Addr) (ns : List Int), vs = [.ref a] ∧ SqL K H a (ns.map V.int) ∧ ns.length ≤ 1000 ∧ LamX.Tabs T H ∧
  ∀ (z : Zt) (H' : Hp), z.T = T → Same H H' → GOk z H' (g0 ns) → H z.p = none → H z.l = none → H z.c = none → Q (.ref z.p) H'
def tCellAbs : TE := tCB (fun xs H Q => ∃ i, xs = [.int i] ∧ Q (.int (if i < 0 then -i else i)) H) (tCons (tVar 3) tNil)
def tBig : TE := tOp (rI CPow fun i j => .int (i ^ j.toNat)) (tC (.int 10)) (tC (.int 18))
def t_begun (K : PySem.W.Frag) : TS :=
  tSeq (tAsg (tLc (iList K (tVar 0)) (gName 3) tYes tCellAbs [3]) (gName 1))
  (tSeq (tAsg (tLc (iList K (tVar 1)) (gName 3) (tTest (tOp (rI0 fun i j => .bl (decide (j ≤ i))) (tVar 3) tBig)) (tOp (rI0 fun i j => .int (i - j)) (tVar 3) tBig) [3]) (gName 2))
  (tRet (tDisp [(tC (.str "large"), tVar 2), (tC (.str "cells"), tVar 1), (tC (.str "left"), tC (.int 0)), (tC (.str "turn"), tC (.int 0))])))
theorem tBig_run {σ : L2.St} {H : Hp} {Q : VK} (q : Q (.int big) H) : tBig σ H Q := ⟨10, 18, rfl, rfl, ⟨by decide, by decide, by decide⟩, q⟩
theorem small_line {n : Nat} (h : n ≤ 1000) : n < sizeLine := Nat.lt_of_le_of_lt h (by rw [sizeLine_eq]; decide)
theorem pure_begun {K : PySem.W.Frag} {T : List (Addr × Str)} (vs : List V) (H : Hp) (Q : VK) (E : XK) (h : spBegun K T vs H Q E) :
    t_begun K { nx := fun _ H' => Q .non H', rt := Q } (L2.start ["_law_script", "_law_cells_here", "_law_large", "_law_cell"] vs) H := by
  obtain ⟨a, ns, rfl, hS, hz, hT, k⟩ := h
  refine ⟨_, rfl, a, rfl, ⟨_, hS⟩, fun D nD => ?_⟩
  have s0 : Same H (upd H D (.lst [])) := same_upd' nD
  refine lc_list (K := K) (a := a) (xs := ns.map V.int) (fun i H' => Same H H' ∧ H' D = some (.lst ((cells0 (ns.take i)).map V.int))) ⟨s0, upd_same⟩ (fun i H' _ ⟨s1, _⟩ => s1.seq hS) ?_ ?_
  · rintro i y H' hi ⟨s1, hD⟩
    obtain ⟨n, hn, rfl⟩ : ∃ n, ns[i]? = some n ∧ y = V.int n := by
      rw [List.getElem?_map] at hi
      cases e : ns[i]? with
      | none => rw [e] at hi; cases hi
      | some n => rw [e] at hi; exact ⟨n, rfl, (Option.some.inj hi).symm⟩
    refine ⟨rfl, ?_⟩
    refine ifT (B := Same H H' ∧ H' D = some (.lst ((cells0 (ns.take (i + 1))).map V.int))) rfl ?_
    refine ⟨_, rfl, n, rfl, _, hD, ?_, fun b u q => ?_, ?_⟩
    · rw [List.length_map]
      unfold cells0
      rw [List.length_map, List.length_take]
      exact small_line (by omega)
    · rw [upd_ne (fun w => by rw [w, nD] at q; cases q)]
      exact s1 b u q
    · rw [upd_same, take_snoc hn]
      unfold cells0
      rw [List.map_append, List.map_append]
      rfl
  rintro H1 ⟨s1, hD⟩
  rw [List.length_map, List.take_length] at hD
  refine ⟨_, rfl, D, rfl, ⟨_, SqL.of hD⟩, fun L nL => ?_⟩
  have s2 : Same H1 (upd H1 L (.lst [])) := same_upd' nL
  refine lc_list (K := K) (a := D) (xs := (cells0 ns).map V.int) (fun i H' => Same H1 H' ∧ H' L = some (.lst ((large0 ((cells0 ns).take i)).map V.int))) ⟨s2, upd_same⟩ (fun i H' _ ⟨s3, _⟩ => s3.seq (SqL.of hD)) ?_ ?_
  · rintro i y H' hi ⟨s3, hL⟩
    obtain ⟨n, hn, rfl⟩ : ∃ n, (cells0 ns)[i]? = some n ∧ y = V.int n := by
      rw [List.getElem?_map] at hi
      cases e : (cells0 ns)[i]? with
      | none => rw [e] at hi; cases hi
      | some n => rw [e] at hi; exact ⟨n, rfl, (Option.some.inj hi).symm⟩
    have step := large0_app ((cells0 ns).take i) n
    rw [← take_snoc hn] at step
    refine ⟨rfl, ?_⟩
    refine ⟨_, rfl, tBig_run ⟨n, big, rfl, rfl, decide (big ≤ n), rfl, ?_⟩⟩
    by_cases hb : big ≤ n
    · refine ifT (B := Same H1 H' ∧ H' L = some (.lst ((large0 ((cells0 ns).take (i + 1))).map V.int))) (decide_eq_true hb) ?_
      rw [if_pos hb] at step
      refine ⟨_, rfl, tBig_run ⟨n, big, rfl, rfl, _, hL, ?_, fun b u q => ?_, ?_⟩⟩
      · rw [List.length_map]
        refine small_line (Nat.le_trans (large0_len _) ?_)
        rw [List.length_take]
        unfold cells0
        rw [List.length_map]
        omega
      · rw [upd_ne (fun w => by rw [w, nL] at q; cases q)]
        exact s3 b u q
      · rw [upd_same, step, List.map_append]
        rfl
    · refine ifF (decide_eq_false hb) ?_
      rw [if_neg hb] at step
      exact ⟨s3, by rw [step]; exact hL⟩
  rintro H2 ⟨s3, hL⟩
  rw [List.length_map, List.take_length] at hL
  have hD2 := s3 _ _ hD
  intro p np
  have nLD : L ≠ D := fun w => by rw [w, hD] at nL; cases nL
  refine ⟨_, rfl, _, rfl, upd_same, [(.inr "large", .ref L), (.inr "cells", .ref D), (.inr "left", .int 0), (.inr "turn", .int 0)], rfl, (by show 4 ≤ 15; decide), ?_⟩
  have n1 : p ≠ L := fun w => by rw [w, hL] at np; cases np
  have n2 : p ≠ D := fun w => by rw [w, hD2] at np; cases np
  have sm : Same H (upd (upd H2 p (.dK [])) p (.dK (mergeK [] [(.inr "large", .ref L), (.inr "cells", .ref D), (.inr "left", .int 0), (.inr "turn", .int 0)]))) := fun b u q => by
    have q2 := s3 b u (s1 b u q)
    rw [upd_ne (fun w => by rw [w, np] at q2; cases q2), upd_ne (fun w => by rw [w, np] at q2; cases q2)]
    exact q2
  have back : ∀ b, H2 b = none → H b = none := fun b hb => by
    cases q : H b with
    | none => rfl
    | some u => rw [s3 b u (s1 b u q)] at hb; cases hb
  refine k ⟨p, L, D, T⟩ _ rfl sm ⟨?_, ?_, ?_, nLD, hT.ext sm⟩ (back p np) ?_ nD
  · show upd _ p _ p = _
    rw [upd_same]
    rfl
  · show upd _ p _ L = _
    rw [upd_ne n1.symm, upd_ne n1.symm]
    exact hL
  · show upd _ p _ D = _
    rw [upd_ne n2.symm, upd_ne n2.symm]
    exact hD2
  · cases q : H L with
    | none => rfl
    | some u => rw [s1 L u q] at nL; cases nL
end DL
set_option Elab.async false
set_option linter.all false
set_option maxRecDepth 100000
set_option maxHeartbeats 2000000
/-! The value layer, part 20: the law is run; a def that makes lambdas. -/
namespace DL
open PySem PySem.Spec PyProof.Rows L2

def startLaw (m n : Nat) : Env := some (false, .scr n) :: some (false, .st) :: List.replicate (m - 2) none
theorem startLaw_get {m n i : Nat} {t : Bool} {d : D} (h : (startLaw m n)[i]? = some (some (t, d))) : t = false ∧ ((i = 0 ∧ d = .scr n) ∨ (i = 1 ∧ d = .st)) := by
  unfold startLaw at h
  match i, h with
  | 0, h => cases h; exact ⟨rfl, .inl ⟨rfl, rfl⟩⟩
  | 1, h => cases h; exact ⟨rfl, .inr ⟨rfl, rfl⟩⟩
  | i + 2, h =>
    have h : (List.replicate (m - 2) (none : Option Sl))[i]? = some (some (t, d)) := h
    rw [List.getElem?_replicate] at h
    split at h <;> cases h
abbrev EnS (W : WX) (T : List (Addr × Str)) : Type := { n : En // n.W = W ∧ n.k = .sh ∧ n.z.T = T }
theorem law_run {P : Program} {w : World} {K : PySem.W.Frag} {mg : Str → Option Value} {base : Heap} {T : List (Addr × Str)} {cs : List (Addr × Addr)} {k : Nat} {fa a : Addr} {st : Stmt} {kV dc pm cd ct oc : Value} {an od : Option Addr} {osl : Array (Option Value)} {N : List Str} {b0 : Stmt} {rest : List Stmt} {t : Ss} {s : Shared} {H : Hp} {ns : List Int} {m : Nat}
    (lk : K.lookup fa = some ⟨oc, od, .func (FDn "law" st kV dc pm an cd ct), osl⟩) (hcd : PySem.W.codeIn K cd "law" = true) (S : FnScope N ["_law_script"] (defScope st)) (hbody : defBody st = b0 :: rest) (hN : 2 ≤ N.length) (hbd : BindsT "law" st ["_law_script"]) (hm : m ≤ 1000)
    (h0 : ∀ (hr : Room k (callerA.deeper (envOfC "law" (defScope st) s.heap.objs.size fa cd))), PS (cxOf (L2.CX P w) P w K mg base N "law" (defScope st) fa cd callerA [] s H fun _ _ _ => False) b0 (tAsg (tCallS (spBegun K T) (WE fun _ _ _ _ => False) (tCons (tVar 0) tNil)) (gName 1)))
    (hrest : ∀ (n : En), XG (cxOf (L2.CX P w) P w K mg base N "law" (defScope st) fa cd callerA [] s H fun _ _ _ => False) → Room k (callerA.deeper (envOfC "law" (defScope st) s.heap.objs.size fa cd)) →
      Takes (cxOf (L2.CX P w) P w K mg base N "law" (defScope st) fa cd callerA [] s H fun _ _ _ => False) n.W → n.k = .sh → n.z.T = T → DSs (cxOf (L2.CX P w) P w K mg base N "law" (defScope st) fa cd callerA [] s H fun _ _ _ => False) n rest t)
    (hr : Room (k + 1) callerA) (e0 : Env0 P w K mg base callerA [] s H) (hT : ∀ p ∈ T, ∃ c ∈ cs, c.2 = p.1) (hcs : ∀ p ∈ cs, H p.2 = some (.tbl #[])) (hS : SqL K H a (ns.map V.int)) (hl : ns.length ≤ m)
    (pure_ : ∀ ns : List Int, ns.length ≤ m → ∃ g', t (startLaw N.length ns.length) (g0 ns) = .ok (.ret (.bl true)) g') :
    codeAny (model P w) callerA (.call (.ref fa) ⟨[.ref a], []⟩) (CR (L2.CX P w) [] P w H s (fun v _ => v = .bl true) fun _ _ _ => False) s := by
  refine LamX.run_ofS (vs := [.ref a]) (us := [.ref a]) lk hcd S hr e0 (.of_eq (hbd kV dc pm an cd ct [.ref a] rfl)) (.cons rfl .nil) rfl fun hr' => ?_
  rw [hbody]
  have nd := S.nd
  have hX : XG (cxOf (L2.CX P w) P w K mg base N "law" (defScope st) fa cd callerA [] s H fun _ _ _ => False) := ⟨rfl, hr'.mono (Nat.zero_le _), nd⟩
  have tk : Takes (cxOf (L2.CX P w) P w K mg base N "law" (defScope st) fa cd callerA [] s H fun _ _ _ => False) (fun _ _ _ _ => False) := takes_of (E := fun _ _ _ => False) rfl rfl rfl rfl
  refine ⟨_, pss_cons (h0 hr') (PSs.ex (α := EnS (fun _ _ _ _ => False) T) fun n => hrest n.1 hX hr' (by rw [n.2.1]; exact tk) n.2.2.1 n.2.2.2), ?_⟩
  have pre := S.pre
  have tabs : LamX.Tabs T H := fun p hp => by
    obtain ⟨c, hc, e⟩ := hT p hp
    exact .nil (e ▸ hcs c hc)
  have h0' : (L2.start N [V.ref a])[0]? = some (some (V.ref a)) := rfl
  refine ⟨V.ref a, h0', a, ns, rfl, hS, Nat.le_trans hl hm, tabs, fun z H' hz sm G1 np nl nc => ?_⟩
  refine ⟨⟨⟨z, fun _ _ _ _ => False, .sh, ⟨H', [z.p, z.l, z.c], H', [z.p, z.l, z.c]⟩⟩, rfl, rfl, hz⟩, startLaw N.length ns.length, g0 ns, [z.p, z.l, z.c], ?_, ?_⟩
  · have mu : MuOk z [z.p, z.l, z.c] H' := ⟨by simp, by simp, by simp, fun b hb => by
      simp only [List.mem_cons, List.not_mem_nil, or_false] at hb
      rcases hb with rfl | rfl | rfl
      · exact G1.op
      · exact G1.ol
      · exact G1.oc⟩
    have len : (startLaw N.length ns.length).length = ((L2.start N [V.ref a]).set 1 (some (.ref z.p))).length := by
      unfold startLaw L2.start
      simp
      omega
    refine ⟨⟨len, mu, fun i tt d q => ?_, fun i j d d' b q1 _ _ _ => by obtain ⟨e, _⟩ := startLaw_get q1; cases e⟩, G1, Ext.refl, fun b h => h, mu, fun i d b q => by (obtain ⟨e, _⟩ := startLaw_get q; cases e), fun _ _ e _ _ => e, fun _ _ h => h, ⟨by simp, by simp⟩, fun _ h _ => h⟩
    obtain ⟨rfl, h | h⟩ := startLaw_get q
    · obtain ⟨rfl, rfl⟩ := h
      refine ⟨.ref a, ?_, ?_⟩
      · rw [List.getElem?_set_ne (by decide)]
        exact h0'
      · show Rep _ _ z _ H' (.ref a) (.scr ns.length)
        rw [← List.length_map (f := V.int) (as := ns)]
        rcases hS with h | ⟨o, its, n, h1, h2, h3, h4, h5, h6⟩
        · refine .scrR (fun w => ?_) (h.elim (fun h => .inl (sm _ _ h)) fun ⟨o, h⟩ => .inr ⟨o, sm _ _ h⟩)
          have na : H a ≠ none := by
            rcases h with h | ⟨o, h⟩ <;> rw [h] <;> exact fun q => by cases q
          simp only [List.mem_cons, List.not_mem_nil, or_false] at w
          rcases w with rfl | rfl | rfl
          · exact na np
          · exact na nl
          · exact na nc
        · exact .scrK h1 h2 h3 h4 h5 h6
    · obtain ⟨rfl, rfl⟩ := h
      refine ⟨.ref z.p, ?_, .st⟩
      rw [List.getElem?_set_self]
      unfold L2.start
      simp
      omega
  · obtain ⟨g', hp⟩ := pure_ ns hl
    rw [hp]
    intro v H'' _ _ r
    exact (RK.scal (k' := .sh) (Mu' := []) (z := z) rfl r : Rep _ _ _ _ _ _ _) |> fun r => by cases r; rfl

/-! ### defs that make lambdas -/
def IsFnL (K : PySem.W.Frag) (mg : Str → Option Value) (name : Str) (st : Stmt) (c : Addr) : Prop := ∃ (f : Addr) (oc : Value) (od : Option Addr) (kV dc pm : Value) (an : Option Addr) (ct : Value) (sl : Array (Option Value)),
  mg name = some (.ref f) ∧ PySem.W.keepIn K (.ref f) = true ∧ K.lookup f = some ⟨oc, od, .func (FDn name st kV dc pm an (.ref c) ct), sl⟩ ∧ PySem.W.codeIn K (.ref c) name = true
theorem cal_ofL {gd : Bool} {P : Program} {w : World} {K : PySem.W.Frag} {mg : Str → Option Value} {base : Heap} {T : List (Addr × Str)} {k : Nat} {name : Str} {st : Stmt} {N ps : List Str} {kr : Kd} {t : Ss} {cf : List D → M D} {c : Addr} (F : IsFnL K mg name st c) (S : FnScope N ps (defScope st))
    (hbody : ∀ (f : Addr) (A : Around) (outer : List PySem.Env) (s : Shared) (H : Hp) (E : XK) (n : En), XG (cxOf (L2.CX P w) P w K mg base N name (defScope st) f (.ref c) A outer s H E) → Room k (A.deeper (envOfC name (defScope st) s.heap.objs.size f (.ref c))) →
      Takes (cxOf (L2.CX P w) P w K mg base N name (defScope st) f (.ref c) A outer s H E) n.W → (gd = true → A.guards = some []) → n.k = kr → n.z.T = T → DSs (cxOf (L2.CX P w) P w K mg base N name (defScope st) f (.ref c) A outer s H E) n (defBody st) t) (hcf : cf = fnB t N.length := by rfl) :
    Cal gd P w K mg base T (k + 1) name st ps kr cf := by
  obtain ⟨f, oc, od, kV, dc, pm, an, ct, sl, h1, h2, h3, h4⟩ := F
  subst hcf
  exact ⟨f, kV, dc, pm, an, .ref c, ct, h1, h2, dfn_of h3 h4 S fun A outer s H E n hX hr tk hg hk hT => hbody f A outer s H E n hX hr tk hg hk hT⟩
/-- the def that calls what it gets and hands back what came -/
structure CaughtT (st : Stmt) (a v e en : Str) : Prop where
  body : ∃ (j : Nat) (p1 p2 p3 p4 p5 p6 p7 p8 p9 p10 p11 p12 p13 p14 : Pos), defBody st = caughtB a v e en j p1 p2 p3 p4 p5 p6 p7 p8 p9 p10 p11 p12 p13 p14
  sc : FnScope [a, v, en] [a] (defScope st)
  la : (defScope st).names.lookup a = some .local
  lv : (defScope st).names.lookup v = some .local
  le : (defScope st).names.lookup en = some .local
  ge : (defScope st).names.lookup e = some .globalImplicit
  d1 : (e == ("__debug__" : Str)) = false
  d2 : (v == ("__debug__" : Str)) = false
  d3 : (v == ("__classdict__" : Str)) = false
  d4 : (en == ("__debug__" : Str)) = false
  d5 : (en == ("__classdict__" : Str)) = false
  d6 : (a == ("__debug__" : Str)) = false
  d7 : (a == ("__classdict__" : Str)) = false
def PkOk (K : PySem.W.Frag) (mg : Str → Option Value) (e : Str) (pks : List Str) : Prop := ∃ CS, mg e = some (.ref CS) ∧ ∀ c ∈ pks, ∀ C, mg c = some (.ref C) → PySem.W.exmOne K (.ref C) (.ref CS) = some true
theorem de_caughtC {X : Cx} {z : Zt} {W : WX} {kb : Kd} {fb : Ep} {x a v e en : Str} {c P : Addr} {k : Nat} {st : Stmt} {params : Arguments} {body : Expr} {scope : Scope} {p lpos pos : Pos} {pks : List Str} (F : IsFn X.K X.mg x st) (CT : CaughtT st a v e en) (hbd : BindsT x st [a]) (pk : PkOk X.K X.mg e pks) (hg : Gl X x)
    (TB : LamX.TabB X.base X.mg c P) (hcode : X.env.code = .ref c) (hmT : (P, X.env.qual ++ "<lambda>") ∈ z.T) (hu : ∀ p ∈ z.T, p.1 = P → p.2 = X.env.qual ++ "<lambda>") (hr : Room (k + 2) X.A) (L : LamX.LamS X.env.scope scope)
    (hbody : ∀ (A : Around) (outer : List PySem.Env) (s : Shared) (H : Hp) (E : XK) (f c' : Addr), Room k (A.deeper (LamX.lamEnv X scope s.heap.objs.size f c')) → Takes (LamX.lamCx X A outer s H E scope f c') (fun cls dd _ H => E cls dd H) →
      DE (LamX.lamCx X A outer s H E scope f c') z (fun cls dd _ H => E cls dd H) kb body fb)
    (hdef : defaultsOf params X.env = ([], []) := by rfl)
    (hbind : ∀ (q : Str) (cl : List (Str × Addr)) (pm cv ctv : Value), bindArgs (PySem.W.kla_fn "<lambda>" q params body scope cl pm cv ctv) ⟨[], []⟩ = pure [] := by intros; rfl)
    (hdb : (x == ("__debug__" : Str)) = false := by decide) : DE X z W .new (.Call (.Name x p) [.Lambda params body scope lpos] [] pos) (eCaught pks fb) := by
  obtain ⟨f, oc, od, kV, dc, pm, an, cd, ct, sl, h1, h2, h3, h4⟩ := F
  obtain ⟨CS, hCS, hpk⟩ := pk
  obtain ⟨j, p1, p2, p3, p4, p5, p6, p7, p8, p9, p10, p11, p12, p13, p14, hb⟩ := CT.body
  refine de_caught (bg := defBody st) hg h1 h2 h3 h4 (.all (hbd kV dc pm an cd ct)) CT.sc rfl (.inl CT.la) ?_ hpk TB hcode hmT hu hr L hdef hbind hbody hdb CT.d6 CT.d7
  rw [hb]
  exact caught_gives CT.sc.nd CT.lv CT.le CT.ge hCS CT.d1 CT.d2 CT.d3 CT.d4 CT.d5
end DL
set_option Elab.async false
set_option linter.all false
set_option maxRecDepth 100000
set_option maxHeartbeats 2000000
/-! The value layer, part 21: forms that the printed terms use. -/
namespace DL
open PySem PySem.Spec PyProof.Rows L2

section
variable {X : Cx} {n : En} {z : Zt} {W : WX} {e : Expr} {f : Ep} {pos : Pos}
theorem ds_retS (hk : n.k = .sh) (h : DE X n.z n.W .sh e f) : DS X n (.Return (some e) pos) (sRet f) := ds_ret (by rw [hk]; exact h) (.inr hk)
theorem ds_retW (hk : n.k = .new) (h : DE X n.z n.W .new e f) : DS X n (.Return (some e) pos) (sRet f) := ds_ret (by rw [hk]; exact h) (.inl hk)
/-- {} -/
theorem de_dct0 : DE X z W .new (.Dict [] [] pos) (eC (.dct [])) := by
  refine ⟨fun pins s σ H Q I ⟨ρ, g, Mu, E, G1, hx⟩ => ?_⟩
  have hn : H s.heap.objs.size = none := I.hok.fresh (Nat.le_refl _)
  have hs : (s.heap.objs.size == sysModules) = false := beq_false_of_ne (Nat.ne_of_gt I.big)
  refine wpAny_Dict_empty ⟨.ref s.heap.objs.size, _, I.laid (a := s.heap.objs.size) (o := ObV s.heap.objs.size { cls := .type "dict", data := .dict #[] }) (t' := s.toks) (fun _ _ q => Heap.get?_push_of_some _ q) (Nat.le_refl _) ?_, rfl, ?_⟩
  · exact ⟨Heap.get?_push_size _ rfl, ⟨_, Heap.get?_push_size _ rfl⟩, fun _ _ h k => k _ h⟩
  · have sm : Same H (upd H s.heap.objs.size (ObV s.heap.objs.size { cls := .type "dict", data := .dict #[] })) := same_upd' hn
    refine hx _ _ (Ext.of sm) (G1.same sm) ?_
    show if D.box (.dct []) = true then ∃ a, V.ref s.heap.objs.size = .ref a ∧ ¬ Oc H a ∧ Cont X.K X.mg z (a :: Mu) (upd H s.heap.objs.size (ObV s.heap.objs.size { cls := .type "dict", data := .dict #[] })) a (.dct []) else Rep X.K X.mg z Mu (upd H s.heap.objs.size (ObV s.heap.objs.size { cls := .type "dict", data := .dict #[] })) (.ref s.heap.objs.size) (.dct [])
    rw [if_pos (show D.box (.dct []) = true from rfl)]
    exact ⟨_, rfl, oc_none hn, .dct upd_same hs ⟨rfl, rfl, rfl⟩ rfl (by show 0 ≤ _; omega) ⟨.nil, .nil⟩ .nil .nil⟩
end
theorem de_caughtT {X : Cx} {z : Zt} {W : WX} {kb : Kd} {fb : Ep} {x a v e en : Str} {c P : Addr} {k : Nat} {st : Stmt} {params : Arguments} {body : Expr} {scope : Scope} {p lpos pos : Pos} {pks : List Str} (F : IsFn X.K X.mg x st) (CT : CaughtT st a v e en) (hbd : BindsT x st [a]) (pk : PkOk X.K X.mg e pks) (hg : Gl X x)
    (TB : LamX.TabB X.base X.mg c P) (hcode : X.env.code = .ref c) (hT : z.T = [(P, X.env.qual ++ "<lambda>")]) (hr : Room (k + 2) X.A) (L : LamX.LamS X.env.scope scope)
    (hbody : ∀ (A : Around) (outer : List PySem.Env) (s : Shared) (H : Hp) (E : XK) (f c' : Addr), Room k (A.deeper (LamX.lamEnv X scope s.heap.objs.size f c')) → Takes (LamX.lamCx X A outer s H E scope f c') (fun cls dd _ H => E cls dd H) →
      DE (LamX.lamCx X A outer s H E scope f c') z (fun cls dd _ H => E cls dd H) kb body fb)
    (hdef : defaultsOf params X.env = ([], []) := by rfl)
    (hbind : ∀ (q : Str) (cl : List (Str × Addr)) (pm cv ctv : Value), bindArgs (PySem.W.kla_fn "<lambda>" q params body scope cl pm cv ctv) ⟨[], []⟩ = pure [] := by intros; rfl)
    (hdb : (x == ("__debug__" : Str)) = false := by decide) : DE X z W .new (.Call (.Name x p) [.Lambda params body scope lpos] [] pos) (eCaught pks fb) :=
  de_caughtC F CT hbd pk hg TB hcode (by rw [hT]; exact List.mem_cons_self) (fun q hq _ => by rw [hT] at hq; rw [List.mem_singleton.mp hq]) hr L hbody hdef hbind hdb
theorem R.of_bind {α β : Type} {r : R α} {k : α → M β} {P : β → G → Prop} {E : Str → Str → List D → G → Prop} (h : r.all (fun a g => (k a g).all P E) E) : (r.bind k).all P E := by
  cases r <;> exact h
/-- y = [..] on one line, y never changed -/
theorem ds_setLcS {X : Cx} {n : En} {elt tg iter : Expr} {ifs : List Expr} {scope : Scope} {own : List (Str × Nat)} {pos : Pos} {it : Es} {gt : TG} {t : D → Env → Option Env} {is : List Nat} {tt : Et} {f : Ep} {i : Nat} {y : Str} {py spos : Pos} (hX : XG X) (hy : X.N[i]? = some y) (hyl : X.env.scope.names.lookup y = some .local)
    (hsw : swapsWith (.ListComp elt [⟨tg, iter, ifs, 0⟩] scope pos) (some (.Name y py)) spos.line X.env = pure true) (hi : DI X n.z n.W true tg iter it) (ok : BlkOk X.N X.env.scope scope own) (hsub : ∀ i ∈ is, i ∈ own.map (·.2))
    (hg : ∀ (s : Shared) (H : Hp) (C : Addr) (cl : List (Str × Addr)) (fp : List Addr), TgOk (X.blk s H scope (compEnvC scope cl C X.env) fp) n.z tg gt t is)
    (ht : ∀ (s : Shared) (H : Hp) (C : Addr) (cl : List (Str × Addr)) (fp : List Addr), DTs (X.blk s H scope (compEnvC scope cl C X.env) fp) n.z W0 ifs tt)
    (he : ∀ (s : Shared) (H : Hp) (C : Addr) (cl : List (Str × Addr)) (fp : List Addr), DE (X.blk s H scope (compEnvC scope cl C X.env) fp) n.z W0 .sh elt f) (hs : ∀ x, foldedSetIterable iter X.env x = pure x := by intro _; rfl) :
    DS X n (.Assign [.Name y py] (.ListComp elt [⟨tg, iter, ifs, 0⟩] scope pos) spos) (sSet false i (eLc it t tt f (own.map (·.2)))) := by
  have h := ds_setLc hX hy hyl hsw hi ok hsub hg ht he hs
  refine ⟨fun pins s σ H D I ⟨ρ, g, Mu, S, hq⟩ => ?_⟩
  refine h.run pins s σ H D I ⟨ρ, g, Mu, S, ?_⟩
  have hl : i < ρ.length := by rw [S.env.len, I.len]; exact (List.getElem?_eq_some_iff.mp hy).1
  have hq : ((eLc it t tt f (own.map (·.2)) ρ g).bind fun d => M.pure (.nx (ρ.set i (some (false && d.box, d))))).all (FW X n D) (EW X n) := hq
  show ((eLc it t tt f (own.map (·.2)) ρ g).bind fun d => M.pure (.nx (ρ.set i (some (true && d.box, d))))).all (FW X n D) (EW X n)
  refine R.of_bind (R.all_imp (R.all_bind hq) (fun d g1 hq => ?_) fun _ _ _ _ h => h)
  intro σ' H' Mu' S'
  obtain ⟨Mu2, S2⟩ := S'.frz (i := i)
  refine hq σ' H' Mu2 ?_
  have e : frz (ρ.set i (some (true && d.box, d))) i = ρ.set i (some (false && d.box, d)) := by
    unfold frz
    rw [List.getElem?_set_self hl]
    cases hb : d.box with
    | true => show (ρ.set i (some (true, d))).set i (some (false, d)) = _; rw [List.set_set]; rfl
    | false => rfl
  rw [e] at S2
  exact S2
end DL
set_option Elab.async false
set_option linter.all false
set_option maxRecDepth 100000
set_option maxHeartbeats 2000000
/-! The value layer, part 22: readings computed. -/
namespace DL
open PySem PySem.Spec PyProof.Rows L2

/-! ### steps -/
section
variable {α β : Type} {ρ : Env} {g : G}
theorem rb_ok (a : α) (g : G) (k : α → M β) : (R.ok a g).bind k = k a g := rfl
theorem rb_exc (c f : Str) (l : List D) (g : G) (k : α → M β) : (R.exc c f l g : R α).bind k = .exc c f l g := rfl
theorem m_bind (m : M α) (k : α → M β) (g : G) : (m >>= k) g = (m g).bind k := rfl
theorem m_pure (a : α) (g : G) : (M.pure a : M α) g = .ok a g := rfl
theorem m_pure' (a : α) (g : G) : (pure a : M α) g = .ok a g := rfl
theorem m_opt (a : α) (g : G) : (ofOpt (some a) : M α) g = .ok a g := rfl
theorem e_var {i : Nat} {d : D} (h : ρ[i]? = some (some (false, d))) : eVar i ρ g = .ok d g := by
  unfold eVar shAt
  rw [h]
  rfl
theorem e_peek {i : Nat} {b : Bool} {d : D} (h : ρ[i]? = some (some (b, d))) : ePeek i ρ g = .ok d g := by
  unfold ePeek anyAt
  rw [h]
  rfl
theorem e_c (d : D) : eC d ρ g = .ok d g := rfl
theorem e_bin {h : D → D → Option D} {fa fb : Ep} {x y d : D} {g1 g2 : G} (ha : fa ρ g = .ok x g1) (hb : fb ρ g1 = .ok y g2) (hd : h x y = some d) : eBin h fa fb ρ g = .ok d g2 := by
  show ((fa ρ g).bind fun x => fun g => (fb ρ g).bind fun y => ofOpt (h x y)) = _
  rw [ha, rb_ok, hb, rb_ok, hd]
  rfl
theorem e_un {h : D → Option D} {fa : Ep} {x d : D} {g1 : G} (ha : fa ρ g = .ok x g1) (hd : h x = some d) : eUn h fa ρ g = .ok d g1 := by
  show ((fa ρ g).bind fun x => ofOpt (h x)) = _
  rw [ha, rb_ok, hd]
  rfl
theorem e_tr {f : Ep} {b : Bool} {g1 : G} (h : f ρ g = .ok (.bl b) g1) : eTr f ρ g = .ok b g1 := by
  show ((f ρ g).bind fun d => (match d with | .bl b => M.pure b | _ => stuck : M Bool)) = _
  rw [h]
  rfl
theorem s_nil : sNil ρ g = .ok [] g := rfl
theorem s_cons {f : Ep} {h : Es} {x : D} {xs : List D} {g1 g2 : G} (ha : f ρ g = .ok x g1) (hb : h ρ g1 = .ok xs g2) : sCons f h ρ g = .ok (x :: xs) g2 := by
  show ((f ρ g).bind fun x => fun g => (h ρ g).bind fun xs => M.pure (x :: xs)) = _
  rw [ha, rb_ok, hb]
  rfl
theorem e_call {h : List D → Option D} {fs : Es} {ds : List D} {d : D} {g1 : G} (ha : fs ρ g = .ok ds g1) (hd : h ds = some d) : eCall h fs ρ g = .ok d g1 := by
  show ((fs ρ g).bind fun ds => ofOpt (h ds)) = _
  rw [ha, rb_ok, hd]
  rfl
theorem e_callF {cf : List D → M D} {fs : Es} {ds : List D} {r : R D} {g1 : G} (ha : fs ρ g = .ok ds g1) (hd : cf ds g1 = r) : eCallF cf fs ρ g = r := by
  show ((fs ρ g).bind fun ds => cf ds) = _
  rw [ha, rb_ok, hd]
theorem e_callK {cf : List D → M D} {pm : List Nat} {fs gs : Es} {ds es : List D} {r : R D} {g1 g2 : G} (ha : fs ρ g = .ok ds g1) (hb : gs ρ g1 = .ok es g2) (hd : cf (pick pm (ds ++ es)) g2 = r) : eCallK cf pm fs gs ρ g = r := by
  show ((fs ρ g).bind fun ds => fun g => (gs ρ g).bind fun es => cf (pick pm (ds ++ es))) = _
  rw [ha, rb_ok, hb, rb_ok, hd]
theorem e_tup {h : Es} {ds : List D} {g1 : G} (ha : h ρ g = .ok ds g1) (hl : ds.length ≤ 1000) : eTup h ρ g = .ok (.tup ds) g1 := by
  have : ds.length ≤ sizeLine := Nat.le_trans hl (by rw [sizeLine_eq]; decide)
  unfold eTup
  rw [m_bind, ha, rb_ok, if_pos this]
  rfl
theorem e_lst {h : Es} {ds : List D} {g1 : G} (ha : h ρ g = .ok ds g1) (hl : ds.length ≤ 1000) : eLst h ρ g = .ok (.lst ds) g1 := by
  have : ds.length ≤ sizeLine := Nat.le_trans hl (by rw [sizeLine_eq]; decide)
  unfold eLst
  rw [m_bind, ha, rb_ok, if_pos this]
  rfl
theorem b_and {f h : Et} {b c : Bool} {g1 g2 : G} (hf : f ρ g = .ok b g1) (hh : b = true → h ρ g1 = .ok c g2) (h0 : b = false → c = false ∧ g2 = g1) : bAnd f h ρ g = .ok c g2 := by
  unfold bAnd
  rw [m_bind, hf, rb_ok]
  cases b with
  | true => exact hh rfl
  | false => obtain ⟨rfl, rfl⟩ := h0 rfl; rfl
theorem b_or {f h : Et} {b c : Bool} {g1 g2 : G} (hf : f ρ g = .ok b g1) (hh : b = false → h ρ g1 = .ok c g2) (h0 : b = true → c = true ∧ g2 = g1) : bOr f h ρ g = .ok c g2 := by
  unfold bOr
  rw [m_bind, hf, rb_ok]
  cases b with
  | false => exact hh rfl
  | true => obtain ⟨rfl, rfl⟩ := h0 rfl; rfl
theorem b_not {f : Et} {b : Bool} {g1 : G} (hf : f ρ g = .ok b g1) : bNot f ρ g = .ok (!b) g1 := by
  unfold bNot
  rw [m_bind, hf]
  rfl
theorem s_seq {t u : Ss} {ρ1 : Env} {g1 : G} {r : R Fl} (h : t ρ g = .ok (.nx ρ1) g1) (hu : u ρ1 g1 = r) : sSeq t u ρ g = r := by
  unfold sSeq
  rw [m_bind, h, rb_ok]
  exact hu
theorem s_seqR {t u : Ss} {d : D} {g1 : G} (h : t ρ g = .ok (.ret d) g1) : sSeq t u ρ g = .ok (.ret d) g1 := by
  unfold sSeq
  rw [m_bind, h]
  rfl
theorem s_seqX {t u : Ss} {c f : Str} {l : List D} {g1 : G} (h : t ρ g = .exc c f l g1) : sSeq t u ρ g = .exc c f l g1 := by
  unfold sSeq
  rw [m_bind, h]
  rfl
theorem s_if {c : Et} {t u : Ss} {b : Bool} {g1 : G} (h : c ρ g = .ok b g1) : sIf c t u ρ g = if b = true then t ρ g1 else u ρ g1 := by
  unfold sIf
  rw [m_bind, h, rb_ok]
  cases b <;> rfl
theorem s_ret {f : Ep} {d : D} {g1 : G} (h : f ρ g = .ok d g1) : sRet f ρ g = .ok (.ret d) g1 := by
  unfold sRet
  rw [m_bind, h]
  rfl
theorem s_retX {f : Ep} {c n : Str} {l : List D} {g1 : G} (h : f ρ g = .exc c n l g1) : sRet f ρ g = .exc c n l g1 := by
  unfold sRet
  rw [m_bind, h]
  rfl
theorem s_expr {f : Ep} {d : D} {g1 : G} (h : f ρ g = .ok d g1) : sExpr f ρ g = .ok (.nx ρ) g1 := by
  unfold sExpr
  rw [m_bind, h]
  rfl
theorem s_exprX {f : Ep} {c n : Str} {l : List D} {g1 : G} (h : f ρ g = .exc c n l g1) : sExpr f ρ g = .exc c n l g1 := by
  unfold sExpr
  rw [m_bind, h]
  rfl
theorem s_set {i : Nat} {f : Ep} {d : D} {g1 : G} (h : f ρ g = .ok d g1) : sSet false i f ρ g = .ok (.nx (ρ.set i (some (false, d)))) g1 := by
  unfold sSet
  rw [m_bind, h]
  rfl
theorem fn_ret {t : Ss} {n : Nat} {ds : List D} {d : D} {g1 : G} (h : t (startE n ds) g = .ok (.ret d) g1) : fnB t n ds g = .ok d g1 := by
  unfold fnB
  rw [m_bind, h]
  rfl
theorem fn_nx {t : Ss} {n : Nat} {ds : List D} {ρ1 : Env} {g1 : G} (h : t (startE n ds) g = .ok (.nx ρ1) g1) : fnB t n ds g = .ok .non g1 := by
  unfold fnB
  rw [m_bind, h]
  rfl
theorem fn_exc {t : Ss} {n : Nat} {ds : List D} {c f : Str} {l : List D} {g1 : G} (h : t (startE n ds) g = .exc c f l g1) : fnB t n ds g = .exc c f l g1 := by
  unfold fnB
  rw [m_bind, h]
  rfl
end

/-! ### numbers compared -/
theorem shaped_int (i : Int) : SeqAt.shaped (.int i) = true := by simp [SeqAt.shaped, PyData.canLay0, PyData.depth]
theorem dEq_int (a b : Int) : dEq (.int a) (.int b) = some (.bl (a == b)) := by
  show (dEqP (.int a) (.int b)).map D.bl = _
  unfold dEqP
  rw [D.py, D.py]
  simp [shaped_int, PyData.eqv]
theorem dNe_int (a b : Int) : dNe (.int a) (.int b) = some (.bl (!(a == b))) := by
  show (dEqP (.int a) (.int b)).map (fun c => D.bl (!c)) = _
  unfold dEqP
  rw [D.py, D.py]
  simp [shaped_int, PyData.eqv]

/-! ### the draws -/
/-- k draws are left in the purse -/
structure GI (k : Nat) (g : G) : Prop where
  l : g.large.length ≤ 63
  c : g.cells.length ≤ 63
  t0 : 0 ≤ g.turn
  t : g.turn + k ≤ 1000000000
theorem GI.mono {j k : Nat} {g : G} (h : GI k g) (hj : j ≤ k) : GI j g := ⟨h.l, h.c, h.t0, by have := h.t; omega⟩
theorem gi0 {ns : List Int} (h : ns.length ≤ 63) : GI 1000000000 (g0 ns) := ⟨Nat.le_trans (large0_len _) (by unfold cells0; rw [List.length_map]; exact h), by show (cells0 ns).length ≤ 63; unfold cells0; rw [List.length_map]; exact h, Int.le_refl _, by show (0 : Int) + _ ≤ _; decide⟩
def drawW : Ss := sWhile (bAnd (eTr (eBin dEq (eStL 0) (eC (.int 0)))) (tLsNe 0 (·.large))) (sSt 0 uL (ePopL 0)) 66
def drawR : Ss :=
  (sSeq (sSet false 3 (eBin dAdd (eStT 0) (eC (.int 1))))
  (sSeq (sSt 0 uT (eVar 3))
  (sSeq (sSet false 4 (eIf (tLsNe 0 (·.cells)) (eCellIx 0 (eBin dMod (eCall fInt (sCons (eVar 3) sNil)) (eCellLen 0))) (eC (.int 0))))
  (sSeq (sSet false 5 (eBin dMod (eCall fInt (sCons (eBin dPow (eBin dAdd (eBin dAdd (eBin dMod (eCall fInt (sCons (eVar 4) sNil)) (eC (.int 2147483563))) (eBin dMul (eC (.int 40692)) (eVar 3))) (eC (.int 24681))) (eC (.int 3))) sNil)) (eC (.int 2147483629))))
  (sRet (eBin dMod (eCall fInt (sCons (eBin dFdiv (eBin dMod (eCall fInt (sCons (eBin dPow (eBin dAdd (eVar 5) (eBin dMul (eC (.int 104917)) (eVar 3))) (eC (.int 5))) sNil)) (eC (.int 2147483579))) (eC (.int 29))) sNil)) (eVar 1)))))))
def drawT : Ss :=
  (sSeq drawW
  (sSeq (sIf (eTr (eBin dGt (eStL 0) (eC (.int 0))))
  (sSeq (sSet false 2 (eBin dMod (eCall fInt (sCons (eStL 0) sNil)) (eVar 1)))
  (sSeq (sSt 0 uL (eBin dFdiv (eStL 0) (eVar 1)))
  (sRet (eVar 2))))
  (fun ρ => M.pure (.nx ρ)))
  drawR))
theorem e_stL {i : Nat} {ρ : Env} {g : G} (h : ρ[i]? = some (some (false, .st))) : eStL i ρ g = .ok (.int g.left) g := by
  unfold eStL onSt shAt
  rw [h]
theorem e_stT {i : Nat} {ρ : Env} {g : G} (h : ρ[i]? = some (some (false, .st))) : eStT i ρ g = .ok (.int g.turn) g := by
  unfold eStT onSt shAt
  rw [h]
theorem t_lsNe {i : Nat} {l : G → List Int} {ρ : Env} {g : G} (h : ρ[i]? = some (some (false, .st))) : tLsNe i l ρ g = .ok (decide (l g ≠ [])) g := by
  unfold tLsNe onSt shAt
  rw [h]
theorem e_popL {i : Nat} {ρ : Env} {g : G} {x : Int} {xs : List Int} (h : ρ[i]? = some (some (false, .st))) (hl : g.large = x :: xs) : ePopL i ρ g = .ok (.int x) { g with large := xs } := by
  unfold ePopL onSt shAt
  rw [h]
  dsimp only
  rw [hl]
theorem s_st {i : Nat} {u : G → Int → G} {f : Ep} {v : Int} {ρ : Env} {g g1 : G} (h : ρ[i]? = some (some (false, .st))) (hf : f ρ g = .ok (.int v) g1) : sSt i u f ρ g = .ok (.nx ρ) (u g1 v) := by
  unfold sSt onSt shAt
  rw [m_bind, hf, rb_ok, h]
theorem e_cellLen {i : Nat} {ρ : Env} {g : G} (h : ρ[i]? = some (some (false, .st))) : eCellLen i ρ g = .ok (.int g.cells.length) g := by
  unfold eCellLen onSt shAt
  rw [h]
theorem e_cellIx {i : Nat} {ρ : Env} {fb : Ep} {g g1 : G} {k c : Int} (h : ρ[i]? = some (some (false, .st))) (hf : fb ρ g = .ok (.int k) g1) (hc : L2.atI g1.cells k = some c) : eCellIx i fb ρ g = .ok (.int c) g1 := by
  unfold eCellIx onSt shAt
  rw [h]
  dsimp only
  rw [m_bind, hf, rb_ok]
  dsimp only
  rw [hc]
theorem e_if {c : Et} {f h : Ep} {ρ : Env} {b : Bool} {g g1 : G} (hc : c ρ g = .ok b g1) : eIf c f h ρ g = if b = true then f ρ g1 else h ρ g1 := by
  unfold eIf
  rw [m_bind, hc, rb_ok]
  cases b <;> rfl
theorem drawW_ok {ρ : Env} (h : ρ[0]? = some (some (false, .st))) : ∀ (N : Nat) (g : G), g.large.length < N → ∃ g', sWhile (bAnd (eTr (eBin dEq (eStL 0) (eC (.int 0)))) (tLsNe 0 (·.large))) (sSt 0 uL (ePopL 0)) N ρ g = .ok (.nx ρ) g' ∧
    g'.turn = g.turn ∧ g'.cells = g.cells ∧ g'.large.length ≤ g.large.length
  | 0, g, hl => absurd hl (by omega)
  | N + 1, g, hl => by
    have t1 : eTr (eBin dEq (eStL 0) (eC (.int 0))) ρ g = .ok (g.left == 0) g := e_tr (e_bin (e_stL h) (e_c _) (dEq_int _ _))
    have t2 : bAnd (eTr (eBin dEq (eStL 0) (eC (.int 0)))) (tLsNe 0 (·.large)) ρ g = .ok ((g.left == 0) && decide (g.large ≠ [])) g := by
      refine b_and t1 (fun hb => ?_) fun hb => ?_
      · rw [t_lsNe h, hb, Bool.true_and]
      · rw [hb]; exact ⟨rfl, rfl⟩
    rw [sWhile, m_bind, t2, rb_ok]
    cases hc : ((g.left == 0) && decide (g.large ≠ [])) with
    | false => exact ⟨g, rfl, rfl, rfl, Nat.le_refl _⟩
    | true =>
      rw [Bool.and_eq_true, decide_eq_true_eq] at hc
      obtain ⟨x, xs, hx⟩ := List.exists_cons_of_ne_nil hc.2
      rw [if_pos rfl, m_bind, s_st h (e_popL h hx), rb_ok]
      have hlen : (uL { g with large := xs } x).large.length < N := by
        show xs.length < N
        rw [hx, List.length_cons] at hl
        omega
      obtain ⟨g', e, e1, e2, e3⟩ := drawW_ok h N (uL { g with large := xs } x) hlen
      refine ⟨g', e, e1, e2, Nat.le_trans e3 ?_⟩
      show xs.length ≤ _
      rw [hx, List.length_cons]
      omega
theorem natAbs_lt {i B : Int} {n : Nat} (h0 : 0 ≤ i) (h : i < B) (hB : B ≤ (n : Int)) : i.natAbs < n := by omega
theorem draw_ok {n : Int} {k : Nat} {g : G} (hn : 0 < n) (hn2 : n ≤ 1000000000) (h : GI (k + 1) g) : ∃ r g', fnB drawT 6 [.st, .int n] g = .ok (.int r) g' ∧ 0 ≤ r ∧ r < n ∧ GI k g' := by
  obtain ⟨g1, e1, c1, c2, c3⟩ := drawW_ok (ρ := startE 6 [.st, .int n]) rfl 66 g (by have := h.l; omega)
  have hlog : n.natAbs.log2 < 9000 := by
    have h1 : n.natAbs < 2 ^ 9000 := by
      refine Nat.lt_of_le_of_lt (show n.natAbs ≤ 2 ^ 30 by omega) ?_
      exact Nat.pow_lt_pow_right (by decide) (by decide)
    exact (Nat.log2_lt (by omega)).mpr h1
  have i1 : GI (k + 1) g1 := ⟨Nat.le_trans c3 h.l, by rw [c2]; exact h.c, by rw [c1]; exact h.t0, by rw [c1]; exact h.t⟩
  have tl : eTr (eBin dGt (eStL 0) (eC (.int 0))) (startE 6 [.st, .int n]) g1 = .ok (decide (0 < g1.left)) g1 := e_tr (e_bin (e_stL rfl) (e_c _) rfl)
  by_cases hl : 0 < g1.left
  · refine ⟨g1.left % n, uL g1 (g1.left / n), fn_ret (s_seq e1 (s_seqR ?_)), Int.emod_nonneg _ (by omega), Int.emod_lt_of_pos _ hn, ⟨i1.l, i1.c, i1.t0, by have := i1.t; show g1.turn + (k : Int) ≤ _; omega⟩⟩
    rw [s_if tl, if_pos (decide_eq_true hl)]
    refine s_seq (s_set (e_bin (e_call (s_cons (e_stL rfl) s_nil) rfl) (e_var rfl) (?_ : dMod (.int g1.left) (.int n) = some (.int (g1.left % n))))) (s_seq (s_st rfl (e_bin (e_stL rfl) (e_var rfl) (?_ : dFdiv (.int g1.left) (.int n) = some (.int (g1.left / n))))) (s_ret (e_var rfl)))
    · unfold dMod; dsimp only; rw [if_pos hn]
    · unfold dFdiv; dsimp only; rw [if_pos ⟨hn, hlog⟩]
  · let t : Int := g1.turn + 1
    have ht0 : 0 ≤ t := by have := i1.t0; show 0 ≤ g1.turn + 1; omega
    have ht1 : t ≤ 1000000000 := by have := i1.t; show g1.turn + 1 ≤ _; omega
    have cell : ∃ c : Int, ∀ ρ : Env, ρ[0]? = some (some (false, .st)) → ρ[3]? = some (some (false, .int t)) → eIf (tLsNe 0 (·.cells)) (eCellIx 0 (eBin dMod (eCall fInt (sCons (eVar 3) sNil)) (eCellLen 0))) (eC (.int 0)) ρ (uT g1 t) = .ok (.int c) (uT g1 t) := by
      by_cases hc : g1.cells = []
      · refine ⟨0, fun ρ h0 h3 => ?_⟩
        rw [e_if (t_lsNe h0), if_neg (by rw [decide_eq_true_eq]; exact fun w => w hc)]
        rfl
      · have hp : 0 < (g1.cells.length : Int) := by
          have := List.length_pos_iff.mpr hc
          omega
        have hlt : t % (g1.cells.length : Int) < g1.cells.length := Int.emod_lt_of_pos _ hp
        have hge : 0 ≤ t % (g1.cells.length : Int) := Int.emod_nonneg _ (by omega)
        have hix : (t % (g1.cells.length : Int)).toNat < g1.cells.length := by omega
        refine ⟨g1.cells[(t % (g1.cells.length : Int)).toNat], fun ρ h0 h3 => ?_⟩
        rw [e_if (t_lsNe h0), if_pos (by rw [decide_eq_true_eq]; exact hc)]
        refine e_cellIx h0 (e_bin (e_call (s_cons (e_var h3) s_nil) rfl) (e_cellLen h0) (?_ : dMod (.int t) (.int g1.cells.length) = some (.int (t % (g1.cells.length : Int))))) ?_
        · unfold dMod; dsimp only; rw [if_pos hp]
        · unfold L2.atI ixN
          show ((if 0 ≤ t % (g1.cells.length : Int) then (if t % (g1.cells.length : Int) < g1.cells.length then some (t % (g1.cells.length : Int)).toNat else none) else _).bind fun j => g1.cells[j]?) = _
          rw [if_pos hge, if_pos hlt]
          exact List.getElem?_eq_getElem hix
    obtain ⟨c, hcell⟩ := cell
    have m1 : 0 ≤ c % 2147483563 ∧ c % 2147483563 < 2147483563 := ⟨Int.emod_nonneg _ (by decide), Int.emod_lt_of_pos _ (by decide)⟩
    let b1 : Int := c % 2147483563 + 40692 * t + 24681
    have hb1 : 0 ≤ b1 ∧ b1 < 100000000000000 := by
      constructor <;> simp only [b1] <;> omega
    let x : Int := b1 ^ (3 : Int).toNat % 2147483629
    have hx : 0 ≤ x ∧ x < 2147483629 := ⟨Int.emod_nonneg _ (by decide), Int.emod_lt_of_pos _ (by decide)⟩
    let b2 : Int := x + 104917 * t
    have hb2 : 0 ≤ b2 ∧ b2 < 1000000000000000 := by
      constructor <;> simp only [b2] <;> omega
    let y : Int := b2 ^ (5 : Int).toNat % 2147483579 / 29
    refine ⟨y % n, uT g1 t, fn_ret (s_seq e1 (s_seq (ρ1 := startE 6 [.st, .int n]) (g1 := g1) ?_ ?_)), Int.emod_nonneg _ (by omega), Int.emod_lt_of_pos _ hn, ⟨i1.l, i1.c, ht0, by have := i1.t; show g1.turn + 1 + (k : Int) ≤ _; omega⟩⟩
    · rw [s_if tl, if_neg (by rw [decide_eq_true_eq]; exact hl)]
    · refine s_seq (s_set (e_bin (e_stT rfl) (e_c _) rfl)) (s_seq (s_st rfl (e_var rfl)) (s_seq (s_set (hcell _ rfl rfl)) (s_seq (s_set (d := .int x) (g1 := uT g1 t) ?_) (s_ret (g1 := uT g1 t) ?_))))
      · refine e_bin (x := .int (b1 ^ (3 : Int).toNat)) (e_call (ds := [.int (b1 ^ (3 : Int).toNat)]) (s_cons (e_bin (x := .int b1) (e_bin (x := .int (c % 2147483563 + 40692 * t)) (e_bin (x := .int (c % 2147483563)) (e_bin (e_call (s_cons (e_var rfl) s_nil) rfl) (e_c _) rfl) (e_bin (y := .int t) (d := .int (40692 * t)) (e_c _) (e_var rfl) ?_) rfl) (e_c _) rfl) (e_c _) ?_) s_nil) rfl) (e_c _) rfl
        · unfold dMul; dsimp only; rw [if_pos (.inl ⟨by decide, by decide⟩)]
        · unfold dPow; dsimp only; rw [if_pos ⟨by decide, by decide, natAbs_lt hb1.1 hb1.2 (by decide)⟩]
      · refine e_bin (x := .int y) (y := .int n) (e_call (ds := [.int y]) (s_cons (e_bin (x := .int (b2 ^ (5 : Int).toNat % 2147483579)) (e_bin (x := .int (b2 ^ (5 : Int).toNat)) (e_call (ds := [.int (b2 ^ (5 : Int).toNat)]) (s_cons (e_bin (x := .int b2) (e_bin (x := .int x) (y := .int (104917 * t)) (e_var rfl) (e_bin (y := .int t) (e_c _) (e_var rfl) ?_) rfl) (e_c _) ?_) s_nil) rfl) (e_c _) rfl) (e_c _) ?_) s_nil) rfl) (e_var rfl) ?_
        · unfold dMul; dsimp only; rw [if_pos (.inl ⟨by decide, by decide⟩)]
        · unfold dPow; dsimp only; rw [if_pos ⟨by decide, by decide, natAbs_lt hb2.1 hb2.2 (by decide)⟩]
        · unfold dFdiv; dsimp only; rw [if_pos ⟨by decide, by decide⟩]
        · unfold dMod; dsimp only; rw [if_pos hn]
end DL
set_option Elab.async false
set_option linter.all false
set_option maxRecDepth 100000
set_option maxHeartbeats 2000000
/-! The value layer, part 23: loops and comprehensions computed, isinstance, sorted numbers. -/
namespace DL
open PySem PySem.Spec PyProof.Rows L2

theorem line_1000 {n : Nat} (h : n ≤ 1000) : n ≤ sizeLine := Nat.le_trans h (by rw [sizeLine_eq]; decide)
/-! ### comprehensions -/
theorem nox_ok {α : Type} {m : M α} {g g' : G} {a : α} (h : m g = .ok a g') : nox m g = .ok a g' := by
  unfold nox
  rw [h]
section
variable {ρ : Env} {t : D → Env → Option Env} {tt : Et} {f : Ep} {g g1 g2 : G} {vs : List Nat} {it : Es}
theorem e_lc {ds out : List D} (hi : it ρ g = .ok ds g1) (hl : ds.length ≤ 1000) (h : sLcL (wipeE ρ vs) t tt f ds g1 = .ok out g2) : eLc it t tt f vs ρ g = .ok (.lst out) g2 := by
  unfold eLc
  rw [m_bind, hi, rb_ok, m_bind, if_pos (line_1000 hl), m_opt, rb_ok, m_bind, h]
  rfl
/-- nothing is drawn -/
theorem lc_pure (P : D → Bool) (F : D → D) : ∀ l : List D, (∀ d ∈ l, ∃ ρ', t d ρ = some ρ' ∧ tt ρ' g = .ok (P d) g ∧ (P d = true → f ρ' g = .ok (F d) g)) → sLcL ρ t tt f l g = .ok ((l.filter P).map F) g
  | [], _ => rfl
  | d :: l, h => by
    obtain ⟨ρ', h1, h2, h3⟩ := h d List.mem_cons_self
    have ih := lc_pure P F l fun x hx => h x (List.mem_cons_of_mem _ hx)
    rw [sLcL, m_bind, h1, m_opt, rb_ok, m_bind, nox_ok h2, rb_ok]
    cases hp : P d with
    | true => rw [if_pos rfl, m_bind, nox_ok (h3 hp), rb_ok, m_bind, ih, rb_ok, List.filter_cons_of_pos hp, List.map_cons]
    | false => rw [if_neg (by decide), ih, List.filter_cons_of_neg (by rw [hp]; decide)]
theorem lc_all (F : D → D) (l : List D) (h : ∀ d ∈ l, ∃ ρ', t d ρ = some ρ' ∧ f ρ' g = .ok (F d) g) : sLcL ρ t sYes f l g = .ok (l.map F) g := by
  have q := lc_pure (ρ := ρ) (t := t) (tt := sYes) (f := f) (g := g) (fun _ => true) F l fun d hd => by
    obtain ⟨ρ', h1, h2⟩ := h d hd
    exact ⟨ρ', h1, rfl, fun _ => h2⟩
  rw [q, List.filter_eq_self.mpr fun _ _ => rfl]
/-- each item draws at most c times -/
theorem lc_draw (c : Nat) (Q : D → Prop) : ∀ (l : List D) (k : Nat) (g : G), (∀ d ∈ l, ∀ k g, GI (k + c) g → ∃ ρ' y g', t d ρ = some ρ' ∧ f ρ' g = .ok y g' ∧ GI k g' ∧ Q y) → GI (k + c * l.length) g →
    ∃ ys g', sLcL ρ t sYes f l g = .ok ys g' ∧ ys.length = l.length ∧ (∀ y ∈ ys, Q y) ∧ GI k g'
  | [], k, g, _, h => ⟨[], g, rfl, rfl, (fun _ h => nomatch h), h⟩
  | d :: l, k, g, hs, h => by
    obtain ⟨ρ', y, g1, h1, h2, h3, h4⟩ := hs d List.mem_cons_self (k + c * l.length) g (by rw [List.length_cons, Nat.mul_succ] at h; rw [Nat.add_assoc]; exact h)
    obtain ⟨ys, g2, e1, e2, e3, e4⟩ := lc_draw c Q l k g1 (fun x hx => hs x (List.mem_cons_of_mem _ hx)) h3
    refine ⟨y :: ys, g2, ?_, by rw [List.length_cons, List.length_cons, e2], fun z hz => ?_, e4⟩
    · rw [sLcL, m_bind, h1, m_opt, rb_ok, m_bind, nox_ok (show sYes ρ' g = .ok true g from rfl), rb_ok, if_pos rfl, m_bind, nox_ok h2, rb_ok, m_bind, e1]
      rfl
    · rcases List.mem_cons.mp hz with rfl | hz
      · exact h4
      · exact e3 z hz
end
/-! ### for -/
theorem s_for {f : Es} {t : D → Env → Option Env} {body : Ss} {ρ : Env} {g g1 : G} {l : List D} {r : R Fl} (hf : f ρ g = .ok l g1) (h : sForL t body l ρ g1 = r) : sFor f t body ρ g = r := by
  unfold sFor
  rw [m_bind, hf, rb_ok, h]
theorem for_draw {t : D → Env → Option Env} {body : Ss} (c : Nat) (J : Env → Prop) : ∀ (l : List D) (ρ : Env) (k : Nat) (g : G), (∀ d ∈ l, ∀ ρ, J ρ → ∀ k g, GI (k + c) g → ∃ ρ1 ρ2 g', t d ρ = some ρ1 ∧ body ρ1 g = .ok (.nx ρ2) g' ∧ J ρ2 ∧ GI k g') → J ρ → GI (k + c * l.length) g →
    ∃ ρ2 g', sForL t body l ρ g = .ok (.nx ρ2) g' ∧ J ρ2 ∧ GI k g'
  | [], ρ, k, g, _, hj, h => ⟨ρ, g, rfl, hj, h⟩
  | d :: l, ρ, k, g, hs, hj, h => by
    obtain ⟨ρ1, ρ2, g1, h1, h2, h3, h4⟩ := hs d List.mem_cons_self ρ hj (k + c * l.length) g (by rw [List.length_cons, Nat.mul_succ] at h; rw [Nat.add_assoc]; exact h)
    obtain ⟨ρ3, g2, e1, e2, e3⟩ := for_draw c J l ρ2 k g1 (fun x hx => hs x (List.mem_cons_of_mem _ hx)) h3 h4
    refine ⟨ρ3, g2, ?_, e2, e3⟩
    rw [sForL, m_bind, h1, m_opt, rb_ok, m_bind, h2, rb_ok]
    exact e1
/-- nothing is drawn -/
theorem for_pure {t : D → Env → Option Env} {body : Ss} {g : G} (J : Env → Prop) : ∀ (l : List D) (ρ : Env), (∀ d ∈ l, ∀ ρ, J ρ → ∃ ρ1 ρ2, t d ρ = some ρ1 ∧ body ρ1 g = .ok (.nx ρ2) g ∧ J ρ2) → J ρ → ∃ ρ2, sForL t body l ρ g = .ok (.nx ρ2) g ∧ J ρ2
  | [], ρ, _, hj => ⟨ρ, rfl, hj⟩
  | d :: l, ρ, hs, hj => by
    obtain ⟨ρ1, ρ2, h1, h2, h3⟩ := hs d List.mem_cons_self ρ hj
    obtain ⟨ρ3, e1, e2⟩ := for_pure J l ρ2 (fun x hx => hs x (List.mem_cons_of_mem _ hx)) h3
    refine ⟨ρ3, ?_, e2⟩
    rw [sForL, m_bind, h1, m_opt, rb_ok, m_bind, h2, rb_ok]
    exact e1
theorem s_range1 {f : Ep} {ρ : Env} {g g1 : G} {n : Nat} (h : f ρ g = .ok (.int (n : Int)) g1) (hn : n ≤ 1000000) : sRange1 f ρ g = .ok (rangeL 0 n) g1 := by
  unfold sRange1
  rw [m_bind, h, rb_ok]
  unfold fR1
  dsimp only
  rw [if_pos ⟨by omega, by omega⟩, Int.toNat_natCast]
  rfl
theorem s_itemsL {f : Ep} {ρ : Env} {g g1 : G} {l : List D} (h : f ρ g = .ok (.lst l) g1) : sItems f ρ g = .ok l g1 := by
  unfold sItems
  rw [m_bind, h]
  rfl
theorem s_itemsT {f : Ep} {ρ : Env} {g g1 : G} {l : List D} (h : f ρ g = .ok (.tup l) g1) : sItems f ρ g = .ok l g1 := by
  unfold sItems
  rw [m_bind, h]
  rfl
theorem rangeL_len (lo : Int) (n : Nat) : (rangeL lo n).length = n := by unfold rangeL; rw [List.length_map, List.length_range]
theorem mem_rangeL {lo : Int} {n : Nat} {d : D} (h : d ∈ rangeL lo n) : ∃ i : Nat, i < n ∧ d = .int (lo + i) := by
  unfold rangeL at h
  obtain ⟨i, hi, rfl⟩ := List.mem_map.mp h
  exact ⟨i, List.mem_range.mp hi, rfl⟩
/-! ### isinstance -/
def kindsB : List String := ["NoneType", "bool", "int", "str", "tuple", "list", "dict"]
def isK (t n : String) : Bool := t == n || (t == "bool" && n == "int")
theorem kit_all : ∀ t ∈ kindsB, ∀ n ∈ ["int", "bool", "tuple", "list", "str", "dict"], kitB t n = some (isK t n) := by decide +kernel
theorem isi_ty {sub : Str → Str → Option Bool} {cls : Str → Bool} {d : D} {t n : String} (h : tyN d = some t) (hn : n ∈ ["int", "bool", "tuple", "list", "str", "dict"]) : fIsi sub cls [d, .ty n] = some (.bl (isK t n)) := by
  have hk := kit_all t (tyN_mem h) n hn
  have e : fIsi sub cls [d, .ty n] = (match tyN d with | some t => (kitB t n).map D.bl | none => none) := by
    cases d with
    | exc c f l => cases l <;> rfl
    | _ => rfl
  rw [e, h]
  show (kitB t n).map D.bl = _
  rw [hk]
  rfl
def isInt : D → Bool
  | .int _ => true
  | _ => false
def isTup : D → Bool
  | .tup _ => true
  | _ => false
/-- of a plain kind -/
def plain (d : D) : Prop := (tyN d).isSome = true
theorem plain_ty {d : D} (h : plain d) : ∃ t, tyN d = some t := Option.isSome_iff_exists.mp h
theorem isi_int {sub : Str → Str → Option Bool} {cls : Str → Bool} {d : D} (h : plain d) : fIsi sub cls [d, .ty "int"] = some (.bl (isInt d || match d with | .bl _ => true | _ => false)) := by
  obtain ⟨t, ht⟩ := plain_ty h
  rw [isi_ty ht (by simp)]
  cases d <;> simp only [tyN, reduceCtorEq, Option.some.injEq] at ht <;> subst ht <;> rfl
theorem isi_bool {sub : Str → Str → Option Bool} {cls : Str → Bool} {d : D} (h : plain d) : fIsi sub cls [d, .ty "bool"] = some (.bl (match d with | .bl _ => true | _ => false)) := by
  obtain ⟨t, ht⟩ := plain_ty h
  rw [isi_ty ht (by simp)]
  cases d <;> simp only [tyN, reduceCtorEq, Option.some.injEq] at ht <;> subst ht <;> rfl
theorem isi_tup {sub : Str → Str → Option Bool} {cls : Str → Bool} {d : D} (h : plain d) : fIsi sub cls [d, .ty "tuple"] = some (.bl (isTup d)) := by
  obtain ⟨t, ht⟩ := plain_ty h
  rw [isi_ty ht (by simp)]
  cases d <;> simp only [tyN, reduceCtorEq, Option.some.injEq] at ht <;> subst ht <;> rfl
theorem e_andT {f h : Ep} {ρ : Env} {g g1 : G} (hf : f ρ g = .ok (.bl true) g1) : eAnd (eTr f) h ρ g = h ρ g1 := by
  unfold eAnd
  rw [m_bind, e_tr hf, rb_ok]
  rfl
theorem e_andF {f h : Ep} {ρ : Env} {g g1 : G} (hf : f ρ g = .ok (.bl false) g1) : eAnd (eTr f) h ρ g = .ok (.bl false) g1 := by
  unfold eAnd
  rw [m_bind, e_tr hf, rb_ok]
  rfl
theorem e_not {f : Ep} {ρ : Env} {b : Bool} {g g1 : G} (hf : f ρ g = .ok (.bl b) g1) : eNot f ρ g = .ok (.bl (!b)) g1 := by
  unfold eNot eBo
  rw [m_bind, b_not (e_tr hf)]
  rfl
theorem e_chainI {fa fb fc : Ep} {ρ : Env} {a b c : Int} {g g1 g2 : G} (ha : fa ρ g = .ok (.int a) g1) (hb : fb ρ g1 = .ok (.int b) g2) (hc : fc ρ g2 = .ok (.int c) g2) : eChain dLe dLe fa fb fc ρ g = .ok (.bl (decide (a ≤ b) && decide (b ≤ c))) g2 := by
  unfold eChain
  rw [m_bind, ha, rb_ok, m_bind, hb, rb_ok]
  rw [m_bind, show dLe (D.int a) (D.int b) = some (.bl (decide (a ≤ b))) from rfl, m_opt, rb_ok]
  by_cases h : a ≤ b
  · rw [decide_eq_true h, Bool.true_and]
    dsimp only
    rw [m_bind, hc]
    rfl
  · rw [decide_eq_false h, Bool.false_and]
theorem cut_to {l : List D} {k : Int} (h0 : 0 ≤ k) (h1 : k ≤ l.length) : DL.cutD l none (some k) = l.take k.toNat := by
  unfold DL.cutD HT.sIx
  dsimp only
  rw [if_neg (by omega), List.drop_zero, Nat.sub_zero]
  congr 1
  omega
theorem e_slTo {f fk : Ep} {ρ : Env} {g : G} {l : List D} {k : Int} (hf : f ρ g = .ok (.lst l) g) (hk : fk ρ g = .ok (.int k) g) (h0 : 0 ≤ k) (h1 : k ≤ l.length) : eSl f oNone (oSome fk) ρ g = .ok (.lst (l.take k.toNat)) g := by
  unfold eSl
  rw [m_bind, hf, rb_ok, m_bind, show oNone ρ g = .ok none g from rfl, rb_ok, m_bind]
  have e : oSome fk ρ g = .ok (some k) g := by
    unfold oSome
    rw [m_bind, hk]
    rfl
  rw [e, rb_ok]
  show ofOpt (some (D.lst (DL.cutD l none (some k)))) g = _
  rw [cut_to h0 h1]
  rfl
theorem log_ok {n : Int} (hn : 0 < n) (hn2 : n ≤ 1000000000) : n.natAbs.log2 < 9000 := by
  have h1 : n.natAbs < 2 ^ 9000 := by
    refine Nat.lt_of_le_of_lt (show n.natAbs ≤ 2 ^ 30 by omega) ?_
    exact Nat.pow_lt_pow_right (by decide) (by decide)
  exact (Nat.log2_lt (by omega)).mpr h1
theorem fdiv_ok {a n : Int} (hn : 0 < n) (hn2 : n ≤ 1000000000) : dFdiv (.int a) (.int n) = some (.int (a / n)) := by
  unfold dFdiv
  dsimp only
  rw [if_pos ⟨hn, log_ok hn hn2⟩]
theorem mul_ok {a b : Int} (h0 : -1000000 ≤ a) (h1 : a ≤ 1000000) : dMul (.int a) (.int b) = some (.int (a * b)) := by
  unfold dMul
  dsimp only
  rw [if_pos (.inl ⟨by omega, by omega⟩)]
theorem ix_0 {l : List D} {d : D} (h : l[0]? = some d) : dIx (.lst l) (.int 0) = some d := by
  show L2.atI l 0 = some d
  unfold L2.atI ixN
  have hl : 0 < l.length := (List.getElem?_eq_some_iff.mp h).1
  rw [if_pos (by decide), if_pos (by omega)]
  exact h
theorem ints_of {P : Int → Prop} : ∀ {l : List D}, (∀ y ∈ l, ∃ i, y = D.int i ∧ P i) → ∃ ns : List Int, l = ns.map D.int ∧ ∀ i ∈ ns, P i
  | [], _ => ⟨[], rfl, fun _ h => nomatch h⟩
  | y :: l, h => by
    obtain ⟨i, rfl, hi⟩ := h y List.mem_cons_self
    obtain ⟨ns, rfl, hn⟩ := ints_of (l := l) fun x hx => h x (List.mem_cons_of_mem _ hx)
    refine ⟨i :: ns, rfl, fun j hj => ?_⟩
    rcases List.mem_cons.mp hj with rfl | hj
    · exact hi
    · exact hn j hj
/-- the i-th of a list -/
theorem ix_l {l : List D} {i : Int} (h0 : 0 ≤ i) (h1 : i < l.length) : ∃ d, dIx (.lst l) (.int i) = some d ∧ d ∈ l := by
  refine ⟨l[i.toNat]'(by omega), ?_, List.getElem_mem _⟩
  show L2.atI l i = _
  unfold L2.atI ixN
  rw [if_pos h0, if_pos h1]
  exact List.getElem?_eq_getElem (by omega)
theorem rep_tup {v : D} {k : Int} (h0 : 0 ≤ k) (h1 : k ≤ 1000) : dMul (.tup [v]) (.int k) = some (.tup (List.replicate k.toNat v)) := by
  unfold dMul
  dsimp only
  rw [if_pos ⟨by omega, h1, (by show 1 ≤ 1000; decide), fun h => by cases h⟩]
  have e : ∀ n : Nat, (List.replicate n [v]).flatten = List.replicate n v := fun n => by
    induction n with
    | zero => rfl
    | succ n ih => rw [List.replicate_succ, List.flatten_cons, ih, List.replicate_succ]; rfl
  rw [e]
/-! ### sorted numbers -/
theorem sort_ints {ns : List Int} (hl : ns.length ≤ 1000) : ∃ ms : List Int, ms.Perm ns ∧ sortD (ns.map D.int) = some (ms.map D.int) := by
  have hp := pys_ints ns
  have hok : sortOk (ns.map PyData.int) = true := by
    unfold sortOk alikeB sortB
    simp only [Bool.and_eq_true, Bool.or_eq_true, List.all_map, List.all_eq_true, Function.comp_apply, decide_eq_true_eq]
    refine ⟨⟨fun x _ y _ => rfl, .inr fun x _ => trivial⟩, fun x _ => ?_⟩
    rw [PyData.depth]
    omega
  unfold sortD
  rw [hp]
  dsimp only
  rw [if_pos ⟨hok, by rw [List.length_map]; exact line_1000 hl⟩]
  have pm := List.mergeSort_perm (ns.map D.int) (PySem.W.dataLe false pyD)
  have allInt : ∀ l : List D, (∀ d ∈ l, ∃ n, d = D.int n) → ∃ ms : List Int, l = ms.map D.int := fun l => by
    induction l with
    | nil => exact fun _ => ⟨[], rfl⟩
    | cons d l ih =>
      intro h
      obtain ⟨n, rfl⟩ := h d List.mem_cons_self
      obtain ⟨ms, rfl⟩ := ih fun x hx => h x (List.mem_cons_of_mem _ hx)
      exact ⟨n :: ms, rfl⟩
  obtain ⟨ms, hm⟩ := allInt _ fun d hd => by
    obtain ⟨n, _, rfl⟩ := List.mem_map.mp (pm.mem_iff.mp hd)
    exact ⟨n, rfl⟩
  refine ⟨ms, ?_, by rw [hm]⟩
  rw [hm] at pm
  have e : ∀ l : List Int, (l.map D.int).filterMap (fun d => match d with | .int n => some n | _ => none) = l := fun l => by
    induction l with
    | nil => rfl
    | cons n l ih => rw [List.map_cons, List.filterMap_cons]; exact congrArg _ ih
  have pf := pm.filterMap fun d => match d with | .int n => some n | _ => none
  rw [e, e] at pf
  exact pf
/-! ### texts compared -/
theorem dNe_str_self (x : Str) : dNe (.str x) (.str x) = some (.bl false) := by
  show (some (decide (x = x))).map (fun c => D.bl (!c)) = _
  rw [decide_eq_true rfl]
  rfl
/-- two texts of equal things -/
theorem e_reprNe {fa fb : Es} {ρ : Env} {g g1 g2 : G} {d : D} {p : PyData} (ha : fa ρ g = .ok [d] g1) (hb : fb ρ g1 = .ok [d] g2) (hp : d.py = some p) (ho : okR p = true) : eTr (eBin dNe (eCall fRepr fa) (eCall fRepr fb)) ρ g = .ok false g2 := by
  have e : fRepr [d] = some (.str p.shown) := by
    unfold fRepr
    dsimp only
    rw [hp]
    dsimp only
    rw [if_pos ho]
  exact e_tr (e_bin (e_call ha e) (e_call hb e) (dNe_str_self _))
end DL
set_option Elab.async false
set_option linter.all false
set_option maxRecDepth 100000
set_option maxHeartbeats 4000000
namespace K38
open PySem PySem.Spec PyProof.Rows L2 DL
abbrev pw : Program := PySem.Challenge.pw_pairpicks_k38_sizes_that_make_sure
def top (i : Nat) : Stmt := pw.main.body.getD i (.Pass ⟨0, 0, 0, 0⟩)
theorem nogd {A : Around} : false = true → A.guards = some [] := fun h => by cases h

abbrev s__law_begun : Stmt := top 15
abbrev s__law_caught : Stmt := top 18
theorem b__law_caught : BindsT "_law_caught" s__law_caught ["_law_work"] := fun _ _ _ _ _ _ us hl => match us, hl with | [_], _ => rfl
theorem ca_ok : CaughtT s__law_caught "_law_work" "_law_caught_here" "PickError" "error" := ⟨⟨_, _, _, _, _, _, _, _, _, _, _, _, _, _, _, rfl⟩, ⟨rfl, rfl, rfl, by decide +kernel, rfl, by decide +kernel, by decide +kernel⟩, rfl, rfl, rfl, rfl, by decide, by decide, by decide, by decide, by decide, by decide, by decide⟩
theorem b__law_begun : BindsT "_law_begun" s__law_begun ["_law_script"] := fun _ _ _ _ _ _ us hl => match us, hl with | [_], _ => rfl
def pks : List Str := ["BadNumber", "BadSizes"]
def isiT : List (Str × Str × Bool) := [("BadNumber", "BadNumber", true), ("BadNumber", "BadSizes", false), ("BadSizes", "BadNumber", false), ("BadSizes", "BadSizes", true)]
def isiC : List Str := ["BadNumber", "BadSizes"]
abbrev isi : List D → Option D := fIsi (subOf isiT) (fun c => isiC.contains c)
abbrev s_is_between : Stmt := top 7
abbrev N_is_between : List Str := ["thing", "low", "high"]
def t_is_between : Ss :=
  (sRet (eAnd (eTr (eCall isi (sCons (eVar 0) (sCons (eC (.ty "int")) sNil)))) (eAnd (eTr (eNot (eCall isi (sCons (eVar 0) (sCons (eC (.ty "bool")) sNil))))) (eChain dLe dLe (eVar 1) (eVar 0) (eVar 2)))))
def f_is_between : List D → M D := fnB t_is_between 3
theorem sc_is_between : FnScope N_is_between ["thing", "low", "high"] (defScope s_is_between) := ⟨rfl, rfl, rfl, by decide +kernel, rfl, by decide +kernel, by decide +kernel⟩
theorem b_is_between : BindsT "is_between" s_is_between ["thing", "low", "high"] := fun _ _ _ _ _ _ us hl => match us, hl with | [_, _, _], _ => rfl
abbrev s_are_sizes : Stmt := top 9
abbrev N_are_sizes : List Str := ["thing", "item"]
def t_are_sizes : Ss :=
  (sSeq (sIf (bOr (bNot (eTr (eCall isi (sCons (eVar 0) (sCons (eC (.ty "tuple")) sNil))))) (bNot (eTr (eChain dLe dLe (eC (.int 1)) (eCall fLen (sCons (eVar 0) sNil)) (eC (.int 16))))))
  (sRet (eC (.bl false)))
  (fun ρ => M.pure (.nx ρ)))
  (sRet (eCall fAll (sCons (eLc (sItems (eVar 0)) (gN 1) sYes (eCallF f_is_between (sCons (eVar 1) (sCons (eC (.int 0)) (sCons (eBin dAdd (eC (.int 7)) (eC (.int 1))) sNil)))) [1]) sNil))))
def f_are_sizes : List D → M D := fnB t_are_sizes 2
theorem sc_are_sizes : FnScope N_are_sizes ["thing"] (defScope s_are_sizes) := ⟨rfl, rfl, rfl, by decide +kernel, rfl, by decide +kernel, by decide +kernel⟩
theorem b_are_sizes : BindsT "are_sizes" s_are_sizes ["thing"] := fun _ _ _ _ _ _ us hl => match us, hl with | [_], _ => rfl
abbrev s_need_sizes : Stmt := top 10
abbrev N_need_sizes : List Str := ["thing"]
def t_need_sizes : Ss :=
  (sIf (bNot (eTr (eCallF f_are_sizes (sCons (eVar 0) sNil))))
  (sRaise "BadSizes")
  (fun ρ => M.pure (.nx ρ)))
def f_need_sizes : List D → M D := fnB t_need_sizes 1
theorem sc_need_sizes : FnScope N_need_sizes ["thing"] (defScope s_need_sizes) := ⟨rfl, rfl, rfl, by decide +kernel, rfl, by decide +kernel, by decide +kernel⟩
theorem b_need_sizes : BindsT "need_sizes" s_need_sizes ["thing"] := fun _ _ _ _ _ _ us hl => match us, hl with | [_], _ => rfl
abbrev s_surplus_over : Stmt := top 11
abbrev N_surplus_over : List Str := ["sizes", "many", "size"]
def t_surplus_over : Ss :=
  (sRet (eCall fSum (sCons (eLc (sItems (eVar 0)) (gN 2) (eTr (eBin dGt (eVar 2) (eVar 1))) (eBin dSub (eVar 2) (eVar 1)) [2]) sNil)))
def f_surplus_over : List D → M D := fnB t_surplus_over 3
theorem sc_surplus_over : FnScope N_surplus_over ["sizes", "many"] (defScope s_surplus_over) := ⟨rfl, rfl, rfl, by decide +kernel, rfl, by decide +kernel, by decide +kernel⟩
theorem b_surplus_over : BindsT "surplus_over" s_surplus_over ["sizes", "many"] := fun _ _ _ _ _ _ us hl => match us, hl with | [_, _], _ => rfl
abbrev s_wide_sure : Stmt := top 12
abbrev N_wide_sure : List Str := ["sizes", "rising", "many"]
def t_wide_sure : Ss :=
  (sSeq (sExpr (eCallF f_need_sizes (sCons (eVar 0) sNil)))
  (sSeq (sPar false false 1 2 (eCall fSorted (sCons (eVar 0) sNil)) (eC (.int 0)))
  (sSeq (sWhile (eTr (eBin dGt (eCallF f_surplus_over (sCons (eSl (eVar 1) oNone (oSome (eCall fMax2 (sCons (eC (.int 0)) (sCons (eBin dSub (eCall fLen (sCons (eVar 1) sNil)) (eVar 2)) sNil))))) (sCons (eVar 2) sNil))) (eVar 2)))
  (sSet false 2 (eBin dAdd (eVar 2) (eC (.int 1)))) 66)
  (sRet (eVar 2)))))
def f_wide_sure : List D → M D := fnB t_wide_sure 3
theorem sc_wide_sure : FnScope N_wide_sure ["sizes"] (defScope s_wide_sure) := ⟨rfl, rfl, rfl, by decide +kernel, rfl, by decide +kernel, by decide +kernel⟩
theorem b_wide_sure : BindsT "wide_sure" s_wide_sure ["sizes"] := fun _ _ _ _ _ _ us hl => match us, hl with | [_], _ => rfl
abbrev s_plans_for : Stmt := top 13
abbrev N_plans_for : List Str := ["pairs", "fewer"]
def t_plans_for : Ss :=
  (sSeq (sIf (bNot (eTr (eCallF f_is_between (sCons (eVar 0) (sCons (eC (.int 1)) (sCons (eBin dAdd (eC (.int 7)) (eC (.int 1))) sNil))))))
  (sRaise "BadNumber")
  (fun ρ => M.pure (.nx ρ)))
  (sSeq (sIf (bNot (eTr (eCallF f_is_between (sCons (eVar 1) (sCons (eC (.int 0)) (sCons (eBin dSub (eVar 0) (eC (.int 1))) sNil))))))
  (sRaise "BadNumber")
  (fun ρ => M.pure (.nx ρ)))
  (sRet (eBin dSub (eBin dFdiv (eBin dMul (eBin dAdd (eVar 1) (eC (.int 2))) (eVar 0)) (eBin dAdd (eVar 1) (eC (.int 1)))) (eBin dAdd (eVar 1) (eC (.int 1)))))))
def f_plans_for : List D → M D := fnB t_plans_for 2
theorem sc_plans_for : FnScope N_plans_for ["pairs", "fewer"] (defScope s_plans_for) := ⟨rfl, rfl, rfl, by decide +kernel, rfl, by decide +kernel, by decide +kernel⟩
theorem b_plans_for : BindsT "plans_for" s_plans_for ["pairs", "fewer"] := fun _ _ _ _ _ _ us hl => match us, hl with | [_, _], _ => rfl
abbrev s__law_draw : Stmt := top 16
abbrev N__law_draw : List Str := ["_law_state", "_law_size_here", "_law_found", "_law_turn", "_law_cell", "_law_mixed"]
def t__law_draw : Ss :=
  (sSeq (sWhile (bAnd (eTr (eBin dEq (eStL 0) (eC (.int 0)))) (tLsNe 0 (·.large)))
  (sSt 0 uL (ePopL 0)) 66)
  (sSeq (sIf (eTr (eBin dGt (eStL 0) (eC (.int 0))))
  (sSeq (sSet false 2 (eBin dMod (eCall fInt (sCons (eStL 0) sNil)) (eVar 1)))
  (sSeq (sSt 0 uL (eBin dFdiv (eStL 0) (eVar 1)))
  (sRet (eVar 2))))
  (fun ρ => M.pure (.nx ρ)))
  (sSeq (sSet false 3 (eBin dAdd (eStT 0) (eC (.int 1))))
  (sSeq (sSt 0 uT (eVar 3))
  (sSeq (sSet false 4 (eIf (tLsNe 0 (·.cells)) (eCellIx 0 (eBin dMod (eCall fInt (sCons (eVar 3) sNil)) (eCellLen 0))) (eC (.int 0))))
  (sSeq (sSet false 5 (eBin dMod (eCall fInt (sCons (eBin dPow (eBin dAdd (eBin dAdd (eBin dMod (eCall fInt (sCons (eVar 4) sNil)) (eC (.int 2147483563))) (eBin dMul (eC (.int 40692)) (eVar 3))) (eC (.int 24681))) (eC (.int 3))) sNil)) (eC (.int 2147483629))))
  (sRet (eBin dMod (eCall fInt (sCons (eBin dFdiv (eBin dMod (eCall fInt (sCons (eBin dPow (eBin dAdd (eVar 5) (eBin dMul (eC (.int 104917)) (eVar 3))) (eC (.int 5))) sNil)) (eC (.int 2147483579))) (eC (.int 29))) sNil)) (eVar 1)))))))))
def f__law_draw : List D → M D := fnB t__law_draw 6
theorem sc__law_draw : FnScope N__law_draw ["_law_state", "_law_size_here"] (defScope s__law_draw) := ⟨rfl, rfl, rfl, by decide +kernel, rfl, by decide +kernel, by decide +kernel⟩
theorem b__law_draw : BindsT "_law_draw" s__law_draw ["_law_state", "_law_size_here"] := fun _ _ _ _ _ _ us hl => match us, hl with | [_, _], _ => rfl
abbrev s__law_pick : Stmt := top 17
abbrev N__law_pick : List Str := ["_law_state", "_law_several"]
def t__law_pick : Ss :=
  (sRet (eBin dIx (eVar 1) (eCallF f__law_draw (sCons (eVar 0) (sCons (eCall fLen (sCons (eVar 1) sNil)) sNil)))))
def f__law_pick : List D → M D := fnB t__law_pick 2
theorem sc__law_pick : FnScope N__law_pick ["_law_state", "_law_several"] (defScope s__law_pick) := ⟨rfl, rfl, rfl, by decide +kernel, rfl, by decide +kernel, by decide +kernel⟩
theorem b__law_pick : BindsT "_law_pick" s__law_pick ["_law_state", "_law_several"] := fun _ _ _ _ _ _ us hl => match us, hl with | [_, _], _ => rfl
abbrev s__law_over : Stmt := top 19
abbrev N__law_over : List Str := ["_law_sizes_here", "_law_many", "_law_size_here"]
def t__law_over : Ss :=
  (sRet (eCall fSum (sCons (eLc (sItems (eVar 0)) (gN 2) (eTr (eBin dGt (eVar 2) (eVar 1))) (eBin dSub (eVar 2) (eVar 1)) [2]) sNil)))
def f__law_over : List D → M D := fnB t__law_over 3
theorem sc__law_over : FnScope N__law_over ["_law_sizes_here", "_law_many"] (defScope s__law_over) := ⟨rfl, rfl, rfl, by decide +kernel, rfl, by decide +kernel, by decide +kernel⟩
theorem b__law_over : BindsT "_law_over" s__law_over ["_law_sizes_here", "_law_many"] := fun _ _ _ _ _ _ us hl => match us, hl with | [_, _], _ => rfl
abbrev s__law_wide_sure : Stmt := top 20
abbrev N__law_wide_sure : List Str := ["_law_sizes_here", "_law_rising", "_law_fits", "_law_many"]
def t__law_wide_sure : Ss :=
  (sSeq (sSet false 1 (eCall fSorted (sCons (eVar 0) sNil)))
  (sSeq (sSet false 2 (eLc (sRange1 (eBin dAdd (eCall fLen (sCons (eVar 1) sNil)) (eC (.int 1)))) (gN 3) (eTr (eBin dLe (eCallF f__law_over (sCons (eSl (eVar 1) oNone (oSome (eBin dSub (eCall fLen (sCons (eVar 1) sNil)) (eVar 3)))) (sCons (eVar 3) sNil))) (eVar 3))) (eVar 3) [3]))
  (sRet (eBin dIx (eVar 2) (eC (.int 0))))))
def f__law_wide_sure : List D → M D := fnB t__law_wide_sure 4
theorem sc__law_wide_sure : FnScope N__law_wide_sure ["_law_sizes_here"] (defScope s__law_wide_sure) := ⟨rfl, rfl, rfl, by decide +kernel, rfl, by decide +kernel, by decide +kernel⟩
theorem b__law_wide_sure : BindsT "_law_wide_sure" s__law_wide_sure ["_law_sizes_here"] := fun _ _ _ _ _ _ us hl => match us, hl with | [_], _ => rfl
abbrev s__law_wrong_sizes : Stmt := top 21
abbrev N__law_wrong_sizes : List Str := ["_law_state", "_law_sizes_here", "_law_spot", "_law_some", "_law_item"]
def t__law_wrong_sizes : Ss :=
  (sSeq (sSet false 2 (eCallF f__law_draw (sCons (eVar 0) (sCons (eCall fLen (sCons (eVar 1) sNil)) sNil))))
  (sSeq (sSet false 3 (eLc (sItems (eLst (sCons (eC (.int 9)) (sCons (eUn uNeg (eC (.int 1))) (sCons (eC .non) (sCons (eC (.bl true)) (sCons (eC (.str "1")) sNil))))))) (gN 4) sYes (eBin dAdd (eBin dAdd (eSl (eVar 1) oNone (oSome (eVar 2))) (eTup (sCons (eVar 4) sNil))) (eSl (eVar 1) (oSome (eBin dAdd (eVar 2) (eC (.int 1)))) oNone)) [4]))
  (sRet (eCallF f__law_pick (sCons (eVar 0) (sCons (eBin dAdd (eVar 3) (eLst (sCons (eCall fList (sCons (eVar 1) sNil)) (sCons (eTup sNil) (sCons (eBin dMul (eTup (sCons (eC (.int 1)) sNil)) (eC (.int 17))) (sCons (eC .non) (sCons (eC (.int 5)) (sCons (eC (.dct [])) (sCons (eC (.str "12")) sNil))))))))) sNil))))))
def f__law_wrong_sizes : List D → M D := fnB t__law_wrong_sizes 5
theorem sc__law_wrong_sizes : FnScope N__law_wrong_sizes ["_law_state", "_law_sizes_here"] (defScope s__law_wrong_sizes) := ⟨rfl, rfl, rfl, by decide +kernel, rfl, by decide +kernel, by decide +kernel⟩
theorem b__law_wrong_sizes : BindsT "_law_wrong_sizes" s__law_wrong_sizes ["_law_state", "_law_sizes_here"] := fun _ _ _ _ _ _ us hl => match us, hl with | [_, _], _ => rfl
abbrev s__law_wrong_number : Stmt := top 22
abbrev N__law_wrong_number : List Str := ["_law_state"]
def t__law_wrong_number : Ss :=
  (sRet (eCallF f__law_pick (sCons (eVar 0) (sCons (eLst (sCons (eC (.int 0)) (sCons (eC (.int 9)) (sCons (eUn uNeg (eC (.int 1))) (sCons (eC .non) (sCons (eC (.bl true)) (sCons (eC (.str "2")) (sCons (eTup (sCons (eC (.int 2)) sNil)) (sCons (eLst (sCons (eC (.int 2)) sNil)) (sCons (eBin dPow (eC (.int 10)) (eC (.int 6))) sNil)))))))))) sNil))))
def f__law_wrong_number : List D → M D := fnB t__law_wrong_number 1
theorem sc__law_wrong_number : FnScope N__law_wrong_number ["_law_state"] (defScope s__law_wrong_number) := ⟨rfl, rfl, rfl, by decide +kernel, rfl, by decide +kernel, by decide +kernel⟩
theorem b__law_wrong_number : BindsT "_law_wrong_number" s__law_wrong_number ["_law_state"] := fun _ _ _ _ _ _ us hl => match us, hl with | [_], _ => rfl
abbrev s_law : Stmt := top 23
abbrev N_law : List Str := ["_law_script", "_law_state", "_law_turn", "_law_sizes_here", "_law_due", "_law_less", "_law_bad", "_law_many", "_law_odd", "_law_wrong", "_law_lap"]
def t_law : Ss :=
  (sSeq (sFor (sRange1 (eBin dAdd (eC (.int 3)) (eCall fMin2 (sCons (eCall fLen (sCons (eVar 0) sNil)) (sCons (eC (.int 8)) sNil))))) (gN 2)
  (sSeq (sSet false 3 (eCall fTuple (sCons (eLc (sRange1 (eBin dAdd (eC (.int 1)) (eCallF f__law_draw (sCons (eVar 1) (sCons (eC (.int 16)) sNil))))) (gN 10) sYes (eCallF f__law_draw (sCons (eVar 1) (sCons (eC (.int 9)) sNil))) [10]) sNil)))
  (sSeq (sIf (eTr (eBin dEq (eCallF f__law_draw (sCons (eVar 1) (sCons (eC (.int 2)) sNil))) (eC (.int 0))))
  (sSet false 3 (eBin dMul (eTup (sCons (eBin dAdd (eC (.int 1)) (eCallF f__law_draw (sCons (eVar 1) (sCons (eC (.int 8)) sNil)))) sNil)) (eBin dAdd (eC (.int 1)) (eCallF f__law_draw (sCons (eVar 1) (sCons (eC (.int 16)) sNil))))))
  (fun ρ => M.pure (.nx ρ)))
  (sSeq (sSet false 4 (eCallF f__law_wide_sure (sCons (eVar 3) sNil)))
  (sSeq (sIf (eTr (eBin dNe (eCall fRepr (sCons (eLst (sCons (eCallF f_wide_sure (sCons (eVar 3) sNil)) (sCons (eCallK f_wide_sure [0] sNil (sCons (eVar 3) sNil)) sNil))) sNil)) (eCall fRepr (sCons (eLst (sCons (eVar 4) (sCons (eVar 4) sNil))) sNil))))
  (sRet (eC (.bl false)))
  (fun ρ => M.pure (.nx ρ)))
  (sSeq (sSet false 7 (eBin dAdd (eC (.int 1)) (eCallF f__law_draw (sCons (eVar 1) (sCons (eC (.int 8)) sNil)))))
  (sSeq (sSet false 5 (eCallF f__law_draw (sCons (eVar 1) (sCons (eVar 7) sNil))))
  (sSeq (sSet false 4 (eBin dSub (eBin dSub (eBin dFdiv (eBin dMul (eBin dAdd (eVar 5) (eC (.int 2))) (eVar 7)) (eBin dAdd (eVar 5) (eC (.int 1)))) (eVar 5)) (eC (.int 1))))
  (sSeq (sIf (eTr (eBin dNe (eCall fRepr (sCons (eLst (sCons (eCallF f_plans_for (sCons (eVar 7) (sCons (eVar 5) sNil))) (sCons (eCallK f_plans_for [1, 0] sNil (sCons (eVar 5) (sCons (eVar 7) sNil))) sNil))) sNil)) (eCall fRepr (sCons (eLst (sCons (eVar 4) (sCons (eVar 4) sNil))) sNil))))
  (sRet (eC (.bl false)))
  (fun ρ => M.pure (.nx ρ)))
  (sSeq (sIf (bOr (eTr (eBin dLt (eCallF f_wide_sure (sCons (eBin dMul (eTup (sCons (eVar 7) sNil)) (eVar 4)) sNil)) (eBin dSub (eVar 7) (eVar 5)))) (bAnd (eTr (eBin dGt (eBin dSub (eVar 7) (eVar 5)) (eC (.int 1)))) (eTr (eBin dGe (eCallF f_wide_sure (sCons (eBin dMul (eTup (sCons (eVar 7) sNil)) (eBin dSub (eBin dSub (eVar 7) (eVar 5)) (eC (.int 1)))) sNil)) (eBin dSub (eVar 7) (eVar 5))))))
  (sRet (eC (.bl false)))
  (fun ρ => M.pure (.nx ρ)))
  (sSeq (sSet false 9 (eCallF f__law_wrong_sizes (sCons (eVar 1) (sCons (eVar 3) sNil))))
  (sSeq (sIf (bNot (eTr (eCall isi (sCons (eCaught pks (eCallF f_wide_sure (sCons (eVar 9) sNil))) (sCons (eC (.fn "BadSizes")) sNil)))))
  (sRet (eC (.bl false)))
  (fun ρ => M.pure (.nx ρ)))
  (sSeq (sSet false 8 (eCallF f__law_wrong_number (sCons (eVar 1) sNil)))
  (sSeq (sIf (bNot (eTr (eCall isi (sCons (eCaught pks (eCallF f_plans_for (sCons (eVar 8) (sCons (eC (.int 0)) sNil)))) (sCons (eC (.fn "BadNumber")) sNil)))))
  (sRet (eC (.bl false)))
  (fun ρ => M.pure (.nx ρ)))
  (sFor (sItems (eLst (sCons (eVar 7) (sCons (eUn uNeg (eC (.int 1))) (sCons (eC .non) (sCons (eC (.bl true)) (sCons (eC (.bl false)) (sCons (eC (.str "0")) (sCons (eTup (sCons (eC (.int 0)) sNil)) sNil))))))))) (gN 6)
  (sIf (bNot (eTr (eCall isi (sCons (eCaught pks (eCallF f_plans_for (sCons (eVar 7) (sCons (eVar 6) sNil)))) (sCons (eC (.fn "BadNumber")) sNil)))))
  (sRet (eC (.bl false)))
  (fun ρ => M.pure (.nx ρ))))))))))))))))))
  (sRet (eC (.bl true))))
def f_law : List D → M D := fnB t_law 11
theorem sc_law : FnScope N_law ["_law_script"] (defScope s_law) := ⟨rfl, rfl, rfl, by decide +kernel, rfl, by decide +kernel, by decide +kernel⟩
theorem b_law : BindsT "law" s_law ["_law_script"] := fun _ _ _ _ _ _ us hl => match us, hl with | [_], _ => rfl
theorem kb_wide_sure_sizes : KBindsT "wide_sure" s_wide_sure ["sizes"] ["sizes"] [0] 0 := fun _ _ _ _ _ _ us ws h1 h2 => match us, ws, h1, h2 with | [], [_], _, _ => ⟨rfl, rfl⟩
theorem kb_plans_for_fewer_pairs : KBindsT "plans_for" s_plans_for ["pairs", "fewer"] ["fewer", "pairs"] [1, 0] 0 := fun _ _ _ _ _ _ us ws h1 h2 => match us, ws, h1, h2 with | [], [_, _], _, _ => ⟨rfl, rfl⟩
/-- what the top has written -/
structure Tx (K : PySem.W.Frag) (mg : Str → Option Value) (cL : Addr) : Prop where
  F_is_between : IsFn K mg "is_between" s_is_between
  F_are_sizes : IsFn K mg "are_sizes" s_are_sizes
  F_need_sizes : IsFn K mg "need_sizes" s_need_sizes
  F_surplus_over : IsFn K mg "surplus_over" s_surplus_over
  F_wide_sure : IsFn K mg "wide_sure" s_wide_sure
  F_plans_for : IsFn K mg "plans_for" s_plans_for
  F__law_begun : IsFn K mg "_law_begun" s__law_begun
  F__law_draw : IsFn K mg "_law_draw" s__law_draw
  F__law_pick : IsFn K mg "_law_pick" s__law_pick
  F__law_caught : IsFn K mg "_law_caught" s__law_caught
  F__law_over : IsFn K mg "_law_over" s__law_over
  F__law_wide_sure : IsFn K mg "_law_wide_sure" s__law_wide_sure
  F__law_wrong_sizes : IsFn K mg "_law_wrong_sizes" s__law_wrong_sizes
  F__law_wrong_number : IsFn K mg "_law_wrong_number" s__law_wrong_number
  F_law : IsFnL K mg "law" s_law cL
  E_BadNumber : IsExc K mg "BadNumber"
  E_BadSizes : IsExc K mg "BadSizes"
  I_MOST_NUMBER : IsInt mg "MOST_NUMBER" 7
  I_MOST_PLANS : IsInt mg "MOST_PLANS" 16
  n_abs : mg "abs" = none
  n_all : mg "all" = none
  n_bool : mg "bool" = none
  n_int : mg "int" = none
  n_isinstance : mg "isinstance" = none
  n_len : mg "len" = none
  n_list : mg "list" = none
  n_max : mg "max" = none
  n_min : mg "min" = none
  n_range : mg "range" = none
  n_repr : mg "repr" = none
  n_sorted : mg "sorted" = none
  n_sum : mg "sum" = none
  n_tuple : mg "tuple" = none
  isi : IsiOk K mg (subOf isiT) (fun c => isiC.contains c)
  pk : PkOk K mg "PickError" pks
section
variable {P : Program} {w : World} {K : PySem.W.Frag} {mg : Str → Option Value} {base : Heap} {T : List (Addr × Str)} {cL : Addr}
theorem ok_is_between (X0 : Tx K mg cL) : Cal false P w K mg base T 1 "is_between" s_is_between ["thing", "low", "high"] .sh f_is_between := by
  refine cal_of (t := t_is_between) X0.F_is_between sc_is_between (fun f cdv A outer s H E n hX hr tk hgdT hk hTm => ?_)
  exact (ds_one (ds_retS hk (DE.sh (de_and (de_callB (call_isi' X0.isi) rfl X0.n_isinstance rfl (da_cons (de_var (pv 0)) (da_cons (de_ty rfl X0.n_int rfl) da_nil))) (de_and (de_not (de_callB (call_isi' X0.isi) rfl X0.n_isinstance rfl (da_cons (de_var (pv 0)) (da_cons (de_ty rfl X0.n_bool rfl) da_nil)))) (de_one (de_chain op_dLe op_dLe (de_var (pv 1)) (de_var (pv 0)) (de_var (pv 2)))))))))
theorem ok_are_sizes (X0 : Tx K mg cL) : Cal false P w K mg base T 2 "are_sizes" s_are_sizes ["thing"] .sh f_are_sizes := by
  refine cal_of (t := t_are_sizes) X0.F_are_sizes sc_are_sizes (fun f cdv A outer s H E n hX hr tk hgdT hk hTm => ?_)
  exact (ds_cons (ds_if (dt_w (dw_or (dt_not (dt_of (de_callB (call_isi' X0.isi) rfl X0.n_isinstance rfl (da_cons (de_var (pv 0)) (da_cons (de_ty rfl X0.n_tuple rfl) da_nil))))) (dw_or1 (dt_not (dt_chain op_dLe op_dLe de_int (de_callB call_len' rfl X0.n_len rfl (da_cons (de_var (pv 0)) da_nil)) (de_gint X0.I_MOST_PLANS rfl)))))) (ds_one (ds_retS hk (DE.sh de_bl))) ds_nil) (ds_one (ds_retS hk (DE.sh (de_callB (call_all' hX) rfl X0.n_all rfl (da_cons (de_lc (own := [("item", 1)]) hX (di_seq (DE.peek (de_var (pv 0)))) (blkOk_by (by kernel_rfl)) (by decide) (fun _ _ _ _ _ => (tg_name (XG.blk hX).nd rfl (.inl rfl))) (fun _ _ _ _ _ => dts_nil) (fun _ _ _ _ _ => (de_cal (ok_is_between X0) b_is_between nogd LamX.takes0 hr (by decide) rfl (das_cons (de_var (pv 1)) (das_cons (DE.sh de_int) (das_cons (DE.sh (de_bin op_dAdd (de_gint X0.I_MOST_NUMBER rfl) de_int)) das_nil))) (al_cons (al_cons (al_cons al_nil)))))) da_nil))))))
theorem ok_need_sizes (X0 : Tx K mg cL) : Cal false P w K mg base T 3 "need_sizes" s_need_sizes ["thing"] .sh f_need_sizes := by
  refine cal_of (t := t_need_sizes) X0.F_need_sizes sc_need_sizes (fun f cdv A outer s H E n hX hr tk hgdT hk hTm => ?_)
  exact (ds_one (ds_if (dt_not (dt_of (de_cal (ok_are_sizes X0) b_are_sizes nogd tk hr (by decide) rfl (das_cons (de_var (pv 0)) das_nil) (al_cons al_nil)))) (ds_one (ds_raiseC hX tk X0.E_BadSizes rfl)) ds_nil))
theorem ok_surplus_over (X0 : Tx K mg cL) : Cal false P w K mg base T 1 "surplus_over" s_surplus_over ["sizes", "many"] .sh f_surplus_over := by
  refine cal_of (t := t_surplus_over) X0.F_surplus_over sc_surplus_over (fun f cdv A outer s H E n hX hr tk hgdT hk hTm => ?_)
  exact (ds_one (ds_retS hk (DE.sh (de_callB (call_sum' hX) rfl X0.n_sum rfl (da_cons (de_lc (own := [("size", 2)]) hX (di_seq (DE.peek (de_var (pv 0)))) (blkOk_by (by kernel_rfl)) (by decide) (fun _ _ _ _ _ => (tg_name (XG.blk hX).nd rfl (.inl rfl))) (fun _ _ _ _ _ => (dts_one (dt_cmp op_dGt (de_var (pv 2)) (de_var (pv 1)) (nomark _)))) (fun _ _ _ _ _ => (DE.sh (de_bin op_dSub (de_var (pv 2)) (de_var (pv 1)))))) da_nil)))))
theorem ok_wide_sure (X0 : Tx K mg cL) : Cal false P w K mg base T 4 "wide_sure" s_wide_sure ["sizes"] .sh f_wide_sure := by
  refine cal_of (t := t_wide_sure) X0.F_wide_sure sc_wide_sure (fun f cdv A outer s H E n hX hr tk hgdT hk hTm => ?_)
  exact (ds_cons (ds_expr (de_cal (ok_need_sizes X0) b_need_sizes nogd tk hr (by decide) rfl (das_cons (de_var (pv 0)) das_nil) (al_cons al_nil))) (ds_cons (ds_par2 (o1 := false) (o2 := false) (i := 1) (j := 2) hX rfl rfl (by decide) rfl rfl (DE.sh (de_callB (call_sorted' hX) rfl X0.n_sorted rfl (da_cons (de_var (pv 0)) da_nil))) (DE.sh de_int)) (ds_cons (ds_while 66 (passes_of rfl) (dt_cmp op_dGt (de_cal (ok_surplus_over X0) b_surplus_over nogd tk hr (by decide) rfl (das_cons (DE.sh (de_sl (de_var (pv 1)) do_none (do_some (de_callB (call_max2' hX) rfl X0.n_max rfl (da_cons de_int (da_cons (de_bin op_dSub (de_callB call_len' rfl X0.n_len rfl (da_cons (de_var (pv 1)) da_nil)) (de_var (pv 2))) da_nil)))))) (das_cons (de_var (pv 2)) das_nil)) (al_cons (al_cons al_nil))) (de_var (pv 2)) (nomark _)) (ds_one (ds_set false hX.nd rfl (.inl rfl) (DE.sh (de_bin op_dAdd (de_var (pv 2)) de_int))))) (ds_one (ds_retS hk (de_var (pv 2)))))))
theorem ok_plans_for (X0 : Tx K mg cL) : Cal false P w K mg base T 2 "plans_for" s_plans_for ["pairs", "fewer"] .sh f_plans_for := by
  refine cal_of (t := t_plans_for) X0.F_plans_for sc_plans_for (fun f cdv A outer s H E n hX hr tk hgdT hk hTm => ?_)
  exact (ds_cons (ds_if (dt_not (dt_of (de_cal (ok_is_between X0) b_is_between nogd tk hr (by decide) rfl (das_cons (de_var (pv 0)) (das_cons (DE.sh de_int) (das_cons (DE.sh (de_bin op_dAdd (de_gint X0.I_MOST_NUMBER rfl) de_int)) das_nil))) (al_cons (al_cons (al_cons al_nil)))))) (ds_one (ds_raiseC hX tk X0.E_BadNumber rfl)) ds_nil) (ds_cons (ds_if (dt_not (dt_of (de_cal (ok_is_between X0) b_is_between nogd tk hr (by decide) rfl (das_cons (de_var (pv 1)) (das_cons (DE.sh de_int) (das_cons (DE.sh (de_bin op_dSub (de_var (pv 0)) de_int)) das_nil))) (al_cons (al_cons (al_cons al_nil)))))) (ds_one (ds_raiseC hX tk X0.E_BadNumber rfl)) ds_nil) (ds_one (ds_retS hk (DE.sh (de_bin op_dSub (de_bin op_dFdiv (de_bin op_dMul (de_bin op_dAdd (de_var (pv 1)) de_int) (de_var (pv 0))) (de_bin op_dAdd (de_var (pv 1)) de_int)) (de_bin op_dAdd (de_var (pv 1)) de_int)))))))
theorem ok__law_draw (X0 : Tx K mg cL) : Cal false P w K mg base T 1 "_law_draw" s__law_draw ["_law_state", "_law_size_here"] .sh f__law_draw := by
  refine cal_of (t := t__law_draw) X0.F__law_draw sc__law_draw (fun f cdv A outer s H E n hX hr tk hgdT hk hTm => ?_)
  exact (ds_cons (ds_while 66 (passes_of rfl) (dt_w (dw_and (dt_cmp (op_dEq hX) (de_stL hX (pv 0)) de_int (nomark _)) (dw_and1 (dt_large hX (pv 0))))) (ds_one (ds_stL hX (pv 0) (de_popL hX (pv 0))))) (ds_cons (ds_if (dt_cmp op_dGt (de_stL hX (pv 0)) de_int (nomark _)) (ds_cons (ds_set false hX.nd rfl (.inl rfl) (DE.sh (de_bin op_dMod (de_callTy call_int' rfl X0.n_int rfl (da_cons (de_stL hX (pv 0)) da_nil)) (de_var (pv 1))))) (ds_cons (ds_stL hX (pv 0) (de_bin op_dFdiv (de_stL hX (pv 0)) (de_var (pv 1)))) (ds_one (ds_retS hk (de_var (pv 2)))))) ds_nil) (ds_cons (ds_set false hX.nd rfl (.inl rfl) (DE.sh (de_bin op_dAdd (de_stT hX (pv 0)) de_int))) (ds_cons (ds_stT hX (pv 0) (de_var (pv 3))) (ds_cons (ds_set false hX.nd rfl (.inl rfl) (DE.sh (de_if (dt_cells hX (pv 0)) (de_cellIx hX (pv 0) (de_bin op_dMod (de_callTy call_int' rfl X0.n_int rfl (da_cons (de_var (pv 3)) da_nil)) (de_cellLen hX rfl X0.n_len (pv 0)))) de_int))) (ds_cons (ds_set false hX.nd rfl (.inl rfl) (DE.sh (de_bin op_dMod (de_callTy call_int' rfl X0.n_int rfl (da_cons (de_bin op_dPow (de_bin op_dAdd (de_bin op_dAdd (de_bin op_dMod (de_callTy call_int' rfl X0.n_int rfl (da_cons (de_var (pv 4)) da_nil)) de_int) (de_bin op_dMul de_int (de_var (pv 3)))) de_int) de_int) da_nil)) de_int))) (ds_one (ds_retS hk (DE.sh (de_bin op_dMod (de_callTy call_int' rfl X0.n_int rfl (da_cons (de_bin op_dFdiv (de_bin op_dMod (de_callTy call_int' rfl X0.n_int rfl (da_cons (de_bin op_dPow (de_bin op_dAdd (de_var (pv 5)) (de_bin op_dMul de_int (de_var (pv 3)))) de_int) da_nil)) de_int) de_int) da_nil)) (de_var (pv 1))))))))))))
theorem ok__law_pick (X0 : Tx K mg cL) : Cal false P w K mg base T 2 "_law_pick" s__law_pick ["_law_state", "_law_several"] .sh f__law_pick := by
  refine cal_of (t := t__law_pick) X0.F__law_pick sc__law_pick (fun f cdv A outer s H E n hX hr tk hgdT hk hTm => ?_)
  exact (ds_one (ds_retS hk (de_ix ix_seq' (de_var (pv 1)) (de_cal (ok__law_draw X0) b__law_draw nogd tk hr (by decide) rfl (das_cons (de_var (pv 0)) (das_cons (DE.sh (de_callB call_len' rfl X0.n_len rfl (da_cons (de_var (pv 1)) da_nil))) das_nil)) (al_cons (al_cons al_nil))))))
theorem ok__law_over (X0 : Tx K mg cL) : Cal false P w K mg base T 1 "_law_over" s__law_over ["_law_sizes_here", "_law_many"] .sh f__law_over := by
  refine cal_of (t := t__law_over) X0.F__law_over sc__law_over (fun f cdv A outer s H E n hX hr tk hgdT hk hTm => ?_)
  exact (ds_one (ds_retS hk (DE.sh (de_callB (call_sum' hX) rfl X0.n_sum rfl (da_cons (de_lc (own := [("_law_size_here", 2)]) hX (di_seq (DE.peek (de_var (pv 0)))) (blkOk_by (by kernel_rfl)) (by decide) (fun _ _ _ _ _ => (tg_name (XG.blk hX).nd rfl (.inl rfl))) (fun _ _ _ _ _ => (dts_one (dt_cmp op_dGt (de_var (pv 2)) (de_var (pv 1)) (nomark _)))) (fun _ _ _ _ _ => (DE.sh (de_bin op_dSub (de_var (pv 2)) (de_var (pv 1)))))) da_nil)))))
theorem ok__law_wide_sure (X0 : Tx K mg cL) : Cal false P w K mg base T 2 "_law_wide_sure" s__law_wide_sure ["_law_sizes_here"] .sh f__law_wide_sure := by
  refine cal_of (t := t__law_wide_sure) X0.F__law_wide_sure sc__law_wide_sure (fun f cdv A outer s H E n hX hr tk hgdT hk hTm => ?_)
  exact (ds_cons (ds_set false hX.nd rfl (.inr rfl) (DE.sh (de_callB (call_sorted' hX) rfl X0.n_sorted rfl (da_cons (de_var (pv 0)) da_nil)))) (ds_cons (ds_setLcS (own := [("_law_many", 3)]) hX rfl rfl rfl (di_range1 rfl X0.n_range (de_bin op_dAdd (de_callB call_len' rfl X0.n_len rfl (da_cons (de_var (pv 1)) da_nil)) de_int)) (blkOk_by (by kernel_rfl)) (by decide) (fun _ _ _ _ _ => (tg_name (XG.blk hX).nd rfl (.inl rfl))) (fun _ _ _ _ _ => (dts_one (dt_cmp op_dLe (de_cal (ok__law_over X0) b__law_over nogd LamX.takes0 hr (by decide) rfl (das_cons (DE.sh (de_sl (de_var (pv 1)) do_none (do_some (de_bin op_dSub (de_callB call_len' rfl X0.n_len rfl (da_cons (de_var (pv 1)) da_nil)) (de_var (pv 3)))))) (das_cons (de_var (pv 3)) das_nil)) (al_cons (al_cons al_nil))) (de_var (pv 3)) (nomark _)))) (fun _ _ _ _ _ => (de_var (pv 3)))) (ds_one (ds_retS hk (de_ix ix_seq' (de_var (pv 2)) de_int)))))
theorem ok__law_wrong_sizes (X0 : Tx K mg cL) : Cal false P w K mg base T 3 "_law_wrong_sizes" s__law_wrong_sizes ["_law_state", "_law_sizes_here"] .sh f__law_wrong_sizes := by
  refine cal_of (t := t__law_wrong_sizes) X0.F__law_wrong_sizes sc__law_wrong_sizes (fun f cdv A outer s H E n hX hr tk hgdT hk hTm => ?_)
  exact (ds_cons (ds_set false hX.nd rfl (.inr rfl) (de_cal (ok__law_draw X0) b__law_draw nogd tk hr (by decide) rfl (das_cons (de_var (pv 0)) (das_cons (DE.sh (de_callB call_len' rfl X0.n_len rfl (da_cons (de_var (pv 1)) da_nil))) das_nil)) (al_cons (al_cons al_nil)))) (ds_cons (ds_setLcS (own := [("_law_item", 4)]) hX rfl rfl rfl (di_seq (DE.peek (de_lst (das_cons (DE.sh de_int) (das_cons (DE.sh (de_un op_neg de_int)) (das_cons (DE.sh de_non) (das_cons (DE.sh de_bl) (das_cons (DE.sh de_str) das_nil)))))))) (blkOk_by (by kernel_rfl)) (by decide) (fun _ _ _ _ _ => (tg_name (XG.blk hX).nd rfl (.inl rfl))) (fun _ _ _ _ _ => dts_nil) (fun _ _ _ _ _ => (DE.sh (de_bin op_dAdd (de_bin op_dAdd (de_sl (de_var (pv 1)) do_none (do_some (de_var (pv 2)))) (de_tup (das_cons (de_var (pv 4)) das_nil))) (de_sl (de_var (pv 1)) (do_some (de_bin op_dAdd (de_var (pv 2)) de_int)) do_none))))) (ds_one (ds_retS hk (de_cal (ok__law_pick X0) b__law_pick nogd tk hr (by decide) rfl (das_cons (de_var (pv 0)) (das_cons (DE.sh (de_bin op_dAdd (de_var (pv 3)) (de_lst (das_cons (DE.sh (de_callTy call_list' rfl X0.n_list rfl (da_cons (de_var (pv 1)) da_nil))) (das_cons (DE.sh (de_tup das_nil)) (das_cons (DE.sh (de_bin op_dMul (de_tup (das_cons (DE.sh de_int) das_nil)) de_int)) (das_cons (DE.sh de_non) (das_cons (DE.sh de_int) (das_cons (DE.sh de_dct0) (das_cons (DE.sh de_str) das_nil)))))))))) das_nil)) (al_cons (al_cons al_nil)))))))
theorem ok__law_wrong_number (X0 : Tx K mg cL) : Cal false P w K mg base T 3 "_law_wrong_number" s__law_wrong_number ["_law_state"] .sh f__law_wrong_number := by
  refine cal_of (t := t__law_wrong_number) X0.F__law_wrong_number sc__law_wrong_number (fun f cdv A outer s H E n hX hr tk hgdT hk hTm => ?_)
  exact (ds_one (ds_retS hk (de_cal (ok__law_pick X0) b__law_pick nogd tk hr (by decide) rfl (das_cons (de_var (pv 0)) (das_cons (DE.sh (de_lst (das_cons (DE.sh de_int) (das_cons (DE.sh de_int) (das_cons (DE.sh (de_un op_neg de_int)) (das_cons (DE.sh de_non) (das_cons (DE.sh de_bl) (das_cons (DE.sh de_str) (das_cons (DE.sh (de_tup (das_cons (DE.sh de_int) das_nil))) (das_cons (DE.sh (de_lst (das_cons (DE.sh de_int) das_nil))) (das_cons (DE.sh (de_bin op_dPow de_int de_int)) das_nil))))))))))) das_nil)) (al_cons (al_cons al_nil)))))
theorem sc__law_begun : FnScope ["_law_script", "_law_cells_here", "_law_large", "_law_cell"] ["_law_script"] (defScope s__law_begun) := ⟨rfl, rfl, rfl, by decide +kernel, rfl, by decide +kernel, by decide +kernel⟩
theorem ok__law_begun (X0 : Tx K mg cL) : ∃ (f : Addr) (kV dc pm : Value) (an : Option Addr) (cd ct : Value), mg "_law_begun" = some (.ref f) ∧ PySem.W.keepIn K (.ref f) = true ∧ FnOk P w K mg base (L2.CX P w) 2 f (FDn "_law_begun" s__law_begun kV dc pm an cd ct) ["_law_script"] (spBegun K T) := by
  obtain ⟨f, oc, od, kV, dc, pm, an, cd, ct, sl, h1, h2, h3, h4⟩ := X0.F__law_begun
  refine ⟨f, kV, dc, pm, an, cd, ct, h1, h2, fn_of (N := ["_law_script", "_law_cells_here", "_law_large", "_law_cell"]) h3 h4 sc__law_begun (fun vs H Q E h => ?_) fun A outer s H vs Q E hr h => ⟨t_begun K, ?_, pure_begun vs H Q E h⟩⟩
  · obtain ⟨a, ns, rfl, _⟩ := h
    rfl
  · exact pss_cons (ps_setLc (own := [("_law_cell", 3)]) rfl sc__law_begun.nd rfl rfl rfl (pi_list (pv 0)) (blkOk_by (by kernel_rfl)) (fun _ _ _ _ _ => pg_name (i := 3) sc__law_begun.nd rfl (.inl rfl)) (fun _ _ _ _ _ => pts_nil) (fun _ _ _ _ _ => pe_callB call_abs rfl X0.n_abs rfl (pa_cons (pv 3) pa_nil)))
      (pss_cons (ps_setLc (own := [("_law_cell", 3)]) rfl sc__law_begun.nd rfl rfl rfl (pi_list (pv 1)) (blkOk_by (by kernel_rfl)) (fun _ _ _ _ _ => pg_name (i := 3) sc__law_begun.nd rfl (.inl rfl)) (fun _ _ _ _ _ => pts_one (pt_cmpR op_ge (pv 3) (pe_op op_pow pe_int pe_int) (nomark _))) (fun _ _ _ _ _ => pe_op op_sub (pv 3) (pe_op op_pow pe_int pe_int)))
      (pss_one (ps_ret (pe_disp (pps_cons pe_str (pv 2) (pps_cons pe_str (pv 1) (pps_cons pe_str pe_int (pps_cons pe_str pe_int pps_nil)))) rfl rfl (List.cons_ne_nil _ _) (by decide)))))
theorem law_end {h : Heap} {fa pL : Addr} {l : PySem.W.OpenLaw} (hprog : l.prog = P) (X0 : Tx K mg cL) (hfa : mg "law" = some (.ref fa)) (nP : K.lookup pL = none) (tP : h.get? pL = some tab0) (C : PySem.W.CodeHd h cL pL) (pure_ : ∀ ns : List Int, ns.length ≤ 63 → ∃ g', t_law (startLaw 11 ns.length) (g0 ns) = .ok (.ret (.bl true)) g') : LawEnd l w K 63 mg fa h := by
  refine ⟨[(cL, pL)], fun p hp => (by rw [List.mem_singleton.mp hp]; exact tP), fun p hp => (by rw [List.mem_singleton.mp hp]; exact nP), fun p hp => (by rw [List.mem_singleton.mp hp]; exact C), fun s a ns base H hl kin hns TBs e0 hcs hS => ?_⟩
  obtain ⟨f, oc, od, kV, dc, pm, an, ct, sl, h1, h2, h3, h4⟩ := X0.F_law
  cases hfa.symm.trans h1
  have TB := TBs (cL, pL) List.mem_cons_self
  obtain ⟨fb, kVb, dcb, pmb, anb, cdb, ctb, g1, g2, g3⟩ := ok__law_begun (P := l.prog) (w := w) (base := base) (T := [(pL, (("law" : Str) ++ (".<locals>." : Str)) ++ ("<lambda>" : Str))]) X0
  have hgdT : true = true → callerA.guards = some [] := fun _ => rfl
  have hgd := hgdT rfl
  refine law_run (T := [(pL, (("law" : Str) ++ (".<locals>." : Str)) ++ ("<lambda>" : Str))]) (cs := [(cL, pL)]) (m := 63) (k := 6) (N := N_law) h3 h4 sc_law rfl (by decide) b_law (by decide) (fun hr => ?h0) (fun n hX hr tk hk hTm => ?rest) ⟨rfl, by decide, by decide⟩ e0 (fun p hp => ⟨(cL, pL), List.mem_cons_self, (by rw [List.mem_singleton.mp hp])⟩) hcs hS hl pure_
  case h0 => exact ps_set (i := 1) sc_law.nd rfl (.inr rfl) (pe_callS g3 (hr.mono (by decide)) rfl g1 g2 (.all (b__law_begun kVb dcb pmb anb cdb ctb)) (fun σ => passAt LamX.takes0 σ) (pa_cons (pv 0) pa_nil))
  case rest =>
    exact (ds_cons (ds_for (passes_of rfl) hX.calm (di_range1 rfl X0.n_range (de_bin op_dAdd de_int (de_callB (call_min2' hX) rfl X0.n_min rfl (da_cons (de_callB call_len' rfl X0.n_len rfl (da_cons (de_var (pv 0)) da_nil)) (da_cons de_int da_nil))))) (tg_name hX.nd rfl (.inl rfl)) (fun _ _ => (ds_cons (ds_set false hX.nd rfl (.inl rfl) (DE.sh (de_callTy call_tuple' rfl X0.n_tuple rfl (da_cons (de_lc (own := [("_law_lap", 10)]) hX (di_range1 rfl X0.n_range (de_bin op_dAdd de_int (de_cal (ok__law_draw X0) b__law_draw nogd tk hr (by decide) rfl (das_cons (de_var (pv 1)) (das_cons (DE.sh de_int) das_nil)) (al_cons (al_cons al_nil))))) (blkOk_by (by kernel_rfl)) (by decide) (fun _ _ _ _ _ => (tg_name (XG.blk hX).nd rfl (.inl rfl))) (fun _ _ _ _ _ => dts_nil) (fun _ _ _ _ _ => (de_cal (ok__law_draw X0) b__law_draw nogd LamX.takes0 hr (by decide) rfl (das_cons (de_var (pv 1)) (das_cons (DE.sh de_int) das_nil)) (al_cons (al_cons al_nil))))) da_nil)))) (ds_cons (ds_if (dt_cmp (op_dEq hX) (de_cal (ok__law_draw X0) b__law_draw nogd tk hr (by decide) rfl (das_cons (de_var (pv 1)) (das_cons (DE.sh de_int) das_nil)) (al_cons (al_cons al_nil))) de_int (nomark _)) (ds_one (ds_set false hX.nd rfl (.inl rfl) (DE.sh (de_bin op_dMul (de_tup (das_cons (DE.sh (de_bin op_dAdd de_int (de_cal (ok__law_draw X0) b__law_draw nogd tk hr (by decide) rfl (das_cons (de_var (pv 1)) (das_cons (DE.sh de_int) das_nil)) (al_cons (al_cons al_nil))))) das_nil)) (de_bin op_dAdd de_int (de_cal (ok__law_draw X0) b__law_draw nogd tk hr (by decide) rfl (das_cons (de_var (pv 1)) (das_cons (DE.sh de_int) das_nil)) (al_cons (al_cons al_nil)))))))) ds_nil) (ds_cons (ds_set false hX.nd rfl (.inl rfl) (de_cal (ok__law_wide_sure X0) b__law_wide_sure nogd tk hr (by decide) rfl (das_cons (de_var (pv 3)) das_nil) (al_cons al_nil))) (ds_cons (ds_if (dt_cmp (op_dNe hX) (de_callB (call_repr' hgd hX) rfl X0.n_repr rfl (da_cons (de_lst (das_cons (de_cal (ok_wide_sure X0) b_wide_sure nogd tk hr (by decide) rfl (das_cons (de_var (pv 3)) das_nil) (al_cons al_nil)) (das_cons (de_calK0 (ok_wide_sure X0) kb_wide_sure_sizes nogd tk hr (by decide) rfl (dk_cons (de_var (pv 3)) dk_nil) (al_cons al_nil)) das_nil))) da_nil)) (de_callB (call_repr' hgd hX) rfl X0.n_repr rfl (da_cons (de_lst (das_cons (de_var (pv 4)) (das_cons (de_var (pv 4)) das_nil))) da_nil)) (nomark _)) (ds_one (ds_retS hk (DE.sh de_bl))) ds_nil) (ds_cons (ds_set false hX.nd rfl (.inr rfl) (DE.sh (de_bin op_dAdd de_int (de_cal (ok__law_draw X0) b__law_draw nogd tk hr (by decide) rfl (das_cons (de_var (pv 1)) (das_cons (DE.sh de_int) das_nil)) (al_cons (al_cons al_nil)))))) (ds_cons (ds_set false hX.nd rfl (.inl rfl) (de_cal (ok__law_draw X0) b__law_draw nogd tk hr (by decide) rfl (das_cons (de_var (pv 1)) (das_cons (de_var (pv 7)) das_nil)) (al_cons (al_cons al_nil)))) (ds_cons (ds_set false hX.nd rfl (.inl rfl) (DE.sh (de_bin op_dSub (de_bin op_dSub (de_bin op_dFdiv (de_bin op_dMul (de_bin op_dAdd (de_var (pv 5)) de_int) (de_var (pv 7))) (de_bin op_dAdd (de_var (pv 5)) de_int)) (de_var (pv 5))) de_int))) (ds_cons (ds_if (dt_cmp (op_dNe hX) (de_callB (call_repr' hgd hX) rfl X0.n_repr rfl (da_cons (de_lst (das_cons (de_cal (ok_plans_for X0) b_plans_for nogd tk hr (by decide) rfl (das_cons (de_var (pv 7)) (das_cons (de_var (pv 5)) das_nil)) (al_cons (al_cons al_nil))) (das_cons (de_calK0 (ok_plans_for X0) kb_plans_for_fewer_pairs nogd tk hr (by decide) rfl (dk_cons (de_var (pv 5)) (dk_cons (de_var (pv 7)) dk_nil)) (al_cons (al_cons al_nil))) das_nil))) da_nil)) (de_callB (call_repr' hgd hX) rfl X0.n_repr rfl (da_cons (de_lst (das_cons (de_var (pv 4)) (das_cons (de_var (pv 4)) das_nil))) da_nil)) (nomark _)) (ds_one (ds_retS hk (DE.sh de_bl))) ds_nil) (ds_cons (ds_if (dt_w (dw_or (dt_cmp op_dLt (de_cal (ok_wide_sure X0) b_wide_sure nogd tk hr (by decide) rfl (das_cons (DE.sh (de_bin op_dMul (de_tup (das_cons (de_var (pv 7)) das_nil)) (de_var (pv 4)))) das_nil) (al_cons al_nil)) (de_bin op_dSub (de_var (pv 7)) (de_var (pv 5))) (nomark _)) (dw_or1 (dt_w (dw_and (dt_cmp op_dGt (de_bin op_dSub (de_var (pv 7)) (de_var (pv 5))) de_int (nomark _)) (dw_and1 (dt_cmp op_dGe (de_cal (ok_wide_sure X0) b_wide_sure nogd tk hr (by decide) rfl (das_cons (DE.sh (de_bin op_dMul (de_tup (das_cons (de_var (pv 7)) das_nil)) (de_bin op_dSub (de_bin op_dSub (de_var (pv 7)) (de_var (pv 5))) de_int))) das_nil) (al_cons al_nil)) (de_bin op_dSub (de_var (pv 7)) (de_var (pv 5))) (nomark _)))))))) (ds_one (ds_retS hk (DE.sh de_bl))) ds_nil) (ds_cons (ds_set false hX.nd rfl (.inr rfl) (de_cal (ok__law_wrong_sizes X0) b__law_wrong_sizes nogd tk hr (by decide) rfl (das_cons (de_var (pv 1)) (das_cons (de_var (pv 3)) das_nil)) (al_cons (al_cons al_nil)))) (ds_cons (ds_if (dt_not (dt_of (de_callB (call_isi' X0.isi) rfl X0.n_isinstance rfl (da_cons (de_caughtT (k := 4) X0.F__law_caught ca_ok b__law_caught X0.pk rfl TB rfl hTm (hr.mono (by decide)) (LamX.lamS_by (by kernel_rfl)) (fun _ _ _ _ _ _ _ hrL tkL => (de_cal (ok_wide_sure X0) b_wide_sure nogd tkL hrL (by decide) rfl (das_cons (de_var (pv 9)) das_nil) (al_cons al_nil)))) (da_cons (de_cls X0.E_BadSizes rfl) da_nil))))) (ds_one (ds_retS hk (DE.sh de_bl))) ds_nil) (ds_cons (ds_set false hX.nd rfl (.inr rfl) (de_cal (ok__law_wrong_number X0) b__law_wrong_number nogd tk hr (by decide) rfl (das_cons (de_var (pv 1)) das_nil) (al_cons al_nil))) (ds_cons (ds_if (dt_not (dt_of (de_callB (call_isi' X0.isi) rfl X0.n_isinstance rfl (da_cons (de_caughtT (k := 2) X0.F__law_caught ca_ok b__law_caught X0.pk rfl TB rfl hTm (hr.mono (by decide)) (LamX.lamS_by (by kernel_rfl)) (fun _ _ _ _ _ _ _ hrL tkL => (de_cal (ok_plans_for X0) b_plans_for nogd tkL hrL (by decide) rfl (das_cons (de_var (pv 8)) (das_cons (DE.sh de_int) das_nil)) (al_cons (al_cons al_nil))))) (da_cons (de_cls X0.E_BadNumber rfl) da_nil))))) (ds_one (ds_retS hk (DE.sh de_bl))) ds_nil) (ds_one (ds_for (passes_of rfl) hX.calm (di_seq (DE.sh (de_lst (das_cons (de_var (pv 7)) (das_cons (DE.sh (de_un op_neg de_int)) (das_cons (DE.sh de_non) (das_cons (DE.sh de_bl) (das_cons (DE.sh de_bl) (das_cons (DE.sh de_str) (das_cons (DE.sh (de_tup (das_cons (DE.sh de_int) das_nil))) das_nil)))))))))) (tg_name hX.nd rfl (.inr rfl)) (fun _ _ => (ds_one (ds_if (dt_not (dt_of (de_callB (call_isi' X0.isi) rfl X0.n_isinstance rfl (da_cons (de_caughtT (k := 2) X0.F__law_caught ca_ok b__law_caught X0.pk rfl TB rfl hTm (hr.mono (by decide)) (LamX.lamS_by (by kernel_rfl)) (fun _ _ _ _ _ _ _ hrL tkL => (de_cal (ok_plans_for X0) b_plans_for nogd tkL hrL (by decide) rfl (das_cons (de_var (pv 7)) (das_cons (de_var (pv 6)) das_nil)) (al_cons (al_cons al_nil))))) (da_cons (de_cls X0.E_BadNumber rfl) da_nil))))) (ds_one (ds_retS hk (DE.sh de_bl))) ds_nil)))))))))))))))))))) (ds_one (ds_retS hk (DE.sh de_bl))))
theorem mem2 {α : Type} {a : α} {l : List α} {p : α → Prop} (h : p a) (t : ∀ x ∈ l, p x) : ∀ x ∈ a :: l, p x := fun x hx => (List.mem_cons.mp hx).elim (fun e => e ▸ h) (t x)
theorem law_all {l : PySem.W.OpenLaw} {h : Heap} {fa pL : Addr} {f_is_between : Addr} {oc_is_between kV_is_between dc_is_between pm_is_between cd_is_between ct_is_between : Value} {od_is_between an_is_between : Option Addr} {sl_is_between : Array (Option Value)} {f_are_sizes : Addr} {oc_are_sizes kV_are_sizes dc_are_sizes pm_are_sizes cd_are_sizes ct_are_sizes : Value} {od_are_sizes an_are_sizes : Option Addr} {sl_are_sizes : Array (Option Value)} {f_need_sizes : Addr} {oc_need_sizes kV_need_sizes dc_need_sizes pm_need_sizes cd_need_sizes ct_need_sizes : Value} {od_need_sizes an_need_sizes : Option Addr} {sl_need_sizes : Array (Option Value)} {f_surplus_over : Addr} {oc_surplus_over kV_surplus_over dc_surplus_over pm_surplus_over cd_surplus_over ct_surplus_over : Value} {od_surplus_over an_surplus_over : Option Addr} {sl_surplus_over : Array (Option Value)} {f_wide_sure : Addr} {oc_wide_sure kV_wide_sure dc_wide_sure pm_wide_sure cd_wide_sure ct_wide_sure : Value} {od_wide_sure an_wide_sure : Option Addr} {sl_wide_sure : Array (Option Value)} {f_plans_for : Addr} {oc_plans_for kV_plans_for dc_plans_for pm_plans_for cd_plans_for ct_plans_for : Value} {od_plans_for an_plans_for : Option Addr} {sl_plans_for : Array (Option Value)} {f__law_begun : Addr} {oc__law_begun kV__law_begun dc__law_begun pm__law_begun cd__law_begun ct__law_begun : Value} {od__law_begun an__law_begun : Option Addr} {sl__law_begun : Array (Option Value)} {f__law_draw : Addr} {oc__law_draw kV__law_draw dc__law_draw pm__law_draw cd__law_draw ct__law_draw : Value} {od__law_draw an__law_draw : Option Addr} {sl__law_draw : Array (Option Value)} {f__law_pick : Addr} {oc__law_pick kV__law_pick dc__law_pick pm__law_pick cd__law_pick ct__law_pick : Value} {od__law_pick an__law_pick : Option Addr} {sl__law_pick : Array (Option Value)} {f__law_caught : Addr} {oc__law_caught kV__law_caught dc__law_caught pm__law_caught cd__law_caught ct__law_caught : Value} {od__law_caught an__law_caught : Option Addr} {sl__law_caught : Array (Option Value)} {f__law_over : Addr} {oc__law_over kV__law_over dc__law_over pm__law_over cd__law_over ct__law_over : Value} {od__law_over an__law_over : Option Addr} {sl__law_over : Array (Option Value)} {f__law_wide_sure : Addr} {oc__law_wide_sure kV__law_wide_sure dc__law_wide_sure pm__law_wide_sure cd__law_wide_sure ct__law_wide_sure : Value} {od__law_wide_sure an__law_wide_sure : Option Addr} {sl__law_wide_sure : Array (Option Value)} {f__law_wrong_sizes : Addr} {oc__law_wrong_sizes kV__law_wrong_sizes dc__law_wrong_sizes pm__law_wrong_sizes cd__law_wrong_sizes ct__law_wrong_sizes : Value} {od__law_wrong_sizes an__law_wrong_sizes : Option Addr} {sl__law_wrong_sizes : Array (Option Value)} {f__law_wrong_number : Addr} {oc__law_wrong_number kV__law_wrong_number dc__law_wrong_number pm__law_wrong_number cd__law_wrong_number ct__law_wrong_number : Value} {od__law_wrong_number an__law_wrong_number : Option Addr} {sl__law_wrong_number : Array (Option Value)} {f_law : Addr} {oc_law kV_law dc_law pm_law ct_law : Value} {od_law an_law : Option Addr} {sl_law : Array (Option Value)} {eL : Value} {ddL : Option Addr} {usL : Array Value} {slL : Array (Option Value)} {C_BadNumber : Addr} {C_BadSizes : Addr} {C_PickError : Addr} {t_MOST_NUMBER : Tok} {t_MOST_PLANS : Tok} (hprog : l.prog = P) (pure_ : ∀ ns : List Int, ns.length ≤ 63 → ∃ g', t_law (startLaw 11 ns.length) (g0 ns) = .ok (.ret (.bl true)) g') (X : K.In h) (G : h.Ns mainGlobals mg) (hfa : mg "law" = some (.ref fa)) (own : OwnT K "law" mg h)
    (a_is_between : PySem.W.nsIn K mainGlobals "is_between" = some (some (.ref f_is_between)))
    (l_is_between : K.lookup f_is_between = some ⟨oc_is_between, od_is_between, .func (FDn "is_between" s_is_between kV_is_between dc_is_between pm_is_between an_is_between cd_is_between ct_is_between), sl_is_between⟩)
    (c_is_between : PySem.W.codeIn K cd_is_between "is_between" = true)
    (k_is_between : PySem.W.keepIn K (.ref f_is_between) = true)
    (a_are_sizes : PySem.W.nsIn K mainGlobals "are_sizes" = some (some (.ref f_are_sizes)))
    (l_are_sizes : K.lookup f_are_sizes = some ⟨oc_are_sizes, od_are_sizes, .func (FDn "are_sizes" s_are_sizes kV_are_sizes dc_are_sizes pm_are_sizes an_are_sizes cd_are_sizes ct_are_sizes), sl_are_sizes⟩)
    (c_are_sizes : PySem.W.codeIn K cd_are_sizes "are_sizes" = true)
    (k_are_sizes : PySem.W.keepIn K (.ref f_are_sizes) = true)
    (a_need_sizes : PySem.W.nsIn K mainGlobals "need_sizes" = some (some (.ref f_need_sizes)))
    (l_need_sizes : K.lookup f_need_sizes = some ⟨oc_need_sizes, od_need_sizes, .func (FDn "need_sizes" s_need_sizes kV_need_sizes dc_need_sizes pm_need_sizes an_need_sizes cd_need_sizes ct_need_sizes), sl_need_sizes⟩)
    (c_need_sizes : PySem.W.codeIn K cd_need_sizes "need_sizes" = true)
    (k_need_sizes : PySem.W.keepIn K (.ref f_need_sizes) = true)
    (a_surplus_over : PySem.W.nsIn K mainGlobals "surplus_over" = some (some (.ref f_surplus_over)))
    (l_surplus_over : K.lookup f_surplus_over = some ⟨oc_surplus_over, od_surplus_over, .func (FDn "surplus_over" s_surplus_over kV_surplus_over dc_surplus_over pm_surplus_over an_surplus_over cd_surplus_over ct_surplus_over), sl_surplus_over⟩)
    (c_surplus_over : PySem.W.codeIn K cd_surplus_over "surplus_over" = true)
    (k_surplus_over : PySem.W.keepIn K (.ref f_surplus_over) = true)
    (a_wide_sure : PySem.W.nsIn K mainGlobals "wide_sure" = some (some (.ref f_wide_sure)))
    (l_wide_sure : K.lookup f_wide_sure = some ⟨oc_wide_sure, od_wide_sure, .func (FDn "wide_sure" s_wide_sure kV_wide_sure dc_wide_sure pm_wide_sure an_wide_sure cd_wide_sure ct_wide_sure), sl_wide_sure⟩)
    (c_wide_sure : PySem.W.codeIn K cd_wide_sure "wide_sure" = true)
    (k_wide_sure : PySem.W.keepIn K (.ref f_wide_sure) = true)
    (a_plans_for : PySem.W.nsIn K mainGlobals "plans_for" = some (some (.ref f_plans_for)))
    (l_plans_for : K.lookup f_plans_for = some ⟨oc_plans_for, od_plans_for, .func (FDn "plans_for" s_plans_for kV_plans_for dc_plans_for pm_plans_for an_plans_for cd_plans_for ct_plans_for), sl_plans_for⟩)
    (c_plans_for : PySem.W.codeIn K cd_plans_for "plans_for" = true)
    (k_plans_for : PySem.W.keepIn K (.ref f_plans_for) = true)
    (a__law_begun : PySem.W.nsIn K mainGlobals "_law_begun" = some (some (.ref f__law_begun)))
    (l__law_begun : K.lookup f__law_begun = some ⟨oc__law_begun, od__law_begun, .func (FDn "_law_begun" s__law_begun kV__law_begun dc__law_begun pm__law_begun an__law_begun cd__law_begun ct__law_begun), sl__law_begun⟩)
    (c__law_begun : PySem.W.codeIn K cd__law_begun "_law_begun" = true)
    (k__law_begun : PySem.W.keepIn K (.ref f__law_begun) = true)
    (a__law_draw : PySem.W.nsIn K mainGlobals "_law_draw" = some (some (.ref f__law_draw)))
    (l__law_draw : K.lookup f__law_draw = some ⟨oc__law_draw, od__law_draw, .func (FDn "_law_draw" s__law_draw kV__law_draw dc__law_draw pm__law_draw an__law_draw cd__law_draw ct__law_draw), sl__law_draw⟩)
    (c__law_draw : PySem.W.codeIn K cd__law_draw "_law_draw" = true)
    (k__law_draw : PySem.W.keepIn K (.ref f__law_draw) = true)
    (a__law_pick : PySem.W.nsIn K mainGlobals "_law_pick" = some (some (.ref f__law_pick)))
    (l__law_pick : K.lookup f__law_pick = some ⟨oc__law_pick, od__law_pick, .func (FDn "_law_pick" s__law_pick kV__law_pick dc__law_pick pm__law_pick an__law_pick cd__law_pick ct__law_pick), sl__law_pick⟩)
    (c__law_pick : PySem.W.codeIn K cd__law_pick "_law_pick" = true)
    (k__law_pick : PySem.W.keepIn K (.ref f__law_pick) = true)
    (a__law_caught : PySem.W.nsIn K mainGlobals "_law_caught" = some (some (.ref f__law_caught)))
    (l__law_caught : K.lookup f__law_caught = some ⟨oc__law_caught, od__law_caught, .func (FDn "_law_caught" s__law_caught kV__law_caught dc__law_caught pm__law_caught an__law_caught cd__law_caught ct__law_caught), sl__law_caught⟩)
    (c__law_caught : PySem.W.codeIn K cd__law_caught "_law_caught" = true)
    (k__law_caught : PySem.W.keepIn K (.ref f__law_caught) = true)
    (a__law_over : PySem.W.nsIn K mainGlobals "_law_over" = some (some (.ref f__law_over)))
    (l__law_over : K.lookup f__law_over = some ⟨oc__law_over, od__law_over, .func (FDn "_law_over" s__law_over kV__law_over dc__law_over pm__law_over an__law_over cd__law_over ct__law_over), sl__law_over⟩)
    (c__law_over : PySem.W.codeIn K cd__law_over "_law_over" = true)
    (k__law_over : PySem.W.keepIn K (.ref f__law_over) = true)
    (a__law_wide_sure : PySem.W.nsIn K mainGlobals "_law_wide_sure" = some (some (.ref f__law_wide_sure)))
    (l__law_wide_sure : K.lookup f__law_wide_sure = some ⟨oc__law_wide_sure, od__law_wide_sure, .func (FDn "_law_wide_sure" s__law_wide_sure kV__law_wide_sure dc__law_wide_sure pm__law_wide_sure an__law_wide_sure cd__law_wide_sure ct__law_wide_sure), sl__law_wide_sure⟩)
    (c__law_wide_sure : PySem.W.codeIn K cd__law_wide_sure "_law_wide_sure" = true)
    (k__law_wide_sure : PySem.W.keepIn K (.ref f__law_wide_sure) = true)
    (a__law_wrong_sizes : PySem.W.nsIn K mainGlobals "_law_wrong_sizes" = some (some (.ref f__law_wrong_sizes)))
    (l__law_wrong_sizes : K.lookup f__law_wrong_sizes = some ⟨oc__law_wrong_sizes, od__law_wrong_sizes, .func (FDn "_law_wrong_sizes" s__law_wrong_sizes kV__law_wrong_sizes dc__law_wrong_sizes pm__law_wrong_sizes an__law_wrong_sizes cd__law_wrong_sizes ct__law_wrong_sizes), sl__law_wrong_sizes⟩)
    (c__law_wrong_sizes : PySem.W.codeIn K cd__law_wrong_sizes "_law_wrong_sizes" = true)
    (k__law_wrong_sizes : PySem.W.keepIn K (.ref f__law_wrong_sizes) = true)
    (a__law_wrong_number : PySem.W.nsIn K mainGlobals "_law_wrong_number" = some (some (.ref f__law_wrong_number)))
    (l__law_wrong_number : K.lookup f__law_wrong_number = some ⟨oc__law_wrong_number, od__law_wrong_number, .func (FDn "_law_wrong_number" s__law_wrong_number kV__law_wrong_number dc__law_wrong_number pm__law_wrong_number an__law_wrong_number cd__law_wrong_number ct__law_wrong_number), sl__law_wrong_number⟩)
    (c__law_wrong_number : PySem.W.codeIn K cd__law_wrong_number "_law_wrong_number" = true)
    (k__law_wrong_number : PySem.W.keepIn K (.ref f__law_wrong_number) = true)
    (a_law : PySem.W.nsIn K mainGlobals "law" = some (some (.ref f_law)))
    (l_law : K.lookup f_law = some ⟨oc_law, od_law, .func (FDn "law" s_law kV_law dc_law pm_law an_law (.ref cL) ct_law), sl_law⟩)
    (c_law : PySem.W.codeIn K (.ref cL) "law" = true)
    (k_law : PySem.W.keepIn K (.ref f_law) = true)
    (l_code : K.lookup cL = some ⟨eL, ddL, .fields usL, slL⟩)
    (u_code : usL[11]? = some (.ref pL))
    (h_code : PySem.W.codeHdIn K cL pL = true)
    (p_code : K.lookup pL = none)
    (g_BadNumber : PySem.W.nsIn K mainGlobals "BadNumber" = some (some (.ref C_BadNumber)))
    (x_BadNumber : PySem.W.excIn K C_BadNumber [.type "ValueError", .type "Exception", .type "BaseException", .type "object"] "ValueError.__new__" = true)
    (kp_BadNumber : PySem.W.keepIn K (.ref C_BadNumber) = true)
    (ty_BadNumber : PySem.W.typeIn K (.ref C_BadNumber) = some (.type "type"))
    (e1_BadNumber : PySem.W.findIn K (.ref C_BadNumber) "__getattribute__" = some (some (.builtin "BaseException.__getattribute__")))
    (e2_BadNumber : PySem.W.findIn K (.ref C_BadNumber) "__getattr__" = some none)
    (e3_BadNumber : PySem.W.subIn K (.ref C_BadNumber) (.type "BaseException") = some true)
    (e4_BadNumber : PySem.W.hasDictIn K C_BadNumber = true)
    (e5_BadNumber : PySem.W.findIn K (.ref C_BadNumber) "__class__" = some (some (.builtin "object.__class__")))
    (e6_BadNumber : PySem.W.mroIn K C_BadNumber (.type "object") = some true)
    (g_BadSizes : PySem.W.nsIn K mainGlobals "BadSizes" = some (some (.ref C_BadSizes)))
    (x_BadSizes : PySem.W.excIn K C_BadSizes [.type "ValueError", .type "Exception", .type "BaseException", .type "object"] "ValueError.__new__" = true)
    (kp_BadSizes : PySem.W.keepIn K (.ref C_BadSizes) = true)
    (ty_BadSizes : PySem.W.typeIn K (.ref C_BadSizes) = some (.type "type"))
    (e1_BadSizes : PySem.W.findIn K (.ref C_BadSizes) "__getattribute__" = some (some (.builtin "BaseException.__getattribute__")))
    (e2_BadSizes : PySem.W.findIn K (.ref C_BadSizes) "__getattr__" = some none)
    (e3_BadSizes : PySem.W.subIn K (.ref C_BadSizes) (.type "BaseException") = some true)
    (e4_BadSizes : PySem.W.hasDictIn K C_BadSizes = true)
    (e5_BadSizes : PySem.W.findIn K (.ref C_BadSizes) "__class__" = some (some (.builtin "object.__class__")))
    (e6_BadSizes : PySem.W.mroIn K C_BadSizes (.type "object") = some true)
    (g_PickError : PySem.W.nsIn K mainGlobals "PickError" = some (some (.ref C_PickError)))
    (x_PickError : PySem.W.excIn K C_PickError [.type "ValueError", .type "Exception", .type "BaseException", .type "object"] "ValueError.__new__" = true)
    (kp_PickError : PySem.W.keepIn K (.ref C_PickError) = true)
    (ty_PickError : PySem.W.typeIn K (.ref C_PickError) = some (.type "type"))
    (e1_PickError : PySem.W.findIn K (.ref C_PickError) "__getattribute__" = some (some (.builtin "BaseException.__getattribute__")))
    (e2_PickError : PySem.W.findIn K (.ref C_PickError) "__getattr__" = some none)
    (e3_PickError : PySem.W.subIn K (.ref C_PickError) (.type "BaseException") = some true)
    (e4_PickError : PySem.W.hasDictIn K C_PickError = true)
    (e5_PickError : PySem.W.findIn K (.ref C_PickError) "__class__" = some (some (.builtin "object.__class__")))
    (e6_PickError : PySem.W.mroIn K C_PickError (.type "object") = some true)
    (e7 : PySem.W.specialIn K (.builtin "object.__class__") "__get__" = some (some (.builtin "getset_descriptor.__get__")))
    (e8 : PySem.W.takesIn K (.builtin "object.__class__") = some true)
    (i_MOST_NUMBER : PySem.W.nsIn K mainGlobals "MOST_NUMBER" = some (some (.int 7 t_MOST_NUMBER)))
    (i_MOST_PLANS : PySem.W.nsIn K mainGlobals "MOST_PLANS" = some (some (.int 16 t_MOST_PLANS)))
    (z_abs : PySem.W.nsIn K mainGlobals "abs" = some none)
    (z_all : PySem.W.nsIn K mainGlobals "all" = some none)
    (z_bool : PySem.W.nsIn K mainGlobals "bool" = some none)
    (z_int : PySem.W.nsIn K mainGlobals "int" = some none)
    (z_isinstance : PySem.W.nsIn K mainGlobals "isinstance" = some none)
    (z_len : PySem.W.nsIn K mainGlobals "len" = some none)
    (z_list : PySem.W.nsIn K mainGlobals "list" = some none)
    (z_max : PySem.W.nsIn K mainGlobals "max" = some none)
    (z_min : PySem.W.nsIn K mainGlobals "min" = some none)
    (z_range : PySem.W.nsIn K mainGlobals "range" = some none)
    (z_repr : PySem.W.nsIn K mainGlobals "repr" = some none)
    (z_sorted : PySem.W.nsIn K mainGlobals "sorted" = some none)
    (z_sum : PySem.W.nsIn K mainGlobals "sum" = some none)
    (z_tuple : PySem.W.nsIn K mainGlobals "tuple" = some none)
    (s_BadNumber_BadSizes : PySem.W.subIn K (.ref C_BadNumber) (.ref C_BadSizes) = some false)
    (ne_BadNumber_BadSizes : ((Value.ref C_BadNumber) == .ref C_BadSizes) = false)
    (s_BadSizes_BadNumber : PySem.W.subIn K (.ref C_BadSizes) (.ref C_BadNumber) = some false)
    (ne_BadSizes_BadNumber : ((Value.ref C_BadSizes) == .ref C_BadNumber) = false)
    (y_NoneType_BadNumber : PySem.W.subIn K (.type "NoneType") (.ref C_BadNumber) = some false)
    (y_bool_BadNumber : PySem.W.subIn K (.type "bool") (.ref C_BadNumber) = some false)
    (y_int_BadNumber : PySem.W.subIn K (.type "int") (.ref C_BadNumber) = some false)
    (y_str_BadNumber : PySem.W.subIn K (.type "str") (.ref C_BadNumber) = some false)
    (y_tuple_BadNumber : PySem.W.subIn K (.type "tuple") (.ref C_BadNumber) = some false)
    (y_list_BadNumber : PySem.W.subIn K (.type "list") (.ref C_BadNumber) = some false)
    (y_dict_BadNumber : PySem.W.subIn K (.type "dict") (.ref C_BadNumber) = some false)
    (y_NoneType_BadSizes : PySem.W.subIn K (.type "NoneType") (.ref C_BadSizes) = some false)
    (y_bool_BadSizes : PySem.W.subIn K (.type "bool") (.ref C_BadSizes) = some false)
    (y_int_BadSizes : PySem.W.subIn K (.type "int") (.ref C_BadSizes) = some false)
    (y_str_BadSizes : PySem.W.subIn K (.type "str") (.ref C_BadSizes) = some false)
    (y_tuple_BadSizes : PySem.W.subIn K (.type "tuple") (.ref C_BadSizes) = some false)
    (y_list_BadSizes : PySem.W.subIn K (.type "list") (.ref C_BadSizes) = some false)
    (y_dict_BadSizes : PySem.W.subIn K (.type "dict") (.ref C_BadSizes) = some false)
    (q_BadNumber : PySem.W.subIn K (.ref C_BadNumber) (.ref C_PickError) = some true)
    (q_BadSizes : PySem.W.subIn K (.ref C_BadSizes) (.ref C_PickError) = some true) : LawEnd l w K 63 mg fa h := by
  have X0 : Tx K mg cL := ⟨⟨_, _, _, _, _, _, _, _, _, _, PySem.W.mg_of X G a_is_between, k_is_between, l_is_between, c_is_between⟩,
    ⟨_, _, _, _, _, _, _, _, _, _, PySem.W.mg_of X G a_are_sizes, k_are_sizes, l_are_sizes, c_are_sizes⟩,
    ⟨_, _, _, _, _, _, _, _, _, _, PySem.W.mg_of X G a_need_sizes, k_need_sizes, l_need_sizes, c_need_sizes⟩,
    ⟨_, _, _, _, _, _, _, _, _, _, PySem.W.mg_of X G a_surplus_over, k_surplus_over, l_surplus_over, c_surplus_over⟩,
    ⟨_, _, _, _, _, _, _, _, _, _, PySem.W.mg_of X G a_wide_sure, k_wide_sure, l_wide_sure, c_wide_sure⟩,
    ⟨_, _, _, _, _, _, _, _, _, _, PySem.W.mg_of X G a_plans_for, k_plans_for, l_plans_for, c_plans_for⟩,
    ⟨_, _, _, _, _, _, _, _, _, _, PySem.W.mg_of X G a__law_begun, k__law_begun, l__law_begun, c__law_begun⟩,
    ⟨_, _, _, _, _, _, _, _, _, _, PySem.W.mg_of X G a__law_draw, k__law_draw, l__law_draw, c__law_draw⟩,
    ⟨_, _, _, _, _, _, _, _, _, _, PySem.W.mg_of X G a__law_pick, k__law_pick, l__law_pick, c__law_pick⟩,
    ⟨_, _, _, _, _, _, _, _, _, _, PySem.W.mg_of X G a__law_caught, k__law_caught, l__law_caught, c__law_caught⟩,
    ⟨_, _, _, _, _, _, _, _, _, _, PySem.W.mg_of X G a__law_over, k__law_over, l__law_over, c__law_over⟩,
    ⟨_, _, _, _, _, _, _, _, _, _, PySem.W.mg_of X G a__law_wide_sure, k__law_wide_sure, l__law_wide_sure, c__law_wide_sure⟩,
    ⟨_, _, _, _, _, _, _, _, _, _, PySem.W.mg_of X G a__law_wrong_sizes, k__law_wrong_sizes, l__law_wrong_sizes, c__law_wrong_sizes⟩,
    ⟨_, _, _, _, _, _, _, _, _, _, PySem.W.mg_of X G a__law_wrong_number, k__law_wrong_number, l__law_wrong_number, c__law_wrong_number⟩,
    ⟨_, _, _, _, _, _, _, _, _, PySem.W.mg_of X G a_law, k_law, l_law, c_law⟩,
    ⟨C_BadNumber, PySem.W.mg_of X G g_BadNumber, ⟨x_BadNumber, kp_BadNumber, ty_BadNumber, ⟨e1_BadNumber, e2_BadNumber, e3_BadNumber, e4_BadNumber, e5_BadNumber, e7, e8, e6_BadNumber⟩⟩⟩,
    ⟨C_BadSizes, PySem.W.mg_of X G g_BadSizes, ⟨x_BadSizes, kp_BadSizes, ty_BadSizes, ⟨e1_BadSizes, e2_BadSizes, e3_BadSizes, e4_BadSizes, e5_BadSizes, e7, e8, e6_BadSizes⟩⟩⟩,
    ⟨t_MOST_NUMBER, PySem.W.mg_of X G i_MOST_NUMBER⟩,
    ⟨t_MOST_PLANS, PySem.W.mg_of X G i_MOST_PLANS⟩,
    PySem.W.mg_none_of X G z_abs,
    PySem.W.mg_none_of X G z_all,
    PySem.W.mg_none_of X G z_bool,
    PySem.W.mg_none_of X G z_int,
    PySem.W.mg_none_of X G z_isinstance,
    PySem.W.mg_none_of X G z_len,
    PySem.W.mg_none_of X G z_list,
    PySem.W.mg_none_of X G z_max,
    PySem.W.mg_none_of X G z_min,
    PySem.W.mg_none_of X G z_range,
    PySem.W.mg_none_of X G z_repr,
    PySem.W.mg_none_of X G z_sorted,
    PySem.W.mg_none_of X G z_sum,
    PySem.W.mg_none_of X G z_tuple,
    isi_of (mem2 (fun C C' h1 h2 => by
      cases (PySem.W.mg_of X G g_BadNumber).symm.trans h1
      cases (PySem.W.mg_of X G g_BadNumber).symm.trans h2
      exact ⟨(⟨x_BadNumber, kp_BadNumber, ty_BadNumber, ⟨e1_BadNumber, e2_BadNumber, e3_BadNumber, e4_BadNumber, e5_BadNumber, e7, e8, e6_BadNumber⟩⟩ : ExcF K C_BadNumber).ec, if_pos (beq_self_eq_true _)⟩)
    (mem2 (fun C C' h1 h2 => by
      cases (PySem.W.mg_of X G g_BadNumber).symm.trans h1
      cases (PySem.W.mg_of X G g_BadSizes).symm.trans h2
      exact ⟨(⟨x_BadNumber, kp_BadNumber, ty_BadNumber, ⟨e1_BadNumber, e2_BadNumber, e3_BadNumber, e4_BadNumber, e5_BadNumber, e7, e8, e6_BadNumber⟩⟩ : ExcF K C_BadNumber).ec, kit_own e4_BadSizes ty_BadSizes ne_BadNumber_BadSizes s_BadNumber_BadSizes⟩)
    (mem2 (fun C C' h1 h2 => by
      cases (PySem.W.mg_of X G g_BadSizes).symm.trans h1
      cases (PySem.W.mg_of X G g_BadNumber).symm.trans h2
      exact ⟨(⟨x_BadSizes, kp_BadSizes, ty_BadSizes, ⟨e1_BadSizes, e2_BadSizes, e3_BadSizes, e4_BadSizes, e5_BadSizes, e7, e8, e6_BadSizes⟩⟩ : ExcF K C_BadSizes).ec, kit_own e4_BadNumber ty_BadNumber ne_BadSizes_BadNumber s_BadSizes_BadNumber⟩)
    (mem2 (fun C C' h1 h2 => by
      cases (PySem.W.mg_of X G g_BadSizes).symm.trans h1
      cases (PySem.W.mg_of X G g_BadSizes).symm.trans h2
      exact ⟨(⟨x_BadSizes, kp_BadSizes, ty_BadSizes, ⟨e1_BadSizes, e2_BadSizes, e3_BadSizes, e4_BadSizes, e5_BadSizes, e7, e8, e6_BadSizes⟩⟩ : ExcF K C_BadSizes).ec, if_pos (beq_self_eq_true _)⟩)
    (fun _ h => nomatch h)))))
    (mem2 (fun C' h t ht => by
      cases (PySem.W.mg_of X G g_BadNumber).symm.trans h
      simp only [List.mem_cons, List.not_mem_nil, or_false] at ht
      rcases ht with rfl | rfl | rfl | rfl | rfl | rfl | rfl
      · exact kit_own e4_BadNumber ty_BadNumber rfl y_NoneType_BadNumber
      · exact kit_own e4_BadNumber ty_BadNumber rfl y_bool_BadNumber
      · exact kit_own e4_BadNumber ty_BadNumber rfl y_int_BadNumber
      · exact kit_own e4_BadNumber ty_BadNumber rfl y_str_BadNumber
      · exact kit_own e4_BadNumber ty_BadNumber rfl y_tuple_BadNumber
      · exact kit_own e4_BadNumber ty_BadNumber rfl y_list_BadNumber
      · exact kit_own e4_BadNumber ty_BadNumber rfl y_dict_BadNumber)
    (mem2 (fun C' h t ht => by
      cases (PySem.W.mg_of X G g_BadSizes).symm.trans h
      simp only [List.mem_cons, List.not_mem_nil, or_false] at ht
      rcases ht with rfl | rfl | rfl | rfl | rfl | rfl | rfl
      · exact kit_own e4_BadSizes ty_BadSizes rfl y_NoneType_BadSizes
      · exact kit_own e4_BadSizes ty_BadSizes rfl y_bool_BadSizes
      · exact kit_own e4_BadSizes ty_BadSizes rfl y_int_BadSizes
      · exact kit_own e4_BadSizes ty_BadSizes rfl y_str_BadSizes
      · exact kit_own e4_BadSizes ty_BadSizes rfl y_tuple_BadSizes
      · exact kit_own e4_BadSizes ty_BadSizes rfl y_list_BadSizes
      · exact kit_own e4_BadSizes ty_BadSizes rfl y_dict_BadSizes)
    (fun _ h => nomatch h))),
    ⟨C_PickError, PySem.W.mg_of X G g_PickError, (mem2 (fun C h => by
      cases (PySem.W.mg_of X G g_BadNumber).symm.trans h
      exact PySem.W.exm_ref e3_PickError e4_PickError ty_PickError q_BadNumber)
    (mem2 (fun C h => by
      cases (PySem.W.mg_of X G g_BadSizes).symm.trans h
      exact PySem.W.exm_ref e3_PickError e4_PickError ty_PickError q_BadSizes)
    (fun _ h => nomatch h)))⟩⟩
  exact law_end (P := P) hprog X0 hfa p_code (own f_law cL pL _ _ _ _ _ _ (PySem.W.mg_of X G a_law) l_law rfl rfl l_code u_code) (PySem.W.codeHd_of_K X h_code) pure_
end
end K38
set_option Elab.async false
set_option linter.all false
set_option maxRecDepth 100000
set_option maxHeartbeats 4000000
namespace K38
open PySem PySem.Spec PyProof.Rows L2 DL

theorem draw {n : Int} {k : Nat} {g : G} (hn : 0 < n) (hn2 : n ≤ 1000000000) (h : GI (k + 1) g) : ∃ r g', f__law_draw [.st, .int n] g = .ok (.int r) g' ∧ 0 ≤ r ∧ r < n ∧ GI k g' := draw_ok hn hn2 h
def btw (d : D) (lo hi : Int) : Bool := match d with
  | .int i => decide (lo ≤ i) && decide (i ≤ hi)
  | _ => false
theorem is_between {d : D} {lo hi : Int} {g : G} (h : plain d) : f_is_between [d, .int lo, .int hi] g = .ok (.bl (btw d lo hi)) g := by
  refine fn_ret (s_ret ?_)
  have a1 := e_call (g := g) (s_cons (e_var (ρ := startE 3 [d, .int lo, .int hi]) (i := 0) (d := d) rfl) (s_cons (e_c (.ty "int")) s_nil)) (isi_int (sub := subOf isiT) (cls := fun c => isiC.contains c) h)
  have a2 := e_call (g := g) (s_cons (e_var (ρ := startE 3 [d, .int lo, .int hi]) (i := 0) (d := d) rfl) (s_cons (e_c (.ty "bool")) s_nil)) (isi_bool (sub := subOf isiT) (cls := fun c => isiC.contains c) h)
  cases d with
  | int i => exact (e_andT a1).trans ((e_andT (e_not a2)).trans (e_chainI (e_var rfl) (e_var rfl) (e_var rfl)))
  | bl b => exact (e_andT a1).trans (e_andF (e_not a2))
  | non => exact e_andF a1
  | str x => exact e_andF a1
  | tup l => exact e_andF a1
  | lst l => exact e_andF a1
  | dct l => exact e_andF a1
  | _ => cases h
def okSizes (d : D) : Bool := match d with
  | .tup l => decide (1 ≤ l.length) && decide (l.length ≤ 16) && l.all (fun x => btw x 0 8)
  | _ => false
/-- of a plain kind, a tuple's items too -/
def fine (d : D) : Prop := plain d ∧ ∀ l, d = .tup l → l.length ≤ 1000 ∧ ∀ x ∈ l, plain x
theorem are_sizes {d : D} {g : G} (h : fine d) : f_are_sizes [d] g = .ok (.bl (okSizes d)) g := by
  have a1 := e_call (g := g) (s_cons (e_var (ρ := startE 2 [d]) (i := 0) (d := d) rfl) (s_cons (e_c (.ty "tuple")) s_nil)) (isi_tup (sub := subOf isiT) (cls := fun c => isiC.contains c) h.1)
  have notT : isTup d = false → f_are_sizes [d] g = .ok (.bl false) g := fun hd => by
    rw [hd] at a1
    refine fn_ret (s_seqR ?_)
    rw [s_if (b_or (b_not (e_tr a1)) (fun hb => by cases hb) fun _ => ⟨rfl, rfl⟩)]
    rfl
  cases d with
  | tup l =>
    obtain ⟨hl, hp⟩ := h.2 l rfl
    have a2 : eChain dLe dLe (eC (.int 1)) (eCall fLen (sCons (eVar 0) sNil)) (eC (.int 16)) (startE 2 [.tup l]) g = .ok (.bl (decide (1 ≤ (l.length : Int)) && decide ((l.length : Int) ≤ 16))) g :=
      e_chainI (e_c _) (e_call (s_cons (e_var rfl) s_nil) rfl) (e_c _)
    have b1 : bOr (bNot (eTr (eCall isi (sCons (eVar 0) (sCons (eC (.ty "tuple")) sNil))))) (bNot (eTr (eChain dLe dLe (eC (.int 1)) (eCall fLen (sCons (eVar 0) sNil)) (eC (.int 16))))) (startE 2 [.tup l]) g =
        .ok (!(decide (1 ≤ (l.length : Int)) && decide ((l.length : Int) ≤ 16))) g := b_or (b_not (e_tr a1)) (fun _ => b_not (e_tr a2)) fun hb => by cases hb
    have e1 : (decide (1 ≤ (l.length : Int)) && decide ((l.length : Int) ≤ 16)) = (decide (1 ≤ l.length) && decide (l.length ≤ 16)) := by
      congr 1 <;> (congr 1; simp only [eq_iff_iff]; omega)
    rw [e1] at b1
    show _ = R.ok (D.bl (decide (1 ≤ l.length) && decide (l.length ≤ 16) && l.all fun x => btw x 0 8)) g
    cases hb : (decide (1 ≤ l.length) && decide (l.length ≤ 16)) with
    | false =>
      rw [hb] at b1
      refine fn_ret (s_seqR ?_)
      rw [s_if b1]
      rfl
    | true =>
      rw [hb] at b1
      refine fn_ret (s_seq (ρ1 := startE 2 [.tup l]) (g1 := g) (by rw [s_if b1]; rfl) (s_ret ?_))
      refine e_call (s_cons (e_lc (s_itemsT (e_var rfl)) hl (lc_all (fun x => .bl (btw x 0 8)) l fun x hx => ⟨_, rfl, ?_⟩)) s_nil) ?_
      · refine e_callF (s_cons (e_var rfl) (s_cons (e_c _) (s_cons (e_bin (e_c _) (e_c _) rfl) s_nil))) ?_
        exact is_between (hp x hx)
      · show ((blsOf (l.map fun x => D.bl (btw x 0 8))).map fun bs => D.bl (bs.all id)) = _
        have e : (l.map fun x => D.bl (btw x 0 8)) = (l.map fun x => btw x 0 8).map D.bl := by rw [List.map_map]; rfl
        rw [e, blsOf_map]
        simp [List.all_map]
  | non => exact notT rfl
  | bl b => exact notT rfl
  | int i => exact notT rfl
  | str x => exact notT rfl
  | lst l => exact notT rfl
  | dct l => exact notT rfl
  | _ => cases h.1
theorem need_ok {d : D} {g : G} (h : fine d) (ho : okSizes d = true) : f_need_sizes [d] g = .ok .non g := by
  refine fn_nx (ρ1 := startE 1 [d]) ?_
  have a := are_sizes (g := g) h
  rw [ho] at a
  rw [show t_need_sizes = sIf (bNot (eTr (eCallF f_are_sizes (sCons (eVar 0) sNil)))) (sRaise "BadSizes") (fun ρ => M.pure (.nx ρ)) from rfl, s_if (b_not (e_tr (e_callF (s_cons (e_var rfl) s_nil) a)))]
  rfl
theorem need_bad {d : D} {g : G} (h : fine d) (ho : okSizes d = false) : f_need_sizes [d] g = .exc "BadSizes" Str.empty [] g := by
  refine fn_exc ?_
  have a := are_sizes (g := g) h
  rw [ho] at a
  rw [show t_need_sizes = sIf (bNot (eTr (eCallF f_are_sizes (sCons (eVar 0) sNil)))) (sRaise "BadSizes") (fun ρ => M.pure (.nx ρ)) from rfl, s_if (b_not (e_tr (e_callF (s_cons (e_var rfl) s_nil) a)))]
  rfl
/-! ### what is left over -/
def sur (l : List Int) (m : Int) : Int := ((l.filter fun x => decide (m < x)).map fun x => x - m).sum
theorem sur_ok {l : List Int} {m : Int} {g : G} (hl : l.length ≤ 1000) : f_surplus_over [.lst (l.map D.int), .int m] g = .ok (.int (sur l m)) g := by
  refine fn_ret (s_ret (e_call (ds := [.lst ((l.filter fun x => decide (m < x)).map fun x => D.int (x - m))]) (s_cons (e_lc (s_itemsL (e_var rfl)) (by rw [List.length_map]; exact hl) ?_) s_nil) ?_))
  · have h := lc_pure (ρ := wipeE (startE 3 [.lst (l.map D.int), .int m]) [2]) (t := gN 2) (tt := eTr (eBin dGt (eVar 2) (eVar 1))) (f := eBin dSub (eVar 2) (eVar 1)) (g := g)
      (fun d => match d with | .int x => decide (m < x) | _ => false) (fun d => match d with | .int x => .int (x - m) | _ => d) (l.map D.int) fun d hd => by
        obtain ⟨x, hx, rfl⟩ := List.mem_map.mp hd
        exact ⟨_, rfl, e_tr (e_bin (e_var rfl) (e_var rfl) rfl), fun _ => e_bin (e_var rfl) (e_var rfl) rfl⟩
    rw [h]
    congr 1
    rw [List.filter_map, List.map_map]
    rfl
  · show ((intsOf ((l.filter fun x => decide (m < x)).map fun x => D.int (x - m))).map fun ns => D.int ns.sum) = _
    have e : ((l.filter fun x => decide (m < x)).map fun x => D.int (x - m)) = ((l.filter fun x => decide (m < x)).map fun x => x - m).map D.int := by rw [List.map_map]; rfl
    rw [e, intsOf_map]
    rfl
theorem over_ok {l : List Int} {m : Int} {g : G} (hl : l.length ≤ 1000) : f__law_over [.lst (l.map D.int), .int m] g = .ok (.int (sur l m)) g := sur_ok hl
/-! ### the least -/
/-- m is too little -/
def low (ms : List Int) (m : Nat) : Bool := decide ((m : Int) < sur (ms.take (ms.length - m)) m)
def least (ms : List Int) : Nat → Nat → Nat
  | 0, m => m
  | f + 1, m => if low ms m = true then least ms f (m + 1) else m
theorem low_end (ms : List Int) : low ms ms.length = false := by
  unfold low
  rw [Nat.sub_self, List.take_zero]
  exact decide_eq_false (by show ¬ ((ms.length : Int) < 0); omega)
def wide (ms : List Int) : Nat := least ms (ms.length + 1) 0
theorem while_wide {ms : List Int} {s : D} {g : G} (hl : ms.length ≤ 16) : ∀ (F m : Nat), m ≤ ms.length → ms.length + 1 ≤ F + m →
    sWhile (eTr (eBin dGt (eCallF f_surplus_over (sCons (eSl (eVar 1) oNone (oSome (eCall fMax2 (sCons (eC (.int 0)) (sCons (eBin dSub (eCall fLen (sCons (eVar 1) sNil)) (eVar 2)) sNil))))) (sCons (eVar 2) sNil))) (eVar 2)))
      (sSet false 2 (eBin dAdd (eVar 2) (eC (.int 1)))) F [some (false, s), some (false, .lst (ms.map D.int)), some (false, .int m)] g = .ok (.nx [some (false, s), some (false, .lst (ms.map D.int)), some (false, .int (least ms F m))]) g
  | 0, m, h1, h2 => by omega
  | F + 1, m, h1, h2 => by
    have hk : (if (ms.length : Int) - m > 0 then (ms.length : Int) - m else 0) = ((ms.length - m : Nat) : Int) := by
      split <;> omega
    have sl : eSl (eVar 1) oNone (oSome (eCall fMax2 (sCons (eC (.int 0)) (sCons (eBin dSub (eCall fLen (sCons (eVar 1) sNil)) (eVar 2)) sNil)))) [some (false, s), some (false, .lst (ms.map D.int)), some (false, .int m)] g = .ok (.lst ((ms.take (ms.length - m)).map D.int)) g := by
      have h := e_slTo (f := eVar 1) (fk := eCall fMax2 (sCons (eC (.int 0)) (sCons (eBin dSub (eCall fLen (sCons (eVar 1) sNil)) (eVar 2)) sNil))) (ρ := [some (false, s), some (false, .lst (ms.map D.int)), some (false, .int m)]) (g := g) (l := ms.map D.int) (k := ((ms.length - m : Nat) : Int)) (e_var rfl) (by
        refine e_call (ds := [.int 0, .int ((ms.length : Int) - m)]) (s_cons (e_c _) (s_cons (e_bin (x := .int (ms.length : Int)) (e_call (ds := [.lst (ms.map D.int)]) (s_cons (e_var rfl) s_nil) ?_) (e_var rfl) rfl) s_nil)) ?_
        · show some (D.int ((ms.map D.int).length : Int)) = _
          rw [List.length_map]
        · show some (D.int (if (ms.length : Int) - m > 0 then (ms.length : Int) - m else 0)) = _
          rw [hk]) (by omega) (by rw [List.length_map]; omega)
      rw [h, Int.toNat_natCast, ← List.map_take]
    have ts : eTr (eBin dGt (eCallF f_surplus_over (sCons (eSl (eVar 1) oNone (oSome (eCall fMax2 (sCons (eC (.int 0)) (sCons (eBin dSub (eCall fLen (sCons (eVar 1) sNil)) (eVar 2)) sNil))))) (sCons (eVar 2) sNil))) (eVar 2)) [some (false, s), some (false, .lst (ms.map D.int)), some (false, .int m)] g = .ok (low ms m) g :=
      e_tr (e_bin (e_callF (s_cons sl (s_cons (e_var rfl) s_nil)) (sur_ok (by rw [List.length_take]; omega))) (e_var rfl) rfl)
    rw [sWhile, m_bind, ts, rb_ok, least]
    cases hb : low ms m with
    | false => rfl
    | true =>
      have hm : m < ms.length := by
        rcases Nat.lt_or_ge m ms.length with h | h
        · exact h
        · have e : m = ms.length := by omega
          rw [e, low_end] at hb
          cases hb
      rw [if_pos rfl, if_pos rfl, m_bind, s_set (e_bin (e_var rfl) (e_c _) rfl), rb_ok]
      have ih := while_wide (s := s) (g := g) hl F (m + 1) hm (by omega)
      exact ih
theorem least_more {ms : List Int} : ∀ (F m : Nat), m ≤ ms.length → ms.length + 1 ≤ F + m → least ms F m = least ms (ms.length + 1 - m) m
  | 0, m, h1, h2 => by omega
  | F + 1, m, h1, h2 => by
    obtain ⟨j, hj⟩ : ∃ j, ms.length + 1 - m = j + 1 := ⟨ms.length - m, by omega⟩
    rw [hj, least, least]
    by_cases hb : low ms m = true
    · rw [if_pos hb, if_pos hb]
      have hm : m < ms.length := by
        rcases Nat.lt_or_ge m ms.length with h | h
        · exact h
        · have e : m = ms.length := by omega
          rw [e, low_end] at hb
          cases hb
      rw [least_more F (m + 1) hm (by omega)]
      congr 1
      omega
    · rw [if_neg hb, if_neg hb]
theorem least_le {ms : List Int} : ∀ (F m : Nat), m ≤ ms.length → least ms F m ≤ ms.length
  | 0, m, h => h
  | F + 1, m, h => by
    rw [least]
    by_cases hb : low ms m = true
    · rw [if_pos hb]
      have hm : m < ms.length := by
        rcases Nat.lt_or_ge m ms.length with h | h
        · exact h
        · have e : m = ms.length := by omega
          rw [e, low_end] at hb
          cases hb
      exact least_le F (m + 1) hm
    · rw [if_neg hb]
      exact h
end K38
set_option Elab.async false
set_option linter.all false
set_option maxRecDepth 100000
set_option maxHeartbeats 4000000
namespace K38
open PySem PySem.Spec PyProof.Rows L2 DL

/-- sizes as the law makes them -/
structure Sz (ns : List Int) : Prop where
  l1 : 1 ≤ ns.length
  l2 : ns.length ≤ 16
  r : ∀ i ∈ ns, 0 ≤ i ∧ i ≤ 8
theorem Sz.fine {ns : List Int} (h : Sz ns) : fine (.tup (ns.map D.int)) := ⟨rfl, fun l e => by
  cases e
  refine ⟨by rw [List.length_map]; have := h.l2; omega, fun x hx => ?_⟩
  obtain ⟨i, _, rfl⟩ := List.mem_map.mp hx
  rfl⟩
theorem Sz.ok {ns : List Int} (h : Sz ns) : okSizes (.tup (ns.map D.int)) = true := by
  show (decide (1 ≤ (ns.map D.int).length) && decide ((ns.map D.int).length ≤ 16) && (ns.map D.int).all fun x => btw x 0 8) = true
  rw [List.length_map, decide_eq_true h.l1, decide_eq_true h.l2, Bool.true_and, Bool.true_and, List.all_eq_true]
  intro x hx
  obtain ⟨i, hi, rfl⟩ := List.mem_map.mp hx
  obtain ⟨h1, h2⟩ := h.r i hi
  show (decide (0 ≤ i) && decide (i ≤ 8)) = true
  rw [decide_eq_true h1, decide_eq_true h2]
  rfl
theorem wide_ok {ns ms : List Int} {g : G} (h : Sz ns) (hm : ms.length ≤ 16) (hs : sortD (ns.map D.int) = some (ms.map D.int)) : f_wide_sure [.tup (ns.map D.int)] g = .ok (.int (wide ms)) g := by
  refine fn_ret (s_seq (s_expr (e_callF (s_cons (e_var rfl) s_nil) (need_ok h.fine h.ok))) (s_seq (ρ1 := [some (false, .tup (ns.map D.int)), some (false, .lst (ms.map D.int)), some (false, .int ((0 : Nat) : Int))]) (g1 := g) ?_ (s_seq (while_wide hm 66 0 (Nat.zero_le _) (by omega)) (s_ret (e_var ?_)))))
  · unfold sPar
    rw [m_bind, e_call (ds := [.tup (ns.map D.int)]) (d := .lst (ms.map D.int)) (s_cons (e_var rfl) s_nil) (by show (sortD _).map D.lst = _; rw [hs]; rfl), rb_ok]
    rfl
  · show some (some (false, D.int (least ms 66 0))) = _
    rw [least_more 66 0 (Nat.zero_le _) (by omega)]
    rfl
theorem head_least (ms : List Int) : ∀ (j m : Nat), m ≤ ms.length → m + j = ms.length + 1 → ((List.range' m j).filter fun i => !low ms i)[0]? = some (least ms j m)
  | 0, m, h1, h2 => by omega
  | j + 1, m, h1, h2 => by
    rw [List.range'_succ, least]
    cases hb : low ms m with
    | false =>
      rw [List.filter_cons_of_pos (by rw [hb]; rfl), if_neg (by decide)]
      rfl
    | true =>
      have hm : m < ms.length := by
        rcases Nat.lt_or_ge m ms.length with h | h
        · exact h
        · have e : m = ms.length := by omega
          rw [e, low_end] at hb
          cases hb
      rw [List.filter_cons_of_neg (by rw [hb]; decide), if_pos rfl]
      exact head_least ms j (m + 1) hm (by omega)
theorem law_wide_ok {ns ms : List Int} {g : G} (hm : ms.length ≤ 16) (hs : sortD (ns.map D.int) = some (ms.map D.int)) : f__law_wide_sure [.tup (ns.map D.int)] g = .ok (.int (wide ms)) g := by
  let ρ1 : DL.Env := [some (false, .tup (ns.map D.int)), some (false, .lst (ms.map D.int)), none, none]
  have len : eCall fLen (sCons (eVar 1) sNil) ρ1 g = .ok (.int (ms.length : Int)) g := e_call (ds := [.lst (ms.map D.int)]) (s_cons (e_var rfl) s_nil) (by show some (D.int ((ms.map D.int).length : Int)) = _; rw [List.length_map])
  refine fn_ret (s_seq (ρ1 := ρ1) (g1 := g) (s_set (e_call (ds := [.tup (ns.map D.int)]) (d := .lst (ms.map D.int)) (s_cons (e_var rfl) s_nil) (by show (sortD _).map D.lst = _; rw [hs]; rfl))) (s_seq (s_set (d := .lst ((rangeL 0 (ms.length + 1)).filter fun d => match d with | .int i => !low ms i.toNat | _ => false)) (g1 := g) ?_) (s_ret (e_bin (e_var rfl) (e_c _) (ix_0 ?_)))))
  · refine e_lc (s_range1 (n := ms.length + 1) (e_bin len (e_c _) rfl) (by omega)) (by rw [rangeL_len]; omega) ?_
    have h := lc_pure (ρ := wipeE ρ1 [3]) (t := gN 3) (tt := eTr (eBin dLe (eCallF f__law_over (sCons (eSl (eVar 1) oNone (oSome (eBin dSub (eCall fLen (sCons (eVar 1) sNil)) (eVar 3)))) (sCons (eVar 3) sNil))) (eVar 3))) (f := eVar 3) (g := g)
      (fun d => match d with | .int i => !low ms i.toNat | _ => false) (fun d => d) (rangeL 0 (ms.length + 1)) fun d hd => by
        obtain ⟨i, hi, rfl⟩ := mem_rangeL hd
        refine ⟨_, rfl, ?_, fun _ => e_var rfl⟩
        rw [Int.zero_add]
        let ρ2 : DL.Env := [some (false, .tup (ns.map D.int)), some (false, .lst (ms.map D.int)), none, some (false, .int (i : Int))]
        have len2 : eCall fLen (sCons (eVar 1) sNil) ρ2 g = .ok (.int (ms.length : Int)) g := e_call (ds := [.lst (ms.map D.int)]) (s_cons (e_var rfl) s_nil) (by show some (D.int ((ms.map D.int).length : Int)) = _; rw [List.length_map])
        have sl := e_slTo (f := eVar 1) (fk := eBin dSub (eCall fLen (sCons (eVar 1) sNil)) (eVar 3)) (ρ := ρ2) (g := g) (l := ms.map D.int) (k := (ms.length : Int) - i) (e_var rfl) (e_bin len2 (e_var rfl) rfl) (by omega) (by rw [List.length_map]; omega)
        have e : ((ms.length : Int) - i).toNat = ms.length - i := by omega
        rw [e, ← List.map_take] at sl
        have q := e_tr (e_bin (h := dLe) (fb := eVar 3) (e_callF (cf := f__law_over) (s_cons sl (s_cons (e_var (ρ := ρ2) (i := 3) (d := .int (i : Int)) rfl) s_nil)) (over_ok (by rw [List.length_take]; omega))) (e_var rfl) rfl)
        refine q.trans ?_
        congr 1
        show decide (sur (ms.take (ms.length - i)) (i : Int) ≤ (i : Int)) = !decide (((i : Int).toNat : Int) < sur (ms.take (ms.length - (i : Int).toNat)) ((i : Int).toNat : Int))
        rw [Int.toNat_natCast, ← decide_not]
        congr 1
        simp only [eq_iff_iff]
        omega
    rw [List.map_id'] at h
    exact h
  · unfold rangeL
    rw [List.filter_map, List.getElem?_map]
    have hh := head_least ms (ms.length + 1) 0 (Nat.zero_le _) (by omega)
    rw [← List.range_eq_range'] at hh
    have e : (List.range (ms.length + 1)).filter ((fun d => match d with | D.int i => !low ms i.toNat | _ => false) ∘ fun i : Nat => D.int (0 + (i : Int))) = (List.range (ms.length + 1)).filter fun i => !low ms i := by
      congr 1
      funext i
      show (!low ms ((0 : Int) + (i : Int)).toNat) = _
      rw [Int.zero_add, Int.toNat_natCast]
    rw [e, hh]
    show some (D.int (0 + ((least ms (ms.length + 1) 0 : Nat) : Int))) = _
    rw [Int.zero_add]
    rfl
/-! ### plans_for -/
theorem plans_ok {a b : Int} {g : G} (h1 : 1 ≤ a) (h2 : a ≤ 8) (h3 : 0 ≤ b) (h4 : b ≤ a - 1) : f_plans_for [.int a, .int b] g = .ok (.int ((b + 2) * a / (b + 1) - (b + 1))) g := by
  have t1 : f_is_between [.int a, .int 1, .int 8] g = .ok (.bl true) g := by
    rw [is_between (d := .int a) (show (tyN (.int a)).isSome = true from rfl)]
    show R.ok (D.bl (decide (1 ≤ a) && decide (a ≤ 8))) g = _
    rw [decide_eq_true h1, decide_eq_true h2]
    rfl
  have t2 : f_is_between [.int b, .int 0, .int (a - 1)] g = .ok (.bl true) g := by
    rw [is_between (d := .int b) (show (tyN (.int b)).isSome = true from rfl)]
    show R.ok (D.bl (decide (0 ≤ b) && decide (b ≤ a - 1))) g = _
    rw [decide_eq_true h3, decide_eq_true h4]
    rfl
  refine fn_ret (s_seq (ρ1 := startE 2 [.int a, .int b]) (g1 := g) ?_ (s_seq (ρ1 := startE 2 [.int a, .int b]) (g1 := g) ?_ (s_ret (e_bin (e_bin (y := .int (b + 1)) (e_bin (e_bin (e_var rfl) (e_c _) rfl) (e_var rfl) (mul_ok (by omega) (by omega))) (e_bin (e_var rfl) (e_c _) rfl) (fdiv_ok (by omega) (by omega))) (e_bin (e_var rfl) (e_c _) rfl) rfl))))
  · rw [s_if (b_not (e_tr (e_callF (s_cons (e_var rfl) (s_cons (e_c _) (s_cons (e_bin (e_c _) (e_c _) rfl) s_nil))) t1)))]
    rfl
  · rw [s_if (b_not (e_tr (e_callF (s_cons (e_var rfl) (s_cons (e_c _) (s_cons (e_bin (e_var rfl) (e_c _) rfl) s_nil))) t2)))]
    rfl
theorem plans_bad1 {d e : D} {g : G} (hd : plain d) (hb : btw d 1 8 = false) : f_plans_for [d, e] g = .exc "BadNumber" Str.empty [] g := by
  have t1 : f_is_between [d, .int 1, .int 8] g = .ok (.bl false) g := by rw [is_between hd, hb]
  refine fn_exc (s_seqX ?_)
  rw [s_if (b_not (e_tr (e_callF (s_cons (e_var rfl) (s_cons (e_c _) (s_cons (e_bin (e_c _) (e_c _) rfl) s_nil))) t1)))]
  rfl
theorem plans_bad2 {e : D} {a : Int} {g : G} (h1 : 1 ≤ a) (h2 : a ≤ 8) (he : plain e) (hb : btw e 0 (a - 1) = false) : f_plans_for [.int a, e] g = .exc "BadNumber" Str.empty [] g := by
  have t1 : f_is_between [.int a, .int 1, .int 8] g = .ok (.bl true) g := by
    rw [is_between (d := .int a) (show (tyN (.int a)).isSome = true from rfl)]
    show R.ok (D.bl (decide (1 ≤ a) && decide (a ≤ 8))) g = _
    rw [decide_eq_true h1, decide_eq_true h2]
    rfl
  have t2 : f_is_between [e, .int 0, .int (a - 1)] g = .ok (.bl false) g := by rw [is_between he, hb]
  refine fn_exc (s_seq (ρ1 := startE 2 [.int a, e]) (g1 := g) ?_ (s_seqX ?_))
  · rw [s_if (b_not (e_tr (e_callF (s_cons (e_var rfl) (s_cons (e_c _) (s_cons (e_bin (e_c _) (e_c _) rfl) s_nil))) t1)))]
    rfl
  · rw [s_if (b_not (e_tr (e_callF (s_cons (e_var rfl) (s_cons (e_c _) (s_cons (e_bin (e_var rfl) (e_c _) rfl) s_nil))) t2)))]
    rfl
end K38
set_option Elab.async false
set_option linter.all false
set_option maxRecDepth 100000
set_option maxHeartbeats 4000000
namespace DL
open PySem PySem.Spec PyProof.Rows L2
theorem mem_cut {l : List D} {a b : Option Int} {x : D} (h : x ∈ DL.cutD l a b) : x ∈ l := List.mem_of_mem_drop (List.mem_of_mem_take h)
theorem len_cut (l : List D) (a b : Option Int) : (DL.cutD l a b).length ≤ l.length := by
  unfold DL.cutD
  rw [List.length_take, List.length_drop]
  omega
theorem o_some {f : Ep} {ρ : Env} {i : Int} {g g1 : G} (h : f ρ g = .ok (.int i) g1) : oSome f ρ g = .ok (some i) g1 := by
  unfold oSome
  rw [m_bind, h]
  rfl
theorem o_none {ρ : Env} {g : G} : oNone ρ g = .ok none g := rfl
theorem e_slT {f : Ep} {oa ob : Eo} {ρ : Env} {l : List D} {a b : Option Int} {g g1 g2 g3 : G} (hf : f ρ g = .ok (.tup l) g1) (ha : oa ρ g1 = .ok a g2) (hb : ob ρ g2 = .ok b g3) : eSl f oa ob ρ g = .ok (.tup (DL.cutD l a b)) g3 := by
  unfold eSl
  rw [m_bind, hf, rb_ok, m_bind, ha, rb_ok, m_bind, hb, rb_ok]
  rfl
theorem addT {a b : List D} (h : a.length + b.length ≤ 1000) : dAdd (.tup a) (.tup b) = some (.tup (a ++ b)) := by
  unfold dAdd
  dsimp only
  rw [if_pos (line_1000 h)]
theorem addL {a b : List D} (h : a.length + b.length ≤ 1000) : dAdd (.lst a) (.lst b) = some (.lst (a ++ b)) := by
  unfold dAdd
  dsimp only
  rw [if_pos (line_1000 h)]
theorem okr2 {w : Int} (h0 : -100 ≤ w) (h1 : w ≤ 100) : okR (.list [.int w, .int w]) = true := by
  have h : ∀ n ∈ List.range 201, okR (.list [.int ((n : Int) - 100), .int ((n : Int) - 100)]) = true := by decide +kernel
  have e := h (w + 100).toNat (List.mem_range.mpr (by omega))
  have q : (((w + 100).toNat : Nat) : Int) - 100 = w := by omega
  rw [q] at e
  exact e
theorem e_caught {pks : List Str} {fb : Ep} {ρ : Env} {c f : Str} {l : List D} {g g1 : G} (h : fb ρ g = .exc c f l g1) (hc : c ∈ pks) : eCaught pks fb ρ g = .ok (.exc c f l) g1 := by
  unfold eCaught
  rw [h]
  dsimp only
  rw [if_pos hc]
theorem e_lt {ρ : Env} {fa fb : Ep} {a b : Int} {g g1 g2 : G} (ha : fa ρ g = .ok (.int a) g1) (hb : fb ρ g1 = .ok (.int b) g2) : eTr (eBin dLt fa fb) ρ g = .ok (decide (a < b)) g2 := e_tr (e_bin ha hb rfl)
theorem e_gt {ρ : Env} {fa fb : Ep} {a b : Int} {g g1 g2 : G} (ha : fa ρ g = .ok (.int a) g1) (hb : fb ρ g1 = .ok (.int b) g2) : eTr (eBin dGt fa fb) ρ g = .ok (decide (a > b)) g2 := e_tr (e_bin ha hb rfl)
theorem e_ge {ρ : Env} {fa fb : Ep} {a b : Int} {g g1 g2 : G} (ha : fa ρ g = .ok (.int a) g1) (hb : fb ρ g1 = .ok (.int b) g2) : eTr (eBin dGe fa fb) ρ g = .ok (decide (a ≥ b)) g2 := e_tr (e_bin ha hb rfl)
theorem e_eq {ρ : Env} {fa fb : Ep} {a b : Int} {g g1 g2 : G} (ha : fa ρ g = .ok (.int a) g1) (hb : fb ρ g1 = .ok (.int b) g2) : eTr (eBin dEq fa fb) ρ g = .ok (a == b) g2 := e_tr (e_bin ha hb (dEq_int _ _))
theorem e_add {ρ : Env} {fa fb : Ep} {a b : Int} {g g1 g2 : G} (ha : fa ρ g = .ok (.int a) g1) (hb : fb ρ g1 = .ok (.int b) g2) : eBin dAdd fa fb ρ g = .ok (.int (a + b)) g2 := e_bin ha hb rfl
theorem e_sub {ρ : Env} {fa fb : Ep} {a b : Int} {g g1 g2 : G} (ha : fa ρ g = .ok (.int a) g1) (hb : fb ρ g1 = .ok (.int b) g2) : eBin dSub fa fb ρ g = .ok (.int (a - b)) g2 := e_bin ha hb rfl
end DL
namespace K38
open PySem PySem.Spec PyProof.Rows L2 DL

/-! ### a pick -/
theorem pick_ok {l : List D} {k : Nat} {g : G} (h0 : 0 < l.length) (h1 : l.length ≤ 1000) (h : GI (k + 1) g) : ∃ d g', f__law_pick [.st, .lst l] g = .ok d g' ∧ d ∈ l ∧ GI k g' := by
  obtain ⟨r, g1, e1, h2, h3, h4⟩ := draw (n := (l.length : Int)) (by omega) (by omega) h
  obtain ⟨d, e2, hd⟩ := ix_l h2 h3
  exact ⟨d, g1, fn_ret (s_ret (e_bin (e_var rfl) (e_callF (s_cons (e_var rfl) (s_cons (e_call (s_cons (e_var rfl) s_nil) rfl) s_nil)) e1) e2)), hd, h4⟩
/-! ### what is wrong -/
theorem bad_tup {l a b : List D} {x : D} (hx : btw x 0 8 = false) : okSizes (.tup (a ++ [x] ++ b)) = false := by
  show (_ && _ && (a ++ [x] ++ b).all fun x => btw x 0 8) = false
  rw [List.all_append, List.all_append, List.all_cons, hx]
  simp
theorem wrong_sizes {ns : List Int} {k : Nat} {g : G} (hs : Sz ns) (h : GI (k + 2) g) : ∃ d g', f__law_wrong_sizes [.st, .tup (ns.map D.int)] g = .ok d g' ∧ (fine d ∧ okSizes d = false) ∧ GI k g' := by
  have hl1 := hs.l1
  have hl2 := hs.l2
  obtain ⟨r, g1, e1, h2, h3, h4⟩ := draw (n := (ns.length : Int)) (k := k + 1) (by omega) (by omega) h
  let L := ns.map D.int
  have hL : L.length = ns.length := List.length_map ..
  let F : D → D := fun x => .tup (DL.cutD L none (some r) ++ [x] ++ DL.cutD L (some (r + 1)) none)
  have hc : ∀ a b, (DL.cutD L a b).length ≤ 16 := fun a b => Nat.le_trans (len_cut L a b) (by omega)
  let W : List D := [.int 9, .int (-1), .non, .bl true, .str "1"].map F ++ [.lst L, .tup [], .tup (List.replicate 17 (.int 1)), .non, .int 5, .dct [], .str "12"]
  obtain ⟨d, g2, e2, hd, h5⟩ := pick_ok (l := W) (k := k) (g := g1) (by show 0 < 12; decide) (by show 12 ≤ 1000; decide) h4
  refine ⟨d, g2, ?_, ?_, h5⟩
  · let ρ1 : DL.Env := [some (false, .st), some (false, .tup L), some (false, .int r), none, none]
    let ρ2 : DL.Env := [some (false, .st), some (false, .tup L), some (false, .int r), some (false, .lst ([.int 9, .int (-1), .non, .bl true, .str "1"].map F)), none]
    refine fn_ret (s_seq (ρ1 := ρ1) (g1 := g1) (s_set (e_callF (s_cons (e_var rfl) (s_cons (e_call (s_cons (e_var rfl) s_nil) (d := .int (ns.length : Int)) (by show some (D.int ((ns.map D.int).length : Int)) = _; rw [List.length_map])) s_nil)) e1)) (s_seq (ρ1 := ρ2) (g1 := g1) (s_set ?_) (s_ret ?_)))
    · refine e_lc (ds := [.int 9, .int (-1), .non, .bl true, .str "1"]) (s_itemsL (e_lst (s_cons (e_c _) (s_cons (e_un (e_c _) rfl) (s_cons (e_c _) (s_cons (e_c _) (s_cons (e_c _) s_nil))))) (by show 5 ≤ 1000; decide))) (by show 5 ≤ 1000; decide) (lc_all F _ fun x hx => ⟨_, rfl, ?_⟩)
      refine e_bin (e_bin (e_slT (e_var rfl) o_none (o_some (e_var rfl))) (e_tup (s_cons (e_var rfl) s_nil) (by show 1 ≤ 1000; decide)) (addT ?_)) (e_slT (e_var rfl) (o_some (e_bin (e_var rfl) (e_c _) rfl)) o_none) (addT ?_)
      · have := hc none (some r)
        show _ + 1 ≤ _
        omega
      · have := hc none (some r)
        have := hc (some (r + 1)) none
        rw [List.length_append]
        show _ + 1 + _ ≤ _
        omega
    · refine e_callF (s_cons (e_var rfl) (s_cons (e_bin (e_var rfl) (e_lst (ds := [.lst L, .tup [], .tup (List.replicate 17 (.int 1)), .non, .int 5, .dct [], .str "12"]) ?_ (by show 7 ≤ 1000; decide)) (addL (by show 12 ≤ 1000; decide))) s_nil)) e2
      exact s_cons (e_call (s_cons (e_var rfl) s_nil) rfl) (s_cons (e_tup s_nil (by show 0 ≤ 1000; decide)) (s_cons (e_bin (e_tup (s_cons (e_c _) s_nil) (by show 1 ≤ 1000; decide)) (e_c _) (rep_tup (by decide) (by decide))) (s_cons (e_c _) (s_cons (e_c _) (s_cons (e_c _) (s_cons (e_c _) s_nil))))))
  · have plainL : ∀ x ∈ L, plain x := fun x hx => by
      obtain ⟨i, _, rfl⟩ := List.mem_map.mp hx
      rfl
    have one : ∀ x, plain x → btw x 0 8 = false → fine (F x) ∧ okSizes (F x) = false := fun x px bx => by
      refine ⟨⟨rfl, fun l e => ?_⟩, bad_tup (l := []) bx⟩
      cases e
      refine ⟨?_, fun y hy => ?_⟩
      · have := hc none (some r)
        have := hc (some (r + 1)) none
        rw [List.length_append, List.length_append]
        show _ + 1 + _ ≤ _
        omega
      · rcases List.mem_append.mp hy with hy | hy
        · rcases List.mem_append.mp hy with hy | hy
          · exact plainL y (mem_cut hy)
          · rcases List.mem_cons.mp hy with rfl | hy
            · exact px
            · cases hy
        · exact plainL y (mem_cut hy)
    have noTup : ∀ x, plain x → (∀ l, x ≠ .tup l) → fine x ∧ okSizes x = false := fun x px hx => by
      refine ⟨⟨px, fun l e => absurd e (hx l)⟩, ?_⟩
      cases x <;> first | rfl | exact absurd rfl (hx _)
    rcases List.mem_append.mp hd with hd | hd
    · obtain ⟨x, hx, rfl⟩ := List.mem_map.mp hd
      simp only [List.mem_cons, List.not_mem_nil, or_false] at hx
      rcases hx with rfl | rfl | rfl | rfl | rfl <;> exact one _ rfl (by decide)
    · simp only [List.mem_cons, List.not_mem_nil, or_false] at hd
      rcases hd with rfl | rfl | rfl | rfl | rfl | rfl | rfl
      · exact noTup _ rfl fun l e => by cases e
      · exact ⟨⟨rfl, fun l e => by cases e; exact ⟨Nat.zero_le _, fun _ h => by cases h⟩⟩, rfl⟩
      · refine ⟨⟨rfl, fun l e => ?_⟩, ?_⟩
        · cases e
          refine ⟨by rw [List.length_replicate]; decide, fun x hx => ?_⟩
          rw [List.eq_of_mem_replicate hx]
          rfl
        · rfl
      · exact noTup _ rfl fun l e => by cases e
      · exact noTup _ rfl fun l e => by cases e
      · exact noTup _ rfl fun l e => by cases e
      · exact noTup _ rfl fun l e => by cases e
theorem wrong_number {k : Nat} {g : G} (h : GI (k + 1) g) : ∃ d g', f__law_wrong_number [.st] g = .ok d g' ∧ (plain d ∧ btw d 1 8 = false) ∧ GI k g' := by
  let W : List D := [.int 0, .int 9, .int (-1), .non, .bl true, .str "2", .tup [.int 2], .lst [.int 2], .int 1000000]
  obtain ⟨d, g1, e1, hd, h2⟩ := pick_ok (l := W) (k := k) (g := g) (by show 0 < 9; decide) (by show 9 ≤ 1000; decide) h
  refine ⟨d, g1, fn_ret (s_ret (e_callF (s_cons (e_var rfl) (s_cons (e_lst (ds := W) ?_ (by show 9 ≤ 1000; decide)) s_nil)) e1)), ?_, h2⟩
  · exact s_cons (e_c _) (s_cons (e_c _) (s_cons (e_un (e_c _) rfl) (s_cons (e_c _) (s_cons (e_c _) (s_cons (e_c _) (s_cons (e_tup (s_cons (e_c _) s_nil) (by show 1 ≤ 1000; decide)) (s_cons (e_lst (s_cons (e_c _) s_nil) (by show 1 ≤ 1000; decide)) (s_cons (e_bin (e_c _) (e_c _) (by rfl)) s_nil))))))))
  · simp only [W, List.mem_cons, List.not_mem_nil, or_false] at hd
    rcases hd with rfl | rfl | rfl | rfl | rfl | rfl | rfl | rfl | rfl <;> exact ⟨rfl, by decide⟩
/-! ### caught -/
theorem wide_bad {d : D} {g : G} (h : fine d) (ho : okSizes d = false) : f_wide_sure [d] g = .exc "BadSizes" Str.empty [] g :=
  fn_exc (s_seqX (s_exprX (e_callF (s_cons (e_var rfl) s_nil) (need_bad h ho))))
theorem is_caught {fb : Ep} {ρ : DL.Env} {c : Str} {g : G} (h : fb ρ g = .exc c Str.empty [] g) (hc : c ∈ pks) (hi : subOf isiT c c = some true) :
    bNot (eTr (eCall isi (sCons (eCaught pks fb) (sCons (eC (.fn c)) sNil)))) ρ g = .ok false g :=
by
  have e : isi [.exc c Str.empty [], .fn c] = some (.bl true) := by
    show (subOf isiT c c).map D.bl = _
    rw [hi]
    rfl
  exact b_not (e_tr (e_call (s_cons (e_caught h hc) (s_cons (e_c _) s_nil)) e))
/-! ### equal sizes -/
theorem fin : ∀ a ∈ List.range 9, ∀ b ∈ List.range a, 1 ≤ ((b : Int) + 2) * a / (b + 1) - b - 1 ∧ ((b : Int) + 2) * a / (b + 1) - b - 1 ≤ 16 ∧ (a : Int) - b ≤ (wide (List.replicate (((b : Int) + 2) * a / (b + 1) - b - 1).toNat (a : Int)) : Int) ∧
    (1 < (a : Int) - b → (wide (List.replicate ((a : Int) - b - 1).toNat (a : Int)) : Int) < a - b) := by decide +kernel
theorem rep_sz {a : Int} {k : Nat} (h0 : 0 ≤ a) (h1 : a ≤ 8) (h2 : 1 ≤ k) (h3 : k ≤ 16) : Sz (List.replicate k a) := ⟨by rw [List.length_replicate]; exact h2, by rw [List.length_replicate]; exact h3, fun i hi => by rw [List.eq_of_mem_replicate hi]; exact ⟨h0, h1⟩⟩
theorem wide_rep {a : Int} {k : Nat} {g : G} (h0 : 0 ≤ a) (h1 : a ≤ 8) (h2 : 1 ≤ k) (h3 : k ≤ 16) : f_wide_sure [.tup (List.replicate k (.int a))] g = .ok (.int (wide (List.replicate k a))) g := by
  obtain ⟨ms, p, e⟩ := sort_ints (ns := List.replicate k a) (by rw [List.length_replicate]; omega)
  have q : ms = List.replicate k a := List.perm_replicate.mp p
  subst q
  have h := wide_ok (g := g) (rep_sz h0 h1 h2 h3) (by rw [List.length_replicate]; exact h3) e
  rw [List.map_replicate] at h
  exact h
end K38
set_option Elab.async false
set_option linter.all false
set_option maxRecDepth 100000
set_option maxHeartbeats 4000000
namespace K38
open PySem PySem.Spec PyProof.Rows L2 DL

abbrev Sl := Option (Bool × D)
abbrev sA : Ss := (sSet false 3 (eCall fTuple (sCons (eLc (sRange1 (eBin dAdd (eC (.int 1)) (eCallF f__law_draw (sCons (eVar 1) (sCons (eC (.int 16)) sNil))))) (gN 10) sYes (eCallF f__law_draw (sCons (eVar 1) (sCons (eC (.int 9)) sNil))) [10]) sNil)))
abbrev sB : Ss := (sIf (eTr (eBin dEq (eCallF f__law_draw (sCons (eVar 1) (sCons (eC (.int 2)) sNil))) (eC (.int 0))))
  (sSet false 3 (eBin dMul (eTup (sCons (eBin dAdd (eC (.int 1)) (eCallF f__law_draw (sCons (eVar 1) (sCons (eC (.int 8)) sNil)))) sNil)) (eBin dAdd (eC (.int 1)) (eCallF f__law_draw (sCons (eVar 1) (sCons (eC (.int 16)) sNil))))))
  (fun ρ => M.pure (.nx ρ)))
theorem stA {n k : Nat} {a2 a3 a4 a5 a6 a7 a8 a9 a10 : Sl} {g : G} (h : GI (k + 17) g) : ∃ ns g', Sz ns ∧ GI k g' ∧
    sA [some (false, .scr n), some (false, .st), a2, a3, a4, a5, a6, a7, a8, a9, a10] g = .ok (.nx [some (false, .scr n), some (false, .st), a2, some (false, .tup (ns.map D.int)), a4, a5, a6, a7, a8, a9, a10]) g' := by
  obtain ⟨r, g1, e1, h2, h3, h4⟩ := draw (n := 16) (k := k + 16) (by decide) (by decide) h
  let ρ : DL.Env := [some (false, .scr n), some (false, .st), a2, a3, a4, a5, a6, a7, a8, a9, a10]
  let m := (1 + r).toNat
  have hm : m ≤ 16 := by show (1 + r).toNat ≤ 16; omega
  have hm1 : 1 ≤ m := by show 1 ≤ (1 + r).toNat; omega
  obtain ⟨ys, g2, e2, hl, hq, h5⟩ := lc_draw (ρ := wipeE ρ [10]) (t := gN 10) (f := eCallF f__law_draw (sCons (eVar 1) (sCons (eC (.int 9)) sNil))) 1 (fun y => ∃ i, y = D.int i ∧ (0 ≤ i ∧ i ≤ 8)) (rangeL 0 m) k g1 (fun d hd k g hg => by
    obtain ⟨i, g', e, i0, i1, hg'⟩ := draw (n := 9) (by decide) (by decide) hg
    exact ⟨_, .int i, g', rfl, e_callF (s_cons (e_var rfl) (s_cons (e_c _) s_nil)) e, hg', i, rfl, i0, by omega⟩) (h4.mono (by rw [rangeL_len]; omega))
  obtain ⟨ns, rfl, hn⟩ := ints_of hq
  rw [rangeL_len, List.length_map] at hl
  refine ⟨ns, g2, ⟨by omega, by omega, hn⟩, h5, s_set (e_call (s_cons (e_lc (s_range1 (n := m) ?_ (by omega)) (by rw [rangeL_len]; omega) e2) s_nil) rfl)⟩
  have q : (m : Int) = 1 + r := by show (((1 + r).toNat : Nat) : Int) = _; omega
  rw [q]
  exact e_add (e_c _) (e_callF (s_cons (e_var rfl) (s_cons (e_c _) s_nil)) e1)
theorem stB {n k : Nat} {ns : List Int} {a2 a4 a5 a6 a7 a8 a9 a10 : Sl} {g : G} (hs : Sz ns) (h : GI (k + 3) g) : ∃ ms g', Sz ms ∧ GI k g' ∧
    sB [some (false, .scr n), some (false, .st), a2, some (false, .tup (ns.map D.int)), a4, a5, a6, a7, a8, a9, a10] g = .ok (.nx [some (false, .scr n), some (false, .st), a2, some (false, .tup (ms.map D.int)), a4, a5, a6, a7, a8, a9, a10]) g' := by
  obtain ⟨r, g1, e1, h2, h3, h4⟩ := draw (n := 2) (k := k + 2) (by decide) (by decide) h
  have t := e_eq (ρ := [some (false, .scr n), some (false, .st), a2, some (false, .tup (ns.map D.int)), a4, a5, a6, a7, a8, a9, a10]) (e_callF (cf := f__law_draw) (s_cons (e_var (i := 1) rfl) (s_cons (e_c (.int 2)) s_nil)) e1) (e_c (.int 0))
  by_cases hr : r = 0
  · subst hr
    obtain ⟨a, g2, e2, i2, i3, h5⟩ := draw (n := 8) (k := k + 1) (by decide) (by decide) h4
    obtain ⟨b, g3, e3, j2, j3, h6⟩ := draw (n := 16) (k := k) (by decide) (by decide) h5
    refine ⟨List.replicate (1 + b).toNat (1 + a), g3, rep_sz (by omega) (by omega) (by omega) (by omega), h6, ?_⟩
    unfold sB
    rw [s_if t, if_pos (show ((0 : Int) == 0) = true from rfl), List.map_replicate]
    exact s_set (e_bin (e_tup (s_cons (e_add (e_c _) (e_callF (s_cons (e_var rfl) (s_cons (e_c _) s_nil)) e2)) s_nil) (by show 1 ≤ 1000; decide)) (e_add (e_c _) (e_callF (s_cons (e_var rfl) (s_cons (e_c _) s_nil)) e3)) (rep_tup (by omega) (by omega)))
  · refine ⟨ns, g1, hs, h4.mono (by omega), ?_⟩
    unfold sB
    rw [s_if t, if_neg (by simpa using hr)]
theorem s_ifF {c : Et} {t : Ss} {ρ : DL.Env} {g g1 : G} (h : c ρ g = .ok false g1) : sIf c t (fun ρ => M.pure (.nx ρ)) ρ g = .ok (.nx ρ) g1 := by rw [s_if h]; rfl
theorem e_ltF {ρ : DL.Env} {fa fb : Ep} {a b : Int} {g g1 g2 : G} (ha : fa ρ g = .ok (.int a) g1) (hb : fb ρ g1 = .ok (.int b) g2) (h : ¬ a < b) : eTr (eBin dLt fa fb) ρ g = .ok false g2 := by
  have q := e_lt ha hb
  rw [decide_eq_false h] at q
  exact q
theorem e_geF {ρ : DL.Env} {fa fb : Ep} {a b : Int} {g g1 g2 : G} (ha : fa ρ g = .ok (.int a) g1) (hb : fb ρ g1 = .ok (.int b) g2) (h : ¬ a ≥ b) : eTr (eBin dGe fa fb) ρ g = .ok false g2 := by
  have q := e_ge ha hb
  rw [decide_eq_false h] at q
  exact q
theorem wide_le {ms : List Int} : wide ms ≤ ms.length := least_le _ 0 (Nat.zero_le _)
abbrev sLoop : Ss :=
  (sSeq (sSet false 3 (eCall fTuple (sCons (eLc (sRange1 (eBin dAdd (eC (.int 1)) (eCallF f__law_draw (sCons (eVar 1) (sCons (eC (.int 16)) sNil))))) (gN 10) sYes (eCallF f__law_draw (sCons (eVar 1) (sCons (eC (.int 9)) sNil))) [10]) sNil)))
  (sSeq (sIf (eTr (eBin dEq (eCallF f__law_draw (sCons (eVar 1) (sCons (eC (.int 2)) sNil))) (eC (.int 0))))
  (sSet false 3 (eBin dMul (eTup (sCons (eBin dAdd (eC (.int 1)) (eCallF f__law_draw (sCons (eVar 1) (sCons (eC (.int 8)) sNil)))) sNil)) (eBin dAdd (eC (.int 1)) (eCallF f__law_draw (sCons (eVar 1) (sCons (eC (.int 16)) sNil))))))
  (fun ρ => M.pure (.nx ρ)))
  (sSeq (sSet false 4 (eCallF f__law_wide_sure (sCons (eVar 3) sNil)))
  (sSeq (sIf (eTr (eBin dNe (eCall fRepr (sCons (eLst (sCons (eCallF f_wide_sure (sCons (eVar 3) sNil)) (sCons (eCallK f_wide_sure [0] sNil (sCons (eVar 3) sNil)) sNil))) sNil)) (eCall fRepr (sCons (eLst (sCons (eVar 4) (sCons (eVar 4) sNil))) sNil))))
  (sRet (eC (.bl false)))
  (fun ρ => M.pure (.nx ρ)))
  (sSeq (sSet false 7 (eBin dAdd (eC (.int 1)) (eCallF f__law_draw (sCons (eVar 1) (sCons (eC (.int 8)) sNil)))))
  (sSeq (sSet false 5 (eCallF f__law_draw (sCons (eVar 1) (sCons (eVar 7) sNil))))
  (sSeq (sSet false 4 (eBin dSub (eBin dSub (eBin dFdiv (eBin dMul (eBin dAdd (eVar 5) (eC (.int 2))) (eVar 7)) (eBin dAdd (eVar 5) (eC (.int 1)))) (eVar 5)) (eC (.int 1))))
  (sSeq (sIf (eTr (eBin dNe (eCall fRepr (sCons (eLst (sCons (eCallF f_plans_for (sCons (eVar 7) (sCons (eVar 5) sNil))) (sCons (eCallK f_plans_for [1, 0] sNil (sCons (eVar 5) (sCons (eVar 7) sNil))) sNil))) sNil)) (eCall fRepr (sCons (eLst (sCons (eVar 4) (sCons (eVar 4) sNil))) sNil))))
  (sRet (eC (.bl false)))
  (fun ρ => M.pure (.nx ρ)))
  (sSeq (sIf (bOr (eTr (eBin dLt (eCallF f_wide_sure (sCons (eBin dMul (eTup (sCons (eVar 7) sNil)) (eVar 4)) sNil)) (eBin dSub (eVar 7) (eVar 5)))) (bAnd (eTr (eBin dGt (eBin dSub (eVar 7) (eVar 5)) (eC (.int 1)))) (eTr (eBin dGe (eCallF f_wide_sure (sCons (eBin dMul (eTup (sCons (eVar 7) sNil)) (eBin dSub (eBin dSub (eVar 7) (eVar 5)) (eC (.int 1)))) sNil)) (eBin dSub (eVar 7) (eVar 5))))))
  (sRet (eC (.bl false)))
  (fun ρ => M.pure (.nx ρ)))
  (sSeq (sSet false 9 (eCallF f__law_wrong_sizes (sCons (eVar 1) (sCons (eVar 3) sNil))))
  (sSeq (sIf (bNot (eTr (eCall isi (sCons (eCaught pks (eCallF f_wide_sure (sCons (eVar 9) sNil))) (sCons (eC (.fn "BadSizes")) sNil)))))
  (sRet (eC (.bl false)))
  (fun ρ => M.pure (.nx ρ)))
  (sSeq (sSet false 8 (eCallF f__law_wrong_number (sCons (eVar 1) sNil)))
  (sSeq (sIf (bNot (eTr (eCall isi (sCons (eCaught pks (eCallF f_plans_for (sCons (eVar 8) (sCons (eC (.int 0)) sNil)))) (sCons (eC (.fn "BadNumber")) sNil)))))
  (sRet (eC (.bl false)))
  (fun ρ => M.pure (.nx ρ)))
  (sFor (sItems (eLst (sCons (eVar 7) (sCons (eUn uNeg (eC (.int 1))) (sCons (eC .non) (sCons (eC (.bl true)) (sCons (eC (.bl false)) (sCons (eC (.str "0")) (sCons (eTup (sCons (eC (.int 0)) sNil)) sNil))))))))) (gN 6)
  (sIf (bNot (eTr (eCall isi (sCons (eCaught pks (eCallF f_plans_for (sCons (eVar 7) (sCons (eVar 6) sNil)))) (sCons (eC (.fn "BadNumber")) sNil)))))
  (sRet (eC (.bl false)))
  (fun ρ => M.pure (.nx ρ)))))))))))))))))
abbrev sBads : Ss := (sFor (sItems (eLst (sCons (eVar 7) (sCons (eUn uNeg (eC (.int 1))) (sCons (eC .non) (sCons (eC (.bl true)) (sCons (eC (.bl false)) (sCons (eC (.str "0")) (sCons (eTup (sCons (eC (.int 0)) sNil)) sNil))))))))) (gN 6)
  (sIf (bNot (eTr (eCall isi (sCons (eCaught pks (eCallF f_plans_for (sCons (eVar 7) (sCons (eVar 6) sNil)))) (sCons (eC (.fn "BadNumber")) sNil)))))
  (sRet (eC (.bl false)))
  (fun ρ => M.pure (.nx ρ))))
theorem m_num : ("BadNumber" : Str) ∈ pks := by decide
theorem m_siz : ("BadSizes" : Str) ∈ pks := by decide
theorem i_num : subOf isiT "BadNumber" "BadNumber" = some true := by decide
theorem i_siz : subOf isiT "BadSizes" "BadSizes" = some true := by decide
theorem bads_ok {n : Nat} {A : Int} {a2 a3 a4 a5 a6 a8 a9 a10 : Sl} {g : G} (h1 : 1 ≤ A) (h2 : A ≤ 8) : ∃ a6', 
    sBads [some (false, .scr n), some (false, .st), a2, a3, a4, a5, a6, some (false, .int A), a8, a9, a10] g = .ok (.nx [some (false, .scr n), some (false, .st), a2, a3, a4, a5, a6', some (false, .int A), a8, a9, a10]) g := by
  obtain ⟨ρ2, e, a6', hj⟩ := for_pure (t := gN 6) (body := (sIf (bNot (eTr (eCall isi (sCons (eCaught pks (eCallF f_plans_for (sCons (eVar 7) (sCons (eVar 6) sNil)))) (sCons (eC (.fn "BadNumber")) sNil)))))
      (sRet (eC (.bl false)))
      (fun ρ => M.pure (.nx ρ)))) (g := g) (fun ρ => ∃ b, ρ = [some (false, .scr n), some (false, .st), a2, a3, a4, a5, b, some (false, .int A), a8, a9, a10]) [.int A, .int (-1), .non, .bl true, .bl false, .str "0", .tup [.int 0]] _ (fun d hd ρ hρ => by
    obtain ⟨b, rfl⟩ := hρ
    refine ⟨_, _, rfl, s_ifF (is_caught (e_callF (s_cons (e_var rfl) (s_cons (e_var rfl) s_nil)) ?_) m_num i_num), _, rfl⟩
    have hd2 : plain d ∧ btw d 0 (A - 1) = false := by
      simp only [List.mem_cons, List.not_mem_nil, or_false] at hd
      rcases hd with rfl | rfl | rfl | rfl | rfl | rfl | rfl
      · refine ⟨rfl, ?_⟩
        show (decide (0 ≤ A) && decide (A ≤ A - 1)) = false
        rw [decide_eq_false (show ¬ A ≤ A - 1 by omega), Bool.and_false]
      all_goals exact ⟨rfl, rfl⟩
    exact plans_bad2 h1 h2 hd2.1 hd2.2) ⟨a6, rfl⟩
  refine ⟨a6', ?_⟩
  rw [← hj]
  exact s_for (s_itemsL (e_lst (s_cons (e_var rfl) (s_cons (e_un (e_c _) rfl) (s_cons (e_c _) (s_cons (e_c _) (s_cons (e_c _) (s_cons (e_c _) (s_cons (e_tup (s_cons (e_c _) s_nil) (by show 1 ≤ 1000; decide)) s_nil))))))) (by show 7 ≤ 1000; decide))) e
/-- one turn -/
theorem turn_ok {n k : Nat} {a2 a3 a4 a5 a6 a7 a8 a9 a10 : Sl} {g : G} (h : GI (k + 40) g) : ∃ a2' a3' a4' a5' a6' a7' a8' a9' a10' g', GI k g' ∧
    sLoop [some (false, .scr n), some (false, .st), a2, a3, a4, a5, a6, a7, a8, a9, a10] g = .ok (.nx [some (false, .scr n), some (false, .st), a2', a3', a4', a5', a6', a7', a8', a9', a10']) g' := by
  obtain ⟨ms1, g1, hs1, h1, eA⟩ := stA (n := n) (k := k + 23) (a2 := a2) (a3 := a3) (a4 := a4) (a5 := a5) (a6 := a6) (a7 := a7) (a8 := a8) (a9 := a9) (a10 := a10) h
  obtain ⟨ms, g2, hs, h2, eB⟩ := stB (n := n) (k := k + 20) (a2 := a2) (a4 := a4) (a5 := a5) (a6 := a6) (a7 := a7) (a8 := a8) (a9 := a9) (a10 := a10) hs1 h1
  obtain ⟨rs, p, es⟩ := sort_ints (ns := ms) (by have := hs.l2; omega)
  have hrs : rs.length ≤ 16 := by rw [p.length_eq]; exact hs.l2
  have hw : f_wide_sure [.tup (ms.map D.int)] g2 = .ok (.int (wide rs)) g2 := wide_ok hs hrs es
  have hwl := wide_le (ms := rs)
  obtain ⟨r1, g3, e3, i0, i1, h3⟩ := draw (n := 8) (k := k + 19) (by decide) (by decide) h2
  obtain ⟨A, hA⟩ : ∃ A : Nat, 1 + r1 = (A : Int) := ⟨(1 + r1).toNat, by omega⟩
  obtain ⟨r2, g4, e4, j0, j1, h4⟩ := draw (n := (A : Int)) (k := k + 18) (by omega) (by omega) h3
  obtain ⟨B, rfl⟩ : ∃ B : Nat, r2 = (B : Int) := ⟨r2.toNat, by omega⟩
  obtain ⟨f1, f2, f3, f4⟩ := fin A (List.mem_range.mpr (by omega)) B (List.mem_range.mpr (by omega))
  have hpl : f_plans_for [.int A, .int B] g4 = .ok (.int (((B : Int) + 2) * A / (B + 1) - B - 1)) g4 := by
    rw [plans_ok (by omega) (by omega) (by omega) (by omega)]
    congr 2
    omega
  have hdue : ∀ g, eBin dSub (eBin dSub (eBin dFdiv (eBin dMul (eBin dAdd (eVar 5) (eC (.int 2))) (eVar 7)) (eBin dAdd (eVar 5) (eC (.int 1)))) (eVar 5)) (eC (.int 1)) [some (false, .scr n), some (false, .st), a2, some (false, .tup (ms.map D.int)), some (false, .int (wide rs)), some (false, .int B), a6, some (false, .int A), a8, a9, a10] g = .ok (.int (((B : Int) + 2) * A / (B + 1) - B - 1)) g := fun g =>
    e_sub (e_sub (e_bin (e_bin (e_add (e_var rfl) (e_c _)) (e_var rfl) (mul_ok (by omega) (by omega))) (e_add (e_var rfl) (e_c _)) (fdiv_ok (by omega) (by omega))) (e_var rfl)) (e_c _)
  generalize hdu : ((B : Int) + 2) * A / (B + 1) - B - 1 = due at f1 f2 f3 hpl hdue
  obtain ⟨d1, g5, e5, ⟨k1, k2⟩, h5⟩ := wrong_sizes (k := k + 16) hs h4
  obtain ⟨d2, g6, e6, ⟨k3, k4⟩, h6⟩ := wrong_number (k := k + 15) h5
  obtain ⟨a6', eF⟩ := bads_ok (n := n) (A := A) (a2 := a2) (a3 := some (false, .tup (ms.map D.int))) (a4 := some (false, .int due)) (a5 := some (false, .int B)) (a6 := a6) (a8 := some (false, d2)) (a9 := some (false, d1)) (a10 := a10) (g := g6) (by omega) (by omega)
  have w1 : f_wide_sure [.tup (List.replicate due.toNat (.int A))] g4 = .ok (.int (wide (List.replicate due.toNat (A : Int)))) g4 := wide_rep (by omega) (by omega) (by omega) (by omega)
  refine ⟨_, _, _, _, _, _, _, _, _, g6, h6.mono (by omega), s_seq eA (s_seq eB (s_seq (s_set (e_callF (s_cons (e_var rfl) s_nil) (law_wide_ok hrs es))) (s_seq (s_ifF (g1 := g2) ?_) (s_seq (s_set (d := .int A) (g1 := g3) ?_) (s_seq (s_set (e_callF (s_cons (e_var rfl) (s_cons (e_var rfl) s_nil)) e4)) (s_seq (s_set (hdue g4)) (s_seq (s_ifF (g1 := g4) ?_) (s_seq (s_ifF (g1 := g4) ?_) (s_seq (s_set (e_callF (s_cons (e_var rfl) (s_cons (e_var rfl) s_nil)) e5)) (s_seq (s_ifF (g1 := g5) ?_) (s_seq (s_set (e_callF (s_cons (e_var rfl) s_nil) e6)) (s_seq (s_ifF (g1 := g6) ?_) eF))))))))))))⟩
  · exact e_reprNe (s_cons (e_lst (s_cons (e_callF (s_cons (e_var rfl) s_nil) hw) (s_cons (e_callK s_nil (s_cons (e_var rfl) s_nil) hw) s_nil)) (by show 2 ≤ 1000; decide)) s_nil) (s_cons (e_lst (s_cons (e_var rfl) (s_cons (e_var rfl) s_nil)) (by show 2 ≤ 1000; decide)) s_nil) rfl (okr2 (by omega) (by omega))
  · rw [← hA]
    exact e_add (e_c _) (e_callF (s_cons (e_var rfl) (s_cons (e_c _) s_nil)) e3)
  · exact e_reprNe (s_cons (e_lst (s_cons (e_callF (s_cons (e_var rfl) (s_cons (e_var rfl) s_nil)) hpl) (s_cons (e_callK s_nil (s_cons (e_var rfl) (s_cons (e_var rfl) s_nil)) hpl) s_nil)) (by show 2 ≤ 1000; decide)) s_nil) (s_cons (e_lst (s_cons (e_var rfl) (s_cons (e_var rfl) s_nil)) (by show 2 ≤ 1000; decide)) s_nil) rfl (okr2 (by omega) (by omega))
  · refine b_or (e_ltF (e_callF (s_cons (e_bin (e_tup (s_cons (e_var rfl) s_nil) (by show 1 ≤ 1000; decide)) (e_var rfl) (rep_tup (by omega) (by omega))) s_nil) w1) (e_sub (e_var rfl) (e_var rfl)) (by omega)) (fun _ => b_and (e_gt (e_sub (e_var rfl) (e_var rfl)) (e_c (.int 1))) (fun hb => ?_) fun hb => ⟨rfl, rfl⟩) fun hb => by cases hb
    have hab : 1 < (A : Int) - B := of_decide_eq_true hb
    exact e_geF (e_callF (s_cons (e_bin (e_tup (s_cons (e_var rfl) s_nil) (by show 1 ≤ 1000; decide)) (e_sub (e_sub (e_var rfl) (e_var rfl)) (e_c _)) (rep_tup (by omega) (by omega))) s_nil) (wide_rep (by omega) (by omega) (by omega) (by omega))) (e_sub (e_var rfl) (e_var rfl)) (by have := f4 hab; omega)
  · exact is_caught (e_callF (s_cons (e_var rfl) s_nil) (wide_bad k1 k2)) m_siz i_siz
  · exact is_caught (e_callF (s_cons (e_var rfl) (s_cons (e_c _) s_nil)) (plans_bad1 k3 k4)) m_num i_num
theorem pure_law : ∀ ns : List Int, ns.length ≤ 63 → ∃ g', t_law (startLaw 11 ns.length) (g0 ns) = .ok (.ret (.bl true)) g' := fun ns hns => by
  let n := ns.length
  let m : Nat := if 8 < n then 8 else n
  have hm : m ≤ 8 := by show (if 8 < n then 8 else n) ≤ 8; split <;> omega
  obtain ⟨ρ2, g', e, _, _⟩ := for_draw (t := gN 2) (body := sLoop) 40 (fun ρ => ∃ a2 a3 a4 a5 a6 a7 a8 a9 a10 : Sl, ρ = [some (false, .scr n), some (false, .st), a2, a3, a4, a5, a6, a7, a8, a9, a10]) (rangeL 0 (3 + m)) (startLaw 11 n) 0 (g0 ns) (fun d hd ρ hρ k g hg => by
    obtain ⟨a2, a3, a4, a5, a6, a7, a8, a9, a10, rfl⟩ := hρ
    obtain ⟨b2, b3, b4, b5, b6, b7, b8, b9, b10, g', hk, e⟩ := turn_ok (n := n) (a2 := some (false, d)) (a3 := a3) (a4 := a4) (a5 := a5) (a6 := a6) (a7 := a7) (a8 := a8) (a9 := a9) (a10 := a10) hg
    exact ⟨_, _, g', rfl, e, ⟨_, _, _, _, _, _, _, _, _, rfl⟩, hk⟩) ⟨_, _, _, _, _, _, _, _, _, rfl⟩ ((gi0 hns).mono (by rw [rangeL_len]; omega))
  refine ⟨g', s_seq (s_for (s_range1 (n := 3 + m) ?_ (by omega)) e) (s_ret (e_c _))⟩
  have q : ((3 + m : Nat) : Int) = 3 + (if (8 : Int) < (n : Int) then 8 else (n : Int)) := by
    show ((3 + (if 8 < n then 8 else n) : Nat) : Int) = _
    split <;> split <;> omega
  rw [q]
  exact e_add (e_c _) (e_call (s_cons (e_call (s_cons (e_var rfl) s_nil) rfl) (s_cons (e_c _) s_nil)) rfl)
end K38
open PySem PySem.W PyProof.Rows in
set_option maxRecDepth 100000 in
set_option maxHeartbeats 0 in
theorem PySem.Challenge.cw_pairpicks_k38_sizes_that_make_sure_holds : PySem.Challenge.rw_pairpicks_k38_sizes_that_make_sure.Holds := by
  w_on; o_law; k_head; (case hw => w_witness2)
  k_fill
  first
    | refine DL.walk_end (n := 63) (l := PySem.Challenge.rw_pairpicks_k38_sizes_that_make_sure) rfl (by decide) rfl (fun w h Y => PySem.W.kIn_of Y) ?F
    | refine DL.walk_end (n := 63) (l := PySem.Challenge.rw_pairpicks_k38_sizes_that_make_sure) rfl (by decide) rfl (fun w h Y => PySem.W.km_in_of Y) ?F
  case F =>
    intro w mg fa h Y KX G hmg own
    refine' K38.law_all (l := PySem.Challenge.rw_pairpicks_k38_sizes_that_make_sure) rfl K38.pure_law KX G hmg (own "law" (by rfl)) ?a_is_between ?l_is_between ?c_is_between ?k_is_between ?a_are_sizes ?l_are_sizes ?c_are_sizes ?k_are_sizes ?a_need_sizes ?l_need_sizes ?c_need_sizes ?k_need_sizes ?a_surplus_over ?l_surplus_over ?c_surplus_over ?k_surplus_over ?a_wide_sure ?l_wide_sure ?c_wide_sure ?k_wide_sure ?a_plans_for ?l_plans_for ?c_plans_for ?k_plans_for ?a__law_begun ?l__law_begun ?c__law_begun ?k__law_begun ?a__law_draw ?l__law_draw ?c__law_draw ?k__law_draw ?a__law_pick ?l__law_pick ?c__law_pick ?k__law_pick ?a__law_caught ?l__law_caught ?c__law_caught ?k__law_caught ?a__law_over ?l__law_over ?c__law_over ?k__law_over ?a__law_wide_sure ?l__law_wide_sure ?c__law_wide_sure ?k__law_wide_sure ?a__law_wrong_sizes ?l__law_wrong_sizes ?c__law_wrong_sizes ?k__law_wrong_sizes ?a__law_wrong_number ?l__law_wrong_number ?c__law_wrong_number ?k__law_wrong_number ?a_law ?l_law ?c_law ?k_law ?l_code ?u_code ?h_code ?p_code ?g_BadNumber ?x_BadNumber ?kp_BadNumber ?ty_BadNumber ?e1_BadNumber ?e2_BadNumber ?e3_BadNumber ?e4_BadNumber ?e5_BadNumber ?e6_BadNumber ?g_BadSizes ?x_BadSizes ?kp_BadSizes ?ty_BadSizes ?e1_BadSizes ?e2_BadSizes ?e3_BadSizes ?e4_BadSizes ?e5_BadSizes ?e6_BadSizes ?g_PickError ?x_PickError ?kp_PickError ?ty_PickError ?e1_PickError ?e2_PickError ?e3_PickError ?e4_PickError ?e5_PickError ?e6_PickError ?e7 ?e8 ?i_MOST_NUMBER ?i_MOST_PLANS ?z_abs ?z_all ?z_bool ?z_int ?z_isinstance ?z_len ?z_list ?z_max ?z_min ?z_range ?z_repr ?z_sorted ?z_sum ?z_tuple ?s_BadNumber_BadSizes ?ne_BadNumber_BadSizes ?s_BadSizes_BadNumber ?ne_BadSizes_BadNumber ?y_NoneType_BadNumber ?y_bool_BadNumber ?y_int_BadNumber ?y_str_BadNumber ?y_tuple_BadNumber ?y_list_BadNumber ?y_dict_BadNumber ?y_NoneType_BadSizes ?y_bool_BadSizes ?y_int_BadSizes ?y_str_BadSizes ?y_tuple_BadSizes ?y_list_BadSizes ?y_dict_BadSizes ?q_BadNumber ?q_BadSizes
    (case a_is_between => k_is)
    (case l_is_between => k_is)
    (case c_is_between => k_is)
    (case k_is_between => k_is)
    (case a_are_sizes => k_is)
    (case l_are_sizes => k_is)
    (case c_are_sizes => k_is)
    (case k_are_sizes => k_is)
    (case a_need_sizes => k_is)
    (case l_need_sizes => k_is)
    (case c_need_sizes => k_is)
    (case k_need_sizes => k_is)
    (case a_surplus_over => k_is)
    (case l_surplus_over => k_is)
    (case c_surplus_over => k_is)
    (case k_surplus_over => k_is)
    (case a_wide_sure => k_is)
    (case l_wide_sure => k_is)
    (case c_wide_sure => k_is)
    (case k_wide_sure => k_is)
    (case a_plans_for => k_is)
    (case l_plans_for => k_is)
    (case c_plans_for => k_is)
    (case k_plans_for => k_is)
    (case a__law_begun => k_is)
    (case l__law_begun => k_is)
    (case c__law_begun => k_is)
    (case k__law_begun => k_is)
    (case a__law_draw => k_is)
    (case l__law_draw => k_is)
    (case c__law_draw => k_is)
    (case k__law_draw => k_is)
    (case a__law_pick => k_is)
    (case l__law_pick => k_is)
    (case c__law_pick => k_is)
    (case k__law_pick => k_is)
    (case a__law_caught => k_is)
    (case l__law_caught => k_is)
    (case c__law_caught => k_is)
    (case k__law_caught => k_is)
    (case a__law_over => k_is)
    (case l__law_over => k_is)
    (case c__law_over => k_is)
    (case k__law_over => k_is)
    (case a__law_wide_sure => k_is)
    (case l__law_wide_sure => k_is)
    (case c__law_wide_sure => k_is)
    (case k__law_wide_sure => k_is)
    (case a__law_wrong_sizes => k_is)
    (case l__law_wrong_sizes => k_is)
    (case c__law_wrong_sizes => k_is)
    (case k__law_wrong_sizes => k_is)
    (case a__law_wrong_number => k_is)
    (case l__law_wrong_number => k_is)
    (case c__law_wrong_number => k_is)
    (case k__law_wrong_number => k_is)
    (case a_law => k_is)
    (case l_law => k_is)
    (case c_law => k_is)
    (case k_law => k_is)
    (case l_code => k_is)
    (case u_code => first | rfl | k_is)
    (case h_code => first | exact rfl | kernel_rfl)
    (case p_code => first | rfl | k_is)
    (case g_BadNumber => k_is)
    (case x_BadNumber => first | k_is | k_exc)
    (case kp_BadNumber => k_is)
    (case ty_BadNumber => k_is)
    (case e1_BadNumber => k_is)
    (case e2_BadNumber => k_is)
    (case e3_BadNumber => k_is)
    (case e4_BadNumber => k_is)
    (case e5_BadNumber => k_is)
    (case e6_BadNumber => k_is)
    (case g_BadSizes => k_is)
    (case x_BadSizes => first | k_is | k_exc)
    (case kp_BadSizes => k_is)
    (case ty_BadSizes => k_is)
    (case e1_BadSizes => k_is)
    (case e2_BadSizes => k_is)
    (case e3_BadSizes => k_is)
    (case e4_BadSizes => k_is)
    (case e5_BadSizes => k_is)
    (case e6_BadSizes => k_is)
    (case g_PickError => k_is)
    (case x_PickError => first | k_is | k_exc)
    (case kp_PickError => k_is)
    (case ty_PickError => k_is)
    (case e1_PickError => k_is)
    (case e2_PickError => k_is)
    (case e3_PickError => k_is)
    (case e4_PickError => k_is)
    (case e5_PickError => k_is)
    (case e6_PickError => k_is)
    (case e7 => k_is)
    (case e8 => k_is)
    (case i_MOST_NUMBER => k_is)
    (case i_MOST_PLANS => k_is)
    (case z_abs => k_is)
    (case z_all => k_is)
    (case z_bool => k_is)
    (case z_int => k_is)
    (case z_isinstance => k_is)
    (case z_len => k_is)
    (case z_list => k_is)
    (case z_max => k_is)
    (case z_min => k_is)
    (case z_range => k_is)
    (case z_repr => k_is)
    (case z_sorted => k_is)
    (case z_sum => k_is)
    (case z_tuple => k_is)
    (case s_BadNumber_BadSizes => k_is)
    (case ne_BadNumber_BadSizes => first | rfl | decide)
    (case s_BadSizes_BadNumber => k_is)
    (case ne_BadSizes_BadNumber => first | rfl | decide)
    (case y_NoneType_BadNumber => k_is)
    (case y_bool_BadNumber => k_is)
    (case y_int_BadNumber => k_is)
    (case y_str_BadNumber => k_is)
    (case y_tuple_BadNumber => k_is)
    (case y_list_BadNumber => k_is)
    (case y_dict_BadNumber => k_is)
    (case y_NoneType_BadSizes => k_is)
    (case y_bool_BadSizes => k_is)
    (case y_int_BadSizes => k_is)
    (case y_str_BadSizes => k_is)
    (case y_tuple_BadSizes => k_is)
    (case y_list_BadSizes => k_is)
    (case y_dict_BadSizes => k_is)
    (case q_BadNumber => k_is)
    (case q_BadSizes => k_is)
