import PyProof.Rows.All
import Wide.All
import OpenK.AllK
import Wide.FinOn
import HandS.ForMost
import HandS.Exc
import HandS.Strs
import HandS.TupAny
import HandS.TupMul
import HandS.Conv
import HandS.ExcCtx
import HandS.Hot
import HandS.HotCalls
import HandS.SuiteRaise
import KE.KCtx
import HandS.Lambda
import KE.KDictKeyed
import KE.KeyNested
import HandS.IsInst
import HandS.ExcOwn
import HandS.WideBits
import KE.GoesMore
import HandS.Walk
import HandS.WordsExc
import HandS.ExcInit
import HandS.ExcIs
import HandS.TryMany
import HandS.MakeKwOnly
import HandS.SetFor
import HandS.Style
import HandS.Ends
import KE.KNest
import HandS.DictComp
import HandS.SortInts
import KE.LtData
import KE.KDictPairs
import KE.DataMinMax
import HandS.ClsMeth
import KE.KExcIs
import HandS.ExcField
import HandS.Comp
import HandS.RaiseMore
import HandS.FStr
import HandS.Text
import KE.KCallOwn
import HandS.TupLe
import KE.KRevSl
import HandS.Small
import HandS.Head0
import HandS.Head1
import HandS.Head2
import HandS.HeadHook1
import HandS.Zip
import PyProof.CollectIter
import PyProof.WalksMore
import KE.KFmtOwn
import HandS.More
import HandS.HeadHook3
import HandS.Finally
import PyProof.RulesFinally
import HandS.RaiseFrom
import PyProof.EqKinds
import KE.KTupSum
import PyProof.Rows.Range3
import HandS.SetBool
import PySem.Challenge.RW_waitseats_k48_claims_of_walks
set_option Elab.async false
set_option linter.all false
set_option maxRecDepth 100000
set_option maxHeartbeats 2000000
namespace DLt
open PySem PySem.Spec PyProof.Rows L2
/-- a new tuple of the items, whatever its address -/
def NewT (vs : List V) (H : Hp) (Q : VK) : Prop := ∀ (ob : Obj) (a : Addr), ob.dict = none → H a = none → Q (.ref a) (upd H a (.frz ob (.tup vs)))
end DLt
set_option Elab.async false
set_option linter.all false
set_option maxRecDepth 100000
set_option maxHeartbeats 2000000
namespace DLz
open PySem PySem.Spec PyProof.Rows L2
open HotX (chained)
/-- a chain of contexts, over what is held -/
inductive Chn (H : Hp) : Value → Prop
  | nil : Chn H .none
  | ref {b : Addr} {ob : Obj} {us : Array Value} {v : Value} : H b = some (.frz ob (.ext fun h => h.get? b = some ob)) → ob.data = .fields us → us[2]? = some v → Chn H v → Chn H (.ref b)
theorem Chn.mono {H H' : Hp} (k : ∀ b o u, H b = some (.frz o u) → H' b = some (.frz o u)) {v : Value} (h : Chn H v) : Chn H' v := by
  induction h with
  | nil => exact .nil
  | ref e d u _ ih => exact .ref (k _ _ _ e) d u ih
/-- what is kept of the object: class, dict, context -/
def Zq (cls : Value) (d : Option Addr) (c : Value) : Obj → Prop := fun o => (o.cls = cls ∧ o.dict = d) ∧ ∀ vs : Array Value, o.data = .fields vs → vs[2]? = some c
/-- such an exception in the air -/
def XE (X : Cx) (W : WX) (u : Value) (s' : Shared) : Prop :=
  ∃ (a : Addr) (c : Value) (B : Heap) (sI : Shared) (pins : List (Addr × Obj)) (σ : L2.St) (H : Hp) (cls : Value) (d : Option Addr),
    (u = .ref a ∧ Chn H c ∧ H a = none ∧ W cls d σ H) ∧ Inv X pins σ H sI ∧ (s'.os = sI.os ∧ AllBare s'.gens) ∧
    (∀ b o, sI.heap.get? b = some o → b ∉ frs X.stack → B.get? b = some o) ∧ sI.heap.UpToSlots s'.heap ∧ Sky B X.stack a (Zq cls d c) X.env.locals s'.heap
def Takes (X : Cx) (W : WX) : Prop := ∀ u s', XE X W u s' → X.xe u s'
theorem Takes.imp {X : Cx} {W W' : WX} (t : Takes X W) (h : ∀ c d σ H, W' c d σ H → W c d σ H) : Takes X W' := fun u s' x => by
  obtain ⟨a, c, B, sI, pins, σ, H, cls, d, ⟨e, ch, na, w⟩, r⟩ := x
  exact t u s' ⟨a, c, B, sI, pins, σ, H, cls, d, ⟨e, ch, na, h _ _ _ _ w⟩, r⟩
/-- what a call lets out -/
def CX (P : Program) (w : World) (outer : List Env) (H : Hp) (s : Shared) (E : XK) (u : Value) (s' : Shared) : Prop :=
  ∃ (a : Addr) (c : Value) (B : Heap) (H' : Hp) (cls : Value) (d : Option Addr), (u = .ref a ∧ Chn H' c ∧ H' a = none ∧ E cls d H') ∧ (s'.os = s.os ∧ AllBare s'.gens) ∧
    HandSPX.FlyingZ B outer a (Zq cls d c) s'.heap ∧ HOk P w H' B ∧ UB (frs outer) H H' s.heap B s'.heap
section
variable {X : Cx} {pins : List (Addr × Obj)} {σ : L2.St} {H : Hp} {sI s s' : Shared} {B : Heap} {W : WX} {E : XK}
theorem XE.new {a : Addr} {c : Value} {oe : Obj} {vs : Array Value} {cls : Value} {d : Option Addr} (I : Inv X pins σ H sI) (k : ∀ b o, sI.heap.get? b = some o → s'.heap.get? b = some o) (fresh : sI.heap.get? a = none) (he : s'.heap.get? a = some oe)
    (hz : Zq cls d c oe) (hd : oe.data = .fields vs) (h1 : vs[1]? = some .none) (ch : Chn H c) (na : H a = none) (os : s'.os = sI.os) (ag : AllBare s'.gens) (w : W cls d σ H) : XE X W (.ref a) s' := by
  have gone : (PySem.W.hideAll sI.heap (frs X.stack)).get? a = none := by
    cases q : (PySem.W.hideAll sI.heap (frs X.stack)).get? a with
    | none => rfl
    | some o => exact nomatch fresh.symm.trans (PySem.W.of_hideAll _ q)
  refine ⟨a, c, _, sI, pins, σ, H, cls, d, ⟨rfl, ch, na, w⟩, I, ⟨os, ag⟩, fun b o e hb => PySem.W.hideAll_get _ e hb, Heap.UpToSlots.of_keeps k, .inl ⟨fun b o e => k b o (PySem.W.of_hideAll _ e), gone, ?_, oe, vs, he, hz, hd, h1⟩⟩
  exact Heap.FunFrames.of_keeps (fun b o e _ => ⟨o, k b o e, rfl⟩) (funFrames_none I.stack fun b hb => PySem.W.hideAll_none _ hb)
end
/-- the chain as it stands, without a -/
inductive HCh (h : Heap) (a : Addr) : Value → Prop
  | nil : HCh h a .none
  | ref {b : Addr} {ob : Obj} {us : Array Value} {v : Value} : b ≠ a → h.get? b = some ob → ob.data = .fields us → us[2]? = some v → HCh h a v → HCh h a (.ref b)
theorem HCh.keeps {h h' : Heap} {a : Addr} (k : ∀ b o, h.get? b = some o → h'.get? b = some o) {v : Value} (x : HCh h a v) : HCh h' a v := by
  induction x with
  | nil => exact .nil
  | ref n e d u _ ih => exact .ref n (k _ _ e) d u ih
theorem Chn.here {H : Hp} {h : Heap} (hok : ∀ b ob, H b = some (.frz ob (.ext fun h => h.get? b = some ob)) → h.get? b = some ob) {a : Addr} (na : h.get? a = none) {v : Value} (x : Chn H v) : HCh h a v := by
  induction x with
  | nil => exact .nil
  | ref e d u _ ih => exact .ref (fun z => by have e2 := hok _ _ e; rw [z, na] at e2; cases e2) (hok _ _ e) d u ih
section
variable {prog : Program} {w : World} {A : Around} {E : Value → Shared → Prop} {s : Shared}
/-- the handled exception, as it stands -/
def HotAt (A : Around) (x1 a : Addr) (h : Heap) : Prop := A.handled = some (.ref x1) ∧ ∃ (o : Obj) (us : Array Value) (v : Value), h.get? x1 = some o ∧ o.data = .fields us ∧ us[2]? = some v ∧ HCh h a v
theorem HotAt.keeps {x1 a : Addr} {h h' : Heap} (x : HotAt A x1 a h) (k : ∀ b o, h.get? b = some o → h'.get? b = some o) : HotAt A x1 a h' :=
  let ⟨hh, o, us, v, e, d, q, c⟩ := x; ⟨hh, o, us, v, k _ _ e, d, q, c.keeps k⟩
end
end DLz
set_option Elab.async false
set_option linter.all false
set_option maxRecDepth 100000
set_option maxHeartbeats 2000000
namespace DL
open PySem PySem.Spec PyProof.Rows L2
/-- what stays through the whole law: the class Hall, the module's names, the written part, the world, the program -/
structure Gx where
  C : Addr
  mg : Str → Option Value
  K : PySem.W.Frag
  w : World
  P : Program
/-- the tables of code objects of the defs that make lambdas, with the lambdas' names -/
class Tbs where
  T : List (Addr × Str)
inductive D where
  | non | bl (b : Bool) | int (i : Int) | str (s : Str) | byt (b : Array UInt8)
  | tup (xs : List D) | pr (xs : List D) | lst (xs : List D) | hall (g s : Int) | scr (ns : List Int)
  | emp | exn (c f : Str) (ys : List D)
  | dct (ks : List Key) (ds : List D) | fn (x : Str)
  | dcn (ks : List NestedKey) (ds : List D)
  deriving Inhabited
/-- at a: an exception that is let alone (its class, its dict, its chain of contexts) -/
def ExAt (H : Hp) (a : Addr) (cls : Value) (d : Option Addr) : Prop := ∃ (oe : Obj) (vs : Array Value) (c : Value), H a = some (.frz oe (.ext fun h => h.get? a = some oe)) ∧ oe.cls = cls ∧ oe.dict = d ∧ oe.data = .fields vs ∧ vs[2]? = some c ∧ DLz.Chn H c
/-- what its dict says -/
def FldR (F : Addr → Prop) (H : Hp) (f : Str) (d : Option Addr) (vs : List V) : Prop := (d = none ∧ vs = []) ∨ ∃ dd y, d = some dd ∧ vs = [y] ∧ F dd ∧ H dd = some (.xd [(f, y)])
/-- a tuple that stays, without a dict of its own -/
def TupAt (F : Addr → Prop) (H : Hp) (a : Addr) (vs : List V) : Prop := F a ∧ ∃ ob : Obj, H a = some (.frz ob (.tup vs)) ∧ ob.dict = none
theorem TupAt.rd {F : Addr → Prop} {H : Hp} {a : Addr} {vs : List V} (h : TupAt F H a vs) : Rd H a (.tup vs) := let ⟨_, ob, e, _⟩ := h; .inr ⟨ob, e⟩
/-- the dict at a is the object o -/
def NdO (a : Addr) (o : Obj) : HO := .ext fun h => h.get? a = some o
/-- the object o at a is a dict with these keys, their tuples, the values -/
structure NdIs (w : World) (a : Addr) (o : Obj) (l : List (NestedKey × Addr × V)) : Prop where
  len : l.length ≤ sizeLine
  nm : (a == sysModules) = false
  what : ∃ (xs : List (NestedKey × Addr × Value)) (es : Array DictEntry) (ep : Nat), Paired (fun p q => p.1 = q.1 ∧ p.2.1 = q.2.1 ∧ RelV p.2.2 q.2.2) l xs ∧ o.ExactDict ∧ o.data = .dict es ep ∧ es.toList = xs.map (fun x => (⟨x.1.hash w, .ref x.2.1, x.2.2⟩ : DictEntry)) ∧ (xs.map (·.1)).Nodup
mutual
/-- the value v, over the heap H, is the key -/
def KeyR (F : Addr → Prop) (H : Hp) : NestedKey → V → Prop
  | .none, v => v = .non
  | .num i, v => v = .int i
  | .text s, v => v = .str s
  | .tup ks, v => ∃ a vs, v = .ref a ∧ TupAt F H a vs ∧ KeyRL F H ks vs
def KeyRL (F : Addr → Prop) (H : Hp) : List NestedKey → List V → Prop
  | [], vs => vs = []
  | k :: ks, vs => ∃ v r, vs = v :: r ∧ KeyR F H k v ∧ KeyRL F H ks r
end
/-- the keys of a dict, as their tuples stand -/
def KysR (F : Addr → Prop) (H : Hp) (l : List (NestedKey × Addr × V)) : Prop := ∀ p ∈ l, p.1.depth ≤ 8 ∧ KeyR F H p.1 (.ref p.2.1)
mutual
/-- the value v, over the heap H, is the datum; F: the addresses that nobody writes any more -/
def Rp (G : Gx) (F : Addr → Prop) (H : Hp) : D → V → Prop
  | .non, v => v = .non
  | .bl b, v => v = .bl b
  | .int i, v => v = .int i
  | .str s, v => v = .str s
  | .byt b, v => v = .byt b
  | .tup ds, v => ∃ a vs, v = .ref a ∧ TupAt F H a vs ∧ RpL G F H ds vs
  | .pr ds, v => ∃ a vs, v = .ref a ∧ Rd H a (.tup vs) ∧ RpL G F H ds vs
  | .lst ds, v => ∃ a vs, v = .ref a ∧ F a ∧ H a = some (.lst vs) ∧ RpL G F H ds vs
  | .hall g s, v => ∃ a dx, v = .ref a ∧ F a ∧ H a = some (.ins G.C dx [("guests", .int g), ("spare", .int s)])
  | .scr ns, v => ∃ a, v = .ref a ∧ ((F a ∧ Rd H a (.lst (ns.map V.int))) ∨ ∀ H', SqL G.K H' a (ns.map V.int))
  | .emp, v => ∃ a, v = .ref a ∧ F a ∧ H a = some (.dK [])
  | .exn c f ys, v => ∃ a cls d vs, v = .ref a ∧ F a ∧ ExAt H a cls d ∧ G.mg c = some cls ∧ RpL G F H ys vs ∧ FldR F H f d vs
  | .dct ks ds, v => ∃ a vs, v = .ref a ∧ F a ∧ vs.length = ks.length ∧ (∃ z, H a = some (.frz z (.dK (ks.zip vs)))) ∧ RpL G F H ds vs
  | .fn x, v => ∃ f, v = .ref f ∧ G.mg x = some (.ref f)
  | .dcn ks ds, v => ∃ a o l, v = .ref a ∧ F a ∧ H a = some (NdO a o) ∧ NdIs G.w a o l ∧ l.map (·.1) = ks ∧ KysR F H l ∧ RpL G F H ds (l.map (·.2.2))
def RpL (G : Gx) (F : Addr → Prop) (H : Hp) : List D → List V → Prop
  | [], vs => vs = []
  | d :: ds, vs => ∃ v r, vs = v :: r ∧ Rp G F H d v ∧ RpL G F H ds r
end
/-- the tables: each code object that they tell is known -/
def TabF (T : List (Addr × Str)) (F : Addr → Prop) (H : Hp) : Prop := LamX.Tabs T H
theorem TabF.ext {T : List (Addr × Str)} {F F' : Addr → Prop} {H H' : Hp} (t : TabF T F H) (hF : ∀ a, F a → F' a) (e : ∀ b o, H b = some o → H' b = some o) : TabF T F' H' := LamX.Tabs.ext t e
theorem TabF.own {T : List (Addr × Str)} {F : Addr → Prop} {H : Hp} {a : Addr} {u : HO} (t : TabF T F H) (nt : ∀ ps, H a ≠ some (.tbl ps)) (nc : ∀ q, H a ≠ some (LamX.CodeO a q)) : TabF T F (upd H a u) := fun p hp =>
  let ⟨ps, h1, h2, h3⟩ := t p hp
  ⟨ps, by rw [upd_ne (show p.1 ≠ a from fun z => nt ps (by rw [← z]; exact h1))]; exact h1, h2, fun pos cv q => let ⟨c, e1, e2⟩ := h3 pos cv q; ⟨c, e1, by rw [upd_ne (show c ≠ a from fun z => nc p.2 (by rw [← z]; exact e2))]; exact e2⟩⟩
/-- tracked, no table -/
def Nt (H : Hp) (a : Addr) : Prop := H a ≠ none ∧ ∀ ps, H a ≠ some (.tbl ps)
theorem Nt.of {H : Hp} {a : Addr} {o : HO} (e : H a = some o) (nt : ∀ ps, o ≠ .tbl ps := by intro _ z; cases z) : Nt H a := ⟨by rw [e]; exact (fun z => nomatch z), fun ps z => nt ps (Option.some.inj (e.symm.trans z))⟩
variable [Tbs]
/-- what is kept from (F, H) to (F', H'): B are the addresses that this code does not own -/
structure Stp (B F : Addr → Prop) (H : Hp) (F' : Addr → Prop) (H' : Hp) : Prop where
  fm : ∀ a, F a → F' a
  fn : ∀ a, F' a → F a ∨ ¬ B a
  hk0 : ∀ a o, B a ∨ F a → H a = some o → (∀ ps, o ≠ .tbl ps) → H' a = some o
  ht : ∀ a vs, Rd H a (.tup vs) → Rd H' a (.tup vs)
  tb : TabF Tbs.T F H → TabF Tbs.T F' H'
  fz : ∀ a o u, H a = some (.frz o u) → H' a = some (.frz o u)
theorem Stp.hs {B F F' : Addr → Prop} {H H' : Hp} (s : Stp B F H F' H') (a : Addr) (h : B a ∨ F a) (n : Nt H a) : Nt H' a := by
  cases e : H a with
  | none => exact absurd e n.1
  | some o => exact Nt.of (s.hk0 a o h e fun ps z => n.2 ps (e.trans (congrArg some z))) fun ps z => n.2 ps (e.trans (congrArg some z))
theorem Stp.hk {B F F' : Addr → Prop} {H H' : Hp} (s : Stp B F H F' H') (a : Addr) (o : HO) (h : B a ∨ F a) (e : H a = some o) (nt : ∀ ps, o ≠ .tbl ps := by intro _ z; cases z) : H' a = some o := s.hk0 a o h e nt
theorem Stp.trans {B F F1 F2 : Addr → Prop} {H H1 H2 : Hp} (a : Stp B F H F1 H1) (b : Stp B F1 H1 F2 H2) : Stp B F H F2 H2 where
  fm := fun x h => b.fm x (a.fm x h)
  fn := fun x h => (b.fn x h).elim (fun q => a.fn x q) .inr
  hk0 := fun x o h e n => b.hk0 x o (h.imp id (a.fm x)) (a.hk0 x o h e n) n
  ht := fun x vs h => b.ht x vs (a.ht x vs h)
  fz := fun x o u h => b.fz x o u (a.fz x o u h)
  tb := fun t => b.tb (a.tb t)
theorem ExAt.mono {B F F' : Addr → Prop} {H H' : Hp} (s : Stp B F H F' H') {a : Addr} {cls : Value} {d : Option Addr} (h : ExAt H a cls d) (hF : F a) : ExAt H' a cls d :=
  let ⟨oe, vs, c, e, e1, e2, e3, e4, ch⟩ := h; ⟨oe, vs, c, s.hk a _ (.inr hF) e, e1, e2, e3, e4, ch.mono s.fz⟩
theorem FldR.mono {B F F' : Addr → Prop} {H H' : Hp} (s : Stp B F H F' H') {f : Str} {d : Option Addr} {vs : List V} (h : FldR F H f d vs) : FldR F' H' f d vs :=
  h.imp id fun ⟨dd, y, e1, e2, hF, e3⟩ => ⟨dd, y, e1, e2, s.fm dd hF, s.hk dd _ (.inr hF) e3⟩
mutual
theorem KeyR.mono {B F F' : Addr → Prop} {H H' : Hp} (s : Stp B F H F' H') : ∀ (k : NestedKey) (v : V), KeyR F H k v → KeyR F' H' k v
  | .none, _, h => h
  | .num _, _, h => h
  | .text _, _, h => h
  | .tup ks, _, ⟨a, vs, e, ⟨hF, ob, h1, dn⟩, h2⟩ => ⟨a, vs, e, ⟨s.fm a hF, ob, s.hk a _ (.inr hF) h1, dn⟩, KeyRL.mono s ks vs h2⟩
theorem KeyRL.mono {B F F' : Addr → Prop} {H H' : Hp} (s : Stp B F H F' H') : ∀ (ks : List NestedKey) (vs : List V), KeyRL F H ks vs → KeyRL F' H' ks vs
  | [], _, h => h
  | k :: ks, _, ⟨v, r, e, h1, h2⟩ => ⟨v, r, e, KeyR.mono s k v h1, KeyRL.mono s ks r h2⟩
end
theorem KysR.mono {B F F' : Addr → Prop} {H H' : Hp} (s : Stp B F H F' H') {l : List (NestedKey × Addr × V)} (h : KysR F H l) : KysR F' H' l := fun p hp => ⟨(h p hp).1, KeyR.mono s _ _ (h p hp).2⟩
mutual
theorem Rp.mono {G : Gx} {B F F' : Addr → Prop} {H H' : Hp} (s : Stp B F H F' H') : ∀ (d : D) (v : V), Rp G F H d v → Rp G F' H' d v
  | .non, _, h => h
  | .bl _, _, h => h
  | .int _, _, h => h
  | .str _, _, h => h
  | .byt _, _, h => h
  | .tup ds, _, ⟨a, vs, e, ⟨hF, ob, h1, dn⟩, h2⟩ => ⟨a, vs, e, ⟨s.fm a hF, ob, s.hk a _ (.inr hF) h1, dn⟩, RpL.mono s ds vs h2⟩
  | .pr ds, _, ⟨a, vs, e, h1, h2⟩ => ⟨a, vs, e, s.ht a vs h1, RpL.mono s ds vs h2⟩
  | .lst ds, _, ⟨a, vs, e, hF, h1, h2⟩ => ⟨a, vs, e, s.fm a hF, s.hk a _ (.inr hF) h1, RpL.mono s ds vs h2⟩
  | .hall _ _, _, ⟨a, dx, e, hF, h1⟩ => ⟨a, dx, e, s.fm a hF, s.hk a _ (.inr hF) h1⟩
  | .scr _, _, ⟨a, e, h⟩ => ⟨a, e, h.imp (fun ⟨hF, h1⟩ => ⟨s.fm a hF, h1.imp (fun z => s.hk a _ (.inr hF) z) fun ⟨o, q⟩ => ⟨o, s.hk a _ (.inr hF) q⟩⟩) id⟩
  | .emp, _, ⟨a, e, hF, h1⟩ => ⟨a, e, s.fm a hF, s.hk a _ (.inr hF) h1⟩
  | .exn _ _ ys, _, ⟨a, cls, d, vs, e, hF, h1, h2, h3, h4⟩ => ⟨a, cls, d, vs, e, s.fm a hF, h1.mono s hF, h2, RpL.mono s ys vs h3, h4.mono s⟩
  | .dct ks ds, _, ⟨a, vs, e, hF, n, h1, h2⟩ => ⟨a, vs, e, s.fm a hF, n, h1.imp fun z q => s.hk a _ (.inr hF) q, RpL.mono s ds vs h2⟩
  | .fn _, _, h => h
  | .dcn ks ds, _, ⟨a, o, l, e, hF, h1, n, ek, kr, h2⟩ => ⟨a, o, l, e, s.fm a hF, s.hk a _ (.inr hF) h1, n, ek, kr.mono s, RpL.mono s ds _ h2⟩
theorem RpL.mono {G : Gx} {B F F' : Addr → Prop} {H H' : Hp} (s : Stp B F H F' H') : ∀ (ds : List D) (vs : List V), RpL G F H ds vs → RpL G F' H' ds vs
  | [], _, h => h
  | d :: ds, _, ⟨v, r, e, h1, h2⟩ => ⟨v, r, e, Rp.mono s d v h1, RpL.mono s ds r h2⟩
end
end DL
set_option Elab.async false
set_option linter.all false
set_option maxRecDepth 100000
set_option maxHeartbeats 2000000
namespace DL
open PySem PySem.Spec PyProof.Rows L2
variable [Tbs]
/-- what an owned object holds -/
inductive O where
  | lst (ds : List D) | set (S : Int → Bool) (n : Nat) | dic (kvs : List (Key × D)) | ins (C : Addr) (fs : List (Str × D))
  | dcn (kvs : List (NestedKey × D))
/-- an entry of an object of an owned tree: a datum, or an object of the same tree -/
inductive E1 where
  | d (x : D) | k (a : Addr)
/-- an object of an owned tree -/
inductive R1 where
  | lst (xs : List E1) | ins (C : Addr) (fs : List (Str × E1))
/-- a slot: unknown, a datum, an owned object, an owned object handed in (at the letter a), an owned tree (its root, its objects) -/
inductive Slot where
  | no | im (d : D) | ow (o : O) | io (a : Addr) (o : O) | tr (a : Addr) (ns : List (Addr × R1))
def Slot.own : Slot → Bool
  | .ow _ => true
  | .io _ _ => true
  | _ => false
def KvR (G : Gx) (F : Addr → Prop) (H : Hp) : List (Key × D) → List (Key × V) → Prop
  | [], l => l = []
  | (k, d) :: r, l => ∃ v l', l = (k, v) :: l' ∧ Rp G F H d v ∧ KvR G F H r l'
def KnR (G : Gx) (F : Addr → Prop) (H : Hp) : List (NestedKey × D) → List (NestedKey × Addr × V) → Prop
  | [], l => l = []
  | (k, d) :: r, l => ∃ b v l', l = (k, b, v) :: l' ∧ k.depth ≤ 8 ∧ KeyR F H k (.ref b) ∧ Rp G F H d v ∧ KnR G F H r l'
def FsR (G : Gx) (F : Addr → Prop) (H : Hp) : List (Str × D) → List (Str × V) → Prop
  | [], l => l = []
  | (k, d) :: r, l => ∃ v l', l = (k, v) :: l' ∧ Rp G F H d v ∧ FsR G F H r l'
def OwAt (G : Gx) (F : Addr → Prop) (H : Hp) (a : Addr) : O → Prop
  | .lst ds => ∃ vs, H a = some (.lst vs) ∧ RpL G F H ds vs
  | .set S n => H a = some (SetO G.w a S n)
  | .dic kvs => ∃ l, H a = some (.dK l) ∧ KvR G F H kvs l
  | .ins C fs => ∃ dx l, H a = some (.ins C dx l) ∧ FsR G F H fs l
  | .dcn kvs => ∃ o l, H a = some (NdO a o) ∧ NdIs G.w a o l ∧ KnR G F H kvs l
def Er (G : Gx) (F : Addr → Prop) (H : Hp) : E1 → V → Prop
  | .d x, v => Rp G F H x v
  | .k a, v => v = .ref a
def ErL (G : Gx) (F : Addr → Prop) (H : Hp) : List E1 → List V → Prop
  | [], l => l = []
  | e :: r, l => ∃ v l', l = v :: l' ∧ Er G F H e v ∧ ErL G F H r l'
def ErF (G : Gx) (F : Addr → Prop) (H : Hp) : List (Str × E1) → List (Str × V) → Prop
  | [], l => l = []
  | (f, e) :: r, l => ∃ v l', l = (f, v) :: l' ∧ Er G F H e v ∧ ErF G F H r l'
def R1At (G : Gx) (F : Addr → Prop) (H : Hp) (a : Addr) : R1 → Prop
  | .lst xs => ∃ vs, H a = some (.lst vs) ∧ ErL G F H xs vs
  | .ins C fs => ∃ dx l, H a = some (.ins C dx l) ∧ ErF G F H fs l
/-- an owned tree: nobody else has its objects -/
structure Tree (G : Gx) (B F : Addr → Prop) (H : Hp) (a : Addr) (ns : List (Addr × R1)) : Prop where
  root : a ∈ ns.map (·.1)
  nd : (ns.map (·.1)).Nodup
  at_ : ∀ p ∈ ns, ¬ F p.1 ∧ ¬ B p.1 ∧ R1At G F H p.1 p.2
def SlotR (G : Gx) (B F : Addr → Prop) (H : Hp) (x : Option (Option V)) : Slot → Prop
  | .no => True
  | .im d => ∃ v, x = some (some v) ∧ Rp G F H d v
  | .ow o => ∃ a, x = some (some (.ref a)) ∧ ¬ F a ∧ ¬ B a ∧ OwAt G F H a o
  | .io a o => x = some (some (.ref a)) ∧ ¬ F a ∧ ¬ B a ∧ OwAt G F H a o
  | .tr a ns => x = some (some (.ref a)) ∧ Tree G B F H a ns
/-- a is the owned object in the slot i -/
def OwnR (env : List Slot) (σ : L2.St) (i : Nat) (a : Addr) : Prop := (∃ s, env[i]? = some s ∧ s.own = true) ∧ σ[i]? = some (some (.ref a))
/-- the address a is owned by the slot i -/
def OwnAt (env : List Slot) (σ : L2.St) (i : Nat) (a : Addr) : Prop := OwnR env σ i a ∨ ∃ r ns, env[i]? = some (.tr r ns) ∧ a ∈ ns.map (·.1)
instance {env : List Slot} {σ : L2.St} {i : Nat} {a : Addr} : Coe (OwnR env σ i a) (OwnAt env σ i a) := ⟨.inl⟩
/-- what a slot owns, its value being x -/
def Slot.feet (s : Slot) (x : Option (Option V)) (a : Addr) : Prop := (s.own = true ∧ x = some (some (.ref a))) ∨ ∃ r ns, s = .tr r ns ∧ a ∈ ns.map (·.1)
theorem own_feet {env : List Slot} {σ : L2.St} {i : Nat} {a : Addr} : OwnAt env σ i a ↔ ∃ s, env[i]? = some s ∧ s.feet σ[i]? a := by
  constructor
  · rintro (⟨⟨s, e, k⟩, h⟩ | ⟨r, ns, e, m⟩)
    · exact ⟨s, e, .inl ⟨k, h⟩⟩
    · exact ⟨_, e, .inr ⟨r, ns, rfl, m⟩⟩
  · rintro ⟨s, e, ⟨k, h⟩ | ⟨r, ns, q, m⟩⟩
    · exact .inl ⟨⟨s, e, k⟩, h⟩
    · subst q; exact .inr ⟨r, ns, e, m⟩
structure Rel (G : Gx) (B F : Addr → Prop) (σ : L2.St) (env : List Slot) (H : Hp) : Prop where
  len : env.length = σ.length
  sl : ∀ (i : Nat) s, env[i]? = some s → SlotR G B F H σ[i]? s
  ap : ∀ i j a, OwnAt env σ i a → OwnAt env σ j a → i = j
  hB : ∀ a, B a → Nt H a
  hF : ∀ a, F a → Nt H a
  tb : TabF Tbs.T F H
/-- an exception: its class by name, its field -/
structure Exn where
  cls : Str
  fld : Option (Str × D)
def ExnR (G : Gx) (F : Addr → Prop) (H : Hp) (x : Exn) (cls : Value) (d : Option Addr) : Prop :=
  G.mg x.cls = some cls ∧ match x.fld with
    | none => d = none
    | some (f, y) => ∃ dd v, d = some dd ∧ F dd ∧ H dd = some (.xd [(f, v)]) ∧ Rp G F H y v
abbrev M (α : Type) := List Slot → (α → List Slot → Prop) → (Exn → List Slot → Prop) → Prop
def ret {α : Type} (a : α) : M α := fun env Q _ => Q a env
def bnd {α β : Type} (m : M α) (k : α → M β) : M β := fun env Q E => m env (fun a env' => k a env' Q E) E
def fail {α : Type} : M α := fun _ _ _ => False
def ask {α : Type} (p : Prop) (m : M α) : M α := fun env Q E => p ∧ m env Q E
/-- the state as the hand layer sees it, with what is wanted -/
def Pt {α β : Type} (G : Gx) (W : WX) (R : (Addr → Prop) → (Addr → Prop) → List Slot → L2.St → Hp → α → β → Prop) (σ : L2.St) (H : Hp) (Q : β → Hp → Prop) (m : M α) (B F : Addr → Prop) (env : List Slot) : Prop :=
  ∃ Qd Ed, Rel G B F σ env H ∧ m env Qd Ed ∧
    (∀ a env' b F' H', Qd a env' → Stp B F H F' H' → Rel G B F' σ env' H' → R B F' env' σ H' a b → Q b H') ∧
    (∀ x env' cls d F' H', Ed x env' → Stp B F H F' H' → Rel G B F' σ env' H' → ExnR G F' H' x cls d → W cls d σ H')
def Lift {α β : Type} (G : Gx) (W : WX) (R : (Addr → Prop) → (Addr → Prop) → List Slot → L2.St → Hp → α → β → Prop) (m : M α) : L2.St → Hp → (β → Hp → Prop) → Prop :=
  fun σ H Q => ∃ B F env, Pt G W R σ H Q m B F env
def RD (G : Gx) : (Addr → Prop) → (Addr → Prop) → List Slot → L2.St → Hp → D → V → Prop := fun _ F _ _ H d v => Rp G F H d v
/-- a new owned object -/
def RO (G : Gx) : (Addr → Prop) → (Addr → Prop) → List Slot → L2.St → Hp → O → V → Prop := fun B F env σ H o v => ∃ a, v = .ref a ∧ ¬ F a ∧ ¬ B a ∧ OwAt G F H a o ∧ ∀ i, ¬ OwnAt env σ i a
section
variable {G : Gx} {W : WX} {B F : Addr → Prop} {σ : L2.St} {H : Hp} {env : List Slot} {α β γ δ : Type}
variable {R : (Addr → Prop) → (Addr → Prop) → List Slot → L2.St → Hp → γ → δ → Prop} {Ra : (Addr → Prop) → (Addr → Prop) → List Slot → L2.St → Hp → α → β → Prop} {Q : δ → Hp → Prop}
theorem KvR.mono {F' : Addr → Prop} {H' : Hp} (s : Stp B F H F' H') : ∀ (l : List (Key × D)) (l' : List (Key × V)), KvR G F H l l' → KvR G F' H' l l'
  | [], _, h => h
  | (k, d) :: r, _, ⟨v, l', e, h1, h2⟩ => ⟨v, l', e, Rp.mono s d v h1, KvR.mono s r l' h2⟩
theorem KnR.mono {F' : Addr → Prop} {H' : Hp} (s : Stp B F H F' H') : ∀ (l : List (NestedKey × D)) (l' : List (NestedKey × Addr × V)), KnR G F H l l' → KnR G F' H' l l'
  | [], _, h => h
  | (k, d) :: r, _, ⟨b, v, l', e, dp, hk, h1, h2⟩ => ⟨b, v, l', e, dp, KeyR.mono s k _ hk, Rp.mono s d v h1, KnR.mono s r l' h2⟩
theorem FsR.mono {F' : Addr → Prop} {H' : Hp} (s : Stp B F H F' H') : ∀ (l : List (Str × D)) (l' : List (Str × V)), FsR G F H l l' → FsR G F' H' l l'
  | [], _, h => h
  | (k, d) :: r, _, ⟨v, l', e, h1, h2⟩ => ⟨v, l', e, Rp.mono s d v h1, FsR.mono s r l' h2⟩
/-- a stage: what was had ahead (as, xs) is still had -/
theorem Pt.bind {ma : M α} {k : α → M γ} {as : List D} {xs : List V} (h : Pt G W R σ H Q (bnd ma k) B F env) (hx : RpL G F H as xs) :
    Lift G W Ra ma σ H (fun y H' => ∃ F' env' b, Pt G W R σ H' Q (k b) B F' env' ∧ RpL G F' H' as xs ∧ Ra B F' env' σ H' b y) := by
  obtain ⟨Qd, Ed, rel, hm, hq, he⟩ := h
  refine ⟨B, F, env, fun a env' => k a env' Qd Ed, Ed, rel, hm, fun a env' b F' H' hk st rl hr => ?_, he⟩
  refine ⟨F', env', a, ⟨Qd, Ed, rl, hk, fun a2 env2 b2 F2 H2 q2 st2 rl2 r2 => hq a2 env2 b2 F2 H2 q2 (st.trans st2) rl2 r2, fun x env2 cls d F2 H2 q2 st2 rl2 r2 => he x env2 cls d F2 H2 q2 (st.trans st2) rl2 r2⟩, RpL.mono st as xs hx, hr⟩
theorem Pt.no (h : Pt G W R σ H Q fail B F env) : False := by
  obtain ⟨Qd, Ed, rel, hm, hq, he⟩ := h
  exact hm
theorem rd_upd {a p : Addr} {u o : HO} (h : Rd H a u) (hp : H p = none) : Rd (upd H p o) a u := by
  rcases h with h | ⟨ob, h⟩
  · exact .inl (by rw [upd_ne (ne_of_none h hp)]; exact h)
  · exact .inr ⟨ob, by rw [upd_ne (ne_of_none h hp)]; exact h⟩
theorem stp_new {p : Addr} {o : HO} (hp : H p = none) : Stp B F H F (upd H p o) where
  tb := fun t => t.ext (fun _ z => z) fun b o e => by rw [upd_ne (ne_of_none e hp)]; exact e
  fm := fun _ h => h
  fn := fun _ h => .inl h
  hk0 := fun a o' _ e _ => by rw [upd_ne (ne_of_none e hp)]; exact e
  ht := fun a vs h => rd_upd h hp
  fz := fun a o' u' e => by rw [upd_ne (ne_of_none e hp)]; exact e
theorem stp_newF {p : Addr} {o : HO} (hp : H p = none) (hB : ¬ B p) : Stp B F H (fun a => F a ∨ a = p) (upd H p o) where
  tb := fun t => t.ext (fun _ z => .inl z) fun b o e => by rw [upd_ne (ne_of_none e hp)]; exact e
  fm := fun _ h => .inl h
  fn := fun a h => h.elim .inl fun e => .inr (by subst e; exact hB)
  hk0 := fun a o' _ e _ => by rw [upd_ne (ne_of_none e hp)]; exact e
  ht := fun a vs h => rd_upd h hp
  fz := fun a o' u' e => by rw [upd_ne (ne_of_none e hp)]; exact e
theorem Rel.notB (rel : Rel G B F σ env H) {p : Addr} (hp : H p = none) : ¬ B p := fun h => (rel.hB p h).1 hp
theorem OwAt.mono {F' : Addr → Prop} {H' : Hp} (s : Stp B F H F' H') {a : Addr} (e : H' a = H a) : ∀ {o : O}, OwAt G F H a o → OwAt G F' H' a o
  | .lst ds, ⟨vs, h1, h2⟩ => ⟨vs, e.trans h1, RpL.mono s ds vs h2⟩
  | .set S n, h => e.trans h
  | .dic kvs, ⟨l, h1, h2⟩ => ⟨l, e.trans h1, KvR.mono s kvs l h2⟩
  | .ins C fs, ⟨dx, l, h1, h2⟩ => ⟨dx, l, e.trans h1, FsR.mono s fs l h2⟩
  | .dcn kvs, ⟨o, l, h1, n, h2⟩ => ⟨o, l, e.trans h1, n, KnR.mono s kvs l h2⟩
theorem OwAt.some {a : Addr} : ∀ {o : O}, OwAt G F H a o → H a ≠ none
  | .lst ds, ⟨vs, h1, _⟩ => by rw [h1]; exact fun z => nomatch z
  | .set S n, h => by rw [show H a = _ from h]; exact fun z => nomatch z
  | .dic kvs, ⟨l, h1, _⟩ => by rw [h1]; exact fun z => nomatch z
  | .ins C fs, ⟨dx, l, h1, _⟩ => by rw [h1]; exact fun z => nomatch z
  | .dcn kvs, ⟨o, l, h1, _⟩ => by rw [h1]; exact fun z => nomatch z
theorem OwAt.noTab {a : Addr} {o : O} (h : OwAt G F H a o) : ∀ ps, H a ≠ Option.some (HO.tbl ps) := fun ps z => by
  cases o with
  | lst ds => obtain ⟨vs, h1, _⟩ := h; rw [z] at h1; cases h1
  | set S n => have h1 : H a = Option.some (SetO G.w a S n) := h; rw [z] at h1; have h2 : HO.tbl ps = HO.ext _ := Option.some.inj h1; cases h2
  | dic kvs => obtain ⟨l, h1, _⟩ := h; rw [z] at h1; cases h1
  | ins C fs => obtain ⟨dx, l, h1, _⟩ := h; rw [z] at h1; cases h1
  | dcn kvs => obtain ⟨ob, l, h1, _⟩ := h; rw [z] at h1; have h2 : HO.tbl ps = HO.ext _ := Option.some.inj h1; cases h2
theorem OwAt.noCode {a : Addr} {o : O} (h : OwAt G F H a o) : ∀ q, H a ≠ Option.some (LamX.CodeO a q) := fun q z => by
  cases o with
  | lst ds => obtain ⟨vs, h1, _⟩ := h; rw [z] at h1; have h2 : HO.ext _ = HO.lst vs := Option.some.inj h1; cases h2
  | set S n =>
    have h1 : H a = Option.some (SetO G.w a S n) := h
    rw [z] at h1
    have h2 : HO.ext _ = HO.ext _ := Option.some.inj h1
    have h3 := congrFun (HO.ext.inj h2) ⟨Array.replicate (a + 1) { cls := .none, data := .fields #[.none, .str q 0] }, {}⟩
    have g : Heap.get? ⟨Array.replicate (a + 1) { cls := .none, data := .fields #[.none, .str q 0] }, {}⟩ a = Option.some { cls := .none, data := .fields #[.none, .str q 0] } := by
      unfold Heap.get?
      rw [Array.getElem?_replicate, if_pos (Nat.lt_succ_self a)]
    have h4 := h3.mp ⟨_, _, _, g, rfl, rfl⟩
    obtain ⟨o, es, ep, t, e1, _, e2, _⟩ := h4
    rw [g] at e1
    cases e1
    cases e2
  | dic kvs => obtain ⟨l, h1, _⟩ := h; rw [z] at h1; have h2 : HO.ext _ = HO.dK l := Option.some.inj h1; cases h2
  | ins C fs => obtain ⟨dx, l, h1, _⟩ := h; rw [z] at h1; have h2 : HO.ext _ = HO.ins C dx l := Option.some.inj h1; cases h2
  | dcn kvs =>
    obtain ⟨ob, l, h1, n, _⟩ := h
    rw [z] at h1
    have h2 : HO.ext _ = HO.ext _ := Option.some.inj h1
    have h3 := congrFun (HO.ext.inj h2) ⟨Array.replicate (a + 1) { cls := .none, data := .fields #[.none, .str q 0] }, {}⟩
    have g : Heap.get? ⟨Array.replicate (a + 1) { cls := .none, data := .fields #[.none, .str q 0] }, {}⟩ a = Option.some { cls := .none, data := .fields #[.none, .str q 0] } := by
      unfold Heap.get?
      rw [Array.getElem?_replicate, if_pos (Nat.lt_succ_self a)]
    have h4 : Heap.get? ⟨Array.replicate (a + 1) { cls := .none, data := .fields #[.none, .str q 0] }, {}⟩ a = Option.some ob := h3.mp ⟨_, _, _, g, rfl, rfl⟩
    rw [g] at h4
    cases h4
    obtain ⟨_, _, _, _, _, e2, _⟩ := n.what
    cases e2
theorem Er.mono {F' : Addr → Prop} {H' : Hp} (s : Stp B F H F' H') : ∀ {e : E1} {v : V}, Er G F H e v → Er G F' H' e v
  | .d x, v, h => Rp.mono s x v h
  | .k _, _, h => h
theorem ErL.mono {F' : Addr → Prop} {H' : Hp} (s : Stp B F H F' H') : ∀ (l : List E1) (l' : List V), ErL G F H l l' → ErL G F' H' l l'
  | [], _, h => h
  | e :: r, _, ⟨v, l', q, h1, h2⟩ => ⟨v, l', q, Er.mono s h1, ErL.mono s r l' h2⟩
theorem ErF.mono {F' : Addr → Prop} {H' : Hp} (s : Stp B F H F' H') : ∀ (l : List (Str × E1)) (l' : List (Str × V)), ErF G F H l l' → ErF G F' H' l l'
  | [], _, h => h
  | (f, e) :: r, _, ⟨v, l', q, h1, h2⟩ => ⟨v, l', q, Er.mono s h1, ErF.mono s r l' h2⟩
theorem R1At.mono {F' : Addr → Prop} {H' : Hp} (s : Stp B F H F' H') {a : Addr} (e : H' a = H a) : ∀ {r : R1}, R1At G F H a r → R1At G F' H' a r
  | .lst xs, ⟨vs, h1, h2⟩ => ⟨vs, e.trans h1, ErL.mono s xs vs h2⟩
  | .ins C fs, ⟨dx, l, h1, h2⟩ => ⟨dx, l, e.trans h1, ErF.mono s fs l h2⟩
theorem R1At.some {a : Addr} : ∀ {r : R1}, R1At G F H a r → H a ≠ none
  | .lst _, ⟨vs, h1, _⟩ => by rw [h1]; exact fun z => nomatch z
  | .ins _ _, ⟨dx, l, h1, _⟩ => by rw [h1]; exact fun z => nomatch z
theorem R1At.noTab {a : Addr} : ∀ {r : R1}, R1At G F H a r → ∀ ps, H a ≠ Option.some (HO.tbl ps)
  | .lst _, ⟨vs, h1, _⟩ => by rw [h1]; exact fun ps z => nomatch z
  | .ins _ _, ⟨dx, l, h1, _⟩ => by rw [h1]; exact fun ps z => nomatch z
theorem R1At.noCode {a : Addr} : ∀ {r : R1}, R1At G F H a r → ∀ q, H a ≠ Option.some (LamX.CodeO a q)
  | .lst vs, ⟨_, h1, _⟩ => fun q z => by rw [z] at h1; have h2 : HO.ext _ = HO.lst _ := Option.some.inj h1; cases h2
  | .ins _ _, ⟨dx, l, h1, _⟩ => fun q z => by rw [z] at h1; have h2 : HO.ext _ = HO.ins _ _ _ := Option.some.inj h1; cases h2
/-- of a tree the address is one of an object -/
theorem Tree.of {a : Addr} {r : Addr} {ns : List (Addr × R1)} (t : Tree G B F H r ns) (m : a ∈ ns.map (·.1)) : ∃ n, (a, n) ∈ ns ∧ ¬ F a ∧ ¬ B a ∧ R1At G F H a n := by
  obtain ⟨p, hp, e⟩ := List.mem_map.mp m
  subst e
  exact ⟨p.2, hp, t.at_ p hp⟩
/-- the slots stand over a step that leaves the owned objects as they are -/
theorem Rel.step {F' : Addr → Prop} {H' : Hp} (rel : Rel G B F σ env H) (s : Stp B F H F' H') (ho : ∀ i a, OwnAt env σ i a → H' a = H a ∧ ¬ F' a) (hF : ∀ a, F' a → Nt H' a) : Rel G B F' σ env H' := by
  refine ⟨rel.len, fun i sl e => ?_, rel.ap, fun a h => s.hs a (.inl h) (rel.hB a h), hF, s.tb rel.tb⟩
  have q := rel.sl i sl e
  cases sl with
  | no => trivial
  | im d => obtain ⟨v, h1, h2⟩ := q; exact ⟨v, h1, Rp.mono s d v h2⟩
  | ow o =>
    obtain ⟨a, h1, h2, h3, h4⟩ := q
    obtain ⟨e1, e2⟩ := ho i a (.inl ⟨⟨_, e, rfl⟩, h1⟩)
    exact ⟨a, h1, e2, h3, OwAt.mono s e1 h4⟩
  | io a o =>
    obtain ⟨h1, h2, h3, h4⟩ := q
    obtain ⟨e1, e2⟩ := ho i a (.inl ⟨⟨_, e, rfl⟩, h1⟩)
    exact ⟨h1, e2, h3, OwAt.mono s e1 h4⟩
  | tr r ns =>
    obtain ⟨h1, t⟩ := q
    refine ⟨h1, t.root, t.nd, fun p hp => ?_⟩
    obtain ⟨e1, e2⟩ := ho i p.1 (.inr ⟨r, ns, e, List.mem_map.mpr ⟨p, hp, rfl⟩⟩)
    exact ⟨e2, (t.at_ p hp).2.1, R1At.mono s e1 (t.at_ p hp).2.2⟩
theorem Rel.ownKind (rel : Rel G B F σ env H) {i : Nat} {a : Addr} (h : OwnAt env σ i a) : H a ≠ none ∧ ¬ F a ∧ ¬ B a ∧ (∀ ps, H a ≠ Option.some (HO.tbl ps)) ∧ ∀ q, H a ≠ Option.some (LamX.CodeO a q) := by
  rcases h with ⟨⟨s, e, k⟩, hσ⟩ | ⟨r, ns, e, m⟩
  · have q := rel.sl i s e
    cases s with
    | no => cases k
    | im d => cases k
    | tr _ _ => cases k
    | ow o =>
      obtain ⟨b, h1, h2, h3, h4⟩ := q
      rw [hσ] at h1; cases h1
      exact ⟨h4.some, h2, h3, h4.noTab, h4.noCode⟩
    | io b o =>
      obtain ⟨h1, h2, h3, h4⟩ := q
      rw [hσ] at h1; cases h1
      exact ⟨h4.some, h2, h3, h4.noTab, h4.noCode⟩
  · obtain ⟨_, t⟩ := rel.sl i _ e
    obtain ⟨n, _, nF, nB, w⟩ := t.of m
    exact ⟨w.some, nF, nB, w.noTab, w.noCode⟩
theorem Rel.ownSome (rel : Rel G B F σ env H) {i : Nat} {a : Addr} (h : OwnAt env σ i a) : H a ≠ none ∧ ¬ F a ∧ ¬ B a := ⟨(rel.ownKind h).1, (rel.ownKind h).2.1, (rel.ownKind h).2.2.1⟩
theorem Rel.new {p : Addr} {o : HO} (rel : Rel G B F σ env H) (hp : H p = none) : Rel G B F σ env (upd H p o) :=
  rel.step (stp_new hp) (fun i a h => ⟨upd_ne fun e => by subst e; exact (rel.ownSome h).1 hp, (rel.ownSome h).2.1⟩) fun a h => (stp_new (B := B) (F := F) hp).hs a (.inr h) (rel.hF a h)
theorem Rel.newF {p : Addr} {o : HO} (rel : Rel G B F σ env H) (hp : H p = none) (no : ∀ ps, o ≠ .tbl ps := by intro _ z; cases z) : Rel G B (fun a => F a ∨ a = p) σ env (upd H p o) :=
  rel.step (stp_newF hp (rel.notB hp)) (fun i a h => ⟨upd_ne fun e => by subst e; exact (rel.ownSome h).1 hp, fun z => z.elim (rel.ownSome h).2.1 fun e => by subst e; exact (rel.ownSome h).1 hp⟩)
    fun a h => h.elim (fun q => (stp_new (B := B) (F := F) hp).hs a (.inr q) (rel.hF a q)) fun e => by subst e; exact Nt.of upd_same no
/-- a new pair, only taken apart -/
theorem Pt.pr {ds : List D} {vs : List V} {p : Addr} {Q : V → Hp → Prop} (h : Pt G W (RD G) σ H Q (ret (.pr ds)) B F env) (hx : RpL G F H ds vs) (hp : H p = none) : Q (.ref p) (upd H p (.tup vs)) := by
  obtain ⟨Qd, Ed, rel, hm, hq, he⟩ := h
  exact hq _ env _ F _ hm (stp_new hp) (rel.new hp) ⟨p, vs, rfl, .inl upd_same, RpL.mono (stp_new (B := B) hp) ds vs hx⟩
/-- a new tuple -/
theorem Pt.tup {ds : List D} {vs : List V} {Q : V → Hp → Prop} (h : Pt G W (RD G) σ H Q (ret (.tup ds)) B F env) (hx : RpL G F H ds vs) : DLt.NewT vs H Q := by
  intro ob p dn hp
  obtain ⟨Qd, Ed, rel, hm, hq, he⟩ := h
  exact hq _ env _ (fun a => F a ∨ a = p) _ hm (stp_newF hp (rel.notB hp)) (rel.newF hp) ⟨p, vs, rfl, ⟨.inr rfl, ob, upd_same, dn⟩, RpL.mono (stp_newF (B := B) hp (rel.notB hp)) ds vs hx⟩
/-- a new list that nobody will write -/
theorem Pt.lst {ds : List D} {vs : List V} {p : Addr} {Q : V → Hp → Prop} (h : Pt G W (RD G) σ H Q (ret (.lst ds)) B F env) (hx : RpL G F H ds vs) (hp : H p = none) : Q (.ref p) (upd H p (.lst vs)) := by
  obtain ⟨Qd, Ed, rel, hm, hq, he⟩ := h
  exact hq _ env _ (fun a => F a ∨ a = p) _ hm (stp_newF hp (rel.notB hp)) (rel.newF hp) ⟨p, vs, rfl, .inr rfl, upd_same, RpL.mono (stp_newF (B := B) hp (rel.notB hp)) ds vs hx⟩
def dcnD (kvs : List (NestedKey × D)) : D := .dcn (kvs.map (·.1)) (kvs.map (·.2))
end
end DL
set_option Elab.async false
set_option linter.all false
set_option maxRecDepth 100000
set_option maxHeartbeats 2000000
namespace DL
open PySem PySem.Spec PyProof.Rows L2
variable [Tbs]
section
variable {G : Gx} {W : WX} {B F : Addr → Prop} {σ : L2.St} {H : Hp} {env : List Slot} {α β γ δ : Type}
variable {R : (Addr → Prop) → (Addr → Prop) → List Slot → L2.St → Hp → γ → δ → Prop} {Ra : (Addr → Prop) → (Addr → Prop) → List Slot → L2.St → Hp → α → β → Prop} {Q : δ → Hp → Prop}
theorem Lift.imp {m : M α} {Q Q' : β → Hp → Prop} (h : Lift G W Ra m σ H Q) (i : ∀ b H', Q b H' → Q' b H') : Lift G W Ra m σ H Q' := by
  obtain ⟨B, F, env, Qd, Ed, rel, hm, hq, he⟩ := h
  exact ⟨B, F, env, Qd, Ed, rel, hm, fun a env' b F' H' q st rl r => i _ _ (hq a env' b F' H' q st rl r), he⟩
theorem RpL.length : ∀ {ds : List D} {vs : List V}, RpL G F H ds vs → ds.length = vs.length
  | [], _, h => by cases (show _ = _ from h); rfl
  | _ :: _, _, ⟨v, r, e, _, h⟩ => by subst e; simp [RpL.length h]
theorem RpL.append : ∀ {ds es : List D} {vs us : List V}, RpL G F H ds vs → RpL G F H es us → RpL G F H (ds ++ es) (vs ++ us)
  | [], _, _, _, h, h' => by cases (show _ = _ from h); exact h'
  | _ :: _, _, _, _, ⟨v, r, e, h, t⟩, h' => by subst e; exact ⟨v, r ++ _, rfl, h, RpL.append t h'⟩
theorem RpL.take : ∀ {ds : List D} {vs : List V} (n : Nat), RpL G F H ds vs → RpL G F H (ds.take n) (vs.take n)
  | _, _, 0, _ => by rw [List.take_zero, List.take_zero]; exact rfl
  | [], _, n + 1, h => by cases (show _ = _ from h); exact rfl
  | _ :: _, _, n + 1, ⟨v, r, e, h, t⟩ => by subst e; exact ⟨v, _, rfl, h, RpL.take n t⟩
theorem RpL.drop : ∀ {ds : List D} {vs : List V} (n : Nat), RpL G F H ds vs → RpL G F H (ds.drop n) (vs.drop n)
  | _, _, 0, h => h
  | [], _, n + 1, h => by cases (show _ = _ from h); exact rfl
  | _ :: _, _, n + 1, ⟨v, r, e, h, t⟩ => by subst e; exact RpL.drop n t
theorem RpL.set : ∀ {ds : List D} {vs : List V} {d : D} {v : V} (n : Nat), RpL G F H ds vs → Rp G F H d v → RpL G F H (ds.set n d) (vs.set n v)
  | [], _, _, _, _, h, _ => by cases (show _ = _ from h); exact rfl
  | _ :: _, _, _, _, 0, ⟨u, r, e, h, t⟩, q => by subst e; exact ⟨_, r, rfl, q, t⟩
  | _ :: _, _, _, _, n + 1, ⟨u, r, e, h, t⟩, q => by subst e; exact ⟨u, _, rfl, h, RpL.set n t q⟩
theorem RpL.eraseIdx : ∀ {ds : List D} {vs : List V} (n : Nat), RpL G F H ds vs → RpL G F H (ds.eraseIdx n) (vs.eraseIdx n)
  | [], _, _, h => by cases (show _ = _ from h); exact rfl
  | _ :: _, _, 0, ⟨u, r, e, h, t⟩ => by subst e; exact t
  | _ :: _, _, n + 1, ⟨u, r, e, h, t⟩ => by subst e; exact ⟨u, _, rfl, h, RpL.eraseIdx n t⟩
def addD : D → D → M D
  | .int i, .int j => ret (.int (i + j))
  | .str s, .str t => ask (s.length + t.length ≤ sizeLine) (ret (.str (s ++ t)))
  | .tup a, .tup b => ask (a.length + b.length ≤ sizeLine) (ret (.tup (a ++ b)))
  | .lst a, .lst b => ask (a.length + b.length ≤ sizeLine) (ret (.lst (a ++ b)))
  | _, _ => fail
def subD : D → D → M D
  | .int i, .int j => ret (.int (i - j))
  | _, _ => fail
def mulD : D → D → M D
  | .int i, .int j => ask (CMul i j) (ret (.int (i * j)))
  | .lst a, .int k => ask (-(2 ^ 63) ≤ k ∧ k < 2 ^ 63 ∧ a.length * k.toNat ≤ sizeLine) (ret (.lst (List.replicate k.toNat a).flatten))
  | .tup a, .int k => ask (a ≠ [] ∧ 0 ≤ k ∧ k ≤ 2000 ∧ a.length ≤ 1000) (ret (.tup (List.replicate k.toNat a).flatten))
  | _, _ => fail
def modD : D → D → M D
  | .int i, .int j => ask (0 < j) (ret (.int (i % j)))
  | _, _ => fail
def fdivD : D → D → M D
  | .int i, .int j => ask (0 < j ∧ j < 1073741824) (ret (.int (i / j)))
  | _, _ => fail
def powD : D → D → M D
  | .int i, .int j => ask (0 ≤ j ∧ j ≤ 1000000 ∧ i.natAbs < 2 ^ 64) (ret (.int (i ^ j.toNat)))
  | _, _ => fail
def ltD : D → D → M D
  | .int i, .int j => ret (.bl (decide (i < j)))
  | _, _ => fail
def leD : D → D → M D
  | .int i, .int j => ret (.bl (decide (i ≤ j)))
  | _, _ => fail
def gtD : D → D → M D
  | .int i, .int j => ret (.bl (decide (j < i)))
  | _, _ => fail
def geD : D → D → M D
  | .int i, .int j => ret (.bl (decide (j ≤ i)))
  | _, _ => fail
def isNonD : D → D → M D
  | .non, .non => ret (.bl true)
  | _, .non => ret (.bl false)
  | _, _ => fail
def notNonD : D → D → M D
  | .non, .non => ret (.bl false)
  | _, .non => ret (.bl true)
  | _, _ => fail
end
end DL
set_option Elab.async false
set_option linter.all false
set_option maxRecDepth 100000
set_option maxHeartbeats 2000000
namespace DL
open PySem PySem.Spec PyProof.Rows L2
variable [Tbs]
mutual
def py : D → PyData
  | .non => .none | .bl b => .bool b | .int i => .int i | .str s => .str s
  | .tup xs => .tuple (pyL xs) | .lst xs => .list (pyL xs)
  | _ => .none
def pyL : List D → List PyData
  | [] => []
  | x :: xs => py x :: pyL xs
end
mutual
def pyOk : D → Bool
  | .non => true | .bl b => true | .int i => true | .str s => PyData.canLay0 (.str s)
  | .tup xs => pyOkL xs | .lst xs => pyOkL xs
  | _ => false
def pyOkL : List D → Bool
  | [] => true
  | x :: xs => pyOk x && pyOkL xs
end
/-- == of data -/
def eqv (a b : D) : Bool := PyData.eqv (py a) (py b)
def flatD : D → Bool
  | .non => true | .bl _ => true | .int _ => true | .str _ => true
  | _ => false
section
variable {G : Gx} {W : WX} {B F : Addr → Prop} {σ : L2.St} {H : Hp} {env : List Slot} {α β γ δ : Type}
mutual
theorem Rp.dp : ∀ {d : D} {v : V}, Rp G F H d v → pyOk d = true → Dp G.K H v (py d)
  | .non, _, h, _ => by cases (show _ = _ from h); exact .non
  | .bl b, _, h, _ => by cases (show _ = _ from h); exact .bl b
  | .int b, _, h, _ => by cases (show _ = _ from h); exact .int b
  | .str b, _, h, _ => by cases (show _ = _ from h); exact .str b
  | .byt _, _, _, e => by cases e
  | .hall _ _, _, _, e => by cases e
  | .scr _, _, _, e => by cases e
  | .emp, _, _, e => by cases e
  | .exn _ _ _, _, _, e => by cases e
  | .pr _, _, _, e => by cases e
  | .dct _ _, _, _, e => by cases e
  | .fn _, _, _, e => by cases e
  | .dcn _ _, _, _, e => by cases e
  | .tup ds, _, ⟨a, vs, e, h1, h2⟩, q => by subst e; exact .tup (.inl h1.rd) (RpL.dp h2 (by simpa [pyOk] using q))
  | .lst ds, _, ⟨a, vs, e, _, h1, h2⟩, q => by subst e; exact .lst (SqL.of h1) (RpL.dp h2 (by simpa [pyOk] using q))
theorem RpL.dp : ∀ {ds : List D} {vs : List V}, RpL G F H ds vs → pyOkL ds = true → DpAll G.K H vs (pyL ds)
  | [], _, h, _ => by cases (show _ = _ from h); exact .nil
  | d :: ds, _, ⟨v, r, e, h1, h2⟩, q => by
    subst e
    have q' : pyOk d = true ∧ pyOkL ds = true := by simpa [pyOkL] using q
    exact .cons (Rp.dp h1 q'.1) (RpL.dp h2 q'.2)
end
/-- fit for ==: laid, not deeper than 64 -/
def eqOk (d : D) : Bool := pyOk d && decide ((py d).depth ≤ 64)
def eqM (a b : D) : M D := match a, b with
  | .str s, .str t => ret (.bl (s == t))
  | a, b => ask (eqOk a = true ∧ eqOk b = true) (ret (.bl (eqv a b)))
def neM (a b : D) : M D := match a, b with
  | .str s, .str t => ret (.bl (!(s == t)))
  | a, b => ask (eqOk a = true ∧ eqOk b = true) (ret (.bl (!eqv a b)))
theorem RpL.rep {ds : List D} {vs : List V} (h : RpL G F H ds vs) : ∀ n : Nat, RpL G F H (List.replicate n ds).flatten (List.replicate n vs).flatten
  | 0 => rfl
  | n + 1 => by
    rw [List.replicate_succ, List.replicate_succ, List.flatten_cons, List.flatten_cons]
    exact h.append (RpL.rep h n)
def inM (a b : D) : M D := match b with
  | .tup ds => ask (flatD a = true ∧ ds.all flatD = true) (ret (.bl (ds.any fun d => eqv d a)))
  | .lst ds => ask (flatD a = true ∧ ds.all flatD = true) (ret (.bl (ds.any fun d => eqv d a)))
  | _ => fail
def ninM (a b : D) : M D := match b with
  | .tup ds => ask (flatD a = true ∧ ds.all flatD = true) (ret (.bl (!ds.any fun d => eqv d a)))
  | .lst ds => ask (flatD a = true ∧ ds.all flatD = true) (ret (.bl (!ds.any fun d => eqv d a)))
  | _ => fail
def ixM (a b : D) : M D := match a, b with
  | .tup ds, .int i => match atI ds i with
    | some d => ret d
    | none => fail
  | .lst ds, .int i => match atI ds i with
    | some d => ret d
    | none => fail
  | .scr ns, .int i => match atI ns i with
    | some d => ret (.int d)
    | none => fail
  | .str s, .int i => match atI s.cps.toList i with
    | some c => ask (s.length ≤ sizeLine) (ret (.str ⟨#[c]⟩))
    | none => fail
  | _, _ => fail
end
end DL
set_option Elab.async false
set_option linter.all false
set_option maxRecDepth 100000
set_option maxHeartbeats 2000000
namespace DL
open PySem PySem.Spec PyProof.Rows L2
variable [Tbs]
def do2 {γ : Type} (ma mb : M D) (k : D → D → M γ) : M γ := bnd ma fun a => bnd mb fun b => k a b
def asB : D → M Bool
  | .bl b => ret b
  | _ => fail
section
variable {G : Gx} {W : WX} {B F : Addr → Prop} {σ : L2.St} {H : Hp} {env : List Slot} {α β γ δ : Type}
variable {R : (Addr → Prop) → (Addr → Prop) → List Slot → L2.St → Hp → γ → δ → Prop} {Ra : (Addr → Prop) → (Addr → Prop) → List Slot → L2.St → Hp → α → β → Prop} {Q : δ → Hp → Prop}
theorem Pt.imp {m : M α} {Q Q' : β → Hp → Prop} (h : Pt G W Ra σ H Q m B F env) (i : ∀ b H', Q b H' → Q' b H') : Pt G W Ra σ H Q' m B F env := by
  obtain ⟨Qd, Ed, rel, hm, hq, he⟩ := h
  exact ⟨Qd, Ed, rel, hm, fun a env' b F' H' q st rl r => i _ _ (hq a env' b F' H' q st rl r), he⟩
end
section
variable {X : Cx} {C : Addr} {W : WX} {a b c : Expr} {es : List Expr} {ma mb mc : M D} {ms : M (List D)} {pos : Pos} {mt mu : M Bool} {rest : List Expr}
def dVar (i : Nat) : M D := fun env Q _ => match env[i]? with
  | some (.im d) => Q d env
  | _ => False
/-- a < b < c -/
def chM (k k' : D → D → M D) (ma mb mc : M D) : M D := bnd ma fun a => bnd mb fun b => bnd (k a b) fun z => match z with
  | .bl true => bnd mc fun c => k' b c
  | .bl false => ret (.bl false)
  | _ => fail
def truD : D → M Bool
  | .non => ret false
  | .bl b => ret b
  | .int i => ret (i != 0)
  | .str s => ask (s.length ≤ sizeLine) (ret ((s.length : Int) != 0))
  | .tup ds => ret (!ds.isEmpty)
  | .lst ds => ret (!ds.isEmpty)
  | .scr ns => ret (!ns.isEmpty)
  | _ => fail
def andB (t u : M Bool) : M Bool := bnd t fun c => if c = true then u else ret false
def orB (t u : M Bool) : M Bool := bnd t fun c => if c = true then ret true else u
def notB (t : M Bool) : M Bool := bnd t fun c => ret (!c)
def andV (ma mb : M D) : M D := bnd ma fun a => bnd (asB a) fun c => if c = true then mb else ret (.bl false)
def orV (ma mb : M D) : M D := bnd ma fun a => bnd (asB a) fun c => if c = true then ret (.bl true) else mb
def notV (ma : M D) : M D := bnd ma fun a => bnd (asB a) fun c => ret (.bl (!c))
def ifM {γ : Type} (t : M Bool) (u v : M γ) : M γ := bnd t fun c => if c = true then u else v
def consM (m : M D) (ms : M (List D)) : M (List D) := bnd m fun d => bnd ms fun ds => ret (d :: ds)
def tupM (ms : M (List D)) : M D := bnd ms fun ds => ask (ds.length ≤ sizeLine) (ret (.tup ds))
def lstM (ms : M (List D)) : M D := bnd ms fun ds => ask (ds.length ≤ sizeLine) (ret (.lst ds))
def olstM (ms : M (List D)) : M O := bnd ms fun ds => ask (ds.length ≤ sizeLine) (ret (.lst ds))
def cutL {α : Type} (xs : List α) (lo hi : Option Int) : List α := (xs.drop (HT.sIx xs.length 0 lo)).take (HT.sIx xs.length xs.length hi - HT.sIx xs.length 0 lo)
def slM (d : D) (lo hi : Option Int) : M D := match d with
  | .tup ds => ret (.tup (cutL ds lo hi))
  | .lst ds => ret (.lst (cutL ds lo hi))
  | .scr ns => ret (.lst ((cutL ns lo hi).map .int))
  | .str s => ask (s.length ≤ sizeLine) (ret (.str (cutS s lo hi)))
  | _ => fail
def partM (m : M D) : M (Option Int) := bnd m fun d => match d with
  | .int i => ret (some i)
  | _ => fail
end
end DL
set_option Elab.async false
set_option linter.all false
set_option maxRecDepth 100000
set_option maxHeartbeats 2000000
namespace DL
open PySem PySem.Spec PyProof.Rows L2
variable [Tbs]
/-- what a def hands back -/
inductive Res where
  | d (d : D) | o (o : O) | t (r : Addr) (ns : List (Addr × R1))
inductive Fl where
  | nx | bk | ct | rt (r : Res)
def ResR (G : Gx) (B F : Addr → Prop) (env : List Slot) (σ : L2.St) (H : Hp) : Res → V → Prop
  | .d d, v => Rp G F H d v
  | .o o, v => ∃ a, v = .ref a ∧ ¬ F a ∧ ¬ B a ∧ OwAt G F H a o ∧ ∀ (i : Nat) b p, env[i]? = some (.io b p) → b ≠ a
  | .t r ns, v => v = .ref r ∧ Tree G B F H r ns ∧ ∀ a ∈ ns.map (·.1), ∀ (i : Nat) b p, env[i]? = some (.io b p) → b ≠ a
/-- a statement's reading -/
def Ps (G : Gx) (W : WX) (ms : M Fl) (D : Ends) (σ : L2.St) (H : Hp) (B F : Addr → Prop) (env : List Slot) : Prop :=
  ∃ Qd Ed, Rel G B F σ env H ∧ ms env Qd Ed ∧
    (∀ env' σ' F' H', Qd .nx env' → Stp B F H F' H' → Rel G B F' σ' env' H' → D.nx σ' H') ∧
    (∀ env' σ' F' H', Qd .bk env' → Stp B F H F' H' → Rel G B F' σ' env' H' → D.bk σ' H') ∧
    (∀ env' σ' F' H', Qd .ct env' → Stp B F H F' H' → Rel G B F' σ' env' H' → D.ct σ' H') ∧
    (∀ r env' σ' F' H' v, Qd (.rt r) env' → Stp B F H F' H' → Rel G B F' σ' env' H' → ResR G B F' env' σ' H' r v → D.rt v H') ∧
    (∀ x env' σ' cls d F' H', Ed x env' → Stp B F H F' H' → Rel G B F' σ' env' H' → ExnR G F' H' x cls d → W cls d σ' H')
def tS (G : Gx) (W : WX) (ms : M Fl) : TS := fun D σ H => ∃ B F env, Ps G W ms D σ H B F env
def seqK (k : M Fl) : Fl → M Fl
  | .nx => k
  | .bk => ret .bk
  | .ct => ret .ct
  | .rt r => ret (.rt r)
def seqM (m k : M Fl) : M Fl := bnd m (seqK k)
def setI (i : Nat) (d : D) : M Unit := fun env Q _ => match env[i]? with
  | some (.io _ _) => False
  | some _ => Q () (env.set i (.im d))
  | none => False
def setO (i : Nat) (o : O) : M Unit := fun env Q _ => match env[i]? with
  | some (.io _ _) => False
  | some _ => Q () (env.set i (.ow o))
  | none => False
def thenN {α : Type} (m : M α) : M Fl := bnd m fun _ => ret .nx
/-- what the owned object in slot i holds -/
def getO (i : Nat) : M O := fun env Q _ => match env[i]? with
  | some (.ow o) => Q o env
  | some (.io _ o) => Q o env
  | _ => False
def putO (i : Nat) (o : O) : M Unit := fun env Q _ => match env[i]? with
  | some (.ow _) => Q () (env.set i (.ow o))
  | some (.io a _) => Q () (env.set i (.io a o))
  | _ => False
section
variable {G : Gx} {W : WX} {B F : Addr → Prop} {σ : L2.St} {H : Hp} {env : List Slot} {α β γ δ : Type}
theorem ownAt_set {s : Slot} {i : Nat} {x : Option V} {j : Nat} {a : Addr} (hl : env.length = σ.length) (h : OwnAt (env.set i s) (σ.set i x) j a) : (j = i ∧ s.feet (some x) a) ∨ (j ≠ i ∧ OwnAt env σ j a) := by
  obtain ⟨t, h1, h3⟩ := own_feet.mp h
  by_cases e : j = i
  · subst e
    have hj : j < env.length := by
      have := (List.getElem?_eq_some_iff.mp h1).1
      rw [List.length_set] at this; exact this
    rw [List.getElem?_set_self hj] at h1
    rw [List.getElem?_set_self (by omega)] at h3
    cases h1
    exact .inl ⟨rfl, h3⟩
  · rw [List.getElem?_set_ne (Ne.symm e)] at h1 h3
    exact .inr ⟨e, own_feet.mpr ⟨t, h1, h3⟩⟩
theorem feet_no {x : Option (Option V)} {a : Addr} (h : Slot.no.feet x a) : False := by
  rcases h with ⟨k, _⟩ | ⟨_, _, e, _⟩
  · cases k
  · cases e
/-- a slot is forgotten -/
theorem Rel.drop (rel : Rel G B F σ env H) (i : Nat) (x : Option V) : Rel G B F (σ.set i x) (env.set i .no) H := by
  refine ⟨by rw [List.length_set, List.length_set]; exact rel.len, fun j s e => ?_, fun j k a h1 h2 => ?_, rel.hB, rel.hF, rel.tb⟩
  · by_cases hj : j = i
    · subst hj
      have hlt : j < env.length := by
        have := (List.getElem?_eq_some_iff.mp e).1
        rw [List.length_set] at this; exact this
      rw [List.getElem?_set_self hlt] at e
      cases e
      trivial
    · rw [List.getElem?_set_ne (Ne.symm hj)] at e ⊢
      exact rel.sl j s e
  · rcases ownAt_set rel.len h1 with ⟨_, z⟩ | ⟨_, h1⟩
    · exact (feet_no z).elim
    · rcases ownAt_set rel.len h2 with ⟨_, z⟩ | ⟨_, h2⟩
      · exact (feet_no z).elim
      · exact rel.ap j k a h1 h2
def putS (env : List Slot) (i : Nat) (o : O) : List Slot := match env[i]? with
  | some (.ow _) => env.set i (.ow o)
  | some (.io a _) => env.set i (.io a o)
  | _ => env
theorem feet_root {s : Slot} {x : Option (Option V)} {b : Addr} (h : s.feet x b) (k : ∀ r ns, s ≠ .tr r ns) : s.own = true ∧ x = some (some (.ref b)) := by
  rcases h with h | ⟨r, ns, e, _⟩
  · exact h
  · exact (k r ns e).elim
theorem Ps.seq {m k : M Fl} {D : Ends} {u : TS} (h : Ps G W (seqM m k) D σ H B F env) (hu : ∀ σ' H', tS G W k D σ' H' → u D σ' H') : Ps G W m { D with nx := u D } σ H B F env := by
  obtain ⟨Qd, Ed, rel, hm, h1, h2, h3, h4, h5⟩ := h
  refine ⟨fun f env' => seqK k f env' Qd Ed, Ed, rel, hm, fun env' σ' F' H' q st rl => hu σ' H' ⟨B, F', env', Qd, Ed, rl, q, ?_, ?_, ?_, ?_, ?_⟩, h2, h3, h4, h5⟩
  · exact fun e2 s2 F2 H2 q2 st2 rl2 => h1 e2 s2 F2 H2 q2 (st.trans st2) rl2
  · exact fun e2 s2 F2 H2 q2 st2 rl2 => h2 e2 s2 F2 H2 q2 (st.trans st2) rl2
  · exact fun e2 s2 F2 H2 q2 st2 rl2 => h3 e2 s2 F2 H2 q2 (st.trans st2) rl2
  · exact fun r e2 s2 F2 H2 v q2 st2 rl2 => h4 r e2 s2 F2 H2 v q2 (st.trans st2) rl2
  · exact fun x e2 s2 c d F2 H2 q2 st2 rl2 => h5 x e2 s2 c d F2 H2 q2 (st.trans st2) rl2
/-- an expression ahead of the rest of a statement -/
theorem Ps.bind {ma : M α} {k : α → M Fl} {Ra : (Addr → Prop) → (Addr → Prop) → List Slot → L2.St → Hp → α → β → Prop} {Z : Ends} {as : List D} {xs : List V} (h : Ps G W (bnd ma k) Z σ H B F env) :
    Lift G W Ra ma σ H (fun y H' => ∃ F' env' b, Ps G W (k b) Z σ H' B F' env' ∧ Ra B F' env' σ H' b y) := by
  obtain ⟨Qd, Ed, rel, hm, h1, h2, h3, h4, h5⟩ := h
  refine ⟨B, F, env, fun a env' => k a env' Qd Ed, Ed, rel, hm, fun a env' b F' H' hk st rl hr => ⟨F', env', a, ⟨Qd, Ed, rl, hk, ?_, ?_, ?_, ?_, ?_⟩, hr⟩, fun x env' cls d F' H' q st rl r => h5 x env' σ cls d F' H' q st rl r⟩
  · exact fun e2 s2 F2 H2 q2 st2 rl2 => h1 e2 s2 F2 H2 q2 (st.trans st2) rl2
  · exact fun e2 s2 F2 H2 q2 st2 rl2 => h2 e2 s2 F2 H2 q2 (st.trans st2) rl2
  · exact fun e2 s2 F2 H2 q2 st2 rl2 => h3 e2 s2 F2 H2 q2 (st.trans st2) rl2
  · exact fun r e2 s2 F2 H2 v q2 st2 rl2 => h4 r e2 s2 F2 H2 v q2 (st.trans st2) rl2
  · exact fun x e2 s2 c d F2 H2 q2 st2 rl2 => h5 x e2 s2 c d F2 H2 q2 (st.trans st2) rl2
end
section
variable {X : Cx} {C : Addr} {W : WX} {e : Expr} {st : Stmt} {sts : List Stmt} {m k : M Fl} {md : M D} {mo : M O} {mt : M Bool} {pos : Pos}
/-- return of an owned name -/
def takeO (i : Nat) : M O := fun env Q _ => match env[i]? with
  | some (.ow o) => Q o env
  | _ => False
def loopN (c : M Bool) (b : M Fl) : Nat → M Fl
  | 0 => fun _ _ _ => False
  | n + 1 => fun env Q E => c env (fun t env' => if t = true then b env' (fun f env'' => match f with
    | .nx => loopN c b n env'' Q E
    | .ct => loopN c b n env'' Q E
    | .bk => Q .nx env''
    | .rt r => Q (.rt r) env'') E else Q .nx env') E
def whileM (c : M Bool) (b : M Fl) : M Fl := fun env Q E => ∃ n, loopN c b n env Q E
end
end DL
set_option Elab.async false
set_option linter.all false
set_option maxRecDepth 100000
set_option maxHeartbeats 2000000
set_option Elab.async false
set_option linter.all false
set_option maxRecDepth 100000
set_option maxHeartbeats 2000000
namespace DL
open PySem PySem.Spec PyProof.Rows L2
variable [Tbs]
def setIs : List Nat → List D → M Unit
  | [], [] => ret ()
  | i :: is, d :: ds => bnd (setI i d) fun _ => setIs is ds
  | _, _ => fail
def setTup (is : List Nat) (d : D) : M Unit := match d with
  | .tup ds => setIs is ds
  | .pr ds => setIs is ds
  | _ => fail
section
variable {X : Cx} {C : Addr} {W : WX} {e : Expr} {es : List Expr} {st : Stmt} {sts : List Stmt} {m k : M Fl} {md : M D} {mt : M Bool} {pos : Pos} {is : List Nat}
/-- J walks the data ds, whatever this code does meanwhile -/
def ItOk (G : Gx) (J : It) (ds : List D) (B F : Addr → Prop) (H : Hp) : Prop := ∀ F' H', Stp B F H F' H' → ∀ i, (∀ d, ds[i]? = some d → J.go i H' ∧ ∀ x H'', J.yld i H' x H'' → Stp B F' H' F' H'' ∧ (∀ a o, H' a = some o → H'' a = some o) ∧ Rp G F' H'' d x) ∧ (ds.length ≤ i → J.stop i H')
theorem ItOk.mono {G : Gx} {J : It} {ds : List D} {B F F' : Addr → Prop} {H H' : Hp} (h : ItOk G J ds B F H) (s : Stp B F H F' H') : ItOk G J ds B F' H' := fun F2 H2 s2 => h F2 H2 (s.trans s2)
def RI (G : Gx) : (Addr → Prop) → (Addr → Prop) → List Slot → L2.St → Hp → List D → It → Prop := fun B F _ _ H ds J => ItOk G J ds B F H
abbrev tI (G : Gx) (W : WX) (m : M (List D)) : TI := Lift G W (RI G) m
def itTup (d : D) : M (List D) := match d with
  | .tup ds => ret ds
  | .pr ds => ret ds
  | _ => fail
def itLst (d : D) : M (List D) := match d with
  | .lst ds => ret ds
  | .scr ns => ret (ns.map .int)
  | _ => fail
def numbered (ds : List D) : List D := ds.zipIdx.map fun p => .pr [.int (p.2 : Nat), p.1]
def enTup (ds : List D) : M (List D) := match ds with
  | [.tup ds] => ret (numbered ds)
  | _ => fail
def enLst (ds : List D) : M (List D) := match ds with
  | [.lst ds] => ret (numbered ds)
  | [.scr ns] => ret (numbered (ns.map .int))
  | _ => fail
def rangeL (lo hi : Int) : List D := (List.range (hi - lo).toNat).map fun i => .int (lo + (i : Nat))
def itR1 (ds : List D) : M (List D) := match ds with
  | [.int j] => ask (-(2 ^ 62) ≤ j ∧ j < 2 ^ 62) (ret (rangeL 0 j))
  | _ => fail
def itR2 (ds : List D) : M (List D) := match ds with
  | [.int i, .int j] => ask (-(2 ^ 62) ≤ i ∧ i < 2 ^ 62 ∧ -(2 ^ 62) ≤ j ∧ j < 2 ^ 62) (ret (rangeL i j))
  | _ => fail
end
end DL
set_option Elab.async false
set_option linter.all false
set_option maxRecDepth 100000
set_option maxHeartbeats 2000000
namespace DL
open PySem PySem.Spec PyProof.Rows L2
variable [Tbs]
section
variable {X : Cx} {C : Addr} {W : WX} {e tg : Expr} {es : List Expr} {m k : M Fl} {md : M D} {ms : M (List D)} {mt : M Bool} {p pos tpos : Pos} {is : List Nat}
def loopK (again : M Fl) : Fl → M Fl
  | .nx => again
  | .ct => again
  | .bk => ret .nx
  | .rt r => ret (.rt r)
def forL (tg : D → M Unit) (body : M Fl) : List D → M Fl
  | [] => ret .nx
  | d :: ds => bnd (tg d) fun _ => bnd body (loopK (forL tg body ds))
def forM (items : M (List D)) (tg : D → M Unit) (body : M Fl) : M Fl := bnd items (forL tg body)
end
end DL
set_option Elab.async false
set_option linter.all false
set_option maxRecDepth 100000
set_option maxHeartbeats 2000000
namespace DL
open PySem PySem.Spec PyProof.Rows L2
variable [Tbs]
def wipeE (env : List Slot) : List Nat → List Slot
  | [] => env
  | v :: vs => (wipeE env vs).set v .no
def oldS (env0 : List Slot) (v : Nat) : Slot := match env0[v]? with
  | some (.im d) => .im d
  | _ => .no
def backE (env0 env : List Slot) : List Nat → List Slot
  | [] => env
  | v :: vs => (backE env0 env vs).set v (oldS env0 v)
theorem backE_len {e0 e : List Slot} : ∀ {vs : List Nat}, (backE e0 e vs).length = e.length
  | [] => rfl
  | v :: vs => by show ((backE e0 e vs).set v _).length = _; rw [List.length_set, backE_len]
theorem backE_out {e0 e : List Slot} {j : Nat} : ∀ {vs : List Nat}, j ∉ vs → (backE e0 e vs)[j]? = e[j]?
  | [], _ => rfl
  | v :: vs, h => by
    show ((backE e0 e vs).set v _)[j]? = _
    rw [List.getElem?_set_ne fun z => h (by simp [z]), backE_out fun z => h (List.mem_cons_of_mem _ z)]
theorem backE_in {e0 e : List Slot} {j : Nat} {s : Slot} : ∀ {vs : List Nat}, j ∈ vs → (backE e0 e vs)[j]? = some s → s = oldS e0 j
  | [], h, _ => by cases h
  | v :: vs, h, q => by
    have q : ((backE e0 e vs).set v (oldS e0 v))[j]? = some s := q
    by_cases z : v = j
    · subst z
      have hl : v < (backE e0 e vs).length := by
        have := (List.getElem?_eq_some_iff.mp q).1
        rw [List.length_set] at this; exact this
      rw [List.getElem?_set_self hl] at q
      exact (Option.some.inj q).symm
    · rw [List.getElem?_set_ne z] at q
      exact backE_in ((List.mem_cons.mp h).elim (fun z' => absurd z'.symm z) id) q
def compL (tg : D → M Unit) (vs : List Nat) (cond : M Bool) (elt : M D) : List D → List D → M (List D)
  | [], acc => ret acc
  | d :: ds, acc => fun env Q E => bnd (tg d) (fun _ => bnd cond fun c => if c = true then bnd elt fun y => ask (acc.length < sizeLine) (compL tg vs cond elt ds (acc ++ [y])) else compL tg vs cond elt ds acc) (wipeE env vs) Q E
/-- [elt for tg in items if cond] -/
def compM (items : M (List D)) (tg : D → M Unit) (vs : List Nat) (cond : M Bool) (elt : M D) : M O := fun env Q E =>
  items env (fun ds env1 => compL tg vs cond elt ds [] env1 (fun acc env2 => Q (.lst acc) (backE env1 env2 vs)) fun _ _ => False) E
section
variable {X : Cx} {C : Addr} {W : WX} {tg iter elt : Expr} {ifs : List Expr} {is : List Nat} {scope : Scope} {own : List (Str × Nat)} {pos : Pos} {ms : M (List D)} {mt : M Bool} {md : M D}
/-- an object that nobody owns is a datum from here on -/
def frzM (m : M O) : M D := bnd m fun o => match o with
  | .lst ds => ret (.lst ds)
  | _ => fail
end
end DL
set_option Elab.async false
set_option linter.all false
set_option maxRecDepth 100000
set_option maxHeartbeats 2000000
namespace DL
open PySem PySem.Spec PyProof.Rows L2
variable [Tbs]
/-- a def's promise where nothing that shows things is under way -/
structure FnG (P : Program) (w : World) (K : PySem.W.Frag) (mg : Str → Option Value) (base : Heap) (k : Nat) (f : Addr) (fd : FuncData) (ps : List Str) (sp : Sp) : Prop where
  len : ∀ vs H Q E, sp vs H Q E → vs.length = ps.length
  run : ∀ (A : Around) (outer : List Env) (s : Shared) (H : Hp) (args : Args) (us : List Value) (vs : List V) (Q : VK) (E : XK), Room k A → A.guards = some [] → Env0 P w K mg base A outer s H → BindsTo s fd args (ps.zip us) → Vals vs us → sp vs H Q E →
    codeAny (model P w) A (.call (.ref f) args) (CR (DLz.CX P w) outer P w H s Q E) s
theorem FnG.mono {P : Program} {w : World} {K : PySem.W.Frag} {mg : Str → Option Value} {base : Heap} {j k : Nat} {f : Addr} {fd : FuncData} {ps : List Str} {sp : Sp} (F : FnG P w K mg base j f fd ps sp) (h : j ≤ k) : FnG P w K mg base k f fd ps sp :=
  ⟨F.len, fun A outer s H args us vs Q E hr => F.run A outer s H args us vs Q E (hr.mono h)⟩
abbrev DF := List Slot → (Res → List Slot → Prop) → (Exn → List Slot → Prop) → Prop
/-- the parameters' slots behind the body -/
def finA : List Slot → List Slot → (List Slot → Prop) → Prop
  | [], _, k => k []
  | .io a _ :: as, .io b o :: es, k => a = b ∧ finA as es fun r => k (.io b o :: r)
  | .io _ _ :: _, _, _ => False
  | .ow _ :: _, _, _ => False
  | .tr a _ :: as, .tr b ns :: es, k => a = b ∧ finA as es fun r => k (.tr b ns :: r)
  | .tr _ _ :: _, _, _ => False
  | s :: as, _ :: es, k => finA as es fun r => k (s :: r)
  | _ :: _, [], _ => False
def defM (len : Nat) (body : M Fl) : DF := fun ss Q E => body (ss ++ List.replicate (len - ss.length) .no) (fun f env' => match f with
  | .rt r => finA ss env' fun ss' => Q r ss'
  | .nx => finA ss env' fun ss' => Q (.d .non) ss'
  | _ => False) fun x env' => finA ss env' fun ss' => E x ss'
inductive Ar where
  | d (d : D) | o (i : Nat)
def RRs (G : Gx) : (Addr → Prop) → (Addr → Prop) → List Slot → L2.St → Hp → Res → V → Prop := fun B F env σ H r v => match r with
  | .d d => Rp G F H d v
  | .o o => RO G B F env σ H o v
  | .t r ns => v = .ref r ∧ Tree G B F H r ns ∧ ∀ b ∈ ns.map (·.1), ∀ i, ¬ OwnAt env σ i b
def consD (m : M D) (ms : M (List Ar)) : M (List Ar) := bnd m fun d => bnd ms fun as => ret (.d d :: as)
def consO (i : Nat) (ms : M (List Ar)) : M (List Ar) := bnd (getO i) fun _ => bnd ms fun as => ret (.o i :: as)
def allD : List Ar → Option (List D)
  | [] => some []
  | .d d :: r => (allD r).map (d :: ·)
  | .o _ :: _ => none
def split1 : List Ar → Option (List D × Nat × List D)
  | [] => none
  | .d d :: r => (split1 r).map fun p => (d :: p.1, p.2)
  | .o i :: r => (allD r).map fun ds => ([], i, ds)
def callD (f : DF) (ds : List D) : M Res := fun env Q E => f (ds.map .im) (fun r _ => Q r env) (fun x _ => E x env)
def ioAt (n i : Nat) (env ss : List Slot) (k : List Slot → Prop) : Prop := match ss[n]? with
  | some (.io _ o) => k (putS env i o)
  | _ => False
def call1 (f : DF) (l : List D) (i : Nat) (r : List D) : M Res := fun env Q E => match env[i]? with
  | some (.ow o) => ∀ a, f (l.map .im ++ .io a o :: r.map .im) (fun v ss => ioAt l.length i env ss (Q v)) (fun x ss => ioAt l.length i env ss (E x))
  | some (.io a o) => f (l.map .im ++ .io a o :: r.map .im) (fun v ss => ioAt l.length i env ss (Q v)) (fun x ss => ioAt l.length i env ss (E x))
  | _ => False
def callA (f : DF) (as : List Ar) : M Res := match allD as with
  | some ds => callD f ds
  | none => match split1 as with
    | some (l, i, r) => call1 f l i r
    | none => fail
end DL
set_option Elab.async false
set_option linter.all false
set_option maxRecDepth 100000
set_option maxHeartbeats 2000000
namespace DL
open PySem PySem.Spec PyProof.Rows L2
end DL
set_option Elab.async false
set_option linter.all false
set_option maxRecDepth 100000
set_option maxHeartbeats 2000000
namespace DL
open PySem PySem.Spec PyProof.Rows L2
variable [Tbs]
section
variable {X : Cx} {C : Addr} {W : WX} {k n : Nat} {f : Addr} {fd : FuncData} {ps ks : List Str} {df : DF} {x : Str} {p pos : Pos} {e : Expr} {es : List Expr} {kws : List Keyword} {ma : M (List Ar)} {md : M D} {ms mk : M (List D)}
def callN (n : Nat) (df : DF) (as : List Ar) : M Res := ask (as.length = n) (callA df as)
def callK (n m : Nat) (gD : List D → List D → List D) (df : DF) (ds es : List D) : M Res := ask (ds.length = n ∧ es.length = m) (callD df (gD ds es))
variable {gD : List D → List D → List D} {g : List Value → List Value → List Value} {gV : List V → List V → List V} {j : Nat}
/-- a def's answer as a datum, as an object -/
def resD : Res → M D
  | .d d => ret d
  | .o (.lst ds) => ret (.lst ds)
  | _ => fail
def resO : Res → M O
  | .o o => ret o
  | _ => fail
def un1 (k : D → M D) (ds : List D) : M D := match ds with
  | [d] => k d
  | _ => fail
def un2 (k : D → D → M D) (ds : List D) : M D := match ds with
  | [d, e] => k d e
  | _ => fail
def lenD : D → M D
  | .tup ds => ret (.int ds.length)
  | .lst ds => ret (.int ds.length)
  | .scr ns => ret (.int ns.length)
  | .str s => ask (s.length ≤ sizeLine) (ret (.int s.length))
  | _ => fail
def absD : D → M D
  | .int i => ret (.int (if i < 0 then -i else i))
  | _ => fail
def intD : D → M D
  | .int i => ret (.int i)
  | .bl k => ret (.int (if k then 1 else 0))
  | _ => fail
def max2D : D → D → M D
  | .int i, .int j => ret (.int (if j > i then j else i))
  | _, _ => fail
def min2D : D → D → M D
  | .int i, .int j => ret (.int (if j < i then j else i))
  | _, _ => fail
def divD : D → D → M D
  | .int i, .int j => ask (0 < j ∧ j < 1073741824) (ret (.pr [.int (i / j), .int (i % j)]))
  | _, _ => fail
/-- tuple(x) -/
def tupD : D → M D
  | .tup ds => ret (.tup ds)
  | .lst ds => ret (.tup ds)
  | _ => fail
def listD : D → M D
  | .tup ds => ret (.lst ds)
  | .lst ds => ret (.lst ds)
  | .scr ns => ret (.lst (ns.map .int))
  | _ => fail
def listO : D → M O
  | .tup ds => ret (.lst ds)
  | .lst ds => ret (.lst ds)
  | .scr ns => ret (.lst (ns.map .int))
  | _ => fail
def boolsOf : List D → Option (List Bool)
  | [] => some []
  | .bl b :: ds => (boolsOf ds).map (b :: ·)
  | _ => none
def allM : D → M D
  | .lst ds => match boolsOf ds with
    | some bs => ret (.bl (bs.all id))
    | none => fail
  | _ => fail
end
end DL
set_option Elab.async false
set_option linter.all false
set_option maxRecDepth 100000
set_option maxHeartbeats 2000000
namespace DL
open PySem PySem.Spec PyProof.Rows L2
variable [Tbs]
/-- the own list in slot i -/
def asL : O → M (List D)
  | .lst ds => ret ds
  | _ => fail
def olist (i : Nat) : M (List D) := bnd (getO i) asL
def ixL (ds : List D) : D → M D
  | .int k => match atI ds k with
    | some d => ret d
    | none => fail
  | _ => fail
section
variable {G : Gx} {W : WX} {B F : Addr → Prop} {σ : L2.St} {H : Hp} {env : List Slot} {α β γ δ : Type}
variable {R : (Addr → Prop) → (Addr → Prop) → List Slot → L2.St → Hp → γ → δ → Prop} {Q : δ → Hp → Prop} {i : Nat} {a : Addr} {o o' : O}
theorem OwnR.here (h : OwnR env σ i a) {b : Addr} (e : σ[i]? = some (some (.ref b))) : a = b := by
  have z := h.2
  rw [e] at z
  cases z; rfl
theorem Pt.rel {m : M γ} (h : Pt G W R σ H Q m B F env) : Rel G B F σ env H := let ⟨_, _, r, _⟩ := h; r
end
section
variable {X : Cx} {C : Addr} {W : WX} {a b c : Expr} {es : List Expr} {ma mb mc : M D} {ms : M (List D)} {pos apos cpos p : Pos} {i : Nat}
/-- own[b] -/
def oixM (i : Nat) (mb : M D) : M D := bnd (getO i) fun _ => bnd mb fun k => bnd (olist i) fun ds => ixL ds k
/-- len(own) -/
def olenM (i : Nat) : M D := bnd (olist i) fun ds => ret (.int ds.length)
def oinM (neg : Bool) (ma : M D) (i : Nat) : M D := bnd (getO i) fun _ => bnd ma fun x => bnd (olist i) fun ds => ask (flatD x = true ∧ ds.all flatD = true) (ret (.bl (if neg then !ds.any fun d => eqv d x else ds.any fun d => eqv d x)))
def oappM (i : Nat) (mb : M D) : M D := bnd (olist i) fun _ => bnd mb fun d => bnd (olist i) fun ds => ask (ds.length < sizeLine) (bnd (putO i (.lst (ds ++ [d]))) fun _ => ret .non)
def opopM (i : Nat) (mb : M D) : M D := bnd (olist i) fun _ => bnd mb fun d => bnd (olist i) fun ds => ask (ds.length ≤ sizeLine) <| match d with
  | .int k => match ixN ds.length k with
    | some j => match ds[j]? with
      | some d => bnd (putO i (.lst (ds.eraseIdx j))) fun _ => ret d
      | none => fail
    | none => fail
  | _ => fail
/-- ints alone -/
def intsOf : List D → Option (List Int)
  | [] => some []
  | .int i :: r => (intsOf r).map (i :: ·)
  | _ => none
def oremM (i : Nat) (mb : M D) : M D := bnd (olist i) fun _ => bnd mb fun d => bnd (olist i) fun ds => match intsOf ds, d with
  | some ns, .int k => ask (k ∈ ns) (bnd (putO i (.lst ((ns.erase k).map .int))) fun _ => ret .non)
  | _, _ => fail
end
end DL
set_option Elab.async false
set_option linter.all false
set_option maxRecDepth 100000
set_option maxHeartbeats 2000000
namespace DL
open PySem PySem.Spec PyProof.Rows L2
variable [Tbs]
def setKs : List (D → M Unit) → List D → M Unit
  | [], [] => ret ()
  | k :: ks, d :: ds => bnd (k d) fun _ => setKs ks ds
  | _, _ => fail
def setTw (ks : List (D → M Unit)) (d : D) : M Unit := match d with
  | .tup ds => ask (ds.length = ks.length) (setKs ks ds)
  | .pr ds => ask (ds.length = ks.length) (setKs ks ds)
  | _ => fail
/-- own[b] = -/
def osetM (i : Nat) (mb : M D) (v : D) : M Unit := bnd (getO i) fun _ => bnd mb fun d => bnd (olist i) fun ds => match d with
  | .int k => match ixN ds.length k with
    | some j => putO i (.lst (ds.set j v))
    | none => fail
  | _ => fail
section
variable {X : Cx} {C : Addr} {W : WX} {e b a : Expr} {es : List Expr} {md mb : M D} {pos p : Pos} {is : List Nat} {k : D → M Unit} {ks : List (D → M Unit)} {i : Nat}
/-- target = datum -/
def asgM (md : M D) (k : D → M Unit) : M Fl := fun env Q E => md env (fun d env1 => k d env1 (fun _ env2 => Q .nx env2) (fun _ _ => False)) E
end
inductive Vl where
  | d (d : D) | o (o : O) | t (r : Addr) (ns : List (Addr × R1))
def vD (m : M D) (ms : M (List Vl)) : M (List Vl) := bnd m fun d => bnd ms fun vs => ret (.d d :: vs)
def vO (m : M O) (ms : M (List Vl)) : M (List Vl) := bnd m fun o => bnd ms fun vs => ret (.o o :: vs)
section
variable {X : Cx} {C : Addr} {W : WX} {e b a : Expr} {es : List Expr} {md : M D} {mo : M O} {ms : M (List Vl)} {pos p : Pos}
def setV (i : Nat) : Vl → M Unit
  | .d d => setI i d
  | .o o => setO i o
  | .t r ns => fun env Q _ => match env[i]? with
    | some (.io _ _) => False
    | some _ => Q () (env.set i (.tr r ns))
    | none => False
def setVs : List Nat → List Vl → M Unit
  | [], [] => ret ()
  | i :: is, v :: vs => bnd (setV i v) fun _ => setVs is vs
  | _, _ => fail
def parM (is : List Nat) (ms : M (List Vl)) : M Fl := bnd ms fun vs => bnd (setVs is vs) fun _ => ret .nx
end
end DL
set_option Elab.async false
set_option linter.all false
set_option maxRecDepth 100000
set_option maxHeartbeats 2000000
namespace DL
open PySem PySem.Spec PyProof.Rows L2
variable [Tbs]
def asS : O → M ((Int → Bool) × Nat)
  | .set S n => ret (S, n)
  | _ => fail
def oset (i : Nat) : M ((Int → Bool) × Nat) := bnd (getO i) asS
def addS (S : Int → Bool) (k : Int) : Int → Bool := fun j => S j || decide (j = k)
section
variable {X : Cx} {C : Addr} {W : WX} {a b c e : Expr} {es : List Expr} {ma mb mc : M D} {pos apos cpos p : Pos} {i : Nat}
/-- own.add(k) -/
def oaddM (i : Nat) (mb : M D) : M D := bnd (oset i) fun _ => bnd mb fun d => bnd (oset i) fun s => match d with
  | .int k => ask (s.2 + 1 < scanBound) (bnd (putO i (.set (addS s.1 k) (if s.1 k = true then s.2 else s.2 + 1))) fun _ => ret .non)
  | _ => fail
/-- k in own -/
def osinM (neg : Bool) (ma : M D) (i : Nat) : M D := bnd (getO i) fun _ => bnd ma fun x => bnd (oset i) fun s => match x with
  | .int k => ret (.bl (if neg then !s.1 k else s.1 k))
  | _ => fail
def asT : D → M (List D)
  | .tup ds => ret ds
  | _ => fail
def idxL (ds : List D) (b : D) : M D := ask (flatD b = true ∧ ds.all flatD = true ∧ (ds.any fun d => eqv d b) = true) (ret (.int (ds.findIdx fun d => eqv d b : Nat)))
def tidxM (ma mb : M D) : M D := bnd ma fun x => bnd (asT x) fun ds => bnd mb fun y => idxL ds y
end
end DL
set_option Elab.async false
set_option linter.all false
set_option maxRecDepth 100000
set_option maxHeartbeats 2000000
namespace DL
open PySem PySem.Spec PyProof.Rows L2
variable [Tbs]
inductive CT where
  | int | bool | tuple | str | list | bytes | hall
inductive TK where
  | non | bl | int | str | byt | tup | lst | dict | hall
def CT.is : CT → TK → Bool
  | .int, .int => true | .int, .bl => true | .bool, .bl => true | .tuple, .tup => true | .str, .str => true | .list, .lst => true | .bytes, .byt => true | .hall, .hall => true
  | _, _ => false
def D.kind : D → Option TK
  | .non => some .non | .bl _ => some .bl | .int _ => some .int | .str _ => some .str | .byt _ => some .byt | .tup _ => some .tup | .pr _ => some .tup | .lst _ => some .lst | .hall _ _ => some .hall | .scr _ => none | .emp => some .dict | .exn _ _ _ => none | .dct _ _ => none | .fn _ => none | .dcn _ _ => none
def isiD (c : CT) (d : D) : M D := match d.kind with
  | some t => ret (.bl (c.is t))
  | none => fail
section
variable {X : Cx} {C : Addr} {W : WX} {a b c e : Expr} {es : List Expr} {ma mb mc md : M D} {pos apos cpos p : Pos} {i : Nat}
def hgM : D → M D
  | .hall g _ => ret (.int g)
  | _ => fail
def hsM : D → M D
  | .hall _ s => ret (.int s)
  | _ => fail
/-- hall.m() -/
def hcallM (df : DF) : D → M Res
  | .hall g s => callD df [.hall g s]
  | _ => fail
variable {k n : Nat} {f : Addr} {fd : FuncData} {ps ks : List Str} {df : DF} {x m : Str} {kws : List Keyword} {ms mk : M (List D)} {o : Expr}
def putFD (f : Str) (v : D) : List (Str × D) → List (Str × D)
  | [] => [(f, v)]
  | (g, x) :: r => if g = f then (g, v) :: r else (g, x) :: putFD f v r
theorem FsR.len {G : Gx} {F : Addr → Prop} {H : Hp} : ∀ {fs : List (Str × D)} {l : List (Str × V)}, FsR G F H fs l → fs.length = l.length
  | [], _, h => by cases (show _ = _ from h); rfl
  | (g, x) :: r, _, ⟨w, l', e, h1, h2⟩ => by subst e; rw [List.length_cons, List.length_cons, FsR.len h2]
def asI (C : Addr) : O → M (List (Str × D))
  | .ins cl fs => ask (cl = C) (ret fs)
  | _ => fail
def oins (C : Addr) (i : Nat) : M (List (Str × D)) := bnd (getO i) (asI C)
/-- own.f = value -/
def fsetM (C : Addr) (i : Nat) (f : Str) (md : M D) : M Fl := bnd md fun d => bnd (oins C i) fun fs => ask (fs.length < 1000) (bnd (putO i (.ins C (putFD f d fs))) fun _ => ret .nx)
end
end DL
set_option Elab.async false
set_option linter.all false
set_option maxRecDepth 100000
set_option maxHeartbeats 2000000
namespace DL
open PySem PySem.Spec PyProof.Rows L2
variable [Tbs]
def mkM (C : Addr) (n m : Nat) (gD : List D → List D → List D) (df : DF) (ds es : List D) : M O := fun env Q E => ds.length = n ∧ es.length = m ∧ ∀ a, df (.io a (.ins C []) :: (gD ds es).map .im)
  (fun (r : Res) (ss : List Slot) => match r with
    | .d .non => (match ss[0]? with
      | some (Slot.io _ o) => Q o env
      | _ => False)
    | _ => False) (fun x _ => E x env)
section
variable {X : Cx} {C C' : Addr} {W : WX} {a b c e : Expr} {es : List Expr} {ms mz : M (List D)} {pos apos cpos p : Pos} {i : Nat}
variable {k n j : Nat} {f : Addr} {fd : FuncData} {ps ks : List Str} {df : DF} {x : Str} {kws : List Keyword}
variable {gD : List D → List D → List D} {g : List Value → List Value → List Value} {gV gT : List V → List V → List V}
/-- a Hall that nobody writes any more -/
def hallOf : O → Option (Addr × Str × Int × Str × Int)
  | .ins cl [(f1, .int g), (f2, .int s)] => some (cl, f1, g, f2, s)
  | _ => none
def hallM (C : Addr) (o : O) : M D := match hallOf o with
  | some (cl, f1, g, f2, s) => ask (cl = C ∧ f1 = "guests" ∧ f2 = "spare") (ret (.hall g s))
  | none => fail
end
end DL
set_option Elab.async false
set_option linter.all false
set_option maxRecDepth 100000
set_option maxHeartbeats 2000000
namespace DL
open PySem PySem.Spec PyProof.Rows L2
variable [Tbs]
/-- fit to be shown -/
def shOk (d : PyData) : Bool := d.showable && !d.hasDict && decide (d.depth ≤ 64) && d.leavesShort 13 && decide (d.bulk ≤ 2 ^ 20)
def compD : D → Bool
  | .tup _ => true
  | .lst _ => true
  | _ => false
end DL
set_option Elab.async false
set_option linter.all false
set_option maxRecDepth 100000
set_option maxHeartbeats 2000000
namespace DL
open PySem PySem.Spec PyProof.Rows L2
end DL
set_option Elab.async false
set_option linter.all false
set_option maxRecDepth 100000
set_option maxHeartbeats 2000000
namespace DL
open PySem PySem.Spec PyProof.Rows L2
variable [Tbs]
/-- the items at the places idx of us ++ ws -/
def pick {α : Type} (idx : List Nat) (us ws : List α) : List α := idx.filterMap fun i => (us ++ ws)[i]?
section
variable {X : Cx} {C : Addr} {W : WX} {a b c e : Expr} {es : List Expr} {ma mb mc md : M D} {ms : M (List D)} {pos apos cpos p p2 : Pos} {i : Nat}
/-- -a -/
def negD : D → M D
  | .int i => ret (.int (-i))
  | _ => fail
/-- tuple(own) -/
def otupM (i : Nat) : M D := bnd (olist i) fun ds => ret (.tup ds)
/-- tuple(range(a)), list(range(a)) -/
def smallN (j : Int) : Prop := -(2 ^ 62) ≤ j ∧ j ≤ 16777216
def tRgM (ma : M D) : M D := bnd ma fun d => match d with
  | .int j => ask (smallN j) (ret (.tup (rangeL 0 j)))
  | _ => fail
def lRgM (ma : M D) : M O := bnd ma fun d => match d with
  | .int j => ask (smallN j) (ret (.lst (rangeL 0 j)))
  | _ => fail
/-- an own name read as a datum: nobody writes it from here on -/
def frzV (i : Nat) : M D := fun env Q _ => match env[i]? with
  | some (.ow (.lst ds)) => Q (.lst ds) (env.set i (.im (.lst ds)))
  | some (.ow (.dcn kvs)) => Q (dcnD kvs) (env.set i (.im (dcnD kvs)))
  | some (.im d) => Q d env
  | _ => False
end
end DL
set_option Elab.async false
set_option linter.all false
set_option maxRecDepth 100000
set_option maxHeartbeats 2000000
namespace DL
open PySem PySem.Spec PyProof.Rows L2
variable [Tbs]
def keyD : D → M Key
  | .int i => ret (.inl i)
  | .str s => ret (.inr s)
  | _ => fail
def putD (kvs : List (Key × D)) (k : Key) (v : D) : List (Key × D) :=
  if (kvs.any fun kv => decide (kv.1 = k)) = true then kvs.map (fun kv => if kv.1 = k then (kv.1, v) else kv) else kvs ++ [(k, v)]
def valD (kvs : List (Key × D)) (k : Key) : Option D := (kvs.find? fun kv => decide (kv.1 = k)).map (·.2)
section
variable {G : Gx} {W : WX} {B F : Addr → Prop} {σ : L2.St} {H : Hp} {env : List Slot} {α β γ δ : Type}
variable {R : (Addr → Prop) → (Addr → Prop) → List Slot → L2.St → Hp → γ → δ → Prop} {Q : δ → Hp → Prop} {i : Nat} {a : Addr} {o o' : O}
theorem KvR.length : ∀ {kvs : List (Key × D)} {l : List (Key × V)}, KvR G F H kvs l → kvs.length = l.length
  | [], _, h => by cases (show _ = _ from h); rfl
  | (k, d) :: r, _, ⟨v, l', e, h1, h2⟩ => by subst e; simp [KvR.length h2]
theorem KvR.any : ∀ {kvs : List (Key × D)} {l : List (Key × V)} (k : Key), KvR G F H kvs l → (kvs.any fun kv => decide (kv.1 = k)) = (l.any fun kv => decide (kv.1 = k))
  | [], _, k, h => by cases (show _ = _ from h); rfl
  | (k', d) :: r, _, k, ⟨v, l', e, h1, h2⟩ => by subst e; rw [List.any_cons, List.any_cons, KvR.any k h2]
theorem KvR.append : ∀ {kvs ks : List (Key × D)} {l m : List (Key × V)}, KvR G F H kvs l → KvR G F H ks m → KvR G F H (kvs ++ ks) (l ++ m)
  | [], _, _, _, h, h' => by cases (show _ = _ from h); exact h'
  | (k, d) :: r, _, _, _, ⟨v, l', e, h1, h2⟩, h' => by subst e; exact ⟨v, _, rfl, h1, KvR.append h2 h'⟩
theorem KvR.val : ∀ {kvs : List (Key × D)} {l : List (Key × V)} (k : Key), KvR G F H kvs l → match valD kvs k with
    | some d => ∃ v, valV l k = some v ∧ Rp G F H d v
    | none => valV l k = none
  | [], _, k, h => by cases (show _ = _ from h); rfl
  | (k', d') :: r, _, k, ⟨v', l', e, h1, h2⟩ => by
    subst e
    by_cases z : k' = k
    · have e1 : valD ((k', d') :: r) k = some d' := by unfold valD; rw [List.find?_cons, decide_eq_true z]; rfl
      rw [e1]
      exact ⟨v', valV_pos z, h1⟩
    · have e1 : valD ((k', d') :: r) k = valD r k := by unfold valD; rw [List.find?_cons, decide_eq_false z]
      rw [e1, valV_neg (p := (k', v')) z]
      exact KvR.val k h2
def asDi : O → M (List (Key × D))
  | .dic kvs => ret kvs
  | _ => fail
def odic (i : Nat) : M (List (Key × D)) := bnd (getO i) asDi
end
section
variable {X : Cx} {C : Addr} {W : WX} {a b c : Expr} {es : List Expr} {ma mb mc : M D} {ms : M (List D)} {pos apos cpos p : Pos} {i : Nat}
def atD (kvs : List (Key × D)) (k : Key) : M D := match valD kvs k with
  | some d => ret d
  | none => fail
/-- own[b] of a dict -/
def odixM (i : Nat) (mb : M D) : M D := bnd (odic i) fun _ => bnd mb fun d => bnd (odic i) fun kvs => bnd (keyD d) (atD kvs)
/-- k in own dict -/
def odinM (neg : Bool) (ma : M D) (i : Nat) : M D := bnd (getO i) fun _ => bnd ma fun d => bnd (odic i) fun kvs => bnd (keyD d) fun k => ret (.bl (if neg then !(valD kvs k).isSome else (valD kvs k).isSome))
end
end DL
set_option Elab.async false
set_option linter.all false
set_option maxRecDepth 100000
set_option maxHeartbeats 2000000
namespace DL
open PySem PySem.Spec PyProof.Rows L2
variable [Tbs]
/-- rising, by insertion -/
def insI (i : Int) : List Int → List Int
  | [] => [i]
  | j :: l => if i ≤ j then i :: j :: l else j :: insI i l
def sortI : List Int → List Int
  | [] => []
  | i :: l => insI i (sortI l)
def sortD : D → M D
  | .lst ds => match intsOf ds with
    | some ns => ret (.lst ((sortI ns).map .int))
    | none => fail
  | .tup ds => match intsOf ds with
    | some ns => ret (.lst ((sortI ns).map .int))
    | none => fail
  | _ => fail
/-- max, min of a list of ints -/
def maxI : List Int → Int
  | [] => 0
  | [i] => i
  | i :: j :: l => max i (maxI (j :: l))
def max1D : D → M D
  | .lst ds => match intsOf ds with
    | some ns => ask (0 < ns.length) (ret (.int (maxI ns)))
    | none => fail
  | _ => fail
end DL
namespace DL
open PySem PySem.Spec PyProof.Rows L2
variable [Tbs]
section
variable {X : Cx} {C : Addr} {W : WX} {e : Expr} {ms : M (List D)} {pos p : Pos} {m : M Fl} {body : List Stmt} {h0 : ExceptHandler} {hs : List ExceptHandler}
def un1O (k : D → M O) (ds : List D) : M O := match ds with
  | [d] => k d
  | _ => fail
/-- a try whose body raises nothing -/
def tryM (m : M Fl) : M Fl := fun env Q _ => m env Q (fun _ _ => False)
end
end DL
set_option Elab.async false
set_option linter.all false
set_option maxRecDepth 100000
set_option maxHeartbeats 2000000
namespace DL
open PySem PySem.Spec PyProof.Rows L2
variable [Tbs]
section
variable {X : Cx} {C : Addr} {W : WX} {a b c e : Expr} {es : List Expr} {ma mb mc : M D} {ms : M (List D)} {pos apos cpos p : Pos} {i : Nat}
/-- tuple(own), also of one that is a datum by now -/
def otupV (i : Nat) : M D := fun env Q _ => match env[i]? with
  | some (.ow (.lst ds)) => Q (.tup ds) env
  | some (.io _ (.lst ds)) => Q (.tup ds) env
  | some (.im (.lst ds)) => Q (.tup ds) env
  | some (.im (.tup ds)) => Q (.tup ds) env
  | _ => False
end
end DL
set_option Elab.async false
set_option linter.all false
set_option maxRecDepth 100000
set_option maxHeartbeats 2000000
namespace DL
open PySem PySem.Spec PyProof.Rows L2
variable [Tbs]
/-- t[::-1] of a pair -/
def backM (ma : M D) : M D := bnd ma fun d => match d with
  | .tup [a, b] => ret (.tup [b, a])
  | _ => fail
end DL
set_option Elab.async false
set_option linter.all false
set_option maxRecDepth 100000
set_option maxHeartbeats 2000000
namespace DL
open PySem PySem.Spec PyProof.Rows L2
variable [Tbs]
def pairsOf : List D → Option (List (Key × D))
  | [] => some []
  | .tup [.int i, d] :: ds => (pairsOf ds).map ((.inl i, d) :: ·)
  | .tup [.str i, d] :: ds => (pairsOf ds).map ((.inr i, d) :: ·)
  | _ :: _ => none
def mergeD (kvs more : List (Key × D)) : List (Key × D) := more.foldl (fun acc kv => putD acc kv.1 kv.2) kvs
/-- dict(t) of a tuple of pairs, to be owned -/
def dictO : D → M O
  | .tup ds => match pairsOf ds with
    | some kvs => ret (.dic (mergeD [] kvs))
    | none => fail
  | _ => fail
end DL
namespace DL
open PySem PySem.Spec PyProof.Rows L2
variable [Tbs]
def maxTD : D → M D
  | .tup ds => match intsOf ds with
    | some (n :: ns) => ret (.int (ns.foldl max n))
    | _ => fail
  | _ => fail
end DL
namespace DL
open PySem PySem.Spec PyProof.Rows L2
end DL
set_option Elab.async false
set_option linter.all false
set_option maxRecDepth 100000
set_option maxHeartbeats 2000000
namespace DL
open PySem PySem.Spec PyProof.Rows L2
end DL
set_option Elab.async false
set_option linter.all false
set_option maxRecDepth 100000
set_option maxHeartbeats 2000000
namespace DL
open PySem PySem.Spec PyProof.Rows L2
variable [Tbs]
def oidxM (i : Nat) (mb : M D) : M D := bnd (olist i) fun _ => bnd mb fun d => bnd (olist i) fun ds => idxL ds d
end DL
set_option Elab.async false
set_option linter.all false
set_option maxRecDepth 100000
set_option maxHeartbeats 2000000
namespace DL
open PySem PySem.Spec PyProof.Rows L2
end DL
set_option Elab.async false
set_option linter.all false
set_option maxRecDepth 100000
set_option maxHeartbeats 2000000
namespace DL
open PySem PySem.Spec PyProof.Rows L2
variable [Tbs]
section
variable {X : Cx} {C : Addr} {W : WX} {o e : Expr} {md : M D} {p pos p2 pos2 : Pos} {k : Nat} {f : Addr} {fd : FuncData} {ps : List Str} {df : DF}
def lenR : Res → M D
  | .d (.int n) => ask (0 ≤ n ∧ n < 2 ^ 63) (ret (.int n))
  | _ => fail
/-- len(range(e)) -/
def lenRg : D → M D
  | .int n => ask (-(2 ^ 62) ≤ n ∧ n < 2 ^ 62) (ret (.int (if 0 < n then n else 0)))
  | _ => fail
end
end DL
set_option Elab.async false
set_option linter.all false
set_option maxRecDepth 100000
set_option maxHeartbeats 2000000
namespace DL
open PySem PySem.Spec PyProof.Rows L2
variable [Tbs]
/-- the built-in at an own exception class's end -/
inductive Bt where
  | ve | le | ae
section
variable {X : Cx} {C C0 fI : Addr} {b : Bt} {f x : Str} {e : Expr} {te : TE} {k : Nat} {fd : FuncData} {ps : List Str} {p pos pos2 : Pos} {W : WX} {m : M D}
def one (k : V → Hp → Prop) (vs : List V) (H : Hp) : Prop := match vs with
  | [y] => k y H
  | _ => False
end
end DL
set_option Elab.async false
set_option linter.all false
set_option maxRecDepth 100000
set_option maxHeartbeats 2000000
namespace DL
open PySem PySem.Spec PyProof.Rows L2
variable [Tbs]
def exnD (x : Exn) : D := match x.fld with
  | none => .exn x.cls "" []
  | some (f, y) => .exn x.cls f [y]
/-- the exception at a is held -/
def HotA (F : Addr → Prop) (H : Hp) (a : Addr) : Prop := F a ∧ ∃ cls d, ExAt H a cls d
end DL
set_option Elab.async false
set_option linter.all false
set_option maxRecDepth 100000
set_option maxHeartbeats 2000000
namespace DL
open PySem PySem.Spec PyProof.Rows L2
variable [Tbs]
/-- room where something is handled -/
structure RoomX (k : Nat) (A : Around) : Prop where
  dp : A.depth + 3 * k + 5 < recursionLimit
  un : A.units + 16 * k + 200 < cLine
theorem RoomX.mono {j k : Nat} {A : Around} (r : RoomX k A) (h : j ≤ k) : RoomX j A := ⟨by have := r.dp; omega, by have := r.un; omega⟩
theorem RoomX.units {k : Nat} {A : Around} (r : RoomX k A) : A.units + 200 < cLine := by have := r.un; omega
/-- the handled exception is known -/
def HdA (A : Around) (H : Hp) : Prop := ∃ a cls d, A.handled = some (.ref a) ∧ ExAt H a cls d
/-- .. all through a def's run -/
def HotX (X : Cx) : Prop := HdA X.A X.H_0
theorem HotX.at_ {X : Cx} {pins : List (Addr × Obj)} {σ : L2.St} {H : Hp} {s : Shared} (h : HotX X) (I : Inv X pins σ H s) : ∃ x1, X.A.handled = some (.ref x1) ∧ (s.heap.get? x1 = none → False) ∧ ∀ p, s.heap.get? p = none → DLz.HotAt X.A x1 p s.heap := by
  obtain ⟨a, cls, d, hh, oe, vs, c, e, _, _, e3, e4, ch⟩ := h
  have at_ := (I.hok a _ (I.base.frzs a _ _ e)).1
  exact ⟨a, hh, fun z => (by rw [z] at at_; cases at_), fun p np => ⟨hh, oe, vs, c, at_, e3, e4, (ch.mono I.base.frzs).here (fun b ob z => (I.hok b _ z).1) np⟩⟩
theorem HotA.mono {B F F' : Addr → Prop} {H H' : Hp} {a : Addr} (s : Stp B F H F' H') (h : HotA F H a) : HotA F' H' a := ⟨s.fm a h.1, let ⟨c, d, e⟩ := h.2; ⟨c, d, e.mono s h.1⟩⟩
end DL
set_option Elab.async false
set_option linter.all false
set_option maxRecDepth 100000
set_option maxHeartbeats 2000000
namespace DL
open PySem PySem.Spec PyProof.Rows L2
end DL
set_option Elab.async false
set_option linter.all false
set_option maxRecDepth 100000
set_option maxHeartbeats 2000000
namespace DL
open PySem PySem.Spec PyProof.Rows L2
end DL
set_option Elab.async false
set_option linter.all false
set_option maxRecDepth 100000
set_option maxHeartbeats 2000000
namespace DL
open PySem PySem.Spec PyProof.Rows L2
end DL
set_option Elab.async false
set_option linter.all false
set_option maxRecDepth 100000
set_option maxHeartbeats 2000000
namespace DL
open PySem PySem.Spec PyProof.Rows L2
end DL
set_option Elab.async false
set_option linter.all false
set_option maxRecDepth 100000
set_option maxHeartbeats 2000000
namespace DL
open PySem PySem.Spec PyProof.Rows L2
end DL
set_option Elab.async false
set_option linter.all false
set_option maxRecDepth 100000
set_option maxHeartbeats 2000000
namespace DL
open PySem PySem.Spec PyProof.Rows L2
variable [Tbs]
section
variable {G : Gx} {W : WX} {B F : Addr → Prop} {σ : L2.St} {H : Hp} {env : List Slot}
theorem Pt.emp {p : Addr} {Q : V → Hp → Prop} (h : Pt G W (RD G) σ H Q (ret .emp) B F env) (hp : H p = none) : Q (.ref p) (upd H p (.dK [])) := by
  obtain ⟨Qd, Ed, rel, hm, hq, he⟩ := h
  exact hq _ env _ (fun a => F a ∨ a = p) _ hm (stp_newF hp (rel.notB hp)) (rel.newF hp) ⟨p, rfl, .inr rfl, upd_same⟩
end
mutual
def pyE : D → PyData
  | .non => .none | .bl b => .bool b | .int i => .int i | .str s => .str s
  | .tup xs => .tuple (pyEL xs) | .lst xs => .list (pyEL xs)
  | .emp => .dict []
  | _ => .none
def pyEL : List D → List PyData
  | [] => []
  | x :: xs => pyE x :: pyEL xs
end
mutual
def okD : D → Bool
  | .non => true | .bl _ => true | .int _ => true | .str _ => true
  | .tup xs => okDL xs
  | .emp => true
  | _ => false
def okDL : List D → Bool
  | [] => true
  | x :: xs => okD x && okDL xs
end
mutual
theorem pyE_eq : ∀ d : D, pyOk d = true → pyE d = py d
  | .non, _ => rfl
  | .bl _, _ => rfl
  | .int _, _ => rfl
  | .str _, _ => rfl
  | .byt _, e => by cases e
  | .hall _ _, e => by cases e
  | .scr _, e => by cases e
  | .emp, e => by cases e
  | .exn _ _ _, e => by cases e
  | .dct _ _, e => by cases e
  | .fn _, e => by cases e
  | .dcn _ _, e => by cases e
  | .pr _, e => by cases e
  | .tup ds, h => by
    show PyData.tuple (pyEL ds) = .tuple (pyL ds)
    rw [pyEL_eq ds (by simpa [pyOk] using h)]
  | .lst ds, h => by
    show PyData.list (pyEL ds) = .list (pyL ds)
    rw [pyEL_eq ds (by simpa [pyOk] using h)]
theorem pyEL_eq : ∀ ds : List D, pyOkL ds = true → pyEL ds = pyL ds
  | [], _ => rfl
  | d :: ds, h => by
    have q' : pyOk d = true ∧ pyOkL ds = true := by simpa [pyOkL] using h
    show pyE d :: pyEL ds = py d :: pyL ds
    rw [pyE_eq d q'.1, pyEL_eq ds q'.2]
end
/-- a tuple whose parts are fit, each for itself -/
def okT : D → Bool
  | .tup ds => ds.all fun e => pyOk e || okD e
  | _ => false
/-- kept by data of a kind that has an address -/
def compE : D → Bool
  | .tup _ => true
  | .lst _ => true
  | .emp => true
  | _ => false
def shOkE (d : PyData) : Bool := d.showable && decide (d.depth ≤ 64) && d.leavesShort 40 && decide (d.bulk ≤ 2 ^ 16)
theorem shown_fitsE {d : PyData} (h : d.leavesShort 40 = true) (b : d.bulk ≤ 2 ^ 16) : d.shown.length ≤ sizeLine := by
  have := PyData.shown_le_bulk 40 (by decide) d h
  rw [sizeLine_eq]
  omega
/-- repr of data of any kind -/
def reprE (d : D) : M D := match d with
  | .non => ret (.str "None")
  | .bl b => ret (.str (if b then "True" else "False"))
  | .int i => ask (i.natAbs.log2 < 1920) (ret (.str (toString i : String)))
  | .str x => ask ((reprText x).length ≤ sizeLine) (ret (.str (reprText x)))
  | d => ask (compE d = true ∧ ((pyOk d = true ∧ shOk (py d) = true) ∨ (okD d = true ∧ shOkE (pyE d) = true) ∨ (pyOk d = true ∧ (py d).hasDict = false ∧ shOkE (py d) = true) ∨ (okT d = true ∧ shOkE (pyE d) = true))) (ret (.str (pyE d).shown))
end DL
set_option Elab.async false
set_option linter.all false
set_option maxRecDepth 100000
set_option maxHeartbeats 2000000
namespace DL
open PySem PySem.Spec PyProof.Rows L2
variable [Tbs]
section
variable {G : Gx} {W : WX} {B F : Addr → Prop} {σ : L2.St} {H : Hp} {env : List Slot}
theorem own_app {x : Option V} {o : O} {i : Nat} {a : Addr} (l : env.length = σ.length) (h : OwnAt (env ++ [.ow o]) (σ ++ [x]) i a) : OwnAt env σ i a ∨ (i = env.length ∧ x = some (.ref a)) := by
  obtain ⟨t, e, z⟩ := own_feet.mp h
  by_cases hi : i < env.length
  · rw [List.getElem?_append_left hi] at e
    rw [List.getElem?_append_left (by omega)] at z
    exact .inl (own_feet.mpr ⟨t, e, z⟩)
  · have := (List.getElem?_eq_some_iff.mp e).1
    rw [List.length_append, List.length_cons, List.length_nil] at this
    have ei : i = env.length := by omega
    subst ei
    have et : t = .ow o := by simpa using e.symm
    subst et
    have z := (feet_root z fun _ _ z => nomatch z).2
    rw [l] at z
    refine .inr ⟨rfl, ?_⟩
    simpa using z
theorem Rel.push (rel : Rel G B F σ env H) {a : Addr} {o : O} (hw : OwAt G F H a o) (nF : ¬ F a) (nB : ¬ B a) (no : ∀ i, ¬ OwnAt env σ i a) : Rel G B F (σ ++ [some (.ref a)]) (env ++ [.ow o]) H := by
  refine ⟨by rw [List.length_append, List.length_append, rel.len]; rfl, fun i s e => ?_, fun i j b h1 h2 => ?_, rel.hB, rel.hF, rel.tb⟩
  · by_cases hi : i < env.length
    · rw [List.getElem?_append_left hi] at e
      rw [List.getElem?_append_left (by rw [← rel.len]; exact hi)]
      exact rel.sl i s e
    · have := (List.getElem?_eq_some_iff.mp e).1
      rw [List.length_append, List.length_cons, List.length_nil] at this
      have ei : i = env.length := by omega
      subst ei
      simp at e
      subst e
      exact ⟨a, by rw [rel.len]; simp, nF, nB, hw⟩
  · rcases own_app rel.len h1 with h1 | ⟨e1, z1⟩ <;> rcases own_app rel.len h2 with h2 | ⟨e2, z2⟩
    · exact rel.ap i j b h1 h2
    · cases z2; exact absurd h1 (no i)
    · cases z1; exact absurd h2 (no j)
    · rw [e1, e2]
end
section
variable {X : Cx} {C : Addr} {W : WX} {e o : Expr} {es : List Expr} {p pos apos : Pos} {k n : Nat} {f : Addr} {fd : FuncData} {ps : List Str} {df : DF} {x : Str} {mo : M O} {ma mb md : M D}
def catTo (acc : Str) (k : Str → M D) (d : D) : M D := match d with
  | .str y => ask ((acc ++ y).length ≤ sizeLine) (k (acc ++ y))
  | _ => fail
def joinM : List (M D) → Str → M D
  | [], acc => ret (.str acc)
  | m :: ms, acc => bnd m (catTo acc (joinM ms))
def strR : Res → M D
  | .d (.str s) => ret (.str s)
  | _ => fail
end
end DL
set_option Elab.async false
set_option linter.all false
set_option maxRecDepth 100000
set_option maxHeartbeats 2000000
namespace DL
open PySem PySem.Spec PyProof.Rows L2
variable [Tbs]
section
variable {X : Cx} {C : Addr} {W : WX} {e h e2 : Expr} {a : Addr} {mh : M Res} {md m2 : M D} {pos : Pos} {k1 : Nat}
theorem Pt.rd {G : Gx} {B F : Addr → Prop} {σ : L2.St} {H : Hp} {env : List Slot} {Q : V → Hp → Prop} {x : D} (h : Pt G W (RRs G) σ H Q (ret (.d x)) B F env) : Pt G W (RD G) σ H Q (ret x) B F env := by
  obtain ⟨Qd, Ed, rel, hm, hq, he⟩ := h
  exact ⟨fun d env' => Qd (.d d) env', Ed, rel, hm, fun d env' v F' H' q st rl r => hq (.d d) env' v F' H' q st rl r, he⟩
end
end DL
set_option Elab.async false
set_option linter.all false
set_option maxRecDepth 100000
set_option maxHeartbeats 2000000
namespace DL
open PySem PySem.Spec PyProof.Rows L2
end DL
set_option Elab.async false
set_option linter.all false
set_option maxRecDepth 100000
set_option maxHeartbeats 2000000
namespace DL
open PySem PySem.Spec PyProof.Rows L2
variable [Tbs]
/-- t[::-1] -/
def turnD (d : D) : M D := match d with
  | .tup ds => ask (ds.length ≤ sizeLine) (ret (.tup ds.reverse))
  | _ => fail
def turnsM (ma : M D) : M D := bnd ma turnD
end DL
set_option Elab.async false
set_option linter.all false
set_option maxRecDepth 100000
set_option maxHeartbeats 2000000
namespace DL
open PySem PySem.Spec PyProof.Rows L2
variable [Tbs]
def txtD (d : D) : M D := match d with
  | .int i => ask (i.natAbs.log2 < 1920) (ret (.str (toString i : String)))
  | .str s => ret (.str s)
  | d => ask (compD d = true ∧ pyOk d = true ∧ shOk (py d) = true) (ret (.str (py d).shown))
end DL
set_option Elab.async false
set_option linter.all false
set_option maxRecDepth 100000
set_option maxHeartbeats 2000000
namespace DL
open PySem PySem.Spec PyProof.Rows L2
end DL
set_option Elab.async false
set_option linter.all false
set_option maxRecDepth 100000
set_option maxHeartbeats 2000000
namespace DL
open PySem PySem.Spec PyProof.Rows L2
variable [Tbs]
section
variable {X : Cx} {C : Addr} {es : List Expr} {t : TGs} {ks : List (D → M Unit)} {pos : Pos}
def setTl (ks : List (D → M Unit)) (d : D) : M Unit := match d with
  | .lst ds => ask (ds.length = ks.length) (setKs ks ds)
  | _ => fail
end
end DL
set_option Elab.async false
set_option linter.all false
set_option maxRecDepth 100000
set_option maxHeartbeats 2000000
namespace DL
open PySem PySem.Spec PyProof.Rows L2
end DL
set_option Elab.async false
set_option linter.all false
set_option maxRecDepth 100000
set_option maxHeartbeats 2000000
namespace DL
open PySem PySem.Spec PyProof.Rows L2
end DL
set_option Elab.async false
set_option linter.all false
set_option maxRecDepth 100000
set_option maxHeartbeats 2000000
namespace HE
open PySem PySem.Spec PyProof.Rows L2
end HE
namespace HE
open PySem PySem.Spec PyProof.Rows L2
end HE
namespace HE
open PySem PySem.Spec PyProof.Rows L2
end HE
namespace DL
open PySem PySem.Spec PyProof.Rows L2 HE
end DL
namespace HE
open PySem PySem.Spec PyProof.Rows L2
section
variable {prog : Program} {w : World} {A : Around} {E : Value → Shared → Prop} {s : Shared} {l x y : Addr} {n : Nat} {items : Array Value} {dd : Option Addr} {sl : Array (Option Value)}
/-- an object of a list of one -/
def one (items : Array Value) (n : Nat) (dd : Option Addr) (sl : Array (Option Value)) : Obj := { cls := .type "list", dict := dd, data := .seq items n, slots := sl }
end
end HE
namespace HE
open PySem PySem.Spec PyProof.Rows L2
end HE
namespace DL
open PySem PySem.Spec PyProof.Rows L2 HE
end DL
set_option Elab.async false
set_option linter.all false
set_option maxRecDepth 100000
set_option maxHeartbeats 2000000
namespace DL
open PySem PySem.Spec PyProof.Rows L2
end DL
set_option Elab.async false
set_option linter.all false
set_option maxRecDepth 100000
set_option maxHeartbeats 2000000
namespace DL
open PySem PySem.Spec PyProof.Rows L2
end DL
set_option Elab.async false
set_option linter.all false
set_option maxRecDepth 100000
set_option maxHeartbeats 2000000
namespace DL
open PySem PySem.Spec PyProof.Rows L2
end DL
set_option Elab.async false
set_option linter.all false
set_option maxRecDepth 100000
set_option maxHeartbeats 2000000
namespace DL
open PySem PySem.Spec PyProof.Rows L2
variable [Tbs]
def revD (d : D) : M D := match d with
  | .lst ds => ret (.lst ds.reverse)
  | _ => fail
def revM (ma : M D) : M D := bnd ma revD
end DL
set_option Elab.async false
set_option linter.all false
set_option maxRecDepth 100000
set_option maxHeartbeats 2000000
namespace DL
open PySem PySem.Spec PyProof.Rows L2
/-- the objects that an object names, code objects' own parts left out -/
def refsH (o : Obj) : List Addr := match o.data with
  | .fields _ => []
  | .func fd => He.refsO o ++ He.refV fd.kwdefaults
  | _ => He.refsO o
def growH (g : Addr → Option Obj) (as : List Addr) : List Addr := (as ++ as.flatMap fun a => match g a with
  | some o => refsH o
  | none => []).eraseDups
def asH (g : Addr → Option Obj) : Nat → List Addr
  | 0 => [mainGlobals, PySem.cStatics]
  | n + 1 => growH g (asH g n)
abbrev AlH : Type := Bool × List He.FnV
def obsK (chk : List (PySem.W.Frag → Bool)) (fn : List He.FnD) (K : PySem.W.Frag) : AlH := ((chk.all fun f => f K) && fn.all fun d => (He.Fa.code d.at_ d.qual).ok K, fn.map fun d => He.fnObs K d.at_)
def valK (fn : List He.FnD) : AlH := (true, fn.map He.FnD.val)
def SaysK (chk : List (PySem.W.Frag → Bool)) (fn : List He.FnD) (K : PySem.W.Frag) : Prop := obsK chk fn K = valK fn
/-- a name that holds the number i -/
def intB (K : PySem.W.Frag) (x : Str) (i : Int) : Bool := match PySem.W.nsIn K mainGlobals x with
  | some (some (.int j _)) => decide (j = i)
  | _ => false
/-- the dict of a def's defaults by name -/
def kdA (K : PySem.W.Frag) (p : Str × Option Str) : Addr := match K.lookup (He.fAd K p) with
  | some ⟨_, _, .func fd, _⟩ => (match fd.kwdefaults with
    | .ref a => a
    | _ => 0)
  | _ => 0
end DL
set_option Elab.async false
set_option linter.all false
set_option maxRecDepth 100000
set_option maxHeartbeats 2000000
namespace DL
open PySem PySem.Spec PyProof.Rows L2
end DL
set_option Elab.async false
set_option linter.all false
set_option maxRecDepth 100000
set_option maxHeartbeats 2000000
namespace DL
open PySem PySem.Spec PyProof.Rows L2
variable [Tbs]
section
variable {X : Cx} {C : Addr} {W : WX} {n i j : Nat} {x : Str} {p pos : Pos} {e : Expr} {es : List Expr} {kws : List Keyword} {ms mk : M (List D)}
/-- one of these defs -/
def fnOf (tab : List (Str × DF)) : D → Option DF
  | .fn x => (tab.find? fun q => q.1 == x).map (·.2)
  | _ => none
def fnPick (tab : List (Str × DF)) (i : Nat) (m : DF → M Res) : M Res := bnd (dVar i) fun d => match fnOf tab d with
  | some df => m df
  | none => fail
variable {ks : List Str} {gD : List D → List D → List D}
end
end DL
set_option Elab.async false
set_option linter.all false
set_option maxRecDepth 100000
set_option maxHeartbeats 2000000
namespace DL
open PySem PySem.Spec PyProof.Rows L2
variable [Tbs]
mutual
def nkD : D → Option NestedKey
  | .non => some .none
  | .int i => some (.num i)
  | .str s => some (.text s)
  | .tup ds => (nkDs ds).map .tup
  | _ => none
def nkDs : List D → Option (List NestedKey)
  | [] => some []
  | d :: ds => (nkD d).bind fun k => (nkDs ds).map (k :: ·)
end
mutual
theorem KeyR.is {P : Program} {w : World} {F : Addr → Prop} {H : Hp} {h : Heap} (ok : HOk P w H h) : ∀ {k : NestedKey} {v : V} {u : Value}, KeyR F H k v → RelV v u → NestedIs h k u
  | .none, _, _, e, r => by cases (show _ = _ from e); cases (show _ = _ from r); exact .none
  | .num _, _, _, e, r => by cases (show _ = _ from e); obtain ⟨t, e⟩ := (show ∃ t, _ = Value.int _ t from r); subst e; exact .int _ t
  | .text _, _, _, e, r => by cases (show _ = _ from e); obtain ⟨t, e⟩ := (show ∃ t, _ = Value.str _ t from r); subst e; exact .text _ t
  | .tup ks, _, _, ⟨a, vs, e, ⟨_, ob, h1, _⟩, h2⟩, r => by
    subst e
    cases (show _ = Value.ref a from r)
    obtain ⟨hg, _, its, rv, o, g1, g2, n, g3⟩ := ok a _ h1
    exact .tup g1 g2 g3 (by simpa using KeyRL.is ok h2 rv)
theorem KeyRL.is {P : Program} {w : World} {F : Addr → Prop} {H : Hp} {h : Heap} (ok : HOk P w H h) : ∀ {ks : List NestedKey} {vs : List V} {us : List Value}, KeyRL F H ks vs → Vals vs us → NestedAll h ks us
  | [], _, _, e, r => by cases (show _ = _ from e); cases r; exact .nil
  | k :: ks, _, _, ⟨v, l, e, h1, h2⟩, r => by
    subst e
    cases r with
    | cons r1 r2 => exact .cons (KeyR.is ok h1 r1) (KeyRL.is ok h2 r2)
end
abbrev NP : NestedKey × Addr × V → NestedKey × Addr × Value → Prop := fun p q => p.1 = q.1 ∧ p.2.1 = q.2.1 ∧ RelV p.2.2 q.2.2
def valNV (l : List (NestedKey × Addr × V)) (k : NestedKey) : Option V := (l.find? fun p => decide (p.1 = k)).map (·.2.2)
def valN (kvs : List (NestedKey × D)) (k : NestedKey) : Option D := (kvs.find? fun p => decide (p.1 = k)).map (·.2)
def putN (kvs : List (NestedKey × D)) (k : NestedKey) (d : D) : List (NestedKey × D) :=
  if (kvs.any fun p => decide (p.1 = k)) = true then kvs.map (fun p => if p.1 = k then (p.1, d) else p) else kvs ++ [(k, d)]
theorem NPs.val {l : List (NestedKey × Addr × V)} {xs : List (NestedKey × Addr × Value)} (r : Paired NP l xs) (k : NestedKey) : RelO (valNV l k) ((atKey xs k).map (·.2)) := by
  induction r with
  | nil => exact True.intro
  | @cons p q ps qs h t ih =>
    obtain ⟨h1, _, h2⟩ := h
    by_cases e : p.1 = k
    · have e' : q.1 = k := h1.symm.trans e
      have a : valNV (p :: ps) k = some p.2.2 := by simp [valNV, List.find?_cons, e]
      have b : atKey (q :: qs) k = some q.2 := by simp [atKey, List.find?_cons, e']
      rw [a, b]; exact h2
    · have e' : ¬ q.1 = k := fun z => e (h1.trans z)
      have a : valNV (p :: ps) k = valNV ps k := by simp [valNV, List.find?_cons, e]
      have b : atKey (q :: qs) k = atKey qs k := by simp [atKey, List.find?_cons, e']
      rw [a, b]; exact ih
section
variable {G : Gx} {W : WX} {B F : Addr → Prop} {σ : L2.St} {H : Hp} {env : List Slot} {α β γ δ : Type}
variable {R : (Addr → Prop) → (Addr → Prop) → List Slot → L2.St → Hp → γ → δ → Prop} {Q : δ → Hp → Prop} {i : Nat} {a : Addr} {o o' : O}
theorem KnR.length : ∀ {kvs : List (NestedKey × D)} {l : List (NestedKey × Addr × V)}, KnR G F H kvs l → kvs.length = l.length
  | [], _, h => by cases (show _ = _ from h); rfl
  | (k, d) :: r, _, ⟨b, v, l', e, _, _, _, h2⟩ => by subst e; simp [KnR.length h2]
theorem KnR.any : ∀ {kvs : List (NestedKey × D)} {l : List (NestedKey × Addr × V)} (k : NestedKey), KnR G F H kvs l → (kvs.any fun p => decide (p.1 = k)) = (l.any fun p => decide (p.1 = k))
  | [], _, k, h => by cases (show _ = _ from h); rfl
  | (k', d) :: r, _, k, ⟨b, v, l', e, _, _, _, h2⟩ => by subst e; rw [List.any_cons, List.any_cons, KnR.any k h2]
theorem KnR.append : ∀ {kvs ks : List (NestedKey × D)} {l m : List (NestedKey × Addr × V)}, KnR G F H kvs l → KnR G F H ks m → KnR G F H (kvs ++ ks) (l ++ m)
  | [], _, _, _, h, h' => by cases (show _ = _ from h); exact h'
  | (k, d) :: r, _, _, _, ⟨b, v, l', e, dp, hk, h1, h2⟩, h' => by subst e; exact ⟨b, v, _, rfl, dp, hk, h1, KnR.append h2 h'⟩
theorem KnR.val : ∀ {kvs : List (NestedKey × D)} {l : List (NestedKey × Addr × V)} (k : NestedKey), KnR G F H kvs l → match valN kvs k with
    | some d => ∃ v, valNV l k = some v ∧ Rp G F H d v
    | none => valNV l k = none
  | [], _, k, h => by cases (show _ = _ from h); rfl
  | (k', d') :: r, _, k, ⟨b, v', l', e, dp, hk, h1, h2⟩ => by
    subst e
    by_cases z : k' = k
    · have e1 : valN ((k', d') :: r) k = some d' := by unfold valN; rw [List.find?_cons, decide_eq_true z]; rfl
      rw [e1]
      exact ⟨v', by unfold valNV; rw [List.find?_cons, decide_eq_true z]; rfl, h1⟩
    · have e1 : valN ((k', d') :: r) k = valN r k := by unfold valN; rw [List.find?_cons, decide_eq_false z]
      have e2 : valNV ((k', b, v') :: l') k = valNV l' k := by unfold valNV; rw [List.find?_cons, decide_eq_false z]
      rw [e1, e2]
      exact KnR.val k h2
theorem KnR.isSome {kvs : List (NestedKey × D)} {l : List (NestedKey × Addr × V)} (k : NestedKey) (h : KnR G F H kvs l) : (valNV l k).isSome = (valN kvs k).isSome := by
  have z := h.val k
  cases w : valN kvs k with
  | none => simp only [w] at z; rw [z]; rfl
  | some d => simp only [w] at z; obtain ⟨v, hv', _⟩ := z; rw [hv']; rfl
end
/-- a datum as a key -/
def keyN (d : D) : M NestedKey := match d with
  | .tup _ => (match nkD d with
    | some k => ask (k.depth ≤ 8) (ret k)
    | none => fail)
  | _ => fail
def asDn : O → M (List (NestedKey × D))
  | .dcn kvs => ret kvs
  | _ => fail
def odcn (i : Nat) : M (List (NestedKey × D)) := bnd (getO i) asDn
def atN (kvs : List (NestedKey × D)) (k : NestedKey) : M D := match valN kvs k with
  | some d => ret d
  | none => fail
section
variable {X : Cx} {C : Addr} {W : WX} {a b c : Expr} {es : List Expr} {ma mb mc md : M D} {ms : M (List D)} {pos apos cpos tpos p : Pos} {i : Nat}
/-- own[b] -/
def odnixM (i : Nat) (mb : M D) : M D := bnd (odcn i) fun _ => bnd mb fun d => bnd (odcn i) fun kvs => bnd (keyN d) (atN kvs)
/-- k in own dict -/
def odninM (neg : Bool) (ma : M D) (i : Nat) : M D := bnd (getO i) fun _ => bnd ma fun d => bnd (odcn i) fun kvs => bnd (keyN d) fun k => ret (.bl (if neg then !(valN kvs k).isSome else (valN kvs k).isSome))
/-- own[b] = d -/
def odnputM (i : Nat) (mb : M D) (v : D) : M Unit := bnd (odcn i) fun _ => bnd mb fun d => bnd (odcn i) fun kvs => bnd (keyN d) fun j => ask (kvs.length < sizeLine) (putO i (.dcn (putN kvs j v)))
/-- {k: v} -/
def dn1M (ma mb : M D) : M O := bnd ma fun y => bnd mb fun v => bnd (keyN y) fun k => ret (.dcn [(k, v)])
def isDn (x : D) : M Unit := match x with
  | .dcn _ _ => ret ()
  | _ => fail
end
end DL
set_option Elab.async false
set_option linter.all false
set_option maxRecDepth 100000
set_option maxHeartbeats 2000000
namespace DL
open PySem PySem.Spec PyProof.Rows L2
end DL
set_option Elab.async false
set_option linter.all false
set_option maxRecDepth 100000
set_option maxHeartbeats 2000000
namespace DL
open PySem PySem.Spec PyProof.Rows L2
variable [Tbs]
def dictL : D → M O
  | .lst ds => match pairsOf ds with
    | some kvs => ret (.dic (mergeD [] kvs))
    | none => fail
  | _ => fail
end DL
set_option Elab.async false
set_option linter.all false
set_option maxRecDepth 100000
set_option maxHeartbeats 2000000
namespace DL
open PySem PySem.Spec PyProof.Rows L2
variable [Tbs]
def nodeT (ns : List (Addr × R1)) (b : Addr) : Option R1 := (ns.find? fun p => decide (p.1 = b)).map (·.2)
def updT (ns : List (Addr × R1)) (b : Addr) (n : R1) : List (Addr × R1) := ns.map fun p => if p.1 = b then (b, n) else p
def getT (i : Nat) : M (Addr × List (Addr × R1)) := fun env Q _ => match env[i]? with
  | some (.tr r ns) => Q (r, ns) env
  | _ => False
def putT (i : Nat) (ns : List (Addr × R1)) : M Unit := fun env Q _ => match env[i]? with
  | some (.tr r _) => Q () (env.set i (.tr r ns))
  | _ => False
def asRl : Option R1 → M (List E1)
  | some (.lst xs) => ret xs
  | _ => fail
def dsE : List E1 → Option (List D)
  | [] => some []
  | .d x :: r => (dsE r).map (x :: ·)
  | .k _ :: _ => none
section
variable {G : Gx} {W : WX} {B F : Addr → Prop} {σ : L2.St} {H : Hp} {env : List Slot} {α β γ δ : Type}
variable {R : (Addr → Prop) → (Addr → Prop) → List Slot → L2.St → Hp → γ → δ → Prop} {Q : δ → Hp → Prop} {i : Nat}
theorem Pt.getT {k : Addr × List (Addr × R1) → M γ} (h : Pt G W R σ H Q (bnd (DL.getT i) k) B F env) : ∃ r ns, σ[i]? = some (some (.ref r)) ∧ env[i]? = some (.tr r ns) ∧ Tree G B F H r ns ∧ Pt G W R σ H Q (k (r, ns)) B F env := by
  obtain ⟨Qd, Ed, rel, hm, hq, he⟩ := h
  have hm : DL.getT i env (fun o env' => k o env' Qd Ed) Ed := hm
  unfold DL.getT at hm
  cases q : env[i]? with
  | none => rw [q] at hm; exact hm.elim
  | some s =>
    rw [q] at hm
    cases s with
    | tr r ns =>
      obtain ⟨h1, t⟩ := rel.sl i _ q
      exact ⟨r, ns, h1, rfl, t, Qd, Ed, rel, hm, hq, he⟩
    | _ => exact hm.elim
theorem ErL.length : ∀ {xs : List E1} {vs : List V}, ErL G F H xs vs → xs.length = vs.length
  | [], _, h => by cases (show _ = _ from h); rfl
  | x :: xs, _, ⟨v, l', q, h1, h2⟩ => by subst q; rw [List.length_cons, List.length_cons, ErL.length h2]
theorem ErL.data : ∀ {xs : List E1} {vs : List V} {ds : List D}, ErL G F H xs vs → dsE xs = some ds → RpL G F H ds vs
  | [], _, ds, h, e => by cases (show _ = _ from h); cases (show some [] = some ds from e); rfl
  | .d x :: xs, _, ds, ⟨w, l', q, h1, h2⟩, e => by
    subst q
    obtain ⟨r, hr, er⟩ := Option.map_eq_some_iff.mp (show (dsE xs).map (x :: ·) = some ds from e)
    subst er
    exact ⟨w, l', rfl, h1, ErL.data h2 hr⟩
  | .k _ :: xs, _, ds, _, e => by cases e
end
end DL
set_option Elab.async false
set_option linter.all false
set_option maxRecDepth 100000
set_option maxHeartbeats 2000000
namespace DL
open PySem PySem.Spec PyProof.Rows L2
variable [Tbs]
section
variable {X : Cx} {C : Addr} {W : WX} {a b c : Expr} {ma mb mc : M D} {apos cpos : Pos}
def dnget2K (x : D) (d z : D) : M D := match x with
  | .dcn ks ds => bnd (keyN d) fun k => ret ((valN (ks.zip ds) k).getD z)
  | _ => fail
def dnget2M (ma mb mc : M D) : M D := bnd ma fun x => bnd (isDn x) fun _ => bnd mb fun d => bnd mc fun z => dnget2K x d z
end
end DL
set_option Elab.async false
set_option linter.all false
set_option maxRecDepth 100000
set_option maxHeartbeats 2000000
namespace DL
open PySem PySem.Spec PyProof.Rows L2
variable [Tbs]
def sumD : D → M D
  | .lst ds => match intsOf ds with
    | some ns => ret (.int ns.sum)
    | none => fail
  | _ => fail
end DL
set_option Elab.async false
set_option linter.all false
set_option maxRecDepth 100000
set_option maxHeartbeats 2000000
namespace DL
open PySem PySem.Spec PyProof.Rows L2
variable [Tbs]
def augK (i : Nat) (f : Int → Int → Int) (d y : D) : M Fl := match d, y with
  | .int a, .int b => bnd (setI i (.int (f a b))) fun _ => ret .nx
  | _, _ => fail
def augM (i : Nat) (f : Int → Int → Int) (me : M D) : M Fl := bnd (dVar i) fun d => bnd me fun y => augK i f d y
end DL
set_option Elab.async false
set_option linter.all false
set_option maxRecDepth 100000
set_option maxHeartbeats 2000000
namespace DL
open PySem PySem.Spec PyProof.Rows L2
variable [Tbs]
section
variable {X : Cx} {C : Addr} {W : WX} {a b c : Expr} {ma mb mc : M D} {apos cpos : Pos}
def dget2K (x : D) (d z : D) : M D := match x with
  | .dct ks ds => bnd (keyD d) fun k => ret ((valD (ks.zip ds) k).getD z)
  | _ => fail
def isDt : D → M Unit
  | .dct _ _ => ret ()
  | _ => fail
def dget2M (ma mb mc : M D) : M D := bnd ma fun x => bnd (isDt x) fun _ => bnd mb fun d => bnd mc fun z => dget2K x d z
end
end DL
set_option Elab.async false
set_option linter.all false
set_option maxRecDepth 100000
set_option maxHeartbeats 2000000
namespace DL
open PySem PySem.Spec PyProof.Rows L2
variable [Tbs]
section
variable {X : Cx} {C : Addr} {es : List Expr} {t : TGs} {ks : List (D → M Unit)} {pos : Pos}
/-- the first ones, the rest as a list -/
def setStar (k : Nat) (ks : List (D → M Unit)) (d : D) : M Unit := match d with
  | .tup ds => ask (k ≤ ds.length) (setKs ks (ds.take k ++ [D.lst (ds.drop k)]))
  | .lst ds => ask (k ≤ ds.length) (setKs ks (ds.take k ++ [D.lst (ds.drop k)]))
  | _ => fail
end
def paired (xs ys : List D) : List D := (xs.zip ys).map fun p => .pr [p.1, p.2]
def zipLM (ds : List D) : M (List D) := match ds with
  | [.lst xs, .lst ys] => ret (paired xs ys)
  | [.tup xs, .tup ys] => ret (paired xs ys)
  | _ => fail
end DL
set_option Elab.async false
set_option linter.all false
set_option maxRecDepth 100000
set_option maxHeartbeats 2000000
namespace DL
open PySem PySem.Spec PyProof.Rows L2
variable [Tbs]
/-- an argument: a datum, what the slot i owns, what stands in the slot i and is not looked at -/
inductive Ax where
  | d (d : D) | o (i : Nat) | n (i : Nat)
def consXD (m : M D) (ms : M (List Ax)) : M (List Ax) := bnd m fun d => bnd ms fun as => ret (.d d :: as)
/-- the slot i owns something -/
def hasO (i : Nat) : M Unit := fun env Q _ => match env[i]? with
  | some (.ow _) => Q () env
  | some (.io _ _) => Q () env
  | some (.tr _ _) => Q () env
  | _ => False
def consXO (i : Nat) (ms : M (List Ax)) : M (List Ax) := bnd (hasO i) fun _ => bnd ms fun as => ret (.o i :: as)
/-- the callee's slots -/
def slotX (ad : Nat → Addr) (env : List Slot) : Ax → Slot
  | .d d => .im d
  | .n _ => .no
  | .o i => match env[i]? with
    | some (.ow o) => .io (ad i) o
    | some (.io a o) => .io a o
    | some (.tr a ns) => .tr a ns
    | _ => .no
def ownsX : List Ax → List Nat
  | [] => []
  | .o i :: r => i :: ownsX r
  | _ :: r => ownsX r
def putX (env : List Slot) (i : Nat) (s : Slot) : Option (List Slot) := match env[i]?, s with
  | some (.ow _), .io _ o => some (env.set i (.ow o))
  | some (.io c _), .io _ o => some (env.set i (.io c o))
  | some (.tr _ _), .tr a ns => some (env.set i (.tr a ns))
  | _, _ => none
def backX : List Ax → List Slot → List Slot → (List Slot → Prop) → Prop
  | [], _, env, k => k env
  | .o i :: as, s :: ss, env, k => match putX env i s with
    | some e => backX as ss e k
    | none => False
  | .d _ :: as, _ :: ss, env, k => backX as ss env k
  | .n _ :: as, _ :: ss, env, k => backX as ss env k
  | _ :: _, [], _, _ => False
def callX (f : DF) (as : List Ax) : M Res := fun env Q E => (ownsX as).Nodup ∧ ∀ ad : Nat → Addr, f (as.map (slotX ad env)) (fun v ss => match v with
  | .d d => backX as ss env (Q (.d d))
  | .o _ => False
  | .t _ _ => False) (fun x ss => backX as ss env (E x))
def callXN (n : Nat) (df : DF) (as : List Ax) : M Res := ask (as.length = n) (callX df as)
/-- the root's fields -/
def insT (C : Addr) (t : Addr × List (Addr × R1)) : M (List (Str × E1)) := match nodeT t.2 t.1 with
  | some (.ins cl fs) => ask (cl = C) (ret fs)
  | _ => fail
theorem ErF.len {G : Gx} {F : Addr → Prop} {H : Hp} : ∀ {fs : List (Str × E1)} {l : List (Str × V)}, ErF G F H fs l → fs.length = l.length
  | [], _, h => by cases (show _ = _ from h); rfl
  | (g, x) :: r, _, ⟨w, l', e, h1, h2⟩ => by subst e; rw [List.length_cons, List.length_cons, ErF.len h2]
def putFE (f : Str) (v : E1) : List (Str × E1) → List (Str × E1)
  | [] => [(f, v)]
  | (g, x) :: r => if g = f then (g, v) :: r else (g, x) :: putFE f v r
section
variable {X : Cx} {C C' : Addr} {W : WX} {e o value : Expr} {es : List Expr} {md : M D} {mo : M O} {ma : M (List Ax)} {pos pos' apos cpos p : Pos} {k n i : Nat} {f : Addr} {fd : FuncData} {ps : List Str} {df : DF} {x m : Str}
/-- own.f = datum -/
def tsetM (C : Addr) (i : Nat) (f : Str) (md : M D) : M Fl := bnd md fun d => bnd (getT i) fun t => bnd (insT C t) fun fs => ask (fs.length < 1000) (bnd (putT i (updT t.2 t.1 (.ins C (putFE f (.d d) fs)))) fun _ => ret .nx)
/-- own.m(e, ..) -/
def methX (C : Addr) (m : Str) (i n : Nat) (df : DF) (ma : M (List Ax)) : M Res := bnd (getT i) fun t => bnd (insT C t) fun fs => ask (fs.lookup m = none) (bnd ma fun as => callXN n df (.o i :: as))
end
end DL
set_option Elab.async false
set_option linter.all false
set_option maxRecDepth 100000
set_option maxHeartbeats 2000000
namespace DL
open PySem PySem.Spec PyProof.Rows L2
variable [Tbs]
section
variable {X : Cx} {C C' : Addr} {W : WX} {a b c e o value : Expr} {es : List Expr} {ma mb md : M D} {mo : M O} {mk : M Addr} {ms mz : M (List D)} {pos pos' apos cpos p : Pos} {k n j i : Nat} {f : Addr} {fd : FuncData} {ps ks : List Str} {df : DF} {x m : Str} {kws : List Keyword}
variable {gD : List D → List D → List D} {g : List Value → List Value → List Value} {gV gT : List V → List V → List V}
/-- own.f = a new own list -/
def tsetOM (C : Addr) (i : Nat) (f : Str) (mo : M O) : M Fl := bnd mo fun o => match o with
  | .lst ds => bnd (getT i) fun t => bnd (insT C t) fun fs => ask (fs.length < 1000) fun env Q _ => ∀ b, b ∉ t.2.map (·.1) → Q .nx (env.set i (.tr t.1 (updT (t.2 ++ [(b, .lst (ds.map .d))]) t.1 (.ins C (putFE f (.k b) fs)))))
  | _ => fail
/-- a new instance that holds own lists -/
def mkTM (C : Addr) (n m : Nat) (gD : List D → List D → List D) (df : DF) (ds es : List D) : M (Addr × List (Addr × R1)) := fun env Q E => ds.length = n ∧ es.length = m ∧ ∀ a, df (.tr a [(a, .ins C [])] :: (gD ds es).map .im)
  (fun (r : Res) (ss : List Slot) => match r with
    | .d .non => (match ss[0]? with
      | some (Slot.tr b ns) => Q (b, ns) env
      | _ => False)
    | _ => False) (fun x _ => E x env)
def vT (mt : M (Addr × List (Addr × R1))) (ms : M (List Vl)) : M (List Vl) := bnd mt fun t => bnd ms fun vs => ret (.t t.1 t.2 :: vs)
def tcallM (C : Addr) (i : Nat) (df : DF) : M Res := bnd (getT i) fun t => bnd (insT C t) fun _ => callXN 1 df [.o i]
end
end DL
set_option Elab.async false
set_option linter.all false
set_option maxRecDepth 100000
set_option maxHeartbeats 2000000
namespace DL
open PySem PySem.Spec PyProof.Rows L2
variable [Tbs]
section
variable {X : Cx} {C C' : Addr} {W : WX} {a b c e o : Expr} {es : List Expr} {ma mb md : M D} {mk : M Addr} {ms : M (List D)} {pos pos2 lpos apos cpos p p2 : Pos} {k n i : Nat} {f : Addr} {fd : FuncData} {ps : List Str} {df : DF} {x m : Str}
def raiseNM (x : Str) : M Fl := fun env _ E => E ⟨x, none⟩ env
end
end DL
set_option Elab.async false
set_option linter.all false
set_option maxRecDepth 100000
set_option maxHeartbeats 2000000
namespace DL
open PySem PySem.Spec PyProof.Rows L2
variable [Tbs]
abbrev TabH : Type := Str × List Str
abbrev AlHT : Type := AlH × List (Option (List (Option (Str × Int))))
def tabAt (K : PySem.W.Frag) (x : Str) : Addr := match PySem.W.nsIn K mainGlobals x with
  | some (some (.ref a)) => a
  | _ => 0
def obsKT (chk : List (PySem.W.Frag → Bool)) (fn : List He.FnD) (ts : List TabH) (K : PySem.W.Frag) : AlHT := (obsK chk fn K, ts.map fun t => He.dicW K (tabAt K t.1))
def valKT (fn : List He.FnD) (ts : List TabH) (w : World) : AlHT := (valK fn, ts.map fun t => some (He.keysIn w.params t.2))
def SaysKT (chk : List (PySem.W.Frag → Bool)) (fn : List He.FnD) (ts : List TabH) (w : World) (K : PySem.W.Frag) : Prop := obsKT chk fn ts K = valKT fn ts w
def obsHT (n : Nat) (chk : List (PySem.W.Frag → Bool)) (fn : List He.FnD) (ts : List TabH) (g : Addr → Option Obj) : AlHT := obsKT chk fn ts (He.frG g (asH g n))
def hookHT (n : Nat) (chk : List (PySem.W.Frag → Bool)) (fn : List He.FnD) (ts : List TabH) : PySem.W.Hook where
  α := AlHT
  obs := fun s => obsHT n chk fn ts s.heap.get?
  val := fun w => valKT fn ts w
  says := fun w h => ∃ K : PySem.W.Frag, K.In h ∧ SaysKT chk fn ts w K
  of := fun _ _ e => ⟨_, He.frG_in, e⟩
  keeps := fun _ _ _ ⟨K, hK, c⟩ k => ⟨K, PySem.W.Frag.In.keeps hK k, c⟩
section
variable {chk : List (PySem.W.Frag → Bool)} {fn : List He.FnD} {ts : List TabH} {K : PySem.W.Frag} {w : World}
theorem SaysKT.k (c : SaysKT chk fn ts w K) : SaysK chk fn K := congrArg (fun z : AlHT => z.1) c
end
end DL
set_option Elab.async false
set_option linter.all false
set_option maxRecDepth 100000
set_option maxHeartbeats 2000000
namespace DL
open PySem PySem.Spec PyProof.Rows L2
end DL
namespace DL
open PySem PySem.Spec PyProof.Rows L2
end DL
set_option Elab.async false
set_option linter.all false
set_option maxRecDepth 100000
set_option maxHeartbeats 2000000
namespace DL
open PySem PySem.Spec PyProof.Rows L2
end DL
set_option Elab.async false
set_option linter.all false
set_option maxRecDepth 100000
set_option maxHeartbeats 2000000
namespace DL
open PySem PySem.Spec PyProof.Rows L2
end DL
set_option Elab.async false
set_option linter.all false
set_option maxRecDepth 100000
set_option maxHeartbeats 2000000
namespace DL
open PySem PySem.Spec PyProof.Rows L2
variable [Tbs]
/-- [elt for tg in items], the element may raise -/
def compME (items : M (List D)) (tg : D → M Unit) (vs : List Nat) (elt : M D) : M O := fun env Q E =>
  items env (fun ds env1 => compL tg vs (ret true) elt ds [] env1 (fun acc env2 => Q (.lst acc) (backE env1 env2 vs)) fun x env2 => E x (backE env1 env2 vs)) E
theorem compME_ap (items : M (List D)) (tg : D → M Unit) (vs : List Nat) (elt : M D) (env : List Slot) (Q : O → List Slot → Prop) (E : Exn → List Slot → Prop) : compME items tg vs elt env Q E = items env (fun ds env1 => compL tg vs (ret true) elt ds [] env1 (fun acc env2 => Q (.lst acc) (backE env1 env2 vs)) fun x env2 => E x (backE env1 env2 vs)) E := rfl
end DL
set_option Elab.async false
set_option linter.all false
set_option maxRecDepth 100000
set_option maxHeartbeats 2000000
namespace DL
open PySem PySem.Spec PyProof.Rows L2
end DL
set_option Elab.async false
set_option linter.all false
set_option maxRecDepth 100000
set_option maxHeartbeats 2000000
namespace DL
open PySem PySem.Spec PyProof.Rows L2
variable [Tbs]
/-- try: body, except (..) as n: a suite that may raise -/
def tryR (i : Nat) (ex : Str → Option Bool) (body suite : M Fl) : M Fl := fun env Q E => body env Q fun x env1 => match ex x.cls with
  | some true => setI i (exnD x) env1 (fun _ env2 => suite env2 (fun f env3 => Q f (env3.set i .no)) fun y env3 => E y (env3.set i .no)) fun _ _ => False
  | some false => E x env1
  | none => False
end DL
set_option Elab.async false
set_option linter.all false
set_option maxRecDepth 100000
set_option maxHeartbeats 2000000
namespace DL
open PySem PySem.Spec PyProof.Rows L2
variable [Tbs]
def kindQ : D → Bool
  | .tup _ => true | .lst _ => true | .emp => true
  | _ => false
def strQ : D → Bool
  | .str _ => true
  | _ => false
def inQ (a b : D) : M D := if kindQ a = true then (match b with
  | .tup ds => ask (ds.all strQ = true) (ret (.bl false))
  | _ => fail) else inM a b
end DL
set_option Elab.async false
set_option linter.all false
set_option maxRecDepth 100000
set_option maxHeartbeats 2000000
namespace DL
open PySem PySem.Spec PyProof.Rows L2
end DL
set_option Elab.async false
set_option linter.all false
set_option maxRecDepth 100000
set_option maxHeartbeats 2000000
namespace DL
open PySem PySem.Spec PyProof.Rows L2
end DL
set_option Elab.async false
set_option linter.all false
set_option maxRecDepth 100000
set_option maxHeartbeats 2000000
namespace DL
open PySem PySem.Spec PyProof.Rows L2
variable [Tbs]
def zipTL (ds : List D) : M (List D) := match ds with
  | [.tup xs, .lst ys] => ret (paired xs ys)
  | _ => fail
end DL
set_option Elab.async false
set_option linter.all false
set_option maxRecDepth 100000
set_option maxHeartbeats 2000000
namespace DL
open PySem PySem.Spec PyProof.Rows L2
variable [Tbs]
def oslM (i : Nat) (mlo mhi : M (Option Int)) : M D := bnd (getO i) fun _ => bnd mlo fun l => bnd mhi fun h => bnd (olist i) fun ds => ret (.lst (cutL ds l h))
end DL
set_option Elab.async false
set_option linter.all false
set_option maxRecDepth 100000
set_option maxHeartbeats 2000000
namespace DL
open PySem PySem.Spec PyProof.Rows L2
variable [Tbs]
def sumTD : D → M D
  | .tup ds => match intsOf ds with
    | some ns => ret (.int ns.sum)
    | none => fail
  | _ => fail
end DL
set_option Elab.async false
set_option linter.all false
set_option maxRecDepth 100000
set_option maxHeartbeats 2000000
namespace DL
open PySem PySem.Spec PyProof.Rows L2
variable [Tbs]
section
variable {G : Gx} {B F F' : Addr → Prop} {H H' : Hp}
theorem ExnR.mono {x : Exn} {cls : Value} {d : Option Addr} (st : Stp B F H F' H') (h : ExnR G F H x cls d) : ExnR G F' H' x cls d := by
  obtain ⟨h1, h2⟩ := h
  refine ⟨h1, ?_⟩
  cases q : x.fld with
  | none => rw [q] at h2; exact h2
  | some p =>
    rw [q] at h2
    obtain ⟨dd, v, e, hF, hd, rv⟩ := h2
    exact ⟨dd, v, e, st.fm dd hF, st.hk dd _ (.inr hF) hd, Rp.mono st _ v rv⟩
end
end DL
set_option Elab.async false
set_option linter.all false
set_option maxRecDepth 100000
set_option maxHeartbeats 2000000
namespace DL
open PySem PySem.Spec PyProof.Rows L2
end DL
namespace HE
open PySem PySem.SeqAt
open MeetsSeq MeetsSeq2 MeetsSeq3 SeqRoads2
end HE
namespace DL
open PySem PySem.Spec PyProof.Rows L2 HE
end DL
set_option Elab.async false
set_option linter.all false
set_option maxRecDepth 100000
set_option maxHeartbeats 2000000
namespace DL
open PySem PySem.Spec PyProof.Rows L2
end DL
set_option Elab.async false
set_option linter.all false
set_option maxRecDepth 100000
set_option maxHeartbeats 2000000
namespace DL
open PySem PySem.Spec PyProof.Rows L2
end DL
set_option Elab.async false
set_option linter.all false
set_option maxRecDepth 100000
set_option maxHeartbeats 2000000
namespace DL
open PySem PySem.Spec PyProof.Rows L2
end DL
set_option Elab.async false
set_option linter.all false
set_option maxRecDepth 100000
set_option maxHeartbeats 2000000
namespace DL
open PySem PySem.Spec PyProof.Rows L2
end DL
set_option Elab.async false
set_option linter.all false
set_option maxRecDepth 100000
set_option maxHeartbeats 2000000
namespace DL
open PySem PySem.Spec PyProof.Rows L2
end DL
set_option Elab.async false
set_option linter.all false
set_option maxRecDepth 100000
set_option maxHeartbeats 2000000
namespace DL
open PySem PySem.Spec PyProof.Rows L2
def gninM (neg : Bool) (kvs : List (Str × Str)) : D → M D
  | .str s => ret (.bl (neg != (kvs.lookup s).isSome))
  | _ => fail
def gfnM (kvs : List (Str × Str)) : D → M D
  | .str s => (match kvs.lookup s with
    | some f => ret (.fn f)
    | none => fail)
  | _ => fail
variable [Tbs]
def tabFB (K : PySem.W.Frag) (x : Str) (kvs : List (Str × Str)) : Bool := decide (PySem.W.nsIn K mainGlobals x = some (some (.ref (tabAt K x)))) && kvs.all fun q => match PySem.W.nsIn K (tabAt K x) q.1 with
  | some (some (.ref a)) => decide (PySem.W.nsIn K mainGlobals q.2 = some (some (.ref a)))
  | _ => false
def neverF : DF := fun _ _ _ => False
end DL
set_option Elab.async false
set_option linter.all false
set_option maxRecDepth 100000
set_option maxHeartbeats 2000000
namespace DL
open PySem PySem.Spec PyProof.Rows L2
variable [Tbs]
/-- the numbers, each once -/
def onceI (acc : List Int) (k : Int) : List Int := if acc.any (· == k) then acc else acc ++ [k]
def onces (ns : List Int) : List Int := ns.foldl onceI []
theorem onces_len : ∀ (ns acc : List Int), (ns.foldl onceI acc).length ≤ acc.length + ns.length
  | [], acc => Nat.le_refl _
  | n :: ns, acc => by
    refine Nat.le_trans (onces_len ns (onceI acc n)) ?_
    unfold onceI
    split <;> simp <;> omega
/-- how many a set of a row of numbers holds -/
def manyM (ma : M D) : M D := bnd ma fun d => match d with
  | .lst ds => match intsOf ds with
    | some ns => ask (ns.length ≤ 4000) (ret (.int ((onces ns).length : Nat)))
    | none => fail
  | _ => fail
end DL
namespace DL
open PySem PySem.Spec PyProof.Rows L2
variable [Tbs]
def eqQ (a b : D) : M D := match a, b with
  | .tup _, .str _ => ret (.bl false)
  | .lst _, .str _ => ret (.bl false)
  | .emp, .str _ => ret (.bl false)
  | .tup ds, .tup [] => ret (.bl ds.isEmpty)
  | a, b => eqM a b
def neQ (a b : D) : M D := match a, b with
  | .tup _, .str _ => ret (.bl true)
  | .lst _, .str _ => ret (.bl true)
  | .emp, .str _ => ret (.bl true)
  | .tup ds, .tup [] => ret (.bl (!ds.isEmpty))
  | a, b => neM a b
end DL
set_option Elab.async false
set_option linter.all false
set_option maxRecDepth 100000
set_option maxHeartbeats 2000000
namespace DL
open PySem PySem.Spec PyProof.Rows L2
variable [Tbs]
def isi0 (c : CT) (d : D) : M D := match d.kind with
  | some .hall => fail
  | some t => ret (.bl (c.is t))
  | none => fail
end DL
set_option Elab.async false
set_option linter.all false
set_option maxRecDepth 100000
set_option maxHeartbeats 2000000
namespace DL
open PySem PySem.Spec PyProof.Rows L2
variable [Tbs]
def eqZ (a b : D) : M D := match a, b with
  | .tup _, .int _ => ret (.bl false)
  | .lst _, .int _ => ret (.bl false)
  | .emp, .int _ => ret (.bl false)
  | .str _, .int _ => ret (.bl false)
  | a, b => eqM a b
end DL
set_option Elab.async false
set_option linter.all false
set_option maxRecDepth 100000
set_option maxHeartbeats 4000000
namespace DLP
open PySem PySem.Spec PyProof.Rows L2 DL
def top (i : Nat) : Stmt := PySem.Challenge.pw_waitseats_k48_claims_of_walks.main.body.getD i (.Pass ⟨0, 0, 0, 0⟩)
abbrev s_Ltake : Stmt := (top 65)
abbrev s_Lwhole : Stmt := (top 66)
abbrev s_Lbentr0 : Stmt := (top 71)
abbrev s_Lbentr1 : Stmt := (top 71)
abbrev s_Lbentr2 : Stmt := (top 71)
abbrev s_Lbentr3 : Stmt := (top 71)
abbrev s_Lcell : Stmt := (top 63)
abbrev s_Lseen : Stmt := (top 69)
abbrev s_is_whole : Stmt := (top 6)
abbrev s_are_sizes : Stmt := (top 8)
abbrev s_fits : Stmt := (top 9)
abbrev s_is_samer0 : Stmt := (top 7)
abbrev s_is_samer1 : Stmt := (top 7)
abbrev s_walked : Stmt := (top 10)
abbrev s_waits_holds : Stmt := (top 43)
abbrev s_holds : Stmt := (top 61)
abbrev s_Ltold : Stmt := (top 72)
abbrev s_Leach_right : Stmt := (top 74)
abbrev s_Lfits : Stmt := (top 70)
abbrev s_Lis_waits : Stmt := (top 73)
abbrev s_Lno_halls_right : Stmt := (top 75)
abbrev s_Lpool : Stmt := (top 64)
abbrev s_Lsizes : Stmt := (top 67)
abbrev s_Lstood : Stmt := (top 68)
abbrev s_law : Stmt := (top 76)
def m_Ltake (C : Addr) : M Fl := seqM (asgM (do2 (oixM 0 (ret (.int 2))) (ret (.int 1)) addD) (osetM 0 (ret (.int 2)))) (seqM (thenN (bnd (oixM 0 (ret (.int 0))) (setI 2))) (seqM (asgM (do2 (bnd (consM (do2 (do2 (dVar 2) (do2 (do2 (bnd (consM (dVar 2) (ret [])) (un1 intD)) (ret (.int 45007)) modD) (ret (.int 32027)) addD) mulD) (do2 (ret (.int 90007)) (oixM 0 (ret (.int 2))) mulD) addD) (ret [])) (un1 intD)) (ret (.int 2147483399)) modD) (osetM 0 (ret (.int 0)))) (seqM (ifM (do2 (oixM 0 (ret (.int 1))) (ret (.int 0)) fun x y => bnd (gtD x y) asB) (seqM (asgM (bnd (consM (oixM 0 (ret (.int 1))) (consM (dVar 1) (ret []))) (un2 divD)) (setTw [osetM 0 (ret (.int 1)), setI 3])) (bnd (dVar 3) fun d => ret (.rt (.d d)))) (ret .nx)) (bnd (do2 (do2 (oixM 0 (ret (.int 0))) (ret (.int 64)) fdivD) (dVar 1) modD) fun d => ret (.rt (.d d))))))
def f_Ltake (C : Addr) : DF := defM 4 (m_Ltake C)
def m_Lwhole (C : Addr) : M Fl := bnd (andV (bnd (dVar 0) (isi0 .int)) (andV (notV (bnd (dVar 0) (isi0 .bool))) (chM leD leD (dVar 1) (dVar 0) (dVar 2)))) fun d => ret (.rt (.d d))
def f_Lwhole (C : Addr) : DF := defM 3 (m_Lwhole C)
def m_Lbentr0 (C : Addr) : M Fl := seqM (thenN (bnd (lstM (consM (ret .non) (consM (ret (.bl true)) (consM (ret (.bl false)) (consM (ret (.int 0)) (consM (ret (.int 1)) (consM (bnd (ret (.int 1)) negD) (consM (ret (.int 2)) (consM (ret (.int 3)) (consM (ret (.str "")) (consM (ret (.str "go")) (consM (ret (.str "come")) (consM (tupM (ret [])) (consM (lstM (ret [])) (consM (ret .emp) (consM (tupM (consM (ret (.int 0)) (ret []))) (consM (tupM (consM (tupM (ret [])) (ret []))) (consM (do2 (ret (.int 10)) (ret (.int 30)) powD) (consM (ret (.int 24)) (consM (ret (.int 25)) (consM (ret (.str "0")) (consM (lstM (consM (ret (.int 0)) (ret []))) (ret []))))))))))))))))))))))) (setI 3))) (seqM (thenN (bnd (do2 (dVar 3) (lstM (consM (tupM (consM (lstM (ret [])) (ret []))) (consM (tupM (consM (ret (.str "go")) (consM (ret (.int 0)) (ret [])))) (consM (tupM (consM (tupM (consM (ret (.str "come")) (consM (ret (.int 0)) (ret [])))) (ret []))) (consM (tupM (consM (ret (.int 0)) (consM (ret (.int 1)) (ret [])))) (consM (tupM (consM (ret (.int 3)) (consM (ret (.int 0)) (ret [])))) (consM (tupM (consM (ret (.int 1)) (consM (ret .non) (ret [])))) (ret [])))))))) addD) (setI 3))) (seqM (ifM (bnd (bnd (bnd (consD (dVar 1) (consD (ret (.int 0)) (consD (do2 (ret (.int 10)) (ret (.int 30)) powD) (ret [])))) (callN 3 (f_Lwhole C))) resD) truD) (thenN (bnd (do2 (dVar 3) (lstM (consM (do2 (dVar 1) (ret (.int 1)) addD) (consM (do2 (dVar 1) (ret (.int 1)) subD) (consM (do2 (dVar 1) (ret (.int 2)) addD) (consM (do2 (dVar 1) (ret (.int 1)) addD) (consM (bnd (consM (dVar 1) (ret [])) (un1 txtD)) (consM (do2 (dVar 1) (ret (.int 2)) subD) (ret [])))))))) addD) (setI 3))) (ret .nx)) (seqM (thenN (bnd (do2 (dVar 3) (bnd (bnd (consO 0 (consD (bnd (consM (dVar 3) (ret [])) (un1 lenD)) (ret []))) (callN 2 (f_Ltake C))) resD) ixM) (setI 4))) (seqM (ifM (orB (do2 (dVar 2) (ret (.int 0)) fun x y => bnd (eqM x y) asB) (orB (notB (bnd (bnd (dVar 1) (isi0 .tuple)) truD)) (orB (do2 (dVar 1) (tupM (ret [])) fun x y => bnd (eqQ x y) asB) (do2 (bnd (bnd (consO 0 (consD (ret (.int 6)) (ret []))) (callN 2 (f_Ltake C))) resD) (ret (.int 0)) fun x y => bnd (eqM x y) asB)))) (bnd (dVar 4) fun d => ret (.rt (.d d))) (ret .nx)) (seqM (parM [5, 6] (vD (bnd (bnd (consO 0 (consD (bnd (consM (dVar 1) (ret [])) (un1 lenD)) (ret []))) (callN 2 (f_Ltake C))) resD) (vD (bnd (bnd (consO 0 (consD (ret (.int 9)) (ret []))) (callN 2 (f_Ltake C))) resD) (ret [])))) (seqM (ifM (do2 (dVar 6) (ret (.int 0)) fun x y => bnd (eqM x y) asB) (bnd (do2 (bnd (dVar 1) fun d => bnd (ret none) fun l => bnd (partM (dVar 5)) fun h => slM d l h) (bnd (dVar 1) fun d => bnd (partM (do2 (dVar 5) (ret (.int 1)) addD)) fun l => bnd (ret none) fun h => slM d l h) addD) fun d => ret (.rt (.d d))) (ret .nx)) (seqM (ifM (do2 (dVar 6) (ret (.int 1)) fun x y => bnd (eqM x y) asB) (bnd (do2 (bnd (dVar 1) fun d => bnd (ret none) fun l => bnd (partM (do2 (dVar 5) (ret (.int 1)) addD)) fun h => slM d l h) (bnd (dVar 1) fun d => bnd (partM (dVar 5)) fun l => bnd (ret none) fun h => slM d l h) addD) fun d => ret (.rt (.d d))) (ret .nx)) (seqM (ifM (do2 (dVar 6) (ret (.int 2)) fun x y => bnd (eqM x y) asB) (bnd (do2 (lstM (consM (bnd (consM (dVar 1) (ret [])) (un1 listD)) (consM (turnsM (dVar 1)) (consM (do2 (dVar 1) (tupM (consM (dVar 4) (ret []))) addD) (consM (tupM (consM (dVar 1) (ret []))) (ret [])))))) (bnd (bnd (consO 0 (consD (ret (.int 4)) (ret []))) (callN 2 (f_Ltake C))) resD) ixM) fun d => ret (.rt (.d d))) (ret .nx)) (seqM (ifM (do2 (dVar 6) (ret (.int 3)) fun x y => bnd (eqM x y) asB) (seqM (thenN (bnd (bnd (bnd (consO 0 (consD (bnd (consM (dVar 1) (ret [])) (un1 lenD)) (ret []))) (callN 2 (f_Ltake C))) resD) (setI 7))) (bnd (do2 (do2 (bnd (dVar 1) fun d => bnd (ret none) fun l => bnd (partM (dVar 5)) fun h => slM d l h) (tupM (consM (do2 (dVar 1) (dVar 7) ixM) (ret []))) addD) (bnd (dVar 1) fun d => bnd (partM (do2 (dVar 5) (ret (.int 1)) addD)) fun l => bnd (ret none) fun h => slM d l h) addD) fun d => ret (.rt (.d d)))) (ret .nx)) (bnd (do2 (do2 (bnd (dVar 1) fun d => bnd (ret none) fun l => bnd (partM (dVar 5)) fun h => slM d l h) (tupM (consM (bnd (bnd (consO 0 (consD (do2 (dVar 1) (dVar 5) ixM) (consD (do2 (dVar 2) (ret (.int 1)) subD) (ret [])))) (callN 3 neverF)) resD) (ret []))) addD) (bnd (dVar 1) fun d => bnd (partM (do2 (dVar 5) (ret (.int 1)) addD)) fun l => bnd (ret none) fun h => slM d l h) addD) fun d => ret (.rt (.d d))))))))))))
def f_Lbentr0 (C : Addr) : DF := defM 8 (m_Lbentr0 C)
def m_Lbentr1 (C : Addr) : M Fl := seqM (thenN (bnd (lstM (consM (ret .non) (consM (ret (.bl true)) (consM (ret (.bl false)) (consM (ret (.int 0)) (consM (ret (.int 1)) (consM (bnd (ret (.int 1)) negD) (consM (ret (.int 2)) (consM (ret (.int 3)) (consM (ret (.str "")) (consM (ret (.str "go")) (consM (ret (.str "come")) (consM (tupM (ret [])) (consM (lstM (ret [])) (consM (ret .emp) (consM (tupM (consM (ret (.int 0)) (ret []))) (consM (tupM (consM (tupM (ret [])) (ret []))) (consM (do2 (ret (.int 10)) (ret (.int 30)) powD) (consM (ret (.int 24)) (consM (ret (.int 25)) (consM (ret (.str "0")) (consM (lstM (consM (ret (.int 0)) (ret []))) (ret []))))))))))))))))))))))) (setI 3))) (seqM (thenN (bnd (do2 (dVar 3) (lstM (consM (tupM (consM (lstM (ret [])) (ret []))) (consM (tupM (consM (ret (.str "go")) (consM (ret (.int 0)) (ret [])))) (consM (tupM (consM (tupM (consM (ret (.str "come")) (consM (ret (.int 0)) (ret [])))) (ret []))) (consM (tupM (consM (ret (.int 0)) (consM (ret (.int 1)) (ret [])))) (consM (tupM (consM (ret (.int 3)) (consM (ret (.int 0)) (ret [])))) (consM (tupM (consM (ret (.int 1)) (consM (ret .non) (ret [])))) (ret [])))))))) addD) (setI 3))) (seqM (ifM (bnd (bnd (bnd (consD (dVar 1) (consD (ret (.int 0)) (consD (do2 (ret (.int 10)) (ret (.int 30)) powD) (ret [])))) (callN 3 (f_Lwhole C))) resD) truD) (thenN (bnd (do2 (dVar 3) (lstM (consM (do2 (dVar 1) (ret (.int 1)) addD) (consM (do2 (dVar 1) (ret (.int 1)) subD) (consM (do2 (dVar 1) (ret (.int 2)) addD) (consM (do2 (dVar 1) (ret (.int 1)) addD) (consM (bnd (consM (dVar 1) (ret [])) (un1 txtD)) (consM (do2 (dVar 1) (ret (.int 2)) subD) (ret [])))))))) addD) (setI 3))) (ret .nx)) (seqM (thenN (bnd (do2 (dVar 3) (bnd (bnd (consO 0 (consD (bnd (consM (dVar 3) (ret [])) (un1 lenD)) (ret []))) (callN 2 (f_Ltake C))) resD) ixM) (setI 4))) (seqM (ifM (orB (do2 (dVar 2) (ret (.int 0)) fun x y => bnd (eqM x y) asB) (orB (notB (bnd (bnd (dVar 1) (isi0 .tuple)) truD)) (orB (do2 (dVar 1) (tupM (ret [])) fun x y => bnd (eqQ x y) asB) (do2 (bnd (bnd (consO 0 (consD (ret (.int 6)) (ret []))) (callN 2 (f_Ltake C))) resD) (ret (.int 0)) fun x y => bnd (eqM x y) asB)))) (bnd (dVar 4) fun d => ret (.rt (.d d))) (ret .nx)) (seqM (parM [5, 6] (vD (bnd (bnd (consO 0 (consD (bnd (consM (dVar 1) (ret [])) (un1 lenD)) (ret []))) (callN 2 (f_Ltake C))) resD) (vD (bnd (bnd (consO 0 (consD (ret (.int 9)) (ret []))) (callN 2 (f_Ltake C))) resD) (ret [])))) (seqM (ifM (do2 (dVar 6) (ret (.int 0)) fun x y => bnd (eqM x y) asB) (bnd (do2 (bnd (dVar 1) fun d => bnd (ret none) fun l => bnd (partM (dVar 5)) fun h => slM d l h) (bnd (dVar 1) fun d => bnd (partM (do2 (dVar 5) (ret (.int 1)) addD)) fun l => bnd (ret none) fun h => slM d l h) addD) fun d => ret (.rt (.d d))) (ret .nx)) (seqM (ifM (do2 (dVar 6) (ret (.int 1)) fun x y => bnd (eqM x y) asB) (bnd (do2 (bnd (dVar 1) fun d => bnd (ret none) fun l => bnd (partM (do2 (dVar 5) (ret (.int 1)) addD)) fun h => slM d l h) (bnd (dVar 1) fun d => bnd (partM (dVar 5)) fun l => bnd (ret none) fun h => slM d l h) addD) fun d => ret (.rt (.d d))) (ret .nx)) (seqM (ifM (do2 (dVar 6) (ret (.int 2)) fun x y => bnd (eqM x y) asB) (bnd (do2 (lstM (consM (bnd (consM (dVar 1) (ret [])) (un1 listD)) (consM (turnsM (dVar 1)) (consM (do2 (dVar 1) (tupM (consM (dVar 4) (ret []))) addD) (consM (tupM (consM (dVar 1) (ret []))) (ret [])))))) (bnd (bnd (consO 0 (consD (ret (.int 4)) (ret []))) (callN 2 (f_Ltake C))) resD) ixM) fun d => ret (.rt (.d d))) (ret .nx)) (seqM (ifM (do2 (dVar 6) (ret (.int 3)) fun x y => bnd (eqM x y) asB) (seqM (thenN (bnd (bnd (bnd (consO 0 (consD (bnd (consM (dVar 1) (ret [])) (un1 lenD)) (ret []))) (callN 2 (f_Ltake C))) resD) (setI 7))) (bnd (do2 (do2 (bnd (dVar 1) fun d => bnd (ret none) fun l => bnd (partM (dVar 5)) fun h => slM d l h) (tupM (consM (do2 (dVar 1) (dVar 7) ixM) (ret []))) addD) (bnd (dVar 1) fun d => bnd (partM (do2 (dVar 5) (ret (.int 1)) addD)) fun l => bnd (ret none) fun h => slM d l h) addD) fun d => ret (.rt (.d d)))) (ret .nx)) (bnd (do2 (do2 (bnd (dVar 1) fun d => bnd (ret none) fun l => bnd (partM (dVar 5)) fun h => slM d l h) (tupM (consM (bnd (bnd (consO 0 (consD (do2 (dVar 1) (dVar 5) ixM) (consD (do2 (dVar 2) (ret (.int 1)) subD) (ret [])))) (callN 3 (f_Lbentr0 C))) resD) (ret []))) addD) (bnd (dVar 1) fun d => bnd (partM (do2 (dVar 5) (ret (.int 1)) addD)) fun l => bnd (ret none) fun h => slM d l h) addD) fun d => ret (.rt (.d d))))))))))))
def f_Lbentr1 (C : Addr) : DF := defM 8 (m_Lbentr1 C)
def m_Lbentr2 (C : Addr) : M Fl := seqM (thenN (bnd (lstM (consM (ret .non) (consM (ret (.bl true)) (consM (ret (.bl false)) (consM (ret (.int 0)) (consM (ret (.int 1)) (consM (bnd (ret (.int 1)) negD) (consM (ret (.int 2)) (consM (ret (.int 3)) (consM (ret (.str "")) (consM (ret (.str "go")) (consM (ret (.str "come")) (consM (tupM (ret [])) (consM (lstM (ret [])) (consM (ret .emp) (consM (tupM (consM (ret (.int 0)) (ret []))) (consM (tupM (consM (tupM (ret [])) (ret []))) (consM (do2 (ret (.int 10)) (ret (.int 30)) powD) (consM (ret (.int 24)) (consM (ret (.int 25)) (consM (ret (.str "0")) (consM (lstM (consM (ret (.int 0)) (ret []))) (ret []))))))))))))))))))))))) (setI 3))) (seqM (thenN (bnd (do2 (dVar 3) (lstM (consM (tupM (consM (lstM (ret [])) (ret []))) (consM (tupM (consM (ret (.str "go")) (consM (ret (.int 0)) (ret [])))) (consM (tupM (consM (tupM (consM (ret (.str "come")) (consM (ret (.int 0)) (ret [])))) (ret []))) (consM (tupM (consM (ret (.int 0)) (consM (ret (.int 1)) (ret [])))) (consM (tupM (consM (ret (.int 3)) (consM (ret (.int 0)) (ret [])))) (consM (tupM (consM (ret (.int 1)) (consM (ret .non) (ret [])))) (ret [])))))))) addD) (setI 3))) (seqM (ifM (bnd (bnd (bnd (consD (dVar 1) (consD (ret (.int 0)) (consD (do2 (ret (.int 10)) (ret (.int 30)) powD) (ret [])))) (callN 3 (f_Lwhole C))) resD) truD) (thenN (bnd (do2 (dVar 3) (lstM (consM (do2 (dVar 1) (ret (.int 1)) addD) (consM (do2 (dVar 1) (ret (.int 1)) subD) (consM (do2 (dVar 1) (ret (.int 2)) addD) (consM (do2 (dVar 1) (ret (.int 1)) addD) (consM (bnd (consM (dVar 1) (ret [])) (un1 txtD)) (consM (do2 (dVar 1) (ret (.int 2)) subD) (ret [])))))))) addD) (setI 3))) (ret .nx)) (seqM (thenN (bnd (do2 (dVar 3) (bnd (bnd (consO 0 (consD (bnd (consM (dVar 3) (ret [])) (un1 lenD)) (ret []))) (callN 2 (f_Ltake C))) resD) ixM) (setI 4))) (seqM (ifM (orB (do2 (dVar 2) (ret (.int 0)) fun x y => bnd (eqM x y) asB) (orB (notB (bnd (bnd (dVar 1) (isi0 .tuple)) truD)) (orB (do2 (dVar 1) (tupM (ret [])) fun x y => bnd (eqQ x y) asB) (do2 (bnd (bnd (consO 0 (consD (ret (.int 6)) (ret []))) (callN 2 (f_Ltake C))) resD) (ret (.int 0)) fun x y => bnd (eqM x y) asB)))) (bnd (dVar 4) fun d => ret (.rt (.d d))) (ret .nx)) (seqM (parM [5, 6] (vD (bnd (bnd (consO 0 (consD (bnd (consM (dVar 1) (ret [])) (un1 lenD)) (ret []))) (callN 2 (f_Ltake C))) resD) (vD (bnd (bnd (consO 0 (consD (ret (.int 9)) (ret []))) (callN 2 (f_Ltake C))) resD) (ret [])))) (seqM (ifM (do2 (dVar 6) (ret (.int 0)) fun x y => bnd (eqM x y) asB) (bnd (do2 (bnd (dVar 1) fun d => bnd (ret none) fun l => bnd (partM (dVar 5)) fun h => slM d l h) (bnd (dVar 1) fun d => bnd (partM (do2 (dVar 5) (ret (.int 1)) addD)) fun l => bnd (ret none) fun h => slM d l h) addD) fun d => ret (.rt (.d d))) (ret .nx)) (seqM (ifM (do2 (dVar 6) (ret (.int 1)) fun x y => bnd (eqM x y) asB) (bnd (do2 (bnd (dVar 1) fun d => bnd (ret none) fun l => bnd (partM (do2 (dVar 5) (ret (.int 1)) addD)) fun h => slM d l h) (bnd (dVar 1) fun d => bnd (partM (dVar 5)) fun l => bnd (ret none) fun h => slM d l h) addD) fun d => ret (.rt (.d d))) (ret .nx)) (seqM (ifM (do2 (dVar 6) (ret (.int 2)) fun x y => bnd (eqM x y) asB) (bnd (do2 (lstM (consM (bnd (consM (dVar 1) (ret [])) (un1 listD)) (consM (turnsM (dVar 1)) (consM (do2 (dVar 1) (tupM (consM (dVar 4) (ret []))) addD) (consM (tupM (consM (dVar 1) (ret []))) (ret [])))))) (bnd (bnd (consO 0 (consD (ret (.int 4)) (ret []))) (callN 2 (f_Ltake C))) resD) ixM) fun d => ret (.rt (.d d))) (ret .nx)) (seqM (ifM (do2 (dVar 6) (ret (.int 3)) fun x y => bnd (eqM x y) asB) (seqM (thenN (bnd (bnd (bnd (consO 0 (consD (bnd (consM (dVar 1) (ret [])) (un1 lenD)) (ret []))) (callN 2 (f_Ltake C))) resD) (setI 7))) (bnd (do2 (do2 (bnd (dVar 1) fun d => bnd (ret none) fun l => bnd (partM (dVar 5)) fun h => slM d l h) (tupM (consM (do2 (dVar 1) (dVar 7) ixM) (ret []))) addD) (bnd (dVar 1) fun d => bnd (partM (do2 (dVar 5) (ret (.int 1)) addD)) fun l => bnd (ret none) fun h => slM d l h) addD) fun d => ret (.rt (.d d)))) (ret .nx)) (bnd (do2 (do2 (bnd (dVar 1) fun d => bnd (ret none) fun l => bnd (partM (dVar 5)) fun h => slM d l h) (tupM (consM (bnd (bnd (consO 0 (consD (do2 (dVar 1) (dVar 5) ixM) (consD (do2 (dVar 2) (ret (.int 1)) subD) (ret [])))) (callN 3 (f_Lbentr1 C))) resD) (ret []))) addD) (bnd (dVar 1) fun d => bnd (partM (do2 (dVar 5) (ret (.int 1)) addD)) fun l => bnd (ret none) fun h => slM d l h) addD) fun d => ret (.rt (.d d))))))))))))
def f_Lbentr2 (C : Addr) : DF := defM 8 (m_Lbentr2 C)
def m_Lbentr3 (C : Addr) : M Fl := seqM (thenN (bnd (lstM (consM (ret .non) (consM (ret (.bl true)) (consM (ret (.bl false)) (consM (ret (.int 0)) (consM (ret (.int 1)) (consM (bnd (ret (.int 1)) negD) (consM (ret (.int 2)) (consM (ret (.int 3)) (consM (ret (.str "")) (consM (ret (.str "go")) (consM (ret (.str "come")) (consM (tupM (ret [])) (consM (lstM (ret [])) (consM (ret .emp) (consM (tupM (consM (ret (.int 0)) (ret []))) (consM (tupM (consM (tupM (ret [])) (ret []))) (consM (do2 (ret (.int 10)) (ret (.int 30)) powD) (consM (ret (.int 24)) (consM (ret (.int 25)) (consM (ret (.str "0")) (consM (lstM (consM (ret (.int 0)) (ret []))) (ret []))))))))))))))))))))))) (setI 3))) (seqM (thenN (bnd (do2 (dVar 3) (lstM (consM (tupM (consM (lstM (ret [])) (ret []))) (consM (tupM (consM (ret (.str "go")) (consM (ret (.int 0)) (ret [])))) (consM (tupM (consM (tupM (consM (ret (.str "come")) (consM (ret (.int 0)) (ret [])))) (ret []))) (consM (tupM (consM (ret (.int 0)) (consM (ret (.int 1)) (ret [])))) (consM (tupM (consM (ret (.int 3)) (consM (ret (.int 0)) (ret [])))) (consM (tupM (consM (ret (.int 1)) (consM (ret .non) (ret [])))) (ret [])))))))) addD) (setI 3))) (seqM (ifM (bnd (bnd (bnd (consD (dVar 1) (consD (ret (.int 0)) (consD (do2 (ret (.int 10)) (ret (.int 30)) powD) (ret [])))) (callN 3 (f_Lwhole C))) resD) truD) (thenN (bnd (do2 (dVar 3) (lstM (consM (do2 (dVar 1) (ret (.int 1)) addD) (consM (do2 (dVar 1) (ret (.int 1)) subD) (consM (do2 (dVar 1) (ret (.int 2)) addD) (consM (do2 (dVar 1) (ret (.int 1)) addD) (consM (bnd (consM (dVar 1) (ret [])) (un1 txtD)) (consM (do2 (dVar 1) (ret (.int 2)) subD) (ret [])))))))) addD) (setI 3))) (ret .nx)) (seqM (thenN (bnd (do2 (dVar 3) (bnd (bnd (consO 0 (consD (bnd (consM (dVar 3) (ret [])) (un1 lenD)) (ret []))) (callN 2 (f_Ltake C))) resD) ixM) (setI 4))) (seqM (ifM (orB (do2 (dVar 2) (ret (.int 0)) fun x y => bnd (eqM x y) asB) (orB (notB (bnd (bnd (dVar 1) (isi0 .tuple)) truD)) (orB (do2 (dVar 1) (tupM (ret [])) fun x y => bnd (eqQ x y) asB) (do2 (bnd (bnd (consO 0 (consD (ret (.int 6)) (ret []))) (callN 2 (f_Ltake C))) resD) (ret (.int 0)) fun x y => bnd (eqM x y) asB)))) (bnd (dVar 4) fun d => ret (.rt (.d d))) (ret .nx)) (seqM (parM [5, 6] (vD (bnd (bnd (consO 0 (consD (bnd (consM (dVar 1) (ret [])) (un1 lenD)) (ret []))) (callN 2 (f_Ltake C))) resD) (vD (bnd (bnd (consO 0 (consD (ret (.int 9)) (ret []))) (callN 2 (f_Ltake C))) resD) (ret [])))) (seqM (ifM (do2 (dVar 6) (ret (.int 0)) fun x y => bnd (eqM x y) asB) (bnd (do2 (bnd (dVar 1) fun d => bnd (ret none) fun l => bnd (partM (dVar 5)) fun h => slM d l h) (bnd (dVar 1) fun d => bnd (partM (do2 (dVar 5) (ret (.int 1)) addD)) fun l => bnd (ret none) fun h => slM d l h) addD) fun d => ret (.rt (.d d))) (ret .nx)) (seqM (ifM (do2 (dVar 6) (ret (.int 1)) fun x y => bnd (eqM x y) asB) (bnd (do2 (bnd (dVar 1) fun d => bnd (ret none) fun l => bnd (partM (do2 (dVar 5) (ret (.int 1)) addD)) fun h => slM d l h) (bnd (dVar 1) fun d => bnd (partM (dVar 5)) fun l => bnd (ret none) fun h => slM d l h) addD) fun d => ret (.rt (.d d))) (ret .nx)) (seqM (ifM (do2 (dVar 6) (ret (.int 2)) fun x y => bnd (eqM x y) asB) (bnd (do2 (lstM (consM (bnd (consM (dVar 1) (ret [])) (un1 listD)) (consM (turnsM (dVar 1)) (consM (do2 (dVar 1) (tupM (consM (dVar 4) (ret []))) addD) (consM (tupM (consM (dVar 1) (ret []))) (ret [])))))) (bnd (bnd (consO 0 (consD (ret (.int 4)) (ret []))) (callN 2 (f_Ltake C))) resD) ixM) fun d => ret (.rt (.d d))) (ret .nx)) (seqM (ifM (do2 (dVar 6) (ret (.int 3)) fun x y => bnd (eqM x y) asB) (seqM (thenN (bnd (bnd (bnd (consO 0 (consD (bnd (consM (dVar 1) (ret [])) (un1 lenD)) (ret []))) (callN 2 (f_Ltake C))) resD) (setI 7))) (bnd (do2 (do2 (bnd (dVar 1) fun d => bnd (ret none) fun l => bnd (partM (dVar 5)) fun h => slM d l h) (tupM (consM (do2 (dVar 1) (dVar 7) ixM) (ret []))) addD) (bnd (dVar 1) fun d => bnd (partM (do2 (dVar 5) (ret (.int 1)) addD)) fun l => bnd (ret none) fun h => slM d l h) addD) fun d => ret (.rt (.d d)))) (ret .nx)) (bnd (do2 (do2 (bnd (dVar 1) fun d => bnd (ret none) fun l => bnd (partM (dVar 5)) fun h => slM d l h) (tupM (consM (bnd (bnd (consO 0 (consD (do2 (dVar 1) (dVar 5) ixM) (consD (do2 (dVar 2) (ret (.int 1)) subD) (ret [])))) (callN 3 (f_Lbentr2 C))) resD) (ret []))) addD) (bnd (dVar 1) fun d => bnd (partM (do2 (dVar 5) (ret (.int 1)) addD)) fun l => bnd (ret none) fun h => slM d l h) addD) fun d => ret (.rt (.d d))))))))))))
def f_Lbentr3 (C : Addr) : DF := defM 8 (m_Lbentr3 C)
def b_Lcell_1 (C : Addr) : M Fl := thenN (bnd (do2 (do2 (do2 (dVar 2) (ret (.int 39041)) mulD) (dVar 3) addD) (ret (.int 2147483399)) modD) (setI 2))
def m_Lcell (C : Addr) : M Fl := seqM (ifM (do2 (dVar 1) (bnd (consM (dVar 0) (ret [])) (un1 lenD)) fun x y => bnd (ltD x y) asB) (bnd (do2 (dVar 0) (dVar 1) ixM) fun d => ret (.rt (.d d))) (ret .nx)) (seqM (thenN (bnd (do2 (do2 (ret (.int 70009)) (do2 (do2 (do2 (dVar 1) (dVar 1) mulD) (do2 (ret (.int 5)) (dVar 1) mulD) addD) (ret (.int 9)) addD) mulD) (ret (.int 2147483399)) modD) (setI 2))) (seqM (forM (bnd (bnd (dVar 0) fun d => bnd (ret none) fun l => bnd (partM (ret (.int 3))) fun h => slM d l h) itLst) (setI 3) (b_Lcell_1 C)) (bnd (dVar 2) fun d => ret (.rt (.d d)))))
def f_Lcell (C : Addr) : DF := defM 4 (m_Lcell C)
def b_Lseen_1 (C : Addr) : M Fl := thenN (oappM 2 (tidxM (dVar 0) (oixM 2 (bnd (ret (.int 1)) negD))))
def w_Lseen_2 (C : Addr) : M Bool := andB (do2 (oixM 2 (bnd (ret (.int 1)) negD)) (dVar 0) fun x y => bnd (inM x y) asB) (do2 (oixM 2 (bnd (ret (.int 1)) negD)) (oslM 2 (ret none) (partM (bnd (ret (.int 1)) negD))) fun x y => bnd (ninM x y) asB)
def m_Lseen (C : Addr) : M Fl := seqM (thenN (bnd (olstM (consM (dVar 1) (ret []))) (setO 2))) (seqM (whileM (w_Lseen_2 C) (b_Lseen_1 C)) (bnd (takeO 2) fun d => ret (.rt (.o d))))
def f_Lseen (C : Addr) : DF := defM 3 (m_Lseen C)
def m_is_whole (C : Addr) : M Fl := bnd (andV (bnd (dVar 0) (isi0 .int)) (andV (notV (bnd (dVar 0) (isi0 .bool))) (chM leD leD (dVar 1) (dVar 0) (dVar 2)))) fun d => ret (.rt (.d d))
def f_is_whole (C : Addr) : DF := defM 3 (m_is_whole C)
def m_are_sizes (C : Addr) : M Fl := seqM (ifM (orB (notB (bnd (bnd (dVar 0) (isi0 .tuple)) truD)) (do2 (bnd (consM (dVar 0) (ret [])) (un1 lenD)) (ret (.int 2)) fun x y => bnd (neM x y) asB)) (bnd (ret (.bl false)) fun d => ret (.rt (.d d))) (ret .nx)) (bnd (andV (bnd (bnd (consD (do2 (dVar 0) (ret (.int 0)) ixM) (consD (ret (.int 1)) (consD (ret (.int 24)) (ret [])))) (callN 3 (f_is_whole C))) resD) (bnd (bnd (consD (do2 (dVar 0) (ret (.int 1)) ixM) (consD (ret (.int 0)) (consD (ret (.int 6)) (ret [])))) (callN 3 (f_is_whole C))) resD)) fun d => ret (.rt (.d d)))
def f_are_sizes (C : Addr) : DF := defM 1 (m_are_sizes C)
def c_fits_1 (C : Addr) : M O := compM (bnd (dVar 1) itTup) (setI 3) (([("seat", 3)] : List (Str × Nat)).map (·.2)) (do2 (dVar 3) (ret .non) fun x y => bnd (notNonD x y) asB) (dVar 3)
def c_fits_2 (C : Addr) : M O := compM (bnd (dVar 2) itLst) (setI 3) (([("seat", 3)] : List (Str × Nat)).map (·.2)) (ret true) (bnd (bnd (consD (dVar 3) (consD (ret (.int 0)) (consD (do2 (bnd (consM (dVar 0) (ret [])) (un1 sumTD)) (ret (.int 1)) subD) (ret [])))) (callN 3 (f_is_whole C))) resD)
def m_fits (C : Addr) : M Fl := seqM (ifM (orB (notB (bnd (bnd (bnd (consD (dVar 0) (ret [])) (callN 1 (f_are_sizes C))) resD) truD)) (orB (notB (bnd (bnd (dVar 1) (isi0 .tuple)) truD)) (do2 (bnd (consM (dVar 1) (ret [])) (un1 lenD)) (do2 (dVar 0) (ret (.int 0)) ixM) fun x y => bnd (neM x y) asB))) (bnd (ret (.bl false)) fun d => ret (.rt (.d d))) (ret .nx)) (seqM (thenN (bnd (frzM (c_fits_1 C)) (setI 2))) (seqM (ifM (notB (bnd (bnd (consM (frzM (c_fits_2 C)) (ret [])) (un1 allM)) truD)) (bnd (ret (.bl false)) fun d => ret (.rt (.d d))) (ret .nx)) (bnd (do2 (manyM (dVar 2)) (bnd (consM (dVar 2) (ret [])) (un1 lenD)) eqM) fun d => ret (.rt (.d d)))))
def f_fits (C : Addr) : DF := defM 4 (m_fits C)
def c_is_samer0_1 (C : Addr) : M O := compM (bnd (consM (dVar 0) (consM (dVar 1) (ret []))) zipLM) (setTup [2, 3]) (([("mine", 2), ("theirs", 3)] : List (Str × Nat)).map (·.2)) (ret true) (bnd (bnd (consD (dVar 2) (consD (dVar 3) (ret []))) (callN 2 neverF)) resD)
def m_is_samer0 (C : Addr) : M Fl := seqM (ifM (bnd (bnd (dVar 1) (isi0 .tuple)) truD) (seqM (ifM (orB (notB (bnd (bnd (dVar 0) (isi0 .tuple)) truD)) (do2 (bnd (consM (dVar 0) (ret [])) (un1 lenD)) (bnd (consM (dVar 1) (ret [])) (un1 lenD)) fun x y => bnd (neM x y) asB)) (bnd (ret (.bl false)) fun d => ret (.rt (.d d))) (ret .nx)) (bnd (bnd (consM (frzM (c_is_samer0_1 C)) (ret [])) (un1 allM)) fun d => ret (.rt (.d d)))) (ret .nx)) (bnd (andV (do2 (bnd (dVar 0) (isi0 .bool)) (bnd (dVar 1) (isi0 .bool)) eqM) (do2 (dVar 0) (dVar 1) eqZ)) fun d => ret (.rt (.d d)))
def f_is_samer0 (C : Addr) : DF := defM 4 (m_is_samer0 C)
def c_is_samer1_1 (C : Addr) : M O := compM (bnd (consM (dVar 0) (consM (dVar 1) (ret []))) zipLM) (setTup [2, 3]) (([("mine", 2), ("theirs", 3)] : List (Str × Nat)).map (·.2)) (ret true) (bnd (bnd (consD (dVar 2) (consD (dVar 3) (ret []))) (callN 2 (f_is_samer0 C))) resD)
def m_is_samer1 (C : Addr) : M Fl := seqM (ifM (bnd (bnd (dVar 1) (isi0 .tuple)) truD) (seqM (ifM (orB (notB (bnd (bnd (dVar 0) (isi0 .tuple)) truD)) (do2 (bnd (consM (dVar 0) (ret [])) (un1 lenD)) (bnd (consM (dVar 1) (ret [])) (un1 lenD)) fun x y => bnd (neM x y) asB)) (bnd (ret (.bl false)) fun d => ret (.rt (.d d))) (ret .nx)) (bnd (bnd (consM (frzM (c_is_samer1_1 C)) (ret [])) (un1 allM)) fun d => ret (.rt (.d d)))) (ret .nx)) (bnd (andV (do2 (bnd (dVar 0) (isi0 .bool)) (bnd (dVar 1) (isi0 .bool)) eqM) (do2 (dVar 0) (dVar 1) eqZ)) fun d => ret (.rt (.d d)))
def f_is_samer1 (C : Addr) : DF := defM 4 (m_is_samer1 C)
def b_walked_1 (C : Addr) : M Fl := thenN (oappM 2 (tidxM (dVar 0) (oixM 2 (bnd (ret (.int 1)) negD))))
def w_walked_2 (C : Addr) : M Bool := do2 (oixM 2 (bnd (ret (.int 1)) negD)) (dVar 0) fun x y => bnd (inM x y) asB
def m_walked (C : Addr) : M Fl := seqM (thenN (bnd (olstM (consM (dVar 1) (ret []))) (setO 2))) (seqM (whileM (w_walked_2 C) (b_walked_1 C)) (bnd (takeO 2) fun d => ret (.rt (.o d))))
def f_walked (C : Addr) : DF := defM 3 (m_walked C)
def m_waits_holds (C : Addr) : M Fl := seqM (ifM (orB (do2 (bnd (consM (dVar 0) (ret [])) (un1 lenD)) (ret (.int 5)) fun x y => bnd (neM x y) asB) (orB (notB (bnd (bnd (bnd (consD (do2 (dVar 0) (ret (.int 1)) ixM) (consD (do2 (dVar 0) (ret (.int 2)) ixM) (ret []))) (callN 2 (f_fits C))) resD) truD)) (notB (bnd (bnd (bnd (consD (do2 (dVar 0) (ret (.int 3)) ixM) (consD (ret (.int 0)) (consD (do2 (bnd (consM (do2 (dVar 0) (ret (.int 2)) ixM) (ret [])) (un1 lenD)) (ret (.int 1)) subD) (ret [])))) (callN 3 (f_is_whole C))) resD) truD)))) (bnd (ret (.bl false)) fun d => ret (.rt (.d d))) (ret .nx)) (seqM (asgM (dVar 0) (setTw [setI 2, setI 3, setI 4, setI 5, setI 6])) (seqM (ifM (do2 (do2 (dVar 4) (dVar 5) ixM) (ret .non) fun x y => bnd (notNonD x y) asB) (bnd (ret (.bl false)) fun d => ret (.rt (.d d))) (ret .nx)) (seqM (thenN (bnd (bnd (consM (bnd (bnd (consD (dVar 4) (consD (dVar 5) (ret []))) (callN 2 (f_walked C))) resD) (ret [])) (un1 tupD)) (setI 7))) (bnd (andV (bnd (bnd (consD (dVar 6) (consD (do2 (dVar 7) (bnd (ret (.int 1)) negD) ixM) (ret []))) (callN 2 (f_is_samer1 C))) resD) (bnd (bnd (consD (dVar 1) (consD (dVar 7) (ret []))) (callN 2 (f_is_samer1 C))) resD)) fun d => ret (.rt (.d d))))))
def f_waits_holds (C : Addr) : DF := defM 8 (m_waits_holds C)
def m_holds (C : Addr) : M Fl := seqM (ifM (orB (notB (bnd (bnd (dVar 0) (isi0 .tuple)) truD)) (orB (do2 (dVar 0) (tupM (ret [])) fun x y => bnd (eqQ x y) asB) (orB (notB (bnd (bnd (do2 (dVar 0) (ret (.int 0)) ixM) (isi0 .str)) truD)) (bnd (do2 (dVar 0) (ret (.int 0)) ixM) fun k => bnd (gninM true [("waits", "waits_holds"), ("comes", "comes_holds"), ("never", "never_holds"), ("fewest", "fewest_holds"), ("sits", "sits_holds"), ("nowhere", "nowhere_holds"), ("meet", "meet_holds"), ("join", "join_holds"), ("stands", "stands_holds")] k) asB)))) (bnd (ret (.bl false)) fun d => ret (.rt (.d d))) (ret .nx)) (seqM (thenN (bnd (bnd (do2 (dVar 0) (ret (.int 0)) ixM) (gfnM [("waits", "waits_holds"), ("comes", "comes_holds"), ("never", "never_holds"), ("fewest", "fewest_holds"), ("sits", "sits_holds"), ("nowhere", "nowhere_holds"), ("meet", "meet_holds"), ("join", "join_holds"), ("stands", "stands_holds")])) (setI 2))) (bnd (bnd (fnPick [("waits_holds", f_waits_holds C)] 2 fun df => bnd (consM (dVar 0) (consM (dVar 1) (ret []))) fun ds => ask (ds.length = 2) (callD df ds)) resD) fun d => ret (.rt (.d d))))
def f_holds (C : Addr) : DF := defM 3 (m_holds C)
def b_Ltold_1 (C : Addr) : M Fl := ifM (orB (notB (bnd (bnd (dVar 4) (isi0 .bool)) truD)) (do2 (dVar 4) (dVar 2) fun x y => bnd (neM x y) asB)) (bnd (ret (.bl false)) fun d => ret (.rt (.d d))) (ret .nx)
def m_Ltold (C : Addr) : M Fl := seqM (thenN (bnd (bnd (consM (tupM (consM (dVar 0) (consM (dVar 1) (ret [])))) (ret [])) (un1 reprE)) (setI 3))) (seqM (forM (bnd (lstM (consM (bnd (bnd (consD (dVar 0) (consD (dVar 1) (ret []))) (callN 2 (f_holds C))) resD) (consM (bnd (bnd (consM (dVar 1) (consM (dVar 0) (ret []))) fun es => callK 0 2 (pick [1, 0]) (f_holds C) [] es) resD) (consM (bnd (bnd (consD (dVar 0) (consD (dVar 1) (ret []))) (callN 2 (f_holds C))) resD) (ret []))))) itLst) (setI 4) (b_Ltold_1 C)) (bnd (do2 (bnd (consM (tupM (consM (dVar 0) (consM (dVar 1) (ret [])))) (ret [])) (un1 reprE)) (dVar 3) eqM) fun d => ret (.rt (.d d))))
def f_Ltold (C : Addr) : DF := defM 5 (m_Ltold C)
def b_Leach_right_1 (C : Addr) : M Fl := ifM (notB (bnd (bnd (bnd (consD (dVar 6) (consD (dVar 3) (consD (ret (.bl false)) (ret [])))) (callN 3 (f_Ltold C))) resD) truD)) (bnd (ret (.bl false)) fun d => ret (.rt (.d d))) (ret .nx)
def b_Leach_right_2 (C : Addr) : M Fl := ifM (notB (bnd (bnd (bnd (consD (dVar 4) (consD (dVar 7) (consD (andV (dVar 5) (do2 (dVar 7) (dVar 3) eqM)) (ret [])))) (callN 3 (f_Ltold C))) resD) truD)) (bnd (ret (.bl false)) fun d => ret (.rt (.d d))) (ret .nx)
def b_Leach_right_3 (C : Addr) : M Fl := seqM (thenN (bnd (bnd (consM (bnd (bnd (consD (dVar 1) (consD (dVar 2) (ret []))) (callN 2 (f_Lseen C))) resD) (ret [])) (un1 tupD)) (setI 3))) (seqM (parM [4, 5] (vD (tupM (consM (ret (.str "waits")) (consM (dVar 0) (consM (dVar 1) (consM (dVar 2) (consM (do2 (dVar 3) (bnd (ret (.int 1)) negD) ixM) (ret []))))))) (vD (do2 (do2 (dVar 1) (dVar 2) ixM) (ret .non) isNonD) (ret [])))) (seqM (ifM (notB (bnd (bnd (bnd (consD (dVar 4) (consD (dVar 3) (consD (dVar 5) (ret [])))) (callN 3 (f_Ltold C))) resD) truD)) (bnd (ret (.bl false)) fun d => ret (.rt (.d d))) (ret .nx)) (seqM (forM (bnd (lstM (consM (tupM (consM (ret (.str "waits")) (consM (dVar 0) (consM (dVar 1) (consM (do2 (dVar 2) (do2 (dVar 0) (ret (.int 0)) ixM) subD) (consM (do2 (dVar 3) (bnd (ret (.int 1)) negD) ixM) (ret []))))))) (consM (do2 (bnd (dVar 4) fun d => bnd (ret none) fun l => bnd (partM (ret (.int 4))) fun h => slM d l h) (tupM (consM (do2 (do2 (dVar 3) (bnd (ret (.int 1)) negD) ixM) (bnd (consM (dVar 0) (ret [])) (un1 sumTD)) subD) (ret []))) addD) (ret [])))) itLst) (setI 6) (b_Leach_right_1 C)) (forM (bnd (lstM (consM (bnd (consM (dVar 3) (ret [])) (un1 listD)) (consM (bnd (dVar 3) fun d => bnd (ret none) fun l => bnd (partM (bnd (ret (.int 1)) negD)) fun h => slM d l h) (consM (do2 (dVar 3) (bnd (dVar 3) fun d => bnd (partM (bnd (ret (.int 1)) negD)) fun l => bnd (ret none) fun h => slM d l h) addD) (consM (turnsM (dVar 3)) (consM (ret .non) (consM (tupM (ret [])) (ret [])))))))) itLst) (setI 7) (b_Leach_right_2 C)))))
def m_Leach_right (C : Addr) : M Fl := seqM (forM (bnd (consM (do2 (dVar 0) (ret (.int 0)) ixM) (ret [])) itR1) (setI 2) (b_Leach_right_3 C)) (bnd (ret (.bl true)) fun d => ret (.rt (.d d)))
def f_Leach_right (C : Addr) : DF := defM 8 (m_Leach_right C)
def c_Lfits_1 (C : Addr) : M O := compM (bnd (dVar 1) itTup) (setI 3) (([("_law_chair", 3)] : List (Str × Nat)).map (·.2)) (do2 (dVar 3) (ret .non) fun x y => bnd (notNonD x y) asB) (dVar 3)
def c_Lfits_2 (C : Addr) : M O := compM (bnd (dVar 2) itLst) (setI 3) (([("_law_chair", 3)] : List (Str × Nat)).map (·.2)) (ret true) (bnd (bnd (consD (dVar 3) (consD (ret (.int 0)) (consD (do2 (bnd (consM (dVar 0) (ret [])) (un1 sumTD)) (ret (.int 1)) subD) (ret [])))) (callN 3 (f_Lwhole C))) resD)
def m_Lfits (C : Addr) : M Fl := seqM (ifM (orB (notB (bnd (bnd (dVar 0) (isi0 .tuple)) truD)) (orB (do2 (bnd (consM (dVar 0) (ret [])) (un1 lenD)) (ret (.int 2)) fun x y => bnd (neM x y) asB) (notB (bnd (bnd (bnd (consD (do2 (dVar 0) (ret (.int 0)) ixM) (consD (ret (.int 1)) (consD (ret (.int 24)) (ret [])))) (callN 3 (f_Lwhole C))) resD) truD)))) (bnd (ret (.bl false)) fun d => ret (.rt (.d d))) (ret .nx)) (seqM (ifM (orB (notB (bnd (bnd (bnd (consD (do2 (dVar 0) (ret (.int 1)) ixM) (consD (ret (.int 0)) (consD (ret (.int 6)) (ret [])))) (callN 3 (f_Lwhole C))) resD) truD)) (orB (notB (bnd (bnd (dVar 1) (isi0 .tuple)) truD)) (do2 (bnd (consM (dVar 1) (ret [])) (un1 lenD)) (do2 (dVar 0) (ret (.int 0)) ixM) fun x y => bnd (neM x y) asB))) (bnd (ret (.bl false)) fun d => ret (.rt (.d d))) (ret .nx)) (seqM (thenN (bnd (frzM (c_Lfits_1 C)) (setI 2))) (seqM (ifM (notB (bnd (bnd (consM (frzM (c_Lfits_2 C)) (ret [])) (un1 allM)) truD)) (bnd (ret (.bl false)) fun d => ret (.rt (.d d))) (ret .nx)) (bnd (do2 (manyM (dVar 2)) (bnd (consM (dVar 2) (ret [])) (un1 lenD)) eqM) fun d => ret (.rt (.d d))))))
def f_Lfits (C : Addr) : DF := defM 4 (m_Lfits C)
def m_Lis_waits (C : Addr) : M Fl := seqM (ifM (orB (notB (bnd (bnd (dVar 0) (isi0 .tuple)) truD)) (orB (do2 (bnd (consM (dVar 0) (ret [])) (un1 lenD)) (ret (.int 5)) fun x y => bnd (neM x y) asB) (orB (do2 (do2 (dVar 0) (ret (.int 0)) ixM) (ret (.str "waits")) fun x y => bnd (neQ x y) asB) (notB (bnd (bnd (bnd (consD (do2 (dVar 0) (ret (.int 1)) ixM) (consD (do2 (dVar 0) (ret (.int 2)) ixM) (ret []))) (callN 2 (f_Lfits C))) resD) truD))))) (bnd (ret (.bl false)) fun d => ret (.rt (.d d))) (ret .nx)) (seqM (ifM (orB (notB (bnd (bnd (bnd (consD (do2 (dVar 0) (ret (.int 3)) ixM) (consD (ret (.int 0)) (consD (do2 (do2 (do2 (dVar 0) (ret (.int 1)) ixM) (ret (.int 0)) ixM) (ret (.int 1)) subD) (ret [])))) (callN 3 (f_Lwhole C))) resD) truD)) (do2 (do2 (do2 (dVar 0) (ret (.int 2)) ixM) (do2 (dVar 0) (ret (.int 3)) ixM) ixM) (ret .non) fun x y => bnd (notNonD x y) asB)) (bnd (ret (.bl false)) fun d => ret (.rt (.d d))) (ret .nx)) (seqM (thenN (bnd (bnd (consM (bnd (bnd (consD (do2 (dVar 0) (ret (.int 2)) ixM) (consD (do2 (dVar 0) (ret (.int 3)) ixM) (ret []))) (callN 2 (f_Lseen C))) resD) (ret [])) (un1 tupD)) (setI 2))) (bnd (andV (do2 (bnd (consM (do2 (dVar 0) (ret (.int 4)) ixM) (ret [])) (un1 reprE)) (bnd (consM (do2 (dVar 2) (bnd (ret (.int 1)) negD) ixM) (ret [])) (un1 reprE)) eqM) (do2 (bnd (consM (dVar 1) (ret [])) (un1 reprE)) (bnd (consM (dVar 2) (ret [])) (un1 reprE)) eqM)) fun d => ret (.rt (.d d)))))
def f_Lis_waits (C : Addr) : DF := defM 3 (m_Lis_waits C)
def b_Lno_halls_right_1 (C : Addr) : M Fl := ifM (notB (bnd (bnd (bnd (consD (tupM (consM (ret (.str "waits")) (consM (dVar 0) (consM (do2 (tupM (consM (ret .non) (ret []))) (dVar 1) mulD) (consM (ret (.int 0)) (consM (ret (.int 0)) (ret []))))))) (consD (tupM (consM (ret (.int 0)) (ret []))) (consD (ret (.bl false)) (ret [])))) (callN 3 (f_Ltold C))) resD) truD)) (bnd (ret (.bl false)) fun d => ret (.rt (.d d))) (ret .nx)
def b_Lno_halls_right_2 (C : Addr) : M Fl := forM (bnd (lstM (consM (ret (.int 0)) (consM (ret (.int 1)) (consM (ret (.int 3)) (consM (ret (.int 25)) (ret [])))))) itLst) (setI 1) (b_Lno_halls_right_1 C)
def m_Lno_halls_right (C : Addr) : M Fl := seqM (forM (bnd (lstM (consM (tupM (consM (ret (.int 25)) (consM (ret (.int 0)) (ret [])))) (consM (tupM (consM (ret (.int 0)) (consM (ret (.int 1)) (ret [])))) (consM (tupM (consM (ret (.int 3)) (consM (ret (.int 7)) (ret [])))) (consM (tupM (consM (ret (.int 3)) (consM (bnd (ret (.int 1)) negD) (ret [])))) (consM (tupM (consM (ret (.int 3)) (ret []))) (consM (lstM (consM (ret (.int 3)) (consM (ret (.int 0)) (ret [])))) (consM (tupM (consM (ret (.int 3)) (consM (ret (.int 0)) (consM (ret (.int 0)) (ret []))))) (consM (tupM (consM (ret (.bl true)) (consM (ret (.int 0)) (ret [])))) (consM (tupM (consM (ret (.int 1)) (consM (ret (.bl true)) (ret [])))) (consM (ret (.int 3)) (consM (ret .non) (ret []))))))))))))) itLst) (setI 0) (b_Lno_halls_right_2 C)) (bnd (bnd (bnd (consD (tupM (consM (ret (.str "waits")) (consM (tupM (consM (ret (.int 24)) (consM (ret (.int 6)) (ret [])))) (consM (do2 (tupM (consM (ret .non) (ret []))) (ret (.int 24)) mulD) (consM (ret (.int 23)) (consM (ret (.int 23)) (ret []))))))) (consD (tupM (consM (ret (.int 23)) (ret []))) (consD (ret (.bl true)) (ret [])))) (callN 3 (f_Ltold C))) resD) fun d => ret (.rt (.d d)))
def f_Lno_halls_right (C : Addr) : DF := defM 2 (m_Lno_halls_right C)
def m_Lpool (C : Addr) : M Fl := seqM (thenN (bnd (ret (.int 0)) (setI 1))) (seqM (ifM (orB (do2 (dVar 0) (ret (.int 0)) fun x y => bnd (ltD x y) asB) (do2 (dVar 0) (do2 (ret (.int 10)) (ret (.int 18)) powD) fun x y => bnd (geD x y) asB)) (thenN (bnd (bnd (consM (dVar 0) (ret [])) (un1 absD)) (setI 1))) (ret .nx)) (bnd (olstM (consM (do2 (dVar 0) (ret (.int 2147483399)) modD) (consM (dVar 1) (consM (ret (.int 0)) (ret []))))) fun d => ret (.rt (.o d))))
def f_Lpool (C : Addr) : DF := defM 2 (m_Lpool C)
def m_Lsizes (C : Addr) : M Fl := seqM (parM [3, 4] (vD (do2 (ret (.int 1)) (bnd (bnd (consO 0 (consD (dVar 1) (ret []))) (callN 2 (f_Ltake C))) resD) addD) (vD (bnd (bnd (consO 0 (consD (ret (.int 2)) (ret []))) (callN 2 (f_Ltake C))) resD) (ret [])))) (bnd (tupM (consM (dVar 3) (consM (do2 (dVar 4) (bnd (bnd (consO 0 (consD (do2 (dVar 2) (ret (.int 1)) addD) (ret []))) (callN 2 (f_Ltake C))) resD) mulD) (ret [])))) fun d => ret (.rt (.d d)))
def f_Lsizes (C : Addr) : DF := defM 5 (m_Lsizes C)
def b_Lstood_1 (C : Addr) : M Fl := seqM (thenN (bnd (opopM 2 (ifM (do2 (dVar 4) (ret (.int 0)) fun x y => bnd (gtD x y) asB) (bnd (bnd (consO 0 (consD (olenM 2) (ret []))) (callN 2 (f_Ltake C))) resD) (bnd (consM (do2 (olenM 2) (ret (.int 1)) subD) (consM (ret (.int 1)) (ret []))) (un2 min2D)))) (setI 7))) (thenN (oappM 3 (ifM (do2 (bnd (bnd (consO 0 (consD (dVar 5) (ret []))) (callN 2 (f_Ltake C))) resD) (ret (.int 0)) fun x y => bnd (eqM x y) asB) (ret .non) (dVar 7))))
def m_Lstood (C : Addr) : M Fl := seqM (parM [2, 3] (vO (lRgM (bnd (consM (dVar 1) (ret [])) (un1 sumTD))) (vO (olstM (ret [])) (ret [])))) (seqM (parM [4, 5] (vD (bnd (bnd (consO 0 (consD (ret (.int 4)) (ret []))) (callN 2 (f_Ltake C))) resD) (vD (do2 (lstM (consM (ret (.int 2)) (consM (ret (.int 4)) (consM (ret (.int 9)) (consM (ret (.int 30)) (ret [])))))) (bnd (bnd (consO 0 (consD (ret (.int 4)) (ret []))) (callN 2 (f_Ltake C))) resD) ixM) (ret [])))) (seqM (forM (bnd (consM (do2 (dVar 1) (ret (.int 0)) ixM) (ret [])) itR1) (setI 6) (b_Lstood_1 C)) (bnd (otupV 3) fun d => ret (.rt (.d d)))))
def f_Lstood (C : Addr) : DF := defM 8 (m_Lstood C)
def c_law_1 (C : Addr) : M O := compM (bnd (consM (do2 (dVar 3) (ret (.int 0)) ixM) (ret [])) itR1) (setI 7) (([("_law_lodger", 7)] : List (Str × Nat)).map (·.2)) (do2 (do2 (dVar 4) (dVar 7) ixM) (ret .non) fun x y => bnd (isNonD x y) asB) (dVar 7)
def b_law_2 (C : Addr) : M Fl := seqM (thenN (bnd (do2 (do2 (dVar 5) (lstM (consM (ret (.int 0)) (ret []))) addD) (bnd (bnd (consO 2 (consD (do2 (bnd (consM (dVar 5) (ret [])) (un1 lenD)) (ret (.int 1)) addD) (ret []))) (callN 2 (f_Ltake C))) resD) ixM) (setI 7))) (seqM (thenN (bnd (bnd (consM (bnd (bnd (consD (dVar 4) (consD (dVar 7) (ret []))) (callN 2 (f_Lseen C))) resD) (ret [])) (un1 tupD)) (setI 8))) (seqM (thenN (bnd (tupM (consM (ret (.str "waits")) (consM (dVar 3) (consM (dVar 4) (consM (dVar 7) (consM (do2 (dVar 8) (bnd (ret (.int 1)) negD) ixM) (ret []))))))) (setI 9))) (seqM (ifM (do2 (bnd (bnd (consO 2 (consD (ret (.int 2)) (ret []))) (callN 2 (f_Ltake C))) resD) (ret (.int 0)) fun x y => bnd (eqM x y) asB) (thenN (bnd (bnd (bnd (consO 2 (consD (dVar 8) (consD (ret (.int 2)) (ret [])))) (callN 3 (f_Lbentr3 C))) resD) (setI 8))) (thenN (bnd (bnd (bnd (consO 2 (consD (dVar 9) (consD (ret (.int 3)) (ret [])))) (callN 3 (f_Lbentr3 C))) resD) (setI 9)))) (ifM (notB (bnd (bnd (bnd (consD (dVar 9) (consD (dVar 8) (consD (bnd (bnd (consD (dVar 9) (consD (dVar 8) (ret []))) (callN 2 (f_Lis_waits C))) resD) (ret [])))) (callN 3 (f_Ltold C))) resD) truD)) (bnd (ret (.bl false)) fun d => ret (.rt (.d d))) (ret .nx)))))
def b_law_3 (C : Addr) : M Fl := seqM (thenN (bnd (bnd (bnd (consD (bnd (bnd (consD (dVar 0) (consD (dVar 1) (ret []))) (callN 2 (f_Lcell C))) resD) (ret [])) (callN 1 (f_Lpool C))) resO) (setO 2))) (seqM (thenN (bnd (do2 (lstM (consM (bnd (bnd (consO 2 (consD (ret (.int 8)) (consD (ret (.int 2)) (ret [])))) (callN 3 (f_Lsizes C))) resD) (consM (tupM (consM (ret (.int 24)) (consM (ret (.int 6)) (ret [])))) (ret [])))) (bnd (consM (do2 (bnd (bnd (consO 2 (consD (ret (.int 6)) (ret []))) (callN 2 (f_Ltake C))) resD) (ret (.int 1)) eqM) (ret [])) (un1 intD)) ixM) (setI 3))) (seqM (thenN (bnd (bnd (bnd (consO 2 (consD (dVar 3) (ret []))) (callN 2 (f_Lstood C))) resD) (setI 4))) (seqM (ifM (notB (bnd (bnd (bnd (consD (dVar 3) (consD (dVar 4) (ret []))) (callN 2 (f_Leach_right C))) resD) truD)) (bnd (ret (.bl false)) fun d => ret (.rt (.d d))) (ret .nx)) (seqM (thenN (bnd (frzM (c_law_1 C)) (setI 5))) (forM (bnd (consM (ret (.int 14)) (ret [])) itR1) (setI 6) (b_law_2 C))))))
def m_law (C : Addr) : M Fl := seqM (ifM (notB (bnd (bnd (callN 0 (f_Lno_halls_right C) []) resD) truD)) (bnd (ret (.bl false)) fun d => ret (.rt (.d d))) (ret .nx)) (seqM (forM (bnd (consM (bnd (consM (ret (.int 2)) (consM (bnd (consM (bnd (consM (dVar 0) (ret [])) (un1 lenD)) (consM (ret (.int 4)) (ret []))) (un2 min2D)) (ret []))) (un2 max2D)) (ret [])) itR1) (setI 1) (b_law_3 C)) (bnd (ret (.bl true)) fun d => ret (.rt (.d d))))
def f_law (C : Addr) : DF := defM 10 (m_law C)
end DLP
set_option Elab.async false
set_option linter.all false
set_option maxRecDepth 100000
set_option maxHeartbeats 0
namespace DLP
open PySem PySem.Spec PyProof.Rows L2 DL
def fnH : List He.FnD := [⟨("_law_take", none), "_law_take", "_law_take", defArgs s_Ltake, defBody s_Ltake, defScope s_Ltake⟩, ⟨("_law_whole", none), "_law_whole", "_law_whole", defArgs s_Lwhole, defBody s_Lwhole, defScope s_Lwhole⟩, ⟨("_law_bent", none), "_law_bent", "_law_bent", defArgs s_Lbentr0, defBody s_Lbentr0, defScope s_Lbentr0⟩, ⟨("_law_bent", none), "_law_bent", "_law_bent", defArgs s_Lbentr1, defBody s_Lbentr1, defScope s_Lbentr1⟩, ⟨("_law_bent", none), "_law_bent", "_law_bent", defArgs s_Lbentr2, defBody s_Lbentr2, defScope s_Lbentr2⟩, ⟨("_law_bent", none), "_law_bent", "_law_bent", defArgs s_Lbentr3, defBody s_Lbentr3, defScope s_Lbentr3⟩, ⟨("_law_cell", none), "_law_cell", "_law_cell", defArgs s_Lcell, defBody s_Lcell, defScope s_Lcell⟩, ⟨("_law_seen", none), "_law_seen", "_law_seen", defArgs s_Lseen, defBody s_Lseen, defScope s_Lseen⟩, ⟨("is_whole", none), "is_whole", "is_whole", defArgs s_is_whole, defBody s_is_whole, defScope s_is_whole⟩, ⟨("are_sizes", none), "are_sizes", "are_sizes", defArgs s_are_sizes, defBody s_are_sizes, defScope s_are_sizes⟩, ⟨("fits", none), "fits", "fits", defArgs s_fits, defBody s_fits, defScope s_fits⟩, ⟨("is_same", none), "is_same", "is_same", defArgs s_is_samer0, defBody s_is_samer0, defScope s_is_samer0⟩, ⟨("is_same", none), "is_same", "is_same", defArgs s_is_samer1, defBody s_is_samer1, defScope s_is_samer1⟩, ⟨("walked", none), "walked", "walked", defArgs s_walked, defBody s_walked, defScope s_walked⟩, ⟨("waits_holds", none), "waits_holds", "waits_holds", defArgs s_waits_holds, defBody s_waits_holds, defScope s_waits_holds⟩, ⟨("holds", none), "holds", "holds", defArgs s_holds, defBody s_holds, defScope s_holds⟩, ⟨("_law_told", none), "_law_told", "_law_told", defArgs s_Ltold, defBody s_Ltold, defScope s_Ltold⟩, ⟨("_law_each_right", none), "_law_each_right", "_law_each_right", defArgs s_Leach_right, defBody s_Leach_right, defScope s_Leach_right⟩, ⟨("_law_fits", none), "_law_fits", "_law_fits", defArgs s_Lfits, defBody s_Lfits, defScope s_Lfits⟩, ⟨("_law_is_waits", none), "_law_is_waits", "_law_is_waits", defArgs s_Lis_waits, defBody s_Lis_waits, defScope s_Lis_waits⟩, ⟨("_law_no_halls_right", none), "_law_no_halls_right", "_law_no_halls_right", defArgs s_Lno_halls_right, defBody s_Lno_halls_right, defScope s_Lno_halls_right⟩, ⟨("_law_pool", none), "_law_pool", "_law_pool", defArgs s_Lpool, defBody s_Lpool, defScope s_Lpool⟩, ⟨("_law_sizes", none), "_law_sizes", "_law_sizes", defArgs s_Lsizes, defBody s_Lsizes, defScope s_Lsizes⟩, ⟨("_law_stood", none), "_law_stood", "_law_stood", defArgs s_Lstood, defBody s_Lstood, defScope s_Lstood⟩, ⟨("law", none), "law", "law", defArgs s_law, defBody s_law, defScope s_law⟩]
def chkH0 : List (PySem.W.Frag → Bool) := [fun K => PySem.W.keepIn K (.ref (He.fAd K ("_law_take", none))),
  fun K => decide (PySem.W.nsIn K mainGlobals "_law_take" = some (some (.ref (He.fAd K ("_law_take", none))))),
  fun K => PySem.W.keepIn K (.ref (He.fAd K ("_law_whole", none))),
  fun K => decide (PySem.W.nsIn K mainGlobals "_law_whole" = some (some (.ref (He.fAd K ("_law_whole", none))))),
  fun K => PySem.W.keepIn K (.ref (He.fAd K ("_law_bent", none))),
  fun K => decide (PySem.W.nsIn K mainGlobals "_law_bent" = some (some (.ref (He.fAd K ("_law_bent", none))))),
  fun K => PySem.W.keepIn K (.ref (He.fAd K ("_law_bent", none))),
  fun K => decide (PySem.W.nsIn K mainGlobals "_law_bent" = some (some (.ref (He.fAd K ("_law_bent", none))))),
  fun K => PySem.W.keepIn K (.ref (He.fAd K ("_law_bent", none))),
  fun K => decide (PySem.W.nsIn K mainGlobals "_law_bent" = some (some (.ref (He.fAd K ("_law_bent", none))))),
  fun K => PySem.W.keepIn K (.ref (He.fAd K ("_law_bent", none))),
  fun K => decide (PySem.W.nsIn K mainGlobals "_law_bent" = some (some (.ref (He.fAd K ("_law_bent", none))))),
  fun K => PySem.W.keepIn K (.ref (He.fAd K ("_law_cell", none))),
  fun K => decide (PySem.W.nsIn K mainGlobals "_law_cell" = some (some (.ref (He.fAd K ("_law_cell", none))))),
  fun K => PySem.W.keepIn K (.ref (He.fAd K ("_law_seen", none))),
  fun K => decide (PySem.W.nsIn K mainGlobals "_law_seen" = some (some (.ref (He.fAd K ("_law_seen", none))))),
  fun K => PySem.W.keepIn K (.ref (He.fAd K ("is_whole", none))),
  fun K => decide (PySem.W.nsIn K mainGlobals "is_whole" = some (some (.ref (He.fAd K ("is_whole", none))))),
  fun K => PySem.W.keepIn K (.ref (He.fAd K ("are_sizes", none))),
  fun K => decide (PySem.W.nsIn K mainGlobals "are_sizes" = some (some (.ref (He.fAd K ("are_sizes", none))))),
  fun K => PySem.W.keepIn K (.ref (He.fAd K ("fits", none))),
  fun K => decide (PySem.W.nsIn K mainGlobals "fits" = some (some (.ref (He.fAd K ("fits", none))))),
  fun K => PySem.W.keepIn K (.ref (He.fAd K ("is_same", none))),
  fun K => decide (PySem.W.nsIn K mainGlobals "is_same" = some (some (.ref (He.fAd K ("is_same", none))))),
  fun K => PySem.W.keepIn K (.ref (He.fAd K ("is_same", none))),
  fun K => decide (PySem.W.nsIn K mainGlobals "is_same" = some (some (.ref (He.fAd K ("is_same", none))))),
  fun K => PySem.W.keepIn K (.ref (He.fAd K ("walked", none))),
  fun K => decide (PySem.W.nsIn K mainGlobals "walked" = some (some (.ref (He.fAd K ("walked", none))))),
  fun K => PySem.W.keepIn K (.ref (He.fAd K ("waits_holds", none))),
  fun K => decide (PySem.W.nsIn K mainGlobals "waits_holds" = some (some (.ref (He.fAd K ("waits_holds", none)))))]
def chkH1 : List (PySem.W.Frag → Bool) := [fun K => PySem.W.keepIn K (.ref (He.fAd K ("holds", none))),
  fun K => decide (PySem.W.nsIn K mainGlobals "holds" = some (some (.ref (He.fAd K ("holds", none))))),
  fun K => PySem.W.keepIn K (.ref (He.fAd K ("_law_told", none))),
  fun K => decide (PySem.W.nsIn K mainGlobals "_law_told" = some (some (.ref (He.fAd K ("_law_told", none))))),
  fun K => PySem.W.keepIn K (.ref (He.fAd K ("_law_each_right", none))),
  fun K => decide (PySem.W.nsIn K mainGlobals "_law_each_right" = some (some (.ref (He.fAd K ("_law_each_right", none))))),
  fun K => PySem.W.keepIn K (.ref (He.fAd K ("_law_fits", none))),
  fun K => decide (PySem.W.nsIn K mainGlobals "_law_fits" = some (some (.ref (He.fAd K ("_law_fits", none))))),
  fun K => PySem.W.keepIn K (.ref (He.fAd K ("_law_is_waits", none))),
  fun K => decide (PySem.W.nsIn K mainGlobals "_law_is_waits" = some (some (.ref (He.fAd K ("_law_is_waits", none))))),
  fun K => PySem.W.keepIn K (.ref (He.fAd K ("_law_no_halls_right", none))),
  fun K => decide (PySem.W.nsIn K mainGlobals "_law_no_halls_right" = some (some (.ref (He.fAd K ("_law_no_halls_right", none))))),
  fun K => PySem.W.keepIn K (.ref (He.fAd K ("_law_pool", none))),
  fun K => decide (PySem.W.nsIn K mainGlobals "_law_pool" = some (some (.ref (He.fAd K ("_law_pool", none))))),
  fun K => PySem.W.keepIn K (.ref (He.fAd K ("_law_sizes", none))),
  fun K => decide (PySem.W.nsIn K mainGlobals "_law_sizes" = some (some (.ref (He.fAd K ("_law_sizes", none))))),
  fun K => PySem.W.keepIn K (.ref (He.fAd K ("_law_stood", none))),
  fun K => decide (PySem.W.nsIn K mainGlobals "_law_stood" = some (some (.ref (He.fAd K ("_law_stood", none))))),
  fun K => PySem.W.keepIn K (.ref (He.fAd K ("law", none))),
  fun K => decide (PySem.W.nsIn K mainGlobals "law" = some (some (.ref (He.fAd K ("law", none))))),
  fun K => decide (PySem.W.nsIn K mainGlobals "abs" = some none),
  fun K => decide (PySem.W.nsIn K mainGlobals "all" = some none),
  fun K => decide (PySem.W.nsIn K mainGlobals "bool" = some none),
  fun K => decide (PySem.W.nsIn K mainGlobals "divmod" = some none),
  fun K => decide (PySem.W.nsIn K mainGlobals "int" = some none),
  fun K => decide (PySem.W.nsIn K mainGlobals "isinstance" = some none),
  fun K => decide (PySem.W.nsIn K mainGlobals "len" = some none),
  fun K => decide (PySem.W.nsIn K mainGlobals "list" = some none),
  fun K => decide (PySem.W.nsIn K mainGlobals "max" = some none),
  fun K => decide (PySem.W.nsIn K mainGlobals "min" = some none)]
def chkH2 : List (PySem.W.Frag → Bool) := [fun K => decide (PySem.W.nsIn K mainGlobals "range" = some none),
  fun K => decide (PySem.W.nsIn K mainGlobals "repr" = some none),
  fun K => decide (PySem.W.nsIn K mainGlobals "set" = some none),
  fun K => decide (PySem.W.nsIn K mainGlobals "str" = some none),
  fun K => decide (PySem.W.nsIn K mainGlobals "sum" = some none),
  fun K => decide (PySem.W.nsIn K mainGlobals "tuple" = some none),
  fun K => decide (PySem.W.nsIn K mainGlobals "zip" = some none),
  fun K => DL.intB K "MOST_GUESTS" 24,
  fun K => DL.intB K "MOST_SPARE" 6,
  fun K => tabFB K "JUDGES" [("waits", "waits_holds"), ("comes", "comes_holds"), ("never", "never_holds"), ("fewest", "fewest_holds"), ("sits", "sits_holds"), ("nowhere", "nowhere_holds"), ("meet", "meet_holds"), ("join", "join_holds"), ("stands", "stands_holds")]]
def chkH : List (PySem.W.Frag → Bool) := chkH0 ++ chkH1 ++ chkH2
def looseH0 : List Str := ["MOST_GUESTS", "MOST_SPARE", "MOST_DEEDS", "LATEST", "FARTHEST", "is_whole", "is_same", "are_sizes", "fits", "walked", "stepped", "behind", "leads_of", "ring_from", "rings_of", "ties_of", "end_stays", "comes_of", "lonely_in", "strained", "ring_cost", "fewest_of", "soonest_of", "led_by", "least_marks", "meet_of", "crossing", "behind_spare", "unlike_pair", "next_pair"]
def looseH1 : List Str := ["join_of", "is_shift", "are_shifts", "is_gone", "next_going", "first_within", "meeting", "ring_beats", "parted_at", "beats_of", "end_of", "waits_holds", "two_fit", "comes_holds", "is_apart", "is_turned", "is_crossed", "is_left", "never_holds", "is_row_of", "fewest_holds", "seat_told", "sits_holds", "nowhere_holds", "three_leads", "meet_holds", "join_holds", "stands_holds", "JUDGES", "holds"]
def looseH2 : List Str := ["_law_cell", "_law_pool", "_law_take", "_law_whole", "_law_sizes", "_law_stood", "_law_seen", "_law_fits", "_law_bent", "_law_told", "_law_is_waits", "_law_each_right", "_law_no_halls_right"]
def looseH : List Str := looseH0 ++ looseH1 ++ looseH2
abbrev rowH : PySem.W.OpenRow := PySem.W.OpenLaw.row PySem.Challenge.rw_waitseats_k48_claims_of_walks
abbrev viewH : Program := PySem.W.view rowH.prog [76]
def tsH : List TabH := [("JUDGES", ["waits", "comes", "never", "fewest", "sits", "nowhere", "meet", "join", "stands"])]
abbrev hkH : PySem.W.Hook := hookHT 5 chkH fnH tsH
def obH (s : PySem.W.SharedT) : AlHT := obsHT 5 chkH fnH tsH (HandSHeadRun.getT s)
theorem runHf (w : World) : HandSHeadRun.RunEq rowH viewH hkH obH 20000 looseH (w.withFollow "special-get-raises" false) := by
  intro os
  kernel_rfl
theorem runHt (w : World) : HandSHeadRun.RunEq rowH viewH hkH obH 20000 looseH (w.withFollow "special-get-raises" true) := by
  intro os
  kernel_rfl
theorem runH (w : World) : HandSHeadRun.RunEq rowH viewH hkH obH 20000 looseH w := PySem.W.byRow2 "special-get-raises" (P := fun w => HandSHeadRun.RunEq rowH viewH hkH obH 20000 looseH w) runHf runHt w
end DLP
set_option Elab.async false
set_option linter.all false
set_option maxRecDepth 100000
set_option maxHeartbeats 4000000
namespace DL
open PySem PySem.Spec PyProof.Rows L2
/-- the plain lemmas say nothing of tables -/
instance tbs0 : Tbs := ⟨[]⟩
section
variable {α β : Type} {env : List DL.Slot} {E : Exn → List DL.Slot → Prop}
theorem bnd_ap (m : M α) (k : α → M β) (Q : β → List DL.Slot → Prop) : bnd m k env Q E = m env (fun a env' => k a env' Q E) E := rfl
theorem ret_ap (a : α) (Q : α → List DL.Slot → Prop) : DL.ret a env Q E = Q a env := rfl
theorem ask_ap (p : Prop) (m : M α) (Q : α → List DL.Slot → Prop) : ask p m env Q E = (p ∧ m env Q E) := rfl
theorem fail_ap (Q : α → List DL.Slot → Prop) : (fail : M α) env Q E = False := rfl
theorem ite_ap (c : Prop) [Decidable c] (m n : M α) (Q : α → List DL.Slot → Prop) : (if c then m else n) env Q E = if c then m env Q E else n env Q E := by split <;> rfl
end
theorem getElem?_0 {α : Type} (a : α) (l : List α) : (a :: l)[0]? = some a := rfl
theorem getElem?_s {α : Type} (a : α) (l : List α) (n : Nat) : (a :: l)[n + 1]? = l[n]? := rfl
theorem pick_eq {α : Type} (idx : List Nat) (us ws : List α) : pick idx us ws = idx.filterMap fun i => (us ++ ws)[i]? := rfl
theorem at3_0 {α : Type} (x y z : α) : atI [x, y, z] 0 = some x := rfl
theorem at3_1 {α : Type} (x y z : α) : atI [x, y, z] 1 = some y := rfl
theorem at3_2 {α : Type} (x y z : α) : atI [x, y, z] 2 = some z := rfl
theorem ix3_0 : ixN 3 0 = some 0 := rfl
theorem ix3_1 : ixN 3 1 = some 1 := rfl
theorem ix3_2 : ixN 3 2 = some 2 := rfl
theorem wipeE_len {e : List DL.Slot} : ∀ {vs : List Nat}, (wipeE e vs).length = e.length
  | [] => rfl
  | v :: vs => by show ((wipeE e vs).set v _).length = _; rw [List.length_set, wipeE_len]
theorem wipeE_out {e : List DL.Slot} {j : Nat} : ∀ {vs : List Nat}, j ∉ vs → (wipeE e vs)[j]? = e[j]?
  | [], _ => rfl
  | v :: vs, h => by
    show ((wipeE e vs).set v _)[j]? = _
    rw [List.getElem?_set_ne fun z => h (by simp [z]), wipeE_out fun z => h (List.mem_cons_of_mem _ z)]
theorem backE_wipe {e0 e e' : List DL.Slot} {vs : List Nat} (h : wipeE e vs = wipeE e' vs) : backE e0 e vs = backE e0 e' vs := by
  have hl : e.length = e'.length := by have := congrArg List.length h; rwa [wipeE_len, wipeE_len] at this
  refine List.ext_getElem? fun j => ?_
  by_cases hj : j ∈ vs
  · by_cases hl' : j < e.length
    · have a : j < (backE e0 e vs).length := by rw [backE_len]; exact hl'
      have b : j < (backE e0 e' vs).length := by rw [backE_len]; omega
      rw [List.getElem?_eq_getElem a, List.getElem?_eq_getElem b]
      rw [backE_in hj (List.getElem?_eq_getElem a), backE_in hj (List.getElem?_eq_getElem b)]
    · rw [List.getElem?_eq_none (by rw [backE_len]; omega), List.getElem?_eq_none (by rw [backE_len]; omega)]
  · rw [backE_out hj, backE_out hj, ← wipeE_out hj, h, wipeE_out hj]
theorem forL_nil (tg : D → M Unit) (m : M Fl) (env : List DL.Slot) (Q E) : forL tg m [] env Q E = Q .nx env := rfl
theorem forL_cons (tg : D → M Unit) (m : M Fl) (d : D) (ds : List D) (env : List DL.Slot) (Q E) : forL tg m (d :: ds) env Q E = tg d env (fun _ e1 => m e1 (fun f e2 => loopK (forL tg m ds) f e2 Q E) E) E := rfl
theorem loopK_nx (a : M Fl) (env : List DL.Slot) (Q E) : loopK a .nx env Q E = a env Q E := rfl
theorem loopK_rt (a : M Fl) (r : Res) (env : List DL.Slot) (Q E) : loopK a (.rt r) env Q E = Q (.rt r) env := rfl
section
variable {env : List DL.Slot} {Q : D → List DL.Slot → Prop} {E : Exn → List DL.Slot → Prop}
theorem eqM_ii (a b : Int) : eqM (.int a) (.int b) env Q E = Q (.bl (a == b)) env := by show ((_ ∧ _) ∧ _) = _; simp only [show eqOk (.int a) = true from rfl, show eqOk (.int b) = true from rfl, true_and]; rfl
theorem eqM_ni (b : Int) : eqM .non (.int b) env Q E = Q (.bl false) env := by show ((_ ∧ _) ∧ _) = _; simp only [show eqOk .non = true from rfl, show eqOk (.int b) = true from rfl, true_and]; rfl
theorem eqM_in (a : Int) : eqM (.int a) .non env Q E = Q (.bl false) env := by show ((_ ∧ _) ∧ _) = _; simp only [show eqOk .non = true from rfl, show eqOk (.int a) = true from rfl, true_and]; rfl
theorem eqM_ss (a b : Str) : eqM (.str a) (.str b) env Q E = Q (.bl (a == b)) env := rfl
theorem neM_ii (a b : Int) : neM (.int a) (.int b) env Q E = Q (.bl (!(a == b))) env := by show ((_ ∧ _) ∧ _) = _; simp only [show eqOk (.int a) = true from rfl, show eqOk (.int b) = true from rfl, true_and]; rfl
theorem neM_ss (a b : Str) : neM (.str a) (.str b) env Q E = Q (.bl (!(a == b))) env := rfl
end
theorem sl0 : (0 ≤ sizeLine) = True := eq_true (by rw [sizeLine_eq]; decide)
theorem sl1 : (1 ≤ sizeLine) = True := eq_true (by rw [sizeLine_eq]; decide)
theorem sl2 : (2 ≤ sizeLine) = True := eq_true (by rw [sizeLine_eq]; decide)
theorem sl3 : (3 ≤ sizeLine) = True := eq_true (by rw [sizeLine_eq]; decide)
theorem sl4 : (4 ≤ sizeLine) = True := eq_true (by rw [sizeLine_eq]; decide)
theorem sl5 : (5 ≤ sizeLine) = True := eq_true (by rw [sizeLine_eq]; decide)
theorem sl6 : (6 ≤ sizeLine) = True := eq_true (by rw [sizeLine_eq]; decide)
theorem sl7 : (7 ≤ sizeLine) = True := eq_true (by rw [sizeLine_eq]; decide)
theorem sl8 : (8 ≤ sizeLine) = True := eq_true (by rw [sizeLine_eq]; decide)
theorem compL_n (tg : D → M Unit) (vs : List Nat) (cond : M Bool) (elt : M D) (acc : List D) (env : List DL.Slot) (Q E) : compL tg vs cond elt [] acc env Q E = Q acc env := rfl
theorem compL_c (tg : D → M Unit) (vs : List Nat) (cond : M Bool) (elt : M D) (d : D) (ds acc : List D) (env : List DL.Slot) (Q E) : compL tg vs cond elt (d :: ds) acc env Q E = tg d (wipeE env vs) (fun _ e => cond e (fun c e2 => if c = true then elt e2 (fun y e3 => acc.length < sizeLine ∧ compL tg vs cond elt ds (acc ++ [y]) e3 Q E) E else compL tg vs cond elt ds acc e2 Q E) E) E := by
  show tg d (wipeE env vs) (fun _ e => cond e (fun c e2 => (if c = true then bnd elt fun y => ask (acc.length < sizeLine) (compL tg vs cond elt ds (acc ++ [y])) else compL tg vs cond elt ds acc) e2 Q E) E) E = _
  congr 1
  funext _ e
  congr 1
  funext c e2
  cases c <;> rfl
theorem compM_ap (items : M (List D)) (tg : D → M Unit) (vs : List Nat) (cond : M Bool) (elt : M D) (env : List DL.Slot) (Q E) : compM items tg vs cond elt env Q E = items env (fun ds env1 => compL tg vs cond elt ds [] env1 (fun acc env2 => Q (.lst acc) (backE env1 env2 vs)) fun _ _ => False) E := rfl
theorem sm0 : (0 < sizeLine) = True := eq_true (by rw [sizeLine_eq]; decide)
theorem sm1 : (1 < sizeLine) = True := eq_true (by rw [sizeLine_eq]; decide)
theorem sm2 : (2 < sizeLine) = True := eq_true (by rw [sizeLine_eq]; decide)
theorem sm3 : (3 < sizeLine) = True := eq_true (by rw [sizeLine_eq]; decide)
theorem sm4 : (4 < sizeLine) = True := eq_true (by rw [sizeLine_eq]; decide)
theorem sm5 : (5 < sizeLine) = True := eq_true (by rw [sizeLine_eq]; decide)
theorem sm6 : (6 < sizeLine) = True := eq_true (by rw [sizeLine_eq]; decide)
theorem sm7 : (7 < sizeLine) = True := eq_true (by rw [sizeLine_eq]; decide)
theorem sm8 : (8 < sizeLine) = True := eq_true (by rw [sizeLine_eq]; decide)
end DL
set_option Elab.async false
set_option linter.all false
set_option maxRecDepth 100000
set_option maxHeartbeats 4000000
namespace DL
open PySem PySem.Spec PyProof.Rows L2
mutual
def smD : D → Bool
  | .non => true | .bl _ => true | .int i => decide (-1000000000 < i ∧ i < 1000000000)
  | .tup xs => smL xs | .lst xs => smL xs
  | _ => false
def smL : List D → Bool
  | [] => true
  | x :: xs => smD x && smL xs
end
mutual
theorem sm_ok : ∀ d : D, smD d = true → pyOk d = true ∧ (py d).showable = true ∧ (py d).hasDict = false ∧ (py d).leavesShort 13 = true
  | .non, _ => ⟨rfl, rfl, rfl, rfl⟩
  | .bl _, _ => ⟨rfl, rfl, rfl, rfl⟩
  | .int i, h => by
    have q : -1000000000 < i ∧ i < 1000000000 := by simpa [smD] using h
    refine ⟨rfl, ?_, rfl, ?_⟩
    · show decide (i.natAbs.log2 < 1920) = true
      refine decide_eq_true ?_
      have a : i.natAbs < 2 ^ 30 := by omega
      have := Nat.log2_lt (n := i.natAbs) (k := 30)
      by_cases z : i.natAbs = 0
      · rw [z]; decide
      · have := (Nat.log2_lt z).mpr a; omega
    · show decide ((PyData.shown (.int i)).length ≤ 13) = true
      exact decide_eq_true (PyData.shown_int_le2 (by omega) (by omega))
  | .str _, e => by cases e
  | .byt _, e => by cases e
  | .hall _ _, e => by cases e
  | .scr _, e => by cases e
  | .pr _, e => by cases e
  | .tup ds, h => smL_ok ds (by simpa [smD] using h)
  | .lst ds, h => smL_ok ds (by simpa [smD] using h)
theorem smL_ok : ∀ ds : List D, smL ds = true → pyOkL ds = true ∧ PyData.showableAll (pyL ds) = true ∧ PyData.hasDictAll (pyL ds) = false ∧ PyData.leavesShortAll 13 (pyL ds) = true
  | [], _ => ⟨rfl, rfl, rfl, rfl⟩
  | d :: ds, h => by
    have q : smD d = true ∧ smL ds = true := by simpa [smL] using h
    obtain ⟨a1, a2, a3, a4⟩ := sm_ok d q.1
    obtain ⟨b1, b2, b3, b4⟩ := smL_ok ds q.2
    refine ⟨?_, ?_, ?_, ?_⟩
    · show (pyOk d && pyOkL ds) = true; rw [a1, b1]; rfl
    · show ((py d).showable && PyData.showableAll (pyL ds)) = true; rw [a2, b2]; rfl
    · show ((py d).hasDict || PyData.hasDictAll (pyL ds)) = false; rw [a3, b3]; rfl
    · show ((py d).leavesShort 13 && PyData.leavesShortAll 13 (pyL ds)) = true; rw [a4, b4]; rfl
end
def repD (d : D) : Bool := compD d && smD d && decide ((py d).depth ≤ 64) && decide ((py d).bulk ≤ 1000000)
theorem smL_map {α : Type} {f : α → D} {l : List α} (h : ∀ a ∈ l, smD (f a) = true) : smL (l.map f) = true := by
  induction l with
  | nil => rfl
  | cons a l ih => show (smD (f a) && smL (l.map f)) = true; rw [h a (by simp), ih fun b hb => h b (List.mem_cons_of_mem _ hb)]; rfl
theorem bulkL_map {α : Type} {f : α → D} {n : Nat} {l : List α} (h : ∀ a ∈ l, (py (f a)).bulk ≤ n) : PyData.bulkAll (pyL (l.map f)) ≤ (n + 1) * l.length := by
  induction l with
  | nil => show 0 ≤ _; exact Nat.zero_le _
  | cons a l ih =>
    have h1 := h a (by simp)
    have h2 := ih fun b hb => h b (List.mem_cons_of_mem _ hb)
    show (py (f a)).bulk + 1 + PyData.bulkAll (pyL (l.map f)) ≤ (n + 1) * (l.length + 1)
    rw [Nat.mul_add]; omega
theorem depthL_map {α : Type} {f : α → D} {n : Nat} {l : List α} (h : ∀ a ∈ l, (py (f a)).depth ≤ n) : PyData.depthAll (pyL (l.map f)) ≤ n := by
  induction l with
  | nil => show 0 ≤ _; exact Nat.zero_le _
  | cons a l ih =>
    have h1 := h a (by simp)
    have h2 := ih fun b hb => h b (List.mem_cons_of_mem _ hb)
    show max (py (f a)).depth (PyData.depthAll (pyL (l.map f))) ≤ n
    omega
/-- a row's measures: small, depth at most n, bulk at most b -/
structure Row (d : D) (n b : Nat) : Prop where
  sm : smD d = true
  dp : (py d).depth ≤ n
  bk : (py d).bulk ≤ b
theorem Row.int {i : Int} (h : -1000000000 < i ∧ i < 1000000000) : Row (.int i) 0 0 := ⟨decide_eq_true h, Nat.le_refl _, Nat.le_refl _⟩
theorem Row.non : Row .non 0 0 := ⟨rfl, Nat.le_refl _, Nat.le_refl _⟩
theorem Row.tup {α : Type} {f : α → D} {n b : Nat} {l : List α} (h : ∀ a ∈ l, Row (f a) n b) : Row (.tup (l.map f)) (n + 1) ((b + 1) * l.length) :=
  ⟨smL_map fun a ha => (h a ha).sm, Nat.succ_le_succ (depthL_map fun a ha => (h a ha).dp), bulkL_map fun a ha => (h a ha).bk⟩
theorem Row.mono {d : D} {n b n' b' : Nat} (h : Row d n b) (h1 : n ≤ n') (h2 : b ≤ b') : Row d n' b' := ⟨h.sm, Nat.le_trans h.dp h1, Nat.le_trans h.bk h2⟩
theorem Row.lst {ds : List D} {n b : Nat} (h : ∀ d ∈ ds, Row d n b) : Row (.lst ds) (n + 1) ((b + 1) * ds.length) := by
  have e : ds.map id = ds := List.map_id ds
  refine ⟨?_, ?_, ?_⟩
  · show smL ds = true; rw [← e]; exact smL_map fun a ha => (h a ha).sm
  · show PyData.depthAll (pyL ds) + 1 ≤ _; have := depthL_map (f := id) (l := ds) fun a ha => (h a ha).dp; rw [e] at this; omega
  · show PyData.bulkAll (pyL ds) ≤ _; have := bulkL_map (f := id) (l := ds) fun a ha => (h a ha).bk; rw [e] at this; exact this
theorem Row.rep {d : D} {n b : Nat} (h : Row d n b) (c : compD d = true) (h1 : n ≤ 64) (h2 : b ≤ 1000000) : repD d = true := by
  unfold repD
  rw [c, h.sm, decide_eq_true (Nat.le_trans h.dp h1), decide_eq_true (Nat.le_trans h.bk h2)]; rfl
end DL
set_option Elab.async false
set_option linter.all false
set_option maxRecDepth 100000
set_option maxHeartbeats 4000000
namespace DL
open PySem PySem.Spec PyProof.Rows L2
/-- m at env tells a and leaves env' -/
abbrev Runs {α : Type} (m : M α) (env : List DL.Slot) (a : α) (env' : List DL.Slot) : Prop := ∀ Q E, m env Q E = Q a env'
theorem for_inv {tg : D → M Unit} {body : M Fl} {Q : Fl → List DL.Slot → Prop} {E : Exn → List DL.Slot → Prop} {R : Prop} (I : Nat → List DL.Slot → Prop) :
    ∀ (ds pre : List D) (env : List DL.Slot), I pre.length env → (∀ i d env, (pre ++ ds)[i]? = some d → I i env → ∃ e1 e2, Runs (tg d) env () e1 ∧ Runs body e1 .nx e2 ∧ I (i + 1) e2) →
      (∀ env, I (pre ++ ds).length env → Q .nx env = R) → forL tg body ds env Q E = R
  | [], pre, env, h0, _, hq => hq env (by simpa using h0)
  | d :: ds, pre, env, h0, turn, hq => by
    obtain ⟨e1, e2, r1, r2, i2⟩ := turn pre.length d env (by simp) h0
    rw [forL_cons, r1, r2, loopK_nx]
    exact for_inv I ds (pre ++ [d]) e2 (by simpa using i2) (by simpa using turn) (by simpa using hq)
/-- .. from the start -/
theorem for_all {tg : D → M Unit} {body : M Fl} {ds : List D} {env : List DL.Slot} {Q : Fl → List DL.Slot → Prop} {E : Exn → List DL.Slot → Prop} {R : Prop} (I : Nat → List DL.Slot → Prop) (h0 : I 0 env)
    (turn : ∀ i d env, ds[i]? = some d → I i env → ∃ e1 e2, Runs (tg d) env () e1 ∧ Runs body e1 .nx e2 ∧ I (i + 1) e2) (hq : ∀ env, I ds.length env → Q .nx env = R) : forL tg body ds env Q E = R :=
  for_inv I ds [] env h0 turn hq
/-- the same where nothing is changed: what each item gives -/
theorem comp_pure {items : M (List D)} {tg : D → M Unit} {vs : List Nat} {cond : M Bool} {elt : M D} {env : List DL.Slot} {α : Type} (l : List α) (c : α → D) (P : α → Bool) (f : α → D) (hi : Runs items env (l.map c) env) (hl : l.length ≤ 1000000) (hb : backE env env vs = env)
    (turn : ∀ a ∈ l, ∃ e1, wipeE e1 vs = wipeE env vs ∧ Runs (tg (c a)) (wipeE env vs) () e1 ∧ Runs cond e1 (P a) e1 ∧ (P a = true → Runs elt e1 (f a) e1)) : Runs (compM items tg vs cond elt) env (.lst ((l.filter P).map f)) env := by
  intro Q E
  rw [compM_ap, hi]
  have key : ∀ (l : List α) (acc : List D) (e : List DL.Slot), wipeE e vs = wipeE env vs → acc.length + l.length ≤ 1000000 → (∀ a ∈ l, ∃ e1, wipeE e1 vs = wipeE env vs ∧ Runs (tg (c a)) (wipeE env vs) () e1 ∧ Runs cond e1 (P a) e1 ∧ (P a = true → Runs elt e1 (f a) e1)) →
      compL tg vs cond elt (l.map c) acc e (fun acc env2 => Q (.lst acc) (backE env env2 vs)) (fun _ _ => False) = Q (.lst (acc ++ (l.filter P).map f)) env := by
    intro l
    induction l with
    | nil =>
      intro acc e he _ _
      show Q (.lst acc) (backE env e vs) = _
      rw [backE_wipe he, hb]; simp
    | cons a l ih =>
      intro acc e he hz ht
      obtain ⟨e1, w1, r1, r2, r3⟩ := ht a (by simp)
      rw [List.length_cons] at hz
      rw [List.map_cons, compL_c, he, r1, r2]
      cases p : P a with
      | false =>
        rw [if_neg Bool.false_ne_true, ih acc e1 w1 (by omega) fun b hb => ht b (List.mem_cons_of_mem _ hb), List.filter_cons, p, if_neg Bool.false_ne_true]
      | true =>
        have sz : acc.length < sizeLine := by rw [sizeLine_eq]; omega
        rw [if_pos rfl, r3 p, show (acc.length < sizeLine) = True from eq_true sz, true_and, ih (acc ++ [f a]) e1 w1 (by rw [List.length_append]; simp; omega) fun b hb => ht b (List.mem_cons_of_mem _ hb), List.filter_cons, p, if_pos rfl]
        simp
  rw [key l [] env rfl (by simpa using hl) turn, List.nil_append]
theorem for_runs {ι : Type} {tg : D → M Unit} {body : M Fl} (I : Nat → (ι → List DL.Slot) → Prop) : ∀ (ds pre : List D) (env : ι → List DL.Slot), I pre.length env →
    (∀ i d env, (pre ++ ds)[i]? = some d → I i env → ∃ e1 e2 : ι → List DL.Slot, (∀ x, Runs (tg d) (env x) () (e1 x)) ∧ (∀ x, Runs body (e1 x) .nx (e2 x)) ∧ I (i + 1) e2) →
    ∃ env' : ι → List DL.Slot, I (pre ++ ds).length env' ∧ ∀ x Q E, forL tg body ds (env x) Q E = Q .nx (env' x)
  | [], pre, env, h0, _ => ⟨env, by simpa using h0, fun x Q E => rfl⟩
  | d :: ds, pre, env, h0, turn => by
    obtain ⟨e1, e2, r1, r2, i2⟩ := turn pre.length d env (by simp) h0
    obtain ⟨env', i', run⟩ := for_runs I ds (pre ++ [d]) e2 (by simpa using i2) (by simpa using turn)
    refine ⟨env', by simpa using i', fun x Q E => ?_⟩
    rw [forL_cons, r1, r2, loopK_nx, run]
theorem for_run {ι : Type} {tg : D → M Unit} {body : M Fl} {ds : List D} {env : ι → List DL.Slot} (I : Nat → (ι → List DL.Slot) → Prop) (h0 : I 0 env)
    (turn : ∀ i d env, ds[i]? = some d → I i env → ∃ e1 e2 : ι → List DL.Slot, (∀ x, Runs (tg d) (env x) () (e1 x)) ∧ (∀ x, Runs body (e1 x) .nx (e2 x)) ∧ I (i + 1) e2) :
    ∃ env' : ι → List DL.Slot, I ds.length env' ∧ ∀ x Q E, forL tg body ds (env x) Q E = Q .nx (env' x) := for_runs I ds [] env h0 turn
theorem while_step {c : M Bool} {b : M Fl} {env e1 e2 : List DL.Slot} (hc : Runs c env true e1) (hb : Runs b e1 .nx e2) (Q E) : whileM c b env Q E = whileM c b e2 Q E := by
  refine propext ⟨fun ⟨n, h⟩ => ?_, fun ⟨n, h⟩ => ⟨n + 1, ?_⟩⟩
  · cases n with
    | zero => exact (show False from h).elim
    | succ n =>
      have h : c env _ E := h
      rw [hc, if_pos rfl, hb] at h
      exact ⟨n, h⟩
  · show c env _ E
    rw [hc, if_pos rfl, hb]
    exact h
theorem while_end {c : M Bool} {b : M Fl} {env e1 : List DL.Slot} (hc : Runs c env false e1) (Q E) : whileM c b env Q E = Q .nx e1 := by
  refine propext ⟨fun ⟨n, h⟩ => ?_, fun h => ⟨1, ?_⟩⟩
  · cases n with
    | zero => exact (show False from h).elim
    | succ n =>
      have h : c env _ E := h
      rw [hc, if_neg Bool.false_ne_true] at h
      exact h
  · show c env _ E
    rw [hc, if_neg Bool.false_ne_true]
    exact h
end DL
set_option Elab.async false
set_option linter.all false
set_option maxRecDepth 100000
set_option maxHeartbeats 4000000
namespace DL
open PySem PySem.Spec PyProof.Rows L2
theorem Row.eqOk {d : D} {n b : Nat} (h : Row d n b) (hn : n ≤ 64) : DL.eqOk d = true := by
  unfold DL.eqOk
  rw [(sm_ok d h.sm).1, decide_eq_true (Nat.le_trans h.dp hn)]; rfl
theorem eqM_gen {a b : D} (h : ∀ s, a ≠ .str s) (ha : eqOk a = true) (hb : eqOk b = true) (env : List DL.Slot) (Q E) : eqM a b env Q E = Q (.bl (eqv a b)) env := by
  have e : eqM a b = ask (eqOk a = true ∧ eqOk b = true) (DL.ret (.bl (eqv a b))) := by
    unfold eqM
    split
    · exact absurd rfl (h _)
    · rfl
  rw [e, ask_ap, ha, hb]
  simp only [true_and]
  rfl
theorem neM_gen {a b : D} (h : ∀ s, a ≠ .str s) (ha : eqOk a = true) (hb : eqOk b = true) (env : List DL.Slot) (Q E) : neM a b env Q E = Q (.bl (!eqv a b)) env := by
  have e : neM a b = ask (eqOk a = true ∧ eqOk b = true) (DL.ret (.bl (!eqv a b))) := by
    unfold neM
    split
    · exact absurd rfl (h _)
    · rfl
  rw [e, ask_ap, ha, hb]
  simp only [true_and]
  rfl
theorem cut_take {α : Type} (l : List α) {i : Int} (h : 0 ≤ i) : cutL l none (some i) = l.take i.toNat := by
  have e : HT.sIx l.length l.length (some i) = min i.toNat l.length := by show (if i < 0 then _ else _) = _; rw [if_neg (by omega)]
  unfold cutL
  rw [e, HT.sIx_none, List.drop_zero, Nat.sub_zero]
  by_cases hl : i.toNat ≤ l.length
  · rw [Nat.min_eq_left hl]
  · rw [Nat.min_eq_right (by omega), List.take_length, List.take_of_length_le (by omega)]
theorem cut_drop {α : Type} (l : List α) {i : Int} (h : 0 ≤ i) : cutL l (some i) none = l.drop i.toNat := by
  have e : HT.sIx l.length 0 (some i) = min i.toNat l.length := by show (if i < 0 then _ else _) = _; rw [if_neg (by omega)]
  unfold cutL
  rw [e, HT.sIx_none]
  by_cases hl : i.toNat ≤ l.length
  · rw [Nat.min_eq_left hl, List.take_of_length_le (by rw [List.length_drop]; exact Nat.le_refl _)]
  · rw [Nat.min_eq_right (by omega), List.drop_length, List.drop_of_length_le (by omega), List.take_nil]
end DL
namespace DL
open PySem PySem.Spec PyProof.Rows L2
theorem bools_of {α : Type} (P : α → Bool) : ∀ l : List α, boolsOf (l.map fun x => D.bl (P x)) = some (l.map P)
  | [] => rfl
  | a :: l => by rw [List.map_cons]; show (boolsOf (l.map fun x => D.bl (P x))).map (P a :: ·) = _; rw [bools_of P l]; rfl
theorem allM_map {α : Type} (P : α → Bool) (l : List α) (env : List DL.Slot) (Q E) : allM (.lst (l.map fun x => .bl (P x))) env Q E = Q (.bl (l.all P)) env := by
  unfold allM
  simp only [bools_of]
  show Q (.bl ((l.map P).all id)) env = _
  rw [List.all_map]; rfl
end DL
set_option Elab.async false
set_option linter.all false
set_option maxRecDepth 100000
set_option maxHeartbeats 4000000
namespace DL
open PySem PySem.Spec PyProof.Rows L2
def wpre0 := And.intro @bnd_ap (And.intro @ret_ap (And.intro @ask_ap (And.intro @fail_ap (And.intro @ite_ap (And.intro @DL.dVar.eq_1 (And.intro @DL.getO.eq_1 (And.intro @DL.putO.eq_1 (And.intro @DL.setI.eq_1 (And.intro @DL.setO.eq_1 (And.intro @DL.takeO.eq_1 (And.intro @DL.frzV.eq_1 (And.intro @DL.tryR.eq_1 (And.intro @DL.kindQ.eq_1 (And.intro @DL.kindQ.eq_2 (And.intro @DL.kindQ.eq_3 (And.intro @DL.kindQ.eq_4 (And.intro @DL.seqM.eq_1 (And.intro @DL.seqK.eq_1 (And.intro @DL.seqK.eq_2 (And.intro @DL.seqK.eq_3 (And.intro @DL.seqK.eq_4 (And.intro @DL.thenN.eq_1 (And.intro @DL.ifM.eq_1 (And.intro @DL.andB.eq_1 (And.intro @DL.orB.eq_1 (And.intro @DL.notB.eq_1 (And.intro @DL.andV.eq_1 (And.intro @DL.orV.eq_1 (And.intro @DL.notV.eq_1 (And.intro @DL.asB.eq_1 (And.intro @DL.asB.eq_2 (And.intro @DL.do2.eq_1 (And.intro @DL.chM.eq_1 (And.intro @DL.consM.eq_1 (And.intro @DL.consD.eq_1 (And.intro @DL.consO.eq_1 (And.intro @DL.tupM.eq_1 (And.intro @DL.lstM.eq_1 (And.intro @DL.olstM.eq_1 (And.intro @DL.frzM.eq_1 (And.intro @DL.resD.eq_1 (And.intro @DL.resD.eq_2 (And.intro @DL.resD.eq_3 (And.intro @DL.resO.eq_1 (And.intro @DL.resO.eq_2 (And.intro @DL.callN.eq_1 (And.intro @DL.allD.eq_1 (And.intro @DL.allD.eq_2 (And.intro @DL.allD.eq_3 (And.intro @DL.split1.eq_1 (And.intro @DL.split1.eq_2 (And.intro @DL.split1.eq_3 (And.intro @DL.callD.eq_1 (And.intro @DL.call1.eq_1 (And.intro @DL.callK.eq_1 (And.intro @DL.finA.eq_1 (And.intro @DL.finA.eq_2 (And.intro @DL.finA.eq_3 (@DL.finA.eq_4)))))))))))))))))))))))))))))))))))))))))))))))))))))))))))
def wpre1 := And.intro @DL.finA.eq_5 (And.intro @DL.finA.eq_6 (And.intro @DL.finA.eq_7 (And.intro @DL.finA.eq_8 (And.intro @DL.defM.eq_1 (And.intro @DL.un1.eq_1 (And.intro @DL.un1.eq_2 (And.intro @DL.un2.eq_1 (And.intro @DL.un2.eq_2 (And.intro @DL.truD.eq_1 (And.intro @DL.truD.eq_2 (And.intro @DL.truD.eq_3 (And.intro @DL.truD.eq_4 (And.intro @DL.truD.eq_5 (And.intro @DL.truD.eq_6 (And.intro @DL.truD.eq_7 (And.intro @DL.truD.eq_8 (And.intro @DL.ltD.eq_1 (And.intro @DL.ltD.eq_2 (And.intro @DL.leD.eq_1 (And.intro @DL.leD.eq_2 (And.intro @DL.gtD.eq_1 (And.intro @DL.gtD.eq_2 (And.intro @DL.geD.eq_1 (And.intro @DL.geD.eq_2 (And.intro @DL.addD.eq_1 (And.intro @DL.addD.eq_2 (And.intro @DL.addD.eq_3 (And.intro @DL.addD.eq_4 (And.intro @DL.addD.eq_5 (And.intro @DL.subD.eq_1 (And.intro @DL.subD.eq_2 (And.intro @DL.mulD.eq_1 (And.intro @DL.mulD.eq_2 (And.intro @DL.mulD.eq_3 (And.intro @DL.mulD.eq_4 (And.intro @DL.modD.eq_1 (And.intro @DL.modD.eq_2 (And.intro @DL.fdivD.eq_1 (And.intro @DL.fdivD.eq_2 (And.intro @DL.powD.eq_1 (And.intro @DL.powD.eq_2 (And.intro @DL.isNonD.eq_1 (And.intro @DL.isNonD.eq_2 (And.intro @DL.isNonD.eq_3 (And.intro @DL.notNonD.eq_1 (And.intro @DL.notNonD.eq_2 (And.intro @DL.notNonD.eq_3 (And.intro @DL.negD.eq_1 (And.intro @DL.negD.eq_2 (And.intro @DL.lenD.eq_1 (And.intro @DL.lenD.eq_2 (And.intro @DL.lenD.eq_3 (And.intro @DL.lenD.eq_4 (And.intro @DL.lenD.eq_5 (And.intro @DL.absD.eq_1 (And.intro @DL.absD.eq_2 (And.intro @DL.intD.eq_1 (And.intro @DL.intD.eq_2 (@DL.intD.eq_3)))))))))))))))))))))))))))))))))))))))))))))))))))))))))))
def wpre2 := And.intro @DL.max2D.eq_1 (And.intro @DL.max2D.eq_2 (And.intro @DL.min2D.eq_1 (And.intro @DL.min2D.eq_2 (And.intro @DL.divD.eq_1 (And.intro @DL.divD.eq_2 (And.intro @DL.tupD.eq_1 (And.intro @DL.tupD.eq_2 (And.intro @DL.tupD.eq_3 (And.intro @DL.hgM.eq_1 (And.intro @DL.hgM.eq_2 (And.intro @DL.hsM.eq_1 (And.intro @DL.hsM.eq_2 (And.intro @DL.hcallM.eq_1 (And.intro @DL.hcallM.eq_2 (And.intro @DL.oixM.eq_1 (And.intro @DL.olist.eq_1 (And.intro @DL.asL.eq_1 (And.intro @DL.asL.eq_2 (And.intro @DL.ixL.eq_1 (And.intro @DL.ixL.eq_2 (And.intro @DL.olenM.eq_1 (And.intro @DL.oappM.eq_1 (And.intro @DL.osetM.eq_1 (And.intro @DL.opopM.eq_1 (And.intro @DL.oremM.eq_1 (And.intro @DL.oinM.eq_1 (And.intro @DL.oset.eq_1 (And.intro @DL.asS.eq_1 (And.intro @DL.asS.eq_2 (And.intro @DL.oaddM.eq_1 (And.intro @DL.osinM.eq_1 (And.intro @DL.otupM.eq_1 (And.intro @DL.tRgM.eq_1 (And.intro @DL.lRgM.eq_1 (And.intro @DL.asgM.eq_1 (And.intro @DL.setTw.eq_1 (And.intro @DL.setTw.eq_2 (And.intro @DL.setTw.eq_3 (And.intro @DL.setTl.eq_1 (And.intro @DL.setTl.eq_2 (And.intro @DL.setKs.eq_1 (And.intro @DL.setKs.eq_2 (And.intro @DL.setKs.eq_3 (And.intro @DL.setTup.eq_1 (And.intro @DL.setTup.eq_2 (And.intro @DL.setTup.eq_3 (And.intro @DL.setIs.eq_1 (And.intro @DL.setIs.eq_2 (And.intro @DL.setIs.eq_3 (And.intro @DL.parM.eq_1 (And.intro @DL.setVs.eq_1 (And.intro @DL.setVs.eq_2 (And.intro @DL.setVs.eq_3 (And.intro @DL.setV.eq_1 (And.intro @DL.setV.eq_2 (And.intro @DL.setV.eq_3 (And.intro @DL.vD.eq_1 (And.intro @DL.vO.eq_1 (@DL.oins.eq_1)))))))))))))))))))))))))))))))))))))))))))))))))))))))))))
def wpre3 := And.intro @DL.asI.eq_1 (And.intro @DL.asI.eq_2 (And.intro @DL.fsetM.eq_1 (And.intro @DL.mkM.eq_1 (And.intro @DL.forM.eq_1 (And.intro @DL.itR1.eq_1 (And.intro @DL.itR1.eq_2 (And.intro @DL.itR2.eq_1 (And.intro @DL.itR2.eq_2 (And.intro @DL.itLst.eq_1 (And.intro @DL.itLst.eq_2 (And.intro @DL.itLst.eq_3 (And.intro @DL.itTup.eq_1 (And.intro @DL.itTup.eq_2 (And.intro @DL.itTup.eq_3 (And.intro @DL.enTup.eq_1 (And.intro @DL.enTup.eq_2 (And.intro @DL.enLst.eq_1 (And.intro @DL.enLst.eq_2 (And.intro @DL.enLst.eq_3 (And.intro @DL.partM.eq_1 (And.intro @DL.slM.eq_1 (And.intro @DL.slM.eq_2 (And.intro @DL.slM.eq_3 (And.intro @DL.slM.eq_4 (And.intro @DL.slM.eq_5 (And.intro @DL.asT.eq_1 (And.intro @DL.asT.eq_2 (And.intro @DL.tidxM.eq_1 (And.intro @eqM_ii (And.intro @eqM_ni (And.intro @eqM_in (And.intro @eqM_ss (And.intro @neM_ii (And.intro @neM_ss (And.intro @loopK_nx (And.intro @loopK_rt (And.intro @forL_nil (And.intro @forL_cons (And.intro @compL_n (And.intro @compL_c (And.intro @compM_ap (And.intro @DL.odixM.eq_1 (And.intro @DL.odinM.eq_1 (And.intro @DL.odic.eq_1 (And.intro @DL.asDi.eq_1 (And.intro @DL.asDi.eq_2 (And.intro @DL.keyD.eq_1 (And.intro @DL.keyD.eq_2 (And.intro @DL.keyD.eq_3 (And.intro @DL.un1O.eq_1 (And.intro @DL.un1O.eq_2 (And.intro @DL.listO.eq_1 (And.intro @DL.listO.eq_2 (And.intro @DL.listO.eq_3 (And.intro @DL.listO.eq_4 (And.intro @DL.tryM.eq_1 (And.intro @DL.sortD.eq_1 (And.intro @DL.sortD.eq_2 (@DL.sortD.eq_3)))))))))))))))))))))))))))))))))))))))))))))))))))))))))))
def wpre4 := And.intro @DL.max1D.eq_1 (And.intro @DL.max1D.eq_2 (And.intro @DL.otupV.eq_1 (And.intro @DL.backM.eq_1 (And.intro @DL.revM.eq_1 (And.intro @DL.revD.eq_1 (And.intro @DL.revD.eq_2 (And.intro @DL.dictO.eq_1 (And.intro @DL.dictO.eq_2 (And.intro @DL.maxTD.eq_1 (And.intro @DL.maxTD.eq_2 (And.intro @DL.oidxM.eq_1 (And.intro @DL.lenRg.eq_1 (And.intro @DL.lenRg.eq_2 (And.intro @DL.lenR.eq_1 (And.intro @DL.lenR.eq_2 (And.intro @DL.odnixM.eq_1 (And.intro @DL.odninM.eq_1 (And.intro @DL.odcn.eq_1 (And.intro @DL.asDn.eq_1 (And.intro @DL.asDn.eq_2 (And.intro @DL.dn1M.eq_1 (And.intro @DL.odnputM.eq_1 (And.intro @DL.dictL.eq_1 (And.intro @DL.dictL.eq_2 (And.intro @DL.sumD.eq_1 (And.intro @DL.sumD.eq_2 (And.intro @DL.sumTD.eq_1 (And.intro @DL.sumTD.eq_2 (And.intro @DL.dnget2M.eq_1 (And.intro @DL.augM.eq_1 (And.intro @DL.augK.eq_1 (And.intro @DL.augK.eq_2 (And.intro @DL.dget2M.eq_1 (And.intro @DL.getT.eq_1 (And.intro @DL.putT.eq_1 (And.intro @DL.asRl.eq_1 (And.intro @DL.asRl.eq_2 (And.intro @DL.methX.eq_1 (And.intro @DL.callXN.eq_1 (And.intro @DL.callX.eq_1 (And.intro @DL.consXD.eq_1 (And.intro @DL.consXO.eq_1 (And.intro @DL.hasO.eq_1 (And.intro @DL.tcallM.eq_1 (And.intro @DL.strR.eq_1 (And.intro @DL.strR.eq_2 (And.intro @DL.raiseNM.eq_1 (And.intro @DL.joinM.eq_1 (And.intro @DL.joinM.eq_2 (And.intro @DL.catTo.eq_1 (And.intro @DL.catTo.eq_2 (And.intro @DL.setStar.eq_1 (And.intro @DL.setStar.eq_2 (And.intro @DL.setStar.eq_3 (And.intro @DL.zipLM.eq_1 (And.intro @DL.zipLM.eq_2 (And.intro @DL.zipLM.eq_3 (And.intro @DL.zipTL.eq_1 (@DL.zipTL.eq_2)))))))))))))))))))))))))))))))))))))))))))))))))))))))))))
def wpre5 := And.intro @DL.oslM.eq_1 (And.intro @DL.tidxM.eq_1 (And.intro @DL.asT.eq_1 (And.intro @DL.asT.eq_2 (And.intro @DL.tsetM.eq_1 (And.intro @DL.tsetOM.eq_1 (And.intro @DL.mkTM.eq_1 (And.intro @DL.vT.eq_1 (@compME_ap))))))))
def wpost0 := And.intro @getElem?_0 (And.intro @getElem?_s (And.intro @List.set_cons_zero.{0} (And.intro @List.set_cons_succ.{0} (And.intro @DL.D.kind.eq_1 (And.intro @DL.D.kind.eq_2 (And.intro @DL.D.kind.eq_3 (And.intro @DL.D.kind.eq_4 (And.intro @DL.D.kind.eq_5 (And.intro @DL.D.kind.eq_6 (And.intro @DL.D.kind.eq_7 (And.intro @DL.D.kind.eq_8 (And.intro @DL.D.kind.eq_9 (And.intro @DL.D.kind.eq_10 (And.intro @DL.D.kind.eq_11 (And.intro @DL.D.kind.eq_12 (And.intro @DL.D.kind.eq_13 (And.intro @DL.D.kind.eq_14 (And.intro @DL.D.kind.eq_15 (And.intro @DL.CT.is.eq_1 (And.intro @DL.CT.is.eq_2 (And.intro @DL.CT.is.eq_3 (And.intro @DL.CT.is.eq_4 (And.intro @DL.CT.is.eq_5 (And.intro @DL.CT.is.eq_6 (And.intro @DL.CT.is.eq_7 (And.intro @DL.CT.is.eq_8 (And.intro @DL.CT.is.eq_9 (And.intro @DL.putFD.eq_1 (And.intro @DL.putFD.eq_2 (And.intro @DL.hallOf.eq_1 (And.intro @DL.hallOf.eq_2 (And.intro @List.map_cons.{0,0} (And.intro @List.map_nil.{0,0} (And.intro @List.cons_append.{0} (And.intro @List.nil_append.{0} (And.intro @List.length_cons.{0} (And.intro @List.length_nil.{0} (And.intro @Nat.sub_self (And.intro @Bool.not_true (And.intro @Bool.not_false (And.intro @true_and (And.intro @and_true (And.intro @Bool.true_eq_false (And.intro @Bool.false_eq_true (And.intro @pick_eq (And.intro @at3_0 (And.intro @at3_1 (And.intro @at3_2 (And.intro @ix3_0 (And.intro @ix3_1 (And.intro @ix3_2 (And.intro @DL.backE.eq_1 (And.intro @DL.backE.eq_2 (And.intro @sl0 (And.intro @sl1 (And.intro @sl2 (And.intro @sl3 (And.intro @sl4 (@sl5)))))))))))))))))))))))))))))))))))))))))))))))))))))))))))
def wpost1 := And.intro @sl6 (And.intro @sl7 (And.intro @sl8 (And.intro @sm0 (And.intro @sm1 (And.intro @sm2 (And.intro @sm3 (And.intro @sm4 (And.intro @sm5 (And.intro @sm6 (And.intro @sm7 (And.intro @sm8 (And.intro @DL.wipeE.eq_1 (And.intro @DL.wipeE.eq_2 (And.intro @List.filterMap_cons.{0,0} (And.intro @List.filterMap_nil.{0,0} (And.intro @DL.ownsX.eq_1 (And.intro @DL.ownsX.eq_2 (And.intro @DL.ownsX.eq_3 (And.intro @DL.slotX.eq_1 (And.intro @DL.slotX.eq_2 (And.intro @DL.slotX.eq_3 (And.intro @DL.backX.eq_1 (And.intro @DL.backX.eq_2 (And.intro @DL.backX.eq_3 (And.intro @DL.backX.eq_4 (And.intro @DL.backX.eq_5 (And.intro @List.nodup_cons.{0} (And.intro @List.nodup_nil.{0} (And.intro @List.not_mem_nil.{0} (@not_false_eq_true))))))))))))))))))))))))))))))
end DL
set_option Elab.async false
set_option linter.all false
set_option maxRecDepth 100000
set_option maxHeartbeats 2000000
namespace MW
/-- lists without repeats within others are no longer -/
theorem nodup_len {α : Type} [DecidableEq α] : ∀ {l l' : List α}, l.Nodup → (∀ a ∈ l, a ∈ l') → l.length ≤ l'.length
  | [], _, _, _ => Nat.zero_le _
  | a :: l, l', h, hs => by
    rw [List.nodup_cons] at h
    have ha : a ∈ l' := hs a (by simp)
    have := nodup_len (l := l) (l' := l'.erase a) h.2 fun b hb => (List.mem_erase_of_ne (fun e : b = a => h.1 (by rw [← e]; exact hb))).mpr (hs b (List.mem_cons_of_mem _ hb))
    rw [List.length_erase_of_mem ha] at this
    have : 0 < l'.length := List.length_pos_of_mem ha
    rw [List.length_cons]; omega
def nums (n : Int) : List Int := (List.range n.toNat).map fun i => ((i : Nat) : Int)
theorem nums_len (n : Int) : (nums n).length = n.toNat := by unfold nums; rw [List.length_map, List.length_range]
theorem nums_mem {n i : Int} : i ∈ nums n ↔ 0 ≤ i ∧ i < n := by
  unfold nums
  rw [List.mem_map]
  constructor
  · rintro ⟨k, hk, rfl⟩; rw [List.mem_range] at hk; omega
  · intro h; exact ⟨i.toNat, by rw [List.mem_range]; omega, by omega⟩
theorem nums_nodup (n : Int) : (nums n).Nodup := by
  unfold nums
  rw [List.nodup_iff_pairwise_ne, List.pairwise_map]
  exact List.Pairwise.imp (fun {a b} h e => h (by omega)) (List.nodup_iff_pairwise_ne.mp List.nodup_range)
theorem nums_get {n : Int} {i : Nat} (h : i < n.toNat) : (nums n)[i]? = some (i : Int) := by
  unfold nums
  rw [List.getElem?_map, List.getElem?_range h]; rfl
abbrev Sd := List (Option Int)
/-- the seats of those who are in are seats, each once -/
structure Stand (g s : Int) (st : Sd) : Prop where
  len : (st.length : Int) = g
  hg : 1 ≤ g ∧ g ≤ 24
  hs : 0 ≤ s ∧ s ≤ 6
  bd : ∀ i, some i ∈ st → 0 ≤ i ∧ i < g + s
  nd : st.Pairwise fun o p => o = none ∨ o ≠ p
def seatAt (st : Sd) (i : Int) : Option Int := if 0 ≤ i then (st[i.toNat]?).join else none
def hold (st : Sd) (x : Int) : Option Int := if (st.any fun o => o == some x) = true then some ((st.findIdx fun o => o == some x : Nat) : Int) else none
section
variable {g s : Int} {st : Sd}
theorem seat_get {i v : Int} : seatAt st i = some v ↔ 0 ≤ i ∧ st[i.toNat]? = some (some v) := by
  unfold seatAt
  by_cases h : 0 ≤ i
  · rw [if_pos h]
    cases e : st[i.toNat]? with
    | none => simp
    | some o => cases o <;> simp [h]
  · rw [if_neg h]; simp [h]
theorem seat_nat {k : Nat} {o : Option Int} (h : st[k]? = some o) : seatAt st (k : Int) = o := by
  unfold seatAt
  rw [if_pos (by omega), Int.toNat_natCast, h]; rfl
theorem seat_lt {i v : Int} (h : seatAt st i = some v) : 0 ≤ i ∧ i < st.length := by
  obtain ⟨h1, h2⟩ := seat_get.mp h
  have := (List.getElem?_eq_some_iff.mp h2).1
  omega
theorem Stand.bound (S : Stand g s st) {i v : Int} (h : seatAt st i = some v) : (0 ≤ i ∧ i < g) ∧ 0 ≤ v ∧ v < g + s := by
  have a := seat_lt h
  have b := S.bd v (List.mem_of_getElem? (seat_get.mp h).2)
  have := S.len
  omega
theorem hold_some {x h : Int} (e : hold st x = some h) : seatAt st h = some x := by
  unfold hold at e
  split at e
  · rename_i a
    have lt : st.findIdx (fun o => o == some x) < st.length := List.findIdx_lt_length_of_exists (by simpa using a)
    have := List.findIdx_getElem (w := lt)
    have e2 : st[st.findIdx (fun o => o == some x)] = some x := by simpa using this
    cases e
    exact seat_nat (by rw [List.getElem?_eq_getElem lt, e2])
  · cases e
def it (st : Sd) : Nat → Int → Option Int
  | 0, x => some x
  | n + 1, x => (hold st x).bind (it st n)
theorem it_succ (n : Nat) : ∀ x : Int, it st (n + 1) x = (it st n x).bind (hold st) := by
  induction n with
  | zero => intro x; show (hold st x).bind (fun y => some y) = hold st x; cases hold st x <;> rfl
  | succ n ih =>
    intro x
    show (hold st x).bind (it st (n + 1)) = ((hold st x).bind (it st n)).bind _
    cases e : hold st x with
    | none => rfl
    | some h => exact ih h
theorem it_le {n m : Nat} {x v : Int} (h : it st m x = some v) (l : n ≤ m) : ∃ u, it st n x = some u := by
  induction m generalizing v with
  | zero => have : n = 0 := by omega
            subst this; exact ⟨v, h⟩
  | succ m ih =>
    by_cases e : n = m + 1
    · subst e; exact ⟨v, h⟩
    · rw [it_succ] at h
      cases z : it st m x with
      | none => rw [z] at h; cases h
      | some u => exact ih z (by omega)
def Ends (st : Sd) : Nat → Int → Prop
  | 0, x => hold st x = none
  | n + 1, x => match hold st x with
    | none => True
    | some h => Ends st n h
def endF (st : Sd) : Nat → Int → Int
  | 0, x => x
  | n + 1, x => match hold st x with
    | none => x
    | some h => endF st n h
def pathF (st : Sd) : Nat → Int → List Int
  | 0, x => [x]
  | n + 1, x => match hold st x with
    | none => [x]
    | some h => x :: pathF st n h
theorem ends_iff : ∀ (n : Nat) (x : Int), Ends st n x ↔ it st (n + 1) x = none
  | 0, x => by show hold st x = none ↔ (hold st x).bind _ = none; cases hold st x <;> simp [it]
  | n + 1, x => by
    show (match hold st x with | none => True | some h => Ends st n h) ↔ (hold st x).bind (it st (n + 1)) = none
    cases e : hold st x with
    | none => simp
    | some h => exact ends_iff n h
/-- loose: out, or nobody's -/
def Loose (st : Sd) (x : Int) : Prop := seatAt st x = none
instance (st : Sd) (x : Int) : Decidable (Loose st x) := by unfold Loose; infer_instance
theorem Stand.it_inj (S : Stand g s st) {x : Int} (hx : Loose st x) : ∀ {i j : Nat} {v : Int}, it st i x = some v → it st j x = some v → i ≤ j → i = j
  | 0, 0, _, _, _, _ => rfl
  | 0, j + 1, v, h1, h2, _ => by
    cases h1
    rw [it_succ] at h2
    cases z : it st j x with
    | none => rw [z] at h2; cases h2
    | some u =>
      rw [z] at h2
      have := hold_some (show hold st u = some x from h2)
      rw [show seatAt st x = none from hx] at this
      cases this
  | i + 1, 0, _, _, _, h => by omega
  | i + 1, j + 1, v, h1, h2, l => by
    rw [it_succ] at h1 h2
    cases z1 : it st i x with
    | none => rw [z1] at h1; cases h1
    | some u1 =>
      cases z2 : it st j x with
      | none => rw [z2] at h2; cases h2
      | some u2 =>
        rw [z1] at h1; rw [z2] at h2
        have a := hold_some (show hold st u1 = some v from h1)
        have b := hold_some (show hold st u2 = some v from h2)
        rw [a] at b
        cases b
        rw [S.it_inj hx z1 z2 (by omega)]
theorem Stand.ends (S : Stand g s st) {x : Int} (hx : Loose st x) : Ends st st.length x := by
  rw [ends_iff]
  cases e : it st (st.length + 1) x with
  | none => rfl
  | some v =>
    exfalso
    have all : ∀ k, k ≤ st.length + 1 → ∃ u, it st k x = some u := fun k hk => it_le e hk
    let f : Nat → Int := fun k => (it st (k + 1) x).getD 0
    have hf : ∀ k, k < st.length + 1 → it st (k + 1) x = some (f k) := fun k hk => by
      obtain ⟨u, hu⟩ := all (k + 1) (by omega)
      show _ = some ((it st (k + 1) x).getD 0)
      rw [hu]; rfl
    have nd : ((List.range (st.length + 1)).map f).Nodup := by
      rw [List.nodup_iff_pairwise_ne, List.pairwise_map]
      refine List.Pairwise.imp_of_mem ?_ (List.pairwise_lt_range)
      intro a b ha hb h e
      rw [List.mem_range] at ha hb
      have h1 := hf a ha
      have h2 := hf b hb
      rw [e] at h1
      have := S.it_inj hx h1 h2 (by omega)
      omega
    have sub : ∀ a ∈ (List.range (st.length + 1)).map f, a ∈ nums g := by
      intro a ha
      obtain ⟨k, hk, rfl⟩ := List.mem_map.mp ha
      rw [List.mem_range] at hk
      have h1 := hf k hk
      rw [it_succ] at h1
      cases z : it st k x with
      | none => rw [z] at h1; cases h1
      | some u =>
        rw [z] at h1
        have := S.bound (hold_some (show hold st u = some (f k) from h1))
        exact nums_mem.mpr this.1
    have := nodup_len nd sub
    rw [List.length_map, List.length_range, nums_len] at this
    have := S.len
    omega
/-- where the walk from x ends -/
def path (st : Sd) (x : Int) : List Int := pathF st st.length x
def endP (st : Sd) (x : Int) : Int := endF st st.length x
theorem pathF_none {n : Nat} {x : Int} (h : hold st x = none) : pathF st n x = [x] := by
  cases n with
  | zero => rfl
  | succ n => unfold pathF; rw [h]
theorem pathF_some {n : Nat} {x y : Int} (h : hold st x = some y) : pathF st (n + 1) x = x :: pathF st n y := by
  show (match hold st x with | none => [x] | some h => x :: pathF st n h) = _
  rw [h]
theorem ends_some {n : Nat} {x y : Int} (e : Ends st (n + 1) x) (h : hold st x = some y) : Ends st n y := by
  unfold Ends at e
  rw [h] at e
  exact e
theorem pathF_ne : ∀ (n : Nat) (x : Int), pathF st n x ≠ []
  | 0, x => by simp [pathF]
  | n + 1, x => by unfold pathF; cases hold st x <;> simp
theorem pathF_last : ∀ (n : Nat) (x : Int), (pathF st n x).getLast? = some (endF st n x)
  | 0, x => rfl
  | n + 1, x => by
    unfold pathF endF
    cases e : hold st x with
    | none => rfl
    | some y =>
      show (x :: pathF st n y).getLast? = _
      cases p : pathF st n y with
      | nil => exact absurd p (pathF_ne n y)
      | cons a l =>
        rw [List.getLast?_cons_cons, ← p, pathF_last n y]
theorem pathF_len : ∀ (n : Nat) (x : Int), (pathF st n x).length ≤ n + 1
  | 0, x => by simp [pathF]
  | n + 1, x => by
    unfold pathF
    cases e : hold st x with
    | none => show 1 ≤ _; omega
    | some y => have := pathF_len n y; show (pathF st n y).length + 1 ≤ _; omega
end
end MW
set_option Elab.async false
set_option linter.all false
set_option maxRecDepth 100000
set_option maxHeartbeats 4000000
set_option Elab.async false
set_option linter.all false
set_option maxRecDepth 100000
set_option maxHeartbeats 4000000
namespace DLP
open PySem PySem.Spec PyProof.Rows L2 DL MW
theorem setI_ok {env : List DL.Slot} {i : Nat} {d : D} {v : DL.Slot} (h : env[i]? = some v) (hv : ∀ x o, v ≠ .io x o) : Runs (setI i d) env () (env.set i (.im d)) := fun Q E => by
  unfold setI
  rw [h]
  cases v with
  | io x o => exact (hv x o rfl).elim
  | _ => rfl
theorem range_nums (n : Int) : rangeL 0 n = (nums n).map .int := by
  unfold rangeL nums
  rw [List.map_map, Int.sub_zero]
  refine List.map_congr_left fun i _ => ?_
  show D.int (0 + _) = D.int _
  rw [Int.zero_add]
theorem p_whole (C : Addr) (i a b : Int) (Q E) : f_is_whole C [.im (.int i), .im (.int a), .im (.int b)] Q E = Q (.d (.bl (decide (a ≤ i) && decide (i ≤ b)))) [.im (.int i), .im (.int a), .im (.int b)] := by
  simp only [↓f_is_whole, ↓m_is_whole, ↓wpre0, ↓wpre1, ↓wpre2, ↓wpre3, ↓wpre4, ↓wpre5, wpost0, wpost1, ↓inQ, ↓callA, ↓ioAt, ↓putS, ↓isiD, ↓isi0, ↓hallM, Option.map, List.replicate, Nat.reduceAdd, Nat.reduceSub, ↓if_true, ↓if_false, ↓ite_true, ↓ite_false, reduceIte, oldS, forall_const, putX]
  by_cases h1 : a ≤ i
  · simp only [decide_eq_true h1, ↓wpre0, ↓wpre1, ↓wpre2, ↓wpre3, ↓wpre4, ↓wpre5, wpost0, wpost1, ↓inQ, ↓callA, ↓ioAt, ↓putS, ↓isiD, ↓isi0, ↓hallM, Option.map, List.replicate, Nat.reduceAdd, Nat.reduceSub, ↓if_true, ↓if_false, ↓ite_true, ↓ite_false, reduceIte, oldS, forall_const, putX, Bool.true_and]
  · simp only [decide_eq_false h1, ↓wpre0, ↓wpre1, ↓wpre2, ↓wpre3, ↓wpre4, ↓wpre5, wpost0, wpost1, ↓inQ, ↓callA, ↓ioAt, ↓putS, ↓isiD, ↓isi0, ↓hallM, Option.map, List.replicate, Nat.reduceAdd, Nat.reduceSub, ↓if_true, ↓if_false, ↓ite_true, ↓ite_false, reduceIte, oldS, forall_const, putX, Bool.false_and]
def oD : Option Int → D
  | none => .non
  | some i => .int i
def stD (st : Sd) : D := .tup (st.map oD)
def takeS (a b c : Int) : Int := (a * (a % 45007 + 32027) + 90007 * (c + 1)) % 2147483399
def takeR (a b c wide : Int) : Int := if 0 < b then b % wide else takeS a b c / 64 % wide
def takeB (b wide : Int) : Int := if 0 < b then b / wide else b
theorem p_take (C : Addr) (x : Addr) (a b c wide : Int) (h1 : 0 < wide) (h2 : wide < 1073741824) (Q E) : f_Ltake C [.io x (.lst [.int a, .int b, .int c]), .im (.int wide)] Q E = Q (.d (.int (takeR a b c wide))) [.io x (.lst [.int (takeS a b c), .int (takeB b wide), .int (c + 1)]), .im (.int wide)] := by
  have c1 : CMul a (a % 45007 + 32027) := .inr ⟨by omega, by omega⟩
  have c2 : CMul 90007 (c + 1) := .inl ⟨by decide, by decide⟩
  have d1 : (0 : Int) < 45007 := by decide
  have d2 : (0 : Int) < 2147483399 := by decide
  have d3 : (0 : Int) < 64 := by decide
  have d4 : (64 : Int) < 1073741824 := by decide
  by_cases hb : 0 < b
  · simp only [↓f_Ltake, ↓m_Ltake, takeR, takeB, takeS, decide_eq_true hb, if_pos hb, c1, c2, d1, d2, h1, h2, ↓wpre0, ↓wpre1, ↓wpre2, ↓wpre3, ↓wpre4, ↓wpre5, wpost0, wpost1, ↓inQ, ↓callA, ↓ioAt, ↓putS, ↓isiD, ↓isi0, ↓hallM, Option.map, List.replicate, Nat.reduceAdd, Nat.reduceSub, ↓if_true, ↓if_false, ↓ite_true, ↓ite_false, reduceIte, oldS, forall_const, putX]
  · simp only [↓f_Ltake, ↓m_Ltake, takeR, takeB, takeS, decide_eq_false hb, if_neg hb, c1, c2, d1, d2, d3, d4, h1, h2, ↓wpre0, ↓wpre1, ↓wpre2, ↓wpre3, ↓wpre4, ↓wpre5, wpost0, wpost1, ↓inQ, ↓callA, ↓ioAt, ↓putS, ↓isiD, ↓isi0, ↓hallM, Option.map, List.replicate, Nat.reduceAdd, Nat.reduceSub, ↓if_true, ↓if_false, ↓ite_true, ↓ite_false, reduceIte, oldS, forall_const, putX]
def nx1 (a c : Int) : Int := (a * 39041 + c) % 2147483399
theorem cell_loop (C : Addr) (ns : List Int) (k : Int) (Q E) (R : Prop) : ∀ (l : List Int) (a : Int) (v : DL.Slot), (∀ x o, v ≠ .io x o) → (∀ v, (∀ x o, v ≠ .io x o) → Q .nx [.im (.scr ns), .im (.int k), .im (.int (l.foldl nx1 a)), v] = R) →
    forL (setI 3) (b_Lcell_1 C) (l.map .int) [.im (.scr ns), .im (.int k), .im (.int a), v] Q E = R := by
  intro l
  induction l with
  | nil => intro a v h hQ; exact hQ v h
  | cons n l ih =>
    intro a v h hQ
    have st : ∀ Q E, setI 3 (.int n) [.im (.scr ns), .im (.int k), .im (.int a), v] Q E = Q () [.im (.scr ns), .im (.int k), .im (.int a), .im (.int n)] := fun Q E => by
      cases v with
      | io x o => exact (h x o rfl).elim
      | _ => rfl
    have tn : ∀ Q E, b_Lcell_1 C [.im (.scr ns), .im (.int k), .im (.int a), .im (.int n)] Q E = Q .nx [.im (.scr ns), .im (.int k), .im (.int (nx1 a n)), .im (.int n)] := fun Q E => by
      have c1 : CMul a 39041 := .inr ⟨by decide, by decide⟩
      have d2 : (0 : Int) < 2147483399 := by decide
      simp only [↓b_Lcell_1, nx1, c1, d2, ↓wpre0, ↓wpre1, ↓wpre2, ↓wpre3, ↓wpre4, ↓wpre5, wpost0, wpost1, ↓inQ, ↓callA, ↓ioAt, ↓putS, ↓isiD, ↓isi0, ↓hallM, Option.map, List.replicate, Nat.reduceAdd, Nat.reduceSub, ↓if_true, ↓if_false, ↓ite_true, ↓ite_false, reduceIte, oldS, forall_const, putX]
    rw [List.map_cons, forL_cons, st, tn, loopK_nx]
    exact ih (nx1 a n) _ nofun hQ
def cellV (ns : List Int) (k : Int) : Int := if k < ns.length then (atI ns k).getD 0 else (cutL ns none (some 3)).foldl nx1 (70009 * (k * k + 5 * k + 9) % 2147483399)
theorem p_cell (C : Addr) (ns : List Int) (k : Int) (hk : 0 ≤ k ∧ k < 1000) (Q E) : f_Lcell C [.im (.scr ns), .im (.int k)] Q E = Q (.d (.int (cellV ns k))) [.im (.scr ns), .im (.int k)] := by
  by_cases h : k < ns.length
  · have e : ∃ d, atI ns k = some d := by
      have e1 : ixN ns.length k = some k.toNat := by unfold ixN; rw [if_pos hk.1, if_pos h]
      have l : k.toNat < ns.length := by omega
      exact ⟨ns[k.toNat], by unfold atI; rw [e1]; exact List.getElem?_eq_getElem l⟩
    obtain ⟨d, e⟩ := e
    simp only [↓f_Lcell, ↓m_Lcell, decide_eq_true h, cellV, if_pos h, ixM, e, Option.getD_some, ↓wpre0, ↓wpre1, ↓wpre2, ↓wpre3, ↓wpre4, ↓wpre5, wpost0, wpost1, ↓inQ, ↓callA, ↓ioAt, ↓putS, ↓isiD, ↓isi0, ↓hallM, Option.map, List.replicate, Nat.reduceAdd, Nat.reduceSub, ↓if_true, ↓if_false, ↓ite_true, ↓ite_false, reduceIte, oldS, forall_const, putX]
  · have c1 : CMul k k := .inl ⟨by omega, by omega⟩
    have c2 : CMul 5 k := .inl ⟨by decide, by decide⟩
    have c3 : CMul 70009 (k * k + 5 * k + 9) := .inl ⟨by decide, by decide⟩
    have d2 : (0 : Int) < 2147483399 := by decide
    simp only [↓f_Lcell, ↓m_Lcell, decide_eq_false h, cellV, if_neg h, c1, c2, c3, d2, ↓wpre0, ↓wpre1, ↓wpre2, ↓wpre3, ↓wpre4, ↓wpre5, wpost0, wpost1, ↓inQ, ↓callA, ↓ioAt, ↓putS, ↓isiD, ↓isi0, ↓hallM, Option.map, List.replicate, Nat.reduceAdd, Nat.reduceSub, ↓if_true, ↓if_false, ↓ite_true, ↓ite_false, reduceIte, oldS, forall_const, putX]
    refine cell_loop C ns k _ _ _ (cutL ns none (some 3)) _ .no nofun fun v _ => ?_
    simp only [↓wpre0, ↓wpre1, ↓wpre2, ↓wpre3, ↓wpre4, ↓wpre5, wpost0, wpost1, ↓inQ, ↓callA, ↓ioAt, ↓putS, ↓isiD, ↓isi0, ↓hallM, Option.map, List.replicate, Nat.reduceAdd, Nat.reduceSub, ↓if_true, ↓if_false, ↓ite_true, ↓ite_false, reduceIte, oldS, forall_const, putX]
def poolB (c : Int) : Int := if c < 0 ∨ c ≥ 10 ^ 18 then (if c < 0 then -c else c) else 0
theorem p_pool (C : Addr) (c : Int) (Q E) : f_Lpool C [.im (.int c)] Q E = Q (.o (.lst [.int (c % 2147483399), .int (poolB c), .int 0])) [.im (.int c)] := by
  have d2 : (0 : Int) < 2147483399 := by decide
  have d3 : (0 : Int) ≤ 18 := by decide
  have d4 : (18 : Int) ≤ 1000000 := by decide
  have d5 : (10 : Int).natAbs < 2 ^ 64 := by decide
  have d6 : (18 : Int).toNat = 18 := rfl
  by_cases h1 : c < 0
  · have e : poolB c = -c := by unfold poolB; rw [if_pos (.inl h1), if_pos h1]
    simp only [↓f_Lpool, ↓m_Lpool, decide_eq_true h1, e, if_pos h1, d2, ↓wpre0, ↓wpre1, ↓wpre2, ↓wpre3, ↓wpre4, ↓wpre5, wpost0, wpost1, ↓inQ, ↓callA, ↓ioAt, ↓putS, ↓isiD, ↓isi0, ↓hallM, Option.map, List.replicate, Nat.reduceAdd, Nat.reduceSub, ↓if_true, ↓if_false, ↓ite_true, ↓ite_false, reduceIte, oldS, forall_const, putX]
  · by_cases h2 : (10 : Int) ^ 18 ≤ c
    · have e : poolB c = c := by unfold poolB; rw [if_pos (.inr h2), if_neg h1]
      simp only [↓f_Lpool, ↓m_Lpool, decide_eq_false h1, d3, d4, d5, d6, decide_eq_true h2, e, if_neg h1, d2, ↓wpre0, ↓wpre1, ↓wpre2, ↓wpre3, ↓wpre4, ↓wpre5, wpost0, wpost1, ↓inQ, ↓callA, ↓ioAt, ↓putS, ↓isiD, ↓isi0, ↓hallM, Option.map, List.replicate, Nat.reduceAdd, Nat.reduceSub, ↓if_true, ↓if_false, ↓ite_true, ↓ite_false, reduceIte, oldS, forall_const, putX]
    · have e : poolB c = 0 := by unfold poolB; rw [if_neg fun z => z.elim h1 h2]
      simp only [↓f_Lpool, ↓m_Lpool, decide_eq_false h1, d3, d4, d5, d6, decide_eq_false h2, e, d2, ↓wpre0, ↓wpre1, ↓wpre2, ↓wpre3, ↓wpre4, ↓wpre5, wpost0, wpost1, ↓inQ, ↓callA, ↓ioAt, ↓putS, ↓isiD, ↓isi0, ↓hallM, Option.map, List.replicate, Nat.reduceAdd, Nat.reduceSub, ↓if_true, ↓if_false, ↓ite_true, ↓ite_false, reduceIte, oldS, forall_const, putX]
theorem takeR_bd (a b c wide : Int) (h : 0 < wide) : 0 ≤ takeR a b c wide ∧ takeR a b c wide < wide := by
  unfold takeR
  split
  · exact ⟨Int.emod_nonneg _ (by omega), Int.emod_lt_of_pos _ h⟩
  · exact ⟨Int.emod_nonneg _ (by omega), Int.emod_lt_of_pos _ h⟩
structure Pl where
  a : Int
  b : Int
  c : Int
def Pl.o (p : Pl) : O := .lst [.int p.a, .int p.b, .int p.c]
def Pl.st (p : Pl) (wide : Int) : Pl := ⟨takeS p.a p.b p.c, takeB p.b wide, p.c + 1⟩
def Pl.dr (p : Pl) (wide : Int) : Int := takeR p.a p.b p.c wide
theorem Pl.bd (p : Pl) {wide : Int} (h : 0 < wide) : 0 ≤ p.dr wide ∧ p.dr wide < wide := takeR_bd _ _ _ _ h
theorem p_tk (C : Addr) (x : Addr) (p : Pl) (wide : Int) (h1 : 0 < wide) (h2 : wide < 1073741824) (Q E) : f_Ltake C [.io x p.o, .im (.int wide)] Q E = Q (.d (.int (p.dr wide))) [.io x (p.st wide).o, .im (.int wide)] := p_take C x _ _ _ wide h1 h2 Q E
theorem p_sizes (C : Addr) (p : Pl) {u w : Int} (hu : 1 ≤ u ∧ u ≤ 24) (hw : 0 ≤ w ∧ w ≤ 6) : ∃ (g s : Int) (p' : Pl), (1 ≤ g ∧ g ≤ u) ∧ (0 ≤ s ∧ s ≤ w) ∧ ∀ (x : Addr) Q E, f_Lsizes C [.io x p.o, .im (.int u), .im (.int w)] Q E = Q (.d (.tup [.int g, .int s])) [.io x p'.o, .im (.int u), .im (.int w)] := by
  have tu := fun (x : Addr) (p : Pl) => p_tk C x p u (by omega) (by omega)
  have t2 := fun (x : Addr) (p : Pl) => p_tk C x p 2 (by decide) (by decide)
  have tw := fun (x : Addr) (p : Pl) => p_tk C x p (w + 1) (by omega) (by omega)
  have b1 := p.bd (wide := u) (by omega)
  have b2 := (p.st u).bd (wide := 2) (by decide)
  have b3 := ((p.st u).st 2).bd (wide := w + 1) (by omega)
  have cm : CMul ((p.st u).dr 2) (((p.st u).st 2).dr (w + 1)) := .inl ⟨by omega, by omega⟩
  refine ⟨1 + p.dr u, (p.st u).dr 2 * ((p.st u).st 2).dr (w + 1), ((p.st u).st 2).st (w + 1), by omega, ?_, fun x Q E => ?_⟩
  · have : (p.st u).dr 2 = 0 ∨ (p.st u).dr 2 = 1 := by omega
    rcases this with e | e <;> rw [e] <;> omega
  · simp only [↓f_Lsizes, ↓m_Lsizes, ↓tu, ↓t2, ↓tw, cm, ↓wpre0, ↓wpre1, ↓wpre2, ↓wpre3, ↓wpre4, ↓wpre5, wpost0, wpost1, ↓inQ, ↓callA, ↓ioAt, ↓putS, ↓isiD, ↓isi0, ↓hallM, Option.map, List.replicate, Nat.reduceAdd, Nat.reduceSub, ↓if_true, ↓if_false, ↓ite_true, ↓ite_false, reduceIte, oldS, forall_const, putX]
end DLP
set_option Elab.async false
set_option linter.all false
set_option maxRecDepth 100000
set_option maxHeartbeats 4000000
namespace DLP
open PySem PySem.Spec PyProof.Rows L2 DL MW
theorem seq_ap (m n : M DL.Fl) (env : List DL.Slot) (Q E) : seqM m n env Q E = m env (fun f e => seqK n f e Q E) E := rfl
theorem seq_run {a b : M DL.Fl} {env env1 : List DL.Slot} (h : Runs a env .nx env1) (Q E) : seqM a b env Q E = b env1 Q E := by
  rw [seq_ap, h]; rfl
theorem er_map (l : List Int) (j : Nat) : (l.map D.int).eraseIdx j = (l.eraseIdx j).map D.int := by
  induction l generalizing j with
  | nil => rfl
  | cons a l ih => cases j with
    | zero => rfl
    | succ j => simp [ih]
theorem snoc_o (f : List (Option Int)) (o : Option Int) : f.map oD ++ [oD o] = (f ++ [o]).map oD := by simp
/-- one is seated, or not -/
structure Seat (l l' : List Int) (o : Option Int) : Prop where
  nd : l'.Nodup
  sub : ∀ i ∈ l', i ∈ l
  len : l.length ≤ l'.length + 1
  out : ∀ i, o = some i → i ∈ l ∧ i ∉ l'
theorem pop_seat {l : List Int} (nd : l.Nodup) {j : Nat} {v : Int} (h : l[j]? = some v) (o : Option Int) (ho : o = none ∨ o = some v) : Seat l (l.eraseIdx j) o := by
  have hj := (List.getElem?_eq_some_iff.mp h).1
  have e := (List.getElem?_eq_some_iff.mp h).2
  refine ⟨nd.sublist (List.eraseIdx_sublist l j), fun i hi => (List.eraseIdx_sublist l j).subset hi, ?_, fun i hi => ?_⟩
  · rw [List.length_eraseIdx_of_lt hj]; omega
  · rcases ho with z | z
    · rw [z] at hi; cases hi
    rw [z] at hi
    cases hi
    refine ⟨e ▸ List.getElem_mem hj, ?_⟩
    intro z
    obtain ⟨i, ni, hi⟩ := List.mem_eraseIdx_iff_getElem?.mp z
    exact ni ((List.getElem?_inj (List.getElem?_eq_some_iff.mp hi).1 nd).mp (hi.trans h.symm))
def stI (C : Addr) : M D := ifM (do2 (dVar 4) (DL.ret (.int 0)) fun x y => bnd (gtD x y) asB) (bnd (bnd (consO 0 (consD (olenM 2) (DL.ret []))) (callN 2 (f_Ltake C))) resD) (bnd (consM (do2 (olenM 2) (DL.ret (.int 1)) subD) (consM (DL.ret (.int 1)) (DL.ret []))) (un2 min2D))
def stB (C : Addr) : M DL.Fl := thenN (oappM 3 (ifM (do2 (bnd (bnd (consO 0 (consD (dVar 5) (DL.ret []))) (callN 2 (f_Ltake C))) resD) (DL.ret (.int 0)) fun x y => bnd (eqM x y) asB) (DL.ret .non) (dVar 7)))
theorem st_eq (C : Addr) : b_Lstood_1 C = seqM (thenN (bnd (opopM 2 (stI C)) (setI 7))) (stB C) := rfl
theorem st_ix (C : Addr) (p : Pl) (Z : D) (mode odds k : Int) (l : List Int) (f : List (Option Int)) (hl : 0 < l.length) (hz : l.length ≤ 100) : ∃ (p1 : Pl) (j : Nat), j < l.length ∧ ∀ (x : Addr) (v7 : DL.Slot) Q E, stI C [.io x p.o, .im Z, .ow (.lst (l.map .int)), .ow (.lst (f.map oD)), .im (.int mode), .im (.int odds), .im (.int k), v7] Q E = Q (.int (j : Nat)) [.io x p1.o, .im Z, .ow (.lst (l.map .int)), .ow (.lst (f.map oD)), .im (.int mode), .im (.int odds), .im (.int k), v7] := by
  have z3 : (((l.map D.int).length : Nat) : Int) = l.length := by rw [List.length_map]
  by_cases hm : mode > 0
  · have b := p.bd (wide := (l.length : Int)) (by omega)
    have t := fun (x : Addr) (p : Pl) => p_tk C x p (l.length : Int) (by omega) (by omega)
    refine ⟨p.st l.length, (p.dr l.length).toNat, by omega, fun x v7 Q E => ?_⟩
    rw [show (((p.dr l.length).toNat : Nat) : Int) = p.dr l.length by omega]
    have hm : (mode > 0) = True := eq_true hm
    simp only [stI, hm, decide_true, z3, ↓t, ↓wpre0, ↓wpre1, ↓wpre2, ↓wpre3, ↓wpre4, ↓wpre5, wpost0, wpost1, ↓inQ, ↓callA, ↓ioAt, ↓putS, ↓isiD, ↓isi0, ↓hallM, Option.map, List.replicate, Nat.reduceAdd, Nat.reduceSub, ↓if_true, ↓if_false, ↓ite_true, ↓ite_false, reduceIte, oldS, forall_const, putX]
  · have hm : (mode > 0) = False := eq_false hm
    by_cases h1 : (1 : Int) < (l.length : Int) - 1
    · refine ⟨p, 1, by omega, fun x v7 Q E => ?_⟩
      have h1 : ((1 : Int) < (l.length : Int) - 1) = True := eq_true h1
      simp only [stI, hm, decide_false, z3, h1, ↓wpre0, ↓wpre1, ↓wpre2, ↓wpre3, ↓wpre4, ↓wpre5, wpost0, wpost1, ↓inQ, ↓callA, ↓ioAt, ↓putS, ↓isiD, ↓isi0, ↓hallM, Option.map, List.replicate, Nat.reduceAdd, Nat.reduceSub, ↓if_true, ↓if_false, ↓ite_true, ↓ite_false, reduceIte, oldS, forall_const, putX]
      rfl
    · refine ⟨p, l.length - 1, by omega, fun x v7 Q E => ?_⟩
      have h1 : ((1 : Int) < (l.length : Int) - 1) = False := eq_false h1
      have e : ((l.length - 1 : Nat) : Int) = (l.length : Int) - 1 := by omega
      simp only [stI, hm, decide_false, z3, h1, e, ↓wpre0, ↓wpre1, ↓wpre2, ↓wpre3, ↓wpre4, ↓wpre5, wpost0, wpost1, ↓inQ, ↓callA, ↓ioAt, ↓putS, ↓isiD, ↓isi0, ↓hallM, Option.map, List.replicate, Nat.reduceAdd, Nat.reduceSub, ↓if_true, ↓if_false, ↓ite_true, ↓ite_false, reduceIte, oldS, forall_const, putX]
theorem st_turn (C : Addr) (p : Pl) (Z : D) (mode odds k : Int) (ho : 2 ≤ odds ∧ odds < 100) (l : List Int) (f : List (Option Int)) (nd : l.Nodup) (hl : 0 < l.length) (hz : l.length ≤ 100) (hf : f.length ≤ 100) : ∃ (p' : Pl) (l' : List Int) (o : Option Int) (v : Int), Seat l l' o ∧
    ∀ (x : Addr) (v7 : DL.Slot) (h7 : ∀ x o, v7 ≠ .io x o) Q E, b_Lstood_1 C [.io x p.o, .im Z, .ow (.lst (l.map .int)), .ow (.lst (f.map oD)), .im (.int mode), .im (.int odds), .im (.int k), v7] Q E =
      Q .nx [.io x p'.o, .im Z, .ow (.lst (l'.map .int)), .ow (.lst ((f ++ [o]).map oD)), .im (.int mode), .im (.int odds), .im (.int k), .im (.int v)] := by
  obtain ⟨p1, j, hj, rk⟩ := st_ix C p Z mode odds k l f hl hz
  have ej : l[j]? = some l[j] := List.getElem?_eq_getElem hj
  have e1 : ixN (l.map D.int).length (j : Int) = some j := by unfold ixN; rw [List.length_map, if_pos (by omega), if_pos (by omega)]; rfl
  have e2 : (l.map D.int)[j]? = some (.int l[j]) := by rw [List.getElem?_map, ej]; rfl
  have z1 : ((l.map D.int).length ≤ sizeLine) = True := eq_true (by rw [List.length_map, sizeLine_eq]; omega)
  have z4 : ((f.map oD).length < sizeLine) = True := eq_true (by rw [List.length_map, sizeLine_eq]; omega)
  have tk := fun (x : Addr) (p : Pl) => p_tk C x p odds (by omega) (by omega)
  have pop : ∀ (x : Addr) (v7 : DL.Slot) (h7 : ∀ x o, v7 ≠ .io x o) Q E, (thenN (bnd (opopM 2 (stI C)) (setI 7)) : M DL.Fl) [.io x p.o, .im Z, .ow (.lst (l.map .int)), .ow (.lst (f.map oD)), .im (.int mode), .im (.int odds), .im (.int k), v7] Q E = Q .nx [.io x p1.o, .im Z, .ow (.lst ((l.eraseIdx j).map .int)), .ow (.lst (f.map oD)), .im (.int mode), .im (.int odds), .im (.int k), .im (.int l[j])] := fun x v7 h7 Q E => by
    have s7 : ∀ (env : List DL.Slot) (h : env[7]? = some v7) (d : D) (Q : Unit → List DL.Slot → Prop) E, setI 7 d env Q E = Q () (env.set 7 (.im d)) := fun env h d Q E => setI_ok h h7 ..
    have s7 := fun (a b c d e f g : DL.Slot) => s7 [a, b, c, d, e, f, g, v7] rfl
    simp only [↓opopM, ↓rk, e1, e2, z1, er_map, ↓s7, ↓bnd_ap, ↓ret_ap, ↓ask_ap, ↓fail_ap, ↓ite_ap, ↓dVar, ↓getO, ↓putO, ↓setO, ↓takeO, getElem?_0, getElem?_s, List.set_cons_zero, List.set_cons_succ, ↓seqM, ↓seqK, ↓thenN, ↓ifM, ↓andB, ↓orB, ↓notB, ↓andV, ↓notV, ↓asB, ↓do2, ↓chM, ↓consM, ↓consD, ↓consO, ↓tupM, ↓lstM, ↓olstM, ↓frzM, ↓resD, ↓resO, ↓callN, ↓callA, ↓allD, ↓split1, ↓callD, ↓call1, ↓callK, ↓ioAt, ↓putS, ↓finA, ↓defM, ↓un1, ↓un2, ↓truD, ↓isi0, D.kind, CT.is, ↓ltD, ↓leD, ↓gtD, ↓geD, ↓addD, ↓subD, ↓mulD, ↓modD, ↓fdivD, ↓powD, ↓isNonD, ↓notNonD, ↓negD, ↓lenD, ↓absD, ↓DL.intD, ↓max2D, ↓min2D, ↓divD, ↓tupD, ↓oixM, ↓olist, ↓asL, ↓ixL, ↓olenM, ↓oappM, ↓osetM, ↓opopM, ↓lRgM, ↓asgM, ↓setTw, ↓setKs, ↓setTup, ↓setIs, ↓parM, ↓setVs, ↓setV, ↓vD, ↓vO, putFD, hallOf, ↓DL.forM, ↓itR1, ↓itLst, ↓itTup, ↓partM, ↓slM, ↓asT, ↓tidxM, Option.map, List.map_cons, List.map_nil, List.cons_append, List.nil_append, List.length_cons, List.length_nil, List.replicate, Nat.reduceAdd, Nat.reduceSub, Nat.sub_self, Bool.not_true, Bool.not_false, ↓if_true, ↓if_false, ↓ite_true, ↓ite_false, true_and, and_true, Bool.true_eq_false, Bool.false_eq_true, reduceIte, pick_eq, at3_0, at3_1, at3_2, ix3_0, ix3_1, ix3_2, ↓eqM_ii, ↓eqM_ni, ↓eqM_in, ↓eqM_ss, ↓neM_ii, ↓neM_ss, backE, oldS, ↓loopK_nx, ↓loopK_rt, ↓forL_nil, ↓forL_cons, sl0, sl1, sl2, sl3, sl4, sl5, sl6, sl7, sl8, forall_const, sm0, sm1, sm2, sm3, sm4, sm5, sm6, sm7, sm8, wipeE, ↓compL_n, ↓compL_c, ↓compM_ap, List.filterMap_cons, List.filterMap_nil, ↓otupV, ↓sumTD, ownsX, slotX, backX, putX, ↓zipLM, ↓oslM, ↓tidxM, ↓asT, List.nodup_cons, List.nodup_nil, List.not_mem_nil, not_false_eq_true, ↓compME_ap]
  by_cases h0 : p1.dr odds = 0
  · refine ⟨p1.st odds, l.eraseIdx j, none, l[j], pop_seat nd ej _ (.inl rfl), fun x v7 h7 Q E => ?_⟩
    have ap : f.map oD ++ [D.non] = (f ++ [none]).map oD := snoc_o f none
    rw [st_eq, seq_run (pop x v7 h7)]
    simp only [stB, ↓tk, h0, beq_self_eq_true, z4, ap, ↓wpre0, ↓wpre1, ↓wpre2, ↓wpre3, ↓wpre4, ↓wpre5, wpost0, wpost1, ↓inQ, ↓callA, ↓ioAt, ↓putS, ↓isiD, ↓isi0, ↓hallM, Option.map, List.replicate, Nat.reduceAdd, Nat.reduceSub, ↓if_true, ↓if_false, ↓ite_true, ↓ite_false, reduceIte, oldS, forall_const, putX]
  · refine ⟨p1.st odds, l.eraseIdx j, some l[j], l[j], pop_seat nd ej _ (.inr rfl), fun x v7 h7 Q E => ?_⟩
    have ap : f.map oD ++ [D.int l[j]] = (f ++ [some l[j]]).map oD := snoc_o f (some l[j])
    have h4 : (p1.dr odds == 0) = false := by simpa using h0
    rw [st_eq, seq_run (pop x v7 h7)]
    simp only [stB, ↓tk, h0, h4, z4, ap, ↓wpre0, ↓wpre1, ↓wpre2, ↓wpre3, ↓wpre4, ↓wpre5, wpost0, wpost1, ↓inQ, ↓callA, ↓ioAt, ↓putS, ↓isiD, ↓isi0, ↓hallM, Option.map, List.replicate, Nat.reduceAdd, Nat.reduceSub, ↓if_true, ↓if_false, ↓ite_true, ↓ite_false, reduceIte, oldS, forall_const, putX]
theorem st_loop (C : Addr) (p : Pl) (Z : D) (mode odds : Int) (ho : 2 ≤ odds ∧ odds < 100) {g s : Int} (hg : 1 ≤ g ∧ g ≤ 24) (hs : 0 ≤ s ∧ s ≤ 6) : ∃ (p' : Pl) (l' : List Int) (st : Sd) (v6 v7 : DL.Slot), Stand g s st ∧ ∀ (x : Addr) Q E,
    forL (setI 6) (b_Lstood_1 C) ((nums g).map .int) [.io x p.o, .im Z, .ow (.lst ((nums (g + s)).map .int)), .ow (.lst []), .im (.int mode), .im (.int odds), .no, .no] Q E =
      Q .nx [.io x p'.o, .im Z, .ow (.lst (l'.map .int)), .ow (.lst (st.map oD)), .im (.int mode), .im (.int odds), v6, v7] := by
  obtain ⟨env', ⟨p', l', f, v6, v7, rfl, _, _, hlen, _, hb, hd, _, _⟩, run⟩ := for_run (ι := Addr) (tg := setI 6) (body := b_Lstood_1 C) (ds := (nums g).map .int) (env := fun x => [.io x p.o, .im Z, .ow (.lst ((nums (g + s)).map .int)), .ow (.lst []), .im (.int mode), .im (.int odds), .no, .no])
    (fun i env => ∃ (p : Pl) (l : List Int) (f : List (Option Int)) (v6 v7 : DL.Slot), env = (fun x => [.io x p.o, .im Z, .ow (.lst (l.map .int)), .ow (.lst (f.map oD)), .im (.int mode), .im (.int odds), v6, v7]) ∧ l.Nodup ∧ (∀ a ∈ l, 0 ≤ a ∧ a < g + s) ∧ f.length = i ∧ (g + s ≤ l.length + i ∧ l.length ≤ g + s) ∧
      (∀ a, some a ∈ f → (0 ≤ a ∧ a < g + s) ∧ a ∉ l) ∧ (f.Pairwise fun o p => o = none ∨ o ≠ p) ∧ (∀ x o, v6 ≠ .io x o) ∧ (∀ x o, v7 ≠ .io x o))
    ⟨p, nums (g + s), [], .no, .no, rfl, nums_nodup _, fun a ha => nums_mem.mp ha, rfl, by rw [nums_len]; omega, by simp, .nil, nofun, nofun⟩ (by
      rintro i d env hi ⟨p, l, f, v6, v7, rfl, nd, bl, hlen, ⟨h1, h2⟩, hb, hd, n6, n7⟩
      have hi' : i < g.toNat := by have := (List.getElem?_eq_some_iff.mp hi).1; rw [List.length_map, nums_len] at this; exact this
      rw [List.getElem?_map, nums_get hi'] at hi
      cases hi
      obtain ⟨p', l', o, v, S, run⟩ := st_turn C p Z mode odds i ho l f nd (by omega) (by omega) (by omega)
      have sl := S.len
      have sle : l'.length ≤ l.length := by
        have : ∀ {a b : List Int}, a.Nodup → (∀ x ∈ a, x ∈ b) → a.length ≤ b.length := fun na h => nodup_len na h
        exact this S.nd S.sub
      refine ⟨_, _, fun x => setI_ok rfl n6, fun x => run x v7 n7, p', l', f ++ [o], .im (.int i), .im (.int v), rfl, S.nd, fun a ha => bl a (S.sub a ha), by rw [List.length_append, hlen]; rfl, by omega, fun a ha => ?_, ?_, nofun, nofun⟩
      · rcases List.mem_append.mp ha with h | h
        · exact ⟨(hb a h).1, fun z => (hb a h).2 (S.sub a z)⟩
        · have e : some a = o := by simpa using h
          obtain ⟨q1, q2⟩ := S.out a e.symm
          exact ⟨bl a q1, q2⟩
      · rw [List.pairwise_append]
        refine ⟨hd, by simp, fun a ha b hb' => ?_⟩
        have e : b = o := by simpa using hb'
        subst e
        cases a with
        | none => exact .inl rfl
        | some a => exact .inr fun z => (hb a ha).2 (S.out a z.symm).1)
  rw [List.length_map, nums_len] at hlen
  refine ⟨p', l', f, v6, v7, ⟨by rw [hlen]; omega, hg, hs, fun a ha => (hb a ha).1, hd⟩, run⟩
theorem p_stood (C : Addr) (p : Pl) (g s : Int) (hg : 1 ≤ g ∧ g ≤ 24) (hs : 0 ≤ s ∧ s ≤ 6) : ∃ (st : Sd) (p' : Pl), Stand g s st ∧ ∀ (x : Addr) Q E, f_Lstood C [.io x p.o, .im (.tup [.int g, .int s])] Q E = Q (.d (stD st)) [.io x p'.o, .im (.tup [.int g, .int s])] := by
  have t4 := fun (x : Addr) (p : Pl) => p_tk C x p 4 (by decide) (by decide)
  have b := (p.st 4).bd (wide := 4) (by decide)
  have od : ∃ odds : Int, (2 ≤ odds ∧ odds < 100) ∧ ∀ (env : List DL.Slot) Q E, ixM (.lst [.int 2, .int 4, .int 9, .int 30]) (.int ((p.st 4).dr 4)) env Q E = Q (.int odds) env := by
    have c : (p.st 4).dr 4 = 0 ∨ (p.st 4).dr 4 = 1 ∨ (p.st 4).dr 4 = 2 ∨ (p.st 4).dr 4 = 3 := by omega
    rcases c with c | c | c | c <;> rw [c]
    · exact ⟨2, by decide, fun env Q E => rfl⟩
    · exact ⟨4, by decide, fun env Q E => rfl⟩
    · exact ⟨9, by decide, fun env Q E => rfl⟩
    · exact ⟨30, by decide, fun env Q E => rfl⟩
  obtain ⟨odds, ho, ix⟩ := od
  obtain ⟨p', l', st, v6, v7, S, run⟩ := st_loop C ((p.st 4).st 4) (.tup [.int g, .int s]) (p.dr 4) odds ho hg hs
  refine ⟨st, p', S, fun x Q E => ?_⟩
  have z1 : smallN (g + s) = True := eq_true ⟨by omega, by omega⟩
  have z2 : smallN g = True := eq_true ⟨by omega, by omega⟩
  have b1 : (-(2 ^ 62) ≤ g ∧ g < 2 ^ 62) = True := eq_true (by omega)
  have ixg : ∀ (env : List DL.Slot) Q E, ixM (.tup [.int g, .int s]) (.int 0) env Q E = Q (.int g) env := fun env Q E => rfl
  have su : ∀ (env : List DL.Slot) Q E, sumTD (.tup [.int g, .int s]) env Q E = Q (.int (g + s)) env := fun env Q E => by
    show Q (.int (g + (s + 0))) env = _
    rw [Int.add_zero]
  have s4 : ((3 : Nat) + 1 ≤ sizeLine) = True := eq_true (by rw [sizeLine_eq]; decide)
  simp only [↓f_Lstood, ↓m_Lstood, ↓t4, ↓ix, ↓ixg, ↓su, z1, z2, b1, range_nums, ↓run, stD, ↓wpre0, ↓wpre1, ↓wpre2, ↓wpre3, ↓wpre4, ↓wpre5, wpost0, wpost1, ↓inQ, ↓callA, ↓ioAt, ↓putS, ↓isiD, ↓isi0, ↓hallM, Option.map, List.replicate, Nat.reduceAdd, Nat.reduceSub, ↓if_true, ↓if_false, ↓ite_true, ↓ite_false, reduceIte, oldS, forall_const, putX]
end DLP
set_option Elab.async false
set_option linter.all false
set_option maxRecDepth 100000
set_option maxHeartbeats 4000000
namespace DLP
open PySem PySem.Spec PyProof.Rows L2 DL MW
theorem eqv_o (o : Option Int) (i : Int) : eqv (oD o) (.int i) = (o == some i) := by cases o <;> rfl
theorem flat_st (st : Sd) : (st.map oD).all flatD = true := by
  rw [List.all_map, List.all_eq_true]
  intro o _
  cases o <;> rfl
theorem any_st (st : Sd) (i : Int) : (st.map oD).any (fun d => eqv d (.int i)) = (hold st i).isSome := by
  rw [List.any_map]
  have e : (st.any ((fun d => eqv d (.int i)) ∘ oD)) = st.any fun o => o == some i := by
    congr 1
    funext o
    exact eqv_o o i
  rw [e]
  unfold hold
  cases st.any fun o => o == some i <;> rfl
theorem idx_st {st : Sd} {i h : Int} (e : hold st i = some h) : (((st.map oD).findIdx fun d => eqv d (.int i) : Nat) : Int) = h := by
  have e2 : ((st.map oD).findIdx fun d => eqv d (.int i)) = st.findIdx fun o => o == some i := by
    rw [List.findIdx_map]
    congr 1
    funext o
    exact eqv_o o i
  rw [e2]
  unfold hold at e
  split at e
  · exact Option.some.inj e
  · cases e
theorem inM_st (st : Sd) (i : Int) (env : List DL.Slot) (Q E) : inM (.int i) (.tup (st.map oD)) env Q E = Q (.bl (hold st i).isSome) env := by
  show ((_ ∧ _) ∧ _) = _
  simp only [flat_st, show flatD (.int i) = true from rfl, true_and, any_st]
  rfl
theorem idxL_st {st : Sd} {i h : Int} (e : hold st i = some h) (env : List DL.Slot) (Q E) : idxL (st.map oD) (.int i) env Q E = Q (.int h) env := by
  have e1 : ((st.map oD).any fun d => eqv d (.int i)) = true := by rw [any_st, e]; rfl
  show ((_ ∧ _ ∧ _) ∧ _) = _
  simp only [flat_st, show flatD (.int i) = true from rfl, true_and, e1]
  show Q (.int _) env = _
  rw [idx_st e]
/-- the last of a row -/
theorem atI_last {α : Type} (l : List α) (a : α) : atI (l ++ [a]) (-1) = some a := by
  unfold atI
  have e : ixN (l ++ [a]).length (-1) = some l.length := by
    unfold ixN
    rw [if_neg (by decide), if_pos (by rw [List.length_append, List.length_cons, List.length_nil]; omega)]
    congr 1
    rw [List.length_append, List.length_cons, List.length_nil]; omega
  rw [e]
  simp
theorem ints_snoc (l : List Int) (y : Int) : l.map D.int ++ [.int y] = (l ++ [y]).map D.int := by simp
theorem neg1 (env : List DL.Slot) (Q E) : bnd (DL.ret (D.int 1)) negD env Q E = Q (.int (-1)) env := rfl
theorem last_ints (l : List Int) (y : Int) : atI ((l ++ [y]).map D.int) (-1) = some (.int y) := by rw [← ints_snoc]; exact atI_last _ _
end DLP
set_option Elab.async false
set_option linter.all false
set_option maxRecDepth 100000
set_option maxHeartbeats 4000000
namespace DLP
open PySem PySem.Spec PyProof.Rows L2 DL MW
theorem row_ints {l : List Int} (h : ∀ i ∈ l, 0 ≤ i ∧ i < 1000) {n : Nat} (hz : l.length ≤ n) : Row (.tup (l.map .int)) 1 n :=
  (Row.tup (n := 0) (b := 0) fun i hi => Row.int (by have := h i hi; omega)).mono (Nat.le_refl _) (by omega)
theorem row_intl {l : List Int} (h : ∀ i ∈ l, 0 ≤ i ∧ i < 1000) {n : Nat} (hz : l.length ≤ n) : Row (.lst (l.map .int)) 1 n := by
  refine (Row.lst (n := 0) (b := 0) fun d hd => ?_).mono (Nat.le_refl _) (by rw [List.length_map]; omega)
  obtain ⟨i, hi, rfl⟩ := List.mem_map.mp hd
  exact Row.int (by have := h i hi; omega)
theorem ixM_st {g s : Int} {st : Sd} (S : Stand g s st) {i : Int} (h : 0 ≤ i ∧ i < g) (env : List DL.Slot) (Q E) : ixM (.tup (st.map oD)) (.int i) env Q E = Q (oD (seatAt st i)) env := by
  have hl : i.toNat < st.length := by have := S.len; omega
  have e : atI (st.map oD) i = some (oD (seatAt st i)) := by
    unfold atI ixN
    rw [if_pos h.1, if_pos (by rw [List.length_map]; omega)]
    show (st.map oD)[i.toNat]? = _
    rw [List.getElem?_map]
    unfold seatAt
    rw [if_pos h.1, List.getElem?_eq_getElem hl]
    rfl
  unfold ixM
  simp only [e]
  rfl
theorem path_snoc (st : Sd) (x : Int) : ∃ l, path st x = l ++ [endP st x] := by
  have := pathF_last (st := st) st.length x
  exact List.getLast?_eq_some_iff.mp this
theorem ix_path (st : Sd) (x : Int) (env : List DL.Slot) (Q E) : ixM (.tup ((path st x).map .int)) (.int (-1)) env Q E = Q (.int (endP st x)) env := by
  obtain ⟨l, e⟩ := path_snoc st x
  rw [e]
  unfold ixM
  simp only [last_ints]
  rfl
end DLP
set_option Elab.async false
set_option linter.all false
set_option maxRecDepth 100000
set_option maxHeartbeats 4000000
namespace DLP
open PySem PySem.Spec PyProof.Rows L2 DL MW
theorem pathF_it {st : Sd} : ∀ (n j : Nat) (x v : Int), (pathF st n x)[j]? = some v → it st j x = some v
  | 0, j, x, v, h => by
    cases j with
    | zero => exact h
    | succ j => cases h
  | n + 1, j, x, v, h => by
    cases e : hold st x with
    | none =>
      rw [pathF_none e] at h
      cases j with
      | zero => exact h
      | succ j => cases h
    | some y =>
      rw [pathF_some e] at h
      cases j with
      | zero => exact h
      | succ j =>
        have := pathF_it n j y v h
        show (hold st x).bind (it st j) = some v
        rw [e]; exact this
theorem path_nodup {g s : Int} {st : Sd} (S : Stand g s st) {x : Int} (hx : Loose st x) : (path st x).Nodup := by
  refine List.pairwise_iff_getElem.mpr fun i j hi hj hij e => ?_
  have e1 : (path st x)[i]? = some (path st x)[i] := List.getElem?_eq_getElem hi
  have e2 : (path st x)[j]? = some (path st x)[j] := List.getElem?_eq_getElem hj
  rw [e] at e1
  have h1 := pathF_it _ _ _ _ e1
  have h2 := pathF_it _ _ _ _ e2
  have := S.it_inj hx h2 h1
  have := S.it_inj hx h1 h2
  omega
theorem cut_m1 {α : Type} (l : List α) : cutL l none (some (-1)) = l.dropLast := by
  have e : HT.sIx l.length l.length (some (-1)) = l.length - 1 := by
    unfold HT.sIx
    simp
    omega
  unfold cutL
  rw [e, HT.sIx_none, List.drop_zero, Nat.sub_zero, List.dropLast_eq_take]
theorem nin_ints (y : Int) (l : List Int) (env : List DL.Slot) (Q E) : ninM (.int y) (.lst (l.map .int)) env Q E = Q (.bl (!decide (y ∈ l))) env := by
  have f : (l.map D.int).all flatD = true := by rw [List.all_map, List.all_eq_true]; exact fun _ _ => rfl
  have a : (l.map D.int).any (fun d => eqv d (.int y)) = decide (y ∈ l) := by
    rw [List.any_map, Bool.eq_iff_iff, List.any_eq_true, decide_eq_true_iff]
    constructor
    · rintro ⟨a, ha, e⟩
      have e : (a == y) = true := e
      rw [beq_iff_eq] at e; exact e ▸ ha
    · intro h; exact ⟨y, h, beq_self_eq_true y⟩
  show ((_ ∧ _) ∧ _) = _
  simp only [f, show flatD (.int y) = true from rfl, true_and, a]
  rfl
theorem seenK_loop (C : Addr) (st : Sd) (x0 : Int) : ∀ (n : Nat) (acc : List Int) (y : Int), MW.Ends st n y → acc.length + n < 1000 → (acc ++ pathF st n y).Nodup → ∀ Q E,
    whileM (w_Lseen_2 C) (b_Lseen_1 C) [.im (stD st), .im (.int x0), .ow (.lst ((acc ++ [y]).map .int))] Q E =
      Q .nx [.im (stD st), .im (.int x0), .ow (.lst ((acc ++ pathF st n y).map .int))] := by
  intro n
  induction n with
  | zero =>
    intro acc y he _ _ Q E
    have he : hold st y = none := he
    refine while_end (fun Q E => ?_) Q E
    simp only [↓w_Lseen_2, stD, ↓oixM, ↓ixL, last_ints, ↓inM_st, he, Option.isSome_none, ↓wpre0, ↓wpre1, ↓wpre2, ↓wpre3, ↓wpre4, ↓wpre5, wpost0, wpost1, ↓inQ, ↓callA, ↓ioAt, ↓putS, ↓isiD, ↓isi0, ↓hallM, Option.map, List.replicate, Nat.reduceAdd, Nat.reduceSub, ↓if_true, ↓if_false, ↓ite_true, ↓ite_false, reduceIte, oldS, forall_const, putX]
    rfl
  | succ n ih =>
    intro acc y he hz nd Q E
    cases hy : hold st y with
    | none =>
      have e : pathF st (n + 1) y = [y] := pathF_none hy
      rw [e]
      refine while_end (fun Q E => ?_) Q E
      simp only [↓w_Lseen_2, stD, ↓oixM, ↓ixL, last_ints, ↓inM_st, hy, Option.isSome_none, ↓wpre0, ↓wpre1, ↓wpre2, ↓wpre3, ↓wpre4, ↓wpre5, wpost0, wpost1, ↓inQ, ↓callA, ↓ioAt, ↓putS, ↓isiD, ↓isi0, ↓hallM, Option.map, List.replicate, Nat.reduceAdd, Nat.reduceSub, ↓if_true, ↓if_false, ↓ite_true, ↓ite_false, reduceIte, oldS, forall_const, putX]
    | some h =>
      have e : pathF st (n + 1) y = y :: pathF st n h := pathF_some hy
      have he' := ends_some he hy
      have z : ((acc ++ [y]).map D.int).length < sizeLine := by rw [List.length_map, List.length_append, List.length_cons, List.length_nil, sizeLine_eq]; omega
      rw [e] at nd
      have ny : y ∉ acc := fun hm => by
        have := List.nodup_append.mp nd
        exact this.2.2 y hm y List.mem_cons_self rfl
      have cu : cutL ((acc ++ [y]).map D.int) none (some (-1)) = acc.map D.int := by rw [cut_m1, ← List.map_dropLast, List.dropLast_concat]
      have nn := fun env Q E => nin_ints y acc env Q E
      have d1 : decide (y ∈ acc) = false := decide_eq_false ny
      rw [while_step (e1 := [.im (stD st), .im (.int x0), .ow (.lst ((acc ++ [y]).map .int))]) (e2 := [.im (stD st), .im (.int x0), .ow (.lst (((acc ++ [y]) ++ [h]).map .int))]) (fun Q E => by simp only [↓w_Lseen_2, stD, ↓oixM, ↓ixL, last_ints, ↓inM_st, hy, Option.isSome_some, cu, ↓nn, d1, ↓wpre0, ↓wpre1, ↓wpre2, ↓wpre3, ↓wpre4, ↓wpre5, wpost0, wpost1, ↓inQ, ↓callA, ↓ioAt, ↓putS, ↓isiD, ↓isi0, ↓hallM, Option.map, List.replicate, Nat.reduceAdd, Nat.reduceSub, ↓if_true, ↓if_false, ↓ite_true, ↓ite_false, reduceIte, oldS, forall_const, putX])
        (fun Q E => by
          rw [← ints_snoc (acc ++ [y]) h]
          simp only [stD, ↓b_Lseen_1, ↓oixM, ↓ixL, last_ints, ↓idxL_st hy, z, ↓wpre0, ↓wpre1, ↓wpre2, ↓wpre3, ↓wpre4, ↓wpre5, wpost0, wpost1, ↓inQ, ↓callA, ↓ioAt, ↓putS, ↓isiD, ↓isi0, ↓hallM, Option.map, List.replicate, Nat.reduceAdd, Nat.reduceSub, ↓if_true, ↓if_false, ↓ite_true, ↓ite_false, reduceIte, oldS, forall_const, putX])]
      rw [ih (acc ++ [y]) h he' (by rw [List.length_append]; simp; omega) (by rw [List.append_assoc]; exact nd), e]
      simp
theorem p_seen (C : Addr) {g s : Int} {st : Sd} (S : Stand g s st) (x : Int) (hx : Loose st x) (Q E) : f_Lseen C [.im (stD st), .im (.int x)] Q E = Q (.o (.lst ((path st x).map .int))) [.im (stD st), .im (.int x)] := by
  have nd := path_nodup S hx
  have := seenK_loop C st x st.length [] x (S.ends hx) (by have := S.len; have := S.hg; simp; omega) nd
  simp only [List.nil_append] at this
  have e : (O.lst [D.int x]) = .lst (([x] : List Int).map .int) := rfl
  simp only [↓f_Lseen, ↓m_Lseen, e, ↓this, path, ↓wpre0, ↓wpre1, ↓wpre2, ↓wpre3, ↓wpre4, ↓wpre5, wpost0, wpost1, ↓inQ, ↓callA, ↓ioAt, ↓putS, ↓isiD, ↓isi0, ↓hallM, Option.map, List.replicate, Nat.reduceAdd, Nat.reduceSub, ↓if_true, ↓if_false, ↓ite_true, ↓ite_false, reduceIte, oldS, forall_const, putX]
theorem neM_bb (a b : Bool) (env : List DL.Slot) (Q E) : neM (.bl a) (.bl b) env Q E = Q (.bl (!(a == b))) env := by
  show ((_ ∧ _) ∧ _) = _; simp only [show eqOk (.bl a) = true from rfl, show eqOk (.bl b) = true from rfl, true_and]; rfl
theorem walked_loop (C : Addr) (st : Sd) (x0 : Int) : ∀ (n : Nat) (acc : List Int) (y : Int), MW.Ends st n y → acc.length + n < 1000 → ∀ Q E,
    whileM (w_walked_2 C) (b_walked_1 C) [.im (stD st), .im (.int x0), .ow (.lst ((acc ++ [y]).map .int))] Q E =
      Q .nx [.im (stD st), .im (.int x0), .ow (.lst ((acc ++ pathF st n y).map .int))] := by
  intro n
  induction n with
  | zero =>
    intro acc y he _ Q E
    have he : hold st y = none := he
    refine while_end (fun Q E => ?_) Q E
    simp only [↓w_walked_2, stD, ↓oixM, ↓ixL, last_ints, ↓inM_st, he, Option.isSome_none, ↓wpre0, ↓wpre1, ↓wpre2, ↓wpre3, ↓wpre4, ↓wpre5, wpost0, wpost1, ↓inQ, ↓callA, ↓ioAt, ↓putS, ↓isiD, ↓isi0, ↓hallM, Option.map, List.replicate, Nat.reduceAdd, Nat.reduceSub, ↓if_true, ↓if_false, ↓ite_true, ↓ite_false, reduceIte, oldS, forall_const, putX]
    rfl
  | succ n ih =>
    intro acc y he hz Q E
    cases hy : hold st y with
    | none =>
      have e : pathF st (n + 1) y = [y] := pathF_none hy
      rw [e]
      refine while_end (fun Q E => ?_) Q E
      simp only [↓w_walked_2, stD, ↓oixM, ↓ixL, last_ints, ↓inM_st, hy, Option.isSome_none, ↓wpre0, ↓wpre1, ↓wpre2, ↓wpre3, ↓wpre4, ↓wpre5, wpost0, wpost1, ↓inQ, ↓callA, ↓ioAt, ↓putS, ↓isiD, ↓isi0, ↓hallM, Option.map, List.replicate, Nat.reduceAdd, Nat.reduceSub, ↓if_true, ↓if_false, ↓ite_true, ↓ite_false, reduceIte, oldS, forall_const, putX]
    | some h =>
      have e : pathF st (n + 1) y = y :: pathF st n h := pathF_some hy
      have he' := ends_some he hy
      have z : ((acc ++ [y]).map D.int).length < sizeLine := by rw [List.length_map, List.length_append, List.length_cons, List.length_nil, sizeLine_eq]; omega
      rw [while_step (e1 := [.im (stD st), .im (.int x0), .ow (.lst ((acc ++ [y]).map .int))]) (e2 := [.im (stD st), .im (.int x0), .ow (.lst (((acc ++ [y]) ++ [h]).map .int))]) (fun Q E => by simp only [↓w_walked_2, stD, ↓oixM, ↓ixL, last_ints, ↓inM_st, hy, Option.isSome_some, ↓wpre0, ↓wpre1, ↓wpre2, ↓wpre3, ↓wpre4, ↓wpre5, wpost0, wpost1, ↓inQ, ↓callA, ↓ioAt, ↓putS, ↓isiD, ↓isi0, ↓hallM, Option.map, List.replicate, Nat.reduceAdd, Nat.reduceSub, ↓if_true, ↓if_false, ↓ite_true, ↓ite_false, reduceIte, oldS, forall_const, putX])
        (fun Q E => by
          rw [← ints_snoc (acc ++ [y]) h]
          simp only [stD, ↓b_walked_1, ↓oixM, ↓ixL, last_ints, ↓idxL_st hy, z, ↓wpre0, ↓wpre1, ↓wpre2, ↓wpre3, ↓wpre4, ↓wpre5, wpost0, wpost1, ↓inQ, ↓callA, ↓ioAt, ↓putS, ↓isiD, ↓isi0, ↓hallM, Option.map, List.replicate, Nat.reduceAdd, Nat.reduceSub, ↓if_true, ↓if_false, ↓ite_true, ↓ite_false, reduceIte, oldS, forall_const, putX])]
      rw [ih (acc ++ [y]) h he' (by rw [List.length_append]; simp; omega), e]
      simp
theorem p_walked (C : Addr) {g s : Int} {st : Sd} (S : Stand g s st) (x : Int) (hx : Loose st x) (Q E) : f_walked C [.im (stD st), .im (.int x)] Q E = Q (.o (.lst ((path st x).map .int))) [.im (stD st), .im (.int x)] := by
  have := walked_loop C st x st.length [] x (S.ends hx) (by have := S.len; have := S.hg; simp; omega)
  simp only [List.nil_append] at this
  have e : (O.lst [D.int x]) = .lst (([x] : List Int).map .int) := rfl
  simp only [↓f_walked, ↓m_walked, e, ↓this, path, ↓wpre0, ↓wpre1, ↓wpre2, ↓wpre3, ↓wpre4, ↓wpre5, wpost0, wpost1, ↓inQ, ↓callA, ↓ioAt, ↓putS, ↓isiD, ↓isi0, ↓hallM, Option.map, List.replicate, Nat.reduceAdd, Nat.reduceSub, ↓if_true, ↓if_false, ↓ite_true, ↓ite_false, reduceIte, oldS, forall_const, putX]
end DLP
set_option Elab.async false
set_option linter.all false
set_option maxRecDepth 100000
set_option maxHeartbeats 4000000
namespace DLP
open PySem PySem.Spec PyProof.Rows L2 DL MW
mutual
def kdA : D → Bool
  | .non => true | .bl _ => true | .str _ => true | .emp => true
  | .int i => (decide (-40 ≤ i) && decide (i ≤ 60)) || decide (i = 10 ^ 30)
  | .tup xs => kdL xs | .lst xs => kdL xs
  | _ => false
def kdL : List D → Bool
  | [] => true
  | x :: xs => kdA x && kdL xs
end
theorem kdL_mem : ∀ {ds : List D} {d : D}, kdL ds = true → d ∈ ds → kdA d = true
  | x :: xs, d, h, m => by
    have q : kdA x = true ∧ kdL xs = true := by simpa [kdL] using h
    rcases List.mem_cons.mp m with e | e
    · rw [e]; exact q.1
    · exact kdL_mem q.2 e
theorem kdL_of : ∀ {ds : List D}, (∀ d ∈ ds, kdA d = true) → kdL ds = true
  | [], _ => rfl
  | x :: xs, h => by show (kdA x && kdL xs) = true; rw [h x List.mem_cons_self, kdL_of fun d hd => h d (List.mem_cons_of_mem _ hd)]; rfl
theorem kdT {ds : List D} (h : kdA (.tup ds) = true) : ∀ d ∈ ds, kdA d = true := fun d hd => kdL_mem (by simpa [kdA] using h) hd
def wholeB (d : D) (a b : Int) : Bool := match d with
  | .int i => decide (a ≤ i) && decide (i ≤ b)
  | _ => false
theorem whole_int {d : D} {a b : Int} (h : wholeB d a b = true) : ∃ i, d = .int i ∧ a ≤ i ∧ i ≤ b := by
  cases d with
  | int i => exact ⟨i, rfl, by simpa [wholeB] using h⟩
  | _ => cases h
theorem p_wholeA (C : Addr) {d : D} (hd : kdA d = true) (a b : Int) (Q E) : f_is_whole C [.im d, .im (.int a), .im (.int b)] Q E = Q (.d (.bl (wholeB d a b))) [.im d, .im (.int a), .im (.int b)] := by
  cases d with
  | int i => exact p_whole C i a b Q E
  | non => simp only [↓f_is_whole, ↓m_is_whole, wholeB, ↓wpre0, ↓wpre1, ↓wpre2, ↓wpre3, ↓wpre4, ↓wpre5, wpost0, wpost1, ↓inQ, ↓callA, ↓ioAt, ↓putS, ↓isiD, ↓isi0, ↓hallM, Option.map, List.replicate, Nat.reduceAdd, Nat.reduceSub, ↓if_true, ↓if_false, ↓ite_true, ↓ite_false, reduceIte, oldS, forall_const, putX]
  | bl _ => simp only [↓f_is_whole, ↓m_is_whole, wholeB, ↓wpre0, ↓wpre1, ↓wpre2, ↓wpre3, ↓wpre4, ↓wpre5, wpost0, wpost1, ↓inQ, ↓callA, ↓ioAt, ↓putS, ↓isiD, ↓isi0, ↓hallM, Option.map, List.replicate, Nat.reduceAdd, Nat.reduceSub, ↓if_true, ↓if_false, ↓ite_true, ↓ite_false, reduceIte, oldS, forall_const, putX]
  | str _ => simp only [↓f_is_whole, ↓m_is_whole, wholeB, ↓wpre0, ↓wpre1, ↓wpre2, ↓wpre3, ↓wpre4, ↓wpre5, wpost0, wpost1, ↓inQ, ↓callA, ↓ioAt, ↓putS, ↓isiD, ↓isi0, ↓hallM, Option.map, List.replicate, Nat.reduceAdd, Nat.reduceSub, ↓if_true, ↓if_false, ↓ite_true, ↓ite_false, reduceIte, oldS, forall_const, putX]
  | emp => simp only [↓f_is_whole, ↓m_is_whole, wholeB, ↓wpre0, ↓wpre1, ↓wpre2, ↓wpre3, ↓wpre4, ↓wpre5, wpost0, wpost1, ↓inQ, ↓callA, ↓ioAt, ↓putS, ↓isiD, ↓isi0, ↓hallM, Option.map, List.replicate, Nat.reduceAdd, Nat.reduceSub, ↓if_true, ↓if_false, ↓ite_true, ↓ite_false, reduceIte, oldS, forall_const, putX]
  | tup _ => simp only [↓f_is_whole, ↓m_is_whole, wholeB, ↓wpre0, ↓wpre1, ↓wpre2, ↓wpre3, ↓wpre4, ↓wpre5, wpost0, wpost1, ↓inQ, ↓callA, ↓ioAt, ↓putS, ↓isiD, ↓isi0, ↓hallM, Option.map, List.replicate, Nat.reduceAdd, Nat.reduceSub, ↓if_true, ↓if_false, ↓ite_true, ↓ite_false, reduceIte, oldS, forall_const, putX]
  | lst _ => simp only [↓f_is_whole, ↓m_is_whole, wholeB, ↓wpre0, ↓wpre1, ↓wpre2, ↓wpre3, ↓wpre4, ↓wpre5, wpost0, wpost1, ↓inQ, ↓callA, ↓ioAt, ↓putS, ↓isiD, ↓isi0, ↓hallM, Option.map, List.replicate, Nat.reduceAdd, Nat.reduceSub, ↓if_true, ↓if_false, ↓ite_true, ↓ite_false, reduceIte, oldS, forall_const, putX]
  | _ => cases hd
/-- what a row of data says of being a tuple -/
def isTup : D → Bool
  | .tup _ => true
  | _ => false
theorem isi_tup {d : D} (h : kdA d = true) (env : List DL.Slot) (Q E) : isi0 .tuple d env Q E = Q (.bl (isTup d)) env := by
  cases d <;> first | rfl | cases h
def numI : D → Int
  | .int i => i
  | _ => 0
def sizesB (d : D) : Option (Int × Int) := match d with
  | .tup [a, b] => if (wholeB a 1 24 && wholeB b 0 6) = true then some (numI a, numI b) else none
  | _ => none
theorem sizesB_some {d : D} {p : Int × Int} (h : sizesB d = some p) : d = .tup [.int p.1, .int p.2] ∧ (1 ≤ p.1 ∧ p.1 ≤ 24) ∧ 0 ≤ p.2 ∧ p.2 ≤ 6 := by
  unfold sizesB at h
  split at h
  · rename_i a b
    split at h
    · rename_i w
      cases h
      rw [Bool.and_eq_true] at w
      obtain ⟨i, rfl, i1, i2⟩ := whole_int w.1
      obtain ⟨j, rfl, j1, j2⟩ := whole_int w.2
      exact ⟨rfl, ⟨i1, i2⟩, j1, j2⟩
    · cases h
  · cases h
theorem sizesB_of {g s : Int} (hg : 1 ≤ g ∧ g ≤ 24) (hs : 0 ≤ s ∧ s ≤ 6) : sizesB (.tup [.int g, .int s]) = some (g, s) := by
  show (if (wholeB (.int g) 1 24 && wholeB (.int s) 0 6) = true then some (g, s) else none) = _
  rw [if_pos]
  simp [wholeB, hg, hs]
theorem sizes_len {ds : List D} (h : ds.length ≠ 2) : sizesB (.tup ds) = none := by
  unfold sizesB
  split
  · rename_i a b e; cases e; exact absurd rfl h
  · rfl
theorem atI_nat {α : Type} {l : List α} {k : Nat} {a : α} (h : l[k]? = some a) : atI l ((k : Nat) : Int) = some a := by
  have lt := (List.getElem?_eq_some_iff.mp h).1
  have e : ixN l.length ((k : Nat) : Int) = some k := by
    unfold ixN
    rw [if_pos (by omega), Int.toNat_natCast, if_pos (by omega)]
  unfold atI
  rw [e]
  exact h
theorem ixM_nat {l : List D} {k : Nat} {a : D} (h : l[k]? = some a) (env : List DL.Slot) (Q E) : ixM (.tup l) (.int ((k : Nat) : Int)) env Q E = Q a env := by
  unfold ixM
  simp only [atI_nat h]
  rfl
theorem ixa (a : D) (l : List D) (env : List DL.Slot) (Q E) : ixM (.tup (a :: l)) (.int 0) env Q E = Q a env := ixM_nat (k := 0) rfl env Q E
theorem ixb (a b : D) (l : List D) (env : List DL.Slot) (Q E) : ixM (.tup (a :: b :: l)) (.int 1) env Q E = Q b env := ixM_nat (k := 1) rfl env Q E
theorem ixc (a b c : D) (l : List D) (env : List DL.Slot) (Q E) : ixM (.tup (a :: b :: c :: l)) (.int 2) env Q E = Q c env := ixM_nat (k := 2) rfl env Q E
theorem ixd (a b c d : D) (l : List D) (env : List DL.Slot) (Q E) : ixM (.tup (a :: b :: c :: d :: l)) (.int 3) env Q E = Q d env := ixM_nat (k := 3) rfl env Q E
theorem len_two {α : Type} {l : List α} (h : l.length = 2) : ∃ a b, l = [a, b] := by
  match l, h with
  | [a, b], _ => exact ⟨a, b, rfl⟩
theorem p_sizesA (C : Addr) {d : D} (hd : kdA d = true) (Q E) : f_are_sizes C [.im d] Q E = Q (.d (.bl (sizesB d).isSome)) [.im d] := by
  have it := fun env Q E => isi_tup hd env Q E
  cases d with
  | tup ds =>
    by_cases h2 : ds.length = 2
    · obtain ⟨a, b, rfl⟩ := len_two h2
      have ka := kdT hd a (by simp)
      have kb := kdT hd b (by simp)
      have pa := fun Q E => p_wholeA C ka 1 24 Q E
      have pb := fun Q E => p_wholeA C kb 0 6 Q E
      have e2 : (((0 + 1 + 1 : Nat) : Int) == 2) = true := rfl
      cases za : wholeB a 1 24 with
      | false =>
        rw [za] at pa
        have e : (sizesB (.tup [a, b])).isSome = false := by simp [sizesB, za]
        simp only [e, ↓f_are_sizes, ↓m_are_sizes, ↓ixa, ↓ixb, ↓pa, e2, ↓wpre0, ↓wpre1, ↓wpre2, ↓wpre3, ↓wpre4, ↓wpre5, wpost0, wpost1, ↓inQ, ↓callA, ↓ioAt, ↓putS, ↓isiD, ↓isi0, ↓hallM, Option.map, List.replicate, Nat.reduceAdd, Nat.reduceSub, ↓if_true, ↓if_false, ↓ite_true, ↓ite_false, reduceIte, oldS, forall_const, putX]
      | true =>
        rw [za] at pa
        have e : (sizesB (.tup [a, b])).isSome = wholeB b 0 6 := by cases zb : wholeB b 0 6 <;> simp [sizesB, za, zb]
        simp only [e, ↓f_are_sizes, ↓m_are_sizes, ↓ixa, ↓ixb, ↓pa, ↓pb, e2, ↓wpre0, ↓wpre1, ↓wpre2, ↓wpre3, ↓wpre4, ↓wpre5, wpost0, wpost1, ↓inQ, ↓callA, ↓ioAt, ↓putS, ↓isiD, ↓isi0, ↓hallM, Option.map, List.replicate, Nat.reduceAdd, Nat.reduceSub, ↓if_true, ↓if_false, ↓ite_true, ↓ite_false, reduceIte, oldS, forall_const, putX]
    · have e : (sizesB (.tup ds)).isSome = false := by rw [sizes_len h2]; rfl
      have e2 : (((ds.length : Nat) : Int) == 2) = false := beq_eq_false_iff_ne.mpr fun z => h2 (by omega)
      simp only [e, ↓f_are_sizes, ↓m_are_sizes, e2, ↓wpre0, ↓wpre1, ↓wpre2, ↓wpre3, ↓wpre4, ↓wpre5, wpost0, wpost1, ↓inQ, ↓callA, ↓ioAt, ↓putS, ↓isiD, ↓isi0, ↓hallM, Option.map, List.replicate, Nat.reduceAdd, Nat.reduceSub, ↓if_true, ↓if_false, ↓ite_true, ↓ite_false, reduceIte, oldS, forall_const, putX]
  | non => simp only [sizesB, ↓f_are_sizes, ↓m_are_sizes, ↓wpre0, ↓wpre1, ↓wpre2, ↓wpre3, ↓wpre4, ↓wpre5, wpost0, wpost1, ↓inQ, ↓callA, ↓ioAt, ↓putS, ↓isiD, ↓isi0, ↓hallM, Option.map, List.replicate, Nat.reduceAdd, Nat.reduceSub, ↓if_true, ↓if_false, ↓ite_true, ↓ite_false, reduceIte, oldS, forall_const, putX]; rfl
  | bl _ => simp only [sizesB, ↓f_are_sizes, ↓m_are_sizes, ↓wpre0, ↓wpre1, ↓wpre2, ↓wpre3, ↓wpre4, ↓wpre5, wpost0, wpost1, ↓inQ, ↓callA, ↓ioAt, ↓putS, ↓isiD, ↓isi0, ↓hallM, Option.map, List.replicate, Nat.reduceAdd, Nat.reduceSub, ↓if_true, ↓if_false, ↓ite_true, ↓ite_false, reduceIte, oldS, forall_const, putX]; rfl
  | int _ => simp only [sizesB, ↓f_are_sizes, ↓m_are_sizes, ↓wpre0, ↓wpre1, ↓wpre2, ↓wpre3, ↓wpre4, ↓wpre5, wpost0, wpost1, ↓inQ, ↓callA, ↓ioAt, ↓putS, ↓isiD, ↓isi0, ↓hallM, Option.map, List.replicate, Nat.reduceAdd, Nat.reduceSub, ↓if_true, ↓if_false, ↓ite_true, ↓ite_false, reduceIte, oldS, forall_const, putX]; rfl
  | str _ => simp only [sizesB, ↓f_are_sizes, ↓m_are_sizes, ↓wpre0, ↓wpre1, ↓wpre2, ↓wpre3, ↓wpre4, ↓wpre5, wpost0, wpost1, ↓inQ, ↓callA, ↓ioAt, ↓putS, ↓isiD, ↓isi0, ↓hallM, Option.map, List.replicate, Nat.reduceAdd, Nat.reduceSub, ↓if_true, ↓if_false, ↓ite_true, ↓ite_false, reduceIte, oldS, forall_const, putX]; rfl
  | emp => simp only [sizesB, ↓f_are_sizes, ↓m_are_sizes, ↓wpre0, ↓wpre1, ↓wpre2, ↓wpre3, ↓wpre4, ↓wpre5, wpost0, wpost1, ↓inQ, ↓callA, ↓ioAt, ↓putS, ↓isiD, ↓isi0, ↓hallM, Option.map, List.replicate, Nat.reduceAdd, Nat.reduceSub, ↓if_true, ↓if_false, ↓ite_true, ↓ite_false, reduceIte, oldS, forall_const, putX]; rfl
  | lst _ => simp only [sizesB, ↓f_are_sizes, ↓m_are_sizes, ↓wpre0, ↓wpre1, ↓wpre2, ↓wpre3, ↓wpre4, ↓wpre5, wpost0, wpost1, ↓inQ, ↓callA, ↓ioAt, ↓putS, ↓isiD, ↓isi0, ↓hallM, Option.map, List.replicate, Nat.reduceAdd, Nat.reduceSub, ↓if_true, ↓if_false, ↓ite_true, ↓ite_false, reduceIte, oldS, forall_const, putX]; rfl
  | _ => cases hd
end DLP
set_option Elab.async false
set_option linter.all false
set_option maxRecDepth 100000
set_option maxHeartbeats 4000000
namespace DLP
open PySem PySem.Spec PyProof.Rows L2 DL MW
def isNon : D → Bool
  | .non => true
  | _ => false
def seatsD (ds : List D) : List D := ds.filter fun d => !isNon d
def fitsB (sz th : D) : Bool := match sizesB sz with
  | none => false
  | some p => match th with
    | .tup ds => decide ((ds.length : Int) = p.1) && ((seatsD ds).all (fun d => wholeB d 0 (p.1 + p.2 - 1)) && decide (((seatsD ds).map numI).Nodup))
    | _ => false
theorem onces_iff : ∀ (ns acc : List Int), (ns.foldl onceI acc).length = acc.length + ns.length ↔ ns.Nodup ∧ ∀ n ∈ ns, n ∉ acc
  | [], acc => by simp
  | n :: ns, acc => by
    rw [List.foldl_cons, List.nodup_cons]
    by_cases h : acc.any (· == n) = true
    · have e : onceI acc n = acc := by unfold onceI; rw [if_pos h]
      have m : n ∈ acc := by
        obtain ⟨a, ha, q⟩ := List.any_eq_true.mp h
        exact (beq_iff_eq.mp q) ▸ ha
      have := onces_len ns acc
      rw [e]
      constructor
      · intro z; rw [List.length_cons] at z; omega
      · intro z; exact absurd m (z.2 n List.mem_cons_self)
    · have e : onceI acc n = acc ++ [n] := by unfold onceI; rw [if_neg h]
      have m : n ∉ acc := fun ha => h (List.any_eq_true.mpr ⟨n, ha, beq_iff_eq.mpr rfl⟩)
      have ih := onces_iff ns (acc ++ [n])
      rw [List.length_append, List.length_singleton] at ih
      rw [e, List.length_cons, show acc.length + (ns.length + 1) = acc.length + 1 + ns.length by omega, ih]
      constructor
      · rintro ⟨a, b⟩
        refine ⟨⟨fun z => b n z (by simp), a⟩, fun k hk => ?_⟩
        rcases List.mem_cons.mp hk with z | z
        · rw [z]; exact m
        · exact fun w => b k z (List.mem_append_left _ w)
      · rintro ⟨⟨a, b⟩, c⟩
        refine ⟨b, fun k hk w => ?_⟩
        rcases List.mem_append.mp w with w | w
        · exact c k (List.mem_cons_of_mem _ hk) w
        · exact a ((List.mem_singleton.mp w) ▸ hk)
theorem onces_nodup (ns : List Int) : decide (((onces ns).length : Int) = ((ns.length : Nat) : Int)) = decide ns.Nodup := by
  have h := onces_iff ns []
  simp only [List.length_nil, Nat.zero_add, List.not_mem_nil, not_false_eq_true, implies_true, and_true] at h
  by_cases z : ns.Nodup
  · rw [decide_eq_true z]; exact decide_eq_true (by have := h.mpr z; unfold onces; omega)
  · rw [decide_eq_false z]; exact decide_eq_false fun w => z (h.mp (by unfold onces at w; omega))
theorem ints_all {a b : Int} : ∀ {ds : List D}, (ds.all fun d => wholeB d a b) = true → ds = (ds.map numI).map D.int
  | [], _ => rfl
  | d :: ds, h => by
    rw [List.all_cons, Bool.and_eq_true] at h
    obtain ⟨i, rfl, _⟩ := whole_int h.1
    rw [List.map_cons, List.map_cons, ← ints_all h.2]
    rfl
theorem intsOf_ints : ∀ ns : List Int, intsOf (ns.map D.int) = some ns
  | [] => rfl
  | n :: ns => by show (intsOf (ns.map D.int)).map (n :: ·) = _; rw [intsOf_ints ns]; rfl
theorem many2 (v0 v1 v3 : DL.Slot) (ns : List Int) (h : ns.length ≤ 4000) (Q E) : manyM (dVar 2) [v0, v1, .im (.lst (ns.map D.int)), v3] Q E = Q (.int ((onces ns).length : Nat)) [v0, v1, .im (.lst (ns.map D.int)), v3] := by
  show (match intsOf (ns.map D.int) with
    | some ns => DL.ask (ns.length ≤ 4000) (DL.ret (D.int ((onces ns).length : Nat)) : M D)
    | none => DL.fail) _ Q E = _
  rw [intsOf_ints]
  exact propext ⟨fun z => z.2, fun z => ⟨h, z⟩⟩
theorem sum_sz (g s : Int) (env : List DL.Slot) (Q E) : un1 sumTD [.tup [.int g, .int s]] env Q E = Q (.int (g + s)) env := by
  show Q (.int (g + (s + 0))) env = _
  rw [Int.add_zero]
theorem p_lwholeA (C : Addr) {d : D} (hd : kdA d = true) (a b : Int) (Q E) : f_Lwhole C [.im d, .im (.int a), .im (.int b)] Q E = Q (.d (.bl (wholeB d a b))) [.im d, .im (.int a), .im (.int b)] := p_wholeA C hd a b Q E
section
variable (C : Addr) (g s : Int)
def fe (g s : Int) (ds : List D) (v : DL.Slot) : List DL.Slot := [.im (.tup [.int g, .int s]), .im (.tup ds), v, .no]
theorem fits1_run (ds : List D) (hl : ds.length ≤ 1000000) : Runs (c_fits_1 C) (fe g s ds .no) (.lst (seatsD ds)) (fe g s ds .no) := by
  have z : Runs (c_fits_1 C) (fe g s ds .no) (.lst ((ds.filter fun d => !isNon d).map id)) (fe g s ds .no) :=
    comp_pure ds id (fun d => !isNon d) id (fun Q E => by rw [List.map_id]; rfl) hl rfl fun a _ => ⟨[.im (.tup [.int g, .int s]), .im (.tup ds), .no, .im a], rfl, fun Q E => rfl, fun Q E => by cases a <;> rfl, fun _ Q E => rfl⟩
  rw [List.map_id] at z
  exact z
theorem fits2_run (ds tk : List D) (hl : tk.length ≤ 1000000) (hk : ∀ d ∈ tk, kdA d = true) : Runs (c_fits_2 C) (fe g s ds (.im (.lst tk))) (.lst (tk.map fun d => .bl (wholeB d 0 (g + s - 1)))) (fe g s ds (.im (.lst tk))) := by
  have z : Runs (c_fits_2 C) (fe g s ds (.im (.lst tk))) (.lst ((tk.filter fun _ => true).map fun d => .bl (wholeB d 0 (g + s - 1)))) (fe g s ds (.im (.lst tk))) :=
    comp_pure tk id (fun _ => true) _ (fun Q E => by rw [List.map_id]; rfl) hl rfl fun a ha => ⟨[.im (.tup [.int g, .int s]), .im (.tup ds), .im (.lst tk), .im a], rfl, fun Q E => rfl, fun Q E => rfl, fun _ Q E => by
      have pw := fun Q E => p_wholeA C (hk a ha) 0 (g + s - 1) Q E
      simp only [id, ↓pw, ↓sum_sz, ↓wpre0, ↓wpre1, ↓wpre2, ↓wpre3, ↓wpre4, ↓wpre5, wpost0, wpost1, ↓inQ, ↓callA, ↓ioAt, ↓putS, ↓isiD, ↓isi0, ↓hallM, Option.map, List.replicate, Nat.reduceAdd, Nat.reduceSub, ↓if_true, ↓if_false, ↓ite_true, ↓ite_false, reduceIte, oldS, forall_const, putX]⟩
  rw [List.filter_eq_self.mpr fun _ _ => rfl] at z
  exact z
end
def ft1 (C : Addr) : M DL.Fl := ifM (orB (notB (bnd (bnd (bnd (consD (dVar 0) (DL.ret [])) (callN 1 (f_are_sizes C))) resD) truD)) (orB (notB (bnd (bnd (dVar 1) (isi0 .tuple)) truD)) (do2 (bnd (consM (dVar 1) (DL.ret [])) (un1 lenD)) (do2 (dVar 0) (DL.ret (.int 0)) ixM) fun x y => bnd (neM x y) asB))) (bnd (DL.ret (.bl false)) fun d => DL.ret (.rt (.d d))) (DL.ret .nx)
def ft2 (C : Addr) : M DL.Fl := thenN (bnd (frzM (c_fits_1 C)) (setI 2))
def ft3 (C : Addr) : M DL.Fl := ifM (notB (bnd (bnd (consM (frzM (c_fits_2 C)) (DL.ret [])) (un1 allM)) truD)) (bnd (DL.ret (.bl false)) fun d => DL.ret (.rt (.d d))) (DL.ret .nx)
def ft4 (C : Addr) : M DL.Fl := bnd (do2 (manyM (dVar 2)) (bnd (consM (dVar 2) (DL.ret [])) (un1 lenD)) eqM) fun d => DL.ret (.rt (.d d))
theorem fteq (C : Addr) : m_fits C = seqM (ft1 C) (seqM (ft2 C) (seqM (ft3 C) (ft4 C))) := rfl
def lf1 (C : Addr) : M DL.Fl := ifM (orB (notB (bnd (bnd (dVar 0) (isi0 .tuple)) truD)) (orB (do2 (bnd (consM (dVar 0) (DL.ret [])) (un1 lenD)) (DL.ret (.int 2)) fun x y => bnd (neM x y) asB) (notB (bnd (bnd (bnd (consD (do2 (dVar 0) (DL.ret (.int 0)) ixM) (consD (DL.ret (.int 1)) (consD (DL.ret (.int 24)) (DL.ret [])))) (callN 3 (f_Lwhole C))) resD) truD)))) (bnd (DL.ret (.bl false)) fun d => DL.ret (.rt (.d d))) (DL.ret .nx)
def lf2 (C : Addr) : M DL.Fl := ifM (orB (notB (bnd (bnd (bnd (consD (do2 (dVar 0) (DL.ret (.int 1)) ixM) (consD (DL.ret (.int 0)) (consD (DL.ret (.int 6)) (DL.ret [])))) (callN 3 (f_Lwhole C))) resD) truD)) (orB (notB (bnd (bnd (dVar 1) (isi0 .tuple)) truD)) (do2 (bnd (consM (dVar 1) (DL.ret [])) (un1 lenD)) (do2 (dVar 0) (DL.ret (.int 0)) ixM) fun x y => bnd (neM x y) asB))) (bnd (DL.ret (.bl false)) fun d => DL.ret (.rt (.d d))) (DL.ret .nx)
def lf3 (C : Addr) : M DL.Fl := thenN (bnd (frzM (c_Lfits_1 C)) (setI 2))
def lf4 (C : Addr) : M DL.Fl := ifM (notB (bnd (bnd (consM (frzM (c_Lfits_2 C)) (DL.ret [])) (un1 allM)) truD)) (bnd (DL.ret (.bl false)) fun d => DL.ret (.rt (.d d))) (DL.ret .nx)
def lf5 (C : Addr) : M DL.Fl := bnd (do2 (manyM (dVar 2)) (bnd (consM (dVar 2) (DL.ret [])) (un1 lenD)) eqM) fun d => DL.ret (.rt (.d d))
theorem lfeq (C : Addr) : m_Lfits C = seqM (lf1 C) (seqM (lf2 C) (seqM (lf3 C) (seqM (lf4 C) (lf5 C)))) := rfl
def fits2B (g s : Int) (ds : List D) : Bool := (seatsD ds).all (fun d => wholeB d 0 (g + s - 1)) && decide (((seatsD ds).map numI).Nodup)
section
variable (C : Addr) (g s : Int) (ds : List D) (hd : ∀ d ∈ ds, kdA d = true) (hl : ds.length ≤ 1000)
include hd hl
theorem ft_tail (Q E) : seqM (ft2 C) (seqM (ft3 C) (ft4 C)) [.im (.tup [.int g, .int s]), .im (.tup ds), .no, .no] Q E = Q (.rt (.d (.bl (fits2B g s ds)))) [.im (.tup [.int g, .int s]), .im (.tup ds), .im (.lst (seatsD ds)), .no] := by
  have tl : (seatsD ds).length ≤ ds.length := List.length_filter_le ..
  have f1 := fun Q E => fits1_run C g s ds (by omega) Q E
  have f2 := fun Q E => fits2_run C g s ds (seatsD ds) (by omega) (fun d h => hd d (List.mem_filter.mp h).1) Q E
  simp only [fe] at f1 f2
  have am := fun env Q E => allM_map (fun d => wholeB d 0 (g + s - 1)) (seatsD ds) env Q E
  have r2 : Runs (ft2 C) [.im (.tup [.int g, .int s]), .im (.tup ds), .no, .no] .nx [.im (.tup [.int g, .int s]), .im (.tup ds), .im (.lst (seatsD ds)), .no] := fun Q E => by
    simp only [ft2, ↓f1, ↓wpre0, ↓wpre1, ↓wpre2, ↓wpre3, ↓wpre4, ↓wpre5, wpost0, wpost1, ↓inQ, ↓callA, ↓ioAt, ↓putS, ↓isiD, ↓isi0, ↓hallM, Option.map, List.replicate, Nat.reduceAdd, Nat.reduceSub, ↓if_true, ↓if_false, ↓ite_true, ↓ite_false, reduceIte, oldS, forall_const, putX]
  rw [seq_run r2]
  cases z : (seatsD ds).all fun d => wholeB d 0 (g + s - 1) with
  | false =>
    rw [z] at am
    have e : fits2B g s ds = false := by unfold fits2B; rw [z]; rfl
    rw [seq_ap]
    simp only [e, ft3, ↓f2, ↓am, ↓wpre0, ↓wpre1, ↓wpre2, ↓wpre3, ↓wpre4, ↓wpre5, wpost0, wpost1, ↓inQ, ↓callA, ↓ioAt, ↓putS, ↓isiD, ↓isi0, ↓hallM, Option.map, List.replicate, Nat.reduceAdd, Nat.reduceSub, ↓if_true, ↓if_false, ↓ite_true, ↓ite_false, reduceIte, oldS, forall_const, putX]
  | true =>
    rw [z] at am
    have e : fits2B g s ds = decide ((seatsD ds).map numI).Nodup := by unfold fits2B; rw [z]; rfl
    have r3 : Runs (ft3 C) [.im (.tup [.int g, .int s]), .im (.tup ds), .im (.lst (seatsD ds)), .no] .nx [.im (.tup [.int g, .int s]), .im (.tup ds), .im (.lst (seatsD ds)), .no] := fun Q E => by
      simp only [ft3, ↓f2, ↓am, ↓wpre0, ↓wpre1, ↓wpre2, ↓wpre3, ↓wpre4, ↓wpre5, wpost0, wpost1, ↓inQ, ↓callA, ↓ioAt, ↓putS, ↓isiD, ↓isi0, ↓hallM, Option.map, List.replicate, Nat.reduceAdd, Nat.reduceSub, ↓if_true, ↓if_false, ↓ite_true, ↓ite_false, reduceIte, oldS, forall_const, putX]
    rw [seq_run r3, e]
    have q := ints_all z
    generalize hn : (seatsD ds).map numI = ns at q
    have ln : ns.length = (seatsD ds).length := by rw [← hn, List.length_map]
    rw [q]
    have mm := fun Q E => many2 (.im (.tup [.int g, .int s])) (.im (.tup ds)) .no ns (by omega) Q E
    have od : (((onces ns).length : Int) == ((ns.length : Nat) : Int)) = decide ns.Nodup := by rw [← onces_nodup]; by_cases z : ((onces ns).length : Int) = ((ns.length : Nat) : Int) <;> simp [z]
    have lm : ((ns.map D.int).length) = ns.length := List.length_map ..
    simp only [ft4, ↓mm, lm, od, ↓wpre0, ↓wpre1, ↓wpre2, ↓wpre3, ↓wpre4, ↓wpre5, wpost0, wpost1, ↓inQ, ↓callA, ↓ioAt, ↓putS, ↓isiD, ↓isi0, ↓hallM, Option.map, List.replicate, Nat.reduceAdd, Nat.reduceSub, ↓if_true, ↓if_false, ↓ite_true, ↓ite_false, reduceIte, oldS, forall_const, putX]
end
theorem fitsB_tup {g s : Int} (hg : 1 ≤ g ∧ g ≤ 24) (hs : 0 ≤ s ∧ s ≤ 6) (ds : List D) : fitsB (.tup [.int g, .int s]) (.tup ds) = (decide ((ds.length : Int) = g) && fits2B g s ds) := by
  unfold fitsB
  rw [sizesB_of hg hs]
  rfl
theorem fitsB_no {sz th : D} (h : isTup th = false) : fitsB sz th = false := by
  unfold fitsB
  cases sizesB sz with
  | none => rfl
  | some p => cases th <;> first | rfl | cases h
theorem p_fits (C : Addr) {sz th : D} (h1 : kdA sz = true) (h2 : kdA th = true) (Q E) : f_fits C [.im sz, .im th] Q E = Q (.d (.bl (fitsB sz th))) [.im sz, .im th] := by
  have ps := fun Q E => p_sizesA C h1 Q E
  have it := fun env Q E => isi_tup h2 env Q E
  cases z : sizesB sz with
  | none =>
    rw [z] at ps
    have e : fitsB sz th = false := by unfold fitsB; rw [z]
    simp only [e, ↓f_fits, fteq, ↓seq_ap, ft1, ↓ps, Option.isSome_none, ↓wpre0, ↓wpre1, ↓wpre2, ↓wpre3, ↓wpre4, ↓wpre5, wpost0, wpost1, ↓inQ, ↓callA, ↓ioAt, ↓putS, ↓isiD, ↓isi0, ↓hallM, Option.map, List.replicate, Nat.reduceAdd, Nat.reduceSub, ↓if_true, ↓if_false, ↓ite_true, ↓ite_false, reduceIte, oldS, forall_const, putX]
  | some p =>
    obtain ⟨g, s⟩ := p
    rw [z] at ps
    obtain ⟨e0, hg, hs⟩ := sizesB_some z
    simp only at e0 hg hs
    subst e0
    cases t : isTup th with
    | false =>
      rw [t] at it
      simp only [fitsB_no t, ↓f_fits, fteq, ↓seq_ap, ft1, ↓ps, ↓it, Option.isSome_some, ↓wpre0, ↓wpre1, ↓wpre2, ↓wpre3, ↓wpre4, ↓wpre5, wpost0, wpost1, ↓inQ, ↓callA, ↓ioAt, ↓putS, ↓isiD, ↓hallM, Option.map, List.replicate, Nat.reduceAdd, Nat.reduceSub, ↓if_true, ↓if_false, ↓ite_true, ↓ite_false, reduceIte, oldS, forall_const, putX]
    | true =>
      cases th with
      | tup ds =>
        rw [fitsB_tup hg hs]
        by_cases hl : (ds.length : Int) = g
        · have r1 : Runs (ft1 C) [.im (.tup [.int g, .int s]), .im (.tup ds), .no, .no] .nx [.im (.tup [.int g, .int s]), .im (.tup ds), .no, .no] := fun Q E => by
            have b : ((ds.length : Int) == g) = true := beq_iff_eq.mpr hl
            simp only [ft1, ↓ps, ↓ixa, b, Option.isSome_some, ↓wpre0, ↓wpre1, ↓wpre2, ↓wpre3, ↓wpre4, ↓wpre5, wpost0, wpost1, ↓inQ, ↓callA, ↓ioAt, ↓putS, ↓isiD, ↓isi0, ↓hallM, Option.map, List.replicate, Nat.reduceAdd, Nat.reduceSub, ↓if_true, ↓if_false, ↓ite_true, ↓ite_false, reduceIte, oldS, forall_const, putX]
          have tl := fun Q E => ft_tail C g s ds (kdT h2) (by omega) Q E
          have sr := fun m Q E => seq_run (b := m) r1 Q E
          simp only [decide_eq_true hl, Bool.true_and, ↓f_fits, fteq, ↓sr, ↓tl, ↓wpre0, ↓wpre1, ↓wpre2, ↓wpre3, ↓wpre4, ↓wpre5, wpost0, wpost1, ↓inQ, ↓callA, ↓ioAt, ↓putS, ↓isiD, ↓isi0, ↓hallM, Option.map, List.replicate, Nat.reduceAdd, Nat.reduceSub, ↓if_true, ↓if_false, ↓ite_true, ↓ite_false, reduceIte, oldS, forall_const, putX]
        · have b : ((ds.length : Int) == g) = false := beq_eq_false_iff_ne.mpr hl
          simp only [decide_eq_false hl, Bool.false_and, ↓f_fits, fteq, ↓seq_ap, ft1, ↓ps, ↓ixa, b, Option.isSome_some, ↓wpre0, ↓wpre1, ↓wpre2, ↓wpre3, ↓wpre4, ↓wpre5, wpost0, wpost1, ↓inQ, ↓callA, ↓ioAt, ↓putS, ↓isiD, ↓isi0, ↓hallM, Option.map, List.replicate, Nat.reduceAdd, Nat.reduceSub, ↓if_true, ↓if_false, ↓ite_true, ↓ite_false, reduceIte, oldS, forall_const, putX]
      | _ => cases t
theorem p_Lfits (C : Addr) {sz th : D} (h1 : kdA sz = true) (h2 : kdA th = true) (Q E) : f_Lfits C [.im sz, .im th] Q E = Q (.d (.bl (fitsB sz th))) [.im sz, .im th] := by
  have it1 := fun env Q E => isi_tup h1 env Q E
  have it := fun env Q E => isi_tup h2 env Q E
  have no : ∀ {v}, sizesB sz = v → v = none → fitsB sz th = false := fun e e2 => by unfold fitsB; rw [e, e2]
  cases t1 : isTup sz with
  | false =>
    rw [t1] at it1
    have e : fitsB sz th = false := no (v := none) (by cases sz <;> first | rfl | cases t1) rfl
    simp only [e, ↓f_Lfits, lfeq, ↓seq_ap, lf1, ↓it1, ↓wpre0, ↓wpre1, ↓wpre2, ↓wpre3, ↓wpre4, ↓wpre5, wpost0, wpost1, ↓inQ, ↓callA, ↓ioAt, ↓putS, ↓isiD, ↓hallM, Option.map, List.replicate, Nat.reduceAdd, Nat.reduceSub, ↓if_true, ↓if_false, ↓ite_true, ↓ite_false, reduceIte, oldS, forall_const, putX]
  | true =>
    cases sz with
    | tup ss =>
      by_cases l2 : ss.length = 2
      · obtain ⟨a, b, rfl⟩ := len_two l2
        have pa := fun Q E => p_lwholeA C (kdT h1 a (by simp)) 1 24 Q E
        have pb := fun Q E => p_lwholeA C (kdT h1 b (by simp)) 0 6 Q E
        have e2 : (((0 + 1 + 1 : Nat) : Int) == 2) = true := rfl
        cases za : wholeB a 1 24 with
        | false =>
          rw [za] at pa
          have e : fitsB (.tup [a, b]) th = false := no (v := none) (by simp [sizesB, za]) rfl
          simp only [e, ↓f_Lfits, lfeq, ↓seq_ap, lf1, ↓ixa, ↓pa, e2, ↓wpre0, ↓wpre1, ↓wpre2, ↓wpre3, ↓wpre4, ↓wpre5, wpost0, wpost1, ↓inQ, ↓callA, ↓ioAt, ↓putS, ↓isiD, ↓isi0, ↓hallM, Option.map, List.replicate, Nat.reduceAdd, Nat.reduceSub, ↓if_true, ↓if_false, ↓ite_true, ↓ite_false, reduceIte, oldS, forall_const, putX]
        | true =>
          rw [za] at pa
          have r1 : Runs (lf1 C) [.im (.tup [a, b]), .im th, .no, .no] .nx [.im (.tup [a, b]), .im th, .no, .no] := fun Q E => by
            simp only [lf1, ↓ixa, ↓pa, e2, ↓wpre0, ↓wpre1, ↓wpre2, ↓wpre3, ↓wpre4, ↓wpre5, wpost0, wpost1, ↓inQ, ↓callA, ↓ioAt, ↓putS, ↓isiD, ↓isi0, ↓hallM, Option.map, List.replicate, Nat.reduceAdd, Nat.reduceSub, ↓if_true, ↓if_false, ↓ite_true, ↓ite_false, reduceIte, oldS, forall_const, putX]
          have sr1 := fun m Q E => seq_run (b := m) r1 Q E
          cases zb : wholeB b 0 6 with
          | false =>
            rw [zb] at pb
            have e : fitsB (.tup [a, b]) th = false := no (v := none) (by simp [sizesB, za, zb]) rfl
            simp only [e, ↓f_Lfits, lfeq, ↓sr1, ↓seq_ap, lf2, ↓ixb, ↓pb, ↓wpre0, ↓wpre1, ↓wpre2, ↓wpre3, ↓wpre4, ↓wpre5, wpost0, wpost1, ↓inQ, ↓callA, ↓ioAt, ↓putS, ↓isiD, ↓isi0, ↓hallM, Option.map, List.replicate, Nat.reduceAdd, Nat.reduceSub, ↓if_true, ↓if_false, ↓ite_true, ↓ite_false, reduceIte, oldS, forall_const, putX]
          | true =>
            rw [zb] at pb
            obtain ⟨g, rfl, hg⟩ := whole_int za
            obtain ⟨s, rfl, hs⟩ := whole_int zb
            cases t : isTup th with
            | false =>
              rw [t] at it
              simp only [fitsB_no t, ↓f_Lfits, lfeq, ↓sr1, ↓seq_ap, lf2, ↓ixb, ↓pb, ↓it, ↓wpre0, ↓wpre1, ↓wpre2, ↓wpre3, ↓wpre4, ↓wpre5, wpost0, wpost1, ↓inQ, ↓callA, ↓ioAt, ↓putS, ↓isiD, ↓hallM, Option.map, List.replicate, Nat.reduceAdd, Nat.reduceSub, ↓if_true, ↓if_false, ↓ite_true, ↓ite_false, reduceIte, oldS, forall_const, putX]
            | true =>
              cases th with
              | tup ds =>
                rw [fitsB_tup hg hs]
                by_cases hl : (ds.length : Int) = g
                · have r2 : Runs (lf2 C) [.im (.tup [.int g, .int s]), .im (.tup ds), .no, .no] .nx [.im (.tup [.int g, .int s]), .im (.tup ds), .no, .no] := fun Q E => by
                    have b : ((ds.length : Int) == g) = true := beq_iff_eq.mpr hl
                    simp only [lf2, ↓ixb, ↓pb, ↓ixa, b, ↓wpre0, ↓wpre1, ↓wpre2, ↓wpre3, ↓wpre4, ↓wpre5, wpost0, wpost1, ↓inQ, ↓callA, ↓ioAt, ↓putS, ↓isiD, ↓isi0, ↓hallM, Option.map, List.replicate, Nat.reduceAdd, Nat.reduceSub, ↓if_true, ↓if_false, ↓ite_true, ↓ite_false, reduceIte, oldS, forall_const, putX]
                  have sr2 := fun m Q E => seq_run (b := m) r2 Q E
                  have tl : ∀ Q E, seqM (lf3 C) (seqM (lf4 C) (lf5 C)) [.im (.tup [.int g, .int s]), .im (.tup ds), .no, .no] Q E = Q (.rt (.d (.bl (fits2B g s ds)))) [.im (.tup [.int g, .int s]), .im (.tup ds), .im (.lst (seatsD ds)), .no] := fun Q E => ft_tail C g s ds (kdT h2) (by omega) Q E
                  simp only [decide_eq_true hl, Bool.true_and, ↓f_Lfits, lfeq, ↓sr1, ↓sr2, ↓tl, ↓wpre0, ↓wpre1, ↓wpre2, ↓wpre3, ↓wpre4, ↓wpre5, wpost0, wpost1, ↓inQ, ↓callA, ↓ioAt, ↓putS, ↓isiD, ↓isi0, ↓hallM, Option.map, List.replicate, Nat.reduceAdd, Nat.reduceSub, ↓if_true, ↓if_false, ↓ite_true, ↓ite_false, reduceIte, oldS, forall_const, putX]
                · have b : ((ds.length : Int) == g) = false := beq_eq_false_iff_ne.mpr hl
                  simp only [decide_eq_false hl, Bool.false_and, ↓f_Lfits, lfeq, ↓sr1, ↓seq_ap, lf2, ↓ixb, ↓pb, ↓ixa, b, ↓wpre0, ↓wpre1, ↓wpre2, ↓wpre3, ↓wpre4, ↓wpre5, wpost0, wpost1, ↓inQ, ↓callA, ↓ioAt, ↓putS, ↓isiD, ↓isi0, ↓hallM, Option.map, List.replicate, Nat.reduceAdd, Nat.reduceSub, ↓if_true, ↓if_false, ↓ite_true, ↓ite_false, reduceIte, oldS, forall_const, putX]
              | _ => cases t
      · have e : fitsB (.tup ss) th = false := no (v := none) (sizes_len l2) rfl
        have e2 : (((ss.length : Nat) : Int) == 2) = false := beq_eq_false_iff_ne.mpr fun z => l2 (by omega)
        simp only [e, ↓f_Lfits, lfeq, ↓seq_ap, lf1, e2, ↓wpre0, ↓wpre1, ↓wpre2, ↓wpre3, ↓wpre4, ↓wpre5, wpost0, wpost1, ↓inQ, ↓callA, ↓ioAt, ↓putS, ↓isiD, ↓isi0, ↓hallM, Option.map, List.replicate, Nat.reduceAdd, Nat.reduceSub, ↓if_true, ↓if_false, ↓ite_true, ↓ite_false, reduceIte, oldS, forall_const, putX]
    | _ => cases t1
theorem oD_ints : ∀ {ds : List D}, (∀ d ∈ seatsD ds, ∃ i, d = .int i) → ∃ st : Sd, ds = st.map oD ∧ (seatsD ds).map numI = st.filterMap id
  | [], _ => ⟨[], rfl, rfl⟩
  | d :: ds, h => by
    by_cases n : isNon d = true
    · have e : seatsD (d :: ds) = seatsD ds := by unfold seatsD; rw [List.filter_cons_of_neg (by simp [n])]
      obtain ⟨st, a, b⟩ := oD_ints (ds := ds) fun x hx => h x (by rw [e]; exact hx)
      refine ⟨none :: st, ?_, ?_⟩
      · cases d <;> first | (rw [a]; rfl) | cases n
      · rw [e, b]; rfl
    · have e : seatsD (d :: ds) = d :: seatsD ds := by unfold seatsD; rw [List.filter_cons_of_pos (by simpa using n)]
      obtain ⟨i, rfl⟩ := h d (by rw [e]; exact List.mem_cons_self)
      obtain ⟨st, a, b⟩ := oD_ints (ds := ds) fun x hx => h x (by rw [e]; exact List.mem_cons_of_mem _ hx)
      refine ⟨some i :: st, by rw [a]; rfl, ?_⟩
      rw [e, List.map_cons, b]; rfl
theorem nodup_o : ∀ (st : Sd), (st.filterMap id).Nodup ↔ st.Pairwise fun o p => o = none ∨ o ≠ p
  | [] => by simp
  | none :: st => by
    rw [show (none :: st : Sd).filterMap id = st.filterMap id from rfl, List.pairwise_cons, nodup_o st]
    exact ⟨fun h => ⟨fun _ _ => .inl rfl, h⟩, fun h => h.2⟩
  | some i :: st => by
    rw [show (some i :: st).filterMap id = i :: st.filterMap id from rfl, List.pairwise_cons, List.nodup_cons, nodup_o st]
    refine and_congr ⟨fun h o ho => .inr fun e => h (List.mem_filterMap.mpr ⟨o, ho, e.symm⟩), fun h hm => ?_⟩ Iff.rfl
    obtain ⟨o, ho, e⟩ := List.mem_filterMap.mp hm
    rcases h o ho with z | z
    · cases z
    · exact z (show some i = o from e.symm)
theorem seats_st : ∀ (st : Sd), seatsD (st.map oD) = (st.filterMap id).map D.int
  | [] => rfl
  | none :: st => by rw [show (none :: st : Sd).filterMap id = st.filterMap id from rfl, ← seats_st st]; rfl
  | some i :: st => by rw [show (some i :: st).filterMap id = i :: st.filterMap id from rfl, List.map_cons, List.map_cons, ← seats_st st]; rfl
theorem fits_stand {sz th : D} (h : fitsB sz th = true) : ∃ g s st, sz = .tup [.int g, .int s] ∧ th = stD st ∧ Stand g s st := by
  cases z : sizesB sz with
  | none => unfold fitsB at h; rw [z] at h; cases h
  | some p =>
    obtain ⟨g, s⟩ := p
    obtain ⟨e0, hg, hs⟩ := sizesB_some z
    simp only at e0 hg hs
    subst e0
    cases th with
    | tup ds =>
      rw [fitsB_tup hg hs, Bool.and_eq_true] at h
      obtain ⟨h1, h2⟩ := h
      unfold fits2B at h2
      rw [Bool.and_eq_true] at h2
      obtain ⟨h3, h4⟩ := h2
      have w : ∀ d ∈ seatsD ds, ∃ i, d = .int i ∧ 0 ≤ i ∧ i ≤ g + s - 1 := fun d hd => whole_int (List.all_eq_true.mp h3 d hd)
      obtain ⟨st, a, b⟩ := oD_ints (ds := ds) fun d hd => let ⟨i, e, _⟩ := w d hd; ⟨i, e⟩
      refine ⟨g, s, st, rfl, by rw [a]; rfl, ?_, hg, hs, fun i hi => ?_, ?_⟩
      · have := of_decide_eq_true h1
        rw [a, List.length_map] at this
        exact this
      · have : D.int i ∈ seatsD ds := by
          rw [a, seats_st]
          exact List.mem_map.mpr ⟨i, List.mem_filterMap.mpr ⟨_, hi, rfl⟩, rfl⟩
        obtain ⟨j, e, j1, j2⟩ := w _ this
        cases e
        omega
      · rw [← nodup_o, ← b]; exact of_decide_eq_true h4
    | _ => rw [fitsB_no rfl] at h; cases h
theorem stand_fits {g s : Int} {st : Sd} (S : Stand g s st) : fitsB (.tup [.int g, .int s]) (stD st) = true := by
  rw [stD, fitsB_tup S.hg S.hs]
  have l : ((st.map oD).length : Int) = g := by rw [List.length_map]; exact S.len
  rw [decide_eq_true l, Bool.true_and]
  unfold fits2B
  rw [seats_st, Bool.and_eq_true]
  refine ⟨List.all_eq_true.mpr fun d hd => ?_, decide_eq_true ?_⟩
  · obtain ⟨i, hi, rfl⟩ := List.mem_map.mp hd
    obtain ⟨o, ho, e⟩ := List.mem_filterMap.mp hi
    cases (show o = some i from e)
    have := S.bd i ho
    simp [wholeB]; omega
  · rw [List.map_map, show numI ∘ D.int = id from rfl, List.map_id, nodup_o]
    exact S.nd
end DLP
set_option Elab.async false
set_option linter.all false
set_option maxRecDepth 100000
set_option maxHeartbeats 4000000
namespace DLP
open PySem PySem.Spec PyProof.Rows L2 DL MW
def isStr (w : D) (t : Str) : Bool := match w with
  | .str x => x == t
  | _ => false
theorem btf : ((true : Bool) == false) = false := rfl
theorem bft : ((false : Bool) == true) = false := rfl
theorem btt : ((true : Bool) == true) = true := rfl
theorem bff : ((false : Bool) == false) = true := rfl
theorem neQ_str {w : D} (hw : kdA w = true) {t : Str} (ht : eqOk (.str t) = true) (env : List DL.Slot) (Q E) : neQ w (.str t) env Q E = Q (.bl (!isStr w t)) env := by
  cases w with
  | non => exact (neM_gen (a := .non) (b := .str t) nofun rfl ht env Q E).trans (by rfl)
  | bl b => exact (neM_gen (a := .bl b) (b := .str t) nofun rfl ht env Q E).trans (by rfl)
  | int i => exact (neM_gen (a := .int i) (b := .str t) nofun rfl ht env Q E).trans (by rfl)
  | str x => rfl
  | emp => rfl
  | tup _ => rfl
  | lst _ => rfl
  | _ => cases hw
def oOf : D → Option Int
  | .int i => some i
  | _ => none
def stOf : D → Sd
  | .tup ds => ds.map oOf
  | _ => []
theorem stOf_st (st : Sd) : stOf (stD st) = st := by
  show (st.map oD).map oOf = st
  rw [List.map_map]
  refine (List.map_congr_left fun o _ => ?_).trans (List.map_id st)
  cases o <;> rfl
theorem notNon_o (o : Option Int) (env : List DL.Slot) (Q E) : notNonD (oD o) .non env Q E = Q (.bl o.isSome) env := by cases o <;> rfl
theorem isNon_o (o : Option Int) (env : List DL.Slot) (Q E) : isNonD (oD o) .non env Q E = Q (.bl o.isNone) env := by cases o <;> rfl
theorem ok_waits : eqOk (.str "waits") = true := by decide +kernel
def sameI (d : D) (i : Int) : Bool := match d with
  | .int j => j == i
  | _ => false
def sameT (d : D) (l : List Int) : Bool := match d with
  | .tup ds => decide (ds.length = l.length) && (ds.zip l).all fun p => sameI p.1 p.2
  | _ => false
theorem eqM_bbl (x y : Bool) (env : List DL.Slot) (Q E) : eqM (.bl x) (.bl y) env Q E = Q (.bl (x == y)) env := by
  rw [eqM_gen (fun s e => by cases e) rfl rfl]
  cases x <;> cases y <;> rfl
theorem eqZ_int {d : D} (hd : kdA d = true) (nb : ∀ b, d ≠ .bl b) (i : Int) (env : List DL.Slot) (Q E) : eqZ d (.int i) env Q E = Q (.bl (sameI d i)) env := by
  cases d with
  | non => exact (eqM_gen (a := .non) (b := .int i) nofun rfl rfl env Q E).trans (by rfl)
  | bl b => exact absurd rfl (nb b)
  | int j => exact eqM_ii _ _
  | str x => rfl
  | emp => rfl
  | tup _ => rfl
  | lst _ => rfl
  | _ => cases hd
section
variable (C : Addr)
theorem is_bool {d : D} (hd : kdA d = true) (nb : ∀ b, d ≠ .bl b) (env : List DL.Slot) (Q E) : isi0 .bool d env Q E = Q (.bl false) env := by
  cases d <;> first | rfl | exact absurd rfl (nb _) | cases hd
theorem p_same0 {d : D} (hd : kdA d = true) (i : Int) (Q E) : f_is_samer0 C [.im d, .im (.int i)] Q E = Q (.d (.bl (sameI d i))) [.im d, .im (.int i)] := by
  by_cases nb : ∃ b, d = .bl b
  · obtain ⟨b, rfl⟩ := nb
    simp only [↓f_is_samer0, ↓m_is_samer0, ↓eqM_bbl, btf, sameI, ↓wpre0, ↓wpre1, ↓wpre2, ↓wpre3, ↓wpre4, ↓wpre5, wpost0, wpost1, ↓inQ, ↓callA, ↓ioAt, ↓putS, ↓isiD, ↓isi0, ↓hallM, Option.map, List.replicate, Nat.reduceAdd, Nat.reduceSub, ↓if_true, ↓if_false, ↓ite_true, ↓ite_false, reduceIte, oldS, forall_const, putX]
  · have nb : ∀ b, d ≠ .bl b := fun b e => nb ⟨b, e⟩
    have ib := fun env Q E => is_bool hd nb env Q E
    have ez := fun env Q E => eqZ_int hd nb i env Q E
    have i1 : ∀ env Q E, isi0 .tuple (.int i) env Q E = Q (.bl false) env := fun _ _ _ => rfl
    have i2 : ∀ env Q E, isi0 .bool (.int i) env Q E = Q (.bl false) env := fun _ _ _ => rfl
    simp only [↓f_is_samer0, ↓m_is_samer0, ↓ib, ↓i1, ↓i2, ↓ez, ↓eqM_bbl, bff, ↓wpre0, ↓wpre1, ↓wpre2, ↓wpre3, ↓wpre4, ↓wpre5, wpost0, wpost1, ↓inQ, ↓callA, ↓ioAt, ↓putS, ↓isiD, ↓hallM, Option.map, List.replicate, Nat.reduceAdd, Nat.reduceSub, ↓if_true, ↓if_false, ↓ite_true, ↓ite_false, reduceIte, oldS, forall_const, putX]
theorem p_same1 {d : D} (hd : kdA d = true) (i : Int) (Q E) : f_is_samer1 C [.im d, .im (.int i)] Q E = Q (.d (.bl (sameI d i))) [.im d, .im (.int i)] := by
  by_cases nb : ∃ b, d = .bl b
  · obtain ⟨b, rfl⟩ := nb
    simp only [↓f_is_samer1, ↓m_is_samer1, ↓eqM_bbl, btf, sameI, ↓wpre0, ↓wpre1, ↓wpre2, ↓wpre3, ↓wpre4, ↓wpre5, wpost0, wpost1, ↓inQ, ↓callA, ↓ioAt, ↓putS, ↓isiD, ↓isi0, ↓hallM, Option.map, List.replicate, Nat.reduceAdd, Nat.reduceSub, ↓if_true, ↓if_false, ↓ite_true, ↓ite_false, reduceIte, oldS, forall_const, putX]
  · have nb : ∀ b, d ≠ .bl b := fun b e => nb ⟨b, e⟩
    have ib := fun env Q E => is_bool hd nb env Q E
    have ez := fun env Q E => eqZ_int hd nb i env Q E
    have i1 : ∀ env Q E, isi0 .tuple (.int i) env Q E = Q (.bl false) env := fun _ _ _ => rfl
    have i2 : ∀ env Q E, isi0 .bool (.int i) env Q E = Q (.bl false) env := fun _ _ _ => rfl
    simp only [↓f_is_samer1, ↓m_is_samer1, ↓ib, ↓i1, ↓i2, ↓ez, ↓eqM_bbl, bff, ↓wpre0, ↓wpre1, ↓wpre2, ↓wpre3, ↓wpre4, ↓wpre5, wpost0, wpost1, ↓inQ, ↓callA, ↓ioAt, ↓putS, ↓isiD, ↓hallM, Option.map, List.replicate, Nat.reduceAdd, Nat.reduceSub, ↓if_true, ↓if_false, ↓ite_true, ↓ite_false, reduceIte, oldS, forall_const, putX]
theorem sameT_no {d : D} (h : isTup d = false) (l : List Int) : sameT d l = false := by cases d <;> first | rfl | cases h
theorem zip_map {α β γ : Type} (f : β → γ) : ∀ (a : List α) (b : List β), a.zip (b.map f) = (a.zip b).map fun p => (p.1, f p.2)
  | [], _ => by simp
  | _ :: _, [] => by simp
  | x :: a, y :: b => by simp [zip_map f a b]
theorem paired_int (ds : List D) (l : List Int) : paired ds (l.map .int) = (ds.zip l).map fun p => .pr [p.1, .int p.2] := by
  unfold paired
  rw [zip_map, List.map_map]
  rfl
theorem p_sameT {d : D} (hd : kdA d = true) (l : List Int) (hl : l.length ≤ 1000) (Q E) : f_is_samer1 C [.im d, .im (.tup (l.map .int))] Q E = Q (.d (.bl (sameT d l))) [.im d, .im (.tup (l.map .int))] := by
  have it := fun env Q E => isi_tup hd env Q E
  have i1 : ∀ env Q E, isi0 .tuple (.tup (l.map .int)) env Q E = Q (.bl true) env := fun _ _ _ => rfl
  cases t : isTup d with
  | false =>
    rw [t] at it
    simp only [sameT_no t, ↓f_is_samer1, ↓m_is_samer1, ↓it, ↓i1, ↓wpre0, ↓wpre1, ↓wpre2, ↓wpre3, ↓wpre4, ↓wpre5, wpost0, wpost1, ↓inQ, ↓callA, ↓ioAt, ↓putS, ↓isiD, ↓hallM, Option.map, List.replicate, Nat.reduceAdd, Nat.reduceSub, ↓if_true, ↓if_false, ↓ite_true, ↓ite_false, reduceIte, oldS, forall_const, putX]
  | true =>
    cases d with
    | tup ds =>
      have e0 : sameT (.tup ds) l = (decide (ds.length = l.length) && (ds.zip l).all fun p => sameI p.1 p.2) := rfl
      have lm : (((l.map D.int).length : Nat) : Int) = ((l.length : Nat) : Int) := by rw [List.length_map]
      by_cases hn : ds.length = l.length
      · have b : (((ds.length : Nat) : Int) == ((l.length : Nat) : Int)) = true := beq_iff_eq.mpr (by rw [hn])
        have kd := kdT hd
        have cr : Runs (c_is_samer1_1 C) [.im (.tup ds), .im (.tup (l.map .int)), .no, .no] (.lst ((ds.zip l).map fun p => .bl (sameI p.1 p.2))) [.im (.tup ds), .im (.tup (l.map .int)), .no, .no] := by
          have z : Runs (c_is_samer1_1 C) [.im (.tup ds), .im (.tup (l.map .int)), .no, .no] (.lst (((ds.zip l).filter fun _ => true).map fun p => .bl (sameI p.1 p.2))) [.im (.tup ds), .im (.tup (l.map .int)), .no, .no] :=
            comp_pure (ds.zip l) (fun p => .pr [p.1, .int p.2]) (fun _ => true) _ (fun Q E => by
              show Q (paired ds (l.map .int)) _ = _
              rw [paired_int]) (by rw [List.length_zip]; omega) rfl fun p hp => ⟨[.im (.tup ds), .im (.tup (l.map .int)), .im p.1, .im (.int p.2)], rfl, fun Q E => by
              simp only [↓wpre0, ↓wpre1, ↓wpre2, ↓wpre3, ↓wpre4, ↓wpre5, wpost0, wpost1, ↓inQ, ↓callA, ↓ioAt, ↓putS, ↓isiD, ↓isi0, ↓hallM, Option.map, List.replicate, Nat.reduceAdd, Nat.reduceSub, ↓if_true, ↓if_false, ↓ite_true, ↓ite_false, reduceIte, oldS, forall_const, putX], fun Q E => rfl, fun _ Q E => by
              have ps := fun Q E => p_same0 C (kd p.1 (List.of_mem_zip hp).1) p.2 Q E
              simp only [↓ps, ↓wpre0, ↓wpre1, ↓wpre2, ↓wpre3, ↓wpre4, ↓wpre5, wpost0, wpost1, ↓inQ, ↓callA, ↓ioAt, ↓putS, ↓isiD, ↓isi0, ↓hallM, Option.map, List.replicate, Nat.reduceAdd, Nat.reduceSub, ↓if_true, ↓if_false, ↓ite_true, ↓ite_false, reduceIte, oldS, forall_const, putX]⟩
          rw [List.filter_eq_self.mpr fun _ _ => rfl] at z
          exact z
        have am := fun env Q E => allM_map (fun p : D × Int => sameI p.1 p.2) (ds.zip l) env Q E
        rw [e0, decide_eq_true hn, Bool.true_and]
        simp only [↓f_is_samer1, ↓m_is_samer1, lm, b, ↓cr, ↓am, ↓wpre0, ↓wpre1, ↓wpre2, ↓wpre3, ↓wpre4, ↓wpre5, wpost0, wpost1, ↓inQ, ↓callA, ↓ioAt, ↓putS, ↓isiD, ↓isi0, ↓hallM, Option.map, List.replicate, Nat.reduceAdd, Nat.reduceSub, ↓if_true, ↓if_false, ↓ite_true, ↓ite_false, reduceIte, oldS, forall_const, putX]
      · have b : (((ds.length : Nat) : Int) == ((l.length : Nat) : Int)) = false := beq_eq_false_iff_ne.mpr fun z => hn (by omega)
        rw [e0, decide_eq_false hn, Bool.false_and]
        simp only [↓f_is_samer1, ↓m_is_samer1, lm, b, ↓wpre0, ↓wpre1, ↓wpre2, ↓wpre3, ↓wpre4, ↓wpre5, wpost0, wpost1, ↓inQ, ↓callA, ↓ioAt, ↓putS, ↓isiD, ↓isi0, ↓hallM, Option.map, List.replicate, Nat.reduceAdd, Nat.reduceSub, ↓if_true, ↓if_false, ↓ite_true, ↓ite_false, reduceIte, oldS, forall_const, putX]
    | _ => cases t
def wh1 (C : Addr) : M DL.Fl := ifM (orB (do2 (bnd (consM (dVar 0) (DL.ret [])) (un1 lenD)) (DL.ret (.int 5)) fun x y => bnd (neM x y) asB) (orB (notB (bnd (bnd (bnd (consD (do2 (dVar 0) (DL.ret (.int 1)) ixM) (consD (do2 (dVar 0) (DL.ret (.int 2)) ixM) (DL.ret []))) (callN 2 (f_fits C))) resD) truD)) (notB (bnd (bnd (bnd (consD (do2 (dVar 0) (DL.ret (.int 3)) ixM) (consD (DL.ret (.int 0)) (consD (do2 (bnd (consM (do2 (dVar 0) (DL.ret (.int 2)) ixM) (DL.ret [])) (un1 lenD)) (DL.ret (.int 1)) subD) (DL.ret [])))) (callN 3 (f_is_whole C))) resD) truD)))) (bnd (DL.ret (.bl false)) fun d => DL.ret (.rt (.d d))) (DL.ret .nx)
def wh2 (C : Addr) : M DL.Fl := asgM (dVar 0) (setTw [setI 2, setI 3, setI 4, setI 5, setI 6])
def wh3 (C : Addr) : M DL.Fl := ifM (do2 (do2 (dVar 4) (dVar 5) ixM) (DL.ret .non) fun x y => bnd (notNonD x y) asB) (bnd (DL.ret (.bl false)) fun d => DL.ret (.rt (.d d))) (DL.ret .nx)
def wh4 (C : Addr) : M DL.Fl := thenN (bnd (bnd (consM (bnd (bnd (consD (dVar 4) (consD (dVar 5) (DL.ret []))) (callN 2 (f_walked C))) resD) (DL.ret [])) (un1 tupD)) (setI 7))
def wh5 (C : Addr) : M DL.Fl := bnd (andV (bnd (bnd (consD (dVar 6) (consD (do2 (dVar 7) (bnd (DL.ret (.int 1)) negD) ixM) (DL.ret []))) (callN 2 (f_is_samer1 C))) resD) (bnd (bnd (consD (dVar 1) (consD (dVar 7) (DL.ret []))) (callN 2 (f_is_samer1 C))) resD)) fun d => DL.ret (.rt (.d d))
theorem wheq (C : Addr) : m_waits_holds C = seqM (wh1 C) (seqM (wh2 C) (seqM (wh3 C) (seqM (wh4 C) (wh5 C)))) := rfl
def hl3 (C : Addr) : M DL.Fl := bnd (bnd (fnPick [("waits_holds", f_waits_holds C)] 2 fun df => bnd (consM (dVar 0) (consM (dVar 1) (DL.ret []))) fun ds => ask (ds.length = 2) (callD df ds)) resD) fun d => DL.ret (.rt (.d d))
def jt : List (Str × Str) := [("waits", "waits_holds"), ("comes", "comes_holds"), ("never", "never_holds"), ("fewest", "fewest_holds"), ("sits", "sits_holds"), ("nowhere", "nowhere_holds"), ("meet", "meet_holds"), ("join", "join_holds"), ("stands", "stands_holds")]
theorem gnin_jt (w : Str) (env : List DL.Slot) (Q E) : gninM true jt (.str w) env Q E = Q (.bl (true != (jt.lookup w).isSome)) env := rfl
theorem gfn_waits (env : List DL.Slot) (Q E) : gfnM jt (.str "waits") env Q E = Q (.fn "waits_holds") env := rfl
theorem jt_waits : (jt.lookup ("waits" : Str)).isSome = true := by decide +kernel
def hl1b (C : Addr) : M DL.Fl := ifM (orB (notB (bnd (bnd (dVar 0) (isi0 .tuple)) truD)) (orB (do2 (dVar 0) (tupM (DL.ret [])) fun x y => bnd (eqQ x y) asB) (orB (notB (bnd (bnd (do2 (dVar 0) (DL.ret (.int 0)) ixM) (isi0 .str)) truD)) (bnd (do2 (dVar 0) (DL.ret (.int 0)) ixM) fun k => bnd (gninM true jt k) asB)))) (bnd (DL.ret (.bl false)) fun d => DL.ret (.rt (.d d))) (DL.ret .nx)
def hl2b (C : Addr) : M DL.Fl := thenN (bnd (bnd (do2 (dVar 0) (DL.ret (.int 0)) ixM) (gfnM jt)) (setI 2))
theorem hleqb (C : Addr) : m_holds C = seqM (hl1b C) (seqM (hl2b C) (hl3 C)) := rfl
theorem fnPick2 (tab : List (Str × DF)) (m : DF → M DL.Res) (d : D) (df : DF) (h : DL.fnOf tab d = some df) (v0 v1 : DL.Slot) (Q E) : fnPick tab 2 m [v0, v1, .im d] Q E = m df [v0, v1, .im d] Q E := by
  have e : fnPick tab 2 m [v0, v1, .im d] Q E = (match DL.fnOf tab d with | some df => m df | none => DL.fail) [v0, v1, .im d] Q E := rfl
  rw [e, h]
def waitsB (sz th gu seat paper : D) : Bool := fitsB sz th && (wholeB gu 0 (((stOf th).length : Int) - 1) && ((seatAt (stOf th) (numI gu)).isNone && (sameI seat (endP (stOf th) (numI gu)) && sameT paper (path (stOf th) (numI gu)))))
def holdsB (claim paper : D) : Bool := match claim with
  | .tup [w, sz, th, gu, seat] => isStr w "waits" && waitsB sz th gu seat paper
  | _ => false
def waits5 (paper : D) : List D → Bool
  | [_, sz, th, gu, seat] => waitsB sz th gu seat paper
  | _ => false
theorem waits5_no {ds : List D} {paper : D} (h : ds.length ≠ 5) : waits5 paper ds = false := by
  unfold waits5
  split
  · exact absurd rfl h
  · rfl
theorem holds_no {c paper : D} (h : isTup c = false) : holdsB c paper = false := by cases c <;> first | rfl | cases h
theorem holds_len {ds : List D} {paper : D} (h : ds.length ≠ 5) : holdsB (.tup ds) paper = false := by
  unfold holdsB
  split
  · rename_i e; cases e; exact absurd rfl h
  · rfl
theorem len_five {α : Type} {l : List α} (h : l.length = 5) : ∃ a b c d e, l = [a, b, c, d, e] := by
  match l, h with
  | [a, b, c, d, e], _ => exact ⟨a, b, c, d, e, rfl⟩
theorem len_st (st : Sd) (env : List DL.Slot) (Q E) : lenD (stD st) env Q E = Q (.int ((st.length : Nat) : Int)) env := by
  show Q (.int (((st.map oD).length : Nat) : Int)) env = _
  rw [List.length_map]
theorem p_waits_holds {ds : List D} (hd : ∀ d ∈ ds, kdA d = true) {paper : D} (hp : kdA paper = true) (Q E) : f_waits_holds C [.im (.tup ds), .im paper] Q E = Q (.d (.bl (waits5 paper ds))) [.im (.tup ds), .im paper] := by
  by_cases l5 : ds.length = 5
  · obtain ⟨w, sz, th, gu, seat, rfl⟩ := len_five l5
    have e0 : waits5 paper [w, sz, th, gu, seat] = waitsB sz th gu seat paper := rfl
    have f1 := fun Q E => p_fits C (hd sz (by simp)) (hd th (by simp)) Q E
    have e5 : (((0 + 1 + 1 + 1 + 1 + 1 : Nat) : Int) == 5) = true := rfl
    cases zf : fitsB sz th with
    | false =>
      rw [zf] at f1
      have e : waitsB sz th gu seat paper = false := by unfold waitsB; rw [zf]; rfl
      simp only [e0, e, ↓f_waits_holds, wheq, ↓seq_ap, wh1, e5, ↓ixb, ↓ixc, ↓f1, ↓wpre0, ↓wpre1, ↓wpre2, ↓wpre3, ↓wpre4, ↓wpre5, wpost0, wpost1, ↓inQ, ↓callA, ↓ioAt, ↓putS, ↓isiD, ↓isi0, ↓hallM, Option.map, List.replicate, Nat.reduceAdd, Nat.reduceSub, ↓if_true, ↓if_false, ↓ite_true, ↓ite_false, reduceIte, oldS, forall_const, putX]
    | true =>
      rw [zf] at f1
      obtain ⟨g, s, st, e1, e2, S⟩ := fits_stand zf
      subst e2
      have pw := fun Q E => p_wholeA C (hd gu (by simp)) 0 (((st.length : Nat) : Int) - 1) Q E
      have ls := fun env Q E => len_st st env Q E
      cases zw : wholeB gu 0 (((st.length : Nat) : Int) - 1) with
      | false =>
        rw [zw] at pw
        have e : waitsB sz (stD st) gu seat paper = false := by unfold waitsB; rw [zf, stOf_st, zw]; rfl
        simp only [e0, e, ↓f_waits_holds, wheq, ↓seq_ap, wh1, e5, ↓ixb, ↓ixc, ↓ixd, ↓ls, ↓f1, ↓pw, ↓wpre0, ↓wpre1, ↓wpre2, ↓wpre3, ↓wpre4, ↓wpre5, wpost0, wpost1, ↓inQ, ↓callA, ↓ioAt, ↓putS, ↓isiD, ↓isi0, ↓hallM, Option.map, List.replicate, Nat.reduceAdd, Nat.reduceSub, ↓if_true, ↓if_false, ↓ite_true, ↓ite_false, reduceIte, oldS, forall_const, putX]
      | true =>
        rw [zw] at pw
        obtain ⟨k, rfl, k1, k2⟩ := whole_int zw
        have hk : 0 ≤ k ∧ k < g := by have := S.len; omega
        have ix : ∀ env Q E, ixM (stD st) (.int k) env Q E = Q (oD (seatAt st k)) env := fun env Q E => ixM_st S hk env Q E
        have r1 : Runs (wh1 C) [.im (.tup [w, sz, stD st, .int k, seat]), .im paper, .no, .no, .no, .no, .no, .no] .nx [.im (.tup [w, sz, stD st, .int k, seat]), .im paper, .no, .no, .no, .no, .no, .no] := fun Q E => by
          simp only [wh1, e5, ↓ixb, ↓ixc, ↓ixd, ↓ls, ↓f1, ↓pw, ↓wpre0, ↓wpre1, ↓wpre2, ↓wpre3, ↓wpre4, ↓wpre5, wpost0, wpost1, ↓inQ, ↓callA, ↓ioAt, ↓putS, ↓isiD, ↓isi0, ↓hallM, Option.map, List.replicate, Nat.reduceAdd, Nat.reduceSub, ↓if_true, ↓if_false, ↓ite_true, ↓ite_false, reduceIte, oldS, forall_const, putX]
        have r2 : Runs (wh2 C) [.im (.tup [w, sz, stD st, .int k, seat]), .im paper, .no, .no, .no, .no, .no, .no] .nx [.im (.tup [w, sz, stD st, .int k, seat]), .im paper, .im w, .im sz, .im (stD st), .im (.int k), .im seat, .no] := fun Q E => by
          simp only [wh2, ↓wpre0, ↓wpre1, ↓wpre2, ↓wpre3, ↓wpre4, ↓wpre5, wpost0, wpost1, ↓inQ, ↓callA, ↓ioAt, ↓putS, ↓isiD, ↓isi0, ↓hallM, Option.map, List.replicate, Nat.reduceAdd, Nat.reduceSub, ↓if_true, ↓if_false, ↓ite_true, ↓ite_false, reduceIte, oldS, forall_const, putX]
        have sr1 := fun m Q E => seq_run (b := m) r1 Q E
        have sr2 := fun m Q E => seq_run (b := m) r2 Q E
        have eW : waitsB sz (stD st) (.int k) seat paper = ((seatAt st k).isNone && (sameI seat (endP st k) && sameT paper (path st k))) := by
          unfold waitsB; rw [zf, stOf_st, zw]; rfl
        cases hv : seatAt st k with
        | some v =>
          rw [hv] at ix eW
          simp only [Option.isNone_some, Bool.false_and] at eW
          simp only [e0, eW, ↓f_waits_holds, wheq, ↓sr1, ↓sr2, ↓seq_ap, wh3, ↓ix, ↓notNon_o, Option.isSome_some, ↓wpre0, ↓wpre1, ↓wpre2, ↓wpre3, ↓wpre4, ↓wpre5, wpost0, wpost1, ↓inQ, ↓callA, ↓ioAt, ↓putS, ↓isiD, ↓isi0, ↓hallM, Option.map, List.replicate, Nat.reduceAdd, Nat.reduceSub, ↓if_true, ↓if_false, ↓ite_true, ↓ite_false, reduceIte, oldS, forall_const, putX]
        | none =>
          rw [hv] at ix eW
          simp only [Option.isNone_none, Bool.true_and] at eW
          have pk := fun Q E => p_walked C S k hv Q E
          have s1 := fun Q E => p_same1 C (hd seat (by simp)) (endP st k) Q E
          have pl : (path st k).length ≤ 1000 := by have := pathF_len (st := st) st.length k; have := S.len; have := S.hg; unfold path; omega
          have s2 := fun Q E => p_sameT C hp (path st k) pl Q E
          have r3 : Runs (wh3 C) [.im (.tup [w, sz, stD st, .int k, seat]), .im paper, .im w, .im sz, .im (stD st), .im (.int k), .im seat, .no] .nx [.im (.tup [w, sz, stD st, .int k, seat]), .im paper, .im w, .im sz, .im (stD st), .im (.int k), .im seat, .no] := fun Q E => by
            simp only [wh3, ↓ix, ↓notNon_o, Option.isSome_none, ↓wpre0, ↓wpre1, ↓wpre2, ↓wpre3, ↓wpre4, ↓wpre5, wpost0, wpost1, ↓inQ, ↓callA, ↓ioAt, ↓putS, ↓isiD, ↓isi0, ↓hallM, Option.map, List.replicate, Nat.reduceAdd, Nat.reduceSub, ↓if_true, ↓if_false, ↓ite_true, ↓ite_false, reduceIte, oldS, forall_const, putX]
          have r4 : Runs (wh4 C) [.im (.tup [w, sz, stD st, .int k, seat]), .im paper, .im w, .im sz, .im (stD st), .im (.int k), .im seat, .no] .nx [.im (.tup [w, sz, stD st, .int k, seat]), .im paper, .im w, .im sz, .im (stD st), .im (.int k), .im seat, .im (.tup ((path st k).map .int))] := fun Q E => by
            simp only [wh4, ↓pk, ↓wpre0, ↓wpre1, ↓wpre2, ↓wpre3, ↓wpre4, ↓wpre5, wpost0, wpost1, ↓inQ, ↓callA, ↓ioAt, ↓putS, ↓isiD, ↓isi0, ↓hallM, Option.map, List.replicate, Nat.reduceAdd, Nat.reduceSub, ↓if_true, ↓if_false, ↓ite_true, ↓ite_false, reduceIte, oldS, forall_const, putX]
          have sr3 := fun m Q E => seq_run (b := m) r3 Q E
          have sr4 := fun m Q E => seq_run (b := m) r4 Q E
          have ixp := fun env Q E => ix_path st k env Q E
          cases zs : sameI seat (endP st k) with
          | false =>
            rw [zs] at s1
            simp only [e0, eW, zs, Bool.false_and, ↓f_waits_holds, wheq, ↓sr1, ↓sr2, ↓sr3, ↓sr4, wh5, ↓neg1, ↓ixp, ↓s1, ↓wpre0, ↓wpre1, ↓wpre2, ↓wpre3, ↓wpre4, ↓wpre5, wpost0, wpost1, ↓inQ, ↓callA, ↓ioAt, ↓putS, ↓isiD, ↓isi0, ↓hallM, Option.map, List.replicate, Nat.reduceAdd, Nat.reduceSub, ↓if_true, ↓if_false, ↓ite_true, ↓ite_false, reduceIte, oldS, forall_const, putX]
          | true =>
            rw [zs] at s1
            simp only [e0, eW, zs, Bool.true_and, ↓f_waits_holds, wheq, ↓sr1, ↓sr2, ↓sr3, ↓sr4, wh5, ↓neg1, ↓ixp, ↓s1, ↓s2, ↓wpre0, ↓wpre1, ↓wpre2, ↓wpre3, ↓wpre4, ↓wpre5, wpost0, wpost1, ↓inQ, ↓callA, ↓ioAt, ↓putS, ↓isiD, ↓isi0, ↓hallM, Option.map, List.replicate, Nat.reduceAdd, Nat.reduceSub, ↓if_true, ↓if_false, ↓ite_true, ↓ite_false, reduceIte, oldS, forall_const, putX]
  · have e5 : (((ds.length : Nat) : Int) == 5) = false := beq_eq_false_iff_ne.mpr fun z => l5 (by omega)
    simp only [waits5_no l5, ↓f_waits_holds, wheq, ↓seq_ap, wh1, e5, ↓wpre0, ↓wpre1, ↓wpre2, ↓wpre3, ↓wpre4, ↓wpre5, wpost0, wpost1, ↓inQ, ↓callA, ↓ioAt, ↓putS, ↓isiD, ↓isi0, ↓hallM, Option.map, List.replicate, Nat.reduceAdd, Nat.reduceSub, ↓if_true, ↓if_false, ↓ite_true, ↓ite_false, reduceIte, oldS, forall_const, putX]
def isAStr : D → Bool
  | .str _ => true
  | _ => false
/-- no other judge is named -/
def NoOther (claim : D) : Prop := ∀ w l, claim = .tup (.str w :: l) → w = "waits" ∨ jt.lookup w = none
theorem isi_str {d : D} (h : kdA d = true) (env : List DL.Slot) (Q E) : isi0 .str d env Q E = Q (.bl (isAStr d)) env := by
  cases d <;> first | rfl | cases h
theorem holds_w {a : D} {l : List D} {paper : D} (h : isStr a "waits" = false) : holdsB (.tup (a :: l)) paper = false := by
  unfold holdsB
  split
  · rename_i w b c d f e; cases e; rw [h]; rfl
  · rfl
theorem p_holds {claim paper : D} (hc : kdA claim = true) (hp : kdA paper = true) (no : NoOther claim) (Q E) : f_holds C [.im claim, .im paper] Q E = Q (.d (.bl (holdsB claim paper))) [.im claim, .im paper] := by
  have it := fun env Q E => isi_tup hc env Q E
  cases t : isTup claim with
  | false =>
    rw [t] at it
    simp only [holds_no t, ↓f_holds, hleqb, ↓seq_ap, hl1b, ↓it, ↓wpre0, ↓wpre1, ↓wpre2, ↓wpre3, ↓wpre4, ↓wpre5, wpost0, wpost1, ↓inQ, ↓callA, ↓ioAt, ↓putS, ↓isiD, ↓hallM, Option.map, List.replicate, Nat.reduceAdd, Nat.reduceSub, ↓if_true, ↓if_false, ↓ite_true, ↓ite_false, reduceIte, oldS, forall_const, putX]
  | true =>
    cases claim with
    | tup ds =>
      cases ds with
      | nil =>
        have q : ∀ env Q E, eqQ (.tup []) (.tup []) env Q E = Q (.bl true) env := fun _ _ _ => rfl
        have e : holdsB (.tup []) paper = false := rfl
        simp only [e, ↓f_holds, hleqb, ↓seq_ap, hl1b, ↓q, ↓wpre0, ↓wpre1, ↓wpre2, ↓wpre3, ↓wpre4, ↓wpre5, wpost0, wpost1, ↓inQ, ↓callA, ↓ioAt, ↓putS, ↓isiD, ↓isi0, ↓hallM, Option.map, List.replicate, Nat.reduceAdd, Nat.reduceSub, ↓if_true, ↓if_false, ↓ite_true, ↓ite_false, reduceIte, oldS, forall_const, putX]
      | cons a l =>
        have q : ∀ env Q E, eqQ (.tup (a :: l)) (.tup []) env Q E = Q (.bl false) env := fun _ _ _ => rfl
        have ka := kdT hc a (by simp)
        by_cases hs : ∃ w, a = .str w
        · obtain ⟨w, rfl⟩ := hs
          rcases no w l rfl with hw | hw
          · subst hw
            have gn := fun env Q E => gnin_jt "waits" env Q E
            rw [jt_waits] at gn
            have r1 : Runs (hl1b C) [.im (.tup (.str "waits" :: l)), .im paper, .no] .nx [.im (.tup (.str "waits" :: l)), .im paper, .no] := fun Q E => by
              simp only [hl1b, ↓q, ↓ixa, ↓gn, bne_self_eq_false, ↓wpre0, ↓wpre1, ↓wpre2, ↓wpre3, ↓wpre4, ↓wpre5, wpost0, wpost1, ↓inQ, ↓callA, ↓ioAt, ↓putS, ↓isiD, ↓isi0, ↓hallM, Option.map, List.replicate, Nat.reduceAdd, Nat.reduceSub, ↓if_true, ↓if_false, ↓ite_true, ↓ite_false, reduceIte, oldS, forall_const, putX]
            have r2 : Runs (hl2b C) [.im (.tup (.str "waits" :: l)), .im paper, .no] .nx [.im (.tup (.str "waits" :: l)), .im paper, .im (.fn "waits_holds")] := fun Q E => by
              simp only [hl2b, ↓ixa, ↓gfn_waits, ↓wpre0, ↓wpre1, ↓wpre2, ↓wpre3, ↓wpre4, ↓wpre5, wpost0, wpost1, ↓inQ, ↓callA, ↓ioAt, ↓putS, ↓isiD, ↓isi0, ↓hallM, Option.map, List.replicate, Nat.reduceAdd, Nat.reduceSub, ↓if_true, ↓if_false, ↓ite_true, ↓ite_false, reduceIte, oldS, forall_const, putX]
            have sr1 := fun m Q E => seq_run (b := m) r1 Q E
            have sr2 := fun m Q E => seq_run (b := m) r2 Q E
            have pc := fun Q E => p_waits_holds C (kdT hc) hp Q E
            have fp := fun m v0 v1 Q E => fnPick2 [("waits_holds", f_waits_holds C)] m (.fn "waits_holds") (f_waits_holds C) rfl v0 v1 Q E
            have e : holdsB (.tup (.str "waits" :: l)) paper = waits5 paper (.str "waits" :: l) := by
              match l with
              | [] => rfl
              | [_] => rfl
              | [_, _] => rfl
              | [_, _, _] => rfl
              | [b, c, d, e] =>
                show (isStr (.str "waits") "waits" && waitsB b c d e paper) = waitsB b c d e paper
                rw [show isStr (.str "waits") "waits" = true by decide +kernel]; rfl
              | _ :: _ :: _ :: _ :: _ :: _ => rfl
            rw [e]
            simp only [↓f_holds, hleqb, ↓sr1, ↓sr2, hl3, ↓fp, ↓pc, ↓wpre0, ↓wpre1, ↓wpre2, ↓wpre3, ↓wpre4, ↓wpre5, wpost0, wpost1, ↓inQ, ↓callA, ↓ioAt, ↓putS, ↓isiD, ↓isi0, ↓hallM, Option.map, List.replicate, Nat.reduceAdd, Nat.reduceSub, ↓if_true, ↓if_false, ↓ite_true, ↓ite_false, reduceIte, oldS, forall_const, putX]
          · have gn := fun env Q E => gnin_jt w env Q E
            rw [hw] at gn
            have ne : isStr (.str w) "waits" = false := by
              show (w == "waits") = false
              refine beq_eq_false_iff_ne.mpr fun z => ?_
              subst z
              have := jt_waits
              rw [hw] at this
              cases this
            simp only [holds_w ne, ↓f_holds, hleqb, ↓seq_ap, hl1b, ↓q, ↓ixa, ↓gn, Option.isSome_none, show (true != false) = true from rfl, ↓wpre0, ↓wpre1, ↓wpre2, ↓wpre3, ↓wpre4, ↓wpre5, wpost0, wpost1, ↓inQ, ↓callA, ↓ioAt, ↓putS, ↓isiD, ↓isi0, ↓hallM, Option.map, List.replicate, Nat.reduceAdd, Nat.reduceSub, ↓if_true, ↓if_false, ↓ite_true, ↓ite_false, reduceIte, oldS, forall_const, putX]
        · have is := fun env Q E => isi_str ka env Q E
          have f : isAStr a = false := by
            cases a with
            | str w => exact absurd ⟨w, rfl⟩ hs
            | _ => rfl
          have ne : isStr a "waits" = false := by
            cases a with
            | str w => exact absurd ⟨w, rfl⟩ hs
            | _ => rfl
          rw [f] at is
          have it2 : ∀ env Q E, isi0 .tuple (.tup (a :: l)) env Q E = Q (.bl true) env := fun _ _ _ => rfl
          simp only [holds_w ne, ↓f_holds, hleqb, ↓seq_ap, hl1b, ↓q, ↓ixa, ↓is, ↓it2, ↓wpre0, ↓wpre1, ↓wpre2, ↓wpre3, ↓wpre4, ↓wpre5, wpost0, wpost1, ↓inQ, ↓callA, ↓ioAt, ↓putS, ↓isiD, ↓hallM, Option.map, List.replicate, Nat.reduceAdd, Nat.reduceSub, ↓if_true, ↓if_false, ↓ite_true, ↓ite_false, reduceIte, oldS, forall_const, putX]
    | _ => cases t
end
end DLP
set_option Elab.async false
set_option linter.all false
set_option maxRecDepth 100000
set_option maxHeartbeats 4000000
namespace DLP
open PySem PySem.Spec PyProof.Rows L2 DL MW
structure ShP (d : D) (n b : Nat) : Prop where
  ok : pyOk d = true
  sh : (py d).showable = true
  nd : (py d).hasDict = false
  lf : (py d).leavesShort 40 = true
  dp : (py d).depth ≤ n
  bk : (py d).bulk ≤ b
structure ShK (d : D) (n b : Nat) : Prop where
  ok : okD d = true
  sh : (pyE d).showable = true
  lf : (pyE d).leavesShort 40 = true
  dp : (pyE d).depth ≤ n
  bk : (pyE d).bulk ≤ b
theorem ShP.mono {d : D} {n b m c : Nat} (h : ShP d n b) (h1 : n ≤ m) (h2 : b ≤ c) : ShP d m c := ⟨h.ok, h.sh, h.nd, h.lf, Nat.le_trans h.dp h1, Nat.le_trans h.bk h2⟩
theorem ShK.mono {d : D} {n b m c : Nat} (h : ShK d n b) (h1 : n ≤ m) (h2 : b ≤ c) : ShK d m c := ⟨h.ok, h.sh, h.lf, Nat.le_trans h.dp h1, Nat.le_trans h.bk h2⟩
theorem shP_all {n b : Nat} : ∀ {ds : List D}, (∀ d ∈ ds, ShP d n b) → pyOkL ds = true ∧ PyData.showableAll (pyL ds) = true ∧ PyData.hasDictAll (pyL ds) = false ∧ PyData.leavesShortAll 40 (pyL ds) = true ∧ PyData.depthAll (pyL ds) ≤ n ∧ PyData.bulkAll (pyL ds) ≤ (b + 1) * ds.length
  | [], _ => ⟨rfl, rfl, rfl, rfl, Nat.zero_le _, Nat.le_refl _⟩
  | d :: ds, h => by
    obtain ⟨a1, a2, a3, a4, a5, a6⟩ := h d List.mem_cons_self
    obtain ⟨b1, b2, b3, b4, b5, b6⟩ := shP_all (ds := ds) fun e he => h e (List.mem_cons_of_mem _ he)
    refine ⟨?_, ?_, ?_, ?_, ?_, ?_⟩
    · show (pyOk d && pyOkL ds) = true; rw [a1, b1]; rfl
    · show ((py d).showable && PyData.showableAll (pyL ds)) = true; rw [a2, b2]; rfl
    · show ((py d).hasDict || PyData.hasDictAll (pyL ds)) = false; rw [a3, b3]; rfl
    · show ((py d).leavesShort 40 && PyData.leavesShortAll 40 (pyL ds)) = true; rw [a4, b4]; rfl
    · show max (py d).depth (PyData.depthAll (pyL ds)) ≤ n; omega
    · show (py d).bulk + 1 + PyData.bulkAll (pyL ds) ≤ (b + 1) * (ds.length + 1); rw [Nat.mul_add]; omega
theorem shK_all {n b : Nat} : ∀ {ds : List D}, (∀ d ∈ ds, ShK d n b) → okDL ds = true ∧ PyData.showableAll (pyEL ds) = true ∧ PyData.leavesShortAll 40 (pyEL ds) = true ∧ PyData.depthAll (pyEL ds) ≤ n ∧ PyData.bulkAll (pyEL ds) ≤ (b + 1) * ds.length
  | [], _ => ⟨rfl, rfl, rfl, Nat.zero_le _, Nat.le_refl _⟩
  | d :: ds, h => by
    obtain ⟨a1, a2, a4, a5, a6⟩ := h d List.mem_cons_self
    obtain ⟨b1, b2, b4, b5, b6⟩ := shK_all (ds := ds) fun e he => h e (List.mem_cons_of_mem _ he)
    refine ⟨?_, ?_, ?_, ?_, ?_⟩
    · show (okD d && okDL ds) = true; rw [a1, b1]; rfl
    · show ((pyE d).showable && PyData.showableAll (pyEL ds)) = true; rw [a2, b2]; rfl
    · show ((pyE d).leavesShort 40 && PyData.leavesShortAll 40 (pyEL ds)) = true; rw [a4, b4]; rfl
    · show max (pyE d).depth (PyData.depthAll (pyEL ds)) ≤ n; omega
    · show (pyE d).bulk + 1 + PyData.bulkAll (pyEL ds) ≤ (b + 1) * (ds.length + 1); rw [Nat.mul_add]; omega
theorem ShP.tup {ds : List D} {n b : Nat} (h : ∀ d ∈ ds, ShP d n b) : ShP (.tup ds) (n + 1) ((b + 1) * ds.length) :=
  let ⟨a1, a2, a3, a4, a5, a6⟩ := shP_all h; ⟨a1, a2, a3, a4, Nat.succ_le_succ a5, a6⟩
theorem ShP.lst {ds : List D} {n b : Nat} (h : ∀ d ∈ ds, ShP d n b) : ShP (.lst ds) (n + 1) ((b + 1) * ds.length) :=
  let ⟨a1, a2, a3, a4, a5, a6⟩ := shP_all h; ⟨a1, a2, a3, a4, Nat.succ_le_succ a5, a6⟩
theorem ShK.tup {ds : List D} {n b : Nat} (h : ∀ d ∈ ds, ShK d n b) : ShK (.tup ds) (n + 1) ((b + 1) * ds.length) :=
  let ⟨a1, a2, a4, a5, a6⟩ := shK_all h; ⟨a1, a2, a4, Nat.succ_le_succ a5, a6⟩
theorem ShP.rep {d : D} {n b : Nat} (h : ShP d n b) (c : compE d = true) (h1 : n ≤ 64) (h2 : b ≤ 65536) (env : List DL.Slot) (Q E) : reprE d env Q E = Q (.str (pyE d).shown) env := by
  have s : shOkE (py d) = true := by
    unfold shOkE
    rw [h.sh, h.lf, decide_eq_true (Nat.le_trans h.dp h1), decide_eq_true (show (py d).bulk ≤ 2 ^ 16 by have := h.bk; omega)]; rfl
  have k : (compE d = true ∧ ((pyOk d = true ∧ shOk (py d) = true) ∨ (okD d = true ∧ shOkE (pyE d) = true) ∨ (pyOk d = true ∧ (py d).hasDict = false ∧ shOkE (py d) = true) ∨ (okT d = true ∧ shOkE (pyE d) = true))) := ⟨c, .inr (.inr (.inl ⟨h.ok, h.nd, s⟩))⟩
  cases d with
  | tup ds => exact propext ⟨fun z => z.2, fun z => ⟨k, z⟩⟩
  | lst ds => exact propext ⟨fun z => z.2, fun z => ⟨k, z⟩⟩
  | emp => exact propext ⟨fun z => z.2, fun z => ⟨k, z⟩⟩
  | _ => cases c
theorem ShK.rep {d : D} {n b : Nat} (h : ShK d n b) (c : compE d = true) (h1 : n ≤ 64) (h2 : b ≤ 65536) (env : List DL.Slot) (Q E) : reprE d env Q E = Q (.str (pyE d).shown) env := by
  have s : shOkE (pyE d) = true := by
    unfold shOkE
    rw [h.sh, h.lf, decide_eq_true (Nat.le_trans h.dp h1), decide_eq_true (show (pyE d).bulk ≤ 2 ^ 16 by have := h.bk; omega)]; rfl
  have k : (compE d = true ∧ ((pyOk d = true ∧ shOk (py d) = true) ∨ (okD d = true ∧ shOkE (pyE d) = true) ∨ (pyOk d = true ∧ (py d).hasDict = false ∧ shOkE (py d) = true) ∨ (okT d = true ∧ shOkE (pyE d) = true))) := ⟨c, .inr (.inl ⟨h.ok, s⟩)⟩
  cases d with
  | tup ds => exact propext ⟨fun z => z.2, fun z => ⟨k, z⟩⟩
  | lst ds => exact propext ⟨fun z => z.2, fun z => ⟨k, z⟩⟩
  | emp => exact propext ⟨fun z => z.2, fun z => ⟨k, z⟩⟩
  | _ => cases c
theorem int_lf : ∀ n : Fin 64, (PyData.int (n.val : Int)).leavesShort 40 = true ∧ (PyData.int (n.val : Int)).showable = true := by decide +kernel
theorem shP_int {i : Int} (h : 0 ≤ i ∧ i < 64) : ShP (.int i) 0 0 := by
  have := int_lf ⟨i.toNat, by omega⟩
  have q : ((i.toNat : Nat) : Int) = i := by omega
  simp only [q] at this
  exact ⟨rfl, this.2, rfl, this.1, Nat.le_refl _, Nat.le_refl _⟩
theorem small_log {n : Int} (h : 0 ≤ n ∧ n < 64) : (n.natAbs.log2 < 1920) = True := eq_true (by
  have a : n.natAbs < 2 ^ 30 := by omega
  by_cases z : n.natAbs = 0
  · rw [z]; decide
  · have := (Nat.log2_lt z).mpr a; omega)
end DLP
set_option Elab.async false
set_option linter.all false
set_option maxRecDepth 100000
set_option maxHeartbeats 4000000
namespace DLP
open PySem PySem.Spec PyProof.Rows L2 DL MW
def numS (n : Nat) : Str := ((toString ((n : Nat) : Int) : String) : Str)
def goodL : List Str := ([("" : Str), "go", "come", "waits", "0"] : List Str) ++ (List.range 41).map numS
def atomB : D → Bool
  | .non => true
  | .bl _ => true
  | .int i => decide (-30 ≤ i) && decide (i ≤ 40)
  | .str w => goodL.any (· == w)
  | _ => false
inductive Lv : Nat → D → Prop
  | atom {n : Nat} {d : D} : atomB d = true → Lv n d
  | tup {n : Nat} {ds : List D} : ds.length ≤ 26 → (∀ x ∈ ds, Lv n x) → Lv (n + 1) (.tup ds)
def oddL : List D := [.non, .bl true, .bl false, .int 0, .int 1, .int (-1), .int 2, .int 3, .str "", .str "go", .str "come", .tup [], .lst [], .emp, .tup [.int 0], .tup [.tup []], .int (10 ^ 30), .int 24, .int 25, .str "0", .lst [.int 0],
  .tup [.lst []], .tup [.str "go", .int 0], .tup [.tup [.str "come", .int 0]], .tup [.int 0, .int 1], .tup [.int 3, .int 0], .tup [.int 1, .non]]
inductive Bt : Nat → D → Prop
  | odd {n : Nat} {r : D} : r ∈ oddL → Bt n r
  | plain {n : Nat} {r : D} : Lv n r → Bt n r
  | at_ {n : Nat} {es : List D} (k : Nat) : es.length ≤ 27 → (∀ i x, es[i]? = some x → i ≠ k → Lv n x) → (∀ x, es[k]? = some x → Bt n x) → Bt (n + 1) (.tup es)
  | lst {n : Nat} {es : List D} : es.length ≤ 27 → (∀ x ∈ es, Lv n x) → Bt (n + 1) (.lst es)
  | wrap {n : Nat} {d : D} : Lv n d → Bt n (.tup [d])
  | num {n : Nat} {i : Int} : -40 ≤ i → i ≤ 50 → Bt n (.int i)
def pB : Nat → Nat
  | 0 => 10
  | n + 1 => (pB n + 1) * 26
def bB : Nat → Nat
  | 0 => 20
  | n + 1 => (bB n + 1) * 27
theorem pB_bB : ∀ n, pB n + 1 ≤ bB n
  | 0 => by decide
  | n + 1 => by have := pB_bB n; show (pB n + 1) * 26 + 1 ≤ (bB n + 1) * 27; omega
theorem pB_up (n : Nat) : pB n ≤ pB (n + 1) := by show pB n ≤ (pB n + 1) * 26; omega
theorem bB_20 : ∀ n, 20 ≤ bB n
  | 0 => Nat.le_refl _
  | n + 1 => by have := bB_20 n; show 20 ≤ (bB n + 1) * 27; omega
def shPb (d : D) (n b : Nat) : Bool := pyOk d && (py d).showable && !(py d).hasDict && (py d).leavesShort 40 && decide ((py d).depth ≤ n) && decide ((py d).bulk ≤ b)
def shKb (d : D) (n b : Nat) : Bool := okD d && (pyE d).showable && (pyE d).leavesShort 40 && decide ((pyE d).depth ≤ n) && decide ((pyE d).bulk ≤ b)
theorem shP_by {d : D} {n b : Nat} (h : shPb d n b = true) : ShP d n b := by
  unfold shPb at h
  simp only [Bool.and_eq_true, Bool.not_eq_true', decide_eq_true_eq] at h
  obtain ⟨⟨⟨⟨⟨h1, h2⟩, h3⟩, h4⟩, h5⟩, h6⟩ := h
  exact ⟨h1, h2, h3, h4, h5, h6⟩
theorem shK_by {d : D} {n b : Nat} (h : shKb d n b = true) : ShK d n b := by
  unfold shKb at h
  simp only [Bool.and_eq_true, decide_eq_true_eq] at h
  obtain ⟨⟨⟨⟨h1, h2⟩, h4⟩, h5⟩, h6⟩ := h
  exact ⟨h1, h2, h4, h5, h6⟩
theorem odd_all : oddL.all (fun r => kdA r && (shPb r 3 20 || shKb r 3 20)) = true := by decide +kernel
theorem good_all : goodL.all (fun w => shPb (.str w) 0 10 && shKb (.str w) 0 10) = true := by decide +kernel
theorem ints_sh : ∀ n : Fin 91, (shPb (.int ((n.val : Int) - 40)) 0 10 && shKb (.int ((n.val : Int) - 40)) 0 10) = true := by decide +kernel
theorem int_sh {i : Int} (h1 : -40 ≤ i) (h2 : i ≤ 50) : ShP (.int i) 0 10 ∧ ShK (.int i) 0 10 := by
  have q := ints_sh ⟨(i + 40).toNat, by omega⟩
  have e : (((i + 40).toNat : Nat) : Int) - 40 = i := by omega
  simp only [e] at q
  rw [Bool.and_eq_true] at q
  exact ⟨shP_by q.1, shK_by q.2⟩
theorem kd_int {i : Int} (h1 : -40 ≤ i) (h2 : i ≤ 60) : kdA (.int i) = true := by
  show ((decide (-40 ≤ i) && decide (i ≤ 60)) || decide (i = 10 ^ 30)) = true
  rw [decide_eq_true h1, decide_eq_true h2]; rfl
theorem atom_sh {d : D} (h : atomB d = true) : ShP d 0 10 ∧ ShK d 0 10 ∧ kdA d = true := by
  cases d with
  | non => exact ⟨shP_by (by decide +kernel), shK_by (by decide +kernel), rfl⟩
  | bl b => cases b <;> exact ⟨shP_by (by decide +kernel), shK_by (by decide +kernel), rfl⟩
  | int i =>
    have h : (decide (-30 ≤ i) && decide (i ≤ 40)) = true := h
    rw [Bool.and_eq_true, decide_eq_true_eq, decide_eq_true_eq] at h
    exact ⟨(int_sh (by omega) (by omega)).1, (int_sh (by omega) (by omega)).2, kd_int (by omega) (by omega)⟩
  | str w =>
    obtain ⟨x, hx, e⟩ := List.any_eq_true.mp h
    have e := beq_iff_eq.mp e
    subst e
    have q := List.all_eq_true.mp good_all x hx
    rw [Bool.and_eq_true] at q
    exact ⟨shP_by q.1, shK_by q.2, rfl⟩
  | _ => cases h
theorem Lv.sh : ∀ {n : Nat} {d : D}, Lv n d → ShP d n (pB n) ∧ ShK d n (pB n) ∧ kdA d = true
  | n, d, .atom h => by
    obtain ⟨a, b, c⟩ := atom_sh h
    have : 10 ≤ pB n := by
      induction n with
      | zero => exact Nat.le_refl _
      | succ n ih => exact Nat.le_trans ih (pB_up n)
    exact ⟨a.mono (Nat.zero_le _) this, b.mono (Nat.zero_le _) this, c⟩
  | _, _, .tup (n := n) (ds := ds) hl h => by
    have q := fun x hx => (h x hx).sh
    have z : (pB n + 1) * ds.length ≤ pB (n + 1) := Nat.mul_le_mul_left _ hl
    exact ⟨(ShP.tup fun d hd => (q d hd).1).mono (Nat.le_refl _) z, (ShK.tup fun d hd => (q d hd).2.1).mono (Nat.le_refl _) z, kdL_of fun d hd => (q d hd).2.2⟩
theorem Bt.sh : ∀ {n : Nat} {d : D}, Bt n d → kdA d = true ∧ (ShP d (n + 4) (bB n) ∨ ShK d (n + 4) (bB n))
  | n, d, .odd h => by
    have q := List.all_eq_true.mp odd_all d h
    rw [Bool.and_eq_true, Bool.or_eq_true] at q
    exact ⟨q.1, q.2.imp (fun z => (shP_by z).mono (by omega) (bB_20 n)) fun z => (shK_by z).mono (by omega) (bB_20 n)⟩
  | n, d, .plain h => ⟨h.sh.2.2, .inl (h.sh.1.mono (by omega) (by have := pB_bB n; omega))⟩
  | _, _, .at_ (n := n) (es := es) k hl h1 h2 => by
    have pl : ∀ i x, es[i]? = some x → i ≠ k → _ := fun i x e ne => (h1 i x e ne).sh
    have od : ∀ x, es[k]? = some x → _ := fun x e => (h2 x e).sh
    have z : (bB n + 1) * es.length ≤ bB (n + 1) := Nat.mul_le_mul_left _ hl
    have bb := pB_bB n
    refine ⟨kdL_of fun d hd => ?_, ?_⟩
    · obtain ⟨i, e⟩ := List.mem_iff_getElem?.mp hd
      by_cases w : i = k
      · subst w; exact (od d e).1
      · exact (pl i d e w).2.2
    · cases q : es[k]? with
      | none =>
        refine .inl ((ShP.tup (n := n + 4) (b := bB n) fun d hd => ?_).mono (by omega) z)
        obtain ⟨i, e⟩ := List.mem_iff_getElem?.mp hd
        by_cases w : i = k
        · subst w; rw [q] at e; cases e
        · exact (pl i d e w).1.mono (by omega) (by omega)
      | some y =>
        rcases (od y q).2 with o | o
        · refine .inl ((ShP.tup (n := n + 4) (b := bB n) fun d hd => ?_).mono (by omega) z)
          obtain ⟨i, e⟩ := List.mem_iff_getElem?.mp hd
          by_cases w : i = k
          · subst w; rw [q] at e; cases e; exact o
          · exact (pl i d e w).1.mono (by omega) (by omega)
        · refine .inr ((ShK.tup (n := n + 4) (b := bB n) fun d hd => ?_).mono (by omega) z)
          obtain ⟨i, e⟩ := List.mem_iff_getElem?.mp hd
          by_cases w : i = k
          · subst w; rw [q] at e; cases e; exact o
          · exact (pl i d e w).2.1.mono (by omega) (by omega)
  | _, _, .lst (n := n) (es := es) hl h => by
    have z : (bB n + 1) * es.length ≤ bB (n + 1) := Nat.mul_le_mul_left _ hl
    have bb := pB_bB n
    exact ⟨kdL_of fun d hd => (h d hd).sh.2.2, .inl ((ShP.lst (n := n + 4) (b := bB n) fun d hd => (h d hd).sh.1.mono (by omega) (by omega)).mono (by omega) z)⟩
  | n, _, .wrap (d := d) h => by
    have bb := pB_bB n
    refine ⟨kdL_of fun x hx => ?_, .inl ((ShP.tup (ds := [d]) (n := n) (b := pB n) fun x hx => ?_).mono (by omega) (by simpa using bb))⟩
    · rw [List.mem_singleton.mp hx]; exact h.sh.2.2
    · rw [List.mem_singleton.mp hx]; exact h.sh.1
  | n, _, .num h1 h2 => ⟨kd_int h1 (by omega), .inl ((int_sh h1 h2).1.mono (by omega) (by have := bB_20 n; omega))⟩
def okW (w : Str) : Bool := (w == "waits") || (jt.lookup w).isNone
theorem okW_or {w : Str} (h : okW w = true) : w = "waits" ∨ jt.lookup w = none := by
  unfold okW at h
  rw [Bool.or_eq_true, beq_iff_eq, Option.isNone_iff_eq_none] at h
  exact h
theorem good_ok : goodL.all okW = true := by decide +kernel
theorem Lv.str {n : Nat} {w : Str} (h : Lv n (.str w)) : okW w = true := by
  cases h with
  | atom h =>
    obtain ⟨x, hx, e⟩ := List.any_eq_true.mp h
    have e := beq_iff_eq.mp e
    subst e
    exact List.all_eq_true.mp good_ok x hx
def topW : D → Bool
  | .str w => okW w
  | .tup (.str w :: _) => okW w
  | _ => true
theorem odd_top : oddL.all topW = true := by decide +kernel
theorem Bt.str {n : Nat} {w : Str} (h : Bt n (.str w)) : okW w = true := by
  cases h with
  | odd h => exact List.all_eq_true.mp odd_top _ h
  | plain h => exact h.str
theorem Bt.other {n : Nat} {r : D} (h : Bt n r) : NoOther r := fun w l e => by
  subst e
  refine okW_or ?_
  cases h with
  | odd h => exact List.all_eq_true.mp odd_top _ h
  | plain h =>
    cases h with
    | atom h => cases h
    | tup hl h => exact (h _ List.mem_cons_self).str
  | at_ k hl h1 h2 =>
    by_cases z : 0 = k
    · subst z; exact (h2 _ rfl).str
    · exact (h1 0 _ rfl z).str
  | wrap h => exact h.str
def ShA (d : D) (n b : Nat) : Prop := ShP d n b ∨ ShK d n b
theorem ShA.parts {d : D} {n b : Nat} (h : ShA d n b) : (pyOk d || okD d) = true ∧ (pyE d).showable = true ∧ (pyE d).leavesShort 40 = true ∧ (pyE d).depth ≤ n ∧ (pyE d).bulk ≤ b := by
  rcases h with h | h
  · rw [pyE_eq d h.ok]
    exact ⟨by rw [h.ok]; rfl, h.sh, h.lf, h.dp, h.bk⟩
  · exact ⟨by rw [h.ok, Bool.or_true], h.sh, h.lf, h.dp, h.bk⟩
theorem show_pair {c p : D} (hc : ShA c 60 30000) (hp : ShA p 60 30000) (env : List DL.Slot) (Q E) : reprE (.tup [c, p]) env Q E = Q (.str (pyE (.tup [c, p])).shown) env := by
  obtain ⟨c1, c2, c3, c4, c5⟩ := hc.parts
  obtain ⟨p1, p2, p3, p4, p5⟩ := hp.parts
  have s : shOkE (pyE (.tup [c, p])) = true := by
    unfold shOkE
    have a1 : (pyE (.tup [c, p])).showable = true := by show ((pyE c).showable && ((pyE p).showable && true)) = true; rw [c2, p2]; rfl
    have a2 : (pyE (.tup [c, p])).leavesShort 40 = true := by show ((pyE c).leavesShort 40 && ((pyE p).leavesShort 40 && true)) = true; rw [c3, p3]; rfl
    have a3 : (pyE (.tup [c, p])).depth ≤ 64 := by show max (pyE c).depth (max (pyE p).depth 0) + 1 ≤ 64; omega
    have a4 : (pyE (.tup [c, p])).bulk ≤ 2 ^ 16 := by show (pyE c).bulk + 1 + ((pyE p).bulk + 1 + 0) ≤ 2 ^ 16; omega
    rw [a1, a2, decide_eq_true a3, decide_eq_true a4]; rfl
  have k : (compE (.tup [c, p]) = true ∧ ((pyOk (.tup [c, p]) = true ∧ shOk (py (.tup [c, p])) = true) ∨ (okD (.tup [c, p]) = true ∧ shOkE (pyE (.tup [c, p])) = true) ∨ (pyOk (.tup [c, p]) = true ∧ (py (.tup [c, p])).hasDict = false ∧ shOkE (py (.tup [c, p])) = true) ∨ (okT (.tup [c, p]) = true ∧ shOkE (pyE (.tup [c, p])) = true))) :=
    ⟨rfl, .inr (.inr (.inr ⟨by show ((pyOk c || okD c) && ((pyOk p || okD p) && true)) = true; rw [c1, p1]; rfl, s⟩))⟩
  exact propext ⟨fun z => z.2, fun z => ⟨k, z⟩⟩
end DLP
set_option Elab.async false
set_option linter.all false
set_option maxRecDepth 100000
set_option maxHeartbeats 4000000
namespace DLP
open PySem PySem.Spec PyProof.Rows L2 DL MW
def td1 (C : Addr) : M DL.Fl := thenN (bnd (bnd (consM (tupM (consM (dVar 0) (consM (dVar 1) (DL.ret [])))) (DL.ret [])) (un1 reprE)) (setI 3))
def td2 (C : Addr) : M DL.Fl := forM (bnd (lstM (consM (bnd (bnd (consD (dVar 0) (consD (dVar 1) (DL.ret []))) (callN 2 (f_holds C))) resD) (consM (bnd (bnd (consM (dVar 1) (consM (dVar 0) (DL.ret []))) fun es => callK 0 2 (pick [1, 0]) (f_holds C) [] es) resD) (consM (bnd (bnd (consD (dVar 0) (consD (dVar 1) (DL.ret []))) (callN 2 (f_holds C))) resD) (DL.ret []))))) itLst) (setI 4) (b_Ltold_1 C)
def td3 (C : Addr) : M DL.Fl := bnd (do2 (bnd (consM (tupM (consM (dVar 0) (consM (dVar 1) (DL.ret [])))) (DL.ret [])) (un1 reprE)) (dVar 3) eqM) fun d => DL.ret (.rt (.d d))
theorem tdeq (C : Addr) : m_Ltold C = seqM (td1 C) (seqM (td2 C) (td3 C)) := rfl
structure Said (c p : D) : Prop where
  kc : kdA c = true
  kp : kdA p = true
  no : NoOther c
  sc : ShA c 60 30000
  sp : ShA p 60 30000
theorem eqM_same_str (t : Str) (env : List DL.Slot) (Q E) : eqM (.str t) (.str t) env Q E = Q (.bl true) env := by
  show Q (.bl (t == t)) env = _
  rw [beq_self_eq_true]
section
variable (C : Addr) {c p : D} (S : Said c p)
theorem told_turn (due h : Bool) (t : Str) (Q E) : b_Ltold_1 C [.im c, .im p, .im (.bl due), .im (.str t), .im (.bl h)] Q E = if (h == due) = true then Q .nx [.im c, .im p, .im (.bl due), .im (.str t), .im (.bl h)] else Q (.rt (.d (.bl false))) [.im c, .im p, .im (.bl due), .im (.str t), .im (.bl h)] := by
  cases h <;> cases due <;> simp only [↓b_Ltold_1, ↓neM_bb, btf, bft, btt, bff, Bool.not_true, Bool.not_false, if_true, if_false, Bool.false_ne_true, ↓wpre0, ↓wpre1, ↓wpre2, ↓wpre3, ↓wpre4, ↓wpre5, wpost0, wpost1, ↓inQ, ↓callA, ↓ioAt, ↓putS, ↓isiD, ↓isi0, ↓hallM, Option.map, List.replicate, Nat.reduceAdd, Nat.reduceSub, ↓if_true, ↓if_false, ↓ite_true, ↓ite_false, reduceIte, oldS, forall_const, putX]
theorem told_loop (due h : Bool) (t : Str) (Q E) (v : DL.Slot) (hv : ∀ x o, v ≠ .io x o) : ∀ n : Nat, forL (setI 4) (b_Ltold_1 C) (List.replicate (n + 1) (.bl h)) [.im c, .im p, .im (.bl due), .im (.str t), v] Q E = if (h == due) = true then Q .nx [.im c, .im p, .im (.bl due), .im (.str t), .im (.bl h)] else Q (.rt (.d (.bl false))) [.im c, .im p, .im (.bl due), .im (.str t), .im (.bl h)] := by
  have one : ∀ (l : List D) (v : DL.Slot), (∀ x o, v ≠ .io x o) → forL (setI 4) (b_Ltold_1 C) (.bl h :: l) [.im c, .im p, .im (.bl due), .im (.str t), v] Q E = if (h == due) = true then forL (setI 4) (b_Ltold_1 C) l [.im c, .im p, .im (.bl due), .im (.str t), .im (.bl h)] Q E else Q (.rt (.d (.bl false))) [.im c, .im p, .im (.bl due), .im (.str t), .im (.bl h)] := fun l v hv => by
    rw [forL_cons, setI_ok (i := 4) (v := v) rfl hv]
    show b_Ltold_1 C [.im c, .im p, .im (.bl due), .im (.str t), .im (.bl h)] _ _ = _
    rw [told_turn]
    by_cases z : (h == due) = true
    · rw [if_pos z, if_pos z, loopK_nx]
    · rw [if_neg z, if_neg z]; rfl
  intro n
  induction n generalizing v with
  | zero =>
    rw [show List.replicate (0 + 1) (D.bl h) = [.bl h] from rfl, one [] v hv]
    rfl
  | succ n ih =>
    rw [show List.replicate (n + 1 + 1) (D.bl h) = .bl h :: List.replicate (n + 1) (.bl h) from rfl, one _ v hv, ih (.im (.bl h)) nofun]
    by_cases z : (h == due) = true
    · rw [if_pos z]
    · rw [if_neg z, if_neg z]
include S
theorem p_told (due : Bool) (Q E) : f_Ltold C [.im c, .im p, .im (.bl due)] Q E = Q (.d (.bl (holdsB c p == due))) [.im c, .im p, .im (.bl due)] := by
  have ph := fun Q E => p_holds C S.kc S.kp S.no Q E
  have sp := fun env Q E => show_pair S.sc S.sp env Q E
  generalize (pyE (.tup [c, p])).shown = t at sp
  generalize holdsB c p = h at ph
  have r1 : Runs (td1 C) [.im c, .im p, .im (.bl due), .no, .no] .nx [.im c, .im p, .im (.bl due), .im (.str t), .no] := fun Q E => by
    simp only [td1, ↓sp, ↓wpre0, ↓wpre1, ↓wpre2, ↓wpre3, ↓wpre4, ↓wpre5, wpost0, wpost1, ↓inQ, ↓callA, ↓ioAt, ↓putS, ↓isiD, ↓isi0, ↓hallM, Option.map, List.replicate, Nat.reduceAdd, Nat.reduceSub, ↓if_true, ↓if_false, ↓ite_true, ↓ite_false, reduceIte, oldS, forall_const, putX]
  have sr1 := fun m Q E => seq_run (b := m) r1 Q E
  have r2 : ∀ Q E, td2 C [.im c, .im p, .im (.bl due), .im (.str t), .no] Q E = if (h == due) = true then Q .nx [.im c, .im p, .im (.bl due), .im (.str t), .im (.bl h)] else Q (.rt (.d (.bl false))) [.im c, .im p, .im (.bl due), .im (.str t), .im (.bl h)] := fun Q E => by
    have lo := told_loop C (c := c) (p := p) due h t Q E .no nofun 2
    simp only [td2, ↓callK, pick, ↓ph, ↓wpre0, ↓wpre1, ↓wpre2, ↓wpre3, ↓wpre4, ↓wpre5, wpost0, wpost1, ↓inQ, ↓callA, ↓ioAt, ↓putS, ↓isiD, ↓isi0, ↓hallM, Option.map, List.replicate, Nat.reduceAdd, Nat.reduceSub, ↓if_true, ↓if_false, ↓ite_true, ↓ite_false, reduceIte, oldS, forall_const, putX]
    exact lo
  by_cases z : (h == due) = true
  · have r2' : Runs (td2 C) [.im c, .im p, .im (.bl due), .im (.str t), .no] .nx [.im c, .im p, .im (.bl due), .im (.str t), .im (.bl h)] := fun Q E => by rw [r2, if_pos z]
    have sr2 := fun m Q E => seq_run (b := m) r2' Q E
    rw [z]
    simp only [↓f_Ltold, tdeq, ↓sr1, ↓sr2, td3, ↓sp, ↓eqM_same_str, ↓wpre0, ↓wpre1, ↓wpre2, ↓wpre3, ↓wpre4, ↓wpre5, wpost0, wpost1, ↓inQ, ↓callA, ↓ioAt, ↓putS, ↓isiD, ↓isi0, ↓hallM, Option.map, List.replicate, Nat.reduceAdd, Nat.reduceSub, ↓if_true, ↓if_false, ↓ite_true, ↓ite_false, reduceIte, oldS, forall_const, putX]
  · have r2' : ∀ Q E, td2 C [.im c, .im p, .im (.bl due), .im (.str t), .no] Q E = Q (.rt (.d (.bl false))) [.im c, .im p, .im (.bl due), .im (.str t), .im (.bl h)] := fun Q E => by rw [r2, if_neg z]
    have e : (h == due) = false := by cases q : (h == due) with | false => rfl | true => exact absurd q z
    rw [e]
    simp only [↓f_Ltold, tdeq, ↓sr1, ↓seq_ap, ↓r2', ↓wpre0, ↓wpre1, ↓wpre2, ↓wpre3, ↓wpre4, ↓wpre5, wpost0, wpost1, ↓inQ, ↓callA, ↓ioAt, ↓putS, ↓isiD, ↓isi0, ↓hallM, Option.map, List.replicate, Nat.reduceAdd, Nat.reduceSub, ↓if_true, ↓if_false, ↓ite_true, ↓ite_false, reduceIte, oldS, forall_const, putX]
end
end DLP
set_option Elab.async false
set_option linter.all false
set_option maxRecDepth 100000
set_option maxHeartbeats 4000000
namespace DLP
open PySem PySem.Spec PyProof.Rows L2 DL MW
def cs (t : Str) : List Nat := t.cps.toList
theorem cs_app (a b : Str) : cs (a ++ b) = cs a ++ cs b := by
  show (a.cps ++ b.cps).toList = _
  rw [Array.toList_append]; rfl
def okc (c : Nat) : Bool := (decide (48 ≤ c) && decide (c ≤ 57)) || decide (c = 45)
def badc (c : Nat) : Bool := decide (c ∈ [78, 84, 70, 39, 34, 40, 91, 123])
theorem bad_ok : ∀ c, badc c = true → okc c = false ∧ c ≠ 44 ∧ c ≠ 32 ∧ c ≠ 41 := fun c h => by
  have h : c ∈ [78, 84, 70, 39, 34, 40, 91, 123] := of_decide_eq_true h
  simp only [List.mem_cons, List.not_mem_nil, or_false] at h
  rcases h with e | e | e | e | e | e | e | e <;> subst e <;> decide
def smI (i : Int) : Prop := (-40 ≤ i ∧ i ≤ 60) ∨ i = 10 ^ 30
def tI (i : Int) : Str := (toString i : String)
def intL : List Int := (10 ^ 30 : Int) :: (List.range 101).map fun n => ((n : Nat) : Int) - 40
theorem smI_mem {i : Int} (h : smI i) : i ∈ intL := by
  rcases h with h | h
  · refine List.mem_cons_of_mem _ (List.mem_map.mpr ⟨(i + 40).toNat, ?_, ?_⟩)
    · rw [List.mem_range]; omega
    · show (((i + 40).toNat : Nat) : Int) - 40 = i
      omega
  · rw [h]; exact List.mem_cons_self
theorem ints_ok : intL.all (fun i => (cs (tI i)).all okc && !(cs (tI i)).isEmpty) = true := by decide +kernel
theorem tI_ok {i : Int} (h : smI i) : (∀ c ∈ cs (tI i), okc c = true) ∧ cs (tI i) ≠ [] := by
  have q := List.all_eq_true.mp ints_ok i (smI_mem h)
  rw [Bool.and_eq_true, List.all_eq_true, Bool.not_eq_true'] at q
  exact ⟨q.1, fun e => by rw [e] at q; cases q.2⟩
theorem ints_nd : (intL.map fun i => cs (tI i)).Nodup := by decide +kernel
theorem tI_inj {i j : Int} (hi : smI i) (hj : smI j) (e : cs (tI i) = cs (tI j)) : i = j := by
  have key : ∀ l : List Int, (l.map fun i => cs (tI i)).Nodup → i ∈ l → j ∈ l → i = j := fun l nd a b => by
    induction l with
    | nil => cases a
    | cons x l ih =>
      rw [List.map_cons, List.nodup_cons] at nd
      rcases List.mem_cons.mp a with a | a <;> rcases List.mem_cons.mp b with b | b
      · rw [a, b]
      · exact absurd (List.mem_map.mpr ⟨j, b, by rw [← e, a]⟩) nd.1
      · exact absurd (List.mem_map.mpr ⟨i, a, by rw [e, b]⟩) nd.1
      · exact ih nd.2 a b
  exact key intL ints_nd (smI_mem hi) (smI_mem hj)
/-- the first sign of what is no number -/
theorem fold_head (f : Nat → Array Nat) : ∀ (l : List Nat) (acc : Array Nat) (q : Nat), acc.toList.head? = some q → (l.foldl (fun out c => out ++ f c) acc).toList.head? = some q
  | [], acc, q, h => h
  | c :: l, acc, q, h => by
    rw [List.foldl_cons]
    refine fold_head f l _ q ?_
    rw [Array.toList_append, List.head?_append, h]; rfl
theorem text_head (x : Str) : ∃ c, (cs (reprText x)).head? = some c ∧ badc c = true := by
  refine ⟨reprQuote x, ?_, ?_⟩
  · show ((x.cps.foldl (fun out c => out ++ (Builtin.Str.reprChar (reprQuote x) c).toArray) #[reprQuote x]).push (reprQuote x)).toList.head? = _
    rw [Array.toList_push, List.head?_append, ← Array.foldl_toList, fold_head (fun c => (Builtin.Str.reprChar (reprQuote x) c).toArray) x.cps.toList #[reprQuote x] (reprQuote x) rfl]
    rfl
  · unfold reprQuote; split <;> decide
theorem app_head {a b : Str} {c : Nat} (h : (cs a).head? = some c) : (cs (a ++ b)).head? = some c := by
  rw [cs_app, List.head?_append, h]; rfl
theorem from_head {c : Nat} : ∀ (ts : List Str) (k : Nat) (acc : Str), (cs acc).head? = some c → (cs (textFrom k acc ts)).head? = some c
  | [], k, acc, h => h
  | t :: ts, k, acc, h => by
    show (cs (textFrom (k + 1) _ ts)).head? = some c
    refine from_head ts (k + 1) _ ?_
    first | exact app_head (app_head h) | (split <;> first | exact app_head h | exact app_head (app_head h)) | exact app_head h
theorem odd_head : ∀ p : PyData, (∀ i, p ≠ .int i) → ∃ c, (cs p.shown).head? = some c ∧ badc c = true := fun p h => by
  cases p with
  | none => exact ⟨78, by decide +kernel, by decide⟩
  | bool b =>
    cases b
    · exact ⟨70, by show (cs ("False" : Str)).head? = some 70; decide +kernel, by decide⟩
    · exact ⟨84, by show (cs ("True" : Str)).head? = some 84; decide +kernel, by decide⟩
  | int i => exact absurd rfl (h i)
  | str x => simp only [PyData.shown]; exact text_head x
  | list xs =>
    simp only [PyData.shown]
    refine ⟨91, ?_, by decide⟩
    unfold listText
    refine app_head (from_head _ 0 _ ?_)
    decide +kernel
  | tuple xs =>
    simp only [PyData.shown]
    refine ⟨40, ?_, by decide⟩
    unfold tupleText
    refine app_head (app_head ?_)
    decide +kernel
  | dict kvs =>
    simp only [PyData.shown]
    refine ⟨123, ?_, by decide⟩
    unfold dictText
    refine app_head (app_head ?_)
    decide +kernel
theorem ne_int {p : PyData} (h : ∀ i, p ≠ .int i) {j : Int} (hj : smI j) : cs p.shown ≠ cs (tI j) := fun e => by
  obtain ⟨c, h1, h2⟩ := odd_head p h
  rw [e] at h1
  have := (tI_ok hj).1 c (List.mem_of_mem_head? h1)
  rw [(bad_ok c h2).1] at this
  cases this
def J : List (List Nat) → List Nat
  | [] => []
  | [t] => t
  | t :: u :: r => t ++ 44 :: 32 :: J (u :: r)
theorem cs_join : ∀ ts : List Str, cs (Str.join ", " ts) = J (ts.map cs)
  | [] => rfl
  | [t] => rfl
  | t :: u :: r => by
    show cs (t ++ ", " ++ Str.join ", " (u :: r)) = cs t ++ 44 :: 32 :: J (cs u :: r.map cs)
    rw [cs_app, cs_app, cs_join (u :: r), List.append_assoc]
    rfl
theorem mem_J {c : Nat} : ∀ {ts : List (List Nat)} {t : List Nat}, t ∈ ts → c ∈ t → c ∈ J ts
  | [t], u, h, hc => by rw [List.mem_singleton.mp h] at hc; exact hc
  | t :: v :: r, u, h, hc => by
    show c ∈ t ++ 44 :: 32 :: J (v :: r)
    rcases List.mem_cons.mp h with e | e
    · rw [e] at hc; exact List.mem_append_left _ hc
    · exact List.mem_append_right _ (List.mem_cons_of_mem _ (List.mem_cons_of_mem _ (mem_J e hc)))
theorem J_ok : ∀ {ts : List (List Nat)}, (∀ t ∈ ts, ∀ c ∈ t, okc c = true) → ∀ c ∈ J ts, okc c = true ∨ c = 44 ∨ c = 32
  | [], _, c, h => by cases h
  | [t], ht, c, h => .inl (ht t List.mem_cons_self c h)
  | t :: v :: r, ht, c, h => by
    have h : c ∈ t ++ 44 :: 32 :: J (v :: r) := h
    rcases List.mem_append.mp h with h | h
    · exact .inl (ht t List.mem_cons_self c h)
    · rcases List.mem_cons.mp h with e | h
      · exact .inr (.inl e)
      · rcases List.mem_cons.mp h with e | h
        · exact .inr (.inr e)
        · exact J_ok (fun u hu => ht u (List.mem_cons_of_mem _ hu)) c h
theorem sep {a b : List Nat} : ∀ {t u : List Nat}, 44 ∉ t → 44 ∉ u → t ++ 44 :: a = u ++ 44 :: b → t = u ∧ a = b
  | [], [], _, _, h => ⟨rfl, (List.cons.inj h).2⟩
  | [], x :: u, _, hu, h => absurd (by rw [(List.cons.inj h).1]; exact List.mem_cons_self) hu
  | x :: t, [], ht, _, h => absurd (by rw [← (List.cons.inj h).1]; exact List.mem_cons_self) ht
  | x :: t, y :: u, ht, hu, h => by
    obtain ⟨e1, e2⟩ := List.cons.inj h
    obtain ⟨e3, e4⟩ := sep (t := t) (u := u) (fun z => ht (List.mem_cons_of_mem _ z)) (fun z => hu (List.mem_cons_of_mem _ z)) e2
    exact ⟨by rw [e1, e3], e4⟩
def nT (i : Int) : List Nat := cs (tI i)
theorem nT_44 {i : Int} (h : smI i) : 44 ∉ nT i := fun m => by
  have := (tI_ok h).1 44 m
  exact absurd this (by decide)
theorem J_inj : ∀ {a b : List Int}, a ≠ [] → b ≠ [] → (∀ i ∈ a, smI i) → (∀ i ∈ b, smI i) → J (a.map nT) = J (b.map nT) → a = b
  | [], _, h, _, _, _, _ => absurd rfl h
  | _, [], _, h, _, _, _ => absurd rfl h
  | [i], [j], _, _, ha, hb, e => by rw [tI_inj (ha i (by simp)) (hb j (by simp)) e]
  | [i], j :: k :: r, _, _, ha, hb, e => by
    have e : nT i = nT j ++ 44 :: 32 :: J (nT k :: r.map nT) := e
    exact absurd (by rw [e]; simp) (nT_44 (ha i (by simp)))
  | j :: k :: r, [i], _, _, hb, ha, e => by
    have e : nT j ++ 44 :: 32 :: J (nT k :: r.map nT) = nT i := e
    exact absurd (by rw [← e]; simp) (nT_44 (ha i (by simp)))
  | i :: k :: r, j :: m :: s, _, _, ha, hb, e => by
    have e : nT i ++ 44 :: 32 :: J (nT k :: r.map nT) = nT j ++ 44 :: 32 :: J (nT m :: s.map nT) := e
    obtain ⟨e1, e2⟩ := sep (nT_44 (ha i (by simp))) (nT_44 (hb j (by simp))) e
    have e3 := (List.cons.inj e2).2
    rw [tI_inj (ha i (by simp)) (hb j (by simp)) e1, J_inj (a := k :: r) (b := m :: s) (by simp) (by simp) (fun x hx => ha x (List.mem_cons_of_mem _ hx)) (fun x hx => hb x (List.mem_cons_of_mem _ hx)) e3]
def endC (n : Nat) : List Nat := if n = 1 then [44, 41] else [41]
theorem cs_tup (ts : List Str) : cs (tupleText ts) = 40 :: (J (ts.map cs) ++ endC ts.length) := by
  unfold tupleText
  rw [cs_app, cs_app, cs_join]
  have e : cs ((if (ts.length == 1) = true then ",)" else ")" : String) : Str) = endC ts.length := by
    unfold endC
    by_cases h : ts.length = 1
    · rw [if_pos h, if_pos (by rw [h]; rfl)]; decide +kernel
    · rw [if_neg h, if_neg (by simpa using h)]; decide +kernel
  have e1 : cs ("(" : Str) = [40] := by decide +kernel
  rw [e1]
  show [40] ++ J (ts.map cs) ++ cs ((if (ts.length == 1) = true then ",)" else ")" : String) : Str) = _
  rw [e]
  rfl
theorem two_no {i j k : Int} {r : List Int} (h : smI i) (hj : smI j) (e : J ([i].map nT) ++ [44, 41] = J ((j :: k :: r).map nT) ++ [41]) : False := by
  have e : nT i ++ 44 :: [41] = nT j ++ 44 :: (32 :: J (nT k :: r.map nT) ++ [41]) := by
    have z : J ((j :: k :: r).map nT) ++ [41] = nT j ++ 44 :: (32 :: J (nT k :: r.map nT) ++ [41]) := by
      show (nT j ++ 44 :: 32 :: J (nT k :: r.map nT)) ++ [41] = _
      rw [List.append_assoc]; rfl
    rw [← z]; exact e
  have := (sep (nT_44 h) (nT_44 hj) e).2
  cases (List.cons.inj this).1
theorem nil_no {j : Int} {r : List Int} (hj : smI j) {x : List Nat} (e : [41] = J ((j :: r).map nT) ++ x) : False := by
  obtain ⟨h1, h2⟩ := tI_ok hj
  have hh : ∃ c t, nT j = c :: t ∧ okc c = true := by
    cases q : nT j with
    | nil => exact absurd q h2
    | cons c t => exact ⟨c, t, rfl, h1 c (by show c ∈ nT j; rw [q]; exact List.mem_cons_self)⟩
  obtain ⟨c, t, e1, e2⟩ := hh
  have : (J ((j :: r).map nT) ++ x).head? = some c := by
    cases r with
    | nil => show (nT j ++ x).head? = _; rw [e1]; rfl
    | cons k r => show (nT j ++ 44 :: 32 :: J (nT k :: r.map nT) ++ x).head? = _; rw [e1]; rfl
  rw [← e] at this
  cases this
  exact absurd e2 (by decide)
theorem rows_inj {a b : List Int} (ha : ∀ i ∈ a, smI i) (hb : ∀ i ∈ b, smI i) (e : J (a.map nT) ++ endC a.length = J (b.map nT) ++ endC b.length) : a = b := by
  match a, b, ha, hb, e with
  | [], [], _, _, _ => rfl
  | [], j :: r, _, hb, e => exact (nil_no (hb j (by simp)) e).elim
  | j :: r, [], hb, _, e => exact (nil_no (hb j (by simp)) e.symm).elim
  | [i], [j], ha, hb, e => exact J_inj (by simp) (by simp) ha hb (List.append_cancel_right e)
  | [i], j :: k :: r, ha, hb, e => exact (two_no (ha i (by simp)) (hb j (by simp)) e).elim
  | j :: k :: r, [i], hb, ha, e => exact (two_no (ha i (by simp)) (hb j (by simp)) e.symm).elim
  | i :: k :: r, j :: m :: s, ha, hb, e =>
    have e : J ((i :: k :: r).map nT) ++ [41] = J ((j :: m :: s).map nT) ++ [41] := e
    exact J_inj (by simp) (by simp) ha hb (List.append_cancel_right e)
theorem shown_ints : ∀ l : List Int, PyData.shownAll (l.map .int) = l.map tI
  | [] => rfl
  | i :: l => by show tI i :: PyData.shownAll (l.map .int) = _; rw [shown_ints l]; rfl
theorem shownAll_len : ∀ ps : List PyData, (PyData.shownAll ps).length = ps.length
  | [] => rfl
  | p :: ps => by show (PyData.shownAll ps).length + 1 = _; rw [shownAll_len ps]; rfl
theorem shownAll_mem : ∀ {ps : List PyData} {p : PyData}, p ∈ ps → p.shown ∈ PyData.shownAll ps
  | q :: ps, p, h => by
    rcases List.mem_cons.mp h with e | e
    · rw [e]; exact List.mem_cons_self
    · exact List.mem_cons_of_mem _ (shownAll_mem e)
theorem all_ints : ∀ {ps : List PyData}, (∀ p ∈ ps, ∃ i, p = .int i) → ∃ a : List Int, ps = a.map .int
  | [], _ => ⟨[], rfl⟩
  | p :: ps, h => by
    obtain ⟨i, rfl⟩ := h p List.mem_cons_self
    obtain ⟨a, e⟩ := all_ints (ps := ps) fun q hq => h q (List.mem_cons_of_mem _ hq)
    exact ⟨i :: a, by rw [e]; rfl⟩
/-- a tuple shown as a row of numbers is that row -/
theorem tup_inj {ps : List PyData} (hp : ∀ i, PyData.int i ∈ ps → smI i) {l : List Int} (hl : ∀ i ∈ l, smI i) (e : (PyData.tuple ps).shown = (PyData.tuple (l.map .int)).shown) : ps = l.map .int := by
  have e : cs (tupleText (PyData.shownAll ps)) = cs (tupleText (PyData.shownAll (l.map .int))) := congrArg cs e
  rw [cs_tup, cs_tup, shown_ints, shownAll_len] at e
  have e := (List.cons.inj e).2
  rw [List.map_map, List.length_map] at e
  have e : J ((PyData.shownAll ps).map cs) ++ endC ps.length = J (l.map nT) ++ endC l.length := e
  have all : ∀ p ∈ ps, ∃ i, p = .int i := fun p hm => by
    refine Classical.byContradiction fun no => ?_
    obtain ⟨c, h1, h2⟩ := odd_head p fun i z => no ⟨i, z⟩
    have m : c ∈ J ((PyData.shownAll ps).map cs) := mem_J (List.mem_map.mpr ⟨_, shownAll_mem hm, rfl⟩) (List.mem_of_mem_head? h1)
    have m2 : c ∈ J (l.map nT) ++ endC l.length := by rw [← e]; exact List.mem_append_left _ m
    obtain ⟨b1, b2, b3, b4⟩ := bad_ok c h2
    rcases List.mem_append.mp m2 with z | z
    · rcases J_ok (fun t ht c hc => by
        obtain ⟨i, hi, rfl⟩ := List.mem_map.mp ht
        exact (tI_ok (hl i hi)).1 c hc) c z with w | w | w
      · rw [b1] at w; cases w
      · exact b2 w
      · exact b3 w
    · unfold endC at z
      split at z
      · simp only [List.mem_cons, List.not_mem_nil, or_false] at z
        exact z.elim b2 b4
      · simp only [List.mem_cons, List.not_mem_nil, or_false] at z
        exact b4 z
  obtain ⟨a, rfl⟩ := all_ints all
  rw [shown_ints, List.map_map, List.length_map] at e
  rw [rows_inj (a := a) (b := l) (fun i hi => hp i (List.mem_map.mpr ⟨i, hi, rfl⟩)) hl e]
theorem not_tup {p : PyData} (h : ∀ xs, p ≠ .tuple xs) (hi : ∀ i, p = .int i → smI i) (l : List Int) : p.shown ≠ (PyData.tuple (l.map .int)).shown := fun e => by
  have e : cs p.shown = cs (tupleText (PyData.shownAll (l.map .int))) := congrArg cs e
  rw [cs_tup] at e
  have hd : (cs p.shown).head? = some 40 := by rw [e]; rfl
  cases p with
  | none => exact absurd hd (by decide +kernel)
  | bool b => cases b <;> exact absurd hd (by decide +kernel)
  | int i =>
    have := (tI_ok (hi i rfl)).1 40 (List.mem_of_mem_head? hd)
    exact absurd this (by decide)
  | str x =>
    simp only [PyData.shown] at hd
    have q : (cs (reprText x)).head? = some (reprQuote x) := by
      show ((x.cps.foldl (fun out c => out ++ (Builtin.Str.reprChar (reprQuote x) c).toArray) #[reprQuote x]).push (reprQuote x)).toList.head? = _
      rw [Array.toList_push, List.head?_append, ← Array.foldl_toList, fold_head (fun c => (Builtin.Str.reprChar (reprQuote x) c).toArray) x.cps.toList #[reprQuote x] (reprQuote x) rfl]
      rfl
    rw [q] at hd
    have hd := Option.some.inj hd
    unfold reprQuote at hd
    split at hd <;> cases hd
  | list xs =>
    simp only [PyData.shown] at hd
    have q : (cs (listText (PyData.shownAll xs))).head? = some 91 := by unfold listText; exact app_head (from_head _ 0 _ (by decide +kernel))
    rw [q] at hd; cases hd
  | tuple xs => exact absurd rfl (h xs)
  | dict kvs =>
    simp only [PyData.shown] at hd
    have q : (cs (dictText (PyData.shownKv kvs))).head? = some 123 := by unfold dictText; exact app_head (app_head (by decide +kernel))
    rw [q] at hd; cases hd
end DLP
set_option Elab.async false
set_option linter.all false
set_option maxRecDepth 100000
set_option maxHeartbeats 4000000
namespace DLP
open PySem PySem.Spec PyProof.Rows L2 DL MW
def lq1 (C : Addr) : M DL.Fl := ifM (orB (notB (bnd (bnd (dVar 0) (isi0 .tuple)) truD)) (orB (do2 (bnd (consM (dVar 0) (DL.ret [])) (un1 lenD)) (DL.ret (.int 5)) fun x y => bnd (neM x y) asB) (orB (do2 (do2 (dVar 0) (DL.ret (.int 0)) ixM) (DL.ret (.str "waits")) fun x y => bnd (neQ x y) asB) (notB (bnd (bnd (bnd (consD (do2 (dVar 0) (DL.ret (.int 1)) ixM) (consD (do2 (dVar 0) (DL.ret (.int 2)) ixM) (DL.ret []))) (callN 2 (f_Lfits C))) resD) truD))))) (bnd (DL.ret (.bl false)) fun d => DL.ret (.rt (.d d))) (DL.ret .nx)
def lq2 (C : Addr) : M DL.Fl := ifM (orB (notB (bnd (bnd (bnd (consD (do2 (dVar 0) (DL.ret (.int 3)) ixM) (consD (DL.ret (.int 0)) (consD (do2 (do2 (do2 (dVar 0) (DL.ret (.int 1)) ixM) (DL.ret (.int 0)) ixM) (DL.ret (.int 1)) subD) (DL.ret [])))) (callN 3 (f_Lwhole C))) resD) truD)) (do2 (do2 (do2 (dVar 0) (DL.ret (.int 2)) ixM) (do2 (dVar 0) (DL.ret (.int 3)) ixM) ixM) (DL.ret .non) fun x y => bnd (notNonD x y) asB)) (bnd (DL.ret (.bl false)) fun d => DL.ret (.rt (.d d))) (DL.ret .nx)
def lq3 (C : Addr) : M DL.Fl := thenN (bnd (bnd (consM (bnd (bnd (consD (do2 (dVar 0) (DL.ret (.int 2)) ixM) (consD (do2 (dVar 0) (DL.ret (.int 3)) ixM) (DL.ret []))) (callN 2 (f_Lseen C))) resD) (DL.ret [])) (un1 tupD)) (setI 2))
def lq4 (C : Addr) : M DL.Fl := bnd (andV (do2 (bnd (consM (do2 (dVar 0) (DL.ret (.int 4)) ixM) (DL.ret [])) (un1 reprE)) (bnd (consM (do2 (dVar 2) (bnd (DL.ret (.int 1)) negD) ixM) (DL.ret [])) (un1 reprE)) eqM) (do2 (bnd (consM (dVar 1) (DL.ret [])) (un1 reprE)) (bnd (consM (dVar 2) (DL.ret [])) (un1 reprE)) eqM)) fun d => DL.ret (.rt (.d d))
theorem lqeq (C : Addr) : m_Lis_waits C = seqM (lq1 C) (seqM (lq2 C) (seqM (lq3 C) (lq4 C))) := rfl
theorem kd_smI {i : Int} (h : kdA (.int i) = true) : smI i := by
  have h : ((decide (-40 ≤ i) && decide (i ≤ 60)) || decide (i = 10 ^ 30)) = true := h
  rw [Bool.or_eq_true, Bool.and_eq_true, decide_eq_true_eq, decide_eq_true_eq, decide_eq_true_eq] at h
  exact h
theorem rep_any {d : D} (kd : kdA d = true) {n b : Nat} (hn : n ≤ 64) (hb : b ≤ 65536) (h : ShA d n b) (env : List DL.Slot) (Q E) : reprE d env Q E = Q (.str (pyE d).shown) env := by
  obtain ⟨h1, h2, h3, h4, h5⟩ := h.parts
  cases d with
  | non => rfl
  | bl b => rfl
  | int i =>
    have z : (i.natAbs.log2 < 1920) := of_decide_eq_true h2
    exact propext ⟨fun w => w.2, fun w => ⟨z, w⟩⟩
  | str x =>
    have z : (reprText x).length ≤ sizeLine := shown_fitsE h3 (by omega)
    exact propext ⟨fun w => w.2, fun w => ⟨z, w⟩⟩
  | emp => exact h.elim (fun q => q.rep rfl hn hb env Q E) fun q => q.rep rfl hn hb env Q E
  | tup _ => exact h.elim (fun q => q.rep rfl hn hb env Q E) fun q => q.rep rfl hn hb env Q E
  | lst _ => exact h.elim (fun q => q.rep rfl hn hb env Q E) fun q => q.rep rfl hn hb env Q E
  | _ => cases kd
theorem shP_memL {n b : Nat} : ∀ {ds : List D}, pyOkL ds = true → PyData.showableAll (pyL ds) = true → PyData.hasDictAll (pyL ds) = false → PyData.leavesShortAll 40 (pyL ds) = true → PyData.depthAll (pyL ds) ≤ n → PyData.bulkAll (pyL ds) ≤ b → ∀ d ∈ ds, ShP d n b
  | d :: ds, a1, a2, a3, a4, a5, a6, x, hx => by
    have q1 : pyOk d = true ∧ pyOkL ds = true := (Bool.and_eq_true _ _).mp a1
    have q2 : (py d).showable = true ∧ PyData.showableAll (pyL ds) = true := (Bool.and_eq_true _ _).mp a2
    have q3 : (py d).hasDict = false ∧ PyData.hasDictAll (pyL ds) = false := (Bool.or_eq_false_iff).mp a3
    have q4 : (py d).leavesShort 40 = true ∧ PyData.leavesShortAll 40 (pyL ds) = true := (Bool.and_eq_true _ _).mp a4
    have q5 : max (py d).depth (PyData.depthAll (pyL ds)) ≤ n := a5
    have q6 : (py d).bulk + 1 + PyData.bulkAll (pyL ds) ≤ b := a6
    rcases List.mem_cons.mp hx with e | e
    · rw [e]; exact ⟨q1.1, q2.1, q3.1, q4.1, by omega, by omega⟩
    · exact shP_memL q1.2 q2.2 q3.2 q4.2 (by omega) (by omega) x e
theorem shK_memL {n b : Nat} : ∀ {ds : List D}, okDL ds = true → PyData.showableAll (pyEL ds) = true → PyData.leavesShortAll 40 (pyEL ds) = true → PyData.depthAll (pyEL ds) ≤ n → PyData.bulkAll (pyEL ds) ≤ b → ∀ d ∈ ds, ShK d n b
  | d :: ds, a1, a2, a4, a5, a6, x, hx => by
    have q1 : okD d = true ∧ okDL ds = true := (Bool.and_eq_true _ _).mp a1
    have q2 : (pyE d).showable = true ∧ PyData.showableAll (pyEL ds) = true := (Bool.and_eq_true _ _).mp a2
    have q4 : (pyE d).leavesShort 40 = true ∧ PyData.leavesShortAll 40 (pyEL ds) = true := (Bool.and_eq_true _ _).mp a4
    have q5 : max (pyE d).depth (PyData.depthAll (pyEL ds)) ≤ n := a5
    have q6 : (pyE d).bulk + 1 + PyData.bulkAll (pyEL ds) ≤ b := a6
    rcases List.mem_cons.mp hx with e | e
    · rw [e]; exact ⟨q1.1, q2.1, q4.1, by omega, by omega⟩
    · exact shK_memL q1.2 q2.2 q4.2 (by omega) (by omega) x e
theorem ShA.mem {ds : List D} {n b : Nat} (h : ShA (.tup ds) n b) {d : D} (hd : d ∈ ds) : ShA d n b := by
  rcases h with h | h
  · exact .inl (shP_memL (by simpa [pyOk] using h.ok) h.sh h.nd h.lf (Nat.le_of_succ_le h.dp) h.bk d hd)
  · exact .inr (shK_memL (by simpa [okD] using h.ok) h.sh h.lf (Nat.le_of_succ_le h.dp) h.bk d hd)
theorem pyE_int {d : D} {i : Int} (h : pyE d = .int i) : d = .int i := by
  cases d with
  | int j => cases h; rfl
  | _ => cases h
theorem pyE_tup {d : D} (hd : kdA d = true) {xs : List PyData} (h : pyE d = .tuple xs) : ∃ ds, d = .tup ds ∧ pyEL ds = xs := by
  cases d with
  | tup ds => cases h; exact ⟨ds, rfl, rfl⟩
  | _ => first | cases h | cases hd
theorem pyEL_ints : ∀ {ds : List D} {l : List Int}, pyEL ds = l.map .int → ds = l.map .int
  | [], [], _ => rfl
  | [], _ :: _, h => by cases h
  | _ :: _, [], h => by cases h
  | d :: ds, i :: l, h => by
    have h : pyE d :: pyEL ds = .int i :: l.map .int := h
    obtain ⟨h1, h2⟩ := List.cons.inj h
    rw [pyE_int h1, pyEL_ints h2]; rfl
theorem pyEL_map : ∀ l : List Int, pyEL (l.map .int) = l.map .int
  | [] => rfl
  | i :: l => by show PyData.int i :: pyEL (l.map .int) = _; rw [pyEL_map l]; rfl
/-- shown alike: the number itself -/
theorem seat_text {d : D} (hd : kdA d = true) {j : Int} (hj : smI j) : ((pyE d).shown == tI j) = sameI d j := by
  by_cases z : ∃ i, d = .int i
  · obtain ⟨i, rfl⟩ := z
    show (tI i == tI j) = (i == j)
    by_cases e : i = j
    · subst e; simp
    · rw [beq_eq_false_iff_ne.mpr e]
      exact beq_eq_false_iff_ne.mpr fun w => e (tI_inj (kd_smI hd) hj (congrArg cs w))
  · have s : sameI d j = false := by
      cases d with
      | int i => exact absurd ⟨i, rfl⟩ z
      | _ => rfl
    rw [s]
    exact beq_eq_false_iff_ne.mpr fun w => ne_int (p := pyE d) (fun i e => z ⟨i, pyE_int e⟩) hj (congrArg cs w)
theorem sameT_self : ∀ l : List Int, ((l.map D.int).zip l).all (fun p => sameI p.1 p.2) = true
  | [] => rfl
  | i :: l => by
    show ((i == i) && ((l.map D.int).zip l).all fun p => sameI p.1 p.2) = true
    rw [sameT_self l]; simp
theorem sameT_eq : ∀ {ds : List D} {l : List Int}, ds.length = l.length → ((ds.zip l).all fun p => sameI p.1 p.2) = true → ds = l.map .int
  | [], [], _, _ => rfl
  | [], _ :: _, h, _ => by cases h
  | _ :: _, [], h, _ => by cases h
  | d :: ds, i :: l, h, h2 => by
    have h2 : (sameI d i && (ds.zip l).all fun p => sameI p.1 p.2) = true := h2
    rw [Bool.and_eq_true] at h2
    have e : d = .int i := by
      cases d with
      | int j => have := h2.1; simp only [sameI, beq_iff_eq] at this; rw [this]
      | _ => cases h2.1
    rw [e, sameT_eq (by simpa using h) h2.2]; rfl
theorem row_text {d : D} (hd : kdA d = true) {l : List Int} (hl : ∀ i ∈ l, smI i) : ((pyE d).shown == (PyData.tuple (l.map .int)).shown) = sameT d l := by
  cases s : sameT d l with
  | true =>
    have e : d = .tup (l.map .int) := by
      cases d with
      | tup ds =>
        have s : (decide (ds.length = l.length) && (ds.zip l).all fun p => sameI p.1 p.2) = true := s
        rw [Bool.and_eq_true, decide_eq_true_eq] at s
        rw [sameT_eq s.1 s.2]
      | _ => cases s
    subst e
    show ((PyData.tuple (pyEL (l.map .int))).shown == _) = true
    rw [pyEL_map]
    simp
  | false =>
    refine beq_eq_false_iff_ne.mpr fun w => ?_
    by_cases z : ∃ xs, pyE d = .tuple xs
    · obtain ⟨xs, hx⟩ := z
      obtain ⟨ds, rfl, e⟩ := pyE_tup hd hx
      rw [hx] at w
      subst e
      have q := tup_inj (ps := pyEL ds) (fun i hi => by
        have key : ∀ {ds : List D}, (∀ d ∈ ds, kdA d = true) → PyData.int i ∈ pyEL ds → smI i := fun {ds} => by
          induction ds with
          | nil => intro _ h; cases h
          | cons d ds ih =>
            intro hk h
            rcases List.mem_cons.mp (show PyData.int i ∈ pyE d :: pyEL ds from h) with e | e
            · have := pyE_int e.symm
              subst this
              exact kd_smI (hk _ List.mem_cons_self)
            · exact ih (fun x hx => hk x (List.mem_cons_of_mem _ hx)) e
        exact key (kdT hd) hi) hl w
      have e := pyEL_ints q
      subst e
      have : sameT (.tup (l.map .int)) l = true := by
        show (decide ((l.map D.int).length = l.length) && ((l.map D.int).zip l).all fun p => sameI p.1 p.2) = true
        rw [sameT_self, decide_eq_true (List.length_map ..)]; rfl
      rw [this] at s; cases s
    · exact not_tup (fun xs e => z ⟨xs, e⟩) (fun i e => by have := pyE_int e; subst this; exact kd_smI hd) l w
end DLP
set_option Elab.async false
set_option linter.all false
set_option maxRecDepth 100000
set_option maxHeartbeats 4000000
namespace DLP
open PySem PySem.Spec PyProof.Rows L2 DL MW
theorem sizes_ix (g s : Int) (env : List DL.Slot) (Q E) : ixM (.tup [.int g, .int s]) (.int 0) env Q E = Q (.int g) env := ixa _ _ env Q E
theorem ixe (a b c d e : D) (l : List D) (env : List DL.Slot) (Q E) : ixM (.tup (a :: b :: c :: d :: e :: l)) (.int 4) env Q E = Q e env := ixM_nat (k := 4) rfl env Q E
theorem eqM_strs (a b : Str) (env : List DL.Slot) (Q E) : eqM (.str a) (.str b) env Q E = Q (.bl (a == b)) env := rfl
theorem path_smI {g s : Int} {st : Sd} (S : Stand g s st) {k : Int} (hk : 0 ≤ k ∧ k < g) : ∀ i ∈ path st k, 0 ≤ i ∧ i < g := fun i hi => by
  have key : ∀ (n : Nat) (x : Int), (0 ≤ x ∧ x < g) → ∀ i ∈ pathF st n x, 0 ≤ i ∧ i < g := fun n => by
    induction n with
    | zero => intro x hx i hi; rw [show pathF st 0 x = [x] from rfl, List.mem_singleton] at hi; rw [hi]; exact hx
    | succ n ih =>
      intro x hx i hi
      cases e : hold st x with
      | none => rw [pathF_none e, List.mem_singleton] at hi; rw [hi]; exact hx
      | some y =>
        rw [pathF_some e] at hi
        rcases List.mem_cons.mp hi with z | z
        · rw [z]; exact hx
        · exact ih y (S.bound (hold_some e)).1 i z
  exact key _ k hk i hi
theorem endP_mem (st : Sd) (k : Int) : endP st k ∈ path st k := by
  obtain ⟨l, e⟩ := path_snoc st k
  rw [e]; simp
section
variable (C : Addr)
theorem p_is_waits {c p : D} (S : Said c p) (Q E) : f_Lis_waits C [.im c, .im p] Q E = Q (.d (.bl (holdsB c p))) [.im c, .im p] := by
  have hc := S.kc
  have it := fun env Q E => isi_tup hc env Q E
  cases t : isTup c with
  | false =>
    rw [t] at it
    simp only [holds_no t, ↓f_Lis_waits, lqeq, ↓seq_ap, lq1, ↓it, ↓wpre0, ↓wpre1, ↓wpre2, ↓wpre3, ↓wpre4, ↓wpre5, wpost0, wpost1, ↓inQ, ↓callA, ↓ioAt, ↓putS, ↓isiD, ↓hallM, Option.map, List.replicate, Nat.reduceAdd, Nat.reduceSub, ↓if_true, ↓if_false, ↓ite_true, ↓ite_false, reduceIte, oldS, forall_const, putX]
  | true =>
    cases c with
    | tup ds =>
      by_cases l5 : ds.length = 5
      · obtain ⟨w, sz, th, gu, seat, rfl⟩ := len_five l5
        have hd := kdT hc
        have f1 := fun Q E => p_Lfits C (hd sz (by simp)) (hd th (by simp)) Q E
        have nq := fun env Q E => neQ_str (hd w (by simp)) ok_waits env Q E
        have e5 : (((0 + 1 + 1 + 1 + 1 + 1 : Nat) : Int) == 5) = true := rfl
        have e0 : holdsB (.tup [w, sz, th, gu, seat]) p = (isStr w "waits" && waitsB sz th gu seat p) := rfl
        cases zw : isStr w "waits" with
        | false =>
          rw [zw] at nq e0
          simp only [e0, ↓f_Lis_waits, lqeq, ↓seq_ap, lq1, e5, ↓ixa, ↓nq, Bool.not_false, Bool.false_and, ↓wpre0, ↓wpre1, ↓wpre2, ↓wpre3, ↓wpre4, ↓wpre5, wpost0, wpost1, ↓inQ, ↓callA, ↓ioAt, ↓putS, ↓isiD, ↓isi0, ↓hallM, Option.map, List.replicate, Nat.reduceAdd, Nat.reduceSub, ↓if_true, ↓if_false, ↓ite_true, ↓ite_false, reduceIte, oldS, forall_const, putX]
        | true =>
          rw [zw] at nq e0
          rw [Bool.true_and] at e0
          cases zf : fitsB sz th with
          | false =>
            rw [zf] at f1
            have e : waitsB sz th gu seat p = false := by unfold waitsB; rw [zf]; rfl
            simp only [e0, e, ↓f_Lis_waits, lqeq, ↓seq_ap, lq1, e5, ↓ixa, ↓ixb, ↓ixc, ↓nq, ↓f1, Bool.not_true, ↓wpre0, ↓wpre1, ↓wpre2, ↓wpre3, ↓wpre4, ↓wpre5, wpost0, wpost1, ↓inQ, ↓callA, ↓ioAt, ↓putS, ↓isiD, ↓isi0, ↓hallM, Option.map, List.replicate, Nat.reduceAdd, Nat.reduceSub, ↓if_true, ↓if_false, ↓ite_true, ↓ite_false, reduceIte, oldS, forall_const, putX]
          | true =>
            rw [zf] at f1
            have r1 : Runs (lq1 C) [.im (.tup [w, sz, th, gu, seat]), .im p, .no] .nx [.im (.tup [w, sz, th, gu, seat]), .im p, .no] := fun Q E => by
              simp only [lq1, e5, ↓ixa, ↓ixb, ↓ixc, ↓nq, ↓f1, Bool.not_true, ↓wpre0, ↓wpre1, ↓wpre2, ↓wpre3, ↓wpre4, ↓wpre5, wpost0, wpost1, ↓inQ, ↓callA, ↓ioAt, ↓putS, ↓isiD, ↓isi0, ↓hallM, Option.map, List.replicate, Nat.reduceAdd, Nat.reduceSub, ↓if_true, ↓if_false, ↓ite_true, ↓ite_false, reduceIte, oldS, forall_const, putX]
            have sr1 := fun m Q E => seq_run (b := m) r1 Q E
            obtain ⟨g, s, st, e1, e2, A⟩ := fits_stand zf
            subst e1 e2
            have lg : ((st.length : Nat) : Int) = g := A.len
            have pw := fun Q E => p_lwholeA C (hd gu (by simp)) 0 (g - 1) Q E
            cases zk : wholeB gu 0 (g - 1) with
            | false =>
              rw [zk] at pw
              have e : waitsB (.tup [.int g, .int s]) (stD st) gu seat p = false := by unfold waitsB; rw [zf, stOf_st, lg, zk]; rfl
              simp only [e0, e, ↓f_Lis_waits, lqeq, ↓sr1, ↓seq_ap, lq2, ↓ixd, ↓ixb, ↓sizes_ix, ↓pw, ↓wpre0, ↓wpre1, ↓wpre2, ↓wpre3, ↓wpre4, ↓wpre5, wpost0, wpost1, ↓inQ, ↓callA, ↓ioAt, ↓putS, ↓isiD, ↓isi0, ↓hallM, Option.map, List.replicate, Nat.reduceAdd, Nat.reduceSub, ↓if_true, ↓if_false, ↓ite_true, ↓ite_false, reduceIte, oldS, forall_const, putX]
            | true =>
              rw [zk] at pw
              obtain ⟨k, rfl, k1, k2⟩ := whole_int zk
              have hk : 0 ≤ k ∧ k < g := by omega
              have ix : ∀ env Q E, ixM (stD st) (.int k) env Q E = Q (oD (seatAt st k)) env := fun env Q E => ixM_st A hk env Q E
              have eW : waitsB (.tup [.int g, .int s]) (stD st) (.int k) seat p = ((seatAt st k).isNone && (sameI seat (endP st k) && sameT p (path st k))) := by
                unfold waitsB; rw [zf, stOf_st, lg, zk]; rfl
              cases hv : seatAt st k with
              | some v =>
                rw [hv] at ix eW
                simp only [Option.isNone_some, Bool.false_and] at eW
                simp only [e0, eW, ↓f_Lis_waits, lqeq, ↓sr1, ↓seq_ap, lq2, ↓ixc, ↓ixd, ↓ixb, ↓sizes_ix, ↓pw, ↓ix, ↓notNon_o, Option.isSome_some, ↓wpre0, ↓wpre1, ↓wpre2, ↓wpre3, ↓wpre4, ↓wpre5, wpost0, wpost1, ↓inQ, ↓callA, ↓ioAt, ↓putS, ↓isiD, ↓isi0, ↓hallM, Option.map, List.replicate, Nat.reduceAdd, Nat.reduceSub, ↓if_true, ↓if_false, ↓ite_true, ↓ite_false, reduceIte, oldS, forall_const, putX]
              | none =>
                rw [hv] at ix eW
                simp only [Option.isNone_none, Bool.true_and] at eW
                have r2 : Runs (lq2 C) [.im (.tup [w, .tup [.int g, .int s], stD st, .int k, seat]), .im p, .no] .nx [.im (.tup [w, .tup [.int g, .int s], stD st, .int k, seat]), .im p, .no] := fun Q E => by
                  simp only [lq2, ↓ixc, ↓ixd, ↓ixb, ↓sizes_ix, ↓pw, ↓ix, ↓notNon_o, Option.isSome_none, ↓wpre0, ↓wpre1, ↓wpre2, ↓wpre3, ↓wpre4, ↓wpre5, wpost0, wpost1, ↓inQ, ↓callA, ↓ioAt, ↓putS, ↓isiD, ↓isi0, ↓hallM, Option.map, List.replicate, Nat.reduceAdd, Nat.reduceSub, ↓if_true, ↓if_false, ↓ite_true, ↓ite_false, reduceIte, oldS, forall_const, putX]
                have pk := fun Q E => p_seen C A k hv Q E
                have r3 : Runs (lq3 C) [.im (.tup [w, .tup [.int g, .int s], stD st, .int k, seat]), .im p, .no] .nx [.im (.tup [w, .tup [.int g, .int s], stD st, .int k, seat]), .im p, .im (.tup ((path st k).map .int))] := fun Q E => by
                  simp only [lq3, ↓ixc, ↓ixd, ↓pk, ↓wpre0, ↓wpre1, ↓wpre2, ↓wpre3, ↓wpre4, ↓wpre5, wpost0, wpost1, ↓inQ, ↓callA, ↓ioAt, ↓putS, ↓isiD, ↓isi0, ↓hallM, Option.map, List.replicate, Nat.reduceAdd, Nat.reduceSub, ↓if_true, ↓if_false, ↓ite_true, ↓ite_false, reduceIte, oldS, forall_const, putX]
                have sr2 := fun m Q E => seq_run (b := m) r2 Q E
                have sr3 := fun m Q E => seq_run (b := m) r3 Q E
                have sm : ∀ i ∈ path st k, smI i := fun i hi => by have := path_smI A hk i hi; have := A.hg; exact .inl (by omega)
                have se : smI (endP st k) := sm _ (endP_mem st k)
                have ixp := fun env Q E => ix_path st k env Q E
                have q1 : ∀ env Q E, reprE seat env Q E = Q (.str (pyE seat).shown) env := fun env Q E => rep_any (hd seat (by simp)) (by decide) (by decide) (S.sc.mem (by simp)) env Q E
                have q2 : ∀ env Q E, reprE (.int (endP st k)) env Q E = Q (.str (tI (endP st k))) env := fun env Q E => by
                  have b := path_smI A hk _ (endP_mem st k)
                  have := A.hg
                  have z : (endP st k).natAbs.log2 < 1920 := of_eq_true (small_log ⟨b.1, by omega⟩)
                  exact propext ⟨fun w => w.2, fun w => ⟨z, w⟩⟩
                have q3 : ∀ env Q E, reprE p env Q E = Q (.str (pyE p).shown) env := fun env Q E => rep_any S.kp (by decide) (by decide) S.sp env Q E
                have pl : (path st k).length ≤ 25 := by have := pathF_len (st := st) st.length k; have := A.len; have := A.hg; unfold path; omega
                have q4 : ∀ env Q E, reprE (.tup ((path st k).map .int)) env Q E = Q (.str (PyData.tuple ((path st k).map .int)).shown) env := fun env Q E => by
                  have sh : ShP (.tup ((path st k).map .int)) 1 1000 := (ShP.tup (n := 0) (b := 0) fun d hd => by
                    obtain ⟨i, hi, rfl⟩ := List.mem_map.mp hd
                    have := path_smI A hk i hi
                    have := A.hg
                    exact shP_int (by omega)).mono (by decide) (by rw [List.length_map]; omega)
                  have := sh.rep rfl (by decide) (by decide) env Q E
                  rw [this]
                  show Q (.str (PyData.tuple (pyEL ((path st k).map .int))).shown) env = _
                  rw [pyEL_map]
                have t1 := seat_text (hd seat (by simp)) se
                have t2 := row_text S.kp sm
                generalize (pyE seat).shown = x1 at q1 t1
                generalize tI (endP st k) = x2 at q2 t1
                generalize (pyE p).shown = x3 at q3 t2
                generalize (PyData.tuple ((path st k).map .int)).shown = x4 at q4 t2
                cases zs : sameI seat (endP st k) with
                | false =>
                  rw [zs] at t1
                  simp only [e0, eW, zs, Bool.false_and, ↓f_Lis_waits, lqeq, ↓sr1, ↓sr2, ↓sr3, lq4, ↓ixe, ↓neg1, ↓ixp, ↓q1, ↓q2, ↓eqM_strs, t1, ↓wpre0, ↓wpre1, ↓wpre2, ↓wpre3, ↓wpre4, ↓wpre5, wpost0, wpost1, ↓inQ, ↓callA, ↓ioAt, ↓putS, ↓isiD, ↓isi0, ↓hallM, Option.map, List.replicate, Nat.reduceAdd, Nat.reduceSub, ↓if_true, ↓if_false, ↓ite_true, ↓ite_false, reduceIte, oldS, forall_const, putX]
                | true =>
                  rw [zs] at t1
                  simp only [e0, eW, zs, Bool.true_and, ↓f_Lis_waits, lqeq, ↓sr1, ↓sr2, ↓sr3, lq4, ↓ixe, ↓neg1, ↓ixp, ↓q1, ↓q2, ↓q3, ↓q4, ↓eqM_strs, t1, t2, ↓wpre0, ↓wpre1, ↓wpre2, ↓wpre3, ↓wpre4, ↓wpre5, wpost0, wpost1, ↓inQ, ↓callA, ↓ioAt, ↓putS, ↓isiD, ↓isi0, ↓hallM, Option.map, List.replicate, Nat.reduceAdd, Nat.reduceSub, ↓if_true, ↓if_false, ↓ite_true, ↓ite_false, reduceIte, oldS, forall_const, putX]
      · have e5 : (((ds.length : Nat) : Int) == 5) = false := beq_eq_false_iff_ne.mpr fun z => l5 (by omega)
        simp only [holds_len l5, ↓f_Lis_waits, lqeq, ↓seq_ap, lq1, e5, ↓wpre0, ↓wpre1, ↓wpre2, ↓wpre3, ↓wpre4, ↓wpre5, wpost0, wpost1, ↓inQ, ↓callA, ↓ioAt, ↓putS, ↓isiD, ↓isi0, ↓hallM, Option.map, List.replicate, Nat.reduceAdd, Nat.reduceSub, ↓if_true, ↓if_false, ↓ite_true, ↓ite_false, reduceIte, oldS, forall_const, putX]
    | _ => cases t
end
end DLP
set_option Elab.async false
set_option linter.all false
set_option maxRecDepth 100000
set_option maxHeartbeats 4000000
namespace DLP
open PySem PySem.Spec PyProof.Rows L2 DL MW
def bt1 (C : Addr) : M DL.Fl := thenN (bnd (lstM (consM (DL.ret .non) (consM (DL.ret (.bl true)) (consM (DL.ret (.bl false)) (consM (DL.ret (.int 0)) (consM (DL.ret (.int 1)) (consM (bnd (DL.ret (.int 1)) negD) (consM (DL.ret (.int 2)) (consM (DL.ret (.int 3)) (consM (DL.ret (.str "")) (consM (DL.ret (.str "go")) (consM (DL.ret (.str "come")) (consM (tupM (DL.ret [])) (consM (lstM (DL.ret [])) (consM (DL.ret .emp) (consM (tupM (consM (DL.ret (.int 0)) (DL.ret []))) (consM (tupM (consM (tupM (DL.ret [])) (DL.ret []))) (consM (do2 (DL.ret (.int 10)) (DL.ret (.int 30)) powD) (consM (DL.ret (.int 24)) (consM (DL.ret (.int 25)) (consM (DL.ret (.str "0")) (consM (lstM (consM (DL.ret (.int 0)) (DL.ret []))) (DL.ret []))))))))))))))))))))))) (setI 3))
def bt2 (C : Addr) : M DL.Fl := thenN (bnd (do2 (dVar 3) (lstM (consM (tupM (consM (lstM (DL.ret [])) (DL.ret []))) (consM (tupM (consM (DL.ret (.str "go")) (consM (DL.ret (.int 0)) (DL.ret [])))) (consM (tupM (consM (tupM (consM (DL.ret (.str "come")) (consM (DL.ret (.int 0)) (DL.ret [])))) (DL.ret []))) (consM (tupM (consM (DL.ret (.int 0)) (consM (DL.ret (.int 1)) (DL.ret [])))) (consM (tupM (consM (DL.ret (.int 3)) (consM (DL.ret (.int 0)) (DL.ret [])))) (consM (tupM (consM (DL.ret (.int 1)) (consM (DL.ret .non) (DL.ret [])))) (DL.ret [])))))))) addD) (setI 3))
def bt3 (C : Addr) : M DL.Fl := ifM (bnd (bnd (bnd (consD (dVar 1) (consD (DL.ret (.int 0)) (consD (do2 (DL.ret (.int 10)) (DL.ret (.int 30)) powD) (DL.ret [])))) (callN 3 (f_Lwhole C))) resD) truD) (thenN (bnd (do2 (dVar 3) (lstM (consM (do2 (dVar 1) (DL.ret (.int 1)) addD) (consM (do2 (dVar 1) (DL.ret (.int 1)) subD) (consM (do2 (dVar 1) (DL.ret (.int 2)) addD) (consM (do2 (dVar 1) (DL.ret (.int 1)) addD) (consM (bnd (consM (dVar 1) (DL.ret [])) (un1 txtD)) (consM (do2 (dVar 1) (DL.ret (.int 2)) subD) (DL.ret [])))))))) addD) (setI 3))) (DL.ret .nx)
def bt4 (C : Addr) : M DL.Fl := thenN (bnd (do2 (dVar 3) (bnd (bnd (consO 0 (consD (bnd (consM (dVar 3) (DL.ret [])) (un1 lenD)) (DL.ret []))) (callN 2 (f_Ltake C))) resD) ixM) (setI 4))
def bt5 (C : Addr) : M DL.Fl := ifM (orB (do2 (dVar 2) (DL.ret (.int 0)) fun x y => bnd (eqM x y) asB) (orB (notB (bnd (bnd (dVar 1) (isi0 .tuple)) truD)) (orB (do2 (dVar 1) (tupM (DL.ret [])) fun x y => bnd (eqQ x y) asB) (do2 (bnd (bnd (consO 0 (consD (DL.ret (.int 6)) (DL.ret []))) (callN 2 (f_Ltake C))) resD) (DL.ret (.int 0)) fun x y => bnd (eqM x y) asB)))) (bnd (dVar 4) fun d => DL.ret (.rt (.d d))) (DL.ret .nx)
def bt6 (C : Addr) : M DL.Fl := parM [5, 6] (vD (bnd (bnd (consO 0 (consD (bnd (consM (dVar 1) (DL.ret [])) (un1 lenD)) (DL.ret []))) (callN 2 (f_Ltake C))) resD) (vD (bnd (bnd (consO 0 (consD (DL.ret (.int 9)) (DL.ret []))) (callN 2 (f_Ltake C))) resD) (DL.ret [])))
def bt7 (C : Addr) : M DL.Fl := ifM (do2 (dVar 6) (DL.ret (.int 0)) fun x y => bnd (eqM x y) asB) (bnd (do2 (bnd (dVar 1) fun d => bnd (DL.ret none) fun l => bnd (partM (dVar 5)) fun h => slM d l h) (bnd (dVar 1) fun d => bnd (partM (do2 (dVar 5) (DL.ret (.int 1)) addD)) fun l => bnd (DL.ret none) fun h => slM d l h) addD) fun d => DL.ret (.rt (.d d))) (DL.ret .nx)
def bt8 (C : Addr) : M DL.Fl := ifM (do2 (dVar 6) (DL.ret (.int 1)) fun x y => bnd (eqM x y) asB) (bnd (do2 (bnd (dVar 1) fun d => bnd (DL.ret none) fun l => bnd (partM (do2 (dVar 5) (DL.ret (.int 1)) addD)) fun h => slM d l h) (bnd (dVar 1) fun d => bnd (partM (dVar 5)) fun l => bnd (DL.ret none) fun h => slM d l h) addD) fun d => DL.ret (.rt (.d d))) (DL.ret .nx)
def bt9 (C : Addr) : M DL.Fl := ifM (do2 (dVar 6) (DL.ret (.int 2)) fun x y => bnd (eqM x y) asB) (bnd (do2 (lstM (consM (bnd (consM (dVar 1) (DL.ret [])) (un1 listD)) (consM (turnsM (dVar 1)) (consM (do2 (dVar 1) (tupM (consM (dVar 4) (DL.ret []))) addD) (consM (tupM (consM (dVar 1) (DL.ret []))) (DL.ret [])))))) (bnd (bnd (consO 0 (consD (DL.ret (.int 4)) (DL.ret []))) (callN 2 (f_Ltake C))) resD) ixM) fun d => DL.ret (.rt (.d d))) (DL.ret .nx)
def bt10 (C : Addr) : M DL.Fl := ifM (do2 (dVar 6) (DL.ret (.int 3)) fun x y => bnd (eqM x y) asB) (seqM (thenN (bnd (bnd (bnd (consO 0 (consD (bnd (consM (dVar 1) (DL.ret [])) (un1 lenD)) (DL.ret []))) (callN 2 (f_Ltake C))) resD) (setI 7))) (bnd (do2 (do2 (bnd (dVar 1) fun d => bnd (DL.ret none) fun l => bnd (partM (dVar 5)) fun h => slM d l h) (tupM (consM (do2 (dVar 1) (dVar 7) ixM) (DL.ret []))) addD) (bnd (dVar 1) fun d => bnd (partM (do2 (dVar 5) (DL.ret (.int 1)) addD)) fun l => bnd (DL.ret none) fun h => slM d l h) addD) fun d => DL.ret (.rt (.d d)))) (DL.ret .nx)
def bt11g (F : DF) : M DL.Fl := bnd (do2 (do2 (bnd (dVar 1) fun d => bnd (DL.ret none) fun l => bnd (partM (dVar 5)) fun h => slM d l h) (tupM (consM (bnd (bnd (consO 0 (consD (do2 (dVar 1) (dVar 5) ixM) (consD (do2 (dVar 2) (DL.ret (.int 1)) subD) (DL.ret [])))) (callN 3 F)) resD) (DL.ret []))) addD) (bnd (dVar 1) fun d => bnd (partM (do2 (dVar 5) (DL.ret (.int 1)) addD)) fun l => bnd (DL.ret none) fun h => slM d l h) addD) fun d => DL.ret (.rt (.d d))
def mBt (C : Addr) (F : DF) : M DL.Fl := seqM (bt1 C) (seqM (bt2 C) (seqM (bt3 C) (seqM (bt4 C) (seqM (bt5 C) (seqM (bt6 C) (seqM (bt7 C) (seqM (bt8 C) (seqM (bt9 C) (seqM (bt10 C) (bt11g F))))))))))
def numsL (i : Int) : List D := [.int (i + 1), .int (i - 1), .int (i + 2), .int (i + 1), .str ((toString i : String)), .int (i - 2)]
def oddsL (d : D) : List D := if wholeB d 0 (10 ^ 30) = true then oddL ++ numsL (numI d) else oddL
theorem ten30 : ((10 : Int) ^ (Int.toNat 30)) = 10 ^ 30 := rfl
section
variable (C : Addr) (d : D) (deep : Int) (w : DL.Slot)
theorem bt1_run : Runs (bt1 C) [w, .im d, .im (.int deep), .no, .no, .no, .no, .no] .nx [w, .im d, .im (.int deep), .im (.lst (oddL.take 21)), .no, .no, .no, .no] := fun Q E => by
  have z1 : ((0 : Int) ≤ 30 ∧ (30 : Int) ≤ 1000000 ∧ (10 : Int).natAbs < 2 ^ 64) = True := eq_true (by decide)
  have s21 : (21 ≤ sizeLine) = True := eq_true (by rw [sizeLine_eq]; decide)
  simp only [bt1, z1, s21, true_and, ten30, ↓wpre0, ↓wpre1, ↓wpre2, ↓wpre3, ↓wpre4, ↓wpre5, wpost0, wpost1, ↓inQ, ↓callA, ↓ioAt, ↓putS, ↓isiD, ↓isi0, ↓hallM, Option.map, List.replicate, Nat.reduceAdd, Nat.reduceSub, ↓if_true, ↓if_false, ↓ite_true, ↓ite_false, reduceIte, oldS, forall_const, putX]
  rfl
theorem bt2_run : Runs (bt2 C) [w, .im d, .im (.int deep), .im (.lst (oddL.take 21)), .no, .no, .no, .no] .nx [w, .im d, .im (.int deep), .im (.lst oddL), .no, .no, .no, .no] := fun Q E => by
  have s6 : (6 ≤ sizeLine) = True := eq_true (by rw [sizeLine_eq]; decide)
  have z1 : ((oddL.take 21).length + 6 ≤ sizeLine) = True := eq_true (by rw [sizeLine_eq]; decide)
  simp only [bt2, s6, z1, true_and, ↓wpre0, ↓wpre1, ↓wpre2, ↓wpre3, ↓wpre4, ↓wpre5, wpost0, wpost1, ↓inQ, ↓callA, ↓ioAt, ↓putS, ↓isiD, ↓isi0, ↓hallM, Option.map, List.replicate, Nat.reduceAdd, Nat.reduceSub, ↓if_true, ↓if_false, ↓ite_true, ↓ite_false, reduceIte, oldS, forall_const, putX]
  rfl
theorem bt3_run {n : Nat} (hd : Lv n d) : Runs (bt3 C) [w, .im d, .im (.int deep), .im (.lst oddL), .no, .no, .no, .no] .nx [w, .im d, .im (.int deep), .im (.lst (oddsL d)), .no, .no, .no, .no] := fun Q E => by
  have z1 : ((0 : Int) ≤ 30 ∧ (30 : Int) ≤ 1000000 ∧ (10 : Int).natAbs < 2 ^ 64) = True := eq_true (by decide)
  have pw := fun Q E => p_lwholeA C hd.sh.2.2 0 (10 ^ 30) Q E
  cases z : wholeB d 0 (10 ^ 30) with
  | false =>
    have e : oddsL d = oddL := by unfold oddsL; rw [z]; rfl
    rw [z] at pw
    simp only [e, bt3, z1, true_and, ten30, ↓pw, ↓wpre0, ↓wpre1, ↓wpre2, ↓wpre3, ↓wpre4, ↓wpre5, wpost0, wpost1, ↓inQ, ↓callA, ↓ioAt, ↓putS, ↓isiD, ↓isi0, ↓hallM, Option.map, List.replicate, Nat.reduceAdd, Nat.reduceSub, ↓if_true, ↓if_false, ↓ite_true, ↓ite_false, reduceIte, oldS, forall_const, putX]
  | true =>
    obtain ⟨i, rfl, h1, h2⟩ := whole_int z
    have e : oddsL (.int i) = oddL ++ numsL i := by unfold oddsL; rw [z]; rfl
    rw [z] at pw
    have s6 : (6 ≤ sizeLine) = True := eq_true (by rw [sizeLine_eq]; decide)
    have s7 : (oddL.length + 6 ≤ sizeLine) = True := eq_true (by rw [sizeLine_eq]; decide)
    have hi : i ≤ 40 := by
      cases hd with
      | atom h => simpa [atomB] using (show (decide (-30 ≤ i) && decide (i ≤ 40)) = true from h) |> fun q => by have := of_decide_eq_true (Bool.and_eq_true _ _ |>.mp h).2; exact this
    have lg : (i.natAbs.log2 < 1920) = True := small_log ⟨h1, by omega⟩
    have tx : ∀ env Q E, txtD (.int i) env Q E = Q (.str ((toString i : String))) env := fun env Q E => by
      show (_ ∧ _) = _
      rw [lg, true_and]; rfl
    simp only [e, bt3, z1, true_and, ten30, ↓pw, s6, s7, ↓tx, ↓wpre0, ↓wpre1, ↓wpre2, ↓wpre3, ↓wpre4, ↓wpre5, wpost0, wpost1, ↓inQ, ↓callA, ↓ioAt, ↓putS, ↓isiD, ↓isi0, ↓hallM, Option.map, List.replicate, Nat.reduceAdd, Nat.reduceSub, ↓if_true, ↓if_false, ↓ite_true, ↓ite_false, reduceIte, oldS, forall_const, putX]
    rfl
end
theorem numS_mem {n : Nat} (h : n ≤ 40) : atomB (.str (numS n)) = true := by
  show goodL.any (· == numS n) = true
  refine List.any_eq_true.mpr ⟨numS n, List.mem_append_right _ (List.mem_map.mpr ⟨n, by rw [List.mem_range]; omega, rfl⟩), beq_iff_eq.mpr rfl⟩
theorem odds_bt {n : Nat} {d : D} (hd : Lv n d) {o : D} (h : o ∈ oddsL d) (m : Nat) : Bt m o := by
  unfold oddsL at h
  split at h
  · rename_i z
    obtain ⟨i, rfl, h1, h2⟩ := whole_int z
    have hi : i ≤ 40 := by
      cases hd with
      | atom h => exact of_decide_eq_true ((Bool.and_eq_true _ _).mp h).2
    rcases List.mem_append.mp h with h | h
    · exact .odd h
    · simp only [numsL, numI, List.mem_cons, List.not_mem_nil, or_false] at h
      rcases h with e | e | e | e | e | e
      · rw [e]; exact .num (by omega) (by omega)
      · rw [e]; exact .num (by omega) (by omega)
      · rw [e]; exact .num (by omega) (by omega)
      · rw [e]; exact .num (by omega) (by omega)
      · rw [e]
        refine .plain (.atom ?_)
        have q := numS_mem (n := i.toNat) (by omega)
        unfold numS at q
        rw [show ((i.toNat : Nat) : Int) = i by omega] at q
        exact q
      · rw [e]; exact .num (by omega) (by omega)
  · exact .odd h
theorem odds_len (d : D) : 0 < (oddsL d).length ∧ (oddsL d).length ≤ 40 := by
  unfold oddsL
  split
  · show 0 < (oddL ++ numsL (numI d)).length ∧ (oddL ++ numsL (numI d)).length ≤ 40
    rw [show (oddL ++ numsL (numI d)).length = 33 from rfl]
    exact ⟨by decide, by decide⟩
  · exact ⟨by decide, by decide⟩
theorem ixL_nat {l : List D} {k : Int} (h : 0 ≤ k ∧ k < l.length) : ∃ a, a ∈ l ∧ l[k.toNat]? = some a ∧ ∀ env Q E, ixM (.lst l) (.int k) env Q E = Q a env := by
  have lt : k.toNat < l.length := by omega
  have e : l[k.toNat]? = some l[k.toNat] := List.getElem?_eq_getElem lt
  refine ⟨_, List.mem_of_getElem? e, e, fun env Q E => ?_⟩
  have q := atI_nat e
  rw [show ((k.toNat : Nat) : Int) = k by omega] at q
  unfold ixM
  simp only [q]
  rfl
theorem ixT_nat {l : List D} {k : Int} (h : 0 ≤ k ∧ k < l.length) : ∃ a, l[k.toNat]? = some a ∧ ∀ env Q E, ixM (.tup l) (.int k) env Q E = Q a env := by
  have lt : k.toNat < l.length := by omega
  have e : l[k.toNat]? = some l[k.toNat] := List.getElem?_eq_getElem lt
  refine ⟨_, e, fun env Q E => ?_⟩
  have q := ixM_nat e env Q E
  rw [show ((k.toNat : Nat) : Int) = k by omega] at q
  exact q
/-- up to the odd thing drawn -/
theorem bt_head (C : Addr) {n : Nat} {d : D} (hd : Lv n d) (deep : Int) (p : Pl) : ∃ o p1, (∀ m, Bt m o) ∧ ∀ (x : Addr) (m : M DL.Fl) Q E, seqM (bt1 C) (seqM (bt2 C) (seqM (bt3 C) (seqM (bt4 C) m))) [.io x p.o, .im d, .im (.int deep), .no, .no, .no, .no, .no] Q E = m [.io x (Pl.o p1), .im d, .im (.int deep), .im (.lst (oddsL d)), .im o, .no, .no, .no] Q E := by
  obtain ⟨l1, l2⟩ := odds_len d
  have hw : (0 : Int) < ((oddsL d).length : Nat) := by omega
  have hw2 : (((oddsL d).length : Nat) : Int) < 1073741824 := by omega
  obtain ⟨b1, b2⟩ := p.bd hw
  obtain ⟨o, mo, _, ix⟩ := ixL_nat (l := oddsL d) (k := p.dr ((oddsL d).length : Nat)) ⟨b1, b2⟩
  refine ⟨o, p.st ((oddsL d).length : Nat), fun m => odds_bt hd mo m, fun x m Q E => ?_⟩
  have tk := fun Q E => p_tk C x p ((oddsL d).length : Nat) hw hw2 Q E
  rw [seq_run (bt1_run C d deep (.io x p.o)), seq_run (bt2_run C d deep (.io x p.o)), seq_run (bt3_run C d deep (.io x p.o) hd)]
  refine seq_run (fun Q E => ?_) Q E
  simp only [bt4, ↓tk, ↓ix, ↓wpre0, ↓wpre1, ↓wpre2, ↓wpre3, ↓wpre4, ↓wpre5, wpost0, wpost1, ↓inQ, ↓callA, ↓ioAt, ↓putS, ↓isiD, ↓isi0, ↓hallM, Option.map, List.replicate, Nat.reduceAdd, Nat.reduceSub, ↓if_true, ↓if_false, ↓ite_true, ↓ite_false, reduceIte, oldS, forall_const, putX]
end DLP
set_option Elab.async false
set_option linter.all false
set_option maxRecDepth 100000
set_option maxHeartbeats 4000000
namespace DLP
open PySem PySem.Spec PyProof.Rows L2 DL MW
theorem set_cutD {ds : List D} {a : Nat} (ha : a < ds.length) (y : D) : ds.take a ++ [y] ++ ds.drop (a + 1) = ds.set a y := by
  rw [List.set_eq_take_append_cons_drop, if_pos ha, List.append_assoc]; rfl
section
variable (C : Addr) (ds : List D) (hl : ds.length ≤ 26) (deep : Int) (ol o : D) (a : Nat) (ha : a < ds.length)
theorem cut1 : cutL ds none (some ((a : Nat) : Int)) = ds.take a := by rw [cut_take _ (by omega), Int.toNat_natCast]
theorem cut2 : cutL ds (some (((a : Nat) : Int) + 1)) none = ds.drop (a + 1) := by rw [cut_drop _ (by omega)]; congr 1
theorem cut3 : cutL ds none (some (((a : Nat) : Int) + 1)) = ds.take (a + 1) := by rw [cut_take _ (by omega)]; congr 1
theorem cut4 : cutL ds (some ((a : Nat) : Int)) none = ds.drop a := by rw [cut_drop _ (by omega), Int.toNat_natCast]
theorem szT {n : Nat} (h : n ≤ 1000) : (n ≤ sizeLine) = True := eq_true (by rw [sizeLine_eq]; omega)
theorem ii_ne {m k : Int} (h : m ≠ k) : (m == k) = false := beq_eq_false_iff_ne.mpr h
theorem bt7_no (v7 : DL.Slot) (w : DL.Slot) {m : Int} (h : m ≠ 0) : Runs (bt7 C) [w, .im (.tup ds), .im (.int deep), .im ol, .im o, .im (.int (a : Nat)), .im (.int m), v7] .nx [w, .im (.tup ds), .im (.int deep), .im ol, .im o, .im (.int (a : Nat)), .im (.int m), v7] := fun Q E => by
  simp only [bt7, ii_ne h, ↓wpre0, ↓wpre1, ↓wpre2, ↓wpre3, ↓wpre4, ↓wpre5, wpost0, wpost1, ↓inQ, ↓callA, ↓ioAt, ↓putS, ↓isiD, ↓isi0, ↓hallM, Option.map, List.replicate, Nat.reduceAdd, Nat.reduceSub, ↓if_true, ↓if_false, ↓ite_true, ↓ite_false, reduceIte, oldS, forall_const, putX]
theorem bt8_no (v7 : DL.Slot) (w : DL.Slot) {m : Int} (h : m ≠ 1) : Runs (bt8 C) [w, .im (.tup ds), .im (.int deep), .im ol, .im o, .im (.int (a : Nat)), .im (.int m), v7] .nx [w, .im (.tup ds), .im (.int deep), .im ol, .im o, .im (.int (a : Nat)), .im (.int m), v7] := fun Q E => by
  simp only [bt8, ii_ne h, ↓wpre0, ↓wpre1, ↓wpre2, ↓wpre3, ↓wpre4, ↓wpre5, wpost0, wpost1, ↓inQ, ↓callA, ↓ioAt, ↓putS, ↓isiD, ↓isi0, ↓hallM, Option.map, List.replicate, Nat.reduceAdd, Nat.reduceSub, ↓if_true, ↓if_false, ↓ite_true, ↓ite_false, reduceIte, oldS, forall_const, putX]
theorem bt9_no (v7 : DL.Slot) (w : DL.Slot) {m : Int} (h : m ≠ 2) : Runs (bt9 C) [w, .im (.tup ds), .im (.int deep), .im ol, .im o, .im (.int (a : Nat)), .im (.int m), v7] .nx [w, .im (.tup ds), .im (.int deep), .im ol, .im o, .im (.int (a : Nat)), .im (.int m), v7] := fun Q E => by
  simp only [bt9, ii_ne h, ↓wpre0, ↓wpre1, ↓wpre2, ↓wpre3, ↓wpre4, ↓wpre5, wpost0, wpost1, ↓inQ, ↓callA, ↓ioAt, ↓putS, ↓isiD, ↓isi0, ↓hallM, Option.map, List.replicate, Nat.reduceAdd, Nat.reduceSub, ↓if_true, ↓if_false, ↓ite_true, ↓ite_false, reduceIte, oldS, forall_const, putX]
theorem bt10_no (v7 : DL.Slot) (w : DL.Slot) {m : Int} (h : m ≠ 3) : Runs (bt10 C) [w, .im (.tup ds), .im (.int deep), .im ol, .im o, .im (.int (a : Nat)), .im (.int m), v7] .nx [w, .im (.tup ds), .im (.int deep), .im ol, .im o, .im (.int (a : Nat)), .im (.int m), v7] := fun Q E => by
  simp only [bt10, ii_ne h, ↓wpre0, ↓wpre1, ↓wpre2, ↓wpre3, ↓wpre4, ↓wpre5, wpost0, wpost1, ↓inQ, ↓callA, ↓ioAt, ↓putS, ↓isiD, ↓isi0, ↓hallM, Option.map, List.replicate, Nat.reduceAdd, Nat.reduceSub, ↓if_true, ↓if_false, ↓ite_true, ↓ite_false, reduceIte, oldS, forall_const, putX]
include hl
theorem bt7_yes (v7 : DL.Slot) (w : DL.Slot) (Q E) : bt7 C [w, .im (.tup ds), .im (.int deep), .im ol, .im o, .im (.int (a : Nat)), .im (.int 0), v7] Q E = Q (.rt (.d (.tup (ds.take a ++ ds.drop (a + 1))))) [w, .im (.tup ds), .im (.int deep), .im ol, .im o, .im (.int (a : Nat)), .im (.int 0), v7] := by
  have c1 := cut1 ds a
  have c2 := cut2 ds a
  have z := szT (n := (ds.take a).length + (ds.drop (a + 1)).length) (by rw [List.length_take, List.length_drop]; omega)
  have e0 : ((0 : Int) == 0) = true := rfl
  simp only [bt7, e0, c1, c2, z, true_and, ↓wpre0, ↓wpre1, ↓wpre2, ↓wpre3, ↓wpre4, ↓wpre5, wpost0, wpost1, ↓inQ, ↓callA, ↓ioAt, ↓putS, ↓isiD, ↓isi0, ↓hallM, Option.map, List.replicate, Nat.reduceAdd, Nat.reduceSub, ↓if_true, ↓if_false, ↓ite_true, ↓ite_false, reduceIte, oldS, forall_const, putX]
theorem bt8_yes (v7 : DL.Slot) (w : DL.Slot) (Q E) : bt8 C [w, .im (.tup ds), .im (.int deep), .im ol, .im o, .im (.int (a : Nat)), .im (.int 1), v7] Q E = Q (.rt (.d (.tup (ds.take (a + 1) ++ ds.drop a)))) [w, .im (.tup ds), .im (.int deep), .im ol, .im o, .im (.int (a : Nat)), .im (.int 1), v7] := by
  have c1 := cut3 ds a
  have c2 := cut4 ds a
  have z := szT (n := (ds.take (a + 1)).length + (ds.drop a).length) (by rw [List.length_take, List.length_drop]; omega)
  have e0 : ((1 : Int) == 1) = true := rfl
  simp only [bt8, e0, c1, c2, z, true_and, ↓wpre0, ↓wpre1, ↓wpre2, ↓wpre3, ↓wpre4, ↓wpre5, wpost0, wpost1, ↓inQ, ↓callA, ↓ioAt, ↓putS, ↓isiD, ↓isi0, ↓hallM, Option.map, List.replicate, Nat.reduceAdd, Nat.reduceSub, ↓if_true, ↓if_false, ↓ite_true, ↓ite_false, reduceIte, oldS, forall_const, putX]
def four (ds : List D) (o : D) : List D := [.lst ds, .tup ds.reverse, .tup (ds ++ [o]), .tup [.tup ds]]
theorem bt9_yes (p : Pl) : ∃ r, r ∈ four ds o ∧ ∀ (x : Addr) (v7 : DL.Slot) Q E, bt9 C [.io x p.o, .im (.tup ds), .im (.int deep), .im ol, .im o, .im (.int (a : Nat)), .im (.int 2), v7] Q E = Q (.rt (.d r)) [.io x (p.st 4).o, .im (.tup ds), .im (.int deep), .im ol, .im o, .im (.int (a : Nat)), .im (.int 2), v7] := by
  obtain ⟨b1, b2⟩ := p.bd (show (0 : Int) < 4 by decide)
  obtain ⟨r, mr, _, ix⟩ := ixL_nat (l := four ds o) (k := p.dr 4) ⟨b1, b2⟩
  refine ⟨r, mr, fun x v7 Q E => ?_⟩
  have tk := fun Q E => p_tk C x p 4 (by decide) (by decide) Q E
  have z := szT (n := ds.length + 1) (by omega)
  have z0 := szT (n := ds.length) (by omega)
  have z4 := szT (n := 4) (by omega)
  have z1 := szT (n := 1) (by omega)
  have e0 : ((2 : Int) == 2) = true := rfl
  have tn : ∀ env Q E, turnD (.tup ds) env Q E = Q (.tup ds.reverse) env := fun env Q E => by
    show (_ ∧ _) = _
    rw [z0, true_and]; rfl
  have ix' : ∀ env Q E, ixM (.lst [.lst ds, .tup ds.reverse, .tup (ds ++ [o]), .tup [.tup ds]]) (.int (p.dr 4)) env Q E = Q r env := ix
  have ls : ∀ env Q E, listD (.tup ds) env Q E = Q (.lst ds) env := fun _ _ _ => rfl
  simp only [bt9, ↓turnsM, ↓tn, ↓ls, e0, z, z0, z1, z4, true_and, ↓tk, ↓ix', ↓wpre0, ↓wpre1, ↓wpre2, ↓wpre3, ↓wpre4, ↓wpre5, wpost0, wpost1, ↓inQ, ↓callA, ↓ioAt, ↓putS, ↓isiD, ↓isi0, ↓hallM, Option.map, List.replicate, Nat.reduceAdd, Nat.reduceSub, ↓if_true, ↓if_false, ↓ite_true, ↓ite_false, reduceIte, oldS, forall_const, putX]
include ha
theorem bt10_yes (p : Pl) : ∃ y, y ∈ ds ∧ ∀ (x : Addr) (Q E), ∃ v7, bt10 C [.io x p.o, .im (.tup ds), .im (.int deep), .im ol, .im o, .im (.int (a : Nat)), .im (.int 3), .no] Q E = Q (.rt (.d (.tup (ds.set a y)))) [.io x (p.st (ds.length : Nat)).o, .im (.tup ds), .im (.int deep), .im ol, .im o, .im (.int (a : Nat)), .im (.int 3), v7] := by
  have hw : (0 : Int) < ((ds.length : Nat) : Int) := by omega
  obtain ⟨b1, b2⟩ := p.bd hw
  obtain ⟨y, ey, ix⟩ := ixT_nat (l := ds) (k := p.dr (ds.length : Nat)) ⟨b1, b2⟩
  refine ⟨y, List.mem_of_getElem? ey, fun x Q E => ⟨.im (.int (p.dr (ds.length : Nat))), ?_⟩⟩
  have tk := fun Q E => p_tk C x p (ds.length : Nat) hw (by omega) Q E
  have c1 := cut1 ds a
  have c2 := cut2 ds a
  have z1 := szT (n := 1) (by omega)
  have z2 := szT (n := (ds.take a).length + 1) (by rw [List.length_take]; omega)
  have z3 := szT (n := (ds.take a ++ [y]).length + (ds.drop (a + 1)).length) (by rw [List.length_append, List.length_take, List.length_drop, List.length_singleton]; omega)
  have e0 : ((3 : Int) == 3) = true := rfl
  have sc := set_cutD ha y
  simp only [bt10, e0, ↓tk, ↓ix, c1, c2, z1, z2, z3, sc, true_and, ↓wpre0, ↓wpre1, ↓wpre2, ↓wpre3, ↓wpre4, ↓wpre5, wpost0, wpost1, ↓inQ, ↓callA, ↓ioAt, ↓putS, ↓isiD, ↓isi0, ↓hallM, Option.map, List.replicate, Nat.reduceAdd, Nat.reduceSub, ↓if_true, ↓if_false, ↓ite_true, ↓ite_false, reduceIte, oldS, forall_const, putX]
theorem bt11_run (F : DF) {p p' : Pl} {y r : D} (ey : ds[a]? = some y) (hF : ∀ (x : Addr) Q E, F [.io x p.o, .im y, .im (.int (deep - 1))] Q E = Q (.d r) [.io x p'.o, .im y, .im (.int (deep - 1))]) (x : Addr) (v6 v7 : DL.Slot) (Q E) : bt11g F [.io x p.o, .im (.tup ds), .im (.int deep), .im ol, .im o, .im (.int (a : Nat)), v6, v7] Q E = Q (.rt (.d (.tup (ds.set a r)))) [.io x p'.o, .im (.tup ds), .im (.int deep), .im ol, .im o, .im (.int (a : Nat)), v6, v7] := by
  have ix : ∀ env Q E, ixM (.tup ds) (.int ((a : Nat) : Int)) env Q E = Q y env := fun env Q E => ixM_nat ey env Q E
  have hf := fun Q E => hF x Q E
  have c1 := cut1 ds a
  have c2 := cut2 ds a
  have z1 := szT (n := 1) (by omega)
  have z2 := szT (n := (ds.take a).length + 1) (by rw [List.length_take]; omega)
  have z3 := szT (n := (ds.take a ++ [r]).length + (ds.drop (a + 1)).length) (by rw [List.length_append, List.length_take, List.length_drop, List.length_singleton]; omega)
  have sc := set_cutD ha r
  simp only [bt11g, ↓ix, ↓hf, c1, c2, z1, z2, z3, sc, true_and, ↓wpre0, ↓wpre1, ↓wpre2, ↓wpre3, ↓wpre4, ↓wpre5, wpost0, wpost1, ↓inQ, ↓callA, ↓ioAt, ↓putS, ↓isiD, ↓isi0, ↓hallM, Option.map, List.replicate, Nat.reduceAdd, Nat.reduceSub, ↓if_true, ↓if_false, ↓ite_true, ↓ite_false, reduceIte, oldS, forall_const, putX]
end
end DLP
set_option Elab.async false
set_option linter.all false
set_option maxRecDepth 100000
set_option maxHeartbeats 4000000
namespace DLP
open PySem PySem.Spec PyProof.Rows L2 DL MW
theorem plain_bt {n : Nat} {es : List D} (hl : es.length ≤ 27) (h : ∀ x ∈ es, Lv n x) : Bt (n + 1) (.tup es) :=
  .at_ es.length hl (fun i x e _ => h x (List.mem_of_getElem? e)) fun x e => absurd (List.getElem?_eq_some_iff.mp e).1 (Nat.lt_irrefl _)
theorem set_bt {n : Nat} {ds : List D} (hl : ds.length ≤ 26) (h : ∀ x ∈ ds, Lv n x) {a : Nat} (ha : a < ds.length) {r : D} (hr : Bt n r) : Bt (n + 1) (.tup (ds.set a r)) := by
  refine .at_ a (by rw [List.length_set]; omega) (fun i x e ne => ?_) fun x e => ?_
  · rw [List.getElem?_set_ne (Ne.symm ne)] at e
    exact h x (List.mem_of_getElem? e)
  · rw [List.getElem?_set_self ha] at e
    cases e; exact hr
theorem four_bt {n : Nat} {ds : List D} (hl : ds.length ≤ 26) (h : ∀ x ∈ ds, Lv n x) {o : D} (ho : Bt n o) {r : D} (hr : r ∈ four ds o) : Bt (n + 1) r := by
  simp only [four, List.mem_cons, List.not_mem_nil, or_false] at hr
  rcases hr with e | e | e | e
  · rw [e]; exact .lst (by omega) h
  · rw [e]; exact plain_bt (by rw [List.length_reverse]; omega) fun x hx => h x (List.mem_reverse.mp hx)
  · rw [e]
    refine .at_ ds.length (by rw [List.length_append, List.length_singleton]; omega) (fun i x e ne => ?_) fun x e => ?_
    · have lt := (List.getElem?_eq_some_iff.mp e).1
      rw [List.length_append, List.length_singleton] at lt
      rw [List.getElem?_append_left (by omega)] at e
      exact h x (List.mem_of_getElem? e)
    · rw [List.getElem?_append_right (Nat.le_refl _), Nat.sub_self] at e
      cases e; exact ho
  · rw [e]; exact .wrap (.tup hl h)
section
variable (C : Addr) (F : DF) (deep : Int)
/-- the odd thing itself -/
theorem bt5_o {d : D} (hd : kdA d = true) (h : deep = 0 ∨ isTup d = false ∨ d = .tup []) (w ol o : D) (p : Pl) (x : Addr) (Q E) : bt5 C [.io x p.o, .im d, .im (.int deep), .im ol, .im o, .no, .no, .no] Q E = Q (.rt (.d o)) [.io x p.o, .im d, .im (.int deep), .im ol, .im o, .no, .no, .no] := by
  by_cases h0 : deep = 0
  · have e0 : (deep == 0) = true := beq_iff_eq.mpr h0
    simp only [bt5, e0, ↓wpre0, ↓wpre1, ↓wpre2, ↓wpre3, ↓wpre4, ↓wpre5, wpost0, wpost1, ↓inQ, ↓callA, ↓ioAt, ↓putS, ↓isiD, ↓isi0, ↓hallM, Option.map, List.replicate, Nat.reduceAdd, Nat.reduceSub, ↓if_true, ↓if_false, ↓ite_true, ↓ite_false, reduceIte, oldS, forall_const, putX]
  · have e0 : (deep == 0) = false := ii_ne h0
    rcases h with h | h | h
    · exact absurd h h0
    · have it := fun env Q E => isi_tup hd env Q E
      rw [h] at it
      simp only [bt5, e0, ↓it, ↓wpre0, ↓wpre1, ↓wpre2, ↓wpre3, ↓wpre4, ↓wpre5, wpost0, wpost1, ↓inQ, ↓callA, ↓ioAt, ↓putS, ↓isiD, ↓hallM, Option.map, List.replicate, Nat.reduceAdd, Nat.reduceSub, ↓if_true, ↓if_false, ↓ite_true, ↓ite_false, reduceIte, oldS, forall_const, putX]
    · subst h
      have q : ∀ env Q E, eqQ (.tup []) (.tup []) env Q E = Q (.bl true) env := fun _ _ _ => rfl
      simp only [bt5, e0, ↓q, ↓wpre0, ↓wpre1, ↓wpre2, ↓wpre3, ↓wpre4, ↓wpre5, wpost0, wpost1, ↓inQ, ↓callA, ↓ioAt, ↓putS, ↓isiD, ↓isi0, ↓hallM, Option.map, List.replicate, Nat.reduceAdd, Nat.reduceSub, ↓if_true, ↓if_false, ↓ite_true, ↓ite_false, reduceIte, oldS, forall_const, putX]
theorem bt5_d (h0 : deep ≠ 0) {ds : List D} (hn : ds ≠ []) (ol o : D) (p : Pl) : (p.dr 6 = 0 ∧ ∀ (x : Addr) Q E, bt5 C [.io x p.o, .im (.tup ds), .im (.int deep), .im ol, .im o, .no, .no, .no] Q E = Q (.rt (.d o)) [.io x (p.st 6).o, .im (.tup ds), .im (.int deep), .im ol, .im o, .no, .no, .no]) ∨
    ∀ (x : Addr), Runs (bt5 C) [.io x p.o, .im (.tup ds), .im (.int deep), .im ol, .im o, .no, .no, .no] .nx [.io x (p.st 6).o, .im (.tup ds), .im (.int deep), .im ol, .im o, .no, .no, .no] := by
  have e0 : (deep == 0) = false := ii_ne h0
  have q : ∀ env Q E, eqQ (.tup ds) (.tup []) env Q E = Q (.bl false) env := fun env Q E => by
    cases ds with
    | nil => exact absurd rfl hn
    | cons _ _ => rfl
  have tk := fun x Q E => p_tk C x p 6 (by decide) (by decide) Q E
  by_cases z : p.dr 6 = 0
  · refine .inl ⟨z, fun x Q E => ?_⟩
    have e1 : (p.dr 6 == 0) = true := beq_iff_eq.mpr z
    simp only [bt5, e0, ↓q, ↓tk, e1, ↓wpre0, ↓wpre1, ↓wpre2, ↓wpre3, ↓wpre4, ↓wpre5, wpost0, wpost1, ↓inQ, ↓callA, ↓ioAt, ↓putS, ↓isiD, ↓isi0, ↓hallM, Option.map, List.replicate, Nat.reduceAdd, Nat.reduceSub, ↓if_true, ↓if_false, ↓ite_true, ↓ite_false, reduceIte, oldS, forall_const, putX]
  · refine .inr fun x Q E => ?_
    have e1 : (p.dr 6 == 0) = false := ii_ne z
    simp only [bt5, e0, ↓q, ↓tk, e1, ↓wpre0, ↓wpre1, ↓wpre2, ↓wpre3, ↓wpre4, ↓wpre5, wpost0, wpost1, ↓inQ, ↓callA, ↓ioAt, ↓putS, ↓isiD, ↓isi0, ↓hallM, Option.map, List.replicate, Nat.reduceAdd, Nat.reduceSub, ↓if_true, ↓if_false, ↓ite_true, ↓ite_false, reduceIte, oldS, forall_const, putX]
theorem bt6_run {ds : List D} (hn : ds ≠ []) (hl : ds.length ≤ 26) (ol o : D) (p : Pl) : ∃ (a : Nat) (m : Int) (p' : Pl), a < ds.length ∧ 0 ≤ m ∧ ∀ (x : Addr), Runs (bt6 C) [.io x p.o, .im (.tup ds), .im (.int deep), .im ol, .im o, .no, .no, .no] .nx [.io x p'.o, .im (.tup ds), .im (.int deep), .im ol, .im o, .im (.int (a : Nat)), .im (.int m), .no] := by
  have hp : 0 < ds.length := List.length_pos_iff.mpr hn
  have hw : (0 : Int) < ((ds.length : Nat) : Int) := by omega
  obtain ⟨b1, b2⟩ := p.bd hw
  obtain ⟨c1, c2⟩ := (p.st (ds.length : Nat)).bd (show (0 : Int) < 9 by decide)
  refine ⟨(p.dr (ds.length : Nat)).toNat, (p.st (ds.length : Nat)).dr 9, (p.st (ds.length : Nat)).st 9, by omega, c1, fun x Q E => ?_⟩
  have e : (((p.dr (ds.length : Nat)).toNat : Nat) : Int) = p.dr (ds.length : Nat) := by omega
  rw [e]
  have t1 := fun Q E => p_tk C x p (ds.length : Nat) hw (by omega) Q E
  have t2 := fun Q E => p_tk C x (p.st (ds.length : Nat)) 9 (by decide) (by decide) Q E
  simp only [bt6, ↓t1, ↓t2, ↓wpre0, ↓wpre1, ↓wpre2, ↓wpre3, ↓wpre4, ↓wpre5, wpost0, wpost1, ↓inQ, ↓callA, ↓ioAt, ↓putS, ↓isiD, ↓isi0, ↓hallM, Option.map, List.replicate, Nat.reduceAdd, Nat.reduceSub, ↓if_true, ↓if_false, ↓ite_true, ↓ite_false, reduceIte, oldS, forall_const, putX]
theorem bent_run (hF : deep ≠ 0 → ∀ (n : Nat) (d : D), Lv n d → ∀ p : Pl, ∃ (r : D) (p' : Pl), Bt n r ∧ ∀ (x : Addr) Q E, F [.io x p.o, .im d, .im (.int (deep - 1))] Q E = Q (.d r) [.io x p'.o, .im d, .im (.int (deep - 1))])
    {n : Nat} {d : D} (hd : Lv n d) (p : Pl) : ∃ (r : D) (p' : Pl), Bt n r ∧ ∀ (x : Addr) Q E, ∃ t, mBt C F [.io x p.o, .im d, .im (.int deep), .no, .no, .no, .no, .no] Q E = Q (.rt (.d r)) (.io x p'.o :: .im d :: .im (.int deep) :: t) := by
  obtain ⟨o, p1, ho, hh⟩ := bt_head C hd deep p
  by_cases s : deep = 0 ∨ isTup d = false ∨ d = .tup []
  · refine ⟨o, p1, ho n, fun x Q E => ⟨[.im (.lst (oddsL d)), .im o, .no, .no, .no], ?_⟩⟩
    rw [mBt, hh, seq_ap, bt5_o C deep hd.sh.2.2 s .non (.lst (oddsL d)) o p1 x]
    rfl
  · have h0 : deep ≠ 0 := fun z => s (.inl z)
    have ht : isTup d = true := by cases q : isTup d with | true => rfl | false => exact absurd (.inr (.inl q)) s
    cases d with
    | tup ds =>
      have hn : ds ≠ [] := fun z => s (.inr (.inr (by rw [z])))
      cases hd with
      | atom h => cases h
      | tup hl hx =>
        rename_i n
        rcases bt5_d C deep h0 hn (.lst (oddsL (.tup ds))) o p1 with ⟨_, b5⟩ | b5
        · refine ⟨o, p1.st 6, ho _, fun x Q E => ⟨[.im (.lst (oddsL (.tup ds))), .im o, .no, .no, .no], ?_⟩⟩
          rw [mBt, hh, seq_ap, b5]
          rfl
        · obtain ⟨a, m, p2, ha, hm, b6⟩ := bt6_run C deep hn hl (.lst (oddsL (.tup ds))) o (p1.st 6)
          have go : ∀ (x : Addr) (Q E), mBt C F [.io x p.o, .im (.tup ds), .im (.int deep), .no, .no, .no, .no, .no] Q E = seqM (bt7 C) (seqM (bt8 C) (seqM (bt9 C) (seqM (bt10 C) (bt11g F)))) [.io x p2.o, .im (.tup ds), .im (.int deep), .im (.lst (oddsL (.tup ds))), .im o, .im (.int (a : Nat)), .im (.int m), .no] Q E := fun x Q E => by
            rw [mBt, hh, seq_run (b5 x), seq_run (b6 x)]
          by_cases m0 : m = 0
          · subst m0
            refine ⟨.tup (ds.take a ++ ds.drop (a + 1)), p2, plain_bt (by rw [List.length_append, List.length_take, List.length_drop]; omega) fun x h => hx x ?_, fun x Q E => ⟨[.im (.lst (oddsL (.tup ds))), .im o, .im (.int (a : Nat)), .im (.int 0), .no], ?_⟩⟩
            · exact (List.mem_append.mp h).elim List.mem_of_mem_take List.mem_of_mem_drop
            · rw [go, seq_ap, bt7_yes C ds hl deep]
              rfl
          by_cases m1 : m = 1
          · subst m1
            refine ⟨.tup (ds.take (a + 1) ++ ds.drop a), p2, plain_bt (by rw [List.length_append, List.length_take, List.length_drop]; omega) fun x h => hx x ?_, fun x Q E => ⟨[.im (.lst (oddsL (.tup ds))), .im o, .im (.int (a : Nat)), .im (.int 1), .no], ?_⟩⟩
            · exact (List.mem_append.mp h).elim List.mem_of_mem_take List.mem_of_mem_drop
            · rw [go, seq_run (bt7_no C ds deep _ o a _ _ m0), seq_ap, bt8_yes C ds hl deep]
              rfl
          by_cases m2 : m = 2
          · subst m2
            obtain ⟨r, mr, b9⟩ := bt9_yes C ds hl deep (.lst (oddsL (.tup ds))) o a p2
            refine ⟨r, p2.st 4, four_bt hl hx (ho n) mr, fun x Q E => ⟨[.im (.lst (oddsL (.tup ds))), .im o, .im (.int (a : Nat)), .im (.int 2), .no], ?_⟩⟩
            rw [go, seq_run (bt7_no C ds deep _ o a _ _ m0), seq_run (bt8_no C ds deep _ o a _ _ m1), seq_ap, b9]
            rfl
          by_cases m3 : m = 3
          · subst m3
            obtain ⟨y, my, b10⟩ := bt10_yes C ds hl deep (.lst (oddsL (.tup ds))) o a ha p2
            refine ⟨.tup (ds.set a y), p2.st (ds.length : Nat), set_bt hl hx ha (.plain (hx y my)), fun x Q E => ?_⟩
            rw [go, seq_run (bt7_no C ds deep _ o a _ _ m0), seq_run (bt8_no C ds deep _ o a _ _ m1), seq_run (bt9_no C ds deep _ o a _ _ m2), seq_ap]
            obtain ⟨v7, e⟩ := b10 x (fun f e => seqK (bt11g F) f e Q E) E
            exact ⟨[.im (.lst (oddsL (.tup ds))), .im o, .im (.int (a : Nat)), .im (.int 3), v7], e⟩
          · have ey : ds[a]? = some ds[a] := List.getElem?_eq_getElem ha
            obtain ⟨r, p', hr, hf⟩ := hF h0 n ds[a] (hx _ (List.getElem_mem ha)) p2
            refine ⟨.tup (ds.set a r), p', set_bt hl hx ha hr, fun x Q E => ⟨[.im (.lst (oddsL (.tup ds))), .im o, .im (.int (a : Nat)), .im (.int m), .no], ?_⟩⟩
            rw [go, seq_run (bt7_no C ds deep _ o a _ _ m0), seq_run (bt8_no C ds deep _ o a _ _ m1), seq_run (bt9_no C ds deep _ o a _ _ m2), seq_run (bt10_no C ds deep _ o a _ _ m3), bt11_run ds hl deep (.lst (oddsL (.tup ds))) o a ha F ey hf]
    | _ => cases ht
theorem bent_def (hF : deep ≠ 0 → ∀ (n : Nat) (d : D), Lv n d → ∀ p : Pl, ∃ (r : D) (p' : Pl), Bt n r ∧ ∀ (x : Addr) Q E, F [.io x p.o, .im d, .im (.int (deep - 1))] Q E = Q (.d r) [.io x p'.o, .im d, .im (.int (deep - 1))])
    (n : Nat) (d : D) (hd : Lv n d) (p : Pl) : ∃ (r : D) (p' : Pl), Bt n r ∧ ∀ (x : Addr) Q E, defM 8 (mBt C F) [.io x p.o, .im d, .im (.int deep)] Q E = Q (.d r) [.io x p'.o, .im d, .im (.int deep)] := by
  obtain ⟨r, p', hr, run⟩ := bent_run C F deep hF hd p
  refine ⟨r, p', hr, fun x Q E => ?_⟩
  have e : ∀ K X, ∃ t, mBt C F [.io x p.o, .im d, .im (.int deep), .no, .no, .no, .no, .no] K X = K (.rt (.d r)) (.io x p'.o :: .im d :: .im (.int deep) :: t) := run x
  simp only [↓wpre0, ↓wpre1, ↓wpre2, ↓wpre3, ↓wpre4, ↓wpre5, wpost0, wpost1, ↓inQ, ↓callA, ↓ioAt, ↓putS, ↓isiD, ↓isi0, ↓hallM, Option.map, List.replicate, Nat.reduceAdd, Nat.reduceSub, ↓if_true, ↓if_false, ↓ite_true, ↓ite_false, reduceIte, oldS, forall_const, putX]
  obtain ⟨t, q⟩ := e _ _
  rw [q]
  simp only [finA, true_and]
end
theorem p_bent (C : Addr) {n : Nat} {d : D} (hd : Lv n d) (p : Pl) : ∃ (r : D) (p' : Pl), Bt n r ∧ ∀ (x : Addr) Q E, f_Lbentr3 C [.io x p.o, .im d, .im (.int 3)] Q E = Q (.d r) [.io x p'.o, .im d, .im (.int 3)] := by
  have h0 := bent_def C neverF 0 fun z => absurd rfl z
  have h1 := bent_def C (f_Lbentr0 C) 1 fun _ => h0
  have h2 := bent_def C (f_Lbentr1 C) 2 fun _ => h1
  exact bent_def C (f_Lbentr2 C) 3 (fun _ => h2) n d hd p
end DLP
set_option Elab.async false
set_option linter.all false
set_option maxRecDepth 100000
set_option maxHeartbeats 4000000
namespace DLP
open PySem PySem.Spec PyProof.Rows L2 DL MW
theorem seen_any (C : Addr) {g s : Int} {st : Sd} (S : Stand g s st) (x0 : Int) : ∀ (n : Nat) (acc : List Int) (y : Int), acc.Nodup → (∀ i ∈ acc, 0 ≤ i ∧ i < g) → (0 ≤ y ∧ y < g) → acc.length + n = 25 → ∃ (a : List Int) (z : Int), a.length ≤ 24 ∧ (∀ i ∈ a, 0 ≤ i ∧ i < g) ∧ (0 ≤ z ∧ z < g) ∧ ∀ Q E,
    whileM (w_Lseen_2 C) (b_Lseen_1 C) [.im (stD st), .im (.int x0), .ow (.lst ((acc ++ [y]).map .int))] Q E = Q .nx [.im (stD st), .im (.int x0), .ow (.lst ((a ++ [z]).map .int))] := by
  intro n
  induction n with
  | zero =>
    intro acc y nd ha hy hn
    have := nodup_len nd fun i hi => nums_mem.mpr (ha i hi)
    rw [nums_len] at this
    have := S.hg
    omega
  | succ n ih =>
    intro acc y nd ha hy hn
    have la : acc.length ≤ 24 := by
      have := nodup_len nd fun i hi => nums_mem.mpr (ha i hi)
      rw [nums_len] at this
      have := S.hg
      omega
    have cu : cutL ((acc ++ [y]).map D.int) none (some (-1)) = acc.map D.int := by rw [cut_m1, ← List.map_dropLast, List.dropLast_concat]
    have nn := fun env Q E => nin_ints y acc env Q E
    cases hv : hold st y with
    | none =>
      refine ⟨acc, y, la, ha, hy, fun Q E => while_end (fun Q E => ?_) Q E⟩
      simp only [↓w_Lseen_2, stD, ↓oixM, ↓ixL, last_ints, ↓inM_st, hv, Option.isSome_none, ↓wpre0, ↓wpre1, ↓wpre2, ↓wpre3, ↓wpre4, ↓wpre5, wpost0, wpost1, ↓inQ, ↓callA, ↓ioAt, ↓putS, ↓isiD, ↓isi0, ↓hallM, Option.map, List.replicate, Nat.reduceAdd, Nat.reduceSub, ↓if_true, ↓if_false, ↓ite_true, ↓ite_false, reduceIte, oldS, forall_const, putX]
    | some h =>
      have hh := (S.bound (hold_some hv)).1
      by_cases hm : y ∈ acc
      · have d1 : decide (y ∈ acc) = true := decide_eq_true hm
        refine ⟨acc, y, la, ha, hy, fun Q E => while_end (fun Q E => ?_) Q E⟩
        simp only [↓w_Lseen_2, stD, ↓oixM, ↓ixL, last_ints, ↓inM_st, hv, Option.isSome_some, cu, ↓nn, d1, Bool.not_true, ↓wpre0, ↓wpre1, ↓wpre2, ↓wpre3, ↓wpre4, ↓wpre5, wpost0, wpost1, ↓inQ, ↓callA, ↓ioAt, ↓putS, ↓isiD, ↓isi0, ↓hallM, Option.map, List.replicate, Nat.reduceAdd, Nat.reduceSub, ↓if_true, ↓if_false, ↓ite_true, ↓ite_false, reduceIte, oldS, forall_const, putX]
      · have d1 : decide (y ∈ acc) = false := decide_eq_false hm
        have z : ((acc ++ [y]).map D.int).length < sizeLine := by rw [List.length_map, List.length_append, List.length_cons, List.length_nil, sizeLine_eq]; omega
        obtain ⟨a, e, q1, q2, q3, run⟩ := ih (acc ++ [y]) h (List.nodup_append.mpr ⟨nd, by simp, fun i hi j hj => by rw [List.mem_singleton.mp hj]; exact fun w => hm (w ▸ hi)⟩) (fun i hi => (List.mem_append.mp hi).elim (ha i) fun w => by rw [List.mem_singleton.mp w]; exact hy) hh (by rw [List.length_append, List.length_singleton]; omega)
        refine ⟨a, e, q1, q2, q3, fun Q E => ?_⟩
        rw [while_step (e1 := [.im (stD st), .im (.int x0), .ow (.lst ((acc ++ [y]).map .int))]) (e2 := [.im (stD st), .im (.int x0), .ow (.lst (((acc ++ [y]) ++ [h]).map .int))]) (fun Q E => by simp only [↓w_Lseen_2, stD, ↓oixM, ↓ixL, last_ints, ↓inM_st, hv, Option.isSome_some, cu, ↓nn, d1, Bool.not_false, ↓wpre0, ↓wpre1, ↓wpre2, ↓wpre3, ↓wpre4, ↓wpre5, wpost0, wpost1, ↓inQ, ↓callA, ↓ioAt, ↓putS, ↓isiD, ↓isi0, ↓hallM, Option.map, List.replicate, Nat.reduceAdd, Nat.reduceSub, ↓if_true, ↓if_false, ↓ite_true, ↓ite_false, reduceIte, oldS, forall_const, putX])
          (fun Q E => by
            rw [← ints_snoc (acc ++ [y]) h]
            simp only [stD, ↓b_Lseen_1, ↓oixM, ↓ixL, last_ints, ↓idxL_st hv, z, ↓wpre0, ↓wpre1, ↓wpre2, ↓wpre3, ↓wpre4, ↓wpre5, wpost0, wpost1, ↓inQ, ↓callA, ↓ioAt, ↓putS, ↓isiD, ↓isi0, ↓hallM, Option.map, List.replicate, Nat.reduceAdd, Nat.reduceSub, ↓if_true, ↓if_false, ↓ite_true, ↓ite_false, reduceIte, oldS, forall_const, putX])]
        exact run Q E
/-- the row of the law's walk, and its last seat -/
structure Due (g : Int) (st : Sd) (k : Int) (a : List Int) (z : Int) : Prop where
  len : a.length ≤ 24
  bd : ∀ i ∈ a, 0 ≤ i ∧ i < g
  bz : 0 ≤ z ∧ z < g
  lo : Loose st k → a ++ [z] = path st k ∧ z = endP st k
theorem p_due (C : Addr) {g s : Int} {st : Sd} (S : Stand g s st) {k : Int} (hk : 0 ≤ k ∧ k < g) : ∃ (a : List Int) (z : Int), Due g st k a z ∧ ∀ Q E, f_Lseen C [.im (stD st), .im (.int k)] Q E = Q (.o (.lst ((a ++ [z]).map .int))) [.im (stD st), .im (.int k)] := by
  by_cases hl : Loose st k
  · obtain ⟨l, e⟩ := path_snoc st k
    have bd := path_smI S hk
    have pl : (path st k).length ≤ 25 := by have := pathF_len (st := st) st.length k; have := S.len; have := S.hg; unfold path; omega
    refine ⟨l, endP st k, ⟨?_, fun i hi => bd i (by rw [e]; exact List.mem_append_left _ hi), bd _ (endP_mem st k), fun _ => ⟨e.symm, rfl⟩⟩, fun Q E => ?_⟩
    · rw [e, List.length_append, List.length_singleton] at pl; omega
    · rw [← e]; exact p_seen C S k hl Q E
  · obtain ⟨a, z, q1, q2, q3, run⟩ := seen_any C S k 25 [] k List.nodup_nil nofun hk rfl
    refine ⟨a, z, ⟨q1, q2, q3, fun h => absurd h hl⟩, fun Q E => ?_⟩
    simp only [List.nil_append] at run
    have e : (O.lst [D.int k]) = .lst (([k] : List Int).map .int) := rfl
    simp only [↓f_Lseen, ↓m_Lseen, e, ↓run, ↓wpre0, ↓wpre1, ↓wpre2, ↓wpre3, ↓wpre4, ↓wpre5, wpost0, wpost1, ↓inQ, ↓callA, ↓ioAt, ↓putS, ↓isiD, ↓isi0, ↓hallM, Option.map, List.replicate, Nat.reduceAdd, Nat.reduceSub, ↓if_true, ↓if_false, ↓ite_true, ↓ite_false, reduceIte, oldS, forall_const, putX]
def szD (g s : Int) : D := .tup [.int g, .int s]
def clW (sz : D) (st : Sd) (k z : Int) : D := .tup [.str "waits", sz, stD st, .int k, .int z]
theorem atom_i {i : Int} (h1 : -30 ≤ i) (h2 : i ≤ 40) : atomB (.int i) = true := by
  show (decide (-30 ≤ i) && decide (i ≤ 40)) = true
  rw [decide_eq_true h1, decide_eq_true h2]; rfl
theorem stand_lv {g s : Int} {st : Sd} (S : Stand g s st) : Lv 1 (stD st) := by
  refine .tup (by rw [List.length_map]; have := S.len; have := S.hg; omega) fun x hx => ?_
  obtain ⟨o, ho, rfl⟩ := List.mem_map.mp hx
  cases o with
  | none => exact .atom rfl
  | some i => have := S.bd i ho; have := S.hg; have := S.hs; exact .atom (atom_i (by omega) (by omega))
theorem size_lv {g s : Int} (hg : 1 ≤ g ∧ g ≤ 24) (hs : 0 ≤ s ∧ s ≤ 6) : Lv 1 (szD g s) := by
  refine .tup (by show 2 ≤ 26; decide) fun y hy => ?_
  simp only [List.mem_cons, List.not_mem_nil, or_false] at hy
  rcases hy with e | e <;> subst e
  · exact .atom (atom_i (by omega) (by omega))
  · exact .atom (atom_i (by omega) (by omega))
theorem claim_lv {g s : Int} {st : Sd} (A : Stand g s st) {k z : Int} (hk : -30 ≤ k ∧ k ≤ 40) (hz : -30 ≤ z ∧ z ≤ 40) : Lv 2 (clW (szD g s) st k z) := by
  refine .tup (by show 5 ≤ 26; decide) fun x hx => ?_
  simp only [List.mem_cons, List.not_mem_nil, or_false] at hx
  rcases hx with e | e | e | e | e <;> subst e
  · exact .atom (by decide +kernel)
  · exact size_lv A.hg A.hs
  · exact stand_lv A
  · exact .atom (atom_i hk.1 hk.2)
  · exact .atom (atom_i hz.1 hz.2)
theorem ints_lv {l : List Int} (hl : l.length ≤ 26) (h : ∀ i ∈ l, 0 ≤ i ∧ i < 40) : Lv 1 (.tup (l.map .int)) := by
  refine .tup (by rw [List.length_map]; exact hl) fun x hx => ?_
  obtain ⟨i, hi, rfl⟩ := List.mem_map.mp hx
  have := h i hi
  exact .atom (atom_i (by omega) (by omega))
structure Pap (p : D) : Prop where
  kd : kdA p = true
  sh : ShA p 60 30000
theorem Bt.pap {n : Nat} (hn : n ≤ 2) {d : D} (h : Bt n d) : Pap d := by
  have q := h.sh
  have b : bB n ≤ 15336 := by
    match n, hn with
    | 0, _ => decide
    | 1, _ => decide
    | 2, _ => decide
  exact ⟨q.1, q.2.imp (fun z => z.mono (by omega) (by omega)) fun z => z.mono (by omega) (by omega)⟩
theorem Lv.pap {n : Nat} (hn : n ≤ 2) {d : D} (h : Lv n d) : Pap d := Bt.pap hn (.plain h)
theorem said_of {n : Nat} (hn : n ≤ 2) {c p : D} (hc : Bt n c) (hp : Pap p) : Said c p := ⟨(hc.pap hn).kd, hp.kd, hc.other, (hc.pap hn).sh, hp.sh⟩
/-- what holds of a claim of a standing -/
theorem holds_cl {g s : Int} {st : Sd} (A : Stand g s st) (k z : Int) (p : D) : holdsB (clW (szD g s) st k z) p = (wholeB (.int k) 0 ((st.length : Int) - 1) && ((seatAt st k).isNone && ((z == endP st k) && sameT p (path st k)))) := by
  show (isStr (.str "waits") "waits" && waitsB (szD g s) (stD st) (.int k) (.int z) p) = _
  unfold waitsB szD
  rw [stand_fits A, stOf_st, show isStr (.str "waits") "waits" = true by decide +kernel]
  rfl
theorem sameT_ints (a b : List Int) : sameT (.tup (a.map .int)) b = decide (a = b) := by
  by_cases h : a = b
  · subst h
    show (decide ((a.map D.int).length = a.length) && ((a.map D.int).zip a).all fun p => sameI p.1 p.2) = _
    rw [sameT_self, decide_eq_true (List.length_map ..), decide_eq_true rfl]; rfl
  · rw [decide_eq_false h]
    cases q : sameT (.tup (a.map .int)) b with
    | false => rfl
    | true =>
      have q : (decide ((a.map D.int).length = b.length) && ((a.map D.int).zip b).all fun p => sameI p.1 p.2) = true := q
      rw [Bool.and_eq_true, decide_eq_true_eq] at q
      have e := sameT_eq q.1 q.2
      have inj : ∀ {a b : List Int}, a.map D.int = b.map D.int → a = b := fun {a} => by
        induction a with
        | nil => intro b e; cases b with | nil => rfl | cons _ _ => cases e
        | cons x a ih =>
          intro b e
          cases b with
          | nil => cases e
          | cons y b =>
            have e : D.int x :: a.map D.int = D.int y :: b.map D.int := e
            obtain ⟨e1, e2⟩ := List.cons.inj e
            cases e1
            rw [ih e2]
      exact absurd (inj e) h
theorem eqv_ints (a b : List Int) : PyData.eqvAll (pyL (a.map .int)) (pyL (b.map .int)) = decide (a = b) := by
  induction a generalizing b with
  | nil => cases b <;> rfl
  | cons x a ih =>
    cases b with
    | nil => rfl
    | cons y b =>
      show ((x == y) && PyData.eqvAll (pyL (a.map .int)) (pyL (b.map .int))) = _
      rw [ih b]
      by_cases h1 : x = y
      · subst h1
        by_cases h2 : a = b
        · subst h2; simp
        · rw [decide_eq_false h2, decide_eq_false fun e => h2 (List.cons.inj e).2, Bool.and_false]
      · rw [beq_eq_false_iff_ne.mpr h1, decide_eq_false fun e => h1 (List.cons.inj e).1]; rfl
end DLP
set_option Elab.async false
set_option linter.all false
set_option maxRecDepth 100000
set_option maxHeartbeats 400000
namespace DLP
open PySem PySem.Spec PyProof.Rows L2 DL MW
def eb1 (C : Addr) : M DL.Fl := thenN (bnd (bnd (consM (bnd (bnd (consD (dVar 1) (consD (dVar 2) (DL.ret []))) (callN 2 (f_Lseen C))) resD) (DL.ret [])) (un1 tupD)) (setI 3))
def eb2 (C : Addr) : M DL.Fl := parM [4, 5] (vD (tupM (consM (DL.ret (.str "waits")) (consM (dVar 0) (consM (dVar 1) (consM (dVar 2) (consM (do2 (dVar 3) (bnd (DL.ret (.int 1)) negD) ixM) (DL.ret []))))))) (vD (do2 (do2 (dVar 1) (dVar 2) ixM) (DL.ret .non) isNonD) (DL.ret [])))
def eb3 (C : Addr) : M DL.Fl := ifM (notB (bnd (bnd (bnd (consD (dVar 4) (consD (dVar 3) (consD (dVar 5) (DL.ret [])))) (callN 3 (f_Ltold C))) resD) truD)) (bnd (DL.ret (.bl false)) fun d => DL.ret (.rt (.d d))) (DL.ret .nx)
def eb4 (C : Addr) : M DL.Fl := forM (bnd (lstM (consM (tupM (consM (DL.ret (.str "waits")) (consM (dVar 0) (consM (dVar 1) (consM (do2 (dVar 2) (do2 (dVar 0) (DL.ret (.int 0)) ixM) subD) (consM (do2 (dVar 3) (bnd (DL.ret (.int 1)) negD) ixM) (DL.ret []))))))) (consM (do2 (bnd (dVar 4) fun d => bnd (DL.ret none) fun l => bnd (partM (DL.ret (.int 4))) fun h => slM d l h) (tupM (consM (do2 (do2 (dVar 3) (bnd (DL.ret (.int 1)) negD) ixM) (bnd (consM (dVar 0) (DL.ret [])) (un1 sumTD)) subD) (DL.ret []))) addD) (DL.ret [])))) itLst) (setI 6) (b_Leach_right_1 C)
def eb5 (C : Addr) : M DL.Fl := forM (bnd (lstM (consM (bnd (consM (dVar 3) (DL.ret [])) (un1 listD)) (consM (bnd (dVar 3) fun d => bnd (DL.ret none) fun l => bnd (partM (bnd (DL.ret (.int 1)) negD)) fun h => slM d l h) (consM (do2 (dVar 3) (bnd (dVar 3) fun d => bnd (partM (bnd (DL.ret (.int 1)) negD)) fun l => bnd (DL.ret none) fun h => slM d l h) addD) (consM (turnsM (dVar 3)) (consM (DL.ret .non) (consM (tupM (DL.ret [])) (DL.ret [])))))))) itLst) (setI 7) (b_Leach_right_2 C)
theorem ebeq (C : Addr) : b_Leach_right_3 C = seqM (eb1 C) (seqM (eb2 C) (seqM (eb3 C) (seqM (eb4 C) (eb5 C)))) := rfl
def Imm (v : DL.Slot) : Prop := v = .no ∨ ∃ d, v = .im d
theorem Imm.io {v : DL.Slot} (h : Imm v) : ∀ x o, v ≠ .io x o := by rcases h with e | ⟨d, e⟩ <;> subst e <;> exact nofun
theorem cut_last1 (l : List D) (y : D) : cutL (l ++ [y]) (some (-1)) none = [y] := by
  have e : HT.sIx (l ++ [y]).length 0 (some (-1)) = l.length := by
    unfold HT.sIx
    simp
    omega
  unfold cutL
  rw [e, HT.sIx_none, List.length_append, List.length_singleton, List.drop_left, Nat.add_sub_cancel_left]
  rfl
theorem map_snoc (a : List Int) (z : Int) : (a ++ [z]).map D.int = a.map D.int ++ [.int z] := by simp
section
variable {g s : Int} {st : Sd} (A : Stand g s st) {k : Int} (hk : 0 ≤ k ∧ k < g) {a : List Int} {z : Int} (du : Due g st k a z)
include A hk
theorem wk_ok : wholeB (.int k) 0 ((st.length : Int) - 1) = true := by
  have := A.len
  simp [wholeB]; omega
include du
theorem h_sheet (p : D) : holdsB (clW (szD g s) st k z) p = ((seatAt st k).isNone && sameT p (a ++ [z])) := by
  rw [holds_cl A, wk_ok A hk, Bool.true_and]
  cases hv : seatAt st k with
  | some v => rfl
  | none =>
    obtain ⟨e1, e2⟩ := du.lo hv
    rw [e1, ← e2]
    simp
theorem h_due : holdsB (clW (szD g s) st k z) (.tup ((a ++ [z]).map .int)) = (seatAt st k).isNone := by
  rw [h_sheet A hk du, sameT_ints, decide_eq_true rfl, Bool.and_true]
theorem h_far (p : D) : holdsB (clW (szD g s) st (k - g) z) p = false := by
  rw [holds_cl A, show wholeB (.int (k - g)) 0 ((st.length : Int) - 1) = false from by
    show (decide (0 ≤ k - g) && decide _) = false
    rw [decide_eq_false (by omega)]; rfl]
  rfl
theorem h_seat (p : D) : holdsB (clW (szD g s) st k (z - (g + s))) p = false := by
  rw [holds_cl A, wk_ok A hk, Bool.true_and]
  cases hv : seatAt st k with
  | some v => rfl
  | none =>
    obtain ⟨_, e2⟩ := du.lo hv
    have := du.bz
    have := A.hs
    rw [← e2, show (z - (g + s) == z) = false from beq_eq_false_iff_ne.mpr (by omega)]
    rfl
end
structure Sheet (l : List Int) (p : D) : Prop where
  pap : Pap p
  eq : ∀ env Q E, eqM p (.tup (l.map .int)) env Q E = Q (.bl (sameT p l)) env
theorem sheet_tup {l m : List Int} (hl : l.length ≤ 26) (bl : ∀ i ∈ l, 0 ≤ i ∧ i < 24) (hm : m.length ≤ 26) (bm : ∀ i ∈ m, 0 ≤ i ∧ i < 24) : Sheet l (.tup (m.map .int)) := by
  refine ⟨Lv.pap (by decide) (ints_lv hm fun i hi => by have := bm i hi; omega), fun env Q E => ?_⟩
  have k1 : eqOk (.tup (m.map .int)) = true := (row_ints (n := 30) (fun i hi => by have := bm i hi; omega) (by omega)).eqOk (by decide)
  have k2 : eqOk (.tup (l.map .int)) = true := (row_ints (n := 30) (fun i hi => by have := bl i hi; omega) (by omega)).eqOk (by decide)
  rw [eqM_gen (a := .tup (m.map .int)) nofun k1 k2, sameT_ints]
  have e : eqv (.tup (m.map .int)) (.tup (l.map .int)) = decide (m = l) := eqv_ints m l
  rw [e]
theorem sheet_lst {l : List Int} (hl : l.length ≤ 26) (bl : ∀ i ∈ l, 0 ≤ i ∧ i < 24) : Sheet l (.lst (l.map .int)) := by
  refine ⟨Bt.pap (n := 1) (by decide) (.lst (by rw [List.length_map]; omega) fun x hx => ?_), fun env Q E => ?_⟩
  · obtain ⟨i, hi, rfl⟩ := List.mem_map.mp hx
    have := bl i hi
    exact .atom (atom_i (by omega) (by omega))
  have k1 : eqOk (.lst (l.map .int)) = true := (row_intl (n := 30) (fun i hi => by have := bl i hi; omega) (by omega)).eqOk (by decide)
  have k2 : eqOk (.tup (l.map .int)) = true := (row_ints (n := 30) (fun i hi => by have := bl i hi; omega) (by omega)).eqOk (by decide)
  rw [eqM_gen (a := .lst (l.map .int)) nofun k1 k2]
  rfl
theorem sheet_non {l : List Int} (hl : l.length ≤ 26) (bl : ∀ i ∈ l, 0 ≤ i ∧ i < 24) : Sheet l .non := by
  refine ⟨Lv.pap (n := 0) (by decide) (.atom rfl), fun env Q E => ?_⟩
  have k2 : eqOk (.tup (l.map .int)) = true := (row_ints (n := 30) (fun i hi => by have := bl i hi; omega) (by omega)).eqOk (by decide)
  rw [eqM_gen (a := .non) nofun rfl k2]
  rfl
def sixL (a : List Int) (z : Int) : List D := [.lst ((a ++ [z]).map .int), .tup (a.map .int), .tup ((a ++ [z] ++ [z]).map .int), .tup ((a ++ [z]).reverse.map .int), .non, .tup []]
theorem six_sh {a : List Int} {z : Int} (ha : a.length ≤ 24) (bd : ∀ i ∈ a, 0 ≤ i ∧ i < 24) (bz : 0 ≤ z ∧ z < 24) : ∀ p ∈ sixL a z, Sheet (a ++ [z]) p := fun p hp => by
  have l1 : (a ++ [z]).length ≤ 26 := by rw [List.length_append, List.length_singleton]; omega
  have b1 : ∀ i ∈ a ++ [z], 0 ≤ i ∧ i < 24 := fun i hi => (List.mem_append.mp hi).elim (bd i) fun w => by rw [List.mem_singleton.mp w]; exact bz
  simp only [sixL, List.mem_cons, List.not_mem_nil, or_false] at hp
  rcases hp with e | e | e | e | e | e <;> subst e
  · exact sheet_lst l1 b1
  · exact sheet_tup l1 b1 (by omega) bd
  · exact sheet_tup l1 b1 (by rw [List.length_append, List.length_append, List.length_singleton]; omega) fun i hi => (List.mem_append.mp hi).elim (b1 i) fun w => by rw [List.mem_singleton.mp w]; exact bz
  · exact sheet_tup l1 b1 (by rw [List.length_reverse]; exact l1) fun i hi => b1 i (List.mem_reverse.mp hi)
  · exact sheet_non l1 b1
  · exact sheet_tup (m := []) l1 b1 (by decide) nofun
abbrev eE (g s : Int) (st : Sd) (k : Int) (a : List Int) (z : Int) (v6 v7 : DL.Slot) : List DL.Slot := [.im (szD g s), .im (stD st), .im (.int k), .im (.tup ((a ++ [z]).map .int)), .im (clW (szD g s) st k z), .im (.bl (seatAt st k).isNone), v6, v7]
section
variable (C : Addr) {g s : Int} {st : Sd} (A : Stand g s st) {k : Int} (hk : 0 ≤ k ∧ k < g)
include A hk
theorem p_each_turn (v3 v4 v5 v6 v7 : DL.Slot) (h3 : Imm v3) (h4 : Imm v4) (h5 : Imm v5) (h6 : Imm v6) (h7 : Imm v7) : ∃ (e3 e4 e5 e6 e7 : DL.Slot), Imm e3 ∧ Imm e4 ∧ Imm e5 ∧ Imm e6 ∧ Imm e7 ∧
    Runs (b_Leach_right_3 C) [.im (szD g s), .im (stD st), .im (.int k), v3, v4, v5, v6, v7] .nx [.im (szD g s), .im (stD st), .im (.int k), e3, e4, e5, e6, e7] := by
  obtain ⟨a, z, du, pd⟩ := p_due C A hk
  have hg := A.hg
  have hs := A.hs
  have bz := du.bz
  have b24 : ∀ i ∈ a, 0 ≤ i ∧ i < 24 := fun i hi => by have := du.bd i hi; omega
  have hh := h_due A hk du
  have rowP := sheet_tup (l := []) (m := a ++ [z]) (by decide) nofun (by have := du.len; rw [List.length_append, List.length_singleton]; omega) (fun i hi => (List.mem_append.mp hi).elim (b24 i) fun w => by rw [List.mem_singleton.mp w]; omega)
  have c0 : Lv 2 (clW (szD g s) st k z) := claim_lv A (by omega) (by omega)
  have S0 := said_of (Nat.le_refl 2) (.plain c0) rowP.pap
  have t0 := fun Q E => p_told C S0 (seatAt st k).isNone Q E
  rw [hh, beq_self_eq_true] at t0
  have S1 := said_of (Nat.le_refl 2) (.plain (claim_lv A (k := k - g) (z := z) (by omega) (by omega))) rowP.pap
  have t1 := fun Q E => p_told C S1 false Q E
  rw [h_far A hk du, beq_self_eq_true] at t1
  have S2 := said_of (Nat.le_refl 2) (.plain (claim_lv A (k := k) (z := z - (g + s)) (by omega) (by omega))) rowP.pap
  have t2 := fun Q E => p_told C S2 false Q E
  rw [h_seat A hk du, beq_self_eq_true] at t2
  have six := six_sh du.len b24 (by omega : 0 ≤ z ∧ z < 24)
  have z5 := szT (n := 5) (by omega)
  have ixl : ∀ env Q E, ixM (.tup ((a ++ [z]).map .int)) (.int (-1)) env Q E = Q (.int z) env := fun env Q E => by
    unfold ixM
    simp only [last_ints]
    rfl
  have ix : ∀ env Q E, ixM (stD st) (.int k) env Q E = Q (oD (seatAt st k)) env := fun env Q E => ixM_st A hk env Q E
  have r1 : Runs (eb1 C) [.im (szD g s), .im (stD st), .im (.int k), v3, v4, v5, v6, v7] .nx [.im (szD g s), .im (stD st), .im (.int k), .im (.tup ((a ++ [z]).map .int)), v4, v5, v6, v7] := fun Q E => by
    rcases h3 with e | ⟨d, e⟩ <;> subst e <;> simp only [eb1, ↓pd, ↓wpre0, ↓wpre1, ↓wpre2, ↓wpre3, ↓wpre4, ↓wpre5, wpost0, wpost1, ↓inQ, ↓callA, ↓ioAt, ↓putS, ↓isiD, ↓isi0, ↓hallM, Option.map, List.replicate, Nat.reduceAdd, Nat.reduceSub, ↓if_true, ↓if_false, ↓ite_true, ↓ite_false, reduceIte, oldS, forall_const, putX]
  have r2 : Runs (eb2 C) [.im (szD g s), .im (stD st), .im (.int k), .im (.tup ((a ++ [z]).map .int)), v4, v5, v6, v7] .nx (eE g s st k a z v6 v7) := fun Q E => by
    rcases h4 with e | ⟨d, e⟩ <;> rcases h5 with e' | ⟨d', e'⟩ <;> subst e e' <;> simp only [eb2, eE, clW, z5, true_and, ↓neg1, ↓ixl, ↓ix, ↓isNon_o, ↓wpre0, ↓wpre1, ↓wpre2, ↓wpre3, ↓wpre4, ↓wpre5, wpost0, wpost1, ↓inQ, ↓callA, ↓ioAt, ↓putS, ↓isiD, ↓isi0, ↓hallM, Option.map, List.replicate, Nat.reduceAdd, Nat.reduceSub, ↓if_true, ↓if_false, ↓ite_true, ↓ite_false, reduceIte, oldS, forall_const, putX]
  have r3 : Runs (eb3 C) (eE g s st k a z v6 v7) .nx (eE g s st k a z v6 v7) := fun Q E => by
    simp only [eb3, eE, ↓t0, ↓wpre0, ↓wpre1, ↓wpre2, ↓wpre3, ↓wpre4, ↓wpre5, wpost0, wpost1, ↓inQ, ↓callA, ↓ioAt, ↓putS, ↓isiD, ↓isi0, ↓hallM, Option.map, List.replicate, Nat.reduceAdd, Nat.reduceSub, ↓if_true, ↓if_false, ↓ite_true, ↓ite_false, reduceIte, oldS, forall_const, putX]
  have oth : ∀ (c : D) (v7 : DL.Slot), (∀ Q E, f_Ltold C [.im c, .im (.tup ((a ++ [z]).map .int)), .im (.bl false)] Q E = Q (.d (.bl true)) [.im c, .im (.tup ((a ++ [z]).map .int)), .im (.bl false)]) → Runs (b_Leach_right_1 C) (eE g s st k a z (.im c) v7) .nx (eE g s st k a z (.im c) v7) := fun c v7 t Q E => by
    simp only [↓b_Leach_right_1, eE, ↓t, ↓wpre0, ↓wpre1, ↓wpre2, ↓wpre3, ↓wpre4, ↓wpre5, wpost0, wpost1, ↓inQ, ↓callA, ↓ioAt, ↓putS, ↓isiD, ↓isi0, ↓hallM, Option.map, List.replicate, Nat.reduceAdd, Nat.reduceSub, ↓if_true, ↓if_false, ↓ite_true, ↓ite_false, reduceIte, oldS, forall_const, putX]
  have r4 : Runs (eb4 C) (eE g s st k a z v6 v7) .nx (eE g s st k a z (.im (clW (szD g s) st k (z - (g + s)))) v7) := fun Q E => by
    have lo : b_Leach_right_1 C (eE g s st k a z (.im (clW (szD g s) st (k - g) z)) v7) (fun f e2 => loopK (forL (setI 6) (b_Leach_right_1 C) [clW (szD g s) st k (z - (g + s))]) f e2 Q E) E = Q .nx (eE g s st k a z (.im (clW (szD g s) st k (z - (g + s)))) v7) := by
      rw [oth _ v7 t1, loopK_nx, forL_cons, setI_ok (i := 6) (v := .im _) rfl nofun]
      show b_Leach_right_1 C (eE g s st k a z (.im (clW (szD g s) st k (z - (g + s)))) v7) _ _ = _
      rw [oth _ v7 t2, loopK_nx]
      rfl
    have c4 : cutL [.str "waits", szD g s, stD st, .int k, .int z] none (some 4) = [.str "waits", szD g s, stD st, .int k] := rfl
    have z41 := szT (n := 4 + 1) (by omega)
    have z1 := szT (n := 1) (by omega)
    have z2 := szT (n := 2) (by omega)
    have sx : ∀ env Q E, ixM (szD g s) (.int 0) env Q E = Q (.int g) env := fun env Q E => ixa _ _ env Q E
    have ss : ∀ env Q E, sumTD (szD g s) env Q E = Q (.int (g + s)) env := fun env Q E => sum_sz g s env Q E
    simp only [clW, eE] at lo
    rcases h6 with e | ⟨d, e⟩ <;> subst e <;> simp only [eb4, eE, clW, z5, z41, z1, z2, true_and, ↓neg1, ↓ixl, ↓sx, ↓ss, c4, ↓wpre0, ↓wpre1, ↓wpre2, ↓wpre3, ↓wpre4, ↓wpre5, wpost0, wpost1, ↓inQ, ↓callA, ↓ioAt, ↓putS, ↓isiD, ↓isi0, ↓hallM, Option.map, List.replicate, Nat.reduceAdd, Nat.reduceSub, ↓if_true, ↓if_false, ↓ite_true, ↓ite_false, reduceIte, oldS, forall_const, putX] <;> exact lo
  have tele : ∀ (p : D) (v6 : DL.Slot), Sheet (a ++ [z]) p → Runs (b_Leach_right_2 C) (eE g s st k a z v6 (.im p)) .nx (eE g s st k a z v6 (.im p)) := fun p v6 sh Q E => by
    have S := said_of (Nat.le_refl 2) (.plain c0) sh.pap
    have em := fun env Q E => sh.eq env Q E
    have hp := h_sheet A hk du p
    cases hv : seatAt st k with
    | some v =>
      rw [hv] at hp
      have t := fun Q E => p_told C S false Q E
      rw [hp] at t
      simp only [Option.isNone_some, Bool.false_and, beq_self_eq_true] at t
      simp only [↓b_Leach_right_2, eE, hv, Option.isNone_some, ↓t, ↓wpre0, ↓wpre1, ↓wpre2, ↓wpre3, ↓wpre4, ↓wpre5, wpost0, wpost1, ↓inQ, ↓callA, ↓ioAt, ↓putS, ↓isiD, ↓isi0, ↓hallM, Option.map, List.replicate, Nat.reduceAdd, Nat.reduceSub, ↓if_true, ↓if_false, ↓ite_true, ↓ite_false, reduceIte, oldS, forall_const, putX]
    | none =>
      rw [hv] at hp
      have t := fun Q E => p_told C S (sameT p (a ++ [z])) Q E
      rw [hp] at t
      simp only [Option.isNone_none, Bool.true_and, beq_self_eq_true] at t
      simp only [↓b_Leach_right_2, eE, hv, Option.isNone_none, ↓em, ↓t, ↓wpre0, ↓wpre1, ↓wpre2, ↓wpre3, ↓wpre4, ↓wpre5, wpost0, wpost1, ↓inQ, ↓callA, ↓ioAt, ↓putS, ↓isiD, ↓isi0, ↓hallM, Option.map, List.replicate, Nat.reduceAdd, Nat.reduceSub, ↓if_true, ↓if_false, ↓ite_true, ↓ite_false, reduceIte, oldS, forall_const, putX]
  have r5 : ∃ w7, Imm w7 ∧ Runs (eb5 C) (eE g s st k a z (.im (clW (szD g s) st k (z - (g + s)))) v7) .nx (eE g s st k a z (.im (clW (szD g s) st k (z - (g + s)))) w7) := by
    refine ⟨.im (.tup []), .inr ⟨_, rfl⟩, fun Q E => ?_⟩
    have tl : ∀ (p : D) (l : List D) (w : DL.Slot), Imm w → Sheet (a ++ [z]) p → ∀ Q E, forL (setI 7) (b_Leach_right_2 C) (p :: l) (eE g s st k a z (.im (clW (szD g s) st k (z - (g + s)))) w) Q E = forL (setI 7) (b_Leach_right_2 C) l (eE g s st k a z (.im (clW (szD g s) st k (z - (g + s)))) (.im p)) Q E := fun p l w hw sh Q E => by
      rw [forL_cons, setI_ok (i := 7) (v := w) rfl hw.io]
      show b_Leach_right_2 C (eE g s st k a z (.im (clW (szD g s) st k (z - (g + s)))) (.im p)) _ _ = _
      rw [tele p _ sh, loopK_nx]
    have lo : b_Leach_right_2 C (eE g s st k a z (.im (clW (szD g s) st k (z - (g + s)))) (.im (.lst ((a ++ [z]).map .int)))) (fun f e2 => loopK (forL (setI 7) (b_Leach_right_2 C) [.tup (a.map .int), .tup ((a ++ [z] ++ [z]).map .int), .tup ((a ++ [z]).reverse.map .int), .non, .tup []]) f e2 Q E) E = Q .nx (eE g s st k a z (.im (clW (szD g s) st k (z - (g + s)))) (.im (.tup []))) := by
      unfold sixL at six
      rw [tele _ _ (six _ (by simp)), loopK_nx, tl _ _ _ (.inr ⟨_, rfl⟩) (six _ (by simp)), tl _ _ _ (.inr ⟨_, rfl⟩) (six _ (by simp)), tl _ _ _ (.inr ⟨_, rfl⟩) (six _ (by simp)), tl _ _ _ (.inr ⟨_, rfl⟩) (six _ (by simp)), tl _ _ _ (.inr ⟨_, rfl⟩) (six _ (by simp))]
      rfl
    simp only [eE] at lo
    have ln := du.len
    have zl := szT (n := ((a ++ [z]).map D.int).length) (by rw [List.length_map, List.length_append, List.length_singleton]; omega)
    have zl2 := szT (n := ((a ++ [z]).map D.int).length + 1) (by rw [List.length_map, List.length_append, List.length_singleton]; omega)
    have z6 := szT (n := 6) (by omega)
    have c1 : cutL ((a ++ [z]).map D.int) none (some (-1)) = a.map D.int := by rw [cut_m1, ← List.map_dropLast, List.dropLast_concat]
    have c2 : cutL ((a ++ [z]).map D.int) (some (-1)) none = [.int z] := by rw [map_snoc]; exact cut_last1 _ _
    have c3 : (a ++ [z]).map D.int ++ [.int z] = (a ++ [z] ++ [z]).map D.int := (map_snoc (a ++ [z]) z).symm
    have tn : ∀ env Q E, turnD (.tup ((a ++ [z]).map .int)) env Q E = Q (.tup ((a ++ [z]).reverse.map .int)) env := fun env Q E => by
      show (_ ∧ Q (.tup ((a ++ [z]).map D.int).reverse) env) = _
      rw [zl, true_and, List.map_reverse]
    have ls : ∀ env Q E, listD (.tup ((a ++ [z]).map .int)) env Q E = Q (.lst ((a ++ [z]).map .int)) env := fun _ _ _ => rfl
    rcases h7 with e | ⟨d, e⟩ <;> subst e <;> simp only [eb5, eE, ↓turnsM, ↓tn, ↓ls, ↓neg1, c1, c2, c3, zl2, z6, true_and, ↓wpre0, ↓wpre1, ↓wpre2, ↓wpre3, ↓wpre4, ↓wpre5, wpost0, wpost1, ↓inQ, ↓callA, ↓ioAt, ↓putS, ↓isiD, ↓isi0, ↓hallM, Option.map, List.replicate, Nat.reduceAdd, Nat.reduceSub, ↓if_true, ↓if_false, ↓ite_true, ↓ite_false, reduceIte, oldS, forall_const, putX] <;> exact lo
  obtain ⟨w7, hw7, r5⟩ := r5
  exact ⟨_, _, _, _, w7, .inr ⟨_, rfl⟩, .inr ⟨_, rfl⟩, .inr ⟨_, rfl⟩, .inr ⟨_, rfl⟩, hw7, fun Q E => by rw [ebeq, seq_run r1, seq_run r2, seq_run r3, seq_run r4, r5]⟩
end
theorem p_each_right (C : Addr) {g s : Int} {st : Sd} (A : Stand g s st) (Q E) : f_Leach_right C [.im (szD g s), .im (stD st)] Q E = Q (.d (.bl true)) [.im (szD g s), .im (stD st)] := by
  have hg := A.hg
  have b1 : ((-2 ^ 62 : Int) ≤ g ∧ g < 2 ^ 62) = True := eq_true (by omega)
  have sx : ∀ env Q E, ixM (szD g s) (.int 0) env Q E = Q (.int g) env := fun env Q E => ixa _ _ env Q E
  have lo : ∀ (K : DL.Fl → List DL.Slot → Prop) X (R : Prop), (∀ v2 v3 v4 v5 v6 v7, K .nx [.im (szD g s), .im (stD st), v2, v3, v4, v5, v6, v7] = R) → forL (setI 2) (b_Leach_right_3 C) ((nums g).map .int) [.im (szD g s), .im (stD st), .no, .no, .no, .no, .no, .no] K X = R := fun K X R hR =>
    for_all (fun _ env => ∃ v2 v3 v4 v5 v6 v7, Imm v2 ∧ Imm v3 ∧ Imm v4 ∧ Imm v5 ∧ Imm v6 ∧ Imm v7 ∧ env = [.im (szD g s), .im (stD st), v2, v3, v4, v5, v6, v7]) ⟨.no, .no, .no, .no, .no, .no, .inl rfl, .inl rfl, .inl rfl, .inl rfl, .inl rfl, .inl rfl, rfl⟩
      (fun i d env hi ⟨v2, v3, v4, v5, v6, v7, h2, h3, h4, h5, h6, h7, e⟩ => by
        subst e
        obtain ⟨k, hk, rfl⟩ := List.mem_map.mp (List.mem_of_getElem? hi)
        obtain ⟨e3, e4, e5, e6, e7, i3, i4, i5, i6, i7, run⟩ := p_each_turn C A (nums_mem.mp hk) v3 v4 v5 v6 v7 h3 h4 h5 h6 h7
        exact ⟨_, _, setI_ok (i := 2) (v := v2) rfl h2.io, run, .im (.int k), e3, e4, e5, e6, e7, .inr ⟨_, rfl⟩, i3, i4, i5, i6, i7, rfl⟩)
      fun env ⟨v2, v3, v4, v5, v6, v7, _, _, _, _, _, _, e⟩ => by subst e; exact hR v2 v3 v4 v5 v6 v7
  simp only [↓f_Leach_right, ↓m_Leach_right, ↓sx, b1, true_and, range_nums, ↓wpre0, ↓wpre1, ↓wpre2, ↓wpre3, ↓wpre4, ↓wpre5, wpost0, wpost1, ↓inQ, ↓callA, ↓ioAt, ↓putS, ↓isiD, ↓isi0, ↓hallM, Option.map, List.replicate, Nat.reduceAdd, Nat.reduceSub, ↓if_true, ↓if_false, ↓ite_true, ↓ite_false, reduceIte, oldS, forall_const, putX]
  exact lo _ _ _ fun v2 v3 v4 v5 v6 v7 => by simp only [↓wpre0, ↓wpre1, ↓wpre2, ↓wpre3, ↓wpre4, ↓wpre5, wpost0, wpost1, ↓inQ, ↓callA, ↓ioAt, ↓putS, ↓isiD, ↓isi0, ↓hallM, Option.map, List.replicate, Nat.reduceAdd, Nat.reduceSub, ↓if_true, ↓if_false, ↓ite_true, ↓ite_false, reduceIte, oldS, forall_const, putX]
end DLP
set_option Elab.async false
set_option linter.all false
set_option maxRecDepth 100000
set_option maxHeartbeats 400000
namespace DLP
open PySem PySem.Spec PyProof.Rows L2 DL MW
def nh1 (C : Addr) : M DL.Fl := forM (bnd (lstM (consM (tupM (consM (DL.ret (.int 25)) (consM (DL.ret (.int 0)) (DL.ret [])))) (consM (tupM (consM (DL.ret (.int 0)) (consM (DL.ret (.int 1)) (DL.ret [])))) (consM (tupM (consM (DL.ret (.int 3)) (consM (DL.ret (.int 7)) (DL.ret [])))) (consM (tupM (consM (DL.ret (.int 3)) (consM (bnd (DL.ret (.int 1)) negD) (DL.ret [])))) (consM (tupM (consM (DL.ret (.int 3)) (DL.ret []))) (consM (lstM (consM (DL.ret (.int 3)) (consM (DL.ret (.int 0)) (DL.ret [])))) (consM (tupM (consM (DL.ret (.int 3)) (consM (DL.ret (.int 0)) (consM (DL.ret (.int 0)) (DL.ret []))))) (consM (tupM (consM (DL.ret (.bl true)) (consM (DL.ret (.int 0)) (DL.ret [])))) (consM (tupM (consM (DL.ret (.int 1)) (consM (DL.ret (.bl true)) (DL.ret [])))) (consM (DL.ret (.int 3)) (consM (DL.ret .non) (DL.ret []))))))))))))) itLst) (setI 0) (b_Lno_halls_right_2 C)
def nh2 (C : Addr) : M DL.Fl := bnd (bnd (bnd (consD (tupM (consM (DL.ret (.str "waits")) (consM (tupM (consM (DL.ret (.int 24)) (consM (DL.ret (.int 6)) (DL.ret [])))) (consM (do2 (tupM (consM (DL.ret .non) (DL.ret []))) (DL.ret (.int 24)) mulD) (consM (DL.ret (.int 23)) (consM (DL.ret (.int 23)) (DL.ret []))))))) (consD (tupM (consM (DL.ret (.int 23)) (DL.ret []))) (consD (DL.ret (.bl true)) (DL.ret [])))) (callN 3 (f_Ltold C))) resD) fun d => DL.ret (.rt (.d d))
theorem nheq (C : Addr) : m_Lno_halls_right C = seqM (nh1 C) (nh2 C) := rfl
def szL : List D := [.tup [.int 25, .int 0], .tup [.int 0, .int 1], .tup [.int 3, .int 7], .tup [.int 3, .int (-1)], .tup [.int 3], .lst [.int 3, .int 0], .tup [.int 3, .int 0, .int 0], .tup [.bl true, .int 0], .tup [.int 1, .bl true], .int 3, .non]
def nonsL (n : Nat) : D := .tup (List.replicate n .non)
def clN (sz : D) (n : Nat) (k z : Int) : D := .tup [.str "waits", sz, nonsL n, .int k, .int z]
theorem none_all : (szL.all fun sz => [0, 1, 3, 25].all fun n => kdA (clN sz n 0 0) && shPb (clN sz n 0 0) 60 30000 && !holdsB (clN sz n 0 0) (.tup [.int 0])) = true := by decide +kernel
theorem last_all : (kdA (clN (.tup [.int 24, .int 6]) 24 23 23) && shPb (clN (.tup [.int 24, .int 6]) 24 23 23) 60 30000 && holdsB (clN (.tup [.int 24, .int 6]) 24 23 23) (.tup [.int 23])) = true := by decide +kernel
theorem no_cl (sz : D) (n : Nat) (k z : Int) : NoOther (clN sz n k z) := fun w l e => by
  have e : D.tup [.str "waits", sz, nonsL n, .int k, .int z] = .tup (.str w :: l) := e
  have e := (D.tup.inj e)
  have e := (List.cons.inj e).1
  cases e
  exact .inl rfl
theorem pap0 {i : Int} (h : 0 ≤ i ∧ i ≤ 30) : Pap (.tup [.int i]) := Lv.pap (n := 1) (by decide) (.tup (by show 1 ≤ 26; decide) fun x hx => by rw [List.mem_singleton.mp hx]; exact .atom (atom_i (by omega) (by omega)))
theorem mul_non (n : Nat) (hn : n ≤ 25) (env : List DL.Slot) (Q E) : mulD (.tup [.non]) (.int ((n : Nat) : Int)) env Q E = Q (nonsL n) env := by
  have e : (List.replicate (Int.toNat ((n : Nat) : Int)) [D.non]).flatten = List.replicate n D.non := by
    rw [Int.toNat_natCast]
    induction n with
    | zero => rfl
    | succ n ih => rw [List.replicate_succ, List.flatten_cons, ih (by omega)]; rfl
  show (_ ∧ Q (.tup (List.replicate (Int.toNat ((n : Nat) : Int)) [D.non]).flatten) env) = _
  rw [e]
  exact propext ⟨fun z => z.2, fun z => ⟨⟨nofun, by omega, by omega, by decide⟩, z⟩⟩
section
variable (C : Addr)
theorem none_turn {sz : D} (hs : sz ∈ szL) {n : Nat} (hn : n ∈ [0, 1, 3, 25]) : Runs (b_Lno_halls_right_1 C) [.im sz, .im (.int ((n : Nat) : Int))] .nx [.im sz, .im (.int ((n : Nat) : Int))] := fun Q E => by
  have q := List.all_eq_true.mp (List.all_eq_true.mp none_all sz hs) n hn
  simp only [Bool.and_eq_true, Bool.not_eq_true'] at q
  obtain ⟨⟨q1, q2⟩, q3⟩ := q
  have p0 := pap0 (i := 0) (by decide)
  have S : Said (clN sz n 0 0) (.tup [.int 0]) := ⟨q1, p0.kd, no_cl _ _ _ _, .inl (shP_by q2), p0.sh⟩
  have t := fun Q E => p_told C S false Q E
  rw [q3, beq_self_eq_true] at t
  have hn' : n ≤ 25 := by
    simp only [List.mem_cons, List.not_mem_nil, or_false] at hn
    omega
  have ml := fun env Q E => mul_non n hn' env Q E
  have z1 := szT (n := 1) (by omega)
  have z5 := szT (n := 5) (by omega)
  simp only [clN] at t
  generalize nonsL n = nn at ml t
  simp only [b_Lno_halls_right_1, z1, z5, true_and, ↓ml, ↓t, ↓wpre0, ↓wpre1, ↓wpre2, ↓wpre3, ↓wpre4, ↓wpre5, wpost0, wpost1, ↓inQ, ↓callA, ↓ioAt, ↓putS, ↓isiD, ↓isi0, ↓hallM, Option.map, List.replicate, Nat.reduceAdd, Nat.reduceSub, ↓if_true, ↓if_false, ↓ite_true, ↓ite_false, reduceIte, oldS, forall_const, putX]
theorem none_row {sz : D} (hs : sz ∈ szL) (v1 : DL.Slot) (h1 : Imm v1) : Runs (b_Lno_halls_right_2 C) [.im sz, v1] .nx [.im sz, .im (.int 25)] := fun Q E => by
  have t0 := none_turn C hs (n := 0) (by simp)
  have t1 := none_turn C hs (n := 1) (by simp)
  have t3 := none_turn C hs (n := 3) (by simp)
  have t25 := none_turn C hs (n := 25) (by simp)
  have z4 := szT (n := 4) (by omega)
  have st : ∀ (n : Nat) (l : List D) (w : DL.Slot), Imm w → Runs (b_Lno_halls_right_1 C) [.im sz, .im (.int ((n : Nat) : Int))] .nx [.im sz, .im (.int ((n : Nat) : Int))] → ∀ Q E, forL (setI 1) (b_Lno_halls_right_1 C) (.int ((n : Nat) : Int) :: l) [.im sz, w] Q E = forL (setI 1) (b_Lno_halls_right_1 C) l [.im sz, .im (.int ((n : Nat) : Int))] Q E := fun n l w hw t Q E => by
    rw [forL_cons, setI_ok (i := 1) (v := w) rfl hw.io]
    show b_Lno_halls_right_1 C [.im sz, .im (.int ((n : Nat) : Int))] _ _ = _
    rw [t, loopK_nx]
  have lo : b_Lno_halls_right_1 C [.im sz, .im (.int 0)] (fun f e2 => loopK (forL (setI 1) (b_Lno_halls_right_1 C) [.int 1, .int 3, .int 25]) f e2 Q E) E = Q .nx [.im sz, .im (.int 25)] := by
    rw [show Runs (b_Lno_halls_right_1 C) [.im sz, .im (.int 0)] .nx [.im sz, .im (.int 0)] from t0, loopK_nx]
    have a := st 1 [.int 3, .int 25] (.im (.int 0)) (.inr ⟨_, rfl⟩) t1 Q E
    have b := st 3 [.int 25] (.im (.int 1)) (.inr ⟨_, rfl⟩) t3 Q E
    have c := st 25 [] (.im (.int 3)) (.inr ⟨_, rfl⟩) t25 Q E
    exact a.trans (b.trans (c.trans rfl))
  rcases h1 with e | ⟨d, e⟩ <;> subst e <;> simp only [b_Lno_halls_right_2, z4, true_and, ↓wpre0, ↓wpre1, ↓wpre2, ↓wpre3, ↓wpre4, ↓wpre5, wpost0, wpost1, ↓inQ, ↓callA, ↓ioAt, ↓putS, ↓isiD, ↓isi0, ↓hallM, Option.map, List.replicate, Nat.reduceAdd, Nat.reduceSub, ↓if_true, ↓if_false, ↓ite_true, ↓ite_false, reduceIte, oldS, forall_const, putX] <;> exact lo
theorem p_no_halls (Q E) : f_Lno_halls_right C [] Q E = Q (.d (.bl true)) [] := by
  have lo : ∀ (K : DL.Fl → List DL.Slot → Prop) X (R : Prop), (∀ v0 v1, K .nx [v0, v1] = R) → nh1 C [.no, .no] K X = R := fun K X R hR => by
    have key : forL (setI 0) (b_Lno_halls_right_2 C) szL [.no, .no] K X = R :=
      for_all (fun _ env => ∃ v0 v1, Imm v0 ∧ Imm v1 ∧ env = [v0, v1]) ⟨.no, .no, .inl rfl, .inl rfl, rfl⟩
        (fun i d env hi ⟨v0, v1, h0, h1, e⟩ => by
          subst e
          exact ⟨_, _, setI_ok (i := 0) (v := v0) rfl h0.io, none_row C (List.mem_of_getElem? hi) v1 h1, .im d, .im (.int 25), .inr ⟨_, rfl⟩, .inr ⟨_, rfl⟩, rfl⟩)
        fun env ⟨v0, v1, _, _, e⟩ => by subst e; exact hR v0 v1
    have it : ∀ (Q : List D → List DL.Slot → Prop) E, bnd (lstM (consM (tupM (consM (DL.ret (.int 25)) (consM (DL.ret (.int 0)) (DL.ret [])))) (consM (tupM (consM (DL.ret (.int 0)) (consM (DL.ret (.int 1)) (DL.ret [])))) (consM (tupM (consM (DL.ret (.int 3)) (consM (DL.ret (.int 7)) (DL.ret [])))) (consM (tupM (consM (DL.ret (.int 3)) (consM (bnd (DL.ret (.int 1)) negD) (DL.ret [])))) (consM (tupM (consM (DL.ret (.int 3)) (DL.ret []))) (consM (lstM (consM (DL.ret (.int 3)) (consM (DL.ret (.int 0)) (DL.ret [])))) (consM (tupM (consM (DL.ret (.int 3)) (consM (DL.ret (.int 0)) (consM (DL.ret (.int 0)) (DL.ret []))))) (consM (tupM (consM (DL.ret (.bl true)) (consM (DL.ret (.int 0)) (DL.ret [])))) (consM (tupM (consM (DL.ret (.int 1)) (consM (DL.ret (.bl true)) (DL.ret [])))) (consM (DL.ret (.int 3)) (consM (DL.ret .non) (DL.ret []))))))))))))) itLst [.no, .no] Q E = Q szL [.no, .no] := fun Q E => by
      have z1 := szT (n := 1) (by omega)
      have z2 := szT (n := 2) (by omega)
      have z3 := szT (n := 3) (by omega)
      have z11 := szT (n := 11) (by omega)
      simp only [z1, z2, z3, z11, true_and, ↓wpre0, ↓wpre1, ↓wpre2, ↓wpre3, ↓wpre4, ↓wpre5, wpost0, wpost1, ↓inQ, ↓callA, ↓ioAt, ↓putS, ↓isiD, ↓isi0, ↓hallM, Option.map, List.replicate, Nat.reduceAdd, Nat.reduceSub, ↓if_true, ↓if_false, ↓ite_true, ↓ite_false, reduceIte, oldS, forall_const, putX]
      rfl
    show bnd _ itLst [.no, .no] (fun ds env => forL (setI 0) (b_Lno_halls_right_2 C) ds env K X) X = R
    rw [it]
    exact key
  have fin : ∀ (v0 v1 : DL.Slot) Q E, nh2 C [v0, v1] Q E = Q (.rt (.d (.bl true))) [v0, v1] := fun v0 v1 Q E => by
    have q := last_all
    simp only [Bool.and_eq_true] at q
    obtain ⟨⟨q1, q2⟩, q3⟩ := q
    have p0 := pap0 (i := 23) (by decide)
    have S : Said (clN (.tup [.int 24, .int 6]) 24 23 23) (.tup [.int 23]) := ⟨q1, p0.kd, no_cl _ _ _ _, .inl (shP_by q2), p0.sh⟩
    have t := fun Q E => p_told C S true Q E
    rw [q3, beq_self_eq_true] at t
    have ml : ∀ env Q E, mulD (.tup [.non]) (.int 24) env Q E = Q (nonsL 24) env := fun env Q E => mul_non 24 (by decide) env Q E
    have z1 := szT (n := 1) (by omega)
    have z2 := szT (n := 2) (by omega)
    have z5 := szT (n := 5) (by omega)
    simp only [clN] at t
    generalize nonsL 24 = nn at ml t
    simp only [nh2, z1, z2, z5, true_and, ↓ml, ↓t, ↓wpre0, ↓wpre1, ↓wpre2, ↓wpre3, ↓wpre4, ↓wpre5, wpost0, wpost1, ↓inQ, ↓callA, ↓ioAt, ↓putS, ↓isiD, ↓isi0, ↓hallM, Option.map, List.replicate, Nat.reduceAdd, Nat.reduceSub, ↓if_true, ↓if_false, ↓ite_true, ↓ite_false, reduceIte, oldS, forall_const, putX]
  simp only [↓f_Lno_halls_right, nheq, ↓seq_ap, ↓wpre0, ↓wpre1, ↓wpre2, ↓wpre3, ↓wpre4, ↓wpre5, wpost0, wpost1, ↓inQ, ↓callA, ↓ioAt, ↓putS, ↓isiD, ↓isi0, ↓hallM, Option.map, List.replicate, Nat.reduceAdd, Nat.reduceSub, ↓if_true, ↓if_false, ↓ite_true, ↓ite_false, reduceIte, oldS, forall_const, putX]
  exact lo _ _ _ fun v0 v1 => by simp only [seqK, ↓fin, finA, ↓wpre0, ↓wpre1, ↓wpre2, ↓wpre3, ↓wpre4, ↓wpre5, wpost0, wpost1, ↓inQ, ↓callA, ↓ioAt, ↓putS, ↓isiD, ↓isi0, ↓hallM, Option.map, List.replicate, Nat.reduceAdd, Nat.reduceSub, ↓if_true, ↓if_false, ↓ite_true, ↓ite_false, reduceIte, oldS, forall_const, putX]
end
end DLP
set_option Elab.async false
set_option linter.all false
set_option maxRecDepth 100000
set_option maxHeartbeats 4000000
namespace DLP
open PySem PySem.Spec PyProof.Rows L2 DL MW
def tb1 (C : Addr) : M DL.Fl := thenN (bnd (do2 (do2 (dVar 5) (lstM (consM (DL.ret (.int 0)) (DL.ret []))) addD) (bnd (bnd (consO 2 (consD (do2 (bnd (consM (dVar 5) (DL.ret [])) (un1 lenD)) (DL.ret (.int 1)) addD) (DL.ret []))) (callN 2 (f_Ltake C))) resD) ixM) (setI 7))
def tb2 (C : Addr) : M DL.Fl := thenN (bnd (bnd (consM (bnd (bnd (consD (dVar 4) (consD (dVar 7) (DL.ret []))) (callN 2 (f_Lseen C))) resD) (DL.ret [])) (un1 tupD)) (setI 8))
def tb3 (C : Addr) : M DL.Fl := thenN (bnd (tupM (consM (DL.ret (.str "waits")) (consM (dVar 3) (consM (dVar 4) (consM (dVar 7) (consM (do2 (dVar 8) (bnd (DL.ret (.int 1)) negD) ixM) (DL.ret []))))))) (setI 9))
def tb4 (C : Addr) : M DL.Fl := ifM (do2 (bnd (bnd (consO 2 (consD (DL.ret (.int 2)) (DL.ret []))) (callN 2 (f_Ltake C))) resD) (DL.ret (.int 0)) fun x y => bnd (eqM x y) asB) (thenN (bnd (bnd (bnd (consO 2 (consD (dVar 8) (consD (DL.ret (.int 2)) (DL.ret [])))) (callN 3 (f_Lbentr3 C))) resD) (setI 8))) (thenN (bnd (bnd (bnd (consO 2 (consD (dVar 9) (consD (DL.ret (.int 3)) (DL.ret [])))) (callN 3 (f_Lbentr3 C))) resD) (setI 9)))
def tb5 (C : Addr) : M DL.Fl := ifM (notB (bnd (bnd (bnd (consD (dVar 9) (consD (dVar 8) (consD (bnd (bnd (consD (dVar 9) (consD (dVar 8) (DL.ret []))) (callN 2 (f_Lis_waits C))) resD) (DL.ret [])))) (callN 3 (f_Ltold C))) resD) truD)) (bnd (DL.ret (.bl false)) fun d => DL.ret (.rt (.d d))) (DL.ret .nx)
theorem tbeq (C : Addr) : b_law_2 C = seqM (tb1 C) (seqM (tb2 C) (seqM (tb3 C) (seqM (tb4 C) (tb5 C)))) := rfl
def lw1 (C : Addr) : M DL.Fl := thenN (bnd (bnd (bnd (consD (bnd (bnd (consD (dVar 0) (consD (dVar 1) (DL.ret []))) (callN 2 (f_Lcell C))) resD) (DL.ret [])) (callN 1 (f_Lpool C))) resO) (setO 2))
def lw2 (C : Addr) : M DL.Fl := thenN (bnd (do2 (lstM (consM (bnd (bnd (consO 2 (consD (DL.ret (.int 8)) (consD (DL.ret (.int 2)) (DL.ret [])))) (callN 3 (f_Lsizes C))) resD) (consM (tupM (consM (DL.ret (.int 24)) (consM (DL.ret (.int 6)) (DL.ret [])))) (DL.ret [])))) (bnd (consM (do2 (bnd (bnd (consO 2 (consD (DL.ret (.int 6)) (DL.ret []))) (callN 2 (f_Ltake C))) resD) (DL.ret (.int 1)) eqM) (DL.ret [])) (un1 intD)) ixM) (setI 3))
def lw3 (C : Addr) : M DL.Fl := thenN (bnd (bnd (bnd (consO 2 (consD (dVar 3) (DL.ret []))) (callN 2 (f_Lstood C))) resD) (setI 4))
def lw4 (C : Addr) : M DL.Fl := ifM (notB (bnd (bnd (bnd (consD (dVar 3) (consD (dVar 4) (DL.ret []))) (callN 2 (f_Leach_right C))) resD) truD)) (bnd (DL.ret (.bl false)) fun d => DL.ret (.rt (.d d))) (DL.ret .nx)
def lw5 (C : Addr) : M DL.Fl := thenN (bnd (frzM (c_law_1 C)) (setI 5))
def lw6 (C : Addr) : M DL.Fl := forM (bnd (consM (DL.ret (.int 14)) (DL.ret [])) itR1) (setI 6) (b_law_2 C)
theorem lweq (C : Addr) : b_law_3 C = seqM (lw1 C) (seqM (lw2 C) (seqM (lw3 C) (seqM (lw4 C) (seqM (lw5 C) (lw6 C))))) := rfl
def NOw (v : DL.Slot) : Prop := v = .no ∨ ∃ o, v = .ow o
theorem p_bent2 (C : Addr) {n : Nat} {d : D} (hd : Lv n d) (p : Pl) : ∃ (r : D) (p' : Pl), Bt n r ∧ ∀ (x : Addr) Q E, f_Lbentr3 C [.io x p.o, .im d, .im (.int 2)] Q E = Q (.d r) [.io x p'.o, .im d, .im (.int 2)] := by
  have h0 := bent_def C (f_Lbentr0 C) 0 fun z => absurd rfl z
  have h1 := bent_def C (f_Lbentr1 C) 1 fun _ => h0
  exact bent_def C (f_Lbentr2 C) 2 (fun _ => h1) n d hd p
abbrev lE (ns : List Int) (v1 : DL.Slot) (p : Pl) (g s : Int) (a : Sd) (L : List Int) (v6 v7 v8 v9 : DL.Slot) : List DL.Slot := [.im (.scr ns), v1, .ow p.o, .im (szD g s), .im (stD a), .im (.lst (L.map .int)), v6, v7, v8, v9]
section
variable (C : Addr) (ns : List Int)
theorem bent_turn (v1 : DL.Slot) (p : Pl) {g s : Int} {st : Sd} (A : Stand g s st) {L : List Int} (hl : L.length ≤ 24) (bL : ∀ i ∈ L, 0 ≤ i ∧ i < g) : ∃ q : Pl, ∀ (v6 v7 v8 v9 : DL.Slot), Imm v7 → Imm v8 → Imm v9 → ∃ w7 w8 w9, Imm w7 ∧ Imm w8 ∧ Imm w9 ∧ Runs (b_law_2 C) (lE ns v1 p g s st L v6 v7 v8 v9) .nx (lE ns v1 q g s st L v6 w7 w8 w9) := by
  have hg := A.hg
  have hs := A.hs
  have hw : (0 : Int) < ((L.length : Nat) : Int) + 1 := by omega
  obtain ⟨b1, b2⟩ := p.bd hw
  have lm : ((L.map D.int ++ [D.int 0]).length) = L.length + 1 := by rw [List.length_append, List.length_map]; rfl
  obtain ⟨o, mo, _, ix0⟩ := ixL_nat (l := L.map D.int ++ [D.int 0]) (k := p.dr (((L.length : Nat) : Int) + 1)) ⟨b1, by rw [lm]; omega⟩
  have tk0 := fun x Q E => p_tk C x p (((L.length : Nat) : Int) + 1) hw (by omega) Q E
  generalize p.dr (((L.length : Nat) : Int) + 1) = dr0 at ix0 tk0 b1 b2
  generalize p.st (((L.length : Nat) : Int) + 1) = p1 at tk0
  have hk : ∃ k, o = .int k ∧ 0 ≤ k ∧ k < g := by
    rcases List.mem_append.mp mo with h | h
    · obtain ⟨i, hi, e⟩ := List.mem_map.mp h
      exact ⟨i, e.symm, bL i hi⟩
    · exact ⟨0, List.mem_singleton.mp h, by omega, by omega⟩
  obtain ⟨k, rfl, hk⟩ := hk
  obtain ⟨a, z, du, pd⟩ := p_due C A hk
  have bz := du.bz
  have rowL : Lv 1 (.tup ((a ++ [z]).map .int)) := ints_lv (by have := du.len; rw [List.length_append, List.length_singleton]; omega) fun i hi => (List.mem_append.mp hi).elim (fun w => by have := du.bd i w; omega) fun w => by rw [List.mem_singleton.mp w]; omega
  have clL : Lv 2 (clW (szD g s) st k z) := claim_lv A (by omega) (by omega)
  have z1 := szT (n := L.length + 1) (by omega)
  have z1' := szT (n := 1) (by omega)
  have z5 := szT (n := 5) (by omega)
  have ixl : ∀ env Q E, ixM (.tup ((a ++ [z]).map .int)) (.int (-1)) env Q E = Q (.int z) env := fun env Q E => by
    unfold ixM
    simp only [last_ints]
    rfl
  have lml : ((L.map D.int).length) = L.length := List.length_map ..
  have r1 : ∀ (v6 v7 v8 v9 : DL.Slot), Imm v7 → Runs (tb1 C) (lE ns v1 p g s st L v6 v7 v8 v9) .nx (lE ns v1 p1 g s st L v6 (.im (.int k)) v8 v9) := fun v6 v7 v8 v9 h7 Q E => by
    rcases h7 with e | ⟨d7, e⟩ <;> subst e <;> simp only [lE, tb1, z1', lml, z1, true_and, ↓tk0, ↓ix0, ↓wpre0, ↓wpre1, ↓wpre2, ↓wpre3, ↓wpre4, ↓wpre5, wpost0, wpost1, ↓inQ, ↓callA, ↓ioAt, ↓putS, ↓isiD, ↓isi0, ↓hallM, Option.map, List.replicate, Nat.reduceAdd, Nat.reduceSub, ↓if_true, ↓if_false, ↓ite_true, ↓ite_false, reduceIte, oldS, forall_const, putX]
  have r2 : ∀ (v6 v8 v9 : DL.Slot), Imm v8 → Runs (tb2 C) (lE ns v1 p1 g s st L v6 (.im (.int k)) v8 v9) .nx (lE ns v1 p1 g s st L v6 (.im (.int k)) (.im (.tup ((a ++ [z]).map .int))) v9) := fun v6 v8 v9 h8 Q E => by
    rcases h8 with e | ⟨d8, e⟩ <;> subst e <;> simp only [lE, tb2, ↓pd, ↓wpre0, ↓wpre1, ↓wpre2, ↓wpre3, ↓wpre4, ↓wpre5, wpost0, wpost1, ↓inQ, ↓callA, ↓ioAt, ↓putS, ↓isiD, ↓isi0, ↓hallM, Option.map, List.replicate, Nat.reduceAdd, Nat.reduceSub, ↓if_true, ↓if_false, ↓ite_true, ↓ite_false, reduceIte, oldS, forall_const, putX]
  have r3 : ∀ (v6 v9 : DL.Slot), Imm v9 → Runs (tb3 C) (lE ns v1 p1 g s st L v6 (.im (.int k)) (.im (.tup ((a ++ [z]).map .int))) v9) .nx (lE ns v1 p1 g s st L v6 (.im (.int k)) (.im (.tup ((a ++ [z]).map .int))) (.im (clW (szD g s) st k z))) := fun v6 v9 h9 Q E => by
    rcases h9 with e | ⟨d9, e⟩ <;> subst e <;> simp only [lE, tb3, clW, z5, true_and, ↓neg1, ↓ixl, ↓wpre0, ↓wpre1, ↓wpre2, ↓wpre3, ↓wpre4, ↓wpre5, wpost0, wpost1, ↓inQ, ↓callA, ↓ioAt, ↓putS, ↓isiD, ↓isi0, ↓hallM, Option.map, List.replicate, Nat.reduceAdd, Nat.reduceSub, ↓if_true, ↓if_false, ↓ite_true, ↓ite_false, reduceIte, oldS, forall_const, putX]
  have tk := fun x Q E => p_tk C x p1 2 (by decide) (by decide) Q E
  have last : ∀ (q : Pl) (v6 v7 : DL.Slot) {c r : D}, Said c r → Runs (tb5 C) (lE ns v1 q g s st L v6 v7 (.im r) (.im c)) .nx (lE ns v1 q g s st L v6 v7 (.im r) (.im c)) := fun q v6 v7 c r S Q E => by
    have c1 := fun Q E => p_is_waits C S Q E
    have t1 := fun Q E => p_told C S (holdsB c r) Q E
    rw [beq_self_eq_true] at t1
    simp only [lE, tb5, ↓c1, ↓t1, ↓wpre0, ↓wpre1, ↓wpre2, ↓wpre3, ↓wpre4, ↓wpre5, wpost0, wpost1, ↓inQ, ↓callA, ↓ioAt, ↓putS, ↓isiD, ↓isi0, ↓hallM, Option.map, List.replicate, Nat.reduceAdd, Nat.reduceSub, ↓if_true, ↓if_false, ↓ite_true, ↓ite_false, reduceIte, oldS, forall_const, putX]
  by_cases z0 : p1.dr 2 = 0
  · have e1 : (p1.dr 2 == 0) = true := beq_iff_eq.mpr z0
    obtain ⟨r, q, hr', run⟩ := p_bent2 C rowL (p1.st 2)
    refine ⟨q, fun v6 v7 v8 v9 h7 h8 h9 => ⟨_, _, _, .inr ⟨.int k, rfl⟩, .inr ⟨r, rfl⟩, .inr ⟨clW (szD g s) st k z, rfl⟩, fun Q E => ?_⟩⟩
    have r4 : Runs (tb4 C) (lE ns v1 p1 g s st L v6 (.im (.int k)) (.im (.tup ((a ++ [z]).map .int))) (.im (clW (szD g s) st k z))) .nx (lE ns v1 q g s st L v6 (.im (.int k)) (.im r) (.im (clW (szD g s) st k z))) := fun Q E => by
      simp only [lE, tb4, ↓tk, e1, ↓run, ↓wpre0, ↓wpre1, ↓wpre2, ↓wpre3, ↓wpre4, ↓wpre5, wpost0, wpost1, ↓inQ, ↓callA, ↓ioAt, ↓putS, ↓isiD, ↓isi0, ↓hallM, Option.map, List.replicate, Nat.reduceAdd, Nat.reduceSub, ↓if_true, ↓if_false, ↓ite_true, ↓ite_false, reduceIte, oldS, forall_const, putX]
    rw [tbeq, seq_run (r1 v6 v7 v8 v9 h7), seq_run (r2 v6 v8 v9 h8), seq_run (r3 v6 v9 h9), seq_run r4, last q v6 _ (said_of (Nat.le_refl 2) (.plain clL) (hr'.pap (by decide)))]
  · have e1 : (p1.dr 2 == 0) = false := ii_ne z0
    obtain ⟨r, q, hr', run⟩ := p_bent C clL (p1.st 2)
    refine ⟨q, fun v6 v7 v8 v9 h7 h8 h9 => ⟨_, _, _, .inr ⟨.int k, rfl⟩, .inr ⟨.tup ((a ++ [z]).map .int), rfl⟩, .inr ⟨r, rfl⟩, fun Q E => ?_⟩⟩
    have r4 : Runs (tb4 C) (lE ns v1 p1 g s st L v6 (.im (.int k)) (.im (.tup ((a ++ [z]).map .int))) (.im (clW (szD g s) st k z))) .nx (lE ns v1 q g s st L v6 (.im (.int k)) (.im (.tup ((a ++ [z]).map .int))) (.im r)) := fun Q E => by
      simp only [lE, tb4, ↓tk, e1, ↓run, ↓wpre0, ↓wpre1, ↓wpre2, ↓wpre3, ↓wpre4, ↓wpre5, wpost0, wpost1, ↓inQ, ↓callA, ↓ioAt, ↓putS, ↓isiD, ↓isi0, ↓hallM, Option.map, List.replicate, Nat.reduceAdd, Nat.reduceSub, ↓if_true, ↓if_false, ↓ite_true, ↓ite_false, reduceIte, oldS, forall_const, putX]
    rw [tbeq, seq_run (r1 v6 v7 v8 v9 h7), seq_run (r2 v6 v8 v9 h8), seq_run (r3 v6 v9 h9), seq_run r4, last q v6 _ (said_of (Nat.le_refl 2) hr' (Lv.pap (by decide) rowL))]
theorem lw1_ {kk : Int} (hk : 0 ≤ kk ∧ kk < 1000) : ∃ p0 : Pl, ∀ (v2 v3 v4 v5 v6 v7 v8 v9 : DL.Slot), NOw v2 → ∀ Q E, lw1 C [.im (.scr ns), .im (.int kk), v2, v3, v4, v5, v6, v7, v8, v9] Q E = Q .nx [.im (.scr ns), .im (.int kk), .ow p0.o, v3, v4, v5, v6, v7, v8, v9] := by
  have pc := fun Q E => p_cell C ns kk hk Q E
  have pp := fun Q E => p_pool C (cellV ns kk) Q E
  refine ⟨⟨cellV ns kk % 2147483399, poolB (cellV ns kk), 0⟩, fun v2 v3 v4 v5 v6 v7 v8 v9 n2 Q E => ?_⟩
  rcases n2 with e | ⟨u, e⟩ <;> subst e <;> simp only [↓lw1, ↓pc, ↓pp, ↓resO, Pl.o, ↓wpre0, ↓wpre1, ↓wpre2, ↓wpre3, ↓wpre4, ↓wpre5, wpost0, wpost1, ↓inQ, ↓callA, ↓ioAt, ↓putS, ↓isiD, ↓isi0, ↓hallM, Option.map, List.replicate, Nat.reduceAdd, Nat.reduceSub, ↓if_true, ↓if_false, ↓ite_true, ↓ite_false, reduceIte, oldS, forall_const, putX]
theorem lw2_ (p0 : Pl) : ∃ (g s : Int) (p1 : Pl), (1 ≤ g ∧ g ≤ 24) ∧ (0 ≤ s ∧ s ≤ 6) ∧ ∀ (v1 v3 v4 v5 v6 v7 v8 v9 : DL.Slot), Imm v3 → ∀ Q E, lw2 C [.im (.scr ns), v1, .ow p0.o, v3, v4, v5, v6, v7, v8, v9] Q E = Q .nx [.im (.scr ns), v1, .ow p1.o, .im (szD g s), v4, v5, v6, v7, v8, v9] := by
  obtain ⟨g, s, p1, hg, hs, r2⟩ := p_sizes C p0 (u := 8) (w := 2) (by decide) (by decide)
  have tk := fun x Q E => p_tk C x p1 6 (by decide) (by decide) Q E
  have z2 := szT (n := 2) (by omega)
  have i0 : ∀ env Q E, DL.intD (.bl false) env Q E = Q (.int 0) env := fun _ _ _ => rfl
  have i1 : ∀ env Q E, DL.intD (.bl true) env Q E = Q (.int 1) env := fun _ _ _ => rfl
  have x0 : ∀ a b env Q E, ixM (.lst [a, b]) (.int 0) env Q E = Q a env := fun _ _ _ _ _ => rfl
  have x1 : ∀ a b env Q E, ixM (.lst [a, b]) (.int 1) env Q E = Q b env := fun _ _ _ _ _ => rfl
  by_cases z : p1.dr 6 = 1
  · have e1 : (p1.dr 6 == 1) = true := beq_iff_eq.mpr z
    refine ⟨24, 6, p1.st 6, by decide, by decide, fun v1 v3 v4 v5 v6 v7 v8 v9 n3 Q E => ?_⟩
    rcases n3 with e | ⟨d, e⟩ <;> subst e <;> simp only [↓lw2, ↓r2, z2, ↓tk, e1, ↓i1, ↓x1, szD, true_and, ↓wpre0, ↓wpre1, ↓wpre2, ↓wpre3, ↓wpre4, ↓wpre5, wpost0, wpost1, ↓inQ, ↓callA, ↓ioAt, ↓putS, ↓isiD, ↓isi0, ↓hallM, Option.map, List.replicate, Nat.reduceAdd, Nat.reduceSub, ↓if_true, ↓if_false, ↓ite_true, ↓ite_false, reduceIte, oldS, forall_const, putX]
  · have e1 : (p1.dr 6 == 1) = false := ii_ne z
    refine ⟨g, s, p1.st 6, by omega, by omega, fun v1 v3 v4 v5 v6 v7 v8 v9 n3 Q E => ?_⟩
    rcases n3 with e | ⟨d, e⟩ <;> subst e <;> simp only [↓lw2, ↓r2, z2, ↓tk, e1, ↓i0, ↓x0, szD, true_and, ↓wpre0, ↓wpre1, ↓wpre2, ↓wpre3, ↓wpre4, ↓wpre5, wpost0, wpost1, ↓inQ, ↓callA, ↓ioAt, ↓putS, ↓isiD, ↓isi0, ↓hallM, Option.map, List.replicate, Nat.reduceAdd, Nat.reduceSub, ↓if_true, ↓if_false, ↓ite_true, ↓ite_false, reduceIte, oldS, forall_const, putX]
theorem lw3_ (p1 : Pl) {g s : Int} (hg : 1 ≤ g ∧ g ≤ 24) (hs : 0 ≤ s ∧ s ≤ 6) : ∃ (a : Sd) (p : Pl), Stand g s a ∧ ∀ (v1 v4 v5 v6 v7 v8 v9 : DL.Slot), Imm v4 → ∀ Q E, lw3 C [.im (.scr ns), v1, .ow p1.o, .im (szD g s), v4, v5, v6, v7, v8, v9] Q E = Q .nx [.im (.scr ns), v1, .ow p.o, .im (szD g s), .im (stD a), v5, v6, v7, v8, v9] := by
  obtain ⟨a, p, St, r⟩ := p_stood C p1 g s hg hs
  refine ⟨a, p, St, fun v1 v4 v5 v6 v7 v8 v9 n4 Q E => ?_⟩
  rcases n4 with e | ⟨d, e⟩ <;> subst e <;> simp only [↓lw3, szD, ↓r, ↓wpre0, ↓wpre1, ↓wpre2, ↓wpre3, ↓wpre4, ↓wpre5, wpost0, wpost1, ↓inQ, ↓callA, ↓ioAt, ↓putS, ↓isiD, ↓isi0, ↓hallM, Option.map, List.replicate, Nat.reduceAdd, Nat.reduceSub, ↓if_true, ↓if_false, ↓ite_true, ↓ite_false, reduceIte, oldS, forall_const, putX]
theorem lw4_ (p : Pl) {g s : Int} {st : Sd} (A : Stand g s st) (v1 v5 v6 v7 v8 v9 : DL.Slot) : Runs (lw4 C) [.im (.scr ns), v1, .ow p.o, .im (szD g s), .im (stD st), v5, v6, v7, v8, v9] .nx [.im (.scr ns), v1, .ow p.o, .im (szD g s), .im (stD st), v5, v6, v7, v8, v9] := fun Q E => by
  have pr := fun Q E => p_each_right C A Q E
  simp only [lw4, ↓pr, ↓wpre0, ↓wpre1, ↓wpre2, ↓wpre3, ↓wpre4, ↓wpre5, wpost0, wpost1, ↓inQ, ↓callA, ↓ioAt, ↓putS, ↓isiD, ↓isi0, ↓hallM, Option.map, List.replicate, Nat.reduceAdd, Nat.reduceSub, ↓if_true, ↓if_false, ↓ite_true, ↓ite_false, reduceIte, oldS, forall_const, putX]
theorem lw5_ (p : Pl) {g s : Int} {st : Sd} (A : Stand g s st) (v1 v5 v6 v7 v8 v9 : DL.Slot) (h5 : Imm v5) (h7 : Imm v7) : ∃ w7, Imm w7 ∧ Runs (lw5 C) [.im (.scr ns), v1, .ow p.o, .im (szD g s), .im (stD st), v5, v6, v7, v8, v9] .nx (lE ns v1 p g s st ((nums g).filter fun k => (seatAt st k).isNone) v6 w7 v8 v9) := by
  have hg := A.hg
  have b1 : ((-2 ^ 62 : Int) ≤ g ∧ g < 2 ^ 62) = True := eq_true (by omega)
  have sx : ∀ env Q E, ixM (szD g s) (.int 0) env Q E = Q (.int g) env := fun env Q E => ixa _ _ env Q E
  have cr : Runs (c_law_1 C) [.im (.scr ns), v1, .ow p.o, .im (szD g s), .im (stD st), v5, v6, v7, v8, v9] (.lst (((nums g).filter fun k => (seatAt st k).isNone).map .int)) [.im (.scr ns), v1, .ow p.o, .im (szD g s), .im (stD st), v5, v6, v7, v8, v9] :=
    comp_pure (nums g) D.int (fun k => (seatAt st k).isNone) D.int (fun Q E => by simp only [↓sx, b1, true_and, range_nums, ↓wpre0, ↓wpre1, ↓wpre2, ↓wpre3, ↓wpre4, ↓wpre5, wpost0, wpost1, ↓inQ, ↓callA, ↓ioAt, ↓putS, ↓isiD, ↓isi0, ↓hallM, Option.map, List.replicate, Nat.reduceAdd, Nat.reduceSub, ↓if_true, ↓if_false, ↓ite_true, ↓ite_false, reduceIte, oldS, forall_const, putX]) (by rw [nums_len]; omega) (by rcases h7 with e | ⟨d, e⟩ <;> subst e <;> rfl) fun k hk => ⟨[.im (.scr ns), v1, .ow p.o, .im (szD g s), .im (stD st), v5, v6, .im (.int k), v8, v9], rfl, fun Q E => rfl, fun Q E => by
      have ix : ∀ env Q E, ixM (stD st) (.int k) env Q E = Q (oD (seatAt st k)) env := fun env Q E => ixM_st A (nums_mem.mp hk) env Q E
      simp only [↓ix, ↓isNon_o, ↓wpre0, ↓wpre1, ↓wpre2, ↓wpre3, ↓wpre4, ↓wpre5, wpost0, wpost1, ↓inQ, ↓callA, ↓ioAt, ↓putS, ↓isiD, ↓isi0, ↓hallM, Option.map, List.replicate, Nat.reduceAdd, Nat.reduceSub, ↓if_true, ↓if_false, ↓ite_true, ↓ite_false, reduceIte, oldS, forall_const, putX], fun _ Q E => rfl⟩
  refine ⟨v7, h7, fun Q E => ?_⟩
  rcases h5 with e | ⟨d, e⟩ <;> subst e <;> simp only [lw5, lE, ↓cr, ↓wpre0, ↓wpre1, ↓wpre2, ↓wpre3, ↓wpre4, ↓wpre5, wpost0, wpost1, ↓inQ, ↓callA, ↓ioAt, ↓putS, ↓isiD, ↓isi0, ↓hallM, Option.map, List.replicate, Nat.reduceAdd, Nat.reduceSub, ↓if_true, ↓if_false, ↓ite_true, ↓ite_false, reduceIte, oldS, forall_const, putX]
theorem lw6_ (v1 : DL.Slot) (p : Pl) {g s : Int} {st : Sd} (A : Stand g s st) {L : List Int} (hl : L.length ≤ 24) (bL : ∀ i ∈ L, 0 ≤ i ∧ i < g) (v6 v7 v8 v9 : DL.Slot) (h6 : Imm v6) (h7 : Imm v7) (h8 : Imm v8) (h9 : Imm v9) (Q : DL.Fl → List DL.Slot → Prop) (E) (R : Prop) (hR : ∀ q w6 w7 w8 w9, Imm w6 → Imm w7 → Imm w8 → Imm w9 → Q .nx (lE ns v1 q g s st L w6 w7 w8 w9) = R) : lw6 C (lE ns v1 p g s st L v6 v7 v8 v9) Q E = R := by
  have b1 : ((-2 ^ 62 : Int) ≤ 14 ∧ (14 : Int) < 2 ^ 62) = True := eq_true (by omega)
  have lo : forL (setI 6) (b_law_2 C) (rangeL 0 14) (lE ns v1 p g s st L v6 v7 v8 v9) Q E = R :=
    for_all (fun _ env => ∃ q w6 w7 w8 w9, Imm w6 ∧ Imm w7 ∧ Imm w8 ∧ Imm w9 ∧ env = lE ns v1 q g s st L w6 w7 w8 w9) ⟨p, v6, v7, v8, v9, h6, h7, h8, h9, rfl⟩
      (fun i d env hi ⟨q, w6, w7, w8, w9, x6, x7, x8, x9, e⟩ => by
        subst e
        obtain ⟨q', run⟩ := bent_turn C ns v1 q A hl bL
        obtain ⟨u7, u8, u9, y7, y8, y9, run⟩ := run (.im d) w7 w8 w9 x7 x8 x9
        exact ⟨_, _, setI_ok (i := 6) (v := w6) rfl x6.io, run, q', .im d, u7, u8, u9, .inr ⟨_, rfl⟩, y7, y8, y9, rfl⟩)
      fun env ⟨q, w6, w7, w8, w9, x6, x7, x8, x9, e⟩ => by subst e; exact hR q w6 w7 w8 w9 x6 x7 x8 x9
  simp only [lw6, b1, true_and, ↓wpre0, ↓wpre1, ↓wpre2, ↓wpre3, ↓wpre4, ↓wpre5, wpost0, wpost1, ↓inQ, ↓callA, ↓ioAt, ↓putS, ↓isiD, ↓isi0, ↓hallM, Option.map, List.replicate, Nat.reduceAdd, Nat.reduceSub, ↓if_true, ↓if_false, ↓ite_true, ↓ite_false, reduceIte, oldS, forall_const, putX]
  exact lo
/-- the law's names between two cells -/
def CellI (ns : List Int) (env : List DL.Slot) : Prop := ∃ v1 v2 v3 v4 v5 v6 v7 v8 v9, env = [.im (.scr ns), v1, v2, v3, v4, v5, v6, v7, v8, v9] ∧ Imm v1 ∧ NOw v2 ∧ Imm v3 ∧ Imm v4 ∧ Imm v5 ∧ Imm v6 ∧ Imm v7 ∧ Imm v8 ∧ Imm v9
theorem for_imp {tg : D → M Unit} {body : M DL.Fl} {Q : DL.Fl → List DL.Slot → Prop} {E : Exn → List DL.Slot → Prop} (I : Nat → List DL.Slot → Prop) : ∀ (ds pre : List D) (env : List DL.Slot), I pre.length env →
    (∀ i d env, (pre ++ ds)[i]? = some d → I i env → ∀ (Q : DL.Fl → List DL.Slot → Prop) (E : Exn → List DL.Slot → Prop), (∀ e2, I (i + 1) e2 → Q .nx e2) → tg d env (fun _ e1 => body e1 Q E) E) → (∀ env, I (pre ++ ds).length env → Q .nx env) → forL tg body ds env Q E
  | [], pre, env, h0, _, hq => hq env (by simpa using h0)
  | d :: ds, pre, env, h0, turn, hq => by
    rw [forL_cons]
    refine turn pre.length d env (by simp) h0 _ _ fun e2 i2 => ?_
    rw [loopK_nx]
    exact for_imp I ds (pre ++ [d]) e2 (by simpa using i2) (by simpa using turn) (by simpa using hq)
theorem p_cellR (kk : Int) (hk : 0 ≤ kk ∧ kk < 1000) (env : List DL.Slot) (hI : CellI ns env) (h1 : env[1]? = some (.im (.int kk))) (Q : DL.Fl → List DL.Slot → Prop) (E : Exn → List DL.Slot → Prop) (hq : ∀ e2, CellI ns e2 → Q .nx e2) : b_law_3 C env Q E := by
  obtain ⟨v1, v2, v3, v4, v5, v6, v7, v8, v9, rfl, n1, n2, n3, n4, n5, n6, n7, n8, n9⟩ := hI
  cases h1
  obtain ⟨p0, r1⟩ := lw1_ C ns hk
  obtain ⟨g, s, p1, hg, hs, r2⟩ := lw2_ C ns p0
  obtain ⟨st, p, A, r3⟩ := lw3_ C ns p1 hg hs
  have r4 := lw4_ C ns p A (.im (.int kk)) v5 v6 v7 v8 v9
  obtain ⟨w7, n7', r5⟩ := lw5_ C ns p A (.im (.int kk)) v5 v6 v7 v8 v9 n5 n7
  have bL : ∀ i ∈ (nums g).filter fun k => (seatAt st k).isNone, 0 ≤ i ∧ i < g := fun i hi => nums_mem.mp (List.mem_filter.mp hi).1
  have lL : ((nums g).filter fun k => (seatAt st k).isNone).length ≤ 24 := by
    have := List.length_filter_le (fun k => (seatAt st k).isNone) (nums g)
    rw [nums_len] at this
    omega
  generalize ((nums g).filter fun k => (seatAt st k).isNone) = L at r5 bL lL
  rw [lweq, seq_run (r1 v2 v3 v4 v5 v6 v7 v8 v9 n2), seq_run (r2 _ v3 v4 v5 v6 v7 v8 v9 n3), seq_run (r3 _ v4 v5 v6 v7 v8 v9 n4), seq_run r4, seq_run r5]
  rw [lw6_ C ns (.im (.int kk)) p A lL bL v6 w7 v8 v9 n6 n7' n8 n9 Q E True fun q' w6 w7 w8 w9 x6 x7 x8 x9 => eq_true (hq _ ⟨_, _, _, _, _, _, _, _, _, rfl, .inr ⟨_, rfl⟩, .inr ⟨_, rfl⟩, .inr ⟨_, rfl⟩, .inr ⟨_, rfl⟩, .inr ⟨_, rfl⟩, x6, x7, x8, x9⟩)]
  trivial
end
theorem plain (C : Addr) (ns : List Int) (h : ns.length ≤ 63) : f_law C [.im (.scr ns)] (fun r _ => r = .d (.bl true)) (fun _ _ => False) := by
  have m : ∃ t : Int, (2 ≤ t ∧ t ≤ 4) ∧ (if (if (4 : Int) < (ns.length : Int) then 4 else (ns.length : Int)) > 2 then (if (4 : Int) < (ns.length : Int) then 4 else (ns.length : Int)) else 2) = t := ⟨_, by split <;> split <;> omega, rfl⟩
  obtain ⟨t, ht, e⟩ := m
  have b1 : -(2 ^ 62) ≤ t ∧ t < 2 ^ 62 := by omega
  have pl := fun Q E => p_no_halls C Q E
  simp only [↓f_law, ↓m_law, ↓pl, e, b1, range_nums, ↓wpre0, ↓wpre1, ↓wpre2, ↓wpre3, ↓wpre4, ↓wpre5, wpost0, wpost1, ↓inQ, ↓callA, ↓ioAt, ↓putS, ↓isiD, ↓isi0, ↓hallM, Option.map, List.replicate, Nat.reduceAdd, Nat.reduceSub, ↓if_true, ↓if_false, ↓ite_true, ↓ite_false, reduceIte, oldS, forall_const, putX]
  refine for_imp (fun _ env => CellI ns env) ((nums t).map .int) [] _ ⟨_, _, _, _, _, _, _, _, _, rfl, .inl rfl, .inl rfl, .inl rfl, .inl rfl, .inl rfl, .inl rfl, .inl rfl, .inl rfl, .inl rfl⟩ ?_ ?_
  · intro i d env hi hI Q E hq
    have hi' : i < t.toNat := by have := (List.getElem?_eq_some_iff.mp hi).1; rwa [List.nil_append, List.length_map, nums_len] at this
    rw [List.nil_append, List.getElem?_map, nums_get hi'] at hi
    cases hi
    obtain ⟨v1, v2, v3, v4, v5, v6, v7, v8, v9, rfl, n1, n2, n3, n4, n5, n6, n7, n8, n9⟩ := hI
    have st : setI 1 (.int i) [.im (.scr ns), v1, v2, v3, v4, v5, v6, v7, v8, v9] (fun _ e1 => b_law_3 C e1 Q E) E = b_law_3 C [.im (.scr ns), .im (.int i), v2, v3, v4, v5, v6, v7, v8, v9] Q E := by
      rcases n1 with e | ⟨d8, e⟩ <;> subst e <;> rfl
    rw [st]
    exact p_cellR C ns i (by omega) _ ⟨.im (.int i), v2, v3, v4, v5, v6, v7, v8, v9, rfl, .inr ⟨_, rfl⟩, n2, n3, n4, n5, n6, n7, n8, n9⟩ rfl Q E hq
  · rintro env ⟨v1, v2, v3, v4, v5, v6, v7, v8, v9, rfl, _, _, _, _, _, _, _, _, _⟩
    simp only [↓wpre0, ↓wpre1, ↓wpre2, ↓wpre3, ↓wpre4, ↓wpre5, wpost0, wpost1, ↓inQ, ↓callA, ↓ioAt, ↓putS, ↓isiD, ↓isi0, ↓hallM, Option.map, List.replicate, Nat.reduceAdd, Nat.reduceSub, ↓if_true, ↓if_false, ↓ite_true, ↓ite_false, reduceIte, oldS, forall_const, putX]
end DLP
set_option Elab.async false
set_option linter.all false
set_option maxRecDepth 100000
set_option maxHeartbeats 0
open PySem PySem.W PySem.Calls PyProof.Rows
set_option Elab.async false
set_option linter.all false
set_option maxRecDepth 100000
set_option maxHeartbeats 2000000
namespace DLt
open PySem PySem.Spec PyProof.Rows L2
section
variable {X : Cx} {pins : List (Addr × Obj)} {σ : L2.St} {H : Hp} {s : Shared} {vs : List V} {us : List Value} {Q : VK}
theorem made (J : Inv X pins σ H s) (rv : Vals vs us) (sz : vs.length ≤ sizeLine) (nt : NewT vs H Q) : EP X pins σ Q (.ref s.heap.objs.size) { s with heap := s.heap.push { cls := .type "tuple", data := .seq us.toArray } } := by
  have none' : H s.heap.objs.size = none := J.hok.fresh (Nat.le_refl _)
  refine ⟨V.ref s.heap.objs.size, upd H s.heap.objs.size (.frz { cls := .type "tuple", data := .seq us.toArray } (.tup vs)), ?_, rfl, nt _ _ rfl none'⟩
  exact J.laid (t' := s.toks) (fun c oc ec => Heap.get?_push_of_some _ ec) (Nat.le_refl _) ⟨Heap.get?_push_size _ rfl, sz, us, rv, IsTup.new _ _⟩
/-- (a, b, ..) -/
def fTup (t : TA) : TE := fun σ H Q => t σ H fun vs H1 => vs.length ≤ sizeLine ∧ NewT vs H1 Q
theorem pf_tup {t : TA} {es : List Expr} {k} {pos : Pos} (pa : PA X es t) : PE X (.Tuple es k pos) (fTup t) := ⟨fun pins s σ H Q J hq =>
  wpAny_Tuple_spliced (thn (pa.run pos pins s σ H _ J hq) fun us s1 ⟨vs, H1, J1, rv, sz, nt⟩ => ⟨rv.length ▸ sz, made J1 rv sz nt⟩)⟩
/-- t + u -/
def fCat (K : PySem.W.Frag) : R2 := fun x y H Q => ∃ a b vs ws, x = .ref a ∧ y = .ref b ∧ SqT K H a vs ∧ SqT K H b ws ∧ vs.length + ws.length ≤ sizeLine ∧
  (vs = [] → Q (.ref b) H) ∧ (ws = [] → Q (.ref a) H) ∧ NewT (vs ++ ws) H Q
theorem op_catF : OpR X (binaryOp .Add) (fCat X.K) := by
  rintro pins s σ H x y v u Q J rx ry ⟨a, b, vs, ws, ex, ey, ta, tb, sz, ifl, ifr, nt⟩
  subst ex; subst ey
  cases rx; cases ry
  obtain ⟨us, r1, t1, _⟩ := J.tuple ta
  obtain ⟨us', r2, t2, _⟩ := J.tuple tb
  by_cases e1 : vs = []
  · subst e1
    cases r1
    exact cat_tup0 t1 t2 ⟨.ref b, H, J, rfl, ifl rfl⟩
  · have n1 : us ≠ [] := fun z => e1 (r1.nil_iff.mp z)
    refine HT.cat_tup t1 t2 n1 (fun z => ⟨.ref a, H, J, rfl, ifr (r2.nil_iff.mp z)⟩) (fun _ => made J (r1.append r2) (by rw [List.length_append]; exact sz) nt) ?_
    rw [← r1.length, ← r2.length]; exact sz
/-- t * k -/
def fRep (K : PySem.W.Frag) : R2 := fun x y H Q => ∃ a k vs, x = .ref a ∧ y = .int k ∧ SqT K H a vs ∧ vs ≠ [] ∧ 0 ≤ k ∧ k ≤ 2000 ∧ vs.length ≤ 1000 ∧ (k = 1 → Q (.ref a) H) ∧ NewT (List.replicate k.toNat vs).flatten H Q
theorem tuple_mul1 (l : Addr) (its : Array Value) (n : Nat) (dd : Option Addr) (sl : Array (Option Value)) (u : Tok) :
    Meets (Builtin.«tuple.__mul__» ⟨[.ref l, .int 1 u], []⟩) (fun _ R s => s.heap.get? l = some { cls := .type "tuple", dict := dd, data := .seq its n, slots := sl } ∧ R (.ok (.ret (Value.ref l))) s) :=
  .of_wp fun prog w A R s h => by
    obtain ⟨hp, g, d, tk, os⟩ := s
    obtain ⟨hl, h⟩ := h
    have f1 := AutoSeq1.idx_int
    wp_walk using wpAny_loadPart' hl
    exact ⟨_, rfl, h⟩
theorem tuple_mul0 (l : Addr) (its : Array Value) (n : Nat) (dd : Option Addr) (sl : Array (Option Value)) (u : Tok) (ne : its.isEmpty = false) :
    Meets (Builtin.«tuple.__mul__» ⟨[.ref l, .int 0 u], []⟩) (fun _ R s => s.heap.get? l = some { cls := .type "tuple", dict := dd, data := .seq its n, slots := sl } ∧
      R (.ok (.ret (Value.ref s.heap.objs.size))) { s with heap := s.heap.push { cls := Value.type "tuple", data := Data.seq #[] }, toks := s.toks }) :=
  .of_wp fun prog w A R s h => by
    obtain ⟨hp, g, d, tk, os⟩ := s
    obtain ⟨hl, h⟩ := h
    have f1 := AutoSeq1.idx_int
    have c1 : (its.isEmpty || (0 : Int) == 1) = false := by rw [ne]; rfl
    wp_walk using wpAny_loadPart' hl
    repeat (first
      | (refine wpAny_ite_false (decide_eq_false (by rw [c1]; exact Bool.false_ne_true)) ?_; wp_walk using wpAny_loadPart' hl))
    exact ⟨_, rfl, h⟩
theorem rep_flat : ∀ (k : Nat) (us : List Value), (List.foldl (fun x1 x2 => x1 ++ x2) #[] (List.replicate k us.toArray)) = (List.replicate k us).flatten.toArray := fun k us => size_rep us k
theorem rep_vals {vs : List V} {us : List Value} (rv : Vals vs us) : ∀ k : Nat, Vals (List.replicate k vs).flatten (List.replicate k us).flatten
  | 0 => .nil
  | k + 1 => by
    rw [List.replicate_succ, List.replicate_succ, List.flatten_cons, List.flatten_cons]
    exact rv.append (rep_vals rv k)
theorem rep_len {α : Type} (vs : List α) : ∀ k : Nat, (List.replicate k vs).flatten.length = k * vs.length
  | 0 => by simp
  | k + 1 => by rw [List.replicate_succ, List.flatten_cons, List.length_append, rep_len vs k, Nat.add_mul, Nat.one_mul, Nat.add_comm]
theorem op_repF : OpR X (binaryOp .Mult) (fRep X.K) := by
  rintro pins s σ H x y v u Q J rx ry ⟨a, k, vs, ex, ey, ta, nn, k1, k2, sz, same, nt⟩
  subst ex; subst ey
  cases rx
  obtain ⟨tk, eu⟩ := ry
  subst eu
  obtain ⟨us, rv, ⟨⟨cl, dd, da, sl⟩, look, ec, n, ed⟩, _⟩ := J.tuple ta
  simp only at ec ed
  subst ec; subst ed
  have ln : us.length = vs.length := rv.length.symm
  have un : us ≠ [] := fun z => nn (rv.nil_iff.mp z)
  have kz : k.toNat * vs.length ≤ 2000 * 1000 := Nat.mul_le_mul (by omega) sz
  have fl : (List.replicate k.toNat us).flatten.length ≤ sizeLine := by rw [rep_len, ln, sizeLine_eq]; omega
  refine wpAny_binaryOp_repeat_ref (T := "tuple") (U := "int") (by decide) ⟨_, look, rfl⟩ (fun st => typeIs_int st k tk) noFill_tuple_mul F.fills_int_mul F.slot_int_rmul repeat_tuple F.slot_int_index.lookup
    (call_meets F.slot_int_rmul (typeIs_int s k tk) F.entry_int_rmul (F.args_int_rmul_2 _ _) (int_rmul_tuple k tk a us.toArray n dd sl)
      ⟨look, rfl, ⟨_, look, rfl⟩, ?_⟩)
  have ne : us.toArray.isEmpty = false := by
    cases us with
    | nil => exact absurd rfl un
    | cons _ _ => rfl
  by_cases e0 : k = 0
  · subst e0
    refine call_meets F.slot_tuple_mul ⟨_, look, rfl⟩ F.entry_tuple_mul (F.args_tuple_mul_2 _ _) (tuple_mul0 a us.toArray n dd sl tk ne) ⟨look, ?_⟩
    exact made (vs := []) (us := []) J .nil (Nat.zero_le _) nt
  by_cases e1 : k = 1
  · subst e1
    exact call_meets F.slot_tuple_mul ⟨_, look, rfl⟩ F.entry_tuple_mul (F.args_tuple_mul_2 _ _) (tuple_mul1 a us.toArray n dd sl tk) ⟨look, .ref a, H, J, rfl, same rfl⟩
  · have sz0 : us.toArray.size = vs.length := by rw [List.size_toArray, ln]
    have pr : ((us.toArray.size : Nat) : Int) * k ≤ 2000000 := by
      rw [sz0]
      have : ((vs.length : Nat) : Int) * k ≤ 1000 * k := Int.mul_le_mul_of_nonneg_right (by omega) (by omega)
      omega
    have b0 : (decide (k < -(2 ^ 63)) || decide (k ≥ 2 ^ 63)) = false := by
      rw [decide_eq_false (by omega), decide_eq_false (by omega)] <;> rfl
    have b1 : (us.toArray.isEmpty || k == 1) = false := by
      rw [ne, Bool.false_or]; exact beq_eq_false_iff_ne.mpr e1
    have b2 : (decide (k ≤ 0) || us.toArray.isEmpty) = false := by
      rw [ne, Bool.or_false]; exact decide_eq_false (by omega)
    have b4 : Builtin.Tuple.tupleTooMany (((us.toArray.size : Nat) : Int) * k) = false := by
      unfold Builtin.Tuple.tupleTooMany; rw [sizeLine_eq]; exact decide_eq_false (by omega)
    refine call_meets F.slot_tuple_mul ⟨_, look, rfl⟩ F.entry_tuple_mul (F.args_tuple_mul_2 _ _) (tuple_mulW a us.toArray n dd sl k tk b0 b1 b2 (by omega) b4 (by rw [rep_flat, List.size_toArray]; exact fl)) ⟨look, ?_⟩
    rw [rep_flat]
    exact made J (rep_vals rv k.toNat) (by rw [rep_len, sizeLine_eq]; omega) nt
/-- t[a:b] -/
def fCut (K : PySem.W.Frag) : V → Option Int → Option Int → Hp → VK → Prop := fun x lo hi H Q => ∃ a vs, x = .ref a ∧ SqT K H a vs ∧
  (HT.sIx vs.length 0 lo = 0 ∧ HT.sIx vs.length vs.length hi = vs.length → Q (.ref a) H) ∧ NewT (cutV vs lo hi) H Q
theorem sl_tupF : SlR X (fCut X.K) := by
  rintro pins s σ H x v vl vu lo hi sl Q J rx hs pl pu ⟨a, vs, ex, ta, whole, nt⟩
  subst ex
  cases rx
  obtain ⟨us, rv, tp, sz⟩ := J.tuple ta
  have ln : us.toArray.size = vs.length := by rw [List.size_toArray]; exact rv.length.symm
  refine ⟨"tuple", _, PyProof.Rows.slot_tuple_getitem.lookup, tp.typeIs, ?_⟩
  by_cases all : HT.sIx vs.length 0 lo = 0 ∧ HT.sIx vs.length vs.length hi = vs.length
  · exact getItem_tuple_whole tp hs pl pu (by rw [ln]; exact all) ⟨.ref a, H, J, rfl, whole all⟩
  · refine HT.getItem_tuple_cut tp hs pl pu (by rw [ln]; exact all) ?_ (by rw [ln]; exact sz)
    rw [ln]
    exact made J ((rv.drop _).take _) (Nat.le_trans (cutV_length vs lo hi) sz) nt
/-- tuple(x) -/
def fOf (K : PySem.W.Frag) : List V → Hp → VK → Prop := fun xs H Q => ∃ p ys, xs = [.ref p] ∧ ((SqL K H p ys ∧ NewT ys H Q) ∨ (SqT K H p ys ∧ Q (.ref p) H))
theorem call_tupF : CallR X (.type "tuple") (fOf X.K) := by
  rintro pins s σ H xs us Q J r ⟨p, ys, ex, h⟩
  subst ex
  obtain ⟨u, eu, ru⟩ := vals1 r
  subst eu
  cases ru
  rcases h with ⟨sq, nt⟩ | ⟨sq, q⟩
  · obtain ⟨us, rv, pl, sz⟩ := J.list sq
    refine call_tuple_list pl.isList (fun h' hk => ?_) (by rw [List.size_toArray, ← rv.length]; exact sz)
    exact made (s := { s with heap := h' }) (J.kept (t' := s.toks) hk) rv sz nt
  · obtain ⟨us, _, t1, _⟩ := J.tuple sq
    exact call_tuple_same (items := us.toArray) t1 ⟨.ref p, H, J, rfl, q⟩
def fIdx (to : TE) (t : TA) : TE := fun σ H Q => to σ H fun x H1 => ∃ p ob vs0, x = .ref p ∧ H1 p = some (.frz ob (.tup vs0)) ∧ ob.dict = none ∧ t σ H1 fun xs H2 => ∃ y j w vs, xs = [y] ∧ Rd H2 p (.tup vs) ∧ flatV y = true ∧ vs.all flatV = true ∧
  vs[j]? = some w ∧ eqV w y = true ∧ (∀ m z, m < j → vs[m]? = some z → eqV z y = false) ∧ Q (.int (j : Nat)) H2
theorem at_eqU {y : V} {f : flatV y = true} : ∀ {vs : List V} {us : List Value}, Vals vs us → vs.all flatV = true → ∀ (m : Nat) (hm : m < us.length), ∃ z, vs[m]? = some z ∧ eqU y us[m] = eqV z y
  | _, _, .nil, _ => fun m hm => absurd hm (Nat.not_lt_zero _)
  | v :: _, _, .cons r t, fl => fun m hm => by
    rw [List.all_cons, Bool.and_eq_true] at fl
    cases m with
    | zero => exact ⟨v, rfl, eqU_of r fl.1⟩
    | succ m =>
      obtain ⟨z, hz, e⟩ := at_eqU (f := f) t fl.2 m (Nat.lt_of_succ_lt_succ hm)
      exact ⟨z, hz, e⟩
theorem pf_index {o e : Expr} {to : TE} {t : TA} {apos cpos : Pos} (ho : PE X o to) (ha : PA X [e] t)
    (hbase : attributeBase o "index" X.env (eval o X.env) = eval o X.env := by rfl)
    (hfew : ((backTo cpos (starEach [e] X.env)).all (fun x => !x.1) && (backToKw cpos (keywordEach [] X.env)).all (fun x => x.1.isSome)
      && decide ([e].length + ([] : List Keyword).length + (if ([] : List Keyword).isEmpty then 0 else 1) < 30)) = true := by rfl)
    (hline : (apos.endLine == cpos.line) = true := by rfl) (hs : starEach [e] X.env = (false, eval e X.env) :: starEach [] X.env := by rfl) (hplain : (backTo cpos (starEach [] X.env)).any (·.1) = false := by rfl) :
    PE X (.Call (.Attribute o "index" apos) [e] [] cpos) (fIdx to t) := by
  refine ⟨fun pins s σ H Q J h => ?_⟩
  refine wpAny_Call_method_late hbase hfew hline rfl (thn (ho.run pins s σ H _ J h) fun v s1 ⟨x, H1, J1, r1, p, ob, vs0, ex, at1, dn, q1⟩ => ?_)
  subst ex
  cases r1
  obtain ⟨look, tok⟩ := J1.hok p _ at1
  obtain ⟨_, _, _, ob', look', cl', _⟩ := id tok
  rw [look] at look'
  cases look'
  refine ⟨"tuple", "tuple.index", F.plainAttrs_tuple, F.slot_tuple_index, F.type_tuple_index, ⟨ob, look, cl'⟩, fun a ea => by cases ea; exact ⟨ob, look, dn⟩, ?_⟩
  have run := ha.run cpos pins s1 σ H1 _ J1 q1
  rw [hs] at run ⊢
  refine Calls.callWith_builtin (by show (false || (backTo cpos (starEach [] X.env)).any (·.1)) = false; rw [hplain] <;> rfl) (Calls.evalArgs_plain ?_)
  refine thn run fun us s2 ⟨xs, H2, J2, r2, y, j, w, vs, exs, rd2, fy, fvs, hj, hit, hno, q2⟩ => ?_
  subst exs
  obtain ⟨u, eu, ru⟩ := vals1 r2
  subst eu
  obtain ⟨us2, rv, ⟨⟨cl, dd, da, sl⟩, look2, ec, n, ed⟩, _⟩ := J2.tuple (.inl rd2)
  simp only at ec ed
  subst ec; subst ed
  have ln : vs.length = us2.length := rv.length
  have jl : j < us2.length := by rw [← ln]; exact (List.getElem?_eq_some_iff.mp hj).1
  refine call_meets F.slot_tuple_index ⟨_, look2, rfl⟩ F.entry_tuple_index (F.args_tuple_index_2 _ _) (TI.tuple_indexAt p us2.toArray n dd sl u (eqU y) j (by rw [List.size_toArray]; exact jl) ?_ ?_)
    ⟨look2, fun z hz => mem_eqAt ru fy rv fvs z (by simpa using hz), ⟨.int (j : Nat), H2, J2.tok _, ⟨_, rfl⟩, q2⟩⟩
  · obtain ⟨z, hz, e⟩ := at_eqU (f := fy) rv fvs j jl
    rw [hj] at hz
    cases hz
    simpa [hit] using e
  · intro m hm mj
    obtain ⟨z, hz, e⟩ := at_eqU (f := fy) rv fvs m (by simpa using hm)
    have := hno m z mj hz
    simpa [this] using e
end
end DLt
set_option Elab.async false
set_option linter.all false
set_option maxRecDepth 100000
set_option maxHeartbeats 2000000
namespace DLz
open PySem PySem.Spec PyProof.Rows L2
open HotX (chained)
theorem Zq.steady {cls : Value} {d : Option Addr} {c : Value} : PXN.Steady1 (Zq cls d c) := fun o v h => by
  refine ⟨⟨PXN.steady_cls o v h.1.1, PXN.steady_dict o v h.1.2⟩, fun ws e => ?_⟩
  obtain ⟨c1, d1, dt, sl⟩ := o
  cases dt with
  | fields ws0 =>
    have e2 : ws0.setIfInBounds 1 v = ws := Data.fields.inj e
    rw [← e2, show (ws0.setIfInBounds 1 v)[2]? = ws0[2]? from by
      first
      | exact Array.getElem?_setIfInBounds_ne (by decide)
      | simp [Array.getElem?_setIfInBounds]]
    exact h.2 ws0 rfl
  | _ => first | exact Data.noConfusion e | cases e
section
variable {X : Cx} {pins : List (Addr × Obj)} {σ : L2.St} {H : Hp} {sI s s' : Shared} {B : Heap} {W : WX} {E : XK}
theorem XE.of_call (I : Inv X pins σ H s) (hW : ∀ cls d H', E cls d H' → W cls d σ H') {u : Value} (x : CX X.prog X.w X.stack H s E u s') : XE X W u s' := by
  obtain ⟨a, c, B, H1, cls, d, ⟨rfl, ch, na, hE⟩, ⟨os, ag⟩, fl, hok, ub⟩ := x
  have stay : B.StaysIn s'.heap := fl.1
  -- the ground and the frames alone
  obtain ⟨T, t1, t2⟩ := restrict s'.heap fun b => (B.get? b).isSome || decide (b ∈ frs X.stack)
  have ground : ∀ b o, B.get? b = some o → T.get? b = some o := fun b o e => (t1 b (by simp [e])).trans (stay b o e)
  have frame : ∀ b, b ∈ frs X.stack → T.get? b = s'.heap.get? b := fun b hb => t1 b (by simp [hb])
  have back : ∀ b o, T.get? b = some o → s'.heap.get? b = some o ∧ (b ∈ frs X.stack ∨ B.get? b = some o) := fun b o e => by
    by_cases q : ((B.get? b).isSome || decide (b ∈ frs X.stack)) = true
    · rw [t1 b q] at e
      rcases (Bool.or_eq_true ..).mp q with q | q
      · obtain ⟨o2, e2⟩ := Option.isSome_iff_exists.mp q
        have e3 := stay b o2 e2
        rw [e] at e3
        cases e3
        exact ⟨e, .inr e2⟩
      · exact ⟨e, .inl (of_decide_eq_true q)⟩
    · rw [t2 b (by simpa using q)] at e
      cases e
  have J : Inv X pins σ H1 { s with heap := T, gens := s'.gens, drawn := s'.drawn, toks := s'.toks } := by
    refine I.call (ch := []) ⟨fun b o e n hb _ => ground b o (ub.keep b o e n hb), fun b o e _ hb _ => ?_, fun b o e n _ => ub.free b o e n, fun b o e _ => ?_, ub.tups, ub.frzs, ub.tbls⟩ (hok.kept ground) ag (fun _ z => nomatch z)
    · obtain ⟨sl, q⟩ := ub.slot b o e hb
      exact ⟨sl, (frame b hb).trans q⟩
    · by_cases hb : b ∈ frs X.stack
      · obtain ⟨sl, q⟩ := ub.slot b o e hb
        exact ⟨_, (frame b hb).trans q⟩
      · obtain ⟨o2, q⟩ := ub.there b o e hb
        exact ⟨o2, ground b o2 q⟩
  exact ⟨a, c, B, _, pins, σ, H1, cls, d, ⟨rfl, ch, na, hW _ _ _ hE⟩, J, ⟨os, ag⟩, fun b o e hb => (back b o e).2.resolve_left hb, Heap.UpToSlots.of_keeps fun b o e => (back b o e).1, .inr (.inl fl)⟩
theorem XE.leave (hs : X.stack = X.env :: X.outer) (hf : X.env.frame = some X.env.locals) (hex : X.ex = []) {E₁ : Value → Shared → Prop} (hW : ∀ cls d σ H, W cls d σ H → E cls d H) {u : Value} (x : XE X W u s') :
    wpAny (model X.prog X.w) X.A (leaving X.env u) (fun _ s2 => CX X.prog X.w X.outer X.H_0 X.s_0 E u s2) E₁ s' := by
  obtain ⟨a, c, B, sI, pins, σ, H, cls, d, ⟨rfl, ch, na, w⟩, I, ⟨os, ag⟩, nb, up, sky⟩ := x
  have frs0 : X.A.frames = some (X.env :: X.outer) := I.ok.frames.trans (congrArg some hs)
  have older : ∀ b o, X.s_0.heap.get? b = some o → b ∉ X.fs → b ∉ frs X.stack := fun b o e nf m =>
    (List.mem_cons.mp (I.stkSub b m)).elim (fun z => by
      have l1 := Heap.lt_size e
      have l2 := I.ok.above
      rw [z] at l1
      exact absurd (Nat.lt_of_lt_of_le l1 l2) (Nat.lt_irrefl _)) nf
  have noex : ∀ b, b ∉ X.ex := fun b m => by rw [hex] at m; cases m
  have land : ∀ h2, HandSPX.FlyingZ B X.outer a (Zq cls d c) h2 → s'.heap.UpToSlots h2 → CX X.prog X.w X.outer X.H_0 X.s_0 E (.ref a) { s' with heap := h2 } := fun h2 fl up2 => by
    refine ⟨a, c, B, H, cls, d, ⟨rfl, ch, na, hW _ _ _ _ w⟩, ⟨os.trans I.os, ag⟩, fl, I.inGround nb, ?_⟩
    refine ⟨fun b o e n nf => nb b o (I.base.keep b o e n nf (noex b)) (older b o e nf), fun b o e hb => ?_, fun b o e n => I.base.free b o e n (noex b), fun b o e nf => ?_, I.base.tups, I.base.frzs, I.base.tbls⟩
    · obtain ⟨_, o0, e0, plain⟩ := I.ok.funs.mem hb
      cases e.symm.trans e0
      obtain ⟨s1, g1⟩ := I.base.slot b o e (I.ok.frf b hb) hb (noex b)
      obtain ⟨s2, g2⟩ := up b _ g1 plain
      obtain ⟨s3, g3⟩ := up2 b _ g2 plain
      exact ⟨s3, g3⟩
    · obtain ⟨o1, g1⟩ := I.base.there b o e (noex b)
      exact ⟨o1, nb b o1 g1 (older b o e nf)⟩
  rw [hs] at sky
  rcases sky with ⟨st, n, ff, oe, vs, he, hz, hd, h1⟩ | fl | held
  · exact PXN.leaving_firstZ Zq.steady frs0 ff hf he st n hd h1 hz land
  · exact PXN.leaves_onZ Zq.steady frs0 hf fl land
  · exact HandSPX.leaves_heldZ hf held land
theorem takes_of (hs : X.stack = X.env :: X.outer) (hf : X.env.frame = some X.env.locals) (hex : X.ex = []) {E₁ : Value → Shared → Prop}
    (hx : X.xe = fun e s2 => wpAny (model X.prog X.w) X.A (leaving X.env e) (fun _ s3 => CX X.prog X.w X.outer X.H_0 X.s_0 E e s3) E₁ s2) : Takes X (fun cls d _ H => E cls d H) := fun u s2 x => by
  rw [hx]
  exact XE.leave (W := fun cls d _ H => E cls d H) (E := E) hs hf hex (fun _ _ _ _ h => h) x
end
theorem passAt {X : Cx} {W : WX} (tk : Takes X W) (σ : L2.St) : PassesAt (CX X.prog X.w) X σ (WE W σ) := fun _ _ _ e s1 I x => tk e s1 (XE.of_call I (fun _ _ _ z => z) x)
/-- from the one to the other by contexts -/
inductive Way (h : Heap) : Value → Value → Prop
  | here {v : Value} : Way h v v
  | on {b : Addr} {ob : Obj} {us : Array Value} {w v : Value} : h.get? b = some ob → ob.data = .fields us → us[2]? = some w → Way h w v → Way h (.ref b) v
theorem Way.more {h : Heap} {u : Value} {b : Addr} {ob : Obj} {us : Array Value} {v : Value} (x : Way h u (.ref b)) (e : h.get? b = some ob) (d : ob.data = .fields us) (q : us[2]? = some v) : Way h u v := by
  generalize er : Value.ref b = r at x
  induction x with
  | here => subst er; exact .on e d q .here
  | on e1 d1 q1 _ ih => exact .on e1 d1 q1 (ih er)
end DLz
set_option Elab.async false
set_option linter.all false
set_option maxRecDepth 100000
set_option maxHeartbeats 2000000
namespace DL
open PySem PySem.Spec PyProof.Rows L2
theorem Nt.keep {H H' : Hp} {a : Addr} (kp : ∀ b o, H b = some o → H' b = some o) (n : Nt H a) : Nt H' a := by
  cases e : H a with
  | none => exact absurd e n.1
  | some o => exact Nt.of (kp a o e) fun ps z => n.2 ps (e.trans (congrArg some z))
variable [Tbs]
theorem Stp.refl {B F : Addr → Prop} {H : Hp} : Stp B F H F H := ⟨fun _ h => h, fun _ h => .inl h, fun _ _ _ h _ => h, fun _ _ h => h, fun t => t, fun _ _ _ h => h⟩
end DL
set_option Elab.async false
set_option linter.all false
set_option maxRecDepth 100000
set_option maxHeartbeats 2000000
namespace DL
open PySem PySem.Spec PyProof.Rows L2
variable [Tbs]
/-- it owns something -/
def Slot.has : Slot → Bool
  | .ow _ => true
  | .io _ _ => true
  | .tr _ _ => true
  | _ => false
theorem has_own {s : Slot} (h : s.own = true) : s.has = true := by cases s <;> first | rfl | cases h
theorem feet_has {s : Slot} {x : Option (Option V)} {a : Addr} (h : s.feet x a) : s.has = true := by
  rcases h with ⟨k, _⟩ | ⟨_, _, e, _⟩
  · exact has_own k
  · subst e; rfl
def RDs (G : Gx) : (Addr → Prop) → (Addr → Prop) → List Slot → L2.St → Hp → List D → List V → Prop := fun _ F _ _ H d v => RpL G F H d v
def RB : (Addr → Prop) → (Addr → Prop) → List Slot → L2.St → Hp → Bool → Bool → Prop := fun _ _ _ _ _ a b => a = b
abbrev tD (G : Gx) (W : WX) (m : M D) : TE := Lift G W (RD G) m
abbrev tBl (G : Gx) (W : WX) (m : M Bool) : TT := Lift G W RB m
abbrev tDs (G : Gx) (W : WX) (m : M (List D)) : TA := Lift G W (RDs G) m
abbrev tO (G : Gx) (W : WX) (m : M O) : TE := Lift G W (RO G) m
section
variable {G : Gx} {W : WX} {B F : Addr → Prop} {σ : L2.St} {H : Hp} {env : List Slot} {α β γ δ : Type}
variable {R : (Addr → Prop) → (Addr → Prop) → List Slot → L2.St → Hp → γ → δ → Prop} {Ra : (Addr → Prop) → (Addr → Prop) → List Slot → L2.St → Hp → α → β → Prop} {Q : δ → Hp → Prop}
theorem Pt.pure {c : γ} (h : Pt G W R σ H Q (ret c) B F env) {b : δ} (hr : R B F env σ H c b) : Q b H := by
  obtain ⟨Qd, Ed, rel, hm, hq, he⟩ := h
  exact hq c env b F H hm Stp.refl rel hr
theorem Pt.asked {p : Prop} {m : M γ} (h : Pt G W R σ H Q (ask p m) B F env) : p ∧ Pt G W R σ H Q m B F env := by
  obtain ⟨Qd, Ed, rel, ⟨hp, hm⟩, hq, he⟩ := h
  exact ⟨hp, Qd, Ed, rel, hm, hq, he⟩
theorem Rel.notF (rel : Rel G B F σ env H) {p : Addr} (hp : H p = none) : ¬ F p := fun h => (rel.hF p h).1 hp
theorem Rel.ownTab (rel : Rel G B F σ env H) {i : Nat} {a : Addr} (h : OwnAt env σ i a) : ∀ ps, H a ≠ some (.tbl ps) := (rel.ownKind h).2.2.2.1
/-- a new list to be owned -/
theorem Pt.olst {ds : List D} {vs : List V} {p : Addr} {Q : V → Hp → Prop} (h : Pt G W (RO G) σ H Q (ret (.lst ds)) B F env) (hx : RpL G F H ds vs) (hp : H p = none) : Q (.ref p) (upd H p (.lst vs)) := by
  obtain ⟨Qd, Ed, rel, hm, hq, he⟩ := h
  exact hq _ env _ F _ hm (stp_new hp) (rel.new hp) ⟨p, rfl, rel.notF hp, rel.notB hp, ⟨vs, upd_same, RpL.mono (stp_new (B := B) hp) ds vs hx⟩, fun i h => (rel.ownSome h).1 hp⟩
theorem peImp {X : Cx} {e : Expr} {t t' : TE} (h : PE X e t) (i : ∀ σ H Q, t' σ H Q → t σ H Q) : PE X e t' := ⟨fun pins s σ H Q I q => h.run pins s σ H Q I (i σ H Q q)⟩
theorem ptImp {X : Cx} {e : Expr} {t t' : TT} (h : PT X e t) (i : ∀ σ H Q, t' σ H Q → t σ H Q) : PT X e t' := ⟨fun pins s σ H Q I q => h.run pins s σ H Q I (i σ H Q q)⟩
theorem paImp {X : Cx} {e : List Expr} {t t' : TA} (h : PA X e t) (i : ∀ σ H Q, t' σ H Q → t σ H Q) : PA X e t' := ⟨fun pos pins s σ H Q I q => h.run pos pins s σ H Q I (i σ H Q q)⟩
theorem psImp {X : Cx} {st : Stmt} {t t' : TS} (h : PS X st t) (i : ∀ D σ H, t' D σ H → t D σ H) : PS X st t' := ⟨fun pins s σ H D I q => h.run pins s σ H D I (i D σ H q)⟩
theorem pssImp {X : Cx} {st : List Stmt} {t t' : TS} (h : PSs X st t) (i : ∀ D σ H, t' D σ H → t D σ H) : PSs X st t' := ⟨fun pins s σ H D I q => h.run pins s σ H D I (i D σ H q)⟩
theorem piImp {X : Cx} {tg e : Expr} {t t' : TI} (h : PI X tg e t) (i : ∀ σ H Q, t' σ H Q → t σ H Q) : PI X tg e t' := ⟨fun pins s σ H Q I q => h.run pins s σ H Q I (i σ H Q q)⟩
end
end DL
set_option Elab.async false
set_option linter.all false
set_option maxRecDepth 100000
set_option maxHeartbeats 2000000
namespace DL
open PySem PySem.Spec PyProof.Rows L2
variable [Tbs]
abbrev gx (X : Cx) (C : Addr) : Gx := ⟨C, X.mg, X.K, X.w, X.prog⟩
section
variable {G : Gx} {W : WX} {B F : Addr → Prop} {σ : L2.St} {H : Hp} {env : List Slot} {α β γ δ : Type}
variable {R : (Addr → Prop) → (Addr → Prop) → List Slot → L2.St → Hp → γ → δ → Prop} {Ra : (Addr → Prop) → (Addr → Prop) → List Slot → L2.St → Hp → α → β → Prop} {Q : δ → Hp → Prop}
theorem Pt.lift {m : M γ} (h : Pt G W R σ H Q m B F env) : Lift G W R m σ H Q := ⟨B, F, env, h⟩
/-- one operand -/
theorem lift1 {ma : M α} {k : α → M γ} (h : Lift G W R (bnd ma k) σ H Q) :
    Lift G W Ra ma σ H fun x H1 => ∃ B F env a, Pt G W R σ H1 Q (k a) B F env ∧ Ra B F env σ H1 a x := by
  obtain ⟨B, F, env, h⟩ := h
  exact (h.bind (Ra := Ra) (as := []) (xs := []) rfl).imp fun y H' ⟨F', env', b, p, _, r⟩ => ⟨B, F', env', b, p, r⟩
/-- two operands -/
theorem lift2 {ma mb : M D} {k : D → D → M γ} (h : Lift G W R (bnd ma fun a => bnd mb fun b => k a b) σ H Q) :
    Lift G W (RD G) ma σ H fun x H1 => Lift G W (RD G) mb σ H1 fun y H2 => ∃ B F env a b, Pt G W R σ H2 Q (k a b) B F env ∧ Rp G F H2 a x ∧ Rp G F H2 b y := by
  obtain ⟨B, F, env, h⟩ := h
  refine (h.bind (Ra := RD G) (as := []) (xs := []) rfl).imp fun x H1 ⟨F1, env1, a, p1, _, r1⟩ => ?_
  refine (p1.bind (Ra := RD G) (as := [a]) (xs := [x]) ⟨x, [], rfl, r1, rfl⟩).imp fun y H2 ⟨F2, env2, b, p2, ⟨x', r, e, ra, _⟩, rb⟩ => ?_
  cases e
  exact ⟨B, F2, env2, a, b, p2, ra, rb⟩
theorem RpL.get : ∀ {ds : List D} {vs : List V} {i : Nat} {d : D}, RpL G F H ds vs → ds[i]? = some d → ∃ v, vs[i]? = some v ∧ Rp G F H d v
  | [], _, _, _, _, e => by simp at e
  | _ :: _, _, 0, _, ⟨v, r, e, h, _⟩, q => by subst e; simp at q; subst q; exact ⟨v, rfl, h⟩
  | _ :: _, _, i + 1, _, ⟨v, r, e, _, h⟩, q => by
    subst e
    obtain ⟨u, h1, h2⟩ := RpL.get (i := i) h (by simpa using q)
    exact ⟨u, by simpa using h1, h2⟩
theorem RpL.snoc {ds : List D} {vs : List V} {d : D} {v : V} (h : RpL G F H ds vs) (q : Rp G F H d v) : RpL G F H (ds ++ [d]) (vs ++ [v]) := h.append ⟨v, [], rfl, q, rfl⟩
theorem RpL.ints : ∀ {ns : List Int} {vs : List V}, RpL G F H (ns.map D.int) vs ↔ vs = ns.map V.int
  | [], vs => Iff.rfl
  | n :: ns, vs => ⟨fun ⟨v, r, e, h, t⟩ => by subst e; rw [show v = V.int n from h, RpL.ints.mp t]; rfl, fun e => by subst e; exact ⟨_, _, rfl, rfl, RpL.ints.mpr rfl⟩⟩
theorem RpL.at {ds : List D} {vs : List V} {i : Int} {d : D} (h : RpL G F H ds vs) (e : atI ds i = some d) : ∃ v, atI vs i = some v ∧ Rp G F H d v := by
  unfold atI at e ⊢
  rw [← h.length]
  cases q : ixN ds.length i with
  | none => rw [q] at e; cases e
  | some j =>
    rw [q] at e
    exact h.get (i := j) e
/-- an operator's rule fits its form over data -/
def Fits (G : Gx) (W : WX) (r : R2) (k : D → D → M D) : Prop := ∀ {σ : L2.St} {H : Hp} {Q : V → Hp → Prop} {B F : Addr → Prop} {env : List Slot} {x y : V} {a b : D},
  Pt G W (RD G) σ H Q (k a b) B F env → Rp G F H a x → Rp G F H b y → r x y H Q
theorem fits_sub : Fits G W (rI0 fun i j => .int (i - j)) subD := by
  intro σ H Q B F env x y a b h ra rb
  cases a <;> cases b <;> first | exact h.no.elim | exact ⟨_, _, ra, rb, h.pure (b := .int _) rfl⟩
theorem fits_lt : Fits G W (rI0 fun i j => .bl (decide (i < j))) ltD := by
  intro σ H Q B F env x y a b h ra rb
  cases a <;> cases b <;> first | exact h.no.elim | exact ⟨_, _, ra, rb, h.pure (b := .bl _) rfl⟩
theorem fits_le : Fits G W (rI0 fun i j => .bl (decide (i ≤ j))) leD := by
  intro σ H Q B F env x y a b h ra rb
  cases a <;> cases b <;> first | exact h.no.elim | exact ⟨_, _, ra, rb, h.pure (b := .bl _) rfl⟩
theorem fits_gt : Fits G W (rI0 fun i j => .bl (decide (j < i))) gtD := by
  intro σ H Q B F env x y a b h ra rb
  cases a <;> cases b <;> first | exact h.no.elim | exact ⟨_, _, ra, rb, h.pure (b := .bl _) rfl⟩
theorem fits_ge : Fits G W (rI0 fun i j => .bl (decide (j ≤ i))) geD := by
  intro σ H Q B F env x y a b h ra rb
  cases a <;> cases b <;> first | exact h.no.elim | exact ⟨_, _, ra, rb, h.pure (b := .bl _) rfl⟩
theorem fits_mod : Fits G W (rI (fun _ j => 0 < j) fun i j => .int (i % j)) modD := by
  intro σ H Q B F env x y a b h ra rb
  cases a <;> cases b <;> first | exact h.no.elim | exact ⟨_, _, ra, rb, h.asked.1, h.asked.2.pure (b := .int _) rfl⟩
theorem fits_fdiv : Fits G W (rI CDiv fun i j => .int (i / j)) fdivD := by
  intro σ H Q B F env x y a b h ra rb
  cases a <;> cases b <;> first | exact h.no.elim | exact ⟨_, _, ra, rb, h.asked.1, h.asked.2.pure (b := .int _) rfl⟩
theorem fits_pow : Fits G W (rI CPow fun i j => .int (i ^ j.toNat)) powD := by
  intro σ H Q B F env x y a b h ra rb
  cases a <;> cases b <;> first | exact h.no.elim | exact ⟨_, _, ra, rb, h.asked.1, h.asked.2.pure (b := .int _) rfl⟩
theorem Rp.non_iff {d : D} {v : V} (h : Rp G F H d v) : v = .non ↔ d = .non := by
  cases d with
  | non => exact ⟨fun _ => rfl, fun _ => h⟩
  | bl _ => cases (show _ = _ from h); exact ⟨fun z => (nomatch z), fun z => (nomatch z)⟩
  | int _ => cases (show _ = _ from h); exact ⟨fun z => (nomatch z), fun z => (nomatch z)⟩
  | str _ => cases (show _ = _ from h); exact ⟨fun z => (nomatch z), fun z => (nomatch z)⟩
  | byt _ => cases (show _ = _ from h); exact ⟨fun z => (nomatch z), fun z => (nomatch z)⟩
  | tup _ => obtain ⟨a, _, e, _⟩ := h; subst e; exact ⟨fun z => (nomatch z), fun z => (nomatch z)⟩
  | pr _ => obtain ⟨a, _, e, _⟩ := h; subst e; exact ⟨fun z => (nomatch z), fun z => (nomatch z)⟩
  | lst _ => obtain ⟨a, _, e, _⟩ := h; subst e; exact ⟨fun z => (nomatch z), fun z => (nomatch z)⟩
  | hall _ _ => obtain ⟨a, _, e, _⟩ := h; subst e; exact ⟨fun z => (nomatch z), fun z => (nomatch z)⟩
  | scr _ => obtain ⟨a, e, _⟩ := h; subst e; exact ⟨fun z => (nomatch z), fun z => (nomatch z)⟩
  | emp => obtain ⟨a, e, _⟩ := h; subst e; exact ⟨fun z => (nomatch z), fun z => (nomatch z)⟩
  | exn _ _ _ => obtain ⟨a, _, _, _, e, _⟩ := h; subst e; exact ⟨fun z => (nomatch z), fun z => (nomatch z)⟩
  | dct _ _ => obtain ⟨a, _, e, _⟩ := h; subst e; exact ⟨fun z => (nomatch z), fun z => (nomatch z)⟩
  | dcn _ _ => obtain ⟨a, _, _, e, _⟩ := h; subst e; exact ⟨fun z => (nomatch z), fun z => (nomatch z)⟩
  | fn _ => obtain ⟨a, e, _⟩ := h; subst e; exact ⟨fun z => (nomatch z), fun z => (nomatch z)⟩
theorem fits_isN : Fits G W (fun x y H Q => y = .non ∧ Q (.bl (decide (x = .non))) H) isNonD := by
  intro σ H Q B F env x y a b h ra rb
  cases b with
  | non =>
    refine ⟨rb, ?_⟩
    by_cases e : a = .non
    · subst e
      rw [decide_eq_true (show x = .non from ra)]
      exact h.pure (b := .bl true) rfl
    · rw [decide_eq_false fun z => e (ra.non_iff.mp z)]
      cases a <;> first | exact absurd rfl e | exact h.pure (b := .bl false) rfl
  | _ => cases a <;> exact h.no.elim
theorem fits_notN : Fits G W (fun x y H Q => y = .non ∧ Q (.bl (!decide (x = .non))) H) notNonD := by
  intro σ H Q B F env x y a b h ra rb
  cases b with
  | non =>
    refine ⟨rb, ?_⟩
    by_cases e : a = .non
    · subst e
      rw [decide_eq_true (show x = .non from ra)]
      exact h.pure (b := .bl false) rfl
    · rw [decide_eq_false fun z => e (ra.non_iff.mp z)]
      cases a <;> first | exact absurd rfl e | exact h.pure (b := .bl true) rfl
  | _ => cases a <;> exact h.no.elim
end
end DL
set_option Elab.async false
set_option linter.all false
set_option maxRecDepth 100000
set_option maxHeartbeats 2000000
namespace DL
open PySem PySem.Spec PyProof.Rows L2
variable [Tbs]
section
variable {G : Gx} {W : WX} {B F : Addr → Prop} {σ : L2.St} {H : Hp} {env : List Slot} {α β γ δ : Type}
mutual
theorem canLay_py : ∀ d : D, pyOk d = true → PyData.canLay0 (py d) = true
  | .non, _ => rfl
  | .bl _, _ => rfl
  | .int _, _ => rfl
  | .str _, h => h
  | .byt _, e => by cases e
  | .hall _ _, e => by cases e
  | .scr _, e => by cases e
  | .emp, e => by cases e
  | .exn _ _ _, e => by cases e
  | .pr _, e => by cases e
  | .dct _ _, e => by cases e
  | .fn _, e => by cases e
  | .dcn _ _, e => by cases e
  | .tup ds, h => by show PyData.canLayAll0 (pyL ds) = true; exact canLayL_py ds (by simpa [pyOk] using h)
  | .lst ds, h => by show PyData.canLayAll0 (pyL ds) = true; exact canLayL_py ds (by simpa [pyOk] using h)
theorem canLayL_py : ∀ ds : List D, pyOkL ds = true → PyData.canLayAll0 (pyL ds) = true
  | [], _ => rfl
  | d :: ds, h => by
    have q' : pyOk d = true ∧ pyOkL ds = true := by simpa [pyOkL] using h
    show (PyData.canLay0 (py d) && PyData.canLayAll0 (pyL ds)) = true
    rw [canLay_py d q'.1, canLayL_py ds q'.2]; rfl
end
theorem shaped_py {d : D} (h : eqOk d = true) : SeqAt.shaped (py d) = true := by
  have q : pyOk d = true ∧ (py d).depth ≤ 64 := by simpa [eqOk] using h
  unfold SeqAt.shaped
  rw [canLay_py d q.1, decide_eq_true q.2]; rfl
theorem eqOk_ok {d : D} (h : eqOk d = true) : pyOk d = true := by
  have q : pyOk d = true ∧ (py d).depth ≤ 64 := by simpa [eqOk] using h
  exact q.1
abbrev rEqs (K : PySem.W.Frag) : R2 := fun x y H Q => rEq x y H Q ∨ rEqD K x y H Q
abbrev rNes (K : PySem.W.Frag) : R2 := fun x y H Q => rNe x y H Q ∨ rNeD K x y H Q
theorem op_eqs {X : Cx} (hu : X.A.units + 64 < cLine) : OpR X (compareOp .Eq) (rEqs X.K) := op_eq.or (op_eqD hu)
theorem op_nes {X : Cx} (hu : X.A.units + 64 < cLine) : OpR X (compareOp .NotEq) (rNes X.K) := op_ne.or (op_neD hu)
theorem fits_eq : Fits G W (rEqs G.K) eqM := by
  intro σ H Q B F env x y a b h ra rb
  by_cases z : ∃ s t, a = .str s ∧ b = .str t
  · obtain ⟨s, t, e1, e2⟩ := z
    subst e1 e2
    cases (show _ = _ from ra); cases (show _ = _ from rb)
    exact .inl ⟨rfl, by rw [dec_str]; exact Pt.pure h (b := .bl _) rfl⟩
  · have e : eqM a b = ask (eqOk a = true ∧ eqOk b = true) (ret (.bl (eqv a b))) := by
      unfold eqM
      split
      · exact (z ⟨_, _, rfl, rfl⟩).elim
      · rfl
    rw [e] at h
    obtain ⟨⟨h1, h2⟩, h⟩ := h.asked
    exact .inr ⟨_, _, ra.dp (eqOk_ok h1), rb.dp (eqOk_ok h2), shaped_py h1, shaped_py h2, h.pure (b := .bl _) rfl⟩
theorem fits_ne : Fits G W (rNes G.K) neM := by
  intro σ H Q B F env x y a b h ra rb
  by_cases z : ∃ s t, a = .str s ∧ b = .str t
  · obtain ⟨s, t, e1, e2⟩ := z
    subst e1 e2
    cases (show _ = _ from ra); cases (show _ = _ from rb)
    exact .inl ⟨rfl, by rw [dec_str]; exact Pt.pure h (b := .bl _) rfl⟩
  · have e : neM a b = ask (eqOk a = true ∧ eqOk b = true) (ret (.bl (!eqv a b))) := by
      unfold neM
      split
      · exact (z ⟨_, _, rfl, rfl⟩).elim
      · rfl
    rw [e] at h
    obtain ⟨⟨h1, h2⟩, h⟩ := h.asked
    exact .inr ⟨_, _, ra.dp (eqOk_ok h1), rb.dp (eqOk_ok h2), shaped_py h1, shaped_py h2, h.pure (b := .bl _) rfl⟩
abbrev rAdds (K : PySem.W.Frag) : R2 := fun x y H Q => (rI0 fun i j => .int (i + j)) x y H Q ∨ ((fun x y H Q => ∃ i j, x = .str i ∧ y = .str j ∧ i.length + j.length ≤ sizeLine ∧ Q (.str (i ++ j)) H) x y H Q ∨ (DLt.fCat K x y H Q ∨ rCat x y H Q))
theorem op_adds {X : Cx} : OpR X (binaryOp .Add) (rAdds X.K) := op_add.or (op_add_str.or (DLt.op_catF.or op_cat))
theorem fits_add : Fits G W (rAdds G.K) addD := by
  intro σ H Q B F env x y a b h ra rb
  cases a with
  | int i => cases b with
    | int j => exact .inl ⟨_, _, ra, rb, h.pure (b := .int _) rfl⟩
    | _ => exact h.no.elim
  | str s => cases b with
    | str t => exact .inr (.inl ⟨_, _, ra, rb, h.asked.1, h.asked.2.pure (b := .str _) rfl⟩)
    | _ => exact h.no.elim
  | tup as => cases b with
    | tup bs =>
      obtain ⟨p, vs, e, h1, h2⟩ := id ra
      obtain ⟨q, us, e', h1', h2'⟩ := id rb
      subst e; subst e'
      refine .inr (.inr (.inl ⟨p, q, vs, us, rfl, rfl, .inl h1.rd, .inl h1'.rd, by rw [← h2.length, ← h2'.length]; exact h.asked.1, fun z => ?_, fun z => ?_, ?_⟩))
      · subst z
        have z : as = [] := List.length_eq_zero_iff.mp h2.length
        subst z
        exact h.asked.2.pure rb
      · subst z
        have z : bs = [] := List.length_eq_zero_iff.mp h2'.length
        subst z
        exact h.asked.2.pure (by rw [List.append_nil]; exact ra)
      · exact h.asked.2.tup (h2.append h2')
    | _ => exact h.no.elim
  | lst as => cases b with
    | lst bs =>
      obtain ⟨p, vs, e, _, h1, h2⟩ := ra
      obtain ⟨q, us, e', _, h1', h2'⟩ := rb
      subst e; subst e'
      exact .inr (.inr (.inr ⟨p, q, vs, us, rfl, rfl, h1, h1', by rw [← h2.length, ← h2'.length]; exact h.asked.1, fun o ho => h.asked.2.lst (h2.append h2') ho⟩))
    | _ => exact h.no.elim
  | _ => cases b <;> exact h.no.elim
abbrev rMuls (K : PySem.W.Frag) : R2 := fun x y H Q => (rI CMul fun i j => .int (i * j)) x y H Q ∨ (rRep x y H Q ∨ DLt.fRep K x y H Q)
theorem op_muls {X : Cx} : OpR X (binaryOp .Mult) (rMuls X.K) := op_mul.or (op_rep.or DLt.op_repF)
theorem fits_mul : Fits G W (rMuls G.K) mulD := by
  intro σ H Q B F env x y a b h ra rb
  cases a with
  | int i => cases b with
    | int j => exact .inl ⟨_, _, ra, rb, h.asked.1, h.asked.2.pure (b := .int _) rfl⟩
    | _ => exact h.no.elim
  | lst as => cases b with
    | int k =>
      obtain ⟨p, vs, e, _, h1, h2⟩ := ra
      subst e
      obtain ⟨⟨g1, g2, g3⟩, h⟩ := h.asked
      exact .inr (.inl ⟨p, k, vs, rfl, rb, h1, g1, g2, by rw [← h2.length]; exact g3, fun o ho => h.lst (h2.rep _) ho⟩)
    | _ => exact h.no.elim
  | tup as => cases b with
    | int k =>
      obtain ⟨p, vs, e, h1, h2⟩ := id ra
      subst e
      obtain ⟨⟨g0, g1, g2, g3⟩, h⟩ := h.asked
      refine .inr (.inr ⟨p, k, vs, rfl, rb, .inl h1.rd, fun z => ?_, g1, g2, by rw [← h2.length]; exact g3, fun z => ?_, h.tup (h2.rep _)⟩)
      · subst z
        have z := h2.length
        cases as with
        | nil => exact g0 rfl
        | cons _ _ => cases z
      · subst z
        exact h.pure (show Rp G F H _ _ by simpa using ra)
    | _ => exact h.no.elim
  | _ => cases b <;> exact h.no.elim
theorem flat_of {d : D} {v : V} (h : Rp G F H d v) (f : flatD d = true) : flatV v = true := by
  cases d <;> first | (cases (show _ = _ from h); rfl) | cases f
theorem flats_of : ∀ {ds : List D} {vs : List V}, RpL G F H ds vs → ds.all flatD = true → vs.all flatV = true
  | [], _, h, _ => by cases (show _ = _ from h); rfl
  | d :: ds, _, ⟨v, r, e, h1, h2⟩, q => by
    subst e
    have q' : flatD d = true ∧ ds.all flatD = true := by simpa using q
    rw [List.all_cons, flat_of h1 q'.1, flats_of h2 q'.2]; rfl
theorem eqv_flat {d e : D} {v u : V} (h : Rp G F H d v) (h' : Rp G F H e u) (f : flatD d = true) (f' : flatD e = true) : eqV v u = eqv d e := by
  cases d <;> first
    | exact (Bool.false_ne_true f).elim
    | (cases (show _ = _ from h)
       cases e <;> first
         | exact (Bool.false_ne_true f').elim
         | (cases (show _ = _ from h'); rfl))
theorem in_flat {e : D} {u : V} (h' : Rp G F H e u) (f' : flatD e = true) : ∀ {ds : List D} {vs : List V}, RpL G F H ds vs → ds.all flatD = true → inV u vs = ds.any fun d => eqv d e
  | [], _, h, _ => by cases (show _ = _ from h); rfl
  | d :: ds, _, ⟨v, r, z, h1, h2⟩, q => by
    subst z
    have q' : flatD d = true ∧ ds.all flatD = true := by simpa using q
    show (eqV v u || inV u r) = _
    rw [List.any_cons, eqv_flat h1 h' q'.1 f', in_flat h' f' h2 q'.2]
theorem fits_in : Fits G W (rIn G.K false) inM := by
  intro σ H Q B F env x y a b h ra rb
  cases b with
  | tup ds =>
    obtain ⟨p, vs, e, h1, h2⟩ := rb
    subst e
    obtain ⟨⟨g1, g2⟩, h⟩ := Pt.asked h
    refine ⟨p, vs, rfl, .inr (.inl h1.rd), flat_of ra g1, flats_of h2 g2, ?_⟩
    exact h.pure (b := .bl _) (by rw [if_neg Bool.false_ne_true, in_flat ra g1 h2 g2]; rfl)
  | lst ds =>
    obtain ⟨p, vs, e, _, h1, h2⟩ := rb
    subst e
    obtain ⟨⟨g1, g2⟩, h⟩ := Pt.asked h
    refine ⟨p, vs, rfl, .inl (SqL.of h1), flat_of ra g1, flats_of h2 g2, ?_⟩
    exact h.pure (b := .bl _) (by rw [if_neg Bool.false_ne_true, in_flat ra g1 h2 g2]; rfl)
  | _ => exact (Pt.no h).elim
theorem fits_nin : Fits G W (rIn G.K true) ninM := by
  intro σ H Q B F env x y a b h ra rb
  cases b with
  | tup ds =>
    obtain ⟨p, vs, e, h1, h2⟩ := rb
    subst e
    obtain ⟨⟨g1, g2⟩, h⟩ := Pt.asked h
    refine ⟨p, vs, rfl, .inr (.inl h1.rd), flat_of ra g1, flats_of h2 g2, ?_⟩
    exact h.pure (b := .bl _) (by rw [if_pos rfl, in_flat ra g1 h2 g2]; rfl)
  | lst ds =>
    obtain ⟨p, vs, e, _, h1, h2⟩ := rb
    subst e
    obtain ⟨⟨g1, g2⟩, h⟩ := Pt.asked h
    refine ⟨p, vs, rfl, .inl (SqL.of h1), flat_of ra g1, flats_of h2 g2, ?_⟩
    exact h.pure (b := .bl _) (by rw [if_pos rfl, in_flat ra g1 h2 g2]; rfl)
  | _ => exact (Pt.no h).elim
theorem atI_map {α β : Type} {f : α → β} {xs : List α} {i : Int} {a : α} (h : atI xs i = some a) : atI (xs.map f) i = some (f a) := by
  unfold atI at h ⊢
  rw [List.length_map]
  cases q : ixN xs.length i with
  | none => rw [q] at h; cases h
  | some j =>
    rw [q] at h
    have h' : xs[j]? = some a := h
    show (xs.map f)[j]? = _
    rw [List.getElem?_map, h']; rfl
theorem scrSq {ns : List Int} {v : V} (h : Rp G F H (.scr ns) v) : ∃ a, v = .ref a ∧ SqL G.K H a (ns.map V.int) := by
  obtain ⟨a, e, h⟩ := h
  exact ⟨a, e, h.elim (fun q => .inl q.2) fun q => q H⟩
theorem fits_ix : Fits G W (rIx G.K) ixM := by
  intro σ H Q B F env x y a b h ra rb
  cases b with
  | int i =>
    cases a with
    | tup ds =>
      obtain ⟨p, vs, e, h1, h2⟩ := ra
      subst e
      cases q : atI ds i with
      | none => exact (Pt.no (by simpa only [ixM, q] using h)).elim
      | some d =>
        obtain ⟨v, hv, rv⟩ := h2.at q
        have h' : Pt G W (RD G) σ H Q (ret d) B F env := by simpa only [ixM, q] using h
        exact .inr (.inl ⟨p, vs, i, v, rfl, rb, .inl h1.rd, hv, h'.pure rv⟩)
    | lst ds =>
      obtain ⟨p, vs, e, _, h1, h2⟩ := ra
      subst e
      cases q : atI ds i with
      | none => exact (Pt.no (by simpa only [ixM, q] using h)).elim
      | some d =>
        obtain ⟨v, hv, rv⟩ := h2.at q
        have h' : Pt G W (RD G) σ H Q (ret d) B F env := by simpa only [ixM, q] using h
        exact .inl ⟨p, vs, i, v, rfl, rb, SqL.of h1, hv, h'.pure rv⟩
    | scr ns =>
      obtain ⟨p, e, h1⟩ := scrSq ra
      subst e
      cases q : atI ns i with
      | none => exact (Pt.no (by simpa only [ixM, q] using h)).elim
      | some d =>
        have h' : Pt G W (RD G) σ H Q (ret (.int d)) B F env := by simpa only [ixM, q] using h
        exact .inl ⟨p, _, i, .int d, rfl, rb, h1, atI_map q, h'.pure (b := .int d) rfl⟩
    | str s =>
      cases q : atI s.cps.toList i with
      | none => exact (Pt.no (by simpa only [ixM, q] using h)).elim
      | some c =>
        have h' : Pt G W (RD G) σ H Q (ask (s.length ≤ sizeLine) (ret (.str ⟨#[c]⟩))) B F env := by simpa only [ixM, q] using h
        exact .inr (.inr ⟨s, i, c, ra, rb, h'.asked.1, q, h'.asked.2.pure (b := .str _) rfl⟩)
    | _ => exact (Pt.no h).elim
  | _ => cases a <;> exact (Pt.no h).elim
end
end DL
set_option Elab.async false
set_option linter.all false
set_option maxRecDepth 100000
set_option maxHeartbeats 2000000
namespace DL
open PySem PySem.Spec PyProof.Rows L2
variable [Tbs]
def RQ {α : Type} : (Addr → Prop) → (Addr → Prop) → List Slot → L2.St → Hp → α → α → Prop := fun _ _ _ _ _ a b => a = b
abbrev tQ {α : Type} (G : Gx) (W : WX) (m : M α) : L2.St → Hp → (α → Hp → Prop) → Prop := Lift G W RQ m
section
variable {G : Gx} {W : WX} {B F : Addr → Prop} {σ : L2.St} {H : Hp} {env : List Slot} {α β γ δ : Type}
variable {R : (Addr → Prop) → (Addr → Prop) → List Slot → L2.St → Hp → γ → δ → Prop} {Ra : (Addr → Prop) → (Addr → Prop) → List Slot → L2.St → Hp → α → β → Prop} {Q : δ → Hp → Prop}
theorem Pt.bindP {ma : M α} {k : α → M γ} {as : List D} {xs : List V} (h : Pt G W R σ H Q (bnd ma k) B F env) (hx : RpL G F H as xs) :
    Pt G W Ra σ H (fun y H' => ∃ F' env' b, Pt G W R σ H' Q (k b) B F' env' ∧ RpL G F' H' as xs ∧ Ra B F' env' σ H' b y) ma B F env := by
  obtain ⟨Qd, Ed, rel, hm, hq, he⟩ := h
  refine ⟨fun a env' => k a env' Qd Ed, Ed, rel, hm, fun a env' b F' H' hk st rl hr => ?_, he⟩
  refine ⟨F', env', a, ⟨Qd, Ed, rl, hk, fun a2 env2 b2 F2 H2 q2 st2 rl2 r2 => hq a2 env2 b2 F2 H2 q2 (st.trans st2) rl2 r2, fun x env2 cls d F2 H2 q2 st2 rl2 r2 => he x env2 cls d F2 H2 q2 (st.trans st2) rl2 r2⟩, RpL.mono st as xs hx, hr⟩
/-- a bool handed on -/
theorem Pt.asb {m : M D} {Q : Bool → Hp → Prop} (h : Pt G W RB σ H Q (bnd m asB) B F env) : Pt G W (RD G) σ H (fun z H' => ∃ c, z = .bl c ∧ Q c H') m B F env := by
  refine (h.bindP (Ra := RD G) (as := []) (xs := []) rfl).imp fun y H' ⟨F', env', d, p, _, r⟩ => ?_
  cases d with
  | bl c => exact ⟨c, r, p.pure rfl⟩
  | _ => exact (Pt.no p).elim
end
theorem Pt.known {G : Gx} {W : WX} {B F : Addr → Prop} {σ : L2.St} {H : Hp} {env : List Slot} {γ δ : Type} {R : (Addr → Prop) → (Addr → Prop) → List Slot → L2.St → Hp → γ → δ → Prop} {Q : δ → Hp → Prop} {q : Bool} {k : Bool → M γ}
    (h : Pt G W R σ H Q (bnd (asB (.bl q)) k) B F env) : Pt G W R σ H Q (k q) B F env := h
theorem Pt.unknown {G : Gx} {W : WX} {B F : Addr → Prop} {σ : L2.St} {H : Hp} {env : List Slot} {α γ δ : Type} {R : (Addr → Prop) → (Addr → Prop) → List Slot → L2.St → Hp → γ → δ → Prop} {Q : δ → Hp → Prop} {k : α → M γ}
    (h : Pt G W R σ H Q (bnd fail k) B F env) : False := by
  obtain ⟨Qd, Ed, rel, hm, hq, he⟩ := h
  exact hm
section
variable {X : Cx} {C : Addr} {W : WX} {a b c : Expr} {es : List Expr} {ma mb mc : M D} {ms : M (List D)} {pos : Pos} {mt mu : M Bool} {rest : List Expr}
theorem e_var {i : Nat} {e : Expr} (h : PE X e (tVar i)) : PE X e (tD (gx X C) W (dVar i)) := peImp h fun σ H Q ⟨B, F, env, Qd, Ed, rel, hm, hq, he⟩ => by
  unfold dVar at hm
  cases q : env[i]? with
  | none => rw [q] at hm; exact hm.elim
  | some s =>
    rw [q] at hm
    cases s with
    | im d =>
      obtain ⟨v, h1, h2⟩ := rel.sl i _ q
      exact ⟨v, h1, hq d env v F H hm Stp.refl rel h2⟩
    | _ => exact hm.elim
theorem e_int {i : Int} {j p} : PE X (.Constant (.int i) j p) (tD (gx X C) W (ret (.int i))) := peImp pe_int fun σ H Q ⟨B, F, env, h⟩ => h.pure (b := .int i) rfl
theorem e_bl {i : Bool} {j p} : PE X (.Constant (.bool i) j p) (tD (gx X C) W (ret (.bl i))) := peImp pe_bl fun σ H Q ⟨B, F, env, h⟩ => h.pure (b := .bl i) rfl
theorem e_str {i : Str} {j p} : PE X (.Constant (.str i) j p) (tD (gx X C) W (ret (.str i))) := peImp pe_str fun σ H Q ⟨B, F, env, h⟩ => h.pure (b := .str i) rfl
theorem e_non {j p} : PE X (.Constant .none j p) (tD (gx X C) W (ret .non)) := peImp pe_non fun σ H Q ⟨B, F, env, h⟩ => h.pure (b := .non) rfl
/-- a module's constant -/
theorem e_glob {x : Str} {d : D} {v : V} {e : Expr} (h : PE X e (tC v)) (r : ∀ F H, Rp (gx X C) F H d v) : PE X e (tD (gx X C) W (ret d)) := peImp h fun σ H Q ⟨B, F, env, h⟩ => h.pure (b := v) (r F H)
theorem e_op {op : Operator} {r : R2} {k : D → D → M D} (ho : OpR X (binaryOp op) r) (hk : Fits (gx X C) W r k) (ha : PE X a (tD (gx X C) W ma)) (hb : PE X b (tD (gx X C) W mb)) :
    PE X (.BinOp a op b pos) (tD (gx X C) W (do2 ma mb k)) := peImp (pe_op ho ha hb) fun σ H Q h =>
  (lift2 h).imp fun x H1 h1 => h1.imp fun y H2 ⟨B, F, env, d, e, p, r1, r2⟩ => hk p r1 r2
theorem e_add (ha : PE X a (tD (gx X C) W ma)) (hb : PE X b (tD (gx X C) W mb)) : PE X (.BinOp a .Add b pos) (tD (gx X C) W (do2 ma mb addD)) := e_op op_adds fits_add ha hb
theorem e_sub (ha : PE X a (tD (gx X C) W ma)) (hb : PE X b (tD (gx X C) W mb)) : PE X (.BinOp a .Sub b pos) (tD (gx X C) W (do2 ma mb subD)) := e_op op_sub fits_sub ha hb
theorem e_mul (ha : PE X a (tD (gx X C) W ma)) (hb : PE X b (tD (gx X C) W mb)) : PE X (.BinOp a .Mult b pos) (tD (gx X C) W (do2 ma mb mulD)) := e_op op_muls fits_mul ha hb
theorem e_mod (ha : PE X a (tD (gx X C) W ma)) (hb : PE X b (tD (gx X C) W mb)) : PE X (.BinOp a .Mod b pos) (tD (gx X C) W (do2 ma mb modD)) := e_op op_mod fits_mod ha hb
theorem e_fdiv (ha : PE X a (tD (gx X C) W ma)) (hb : PE X b (tD (gx X C) W mb)) : PE X (.BinOp a .FloorDiv b pos) (tD (gx X C) W (do2 ma mb fdivD)) := e_op op_fdiv fits_fdiv ha hb
theorem e_pow (ha : PE X a (tD (gx X C) W ma)) (hb : PE X b (tD (gx X C) W mb)) : PE X (.BinOp a .Pow b pos) (tD (gx X C) W (do2 ma mb powD)) := e_op op_pow fits_pow ha hb
theorem e_cmp {op : CmpOp} {r : R2} {k : D → D → M D} (ho : OpR X (compareOp op) r) (hk : Fits (gx X C) W r k) (ha : PE X a (tD (gx X C) W ma)) (hb : PE X b (tD (gx X C) W mb)) (hm : behindInMarks op b = false) :
    PE X (.Compare a [op] [b] pos) (tD (gx X C) W (do2 ma mb k)) := peImp (pe_cmpR ho ha hb hm) fun σ H Q h =>
  (lift2 h).imp fun x H1 h1 => h1.imp fun y H2 ⟨B, F, env, d, e, p, r1, r2⟩ => hk p r1 r2
theorem t_cmp {op : CmpOp} {r : R2} {k : D → D → M D} (ho : OpR X (compareOp op) r) (hk : Fits (gx X C) W r k) (ha : PE X a (tD (gx X C) W ma)) (hb : PE X b (tD (gx X C) W mb)) (hm : behindInMarks op b = false) :
    PT X (.Compare a [op] [b] pos) (tBl (gx X C) W (do2 ma mb fun x y => bnd (k x y) asB)) := ptImp (pt_cmpR ho ha hb hm) fun σ H Q h =>
  (lift2 h).imp fun x H1 h1 => h1.imp fun y H2 ⟨B, F, env, d, e, p, r1, r2⟩ => hk p.asb r1 r2
theorem e_chain {op op' : CmpOp} {r r' : R2} {k k' : D → D → M D} (ho : OpR X (compareOp op) r) (ho' : OpR X (compareOp op') r') (hk : Fits (gx X C) W r k) (hk' : Fits (gx X C) W r' k')
    (ha : PE X a (tD (gx X C) W ma)) (hb : PE X b (tD (gx X C) W mb)) (hc : PE X c (tD (gx X C) W mc)) (hm : lastMarks [op, op'] [b, c] = false := by with_unfolding_all rfl) :
    PE X (.Compare a [op, op'] [b, c] pos) (tD (gx X C) W (chM k k' ma mb mc)) := peImp (pe_chain ho ho' ha hb hc hm) fun σ H Q h =>
  (lift2 (k := fun a b => bnd (k a b) fun z => match z with
    | .bl true => bnd mc fun c => k' b c
    | .bl false => ret (.bl false)
    | _ => fail) h).imp fun x H1 h1 => h1.imp fun y H2 ⟨B, F, env, d, e, p, r1, r2⟩ => by
    refine hk ((p.bindP (Ra := RD (gx X C)) (as := [e]) (xs := [y]) ⟨y, [], rfl, r2, rfl⟩).imp fun z H3 ⟨F3, env3, g, p3, ⟨y', rr, ee, re, _⟩, rz⟩ => ?_) r1 r2
    cases ee
    cases g with
    | bl q =>
      refine ⟨q, rz, ?_⟩
      cases q with
      | true =>
        rw [if_pos rfl]
        refine (p3.bind (Ra := RD (gx X C)) (as := [e]) (xs := [y]) ⟨y, [], rfl, re, rfl⟩).imp fun w' H4 ⟨F4, env4, u, p4, ⟨y', rr, ee, re, _⟩, ru⟩ => ?_
        cases ee
        exact hk' p4 re ru
      | false =>
        rw [if_neg Bool.false_ne_true]
        exact p3.pure (b := .bl false) rfl
    | _ => exact (Pt.no p3).elim
theorem isEmpty_rp {G : Gx} {F : Addr → Prop} {H : Hp} {ds : List D} {vs : List V} (h : RpL G F H ds vs) : vs.isEmpty = ds.isEmpty := by
  cases ds with
  | nil => cases (show _ = _ from h); rfl
  | cons d ds => obtain ⟨v, r, e, _⟩ := h; subst e; rfl
theorem t_tru (ha : PE X a (tD (gx X C) W ma)) (he : ∀ whole, isTrue a X.env whole = (do let v ← whole; standAt a.pos; holding [v] (truthy v)) := by intro _; rfl) : PT X a (tBl (gx X C) W (bnd ma truD)) :=
  ptImp (pt_truth ha he) fun σ H Q h => (lift1 (Ra := RD (gx X C)) h).imp fun x H1 ⟨B, F, env, d, p, r⟩ => by
    cases d with
    | non => cases (show _ = _ from r); exact ⟨false, rfl, p.pure rfl⟩
    | bl q => cases (show _ = _ from r); exact ⟨q, rfl, p.pure rfl⟩
    | int i => cases (show _ = _ from r); exact ⟨_, rfl, p.pure rfl⟩
    | str s => cases (show _ = _ from r); exact ⟨_, ⟨(Pt.asked p).1, rfl⟩, (Pt.asked p).2.pure rfl⟩
    | byt _ => exact (Pt.no p).elim
    | hall _ _ => exact (Pt.no p).elim
    | emp => exact (Pt.no p).elim
    | exn _ _ _ => exact (Pt.no p).elim
    | dct _ _ => exact (Pt.no p).elim
    | dcn _ _ => exact (Pt.no p).elim
    | fn _ => exact (Pt.no p).elim
    | pr _ => exact (Pt.no p).elim
    | tup ds => obtain ⟨q, vs, e, h1, h2⟩ := r; subst e; exact ⟨_, .inr (.inl ⟨vs, .inl h1.rd, rfl⟩), p.pure (by rw [isEmpty_rp h2]; rfl)⟩
    | lst ds => obtain ⟨q, vs, e, _, h1, h2⟩ := r; subst e; exact ⟨_, .inl ⟨vs, SqL.of h1, rfl⟩, p.pure (by rw [isEmpty_rp h2]; rfl)⟩
    | scr ns => obtain ⟨q, e, h1⟩ := scrSq r; subst e; exact ⟨_, .inl ⟨_, h1, rfl⟩, p.pure (by rw [List.isEmpty_map]; rfl)⟩
theorem w_and1 (ha : PT X a (tBl (gx X C) W mt)) : PW X (.BoolOp .And [a] pos) (tBl (gx X C) W mt) := pw_and1 ha
theorem w_or1 (ha : PT X a (tBl (gx X C) W mt)) : PW X (.BoolOp .Or [a] pos) (tBl (gx X C) W mt) := pw_or1 ha
theorem pwImp {X : Cx} {e : Expr} {t t' : TT} (h : PW X e t) (i : ∀ σ H Q, t' σ H Q → t σ H Q) : PW X e t' := ⟨fun wh pins s σ H Q I q => h.run wh pins s σ H Q I (i σ H Q q)⟩
theorem w_and (ha : PT X a (tBl (gx X C) W mt)) (hb : PW X (.BoolOp .And (b :: rest) pos) (tBl (gx X C) W mu)) : PW X (.BoolOp .And (a :: b :: rest) pos) (tBl (gx X C) W (andB mt mu)) :=
  pwImp (pw_and ha hb) fun σ H Q h => (lift1 (Ra := RB) h).imp fun q H1 ⟨B, F, env, d, p, r⟩ => by
    cases (show d = q from r)
    cases q with
    | true => rw [if_pos rfl] at p ⊢; exact p.lift
    | false => rw [if_neg Bool.false_ne_true] at p ⊢; exact p.pure rfl
theorem w_or (ha : PT X a (tBl (gx X C) W mt)) (hb : PW X (.BoolOp .Or (b :: rest) pos) (tBl (gx X C) W mu)) : PW X (.BoolOp .Or (a :: b :: rest) pos) (tBl (gx X C) W (orB mt mu)) :=
  pwImp (pw_or ha hb) fun σ H Q h => (lift1 (Ra := RB) h).imp fun q H1 ⟨B, F, env, d, p, r⟩ => by
    cases (show d = q from r)
    cases q with
    | true => rw [if_pos rfl] at p ⊢; exact p.pure rfl
    | false => rw [if_neg Bool.false_ne_true] at p ⊢; exact p.lift
theorem t_not (ha : PT X a (tBl (gx X C) W mt)) : PT X (.UnaryOp .Not a pos) (tBl (gx X C) W (notB mt)) :=
  ptImp (pt_not ha) fun σ H Q h => (lift1 (Ra := RB) h).imp fun q H1 ⟨B, F, env, d, p, r⟩ => by
    cases (show d = q from r)
    exact p.pure rfl
theorem e_one {op} (h : PE X a (tD (gx X C) W ma)) : PE X (.BoolOp op [a] pos) (tD (gx X C) W ma) := pe_one h
theorem e_and (ha : PE X a (tD (gx X C) W ma)) (hb : PE X (.BoolOp .And (b :: rest) pos) (tD (gx X C) W mb)) : PE X (.BoolOp .And (a :: b :: rest) pos) (tD (gx X C) W (andV ma mb)) :=
  peImp (pe_and ha hb) fun σ H Q h => (lift1 (Ra := RD (gx X C)) h).imp fun x H1 ⟨B, F, env, d, p, r⟩ => by
    cases d with
    | bl q =>
      refine ⟨q, r, ?_⟩
      have p := p.known
      cases q with
      | true => rw [if_pos rfl] at p ⊢; exact p.lift
      | false => rw [if_neg Bool.false_ne_true] at p ⊢; exact p.pure (b := .bl false) rfl
    | _ => exact (Pt.unknown p).elim
theorem e_not (ha : PE X a (tD (gx X C) W ma)) : PE X (.UnaryOp .Not a pos) (tD (gx X C) W (notV ma)) :=
  peImp (pe_not ha) fun σ H Q h => (lift1 (Ra := RD (gx X C)) h).imp fun x H1 ⟨B, F, env, d, p, r⟩ => by
    cases d with
    | bl q => exact ⟨q, r, p.known.pure (b := .bl !q) rfl⟩
    | _ => exact (Pt.unknown p).elim
theorem e_ife (hc : PT X c (tBl (gx X C) W mt)) (ha : PE X a (tD (gx X C) W ma)) (hb : PE X b (tD (gx X C) W mb)) : PE X (.IfExp c a b pos) (tD (gx X C) W (ifM mt ma mb)) :=
  peImp (pe_ifExp hc ha hb) fun σ H Q h => (lift1 (Ra := RB) h).imp fun q H1 ⟨B, F, env, d, p, r⟩ => by
    cases (show d = q from r)
    cases q with
    | true => rw [if_pos rfl] at p ⊢; exact p.lift
    | false => rw [if_neg Bool.false_ne_true] at p ⊢; exact p.lift
theorem a_nil : PA X [] (tDs (gx X C) W (ret [])) := paImp pa_nil fun σ H Q ⟨B, F, env, h⟩ => h.pure rfl
theorem a_cons (ha : PE X a (tD (gx X C) W ma)) (hr : PA X es (tDs (gx X C) W ms)) (hs : starEach (a :: es) X.env = (false, eval a X.env) :: starEach es X.env := by rfl) : PA X (a :: es) (tDs (gx X C) W (consM ma ms)) :=
  paImp (pa_cons ha hr hs) fun σ H Q h => (lift1 (Ra := RD (gx X C)) h).imp fun x H1 ⟨B, F, env, d, p, r⟩ =>
    (p.bind (Ra := RDs (gx X C)) (as := [d]) (xs := [x]) ⟨x, [], rfl, r, rfl⟩).imp fun xs H2 ⟨F2, env2, ds, p2, ⟨x', r', e, rd, _⟩, rs⟩ => by
      cases e
      exact p2.pure ⟨x, xs, rfl, rd, rs⟩
theorem e_tup {x1} (h : PA X es (tDs (gx X C) W ms)) : PE X (.Tuple es x1 pos) (tD (gx X C) W (tupM ms)) :=
  peImp (DLt.pf_tup h) fun σ H Q h => (lift1 (Ra := RDs (gx X C)) h).imp fun xs H1 ⟨B, F, env, ds, p, r⟩ => ⟨by rw [← RpL.length r]; exact p.asked.1, p.asked.2.tup r⟩
theorem e_lst (h : PA X es (tDs (gx X C) W ms)) : PE X (.List es pos) (tD (gx X C) W (lstM ms)) :=
  peImp (pe_lst h) fun σ H Q h => (lift1 (Ra := RDs (gx X C)) h).imp fun xs H1 ⟨B, F, env, ds, p, r⟩ => ⟨by rw [← RpL.length r]; exact p.asked.1, fun q hq => p.asked.2.lst r hq⟩
theorem o_lst (h : PA X es (tDs (gx X C) W ms)) : PE X (.List es pos) (tO (gx X C) W (olstM ms)) :=
  peImp (pe_lst h) fun σ H Q h => (lift1 (Ra := RDs (gx X C)) h).imp fun xs H1 ⟨B, F, env, ds, p, r⟩ => ⟨by rw [← RpL.length r]; exact p.asked.1, fun q hq => p.asked.2.olst r hq⟩
theorem e_ix (ha : PE X a (tD (gx X C) W ma)) (hb : PE X b (tD (gx X C) W mb)) (hs : PlainIx b := by exact fun _ _ => rfl) : PE X (.Subscript a b pos) (tD (gx X C) W (do2 ma mb ixM)) :=
  peImp (pe_ix ix_seq ha hb hs) fun σ H Q h => (lift2 h).imp fun x H1 h1 => h1.imp fun y H2 ⟨B, F, env, d, e, p, r1, r2⟩ => fits_ix p r1 r2
theorem poImp {X : Cx} {e : Option Expr} {t t' : TO} (h : PO X e t) (i : ∀ σ H Q, t' σ H Q → t σ H Q) : PO X e t' := ⟨fun pins s σ H Q I q => h.run pins s σ H Q I (i σ H Q q)⟩
theorem p_none : PO X none (tQ (gx X C) W (ret none)) := poImp po_none fun σ H Q ⟨B, F, env, h⟩ => h.pure rfl
theorem p_some (ha : PE X a (tD (gx X C) W ma)) : PO X (some a) (tQ (gx X C) W (partM ma)) := poImp (po_some ha) fun σ H Q h => (lift1 (Ra := RD (gx X C)) h).imp fun x H1 ⟨B, F, env, d, p, r⟩ => by
  cases d with
  | int i => exact ⟨i, r, p.pure rfl⟩
  | _ => exact (Pt.no p).elim
theorem cutV_rp {G : Gx} {F : Addr → Prop} {H : Hp} {ds : List D} {vs : List V} (h : RpL G F H ds vs) (lo hi : Option Int) : RpL G F H (cutL ds lo hi) (cutV vs lo hi) := by
  unfold cutL cutV
  rw [h.length]
  exact (h.drop _).take _
theorem cut_all {α : Type} {xs : List α} {lo hi : Option Int} (h : HT.sIx xs.length 0 lo = 0 ∧ HT.sIx xs.length xs.length hi = xs.length) : cutL xs lo hi = xs := by
  unfold cutL
  rw [h.1, h.2]
  simp
abbrev rSls (K : PySem.W.Frag) : V → Option Int → Option Int → Hp → VK → Prop := fun x lo hi H Q => DLt.fCut K x lo hi H Q ∨ (rSlL K x lo hi H Q ∨ rSlS x lo hi H Q)
theorem e_sl {lo hi : Option Expr} {mlo mhi : M (Option Int)} {p2 : Pos} (ha : PE X a (tD (gx X C) W ma)) (hl : PO X lo (tQ (gx X C) W mlo)) (hh : PO X hi (tQ (gx X C) W mhi)) :
    PE X (.Subscript a (.Slice lo hi none p2) pos) (tD (gx X C) W (bnd ma fun d => bnd mlo fun l => bnd mhi fun h => slM d l h)) :=
  peImp (pe_slice (r := rSls X.K) (DLt.sl_tupF.or (sl_list.or sl_str)) ha hl hh) fun σ H Q h => (lift1 (Ra := RD (gx X C)) h).imp fun x H1 ⟨B, F, env, d, p, r⟩ =>
    (p.bind (Ra := RQ) (as := [d]) (xs := [x]) ⟨x, [], rfl, r, rfl⟩).imp fun l H2 ⟨F2, env2, l', p2, rd, e⟩ => by
      cases (show l' = l from e)
      refine (p2.bind (Ra := RQ) (as := [d]) (xs := [x]) rd).imp fun u H3 ⟨F3, env3, u', p3, ⟨x', r', e', rd, _⟩, e⟩ => ?_
      cases (show u' = u from e)
      cases e'
      cases d with
      | tup ds =>
        obtain ⟨q, vs, e, h1, h2⟩ := id rd
        subst e
        refine .inl ⟨q, vs, rfl, .inl h1.rd, fun z => ?_, Pt.tup (ds := cutL ds l u) p3 (cutV_rp h2 l u)⟩
        rw [← h2.length] at z
        exact Pt.pure (c := D.tup (cutL ds l u)) p3 (by rw [cut_all z]; exact rd)
      | lst ds =>
        obtain ⟨q, vs, e, _, h1, h2⟩ := rd
        subst e
        exact .inr (.inl ⟨q, vs, rfl, SqL.of h1, fun o ho => Pt.lst (ds := cutL ds l u) p3 (cutV_rp h2 l u) ho⟩)
      | scr ns =>
        obtain ⟨q, e, h1⟩ := scrSq rd
        subst e
        refine .inr (.inl ⟨q, _, rfl, h1, fun o ho => Pt.lst (ds := (cutL ns l u).map .int) p3 (RpL.ints.mpr ?_) ho⟩)
        unfold cutL cutV
        rw [List.length_map, List.map_take, List.map_drop]
      | str s => exact .inr (.inr ⟨s, rd, (Pt.asked p3).1, (Pt.asked p3).2.pure (b := .str _) rfl⟩)
      | _ => exact (Pt.no p3).elim
end
end DL
set_option Elab.async false
set_option linter.all false
set_option maxRecDepth 100000
set_option maxHeartbeats 2000000
namespace DL
open PySem PySem.Spec PyProof.Rows L2
variable [Tbs]
section
variable {G : Gx} {W : WX} {B F : Addr → Prop} {σ : L2.St} {H : Hp} {env : List Slot} {α β γ δ : Type}
theorem feet_im {d : D} {x : Option (Option V)} {a : Addr} (h : (Slot.im d).feet x a) : False := by
  rcases h with ⟨k, _⟩ | ⟨_, _, e, _⟩
  · cases k
  · cases e
theorem feet_own {s : Slot} {v : V} {a : Addr} (h : s.feet (some (some v)) a) (k : s.own = true) : v = .ref a := by
  rcases h with ⟨_, e⟩ | ⟨_, _, e, _⟩
  · exact Option.some.inj (Option.some.inj e)
  · subst e; cases k
/-- slot i gets a datum -/
theorem Rel.setI (rel : Rel G B F σ env H) {i : Nat} {d : D} {v : V} (r : Rp G F H d v) : Rel G B F (σ.set i (some v)) (env.set i (.im d)) H := by
  refine ⟨by rw [List.length_set, List.length_set]; exact rel.len, fun j s e => ?_, fun j k a h1 h2 => ?_, rel.hB, rel.hF, rel.tb⟩
  · by_cases hj : j = i
    · subst hj
      have hlt : j < env.length := by
        have := (List.getElem?_eq_some_iff.mp e).1
        rw [List.length_set] at this; exact this
      rw [List.getElem?_set_self hlt] at e
      cases e
      rw [List.getElem?_set_self (by rw [← rel.len]; exact hlt)]
      exact ⟨v, rfl, r⟩
    · rw [List.getElem?_set_ne (Ne.symm hj)] at e ⊢
      exact rel.sl j s e
  · rcases ownAt_set rel.len h1 with ⟨_, z⟩ | ⟨_, h1⟩
    · exact (feet_im z).elim
    · rcases ownAt_set rel.len h2 with ⟨_, z⟩ | ⟨_, h2⟩
      · exact (feet_im z).elim
      · exact rel.ap j k a h1 h2
/-- slot i gets a new object -/
theorem Rel.setO (rel : Rel G B F σ env H) {i : Nat} {o : O} {a : Addr} (hF : ¬ F a) (hB : ¬ B a) (ho : OwAt G F H a o) (hn : ∀ j, ¬ OwnAt env σ j a) : Rel G B F (σ.set i (some (.ref a))) (env.set i (.ow o)) H := by
  refine ⟨by rw [List.length_set, List.length_set]; exact rel.len, fun j s e => ?_, fun j k b h1 h2 => ?_, rel.hB, rel.hF, rel.tb⟩
  · by_cases hj : j = i
    · subst hj
      have hlt : j < env.length := by
        have := (List.getElem?_eq_some_iff.mp e).1
        rw [List.length_set] at this; exact this
      rw [List.getElem?_set_self hlt] at e
      cases e
      rw [List.getElem?_set_self (by rw [← rel.len]; exact hlt)]
      exact ⟨a, rfl, hF, hB, ho⟩
    · rw [List.getElem?_set_ne (Ne.symm hj)] at e ⊢
      exact rel.sl j s e
  · rcases ownAt_set rel.len h1 with ⟨e1, z⟩ | ⟨n1, h1⟩
    · rcases ownAt_set rel.len h2 with ⟨e2, z'⟩ | ⟨_, h2⟩
      · rw [e1, e2]
      · cases feet_own z rfl
        exact (hn k h2).elim
    · rcases ownAt_set rel.len h2 with ⟨_, z⟩ | ⟨_, h2⟩
      · cases feet_own z rfl
        exact (hn j h1).elim
      · exact rel.ap j k b h1 h2
/-- the owned object in slot i: where it stands -/
theorem Rel.owned (rel : Rel G B F σ env H) {i : Nat} {o : O} (h : env[i]? = some (.ow o) ∨ ∃ b, env[i]? = some (.io b o)) : ∃ a, σ[i]? = some (some (.ref a)) ∧ ¬ F a ∧ ¬ B a ∧ OwAt G F H a o ∧ OwnR env σ i a := by
  rcases h with h | ⟨b, h⟩
  · obtain ⟨a, h1, h2, h3, h4⟩ := rel.sl i _ h
    exact ⟨a, h1, h2, h3, h4, ⟨_, h, rfl⟩, h1⟩
  · obtain ⟨h1, h2, h3, h4⟩ := rel.sl i _ h
    exact ⟨b, h1, h2, h3, h4, ⟨_, h, rfl⟩, h1⟩
/-- the owned object at a is written: a tracked tuple, the frozen, the others' objects stay -/
theorem stp_own {a : Addr} {u : HO} (hF : ¬ F a) (hB : ¬ B a) (ht : (∀ vs, ¬ Rd H a (.tup vs)) ∧ ∀ o v, H a ≠ some (.frz o v)) (nt : ∀ ps, H a ≠ some (.tbl ps)) (nc : ∀ q, H a ≠ some (LamX.CodeO a q)) : Stp B F H F (upd H a u) where
  tb := fun t => t.own nt nc
  fm := fun _ h => h
  fn := fun _ h => .inl h
  hk0 := fun b o h e _ => by rw [upd_ne fun z => by subst z; exact h.elim hB hF]; exact e
  ht := fun b vs h => by
    have ne : b ≠ a := fun z => by subst z; exact ht.1 vs h
    exact h.imp (fun q => by rw [upd_ne ne]; exact q) fun ⟨o, q⟩ => ⟨o, by rw [upd_ne ne]; exact q⟩
  fz := fun b o v e => by rw [upd_ne fun z => by subst z; exact ht.2 o v e]; exact e
theorem OwAt.nofrz {a : Addr} : ∀ {o : O}, OwAt G F H a o → ∀ ob v, H a ≠ Option.some (HO.frz ob v)
  | .lst ds, ⟨us, h1, _⟩, ob, v => by rw [h1]; exact fun z => nomatch z
  | .set S n, h1, ob, v => by rw [show H a = _ from h1]; exact fun z => by have h2 := Option.some.inj z; cases h2
  | .dic kvs, ⟨us, h1, _⟩, ob, v => by rw [h1]; exact fun z => by have h2 := Option.some.inj z; cases h2
  | .dcn kvs, ⟨us, _, h1, _⟩, ob, v => by rw [h1]; exact fun z => by have h2 := Option.some.inj z; cases h2
  | .ins C fs, ⟨dx, us, h1, _⟩, ob, v => by rw [h1]; exact fun z => by have h2 := Option.some.inj z; cases h2
theorem OwAt.notup0 {a : Addr} : ∀ {o : O}, OwAt G F H a o → ∀ vs, ¬ Rd H a (.tup vs)
  | .lst ds, ⟨us, h1, _⟩, vs, h => by rcases h with h | ⟨o, h⟩ <;> (rw [h1] at h; cases h)
  | .set S n, h1, vs, h => by rcases h with h | ⟨o, h⟩ <;> (rw [show H a = _ from h1] at h; cases h)
  | .dic kvs, ⟨us, h1, _⟩, vs, h => by rcases h with h | ⟨o, h⟩ <;> (rw [h1] at h; cases h)
  | .dcn kvs, ⟨us, _, h1, _⟩, vs, h => by rcases h with h | ⟨o, h⟩ <;> (rw [h1] at h; have h2 := Option.some.inj h; cases h2)
  | .ins C fs, ⟨dx, us, h1, _⟩, vs, h => by rcases h with h | ⟨o, h⟩ <;> (rw [h1] at h; cases h)
theorem OwAt.notup {a : Addr} {o : O} (h : OwAt G F H a o) : (∀ vs, ¬ Rd H a (.tup vs)) ∧ ∀ ob v, H a ≠ Option.some (HO.frz ob v) := ⟨h.notup0, h.nofrz⟩
theorem own_set {s1 : Slot} {i : Nat} (hs : ∀ b, s1.feet σ[i]? b → OwnAt env σ i b) {m : Nat} {b : Addr} (w : OwnAt (env.set i s1) σ m b) : OwnAt env σ m b := by
  obtain ⟨t, e1, e2⟩ := own_feet.mp w
  by_cases hm : m = i
  · subst hm
    have hlt := (List.getElem?_eq_some_iff.mp e1).1
    rw [List.length_set] at hlt
    rw [List.getElem?_set_self hlt] at e1
    cases e1
    exact hs b e2
  · rw [List.getElem?_set_ne (Ne.symm hm)] at e1
    exact own_feet.mpr ⟨t, e1, e2⟩
theorem own_put {i : Nat} {o : O} {m : Nat} {b : Addr} (w : OwnAt (putS env i o) σ m b) : OwnAt env σ m b := by
  unfold putS at w
  cases q : env[i]? with
  | none => rw [q] at w; exact w
  | some s0 =>
    rw [q] at w
    cases s0 with
    | ow _ => exact own_set (s1 := .ow o) (fun b h => .inl ⟨⟨_, q, rfl⟩, (feet_root h fun _ _ z => nomatch z).2⟩) w
    | io _ _ => exact own_set (s1 := .io _ o) (fun b h => .inl ⟨⟨_, q, rfl⟩, (feet_root h fun _ _ z => nomatch z).2⟩) w
    | _ => exact w
theorem Rel.put (rel : Rel G B F σ env H) {i : Nat} {o o' : O} {a : Addr} {u : HO} (h : OwnR env σ i a) (hw : OwAt G F H a o) (hu : OwAt G F (upd H a u) a o') :
    Stp B F H F (upd H a u) ∧ Rel G B F σ (putS env i o') (upd H a u) := by
  obtain ⟨hs, hF, hB⟩ := rel.ownSome (.inl h)
  have st : Stp B F H F (upd H a u) := stp_own hF hB hw.notup hw.noTab hw.noCode
  refine ⟨st, ?_⟩
  have hlt : i < env.length := by obtain ⟨⟨s, e, _⟩, _⟩ := h; exact (List.getElem?_eq_some_iff.mp e).1
  have other : ∀ j s, j ≠ i → env[j]? = some s → SlotR G B F (upd H a u) σ[j]? s := fun j s ne e => by
    have q := rel.sl j s e
    cases s with
    | no => trivial
    | im d => obtain ⟨v, h1, h2⟩ := q; exact ⟨v, h1, Rp.mono st d v h2⟩
    | ow p =>
      obtain ⟨b, h1, h2, h3, h4⟩ := q
      have nb : b ≠ a := fun z => by subst z; exact ne (rel.ap j i b (.inl ⟨⟨_, e, rfl⟩, h1⟩) (.inl h))
      exact ⟨b, h1, h2, h3, OwAt.mono st (upd_ne nb) h4⟩
    | io b p =>
      obtain ⟨h1, h2, h3, h4⟩ := q
      have nb : b ≠ a := fun z => by subst z; exact ne (rel.ap j i b (.inl ⟨⟨_, e, rfl⟩, h1⟩) (.inl h))
      exact ⟨h1, h2, h3, OwAt.mono st (upd_ne nb) h4⟩
    | tr r ns =>
      obtain ⟨h1, t⟩ := q
      refine ⟨h1, t.root, t.nd, fun p hp => ?_⟩
      have nb : p.1 ≠ a := fun z => ne (rel.ap j i p.1 (.inr ⟨r, ns, e, List.mem_map.mpr ⟨p, hp, rfl⟩⟩) (.inl (z ▸ h)))
      exact ⟨(t.at_ p hp).1, (t.at_ p hp).2.1, R1At.mono st (upd_ne nb) (t.at_ p hp).2.2⟩
  obtain ⟨⟨s, e, k⟩, hσ⟩ := id h
  have fin : ∀ s' : Slot, s'.own = true → SlotR G B F (upd H a u) σ[i]? s' → Rel G B F σ (env.set i s') (upd H a u) := fun s' k' r => by
    refine ⟨by rw [List.length_set]; exact rel.len, fun j t e' => ?_, fun j l b h1 h2 => ?_, fun b z => st.hs b (.inl z) (rel.hB b z), fun b z => st.hs b (.inr z) (rel.hF b z), st.tb rel.tb⟩
    · by_cases hj : j = i
      · subst hj
        rw [List.getElem?_set_self hlt] at e'
        cases e'
        exact r
      · rw [List.getElem?_set_ne (Ne.symm hj)] at e'
        exact other j t hj e'
    · have back : ∀ m, OwnAt (env.set i s') σ m b → OwnAt env σ m b := fun m w => by
        obtain ⟨t, e1, e2⟩ := own_feet.mp w
        by_cases hm : m = i
        · subst hm
          rw [List.getElem?_set_self hlt] at e1
          cases e1
          rcases e2 with ⟨_, e2⟩ | ⟨_, _, q, _⟩
          · exact .inl ⟨⟨s, e, k⟩, e2⟩
          · subst q; cases k'
        · rw [List.getElem?_set_ne (Ne.symm hm)] at e1
          exact own_feet.mpr ⟨t, e1, e2⟩
      exact rel.ap j l b (back j h1) (back l h2)
  unfold putS
  rw [e]
  cases s with
  | ow p => exact fin (.ow o') rfl ⟨a, hσ, hF, hB, hu⟩
  | io b p =>
    have z : σ[i]? = some (some (.ref b)) := (rel.sl i _ e).1
    rw [hσ] at z
    cases z
    exact fin (.io a o') rfl ⟨hσ, hF, hB, hu⟩
  | no => cases k
  | im d => cases k
  | tr _ _ => cases k
theorem Ps.next {Z : Ends} (h : Ps G W (ret .nx) Z σ H B F env) : Z.nx σ H := by
  obtain ⟨Qd, Ed, rel, hm, h1, _⟩ := h
  exact h1 env σ F H hm Stp.refl rel
theorem Ps.retd {Z : Ends} {d : D} {v : V} (h : Ps G W (ret (.rt (.d d))) Z σ H B F env) (r : Rp G F H d v) : Z.rt v H := by
  obtain ⟨Qd, Ed, rel, hm, h1, h2, h3, h4, h5⟩ := h
  exact h4 _ env σ F H v hm Stp.refl rel r
end
section
variable {X : Cx} {C : Addr} {W : WX} {e : Expr} {st : Stmt} {sts : List Stmt} {m k : M Fl} {md : M D} {mo : M O} {mt : M Bool} {pos : Pos}
theorem s_nil : PSs X [] (tS (gx X C) W (ret .nx)) := pssImp pss_nil fun D σ H ⟨B, F, env, h⟩ => h.next
theorem s_cons (h1 : PS X st (tS (gx X C) W m)) (h2 : PSs X sts (tS (gx X C) W k)) : PSs X (st :: sts) (tS (gx X C) W (seqM m k)) := pssImp (pss_cons h1 h2) fun D σ H ⟨B, F, env, h⟩ => ⟨B, F, env, h.seq fun _ _ z => z⟩
theorem s_one (h1 : PS X st (tS (gx X C) W m)) : PSs X [st] (tS (gx X C) W m) := pssImp (pss_one h1) fun D σ H h => h
theorem s_expr (he : PE X e (tD (gx X C) W md)) (hs : swapsWith e none pos.line X.env = pure false := by rfl) : PS X (.Expr e pos) (tS (gx X C) W (thenN md)) :=
  psImp (ps_expr he hs) fun D σ H ⟨B, F, env, h⟩ => (h.bind (Ra := RD (gx X C)) (as := []) (xs := [])).imp fun x H1 ⟨F1, env1, d, p, r⟩ => p.next
theorem s_ret (he : PE X e (tD (gx X C) W md)) : PS X (.Return (some e) pos) (tS (gx X C) W (bnd md fun d => ret (.rt (.d d)))) :=
  psImp (ps_ret he) fun D σ H ⟨B, F, env, h⟩ => (h.bind (Ra := RD (gx X C)) (as := []) (xs := [])).imp fun x H1 ⟨F1, env1, d, p, r⟩ => p.retd r
theorem s_retO (he : PE X e (tO (gx X C) W mo)) : PS X (.Return (some e) pos) (tS (gx X C) W (bnd mo fun d => ret (.rt (.o d)))) :=
  psImp (ps_ret he) fun D σ H ⟨B, F, env, h⟩ => (h.bind (Ra := RO (gx X C)) (as := []) (xs := [])).imp fun x H1 ⟨F1, env1, d, ⟨Qd, Ed, rel, hm, h1, h2, h3, h4, h5⟩, a, ea, hF, hB, ho, hn⟩ =>
    h4 _ env1 σ F1 H1 x hm Stp.refl rel ⟨a, ea, hF, hB, ho, fun i b p q z => by
      subst z
      exact hn i (.inl ⟨⟨_, q, rfl⟩, (rel.sl i _ q).1⟩)⟩
theorem s_retOw {i : Nat} (he : PE X e (tVar i)) : PS X (.Return (some e) pos) (tS (gx X C) W (bnd (takeO i) fun d => ret (.rt (.o d)))) :=
  psImp (ps_ret he) fun D σ H ⟨B, F, env, Qd, Ed, rel, hm, h1, h2, h3, h4, h5⟩ => by
    have hm : takeO i env (fun o env' => Qd (.rt (.o o)) env') Ed := hm
    unfold takeO at hm
    cases q : env[i]? with
    | none => rw [q] at hm; exact hm.elim
    | some s =>
      rw [q] at hm
      cases s with
      | ow o =>
        obtain ⟨a, g1, g2, g3, g4, g5⟩ := rel.owned (.inl q)
        exact ⟨_, g1, h4 _ env σ F H _ hm Stp.refl rel ⟨a, rfl, g2, g3, g4, fun j b p q' z => by
          subst z
          have e := rel.ap i j b (.inl g5) (.inl ⟨⟨_, q', rfl⟩, (rel.sl j _ q').1⟩)
          subst e
          rw [q] at q'; cases q'⟩⟩
      | _ => exact hm.elim
theorem s_if {c : Expr} {a b : List Stmt} (hc : PT X c (tBl (gx X C) W mt)) (ha : PSs X a (tS (gx X C) W m)) (hb : PSs X b (tS (gx X C) W k)) : PS X (.If c a b pos) (tS (gx X C) W (ifM mt m k)) :=
  psImp (ps_if hc ha hb) fun D σ H ⟨B, F, env, h⟩ => (h.bind (Ra := RB) (as := []) (xs := [])).imp fun q H1 ⟨F1, env1, d, p, r⟩ => by
    cases (show d = q from r)
    cases q with
    | true => rw [if_pos rfl] at p ⊢; exact ⟨B, F1, env1, p⟩
    | false => rw [if_neg Bool.false_ne_true] at p ⊢; exact ⟨B, F1, env1, p⟩
/-- name = a datum -/
theorem s_set {i : Nat} {x : Str} {p : Pos} (hN : X.N.Nodup) (hi : X.N[i]? = some x) (hx : Loc X.env.scope x) (he : PE X e (tD (gx X C) W md)) (hs : swapsWith e (some (.Name x p)) pos.line X.env = pure false := by rfl)
    (hf : X.fn x = true ∨ X.env.scope.names.lookup x = some .local := by first | exact .inl rfl | exact .inr rfl | assumption) : PS X (.Assign [.Name x p] e pos) (tS (gx X C) W (thenN (bnd md (setI i)))) :=
  psImp (ps_set hN hi hx he hs hf) fun D σ H ⟨B, F, env, h⟩ => by
    have h : Ps (gx X C) W (bnd md fun d => bnd (setI i d) fun _ => ret .nx) D σ H B F env := h
    refine (h.bind (Ra := RD (gx X C)) (as := []) (xs := [])).imp fun y H1 ⟨F1, env1, d, ⟨Qd, Ed, rel, hm, h1, h2, h3, h4, h5⟩, r⟩ => ?_
    have hm : setI i d env1 (fun _ env' => Qd .nx env') Ed := hm
    unfold setI at hm
    cases q : env1[i]? with
    | none => rw [q] at hm; exact hm.elim
    | some s =>
      rw [q] at hm
      cases s with
      | io _ _ => exact hm.elim
      | _ => exact h1 _ _ F1 H1 hm Stp.refl (rel.setI r)
/-- name = a new object -/
theorem s_setO {i : Nat} {x : Str} {p : Pos} (hN : X.N.Nodup) (hi : X.N[i]? = some x) (hx : Loc X.env.scope x) (he : PE X e (tO (gx X C) W mo)) (hs : swapsWith e (some (.Name x p)) pos.line X.env = pure false := by rfl)
    (hf : X.fn x = true ∨ X.env.scope.names.lookup x = some .local := by first | exact .inl rfl | exact .inr rfl | assumption) : PS X (.Assign [.Name x p] e pos) (tS (gx X C) W (thenN (bnd mo (setO i)))) :=
  psImp (ps_set hN hi hx he hs hf) fun D σ H ⟨B, F, env, h⟩ => by
    have h : Ps (gx X C) W (bnd mo fun d => bnd (setO i d) fun _ => ret .nx) D σ H B F env := h
    refine (h.bind (Ra := RO (gx X C)) (as := []) (xs := [])).imp fun y H1 ⟨F1, env1, d, ⟨Qd, Ed, rel, hm, h1, h2, h3, h4, h5⟩, a, ea, hF, hB, ho, hn⟩ => ?_
    subst ea
    have hm : setO i d env1 (fun _ env' => Qd .nx env') Ed := hm
    unfold setO at hm
    cases q : env1[i]? with
    | none => rw [q] at hm; exact hm.elim
    | some s =>
      rw [q] at hm
      cases s with
      | io _ _ => exact hm.elim
      | _ => exact h1 _ _ F1 H1 hm Stp.refl (rel.setO hF hB ho hn)
theorem s_while {c : Expr} {body : List Stmt} (hp : PassesOwn (model X.prog X.w) X.A X.env X.xe) (hc : PT X c (tBl (gx X C) W mt)) (hb : PSs X body (tS (gx X C) W m)) : PS X (.While c body [] pos) (tS (gx X C) W (whileM mt m)) :=
  psImp (ps_while hp hc hb) fun D σ H ⟨B, F, env, Qd, Ed, rel, ⟨n0, i0⟩, h1, h2, h3, h4, h5⟩ => by
    refine ⟨fun n σ' H' => ∃ F' env', loopN mt m n env' Qd Ed ∧ Rel (gx X C) B F' σ' env' H' ∧ Stp B F H F' H', ⟨n0, F, env, i0, rel, Stp.refl⟩, ?_⟩
    rintro n σ1 H1 ⟨F1, env1, i1, rel1, st1⟩
    cases n with
    | zero => exact (show False from i1).elim
    | succ n =>
    refine ⟨B, F1, env1, _, Ed, rel1, i1, fun t env2 b F2 H2 q st2 rl2 r => ?_, fun x env2 cls d F2 H2 q st2 rl2 r => h5 x env2 σ1 cls d F2 H2 q (st1.trans st2) rl2 r⟩
    cases (show t = b from r)
    cases t with
    | false =>
      rw [if_neg Bool.false_ne_true] at q ⊢
      exact h1 env2 σ1 F2 H2 q (st1.trans st2) rl2
    | true =>
      rw [if_pos rfl] at q ⊢
      refine ⟨fun σ3 H3 => ∃ F3 env3, loopN mt m n env3 Qd Ed ∧ Rel (gx X C) B F3 σ3 env3 H3 ∧ Stp B F H F3 H3, fun σ3 H3 z => ⟨n, Nat.lt_succ_self n, z⟩, B, F2, env2, _, Ed, rl2, q, ?_, ?_, ?_, ?_, ?_⟩
      · exact fun e3 s3 F3 H3 q3 st3 rl3 => ⟨F3, e3, q3, rl3, (st1.trans st2).trans st3⟩
      · exact fun e3 s3 F3 H3 q3 st3 rl3 => h1 e3 s3 F3 H3 q3 ((st1.trans st2).trans st3) rl3
      · exact fun e3 s3 F3 H3 q3 st3 rl3 => ⟨F3, e3, q3, rl3, (st1.trans st2).trans st3⟩
      · exact fun r3 e3 s3 F3 H3 v q3 st3 rl3 => h4 r3 e3 s3 F3 H3 v q3 ((st1.trans st2).trans st3) rl3
      · exact fun x e3 s3 c3 d3 F3 H3 q3 st3 rl3 => h5 x e3 s3 c3 d3 F3 H3 q3 ((st1.trans st2).trans st3) rl3
end
end DL
set_option Elab.async false
set_option linter.all false
set_option maxRecDepth 100000
set_option maxHeartbeats 2000000
set_option Elab.async false
set_option linter.all false
set_option maxRecDepth 100000
set_option maxHeartbeats 2000000
namespace DL
open PySem PySem.Spec PyProof.Rows L2
variable [Tbs]
/-- a target that stores into the slots is alone -/
def tTo (G : Gx) (is : List Nat) (k : D → M Unit) : TG := fun x σ H Q => ∃ (B F : Addr → Prop) (env : List Slot) (d : D) (Qd : List Slot → Prop), Rel G B F σ env H ∧ Rp G F H d x ∧ k d env (fun _ env' => Qd env') (fun _ _ => False) ∧
  ∀ env' σ', Qd env' → Rel G B F σ' env' H → σ'.length = σ.length → (∀ j, j ∉ is → σ'[j]? = σ[j]?) → Q σ' H
def tTos (G : Gx) (is : List Nat) : TGs := fun xs σ H Q => ∃ (B F : Addr → Prop) (env : List Slot) (ds : List D) (Qd : List Slot → Prop), Rel G B F σ env H ∧ RpL G F H ds xs ∧ setIs is ds env (fun _ env' => Qd env') (fun _ _ => False) ∧
  ∀ env' σ', Qd env' → Rel G B F σ' env' H → σ'.length = σ.length → (∀ j, j ∉ is → σ'[j]? = σ[j]?) → Q σ' H
theorem setI_spec {i : Nat} {d : D} {env : List Slot} {Q : Unit → List Slot → Prop} {E : Exn → List Slot → Prop} (h : setI i d env Q E) : Q () (env.set i (.im d)) := by
  unfold setI at h
  cases q : env[i]? with
  | none => rw [q] at h; exact h.elim
  | some s =>
    rw [q] at h
    cases s with
    | io _ _ => exact h.elim
    | _ => exact h
theorem pgImp {X : Cx} {e : Expr} {t t' : TG} (h : PG X e t) (i : ∀ v σ H Q, t' v σ H Q → t v σ H Q) : PG X e t' := ⟨fun pins s σ H v u Q I r q => h.run pins s σ H v u Q I r (i v σ H Q q)⟩
theorem pgsImp {X : Cx} {e : List Expr} {t t' : TGs} (h : PGs X e t) (i : ∀ v σ H Q, t' v σ H Q → t v σ H Q) : PGs X e t' := ⟨fun pins s σ H v u Q I r q => h.run pins s σ H v u Q I r (i v σ H Q q)⟩
section
variable {X : Cx} {C : Addr} {W : WX} {e : Expr} {es : List Expr} {st : Stmt} {sts : List Stmt} {m k : M Fl} {md : M D} {mt : M Bool} {pos : Pos} {is : List Nat}
theorem g_name {i : Nat} {x : Str} (hN : X.N.Nodup) (hi : X.N[i]? = some x) (hx : Loc X.env.scope x) (hf : X.fn x = true ∨ X.env.scope.names.lookup x = some .local := by first | exact .inl rfl | exact .inr rfl | assumption) : PG X (.Name x pos) (tTo (gx X C) [i] (setI i)) :=
  pgImp (pg_name hN hi hx hf) fun v σ H Q ⟨B, F, env, d, Qd, rel, r, hm, hq⟩ => hq _ _ (setI_spec hm) (rel.setI r) (List.length_set ..) fun j hj => by
    rw [List.getElem?_set_ne fun z => hj (by simp [z])]
theorem gs_nil : PGs X [] (tTos (gx X C) []) := pgsImp pgs_nil fun v σ H Q ⟨B, F, env, ds, Qd, rel, r, hm, hq⟩ => by
  cases ds with
  | nil => exact ⟨r, hq env σ hm rel rfl fun _ _ => rfl⟩
  | cons d ds => exact (show False from hm).elim
theorem gs_cons {i : Nat} {x : Str} {p : Pos} (hN : X.N.Nodup) (hi : X.N[i]? = some x) (hx : Loc X.env.scope x) (h2 : PGs X es (tTos (gx X C) is))
    (hs : (assignEach (.Name x p :: es) X.env).map (·.2) = assign (.Name x p) X.env :: (assignEach es X.env).map (·.2) := by rfl)
    (hf : X.fn x = true ∨ X.env.scope.names.lookup x = some .local := by first | exact .inl rfl | exact .inr rfl | assumption) : PGs X (.Name x p :: es) (tTos (gx X C) (i :: is)) :=
  pgsImp (pgs_cons (pg_name (i := i) hN hi hx hf) h2 hs) fun v σ H Q ⟨B, F, env, ds, Qd, rel, r, hm, hq⟩ => by
    cases ds with
    | nil => exact (show False from hm).elim
    | cons d ds =>
      obtain ⟨v0, rr, e0, rd, rs⟩ := r
      subst e0
      have hm : setI i d env (fun _ env' => setIs is ds env' (fun _ env' => Qd env') (fun _ _ => False)) (fun _ _ => False) := hm
      refine ⟨v0, rr, rfl, B, F, _, ds, Qd, rel.setI rd, rs, setI_spec hm, fun env' σ' q rl hl ho => hq env' σ' q rl (hl.trans (List.length_set ..)) fun j hj => ?_⟩
      rw [ho j fun z => hj (List.mem_cons_of_mem _ z), List.getElem?_set_ne fun z => hj (by simp [z])]
theorem g_tup {kk : Nat} {n : Nat} (hc : X.calm = true) (h : PGs X es (tTos (gx X C) is)) (hl : is.length = n) (hn : (assignEach es X.env).length = n := by rfl) (hst : (assignEach es X.env).findIdx? (·.1) = none := by rfl) :
    PG X (.Tuple es kk pos) (tTo (gx X C) is (setTup is)) := pgImp (pg_tup hc h hn hst) fun v σ H Q ⟨B, F, env, d, Qd, rel, r, hm, hq⟩ => by
  have fin : ∀ (ds : List D), (∃ a vs, v = .ref a ∧ Rd H a (.tup vs) ∧ RpL (gx X C) F H ds vs) → setIs is ds env (fun _ env' => Qd env') (fun _ _ => False) → gTup X.K n (tTos (gx X C) is) v σ H Q := fun ds r hm => by
    obtain ⟨a, vs, e0, h1, h2⟩ := r
    have len : ∀ (is : List Nat) (ds : List D) (env : List Slot) (Q : Unit → List Slot → Prop), setIs is ds env Q (fun _ _ => False) → is.length = ds.length := by
      intro is
      induction is with
      | nil =>
        intro ds env Q h
        cases ds with
        | nil => rfl
        | cons _ _ => exact (show False from h).elim
      | cons i is ih =>
        intro ds env Q h
        cases ds with
        | nil => exact (show False from h).elim
        | cons d ds => exact congrArg (· + 1) (ih ds _ _ (setI_spec (show setI i d env (fun _ env' => setIs is ds env' Q (fun _ _ => False)) (fun _ _ => False) from h)))
    exact ⟨a, vs, e0, .inl h1, by rw [← h2.length, ← len is ds env _ hm, hl], B, F, env, ds, Qd, rel, h2, hm, hq⟩
  cases d with
  | tup ds => obtain ⟨a, vs, e0, h1, h2⟩ := r; exact fin ds ⟨a, vs, e0, h1.rd, h2⟩ hm
  | pr ds => exact fin ds r hm
  | _ => exact (show False from hm).elim
theorem setI_nox {i : Nat} {d : D} {env : List Slot} {Q : Unit → List Slot → Prop} {E E' : Exn → List Slot → Prop} (h : setI i d env Q E) : setI i d env Q E' := h
theorem setIs_nox : ∀ {is : List Nat} {ds : List D} {env : List Slot} {Q : Unit → List Slot → Prop} {E E' : Exn → List Slot → Prop}, setIs is ds env Q E → setIs is ds env Q E'
  | [], [], _, _, _, _, h => h
  | [], _ :: _, _, _, _, _, h => h
  | _ :: _, [], _, _, _, _, h => h
  | i :: is, d :: ds, env, Q, E, E', h => by
    have h' : setI i d env (fun _ env' => setIs is ds env' Q E) E := h
    have q := setI_spec h'
    show setI i d env (fun _ env' => setIs is ds env' Q E') E'
    unfold setI at h' ⊢
    cases z : env[i]? with
    | none => rw [z] at h'; exact h'.elim
    | some s =>
      rw [z] at h'
      cases s with
      | io _ _ => exact h'.elim
      | _ => exact setIs_nox q
theorem setTup_nox {is : List Nat} (d : D) (env : List Slot) (Q : Unit → List Slot → Prop) (E : Exn → List Slot → Prop) (h : setTup is d env Q E) : setTup is d env Q (fun _ _ => False) := by
  cases d with
  | tup ds => exact setIs_nox (show setIs is ds env Q E from h)
  | pr ds => exact setIs_nox (show setIs is ds env Q E from h)
  | _ => exact (show False from h).elim
theorem stp_keep {B F : Addr → Prop} {H H' : Hp} (h : ∀ a o, H a = some o → H' a = some o) : Stp B F H F H' where
  fm := fun _ h => h
  fn := fun _ h => .inl h
  hk0 := fun a o _ e _ => h a o e
  tb := fun t => t.ext (fun _ z => z) h
  ht := fun a vs q => q.imp (h a _) fun ⟨o, q⟩ => ⟨o, h a _ q⟩
  fz := fun a o u e => h a _ e
theorem ok_tup {G : Gx} {B F : Addr → Prop} {H : Hp} {a : Addr} {vs : List V} {ds : List D} (h1 : Rd H a (.tup vs)) (h2 : RpL G F H ds vs) {K : PySem.W.Frag} : ItOk G (Itt K a) ds B F H := fun F' H' s i => by
  have q1 : Rd H' a (.tup vs) := s.ht a vs h1
  have q2 : RpL G F' H' ds vs := RpL.mono s ds vs h2
  refine ⟨fun d hd => ?_, fun hl => ⟨vs, .inl q1, by rw [← q2.length]; exact hl⟩⟩
  obtain ⟨v, hv, rv⟩ := q2.get hd
  exact ⟨⟨vs, v, .inl q1, hv⟩, fun x H'' ⟨e, y⟩ => by
    subst e
    have z := y vs (.inl q1)
    rw [hv] at z
    cases z
    exact ⟨Stp.refl, fun _ _ h => h, rv⟩⟩
end
end DL
set_option Elab.async false
set_option linter.all false
set_option maxRecDepth 100000
set_option maxHeartbeats 2000000
namespace DL
open PySem PySem.Spec PyProof.Rows L2
variable [Tbs]
section
variable {G : Gx} {B F : Addr → Prop} {H : Hp} {a : Addr} {vs : List V} {ds : List D} {K : PySem.W.Frag}
theorem ok_lst (hF : F a) (h1 : H a = some (.lst vs)) (h2 : RpL G F H ds vs) : ItOk G (Itl K a) ds B F H := fun F' H' s i => by
  have q1 : H' a = some (.lst vs) := s.hk a _ (.inr hF) h1
  have q2 : RpL G F' H' ds vs := RpL.mono s ds vs h2
  refine ⟨fun d hd => ?_, fun hl => ⟨vs, SqL.of q1, by rw [← q2.length]; exact hl⟩⟩
  obtain ⟨v, hv, rv⟩ := q2.get hd
  exact ⟨⟨vs, v, SqL.of q1, hv⟩, fun x H'' ⟨e, y⟩ => by
    subst e
    have z := y vs (SqL.of q1)
    rw [hv] at z
    cases z
    exact ⟨Stp.refl, fun _ _ h => h, rv⟩⟩
theorem scr_get {ns : List Int} {i : Nat} {d : D} (h : (ns.map D.int)[i]? = some d) : ∃ n, d = .int n ∧ (ns.map V.int)[i]? = some (.int n) := by
  rw [List.getElem?_map] at h
  cases e : ns[i]? with
  | none => rw [e] at h; cases h
  | some n =>
    rw [e] at h
    cases h
    exact ⟨n, rfl, by rw [List.getElem?_map, e]; rfl⟩
theorem scr_sq {ns : List Int} (h : (F a ∧ Rd H a (.lst (ns.map V.int))) ∨ ∀ H', SqL G.K H' a (ns.map V.int)) {F' : Addr → Prop} {H' : Hp} (s : Stp B F H F' H') : SqL G.K H' a (ns.map V.int) := by
  rcases h with ⟨hF, h⟩ | h
  · exact .inl (h.imp (s.hk a _ (.inr hF)) fun ⟨o, q⟩ => ⟨o, s.hk a _ (.inr hF) q⟩)
  · exact h H'
theorem ok_scr {ns : List Int} (h : (F a ∧ Rd H a (.lst (ns.map V.int))) ∨ ∀ H', SqL G.K H' a (ns.map V.int)) : ItOk G (Itl G.K a) (ns.map .int) B F H := fun F' H' s i => by
  have q1 := scr_sq h s
  refine ⟨fun d hd => ?_, fun hl => ⟨_, q1, by rw [List.length_map] at hl ⊢; exact hl⟩⟩
  obtain ⟨n, e, hn⟩ := scr_get hd
  subst e
  exact ⟨⟨_, _, q1, hn⟩, fun x H'' ⟨e, y⟩ => by
    subst e
    have z := y _ q1
    rw [hn] at z
    cases z
    exact ⟨Stp.refl, fun _ _ h => h, rfl⟩⟩
theorem range_get {lo hi : Int} {i : Nat} {d : D} (h : (rangeL lo hi)[i]? = some d) : i < (hi - lo).toNat ∧ d = .int (lo + (i : Nat)) := by
  unfold rangeL at h
  rw [List.getElem?_map] at h
  cases e : (List.range (hi - lo).toNat)[i]? with
  | none => rw [e] at h; cases h
  | some n =>
    rw [e] at h
    obtain ⟨h1, h2⟩ := List.getElem?_eq_some_iff.mp e
    rw [List.length_range] at h1
    rw [List.getElem_range] at h2
    subst h2
    exact ⟨h1, (Option.some.inj h).symm⟩
theorem rangeL_length {lo hi : Int} : (rangeL lo hi).length = (hi - lo).toNat := by unfold rangeL; rw [List.length_map, List.length_range]
theorem ok_rng {lo hi : Int} : ItOk G (Itr lo (hi - lo).toNat) (rangeL lo hi) B F H := fun F' H' s i => by
  refine ⟨fun d hd => ?_, fun hl => by rw [rangeL_length] at hl; exact hl⟩
  obtain ⟨h1, h2⟩ := range_get hd
  subst h2
  exact ⟨h1, fun x H'' ⟨e, y⟩ => by subst e; subst y; exact ⟨Stp.refl, fun _ _ h => h, rfl⟩⟩
theorem keep_upd {p : Addr} {o : HO} (hp : H p = none) : ∀ b u, H b = some u → upd H p o b = some u := fun b u e => by rw [upd_ne (ne_of_none e hp)]; exact e
end
section
variable {X : Cx} {C : Addr} {W : WX} {e tg : Expr} {es : List Expr} {m k : M Fl} {md : M D} {ms : M (List D)} {mt : M Bool} {p pos tpos : Pos} {is : List Nat}
theorem i_tup (he : PE X e (tD (gx X C) W md)) : PI X tg e (tI (gx X C) W (bnd md itTup)) := piImp (pi_tup he) fun σ H Q h => (lift1 (Ra := RD (gx X C)) h).imp fun x H1 ⟨B, F, env, d, q, r⟩ => by
  cases d with
  | tup ds => obtain ⟨a, vs, e0, h1, h2⟩ := r; exact ⟨a, e0, ⟨vs, .inl h1.rd⟩, Pt.pure (c := ds) q (ok_tup h1.rd h2)⟩
  | pr ds => obtain ⟨a, vs, e0, h1, h2⟩ := r; exact ⟨a, e0, ⟨vs, .inl h1⟩, Pt.pure (c := ds) q (ok_tup h1 h2)⟩
  | _ => exact (Pt.no q).elim
theorem i_lst (he : PE X e (tD (gx X C) W md)) : PI X tg e (tI (gx X C) W (bnd md itLst)) := piImp (pi_list he) fun σ H Q h => (lift1 (Ra := RD (gx X C)) h).imp fun x H1 ⟨B, F, env, d, q, r⟩ => by
  cases d with
  | lst ds => obtain ⟨a, vs, e0, hF, h1, h2⟩ := r; exact ⟨a, e0, ⟨vs, SqL.of h1⟩, Pt.pure (c := ds) q (ok_lst hF h1 h2)⟩
  | scr ns => obtain ⟨a, e0, h⟩ := r; exact ⟨a, e0, ⟨_, scr_sq (B := B) h Stp.refl⟩, Pt.pure (c := ns.map D.int) q (ok_scr h)⟩
  | _ => exact (Pt.no q).elim
theorem i_rng1 {a : Expr} (hg : Gl X "range") (hm : X.mg "range" = none) (ha : PA X [a] (tDs (gx X C) W ms)) (hs : starEach [a] X.env = [(false, eval a X.env)] := by rfl) : PI X tg (.Call (.Name "range" p) [a] [] pos) (tI (gx X C) W (bnd ms itR1)) :=
  piImp (pi_range1 hg hm ha hs) fun σ H Q h => (lift1 (Ra := RDs (gx X C)) h).imp fun xs H1 ⟨B, F, env, ds, q, r⟩ => by
    cases ds with
    | nil => exact (Pt.no q).elim
    | cons d ds => cases ds with
      | nil => cases d with
        | int j =>
          obtain ⟨v, r', e0, rv, rn⟩ := r
          cases (show _ = _ from rn)
          obtain ⟨⟨b1, b2⟩, q⟩ := Pt.asked q
          refine ⟨j, by rw [e0]; exact congrArg (fun z => [z]) rv, b1, b2, ?_⟩
          have z := Pt.pure (c := rangeL 0 j) q (b := Itr 0 (j - 0).toNat) ok_rng
          rw [Int.sub_zero] at z
          exact z
        | _ => exact (Pt.no q).elim
      | cons _ _ => cases d <;> exact (Pt.no q).elim
theorem s_for {iter : Expr} {body : List Stmt} {k : D → M Unit} (hp : PassesOwn (model X.prog X.w) X.A X.env X.xe) (hc : X.calm = true) (hi : PI X tg iter (tI (gx X C) W ms)) (hg : PG X tg (tTo (gx X C) is k)) (hb : PSs X body (tS (gx X C) W m))
    (nox : ∀ d env Q E, k d env Q E → k d env Q (fun _ _ => False)) (hs : ∀ x, foldedSetIterable iter X.env x = pure x := by intro _; rfl) : PS X (.For tg iter body [] pos) (tS (gx X C) W (forM ms k m)) :=
  psImp (ps_for hp hc hi hg hb hs) fun Z σ H ⟨B, F, env, h⟩ => (h.bind (Ra := RI (gx X C)) (as := []) (xs := [])).imp fun J H1 ⟨F1, env1, ds, ⟨Qd, Ed, rel, hm, h1, h2, h3, h4, h5⟩, it⟩ => by
    refine ⟨fun i m' σ' H' => m' = ds.length - i ∧ i ≤ ds.length ∧ ∃ F' env', Rel (gx X C) B F' σ' env' H' ∧ Stp B F1 H1 F' H' ∧ forL k m (ds.drop i) env' Qd Ed, ⟨_, rfl, Nat.zero_le _, F1, env1, rel, Stp.refl, hm⟩, ?_⟩
    rintro i m' σ2 H2 ⟨rfl, hi, F2, env2, rel2, st2, hm2⟩
    obtain ⟨go, stop⟩ := it F2 H2 st2 i
    by_cases hl : i < ds.length
    · refine .inr ⟨(go ds[i] (List.getElem?_eq_getElem hl)).1, fun σ' H' => i + 1 ≤ ds.length ∧ ∃ F' env', Rel (gx X C) B F' σ' env' H' ∧ Stp B F1 H1 F' H' ∧ forL k m (ds.drop (i + 1)) env' Qd Ed, fun σ' H' ⟨a, b⟩ => ⟨_, by omega, rfl, a, b⟩, fun x H3 y => ?_⟩
      obtain ⟨st3, kp, rx⟩ := (go ds[i] (List.getElem?_eq_getElem hl)).2 x H3 y
      have rel3 : Rel (gx X C) B F2 σ2 env2 H3 := rel2.step st3 (fun j a o => ⟨by
        obtain ⟨n, _, _⟩ := rel2.ownSome o
        cases e : H2 a with
        | none => exact absurd e n
        | some u => exact kp a u e, (rel2.ownSome o).2.1⟩) fun a z => st3.hs a (.inr z) (rel2.hF a z)
      have hm3 : forL k m (ds[i] :: ds.drop (i + 1)) env2 Qd Ed := by
        rw [← List.drop_eq_getElem_cons hl]; exact hm2
      refine ⟨B, F2, env2, ds[i], fun env' => m env' (fun f env'' => loopK (forL k m (ds.drop (i + 1))) f env'' Qd Ed) Ed, rel3, rx, nox _ _ _ _ hm3, fun env' σ' q rl _ _ => ?_⟩
      refine ⟨B, F2, env', fun f env'' => loopK (forL k m (ds.drop (i + 1))) f env'' Qd Ed, Ed, rl, q, ?_, ?_, ?_, ?_, ?_⟩
      · exact fun e s4 F4 H4 q4 st4 rl4 => ⟨hl, F4, e, rl4, (st2.trans st3).trans st4, q4⟩
      · exact fun e s4 F4 H4 q4 st4 rl4 => h1 e s4 F4 H4 q4 ((st2.trans st3).trans st4) rl4
      · exact fun e s4 F4 H4 q4 st4 rl4 => ⟨hl, F4, e, rl4, (st2.trans st3).trans st4, q4⟩
      · exact fun r e s4 F4 H4 v q4 st4 rl4 rr => h4 r e s4 F4 H4 v q4 ((st2.trans st3).trans st4) rl4 rr
      · exact fun x e s4 c d F4 H4 q4 st4 rl4 rr => h5 x e s4 c d F4 H4 q4 ((st2.trans st3).trans st4) rl4 rr
    · have e : i = ds.length := by omega
      subst e
      rw [List.drop_length] at hm2
      exact .inl ⟨stop (Nat.le_refl _), h1 env2 σ2 F2 H2 hm2 st2 rel2⟩
end
end DL
set_option Elab.async false
set_option linter.all false
set_option maxRecDepth 100000
set_option maxHeartbeats 2000000
namespace DL
open PySem PySem.Spec PyProof.Rows L2
variable [Tbs]
theorem wipe_out {σ : L2.St} {j : Nat} : ∀ {vs : List Nat}, j ∉ vs → (wipe σ vs)[j]? = σ[j]?
  | [], _ => rfl
  | v :: vs, h => by
    show ((wipe σ vs).set v none)[j]? = _
    rw [List.getElem?_set_ne fun z => h (by simp [z]), wipe_out fun z => h (List.mem_cons_of_mem _ z)]
theorem wipe_in {σ : L2.St} {j : Nat} : ∀ {vs : List Nat}, j ∈ vs → j < σ.length → (wipe σ vs)[j]? = some none
  | [], h, _ => by cases h
  | v :: vs, h, l => by
    show ((wipe σ vs).set v none)[j]? = _
    by_cases e : v = j
    · subst e
      rw [List.getElem?_set_self (by rw [wipe_length]; exact l)]
    · rw [List.getElem?_set_ne e]
      exact wipe_in ((List.mem_cons.mp h).elim (fun z => absurd z.symm e) id) l
theorem wipe_eq {σ σ' : L2.St} {vs : List Nat} (hl : σ'.length = σ.length) (h : ∀ j, j ∉ vs → σ'[j]? = σ[j]?) : wipe σ' vs = wipe σ vs := by
  refine List.ext_getElem? fun j => ?_
  by_cases hj : j ∈ vs
  · by_cases l : j < σ.length
    · rw [wipe_in hj l, wipe_in hj (by omega)]
    · rw [List.getElem?_eq_none (by rw [wipe_length]; omega), List.getElem?_eq_none (by rw [wipe_length]; omega)]
  · rw [wipe_out hj, wipe_out hj, h j hj]
theorem wipe_same {σ σ' : L2.St} {vs : List Nat} (h : wipe σ' vs = wipe σ vs) {j : Nat} (hj : j ∉ vs) : σ'[j]? = σ[j]? := by
  rw [← wipe_out (σ := σ') hj, h, wipe_out hj]
theorem wipe_wipe {σ : L2.St} {vs : List Nat} : wipe (wipe σ vs) vs = wipe σ vs := wipe_eq (wipe_length ..) fun j hj => wipe_out hj
section
variable {G : Gx} {B B' F F' F0 : Addr → Prop} {σ σ2 : L2.St} {H H' H0 : Hp} {env env0 : List Slot}
theorem Rel.wipe (rel : Rel G B F σ env H) : ∀ vs : List Nat, Rel G B F (L2.wipe σ vs) (wipeE env vs) H
  | [] => rel
  | v :: vs => (Rel.wipe rel vs).drop v none
theorem own_back {vs : List Nat} (hw : L2.wipe σ2 vs = L2.wipe σ vs) {k : Nat} {a : Addr} (w : OwnAt (backE env0 env vs) σ k a) : OwnAt env σ2 k a := by
  obtain ⟨s, e, o⟩ := own_feet.mp w
  by_cases hk : k ∈ vs
  · have es := backE_in hk e
    subst es
    unfold oldS at o
    cases z : env0[k]? with
    | none => rw [z] at o; exact (feet_no o).elim
    | some s => rw [z] at o; cases s <;> first | exact (feet_no o).elim | exact (feet_im o).elim
  · rw [backE_out hk] at e
    exact own_feet.mpr ⟨s, e, by rw [wipe_same hw hk]; exact o⟩
theorem Rel.back (rel0 : Rel G B F0 σ env0 H0) (st : Stp B F0 H0 F H) {vs : List Nat} (rel : Rel G B F σ2 env H) (hw : L2.wipe σ2 vs = L2.wipe σ vs) : Rel G B F σ (backE env0 env vs) H := by
  have hl : σ2.length = σ.length := by have := congrArg List.length hw; rwa [wipe_length, wipe_length] at this
  refine ⟨by rw [backE_len, rel.len, hl], fun j s e => ?_, fun i j a h1 h2 => ?_, rel.hB, rel.hF, rel.tb⟩
  · by_cases hj : j ∈ vs
    · have es := backE_in hj e
      subst es
      unfold oldS
      cases q : env0[j]? with
      | none => trivial
      | some s =>
        cases s with
        | im d => obtain ⟨v, h1, h2⟩ := rel0.sl j _ q; exact ⟨v, h1, Rp.mono st d v h2⟩
        | _ => trivial
    · rw [backE_out hj] at e
      rw [← wipe_same hw hj]
      exact rel.sl j s e
  · exact rel.ap i j a (own_back hw h1) (own_back hw h2)
theorem Stp.less (s : Stp B' F H F' H') (h : ∀ a, B a → B' a) : Stp B F H F' H' := ⟨s.fm, fun a q => (s.fn a q).imp id fun n z => n (h a z), fun a o q => s.hk0 a o (q.imp (h a) id), s.ht, s.tb, s.fz⟩
/-- one more address that nobody owns -/
theorem Rel.more (rel : Rel G B F σ env H) {p : Addr} (hp : Nt H p) (hn : ∀ i, ¬ OwnAt env σ i p) : Rel G (fun a => B a ∨ a = p) F σ env H := by
  refine ⟨rel.len, fun i s e => ?_, rel.ap, fun a h => h.elim (rel.hB a) fun z => by rw [z]; exact hp, rel.hF, rel.tb⟩
  have q := rel.sl i s e
  cases s with
  | no => trivial
  | im d => exact q
  | ow o => obtain ⟨a, h1, h2, h3, h4⟩ := q; exact ⟨a, h1, h2, fun z => z.elim h3 fun w => by subst w; exact hn i (.inl ⟨⟨_, e, rfl⟩, h1⟩), h4⟩
  | io a o => obtain ⟨h1, h2, h3, h4⟩ := q; exact ⟨h1, h2, fun z => z.elim h3 fun w => by subst w; exact hn i (.inl ⟨⟨_, e, rfl⟩, h1⟩), h4⟩
  | tr r ns => exact ⟨q.1, q.2.root, q.2.nd, fun p hp => ⟨(q.2.at_ p hp).1, fun z => z.elim (q.2.at_ p hp).2.1 fun w => hn i (.inr ⟨r, ns, e, w ▸ List.mem_map.mpr ⟨p, hp, rfl⟩⟩), (q.2.at_ p hp).2.2⟩⟩
theorem Rel.less (rel : Rel G B' F σ env H) (h : ∀ a, B a → B' a) : Rel G B F σ env H := by
  refine ⟨rel.len, fun i s e => ?_, rel.ap, fun a q => rel.hB a (h a q), rel.hF, rel.tb⟩
  have q := rel.sl i s e
  cases s with
  | no => trivial
  | im d => exact q
  | ow o => obtain ⟨a, h1, h2, h3, h4⟩ := q; exact ⟨a, h1, h2, fun z => h3 (h a z), h4⟩
  | io a o => obtain ⟨h1, h2, h3, h4⟩ := q; exact ⟨h1, h2, fun z => h3 (h a z), h4⟩
  | tr r ns => exact ⟨q.1, q.2.root, q.2.nd, fun p hp => ⟨(q.2.at_ p hp).1, fun z => (q.2.at_ p hp).2.1 (h _ z), (q.2.at_ p hp).2.2⟩⟩
end
abbrev W0 : WX := fun _ _ _ _ => False
section
variable {X : Cx} {C : Addr} {W : WX} {tg iter elt : Expr} {ifs : List Expr} {is : List Nat} {scope : Scope} {own : List (Str × Nat)} {pos : Pos} {ms : M (List D)} {mt : M Bool} {md : M D}
theorem ptsImp {X : Cx} {ifs : List Expr} {t t' : TT} (h : PTs X ifs t) (i : ∀ σ H Q, t' σ H Q → t σ H Q) : PTs X ifs t' := ⟨fun pins s σ H Q I q => h.run pins s σ H Q I (i σ H Q q)⟩
theorem c_yes : PTs X [] (tBl (gx X C) W (ret true)) := ptsImp pts_nil fun σ H Q ⟨B, F, env, h⟩ => h.pure rfl
theorem c_if {c : Expr} (h : PT X c (tBl (gx X C) W mt)) : PTs X [c] (tBl (gx X C) W mt) := pts_one h
/-- the reading of a comprehension -/
theorem comp_reads {k : D → M Unit} {σ : L2.St} {H : Hp} {Q : V → Hp → Prop} (hsub : ∀ i ∈ is, i ∈ own.map (·.2)) (nox : ∀ d env Q E, k d env Q E → k d env Q (fun _ _ => False))
    (h : tO (gx X C) W (compM ms k (own.map (·.2)) mt md) σ H Q) : tLc (tI (gx X C) W ms) (tTo (gx X C) is k) (tBl (gx X C) W0 mt) (tD (gx X C) W0 md) (own.map (·.2)) σ H Q := by
  generalize own.map (·.2) = vs at hsub h
  obtain ⟨B, F, env, Qd, Ed, rel, hm, hq, he⟩ := h
  refine ⟨B, F, env, _, Ed, rel, hm, fun ds env1 J F1 H1 hc st1 rel1 it D hD => ?_, fun x env' cls d F' H' q st rl r => he x env' cls d F' H' q st rl r⟩
  have nB : ¬ B D := rel1.notB hD
  have nF : ¬ F1 D := rel1.notF hD
  -- the invariant
  refine ⟨fun i m H2 => m = ds.length - i ∧ i ≤ ds.length ∧ ∃ F2 σ2 env2 accD acc, H2 D = some (.lst acc) ∧ RpL (gx X C) F2 H2 accD acc ∧ Rel (gx X C) (fun a => B a ∨ a = D) F2 σ2 env2 H2 ∧ wipe σ2 vs = wipe σ vs ∧ Stp B F1 H1 F2 H2 ∧ ¬ F2 D ∧
    compL k vs mt md (ds.drop i) accD env2 (fun acc env2 => Qd (.lst acc) (backE env1 env2 vs)) (fun _ _ => False),
    ⟨_, rfl, Nat.zero_le _, F1, σ, env1, [], [], upd_same, rfl, (rel1.new hD).more (Nt.of upd_same) (fun i o => (rel1.ownSome o).1 hD), rfl, stp_new hD, nF, hc⟩, ?_⟩
  rintro i m H2 ⟨rfl, hi, F2, σ2, env2, accD, acc, eD, racc, rel2, hw, st2, nF2, hc2⟩
  have stB : ∀ {F3 H3}, Stp (fun a => B a ∨ a = D) F2 H2 F3 H3 → Stp B F2 H2 F3 H3 := fun s => s.less fun _ z => .inl z
  obtain ⟨go, stop⟩ := it F2 H2 st2 i
  by_cases hl : i < ds.length
  · obtain ⟨g1, g2⟩ := go ds[i] (List.getElem?_eq_getElem hl)
    refine .inr ⟨g1, fun H' => i + 1 ≤ ds.length ∧ ∃ F2 σ2 env2 accD acc, H' D = some (.lst acc) ∧ RpL (gx X C) F2 H' accD acc ∧ Rel (gx X C) (fun a => B a ∨ a = D) F2 σ2 env2 H' ∧ wipe σ2 vs = wipe σ vs ∧ Stp B F1 H1 F2 H' ∧ ¬ F2 D ∧
      compL k vs mt md (ds.drop (i + 1)) accD env2 (fun acc env2 => Qd (.lst acc) (backE env1 env2 vs)) (fun _ _ => False), fun H' ⟨a, b⟩ => ⟨_, by omega, rfl, a, b⟩, fun x H3 y => ?_⟩
    obtain ⟨st3, kp, rx⟩ := g2 x H3 y
    have st3' : Stp (fun a => B a ∨ a = D) F2 H2 F2 H3 := stp_keep kp
    have rel3 : Rel (gx X C) (fun a => B a ∨ a = D) F2 (wipe σ vs) (wipeE env2 vs) H3 := by
      rw [← hw]
      refine (rel2.step st3' (fun j a o => ⟨?_, (rel2.ownSome o).2.1⟩) fun a z => st3'.hs a (.inr z) (rel2.hF a z)).wipe vs
      obtain ⟨n, _, _⟩ := rel2.ownSome o
      cases e : H2 a with
      | none => exact absurd e n
      | some u => exact kp a u e
    have hc3 : compL k vs mt md (ds[i] :: ds.drop (i + 1)) accD env2 (fun acc env2 => Qd (.lst acc) (backE env1 env2 vs)) (fun _ _ => False) := by
      rw [← List.drop_eq_getElem_cons hl]; exact hc2
    have racc3 : RpL (gx X C) F2 H3 accD acc := RpL.mono st3 _ _ racc
    refine ⟨fun a => B a ∨ a = D, F2, _, ds[i], _, rel3, rx, nox _ _ _ _ hc3, fun env4 σ4 q4 rel4 hl4 ho4 => ?_⟩
    have hw4 : wipe σ4 vs = wipe σ vs := (wipe_eq hl4 fun j hj => ho4 j fun z => hj (hsub j z)).trans wipe_wipe
    refine ⟨hw4, fun a => B a ∨ a = D, F2, env4, _, _, rel4, q4, fun c env5 b F5 H5 q5 st5 rel5 rb => ?_, fun x env' cls d F' H' q st rl r => (show False from q).elim⟩
    cases (show c = b from rb)
    have hD5 : H5 D = some (.lst acc) := st5.hk D _ (.inl (.inr rfl)) (kp D _ eD)
    have nF5 : ¬ F5 D := fun z => (st5.fn D z).elim nF2 fun n => n (.inr rfl)
    have racc5 : RpL (gx X C) F5 H5 accD acc := RpL.mono st5 _ _ racc3
    have sAll : Stp B F1 H1 F5 H5 := st2.trans (st3.trans (st5.less fun _ z => .inl z))
    cases c with
    | false =>
      rw [if_neg Bool.false_ne_true] at q5 ⊢
      exact ⟨hl, F5, σ4, env5, accD, acc, hD5, racc5, rel5, hw4, sAll, nF5, q5⟩
    | true =>
      rw [if_pos rfl] at q5 ⊢
      refine ⟨fun a => B a ∨ a = D, F5, env5, _, _, rel5, q5, fun yd env6 yv F6 H6 q6 st6 rel6 ry => ?_, fun x env' cls d F' H' q st rl r => (show False from q).elim⟩
      obtain ⟨lz, q6⟩ := q6
      have hD6 : H6 D = some (.lst acc) := st6.hk D _ (.inl (.inr rfl)) hD5
      have nF6 : ¬ F6 D := fun z => (st6.fn D z).elim nF5 fun n => n (.inr rfl)
      have racc6 : RpL (gx X C) F6 H6 accD acc := RpL.mono st6 _ _ racc5
      have stw : Stp B F6 H6 F6 (upd H6 D (.lst (acc ++ [yv]))) := stp_own nF6 nB ⟨fun vs h => by rcases h with h | ⟨o, h⟩ <;> (rw [hD6] at h; cases h), fun o v z => by rw [hD6] at z; cases z⟩ (fun ps z => by rw [hD6] at z; cases z) fun q z => by rw [hD6] at z; have z2 : _ = HO.ext _ := Option.some.inj z; cases z2
      refine ⟨acc, hD6, by rw [← racc6.length]; exact lz, hl, F6, σ4, env6, accD ++ [yd], acc ++ [yv], upd_same, (RpL.mono stw _ _ racc6).snoc (Rp.mono stw _ _ ry), ?_, hw4, (sAll.trans (st6.less fun _ z => .inl z)).trans stw, nF6, q6⟩
      refine (Rel.more ((rel6.less fun _ z => .inl z).step stw (fun j a o => ⟨upd_ne fun z => by subst z; exact (rel6.ownSome o).2.2 (.inr rfl), (rel6.ownSome o).2.1⟩) fun a z => stw.hs a (.inr z) (rel6.hF a z)) (Nt.of upd_same) fun j o => (rel6.ownSome o).2.2 (.inr rfl))
  · have e : i = ds.length := by omega
    subst e
    rw [List.drop_length] at hc2
    refine .inl ⟨stop (Nat.le_refl _), ?_⟩
    have rel2' : Rel (gx X C) B F2 σ2 env2 H2 := rel2.less fun _ z => .inl z
    refine hq (.lst accD) (backE env1 env2 vs) (.ref D) F2 H2 hc2 (st1.trans st2) (rel1.back st2 rel2' hw) ⟨D, rfl, nF2, nB, ⟨acc, eD, racc⟩, fun j w => (rel2.ownSome (own_back hw w)).2.2 (.inr rfl)⟩
theorem o_lc {k : D → M Unit} (hc : X.calm = true) (hN : X.N.Nodup) (hi : PI X tg iter (tI (gx X C) W ms)) (ok : BlkOk X.N X.env.scope scope own) (hsub : ∀ i ∈ is, i ∈ own.map (·.2)) (nox : ∀ d env Q E, k d env Q E → k d env Q (fun _ _ => False))
    (hg : ∀ (s : Shared) (H : Hp) (c : Addr) (cl : List (Str × Addr)) (fp : List Addr), PG (X.blk s H scope (compEnvC scope cl c X.env) fp) tg (tTo (gx X C) is k)) (ht : ∀ (s : Shared) (H : Hp) (c : Addr) (cl : List (Str × Addr)) (fp : List Addr), PTs (X.blk s H scope (compEnvC scope cl c X.env) fp) ifs (tBl (gx X C) W0 mt))
    (he : ∀ (s : Shared) (H : Hp) (c : Addr) (cl : List (Str × Addr)) (fp : List Addr), PE (X.blk s H scope (compEnvC scope cl c X.env) fp) elt (tD (gx X C) W0 md)) (hs : ∀ x, foldedSetIterable iter X.env x = pure x := by intro _; rfl) :
    PE X (.ListComp elt [⟨tg, iter, ifs, 0⟩] scope pos) (tO (gx X C) W (compM ms k (own.map (·.2)) mt md)) := peImp (pe_lc hc hN hi ok hg ht he hs) fun σ H Q h => comp_reads hsub nox h
theorem e_frz {e : Expr} {mo : M O} (h : PE X e (tO (gx X C) W mo)) : PE X e (tD (gx X C) W (frzM mo)) := peImp h fun σ H Q q => (lift1 (Ra := RO (gx X C)) q).imp fun x H1 ⟨B, F, env, o, p, a, ea, hF, hB, ho, hn⟩ => by
  subst ea
  cases o with
  | lst ds =>
    obtain ⟨Qd, Ed, rel, hm, hq, he⟩ := p
    obtain ⟨vs, e1, r1⟩ := ho
    have st : Stp B F H1 (fun b => F b ∨ b = a) H1 := ⟨fun _ z => .inl z, fun b z => z.imp id fun w => by rw [w]; exact hB, fun b u z e _ => e, fun _ _ z => z, fun t => t.ext (fun _ z => .inl z) fun _ _ z => z, fun _ _ _ z => z⟩
    -- what is frozen now: kept by the old steps too
    have rel' : Rel (gx X C) B (fun b => F b ∨ b = a) σ env H1 := rel.step st (fun i b z => ⟨rfl, fun w => w.elim (rel.ownSome z).2.1 fun w => by subst w; exact hn i z⟩) fun b z => z.elim (rel.hF b) fun w => by rw [w]; exact Nt.of e1
    exact hq (.lst ds) env (.ref a) _ H1 hm st rel' ⟨a, vs, rfl, .inr rfl, e1, RpL.mono st ds vs r1⟩
  | _ => exact (Pt.no p).elim
end
end DL
set_option Elab.async false
set_option linter.all false
set_option maxRecDepth 100000
set_option maxHeartbeats 2000000
namespace DL
open PySem PySem.Spec PyProof.Rows L2
variable [Tbs]
/-- the rule of a def by its body -/
theorem fnG_ofc {P : Program} {w : World} {K : PySem.W.Frag} {mg : Str → Option Value} {base : Heap} {k : Nat} {f : Addr} {x qual : Str} {st : Stmt} {fd : FuncData} {N ps : List Str} {sp : Sp} (Fn : Fun K x qual st f fd) (S : FnScope N ps (defScope st)) (len : ∀ vs H Q E, sp vs H Q E → vs.length = ps.length)
    (body : ∀ (cdv : Value), cdv = fd.code → ∀ (A : Around) (outer : List Env) (s : Shared) (H : Hp) (vs : List V) (Q : VK) (E : XK), Room k (A.deeper (envOfC qual (defScope st) s.heap.objs.size f cdv)) → A.guards = some [] → sp vs H Q E →
      ∃ t, PSs (cxOf (DLz.CX P w) P w K mg base N qual (defScope st) f cdv A outer s H E) (defBody st) t ∧ t { nx := fun _ H' => Q .non H', rt := Q } (L2.start N vs) H) : FnG P w K mg base (k + 1) f fd ps sp := by
  obtain ⟨oc, od, kV, doc, pm, an, cdv, ct, osl, rfl, lk, hcd⟩ := Fn.ex
  constructor
  · exact len
  · intro A outer s H args us vs Q E hr hG e0 hb r hsp
    have KX : K.In s.heap := e0.mod.kin.keeps fun b o e => (e0.bs b o e).1
    have few : s.heap.NoLimit := e0.mod.nolimit.keeps fun b o e => (e0.bs b o e).1
    have kinds : ∀ y ∈ ps.zip us, (defScope st).names.lookup y.1 = some .local ∨ ((defScope st).names.lookup y.1 = some .cell ∧ ((cellsFrom (s.heap.objs.size + 1) (defScope st).names []).lookup y.1).isSome = true) := fun ⟨n, v⟩ hy =>
      (S.par n (List.of_mem_zip hy).1).imp id fun q => ⟨q, PySem.W.cellsFrom_some _ _ _ (.inl q)⟩
    refine codeAny_call_function hr.depth (KX _ _ lk) rfl S.co S.gen rfl (PySem.W.codeRec_of KX hcd) (hb _ _ _ _ (wpAny_newFunctionEnv_cells S.kind kinds fun env he s1 z => ?_))
    subst he
    obtain ⟨t, ht, hq⟩ := body cdv rfl A outer s H vs Q E (hr.deeper _) hG hsp
    have I := inv_start (CX := DLz.CX P w) (E := E) S hr.hd e0 (len _ _ _ _ hsp) r z
    refine ⟨few.keeps z.toInCall.keep, codeAny_func (wpAny_mono (ht.run [] s1 (L2.start N vs) H _ I hq) (fun fl s2 hs => ?_) fun e s2 hs => hs)⟩
    match fl, hs with
    | .ret u, ⟨v, σ2, H2, J, rv, q⟩ => exact ⟨v, H2, J.os, J.bare, J.base, J.hok, rv, q⟩
    | .next, ⟨σ2, H2, J, q⟩ => exact ⟨.non, H2, J.os, J.bare, J.base, J.hok, rfl, q⟩
    | .brk, ⟨_, _, _, q⟩ => exact q.elim
    | .cont, ⟨_, _, _, q⟩ => exact q.elim
theorem fnG_of {P : Program} {w : World} {K : PySem.W.Frag} {mg : Str → Option Value} {base : Heap} {k : Nat} {f : Addr} {x qual : Str} {st : Stmt} {fd : FuncData} {N ps : List Str} {sp : Sp} (Fn : Fun K x qual st f fd) (S : FnScope N ps (defScope st)) (len : ∀ vs H Q E, sp vs H Q E → vs.length = ps.length)
    (body : ∀ (cdv : Value) (A : Around) (outer : List Env) (s : Shared) (H : Hp) (vs : List V) (Q : VK) (E : XK), Room k (A.deeper (envOfC qual (defScope st) s.heap.objs.size f cdv)) → A.guards = some [] → sp vs H Q E →
      ∃ t, PSs (cxOf (DLz.CX P w) P w K mg base N qual (defScope st) f cdv A outer s H E) (defBody st) t ∧ t { nx := fun _ H' => Q .non H', rt := Q } (L2.start N vs) H) : FnG P w K mg base (k + 1) f fd ps sp := fnG_ofc Fn S len fun cdv _ => body cdv
def spD (G : Gx) (n : Nat) (f : DF) : Sp := fun vs H Q E => vs.length = n ∧ ∃ (B F : Addr → Prop) (ss : List Slot) (Qd : Res → List Slot → Prop) (Ed : Exn → List Slot → Prop), Rel G B F (vs.map some) ss H ∧ f ss Qd Ed ∧
  (∀ r ss' v F' H', Qd r ss' → Stp B F H F' H' → Rel G B F' (vs.map some) ss' H' → ResR G B F' ss' (vs.map some) H' r v → Q v H') ∧
  (∀ x ss' cls d F' H', Ed x ss' → Stp B F H F' H' → Rel G B F' (vs.map some) ss' H' → ExnR G F' H' x cls d → E cls d H')
theorem finA_rel {G : Gx} {B F F' : Addr → Prop} {H H' : Hp} (st : Stp B F H F' H') : ∀ {ss env' : List Slot} {σ σ' : L2.St} {k : List Slot → Prop}, (∀ (i : Nat) s, ss[i]? = some s → SlotR G B F H σ[i]? s) → σ.length = ss.length →
    (∀ (i : Nat) s, env'[i]? = some s → SlotR G B F' H' σ'[i]? s) → finA ss env' k → ∃ ss', k ss' ∧ ss'.length = ss.length ∧ (∀ (i : Nat) s, ss'[i]? = some s → SlotR G B F' H' σ[i]? s) ∧ (∀ (i : Nat) s, ss'[i]? = some s → s.has = true → env'[i]? = some s ∧ σ'[i]? = σ[i]?)
  | [], env', σ, σ', k, h1, hl, h2, h => ⟨[], h, rfl, fun i s e => by simp at e, fun i s e => by simp at e⟩
  | s0 :: ss, env', σ, σ', k, h1, hl, h2, h => by
    cases σ with
    | nil => simp at hl
    | cons x σ =>
      have h1' : ∀ (i : Nat) s, ss[i]? = some s → SlotR G B F H σ[i]? s := fun i s e => h1 (i + 1) s (by simpa using e)
      have hl' : σ.length = ss.length := by simpa using hl
      cases env' with
      | nil => cases s0 <;> exact (show False from h).elim
      | cons e0 es =>
        have h2' : ∀ (i : Nat) s, es[i]? = some s → SlotR G B F' H' (σ'.drop 1)[i]? s := fun i s e => by
          rw [List.getElem?_drop, Nat.add_comm]
          exact h2 (i + 1) s (by simpa using e)
        have wrap : ∀ {s1 : Slot}, finA ss es (fun r => k (s1 :: r)) → SlotR G B F' H' (some x) s1 → (s1.has = true → e0 = s1 ∧ σ'[0]? = some x) → ∃ ss', k ss' ∧ ss'.length = (s0 :: ss).length ∧ (∀ (i : Nat) s, ss'[i]? = some s → SlotR G B F' H' (x :: σ)[i]? s) ∧ (∀ (i : Nat) s, ss'[i]? = some s → s.has = true → (e0 :: es)[i]? = some s ∧ σ'[i]? = (x :: σ)[i]?) := fun {s1} hf hs ho => by
          obtain ⟨ss', k1, k2, k3, k4⟩ := finA_rel st h1' hl' h2' hf
          refine ⟨s1 :: ss', k1, by simp [k2], fun i s e => ?_, fun i s e o => ?_⟩
          · cases i with
            | zero => simp at e; subst e; exact hs
            | succ i => exact k3 i s (by simpa using e)
          · cases i with
            | zero => simp at e; subst e; obtain ⟨z1, z2⟩ := ho o; exact ⟨by rw [z1]; rfl, z2⟩
            | succ i =>
              obtain ⟨z1, z2⟩ := k4 i s (by simpa using e) o
              refine ⟨by simpa using z1, ?_⟩
              rw [List.getElem?_drop, Nat.add_comm] at z2
              simpa using z2
        have q := h1 0 s0 rfl
        cases s0 with
        | no => exact wrap (s1 := .no) (by cases e0 <;> exact h) trivial (fun z => nomatch z)
        | im d => exact wrap (s1 := .im d) (by cases e0 <;> exact h) (by obtain ⟨v, e, r⟩ := q; exact ⟨v, e, Rp.mono st d v r⟩) (fun z => nomatch z)
        | ow o =>
          cases e0 <;> exact (show False from h).elim
        | tr a o =>
          cases e0 with
          | tr b o' =>
            obtain ⟨e, hf⟩ : a = b ∧ finA ss es (fun r => k (.tr b o' :: r)) := h
            subst e
            have q' := h2 0 _ rfl
            have z : some x = some (some (V.ref a)) := q.1
            exact wrap (s1 := .tr a o') hf ⟨z, q'.2⟩ fun _ => ⟨rfl, q'.1.trans z.symm⟩
          | _ => exact (show False from h).elim
        | io a o =>
          cases e0 with
          | io b o' =>
            obtain ⟨e, hf⟩ : a = b ∧ finA ss es (fun r => k (.io b o' :: r)) := h
            subst e
            have q' := h2 0 _ rfl
            have z : some x = some (some (V.ref a)) := q.1
            exact wrap (s1 := .io a o') hf ⟨z, q'.2⟩ fun _ => ⟨rfl, q'.1.trans z.symm⟩
          | _ => exact (show False from h).elim
abbrev WE1 (E : XK) : WX := fun cls d _ H => E cls d H
/-- a def's body, entered as its promise says -/
theorem spD_tS {G : Gx} {n : Nat} {N : List Str} {m : M Fl} {vs : List V} {H : Hp} {Q : VK} {E : XK} (hN : n ≤ N.length) (h : spD G n (defM N.length m) vs H Q E) : tS G (WE1 E) m { nx := fun _ H' => Q .non H', rt := Q } (L2.start N vs) H := by
  obtain ⟨hl, B, F, ss, Qd, Ed, rel, hf, hq, he⟩ := h
  have lss : ss.length = vs.length := by rw [rel.len, List.length_map]
  have pre : ∀ i, i < vs.length → (L2.start N vs)[i]? = (vs.map some)[i]? := fun i h => by unfold L2.start; rw [List.getElem?_append_left (by simpa using h)]
  have pre2 : ∀ i, i < ss.length → (ss ++ List.replicate (N.length - ss.length) Slot.no)[i]? = ss[i]? := fun i h => by rw [List.getElem?_append_left h]
  have post2 : ∀ i s, ss.length ≤ i → (ss ++ List.replicate (N.length - ss.length) Slot.no)[i]? = some s → s = .no := fun i s h e => by
    rw [List.getElem?_append_right h, List.getElem?_replicate] at e
    split at e
    · exact (Option.some.inj e).symm
    · cases e
  have rel0 : Rel G B F (L2.start N vs) (ss ++ List.replicate (N.length - ss.length) Slot.no) H := by
    have own_lt : ∀ i a, OwnAt (ss ++ List.replicate (N.length - ss.length) Slot.no) (L2.start N vs) i a → OwnAt ss (vs.map some) i a := fun i a w => by
      obtain ⟨s, e, z⟩ := own_feet.mp w
      by_cases hi : i < ss.length
      · exact own_feet.mpr ⟨s, by rw [← pre2 i hi]; exact e, by rw [← pre i (by omega)]; exact z⟩
      · rw [post2 i s (by omega) e] at z; exact (feet_no z).elim
    refine ⟨?_, fun i s e => ?_, fun i j a h1 h2 => rel.ap i j a (own_lt i a h1) (own_lt j a h2), rel.hB, rel.hF, rel.tb⟩
    · unfold L2.start
      rw [List.length_append, List.length_append, List.length_map, List.length_replicate, List.length_replicate, lss]
    · by_cases hi : i < ss.length
      · rw [pre i (by omega)]
        exact rel.sl i s (by rw [← pre2 i hi]; exact e)
      · rw [post2 i s (by omega) e]
        trivial
  have back : ∀ {env' : List Slot} {σ' : L2.St} {F' : Addr → Prop} {H' : Hp} {kk : List Slot → Prop}, Stp B F H F' H' → Rel G B F' σ' env' H' → finA ss env' kk → ∃ ss', kk ss' ∧ Rel G B F' (vs.map some) ss' H' ∧ (∀ (i : Nat) s, ss'[i]? = some s → s.own = true → env'[i]? = some s ∧ σ'[i]? = (vs.map some)[i]?) := fun {env' σ' F' H' kk} st rl hf => by
    obtain ⟨ss', k1, k2, k3, k4⟩ := finA_rel st rel.sl (by rw [← rel.len]) rl.sl hf
    refine ⟨ss', k1, ⟨by rw [k2]; exact rel.len, k3, fun i j a w1 w2 => ?_, rl.hB, rl.hF, rl.tb⟩, fun i s e o => k4 i s e (has_own o)⟩
    obtain ⟨s1, e1, z1⟩ := own_feet.mp w1
    obtain ⟨s2, e2, z2⟩ := own_feet.mp w2
    obtain ⟨a1, a2⟩ := k4 i s1 e1 (feet_has z1)
    obtain ⟨b1, b2⟩ := k4 j s2 e2 (feet_has z2)
    exact rl.ap i j a (own_feet.mpr ⟨s1, a1, a2 ▸ z1⟩) (own_feet.mpr ⟨s2, b1, b2 ▸ z2⟩)
  refine ⟨B, F, _, _, _, rel0, hf, fun env' σ' F' H' q st rl => ?_, fun env' σ' F' H' q st rl => q.elim, fun env' σ' F' H' q st rl => q.elim, fun r env' σ' F' H' v q st rl rr => ?_, fun x env' σ' cls d F' H' q st rl rx => ?_⟩
  · obtain ⟨ss', k1, k2, k3⟩ := back st rl q
    exact hq _ ss' .non F' H' k1 st k2 rfl
  · obtain ⟨ss', k1, k2, k3⟩ := back st rl q
    refine hq r ss' v F' H' k1 st k2 ?_
    cases r with
    | d d => exact rr
    | o o =>
      obtain ⟨a, ea, h1, h2, h3, h4⟩ := rr
      exact ⟨a, ea, h1, h2, h3, fun i b p e => h4 i b p (k3 i _ e rfl).1⟩
    | t r0 ns =>
      obtain ⟨ea, t, h4⟩ := rr
      exact ⟨ea, t, fun a ha i b p e => h4 a ha i b p (k3 i _ e rfl).1⟩
  · obtain ⟨ss', k1, k2, k3⟩ := back st rl q
    exact he x ss' cls d F' H' k1 st k2 rx
/-- THE RULE for a def of the text -/
theorem fnD {P : Program} {w : World} {K : PySem.W.Frag} {mg : Str → Option Value} {base : Heap} {k n : Nat} {f C : Addr} {x qual : Str} {st : Stmt} {fd : FuncData} {N ps : List Str} {m : M Fl} (Fn : Fun K x qual st f fd) (S : FnScope N ps (defScope st)) (hn : n = ps.length) (hN : n ≤ N.length)
    (body : ∀ (cdv : Value) (A : Around) (outer : List Env) (s : Shared) (H : Hp) (E : XK), Room k (A.deeper (envOfC qual (defScope st) s.heap.objs.size f cdv)) → A.guards = some [] →
      PSs (cxOf (DLz.CX P w) P w K mg base N qual (defScope st) f cdv A outer s H E) (defBody st) (tS ⟨C, mg, K, w, P⟩ (WE1 E) m)) : FnG P w K mg base (k + 1) f fd ps (spD ⟨C, mg, K, w, P⟩ n (defM N.length m)) := by
  exact fnG_of Fn S (fun vs H Q E h => h.1.trans hn) fun cdv A outer s H vs Q E hr hG h => ⟨_, body cdv A outer s H E hr hG, spD_tS hN h⟩
def RAr (G : Gx) : (Addr → Prop) → (Addr → Prop) → List Slot → L2.St → Hp → List Ar → List V → Prop
  | _, _, _, _, _, [], vs => vs = []
  | B, F, env, σ, H, .d d :: as, vs => ∃ v r, vs = v :: r ∧ Rp G F H d v ∧ RAr G B F env σ H as r
  | B, F, env, σ, H, .o i :: as, vs => ∃ v r, vs = v :: r ∧ σ[i]? = some (some v) ∧ RAr G B F env σ H as r
abbrev tAs (G : Gx) (W : WX) (m : M (List Ar)) : TA := Lift G W (RAr G) m
abbrev tRs (G : Gx) (W : WX) (m : M Res) : TE := Lift G W (RRs G) m
theorem getO_spec {i : Nat} {env : List Slot} {Q : O → List Slot → Prop} {E : Exn → List Slot → Prop} (h : getO i env Q E) : ∃ o, ((env[i]? = some (.ow o)) ∨ ∃ b, env[i]? = some (.io b o)) ∧ Q o env := by
  unfold getO at h
  cases q : env[i]? with
  | none => rw [q] at h; exact h.elim
  | some s =>
    rw [q] at h
    cases s with
    | ow o => exact ⟨o, .inl rfl, h⟩
    | io a o => exact ⟨o, .inr ⟨a, rfl⟩, h⟩
    | _ => exact h.elim
section
variable {X : Cx} {C : Addr} {W : WX} {e : Expr} {es : List Expr} {md : M D} {ms : M (List Ar)}
theorem ar_nil : PA X [] (tAs (gx X C) W (ret [])) := paImp pa_nil fun σ H Q ⟨B, F, env, h⟩ => h.pure rfl
theorem ar_d (ha : PE X e (tD (gx X C) W md)) (hr : PA X es (tAs (gx X C) W ms)) (hs : starEach (e :: es) X.env = (false, eval e X.env) :: starEach es X.env := by rfl) : PA X (e :: es) (tAs (gx X C) W (consD md ms)) :=
  paImp (pa_cons ha hr hs) fun σ H Q h => (lift1 (Ra := RD (gx X C)) h).imp fun x H1 ⟨B, F, env, d, p, r⟩ =>
    (p.bind (Ra := RAr (gx X C)) (as := [d]) (xs := [x]) ⟨x, [], rfl, r, rfl⟩).imp fun xs H2 ⟨F2, env2, as, p2, ⟨x', r', e, rd, _⟩, rs⟩ => by
      cases e
      exact Pt.pure (c := Ar.d d :: as) p2 ⟨x, xs, rfl, rd, rs⟩
theorem ar_o {i : Nat} (ha : PE X e (tVar i)) (hr : PA X es (tAs (gx X C) W ms)) (hs : starEach (e :: es) X.env = (false, eval e X.env) :: starEach es X.env := by rfl) : PA X (e :: es) (tAs (gx X C) W (consO i ms)) :=
  paImp (pa_cons ha hr hs) fun σ H Q ⟨B, F, env, Qd, Ed, rel, hm, hq, he⟩ => by
    have hm : getO i env (fun _ env' => bnd ms (fun as => ret (.o i :: as)) env' Qd Ed) Ed := hm
    obtain ⟨o, ho, hm⟩ := getO_spec hm
    obtain ⟨a, ea, _⟩ := rel.owned ho
    refine ⟨.ref a, ea, ?_⟩
    have p : Pt (gx X C) W (RAr (gx X C)) σ H Q (bnd ms fun as => ret (.o i :: as)) B F env := ⟨Qd, Ed, rel, hm, hq, he⟩
    exact (p.bind (Ra := RAr (gx X C)) (as := []) (xs := []) rfl).imp fun xs H2 ⟨F2, env2, as, p2, _, rs⟩ => Pt.pure (c := Ar.o i :: as) p2 ⟨.ref a, xs, rfl, ea, rs⟩
end
theorem allD_eq : ∀ {as : List Ar} {ds : List D}, allD as = some ds → as = ds.map .d
  | [], ds, h => by cases h; rfl
  | .d d :: r, ds, h => by
    cases e : allD r with
    | none => simp [allD, e] at h
    | some l => simp [allD, e] at h; subst h; rw [List.map_cons, ← allD_eq e]
  | .o _ :: _, ds, h => by cases h
theorem split1_eq : ∀ {as : List Ar} {l : List D} {i : Nat} {r : List D}, split1 as = some (l, i, r) → as = l.map .d ++ .o i :: r.map .d
  | [], _, _, _, h => by cases h
  | .d d :: as, l, i, r, h => by
    cases e : split1 as with
    | none => simp [split1, e] at h
    | some p =>
      simp [split1, e] at h
      obtain ⟨h1, h2⟩ := h
      subst h1
      obtain ⟨p1, p2, p3⟩ := p
      simp at h2
      obtain ⟨h2, h3⟩ := h2
      subst h2 h3
      rw [split1_eq e]; rfl
  | .o j :: as, l, i, r, h => by
    cases e : allD as with
    | none => simp [split1, e] at h
    | some ds =>
      simp [split1, e] at h
      obtain ⟨h1, h2, h3⟩ := h
      subst h1 h2 h3
      rw [← allD_eq e]; rfl
end DL
set_option Elab.async false
set_option linter.all false
set_option maxRecDepth 100000
set_option maxHeartbeats 2000000
namespace DL
open PySem PySem.Spec PyProof.Rows L2
variable [Tbs]
section
variable {G : Gx} {W : WX} {B F : Addr → Prop} {σ : L2.St} {H : Hp} {env : List Slot}
theorem rAr_d : ∀ {ds : List D} {vs : List V}, RAr G B F env σ H (ds.map .d) vs → RpL G F H ds vs
  | [], _, h => h
  | d :: ds, _, ⟨v, r, e, h1, h2⟩ => ⟨v, r, e, h1, rAr_d h2⟩
theorem rAr_split : ∀ {l : List D} {i : Nat} {r : List D} {vs : List V}, RAr G B F env σ H (l.map .d ++ .o i :: r.map .d) vs → ∃ vl v vr, vs = vl ++ v :: vr ∧ RpL G F H l vl ∧ σ[i]? = some (some v) ∧ RpL G F H r vr
  | [], i, r, _, ⟨v, vr, e, h1, h2⟩ => ⟨[], v, vr, e, rfl, h1, rAr_d h2⟩
  | d :: l, i, r, _, ⟨v, rest, e, h1, h2⟩ => by
    obtain ⟨vl, w, vr, e2, a, b, c⟩ := rAr_split h2
    subst e e2
    exact ⟨v :: vl, w, vr, rfl, ⟨v, vl, rfl, h1, a⟩, b, c⟩
theorem im_slot {B' : Addr → Prop} {ds : List D} {vs : List V} (h : RpL G F H ds vs) {i : Nat} {s : Slot} (e : (ds.map Slot.im)[i]? = some s) : SlotR G B' F H (vs.map some)[i]? s ∧ s.has = false := by
  rw [List.getElem?_map] at e
  cases q : ds[i]? with
  | none => rw [q] at e; cases e
  | some d =>
    rw [q] at e
    cases e
    obtain ⟨v, hv, rv⟩ := h.get q
    exact ⟨⟨v, by rw [List.getElem?_map, hv]; rfl, rv⟩, rfl⟩
theorem rel_ims {B' : Addr → Prop} {ds : List D} {vs : List V} (h : RpL G F H ds vs) (hB : ∀ a, B' a → Nt H a) (hF : ∀ a, F a → Nt H a) (tb : TabF Tbs.T F H) : Rel G B' F (vs.map some) (ds.map .im) H :=
  ⟨by rw [List.length_map, List.length_map, h.length], fun i s e => (im_slot h e).1, fun i j a w _ => by
    obtain ⟨s, e, o⟩ := own_feet.mp w
    rw [List.getElem?_map] at e
    cases q : ds[i]? with
    | none => rw [q] at e; cases e
    | some d => rw [q] at e; cases e; exact (feet_im o).elim, hB, hF, tb⟩
/-- the caller's slots behind a step of the callee's -/
theorem Rel.called {B' F' : Addr → Prop} {H' : Hp} (rel : Rel G B F σ env H) (st : Stp B' F H F' H') (hBB : ∀ a, B a → B' a) (ho : ∀ i a, OwnAt env σ i a → B' a) (hF' : ∀ a, F' a → Nt H' a) : Stp B F H F' H' ∧ Rel G B F' σ env H' := by
  have st' : Stp B F H F' H' := st.less hBB
  refine ⟨st', rel.step st' (fun i a o => ?_) hF'⟩
  obtain ⟨n, nF, nB⟩ := rel.ownSome o
  refine ⟨?_, fun z => (st.fn a z).elim nF fun w => w (ho i a o)⟩
  cases e : H a with
  | none => exact absurd e n
  | some u => exact st.hk a u (.inl (ho i a o)) e fun ps z => rel.ownTab o ps (z ▸ e)
theorem resR_called {B' F' : Addr → Prop} {H' : Hp} {r : Res} {v : V} {ss : List Slot} {τ : L2.St} (hBB : ∀ a, B a → B' a) (hn : ∀ a, ¬ B' a → (∀ (i : Nat) b p, ss[i]? = some (.io b p) → b ≠ a) → ∀ i, ¬ OwnAt env σ i a) (rr : ResR G B' F' ss τ H' r v) : RRs G B F' env σ H' r v := by
  cases r with
  | d d => exact rr
  | o o =>
    obtain ⟨a, ea, h1, h2, h3, h4⟩ := rr
    exact ⟨a, ea, h1, fun z => h2 (hBB a z), h3, hn a h2 h4⟩
  | t r0 ns =>
    obtain ⟨ea, t, h4⟩ := rr
    exact ⟨ea, ⟨t.root, t.nd, fun p hp => ⟨(t.at_ p hp).1, fun z => (t.at_ p hp).2.1 (hBB _ z), (t.at_ p hp).2.2⟩⟩, fun b hb => by
      obtain ⟨n, _, _, nB, _⟩ := t.of hb
      exact hn b nB (h4 b hb)⟩
/-- a call without an object of the caller's own -/
theorem Pt.callD {Q : V → Hp → Prop} {n : Nat} {f : DF} {ds : List D} {vs : List V} (h : Pt G W (RRs G) σ H Q (callD f ds) B F env) (r : RpL G F H ds vs) (hl : vs.length = n) : spD G n f vs H Q (WE W σ) := by
  obtain ⟨Qd, Ed, rel, hm, hq, he⟩ := h
  have hBB : ∀ a, B a → Nt H a := rel.hB
  have hoo : ∀ i a, OwnAt env σ i a → Nt H a := fun i a o => ⟨(rel.ownSome o).1, rel.ownTab o⟩
  refine ⟨hl, fun a => Nt H a, F, ds.map .im, _, _, rel_ims r (fun _ h => h) rel.hF rel.tb, hm, fun rr ss' v F' H' q st rl rs => ?_, fun x ss' cls d F' H' q st rl rx => ?_⟩
  · obtain ⟨st', rel'⟩ := rel.called st hBB hoo rl.hF
    exact hq rr env v F' H' q st' rel' (resR_called hBB (fun a z _ i o => z (hoo i a o)) rs)
  · obtain ⟨st', rel'⟩ := rel.called st hBB hoo rl.hF
    exact he x env cls d F' H' q st' rel' rx
/-- the slots ahead of one, and behind -/
theorem mid_get {α : Type} {l r : List α} {x : α} {i : Nat} {y : α} (h : (l ++ x :: r)[i]? = some y) : (i < l.length ∧ l[i]? = some y) ∨ (i = l.length ∧ y = x) ∨ (l.length < i ∧ r[i - l.length - 1]? = some y) := by
  by_cases h1 : i < l.length
  · rw [List.getElem?_append_left h1] at h; exact .inl ⟨h1, h⟩
  · rw [List.getElem?_append_right (by omega)] at h
    by_cases h2 : i = l.length
    · subst h2
      simp at h
      exact .inr (.inl ⟨rfl, h.symm⟩)
    · refine .inr (.inr ⟨by omega, ?_⟩)
      obtain ⟨k, hk⟩ : ∃ k, i - l.length = k + 1 := ⟨i - l.length - 1, by omega⟩
      rw [hk] at h
      rw [hk]
      simpa using h
theorem mid_at {α : Type} {l r : List α} {x : α} : (l ++ x :: r)[l.length]? = some x := by simp
theorem mid_after {α : Type} {l r : List α} {x : α} {i : Nat} (h : l.length < i) : (l ++ x :: r)[i]? = r[i - l.length - 1]? := by
  rw [List.getElem?_append_right (by omega)]
  obtain ⟨k, hk⟩ : ∃ k, i - l.length = k + 1 := ⟨i - l.length - 1, by omega⟩
  rw [hk]
  simp
theorem call1_core {Q : V → Hp → Prop} {n : Nat} {f : DF} {l r : List D} {vl vr : List V} {i : Nat} {a : Addr} {o : O} {Qd : Res → List Slot → Prop} {Ed : Exn → List Slot → Prop} (rel : Rel G B F σ env H) (ho : OwnR env σ i a) (hw : OwAt G F H a o)
    (hm : f (l.map .im ++ .io a o :: r.map .im) (fun v ss => ioAt l.length i env ss (Qd v)) (fun x ss => ioAt l.length i env ss (Ed x)))
    (hq : ∀ rr env' v F' H', Qd rr env' → Stp B F H F' H' → Rel G B F' σ env' H' → RRs G B F' env' σ H' rr v → Q v H') (he : ∀ x env' cls d F' H', Ed x env' → Stp B F H F' H' → Rel G B F' σ env' H' → ExnR G F' H' x cls d → W cls d σ H')
    (rl : RpL G F H l vl) (rr : RpL G F H r vr) (hn : (vl ++ V.ref a :: vr).length = n) : spD G n f (vl ++ .ref a :: vr) H Q (WE W σ) := by
  obtain ⟨na, nF, nB⟩ := rel.ownSome (.inl ho)
  have hBB : ∀ b, B b → Nt H b ∧ b ≠ a := fun b h => ⟨rel.hB b h, fun z => nB (z ▸ h)⟩
  have ll : l.length = vl.length := rl.length
  have slots : ∀ (B' : Addr → Prop), ¬ B' a → ∀ j s, (l.map Slot.im ++ .io a o :: r.map .im)[j]? = some s → SlotR G B' F H ((vl ++ .ref a :: vr).map some)[j]? s ∧ (s.has = true → j = l.length) := fun B' nb j s e => by
    rw [List.map_append, List.map_cons]
    rcases mid_get e with ⟨h1, h2⟩ | ⟨h1, h2⟩ | ⟨h1, h2⟩
    · rw [List.length_map] at h1
      rw [List.getElem?_append_left (by rw [List.length_map]; omega)]
      obtain ⟨z1, z2⟩ := im_slot (B' := B') rl h2
      exact ⟨z1, fun z => by rw [z2] at z; cases z⟩
    · rw [List.length_map] at h1
      subst h1 h2
      have z : (vl.map some ++ some (V.ref a) :: vr.map some)[l.length]? = some (some (V.ref a)) := by
        rw [ll, show vl.length = (vl.map some).length by rw [List.length_map]]
        exact mid_at
      rw [z]
      exact ⟨⟨rfl, nF, nb, hw⟩, fun _ => rfl⟩
    · rw [List.length_map] at h1 h2
      rw [mid_after (by rw [List.length_map]; omega), List.length_map, ← ll]
      obtain ⟨z1, z2⟩ := im_slot (B' := B') rr h2
      exact ⟨z1, fun z => by rw [z2] at z; cases z⟩
  have nC : ¬ (fun b : Addr => Nt H b ∧ b ≠ a) a := fun z => z.2 rfl
  have relC : Rel G (fun b => Nt H b ∧ b ≠ a) F ((vl ++ .ref a :: vr).map some) (l.map .im ++ .io a o :: r.map .im) H :=
    ⟨by simp [ll, rr.length], fun j s e => (slots (fun b : Addr => Nt H b ∧ b ≠ a) nC j s e).1, fun j k b w1 w2 => by
      obtain ⟨s, e, w⟩ := own_feet.mp w1
      obtain ⟨s', e', w'⟩ := own_feet.mp w2
      exact ((slots (fun b : Addr => Nt H b ∧ b ≠ a) nC j s e).2 (feet_has w)).trans ((slots (fun b : Addr => Nt H b ∧ b ≠ a) nC k s' e').2 (feet_has w')).symm, fun b h => h.1, rel.hF, rel.tb⟩
  -- behind the call
  have after : ∀ {F' : Addr → Prop} {H' : Hp} {ss' : List Slot} {kk : List Slot → Prop}, ioAt l.length i env ss' kk → Stp (fun b => Nt H b ∧ b ≠ a) F H F' H' → Rel G (fun b => Nt H b ∧ b ≠ a) F' ((vl ++ .ref a :: vr).map some) ss' H' →
      ∃ o', kk (putS env i o') ∧ Stp B F H F' H' ∧ Rel G B F' σ (putS env i o') H' ∧ ss'[l.length]? = some (.io a o') := fun {F' H' ss' kk} h st rl' => by
    unfold ioAt at h
    cases e : ss'[l.length]? with
    | none => rw [e] at h; exact h.elim
    | some s =>
      rw [e] at h
      cases s with
      | io b o' =>
        obtain ⟨e1, e2, e3, e4⟩ := rl'.sl _ _ e
        have z : ((vl ++ V.ref a :: vr).map some)[l.length]? = some (some (V.ref a)) := by
          rw [List.map_append, List.map_cons, ll, show vl.length = (vl.map some).length by rw [List.length_map]]
          exact mid_at
        rw [z] at e1
        cases e1
        have st' : Stp B F H F' H' := st.less hBB
        refine ⟨o', h, st', ?_, rfl⟩
        -- all other owned objects stay, this one holds o'
        have oth : ∀ j b, OwnAt env σ j b → j ≠ i → H' b = H b ∧ ¬ F' b := fun j b w ne => by
          obtain ⟨n1, n2, n3⟩ := rel.ownSome w
          have nb : Nt H b ∧ b ≠ a := ⟨⟨n1, rel.ownTab w⟩, fun z => ne (rel.ap j i a (z ▸ w) (.inl ho))⟩
          refine ⟨?_, fun z => (st.fn b z).elim n2 fun q => q nb⟩
          cases e : H b with
          | none => exact absurd e n1
          | some u => exact st.hk b u (.inl nb) e fun ps z => rel.ownTab w ps (z ▸ e)
        obtain ⟨⟨s0, q0, w0⟩, σ0⟩ := id ho
        have hlt : i < env.length := (List.getElem?_eq_some_iff.mp q0).1
        have fin : ∀ s1 : Slot, (∀ r ns, s1 ≠ .tr r ns) → SlotR G B F' H' σ[i]? s1 → Rel G B F' σ (env.set i s1) H' := fun s1 k1 r1 => by
          refine ⟨by rw [List.length_set]; exact rel.len, fun j t e' => ?_, fun j k b h1 h2 => ?_, fun b z => st.hs b (.inl (hBB b z)) (rel.hB b z), rl'.hF, rl'.tb⟩
          · by_cases hj : j = i
            · subst hj
              rw [List.getElem?_set_self hlt] at e'
              cases e'
              exact r1
            · rw [List.getElem?_set_ne (Ne.symm hj)] at e'
              have q := rel.sl j t e'
              cases t with
              | no => trivial
              | im d => obtain ⟨v, h1, h2⟩ := q; exact ⟨v, h1, Rp.mono st' d v h2⟩
              | ow p => obtain ⟨b, h1, h2, h3, h4⟩ := q; obtain ⟨x1, x2⟩ := oth j b (.inl ⟨⟨_, e', rfl⟩, h1⟩) hj; exact ⟨b, h1, x2, h3, OwAt.mono st' x1 h4⟩
              | io b p => obtain ⟨h1, h2, h3, h4⟩ := q; obtain ⟨x1, x2⟩ := oth j b (.inl ⟨⟨_, e', rfl⟩, h1⟩) hj; exact ⟨h1, x2, h3, OwAt.mono st' x1 h4⟩
              | tr r ns =>
                refine ⟨q.1, q.2.root, q.2.nd, fun p hp => ?_⟩
                obtain ⟨x1, x2⟩ := oth j p.1 (.inr ⟨r, ns, e', List.mem_map.mpr ⟨p, hp, rfl⟩⟩) hj
                exact ⟨x2, (q.2.at_ p hp).2.1, R1At.mono st' x1 (q.2.at_ p hp).2.2⟩
          · have back : ∀ m, OwnAt (env.set i s1) σ m b → OwnAt env σ m b := fun m w => own_set (fun b h => .inl ⟨⟨s0, q0, w0⟩, (feet_root h k1).2⟩) w
            exact rel.ap j k b (back j h1) (back k h2)
        unfold putS
        rw [q0]
        cases s0 with
        | ow p => exact fin (.ow o') (fun _ _ z => nomatch z) ⟨a, σ0, e2, nB, e4⟩
        | io c p =>
          have z := (rel.sl i _ q0).1
          rw [σ0] at z
          cases z
          exact fin (.io a o') (fun _ _ z => nomatch z) ⟨σ0, e2, nB, e4⟩
        | no => cases w0
        | im d => cases w0
        | tr _ _ => cases w0
      | _ => exact h.elim
  refine ⟨hn, fun b => Nt H b ∧ b ≠ a, F, _, _, _, relC, hm, fun rr' ss' v F' H' q st rl' rs => ?_, fun x ss' cls d F' H' q st rl' rx => ?_⟩
  · obtain ⟨o', k1, st', rel', e'⟩ := after q st rl'
    refine hq rr' _ v F' H' k1 st' rel' (resR_called hBB (fun b nb hb j w => ?_) rs)
    have w' : OwnAt env σ j b := own_put w
    by_cases hj : j = i
    · subst hj
      have z : b = a := by
        obtain ⟨s, e, f⟩ := own_feet.mp w'
        obtain ⟨⟨s0, q0, w0⟩, σ0⟩ := id ho
        rw [q0] at e
        cases e
        rcases f with ⟨_, z1⟩ | ⟨_, _, q, _⟩
        · rw [σ0] at z1
          cases z1; rfl
        · subst q; cases w0
      exact hb _ a o' e' z.symm
    · exact nb ⟨⟨(rel.ownSome w').1, rel.ownTab w'⟩, fun z => hj (rel.ap j i a (z ▸ w') (.inl ho))⟩
  · obtain ⟨o', k1, st', rel', e'⟩ := after q st rl'
    exact he x _ cls d F' H' k1 st' rel' rx
theorem Pt.call1 {Q : V → Hp → Prop} {n : Nat} {f : DF} {l r : List D} {i : Nat} {vl vr : List V} {v : V} (h : Pt G W (RRs G) σ H Q (call1 f l i r) B F env) (rl : RpL G F H l vl) (ev : σ[i]? = some (some v)) (rr : RpL G F H r vr) (hl : (vl ++ v :: vr).length = n) : spD G n f (vl ++ v :: vr) H Q (WE W σ) := by
  obtain ⟨Qd, Ed, rel, hm, hq, he⟩ := h
  unfold DL.call1 at hm
  cases q : env[i]? with
  | none => rw [q] at hm; exact hm.elim
  | some s =>
    rw [q] at hm
    cases s with
    | ow o =>
      obtain ⟨a, e1, _, _, e4, e5⟩ := rel.owned (.inl q)
      rw [ev] at e1
      cases e1
      exact call1_core rel e5 e4 (hm a) hq he rl rr hl
    | io b o =>
      obtain ⟨a, e1, _, _, e4, e5⟩ := rel.owned (.inr ⟨b, q⟩)
      have z := (rel.sl i _ q).1
      rw [z] at e1
      cases e1
      rw [ev] at z
      cases z
      exact call1_core rel e5 e4 hm hq he rl rr hl
    | _ => exact hm.elim
theorem Pt.callA {Q : V → Hp → Prop} {n : Nat} {f : DF} {as : List Ar} {vs : List V} (h : Pt G W (RRs G) σ H Q (callA f as) B F env) (r : RAr G B F env σ H as vs) (hl : vs.length = n) : spD G n f vs H Q (WE W σ) := by
  unfold DL.callA at h
  cases e : allD as with
  | some ds =>
    rw [e] at h
    rw [allD_eq e] at r
    exact Pt.callD h (rAr_d r) hl
  | none =>
    rw [e] at h
    cases e2 : split1 as with
    | none => rw [e2] at h; exact (Pt.no h).elim
    | some p =>
      obtain ⟨l, i, r'⟩ := p
      rw [e2] at h
      rw [split1_eq e2] at r
      obtain ⟨vl, v, vr, ev, h1, h2, h3⟩ := rAr_split r
      subst ev
      exact Pt.call1 h h1 h2 h3 hl
end
end DL
set_option Elab.async false
set_option linter.all false
set_option maxRecDepth 100000
set_option maxHeartbeats 2000000
namespace DL
open PySem PySem.Spec PyProof.Rows L2
variable [Tbs]
section
variable {X : Cx} {C : Addr} {W : WX} {k n : Nat} {f : Addr} {fd : FuncData} {ps ks : List Str} {df : DF} {x : Str} {p pos : Pos} {e : Expr} {es : List Expr} {kws : List Keyword} {ma : M (List Ar)} {md : M D} {ms mk : M (List D)}
theorem run_g {pins : List (Addr × Obj)} {σ : L2.St} {H : Hp} {s : Shared} {Q : VK} {args : Args} {us : List Value} {vs : List V} {sp : Sp} (Fn : FnG X.prog X.w X.K X.mg X.base k f fd ps sp) (hr : Room k X.A) (hG : X.A.guards = some []) (tk : DLz.Takes X W) (I : Inv X pins σ H s)
    (hb : BindsTo s fd args (ps.zip us)) (r : Vals vs us) (h : sp vs H Q (WE W σ)) : codeAny (model X.prog X.w) X.A (.call (.ref f) args) (fun rr s' => match rr with
      | .ok (.ret u) => EP X pins σ Q u s'
      | .ok _ => False
      | .error ex => X.xe ex s') s := by
  refine codeAny_mono (Fn.run X.A X.stack s H args us vs Q (WE W σ) hr hG I.env0 hb r h) fun rr s' hq => ?_
  match rr, hq with
  | .error ex, hq => exact DLz.passAt tk σ pins H s ex s' I hq
  | .ok (.ret u), hq => exact I.after hq
  | .ok .next, hq => exact hq
  | .ok .brk, hq => exact hq
  | .ok .cont, hq => exact hq
theorem rAr_len {G : Gx} {B F : Addr → Prop} {env : List Slot} {σ : L2.St} {H : Hp} : ∀ {as : List Ar} {vs : List V}, RAr G B F env σ H as vs → vs.length = as.length
  | [], _, r => by rw [show _ = [] from r]; rfl
  | .d _ :: as, _, ⟨v, rr, ee, _, r2⟩ => by subst ee; simp [rAr_len r2]
  | .o _ :: as, _, ⟨v, rr, ee, _, r2⟩ => by subst ee; simp [rAr_len r2]
theorem Pt.callN {G : Gx} {B F : Addr → Prop} {env : List Slot} {σ : L2.St} {H : Hp} {Q : V → Hp → Prop} {as : List Ar} {vs : List V} (h : Pt G W (RRs G) σ H Q (DL.callN n df as) B F env) (r : RAr G B F env σ H as vs) : vs.length = n ∧ spD G n df vs H Q (WE W σ) := by
  obtain ⟨l, h⟩ := h.asked
  have lv := (rAr_len r).trans l
  exact ⟨lv, h.callA r lv⟩
/-- f(e, ..) -/
theorem c_pos (Fn : FnG X.prog X.w X.K X.mg X.base k f fd ps (spD (gx X C) n df)) (hr : Room k X.A) (hG : X.A.guards = some []) (tk : DLz.Takes X W) (hg : Gl X x) (hm : X.mg x = some (.ref f)) (hk : PySem.W.keepIn X.K (.ref f) = true) (hb : Binds X.K fd ps [])
    (hn : n = ps.length) (ha : PA X (e :: es) (tAs (gx X C) W ma)) (hdb : (x == ("__debug__" : Str)) = false := by decide) (he : starEach (e :: es) X.env = (false, eval e X.env) :: starEach es X.env := by rfl) (hpl : (backTo pos (starEach es X.env)).any (·.1) = false := by rfl) :
    PE X (.Call (.Name x p) (e :: es) [] pos) (tRs (gx X C) W (bnd ma (callN n df))) := ⟨fun pins s σ H Q I h => by
  refine wpAny_Call_Name_kw (ld_glob I hg hm (PySem.W.callWith_K (h₀ := X.base) I.ok.mod.kin hk (thn (ha.run pos pins s σ H (fun vs H1 => vs.length = n ∧ spD (gx X C) n df vs H1 Q (WE W σ)) I ?_) fun us s1 ⟨vs, H1, I1, r, l, q⟩ => ⟨I1.kIn, wpAny_call ?_⟩) he hpl) hdb)
  · exact (lift1 (Ra := RAr (gx X C)) h).imp fun vs H1 ⟨B, F, env, as, q, r⟩ => q.callN r
  · have hb' := hb s1 us I1.kIn (by rw [List.append_nil, ← r.length, l, hn])
    rw [List.append_nil] at hb'
    exact run_g Fn hr hG tk I1 hb' r q⟩
/-- the keywords' values -/
theorem k_nil : PK X [] (tDs (gx X C) W (ret [])) := ⟨fun pos pins s σ H Q I ⟨B, F, env, h⟩ => pk_nil.run pos pins s σ H Q I (h.pure rfl)⟩
theorem k_cons {nm : Option Str} {kpos : Pos} (ha : PE X e (tD (gx X C) W md)) (hr : PK X kws (tDs (gx X C) W mk)) : PK X (⟨nm, e, kpos⟩ :: kws) (tDs (gx X C) W (consM md mk)) := ⟨fun pos pins s σ H Q I h => (pk_cons ha hr).run pos pins s σ H Q I
  ((lift1 (Ra := RD (gx X C)) h).imp fun x H1 ⟨B, F, env, d, p, r⟩ => (p.bind (Ra := RDs (gx X C)) (as := [d]) (xs := [x]) ⟨x, [], rfl, r, rfl⟩).imp fun xs H2 ⟨F2, env2, ds, p2, ⟨x', r', e, rd, _⟩, rs⟩ => by
      cases e
      exact p2.pure ⟨x, xs, rfl, rd, rs⟩)⟩
/-- how written and named arguments come to the parameters: g -/
structure KwD (K : PySem.W.Frag) (fd : FuncData) (ps : List Str) (n : Nat) (ks : List Str) (gD : List D → List D → List D) (g : List Value → List Value → List Value) (gV : List V → List V → List V) : Prop where
  b : KBn K fd ps n ks g gV
  len : ∀ vs zs, vs.length = n → zs.length = ks.length → (gV vs zs).length = ps.length
  rel : ∀ {G : Gx} {F : Addr → Prop} {H : Hp} {ds es : List D} {vs zs : List V}, RpL G F H ds vs → RpL G F H es zs → RpL G F H (gD ds es) (gV vs zs)
variable {gD : List D → List D → List D} {g : List Value → List Value → List Value} {gV : List V → List V → List V} {j : Nat}
theorem Pt.callK {G : Gx} {B F : Addr → Prop} {env : List Slot} {σ : L2.St} {H : Hp} {Q : V → Hp → Prop} {ds es : List D} {vs zs : List V} (kd : KwD X.K fd ps j ks gD g gV) (hn : n = ps.length) (h : Pt G W (RRs G) σ H Q (DL.callK j ks.length gD df ds es) B F env) (r1 : RpL G F H ds vs) (r2 : RpL G F H es zs) :
    vs.length = j ∧ zs.length = ks.length ∧ spD G n df (gV vs zs) H Q (WE W σ) := by
  obtain ⟨⟨l1, l2⟩, h⟩ := h.asked
  have a1 := r1.length.symm.trans l1
  have a2 := r2.length.symm.trans l2
  exact ⟨a1, a2, h.callD (kd.rel r1 r2) ((kd.len vs zs a1 a2).trans hn.symm)⟩
/-- f(k = v, ..) -/
theorem c_kw0 (Fn : FnG X.prog X.w X.K X.mg X.base k f fd ps (spD (gx X C) n df)) (hr : Room k X.A) (hG : X.A.guards = some []) (tk : DLz.Takes X W) (hg : Gl X x) (hm : X.mg x = some (.ref f)) (hk : PySem.W.keepIn X.K (.ref f) = true) (kd : KwD X.K fd ps 0 ks gD g gV)
    (hn : n = ps.length) (hkw : PK X kws (tDs (gx X C) W mk)) (hall : (backToKw pos (keywordEach kws X.env)).all (·.1.isSome) = true := by rfl) (hks : (backToKw pos (keywordEach kws X.env)).filterMap (·.1) = ks := by rfl)
    (hdb : (x == ("__debug__" : Str)) = false := by decide) (hpl : ((backTo pos (starEach [] X.env)).any (·.1) || (backToKw pos (keywordEach kws X.env)).any (·.1.isNone)) = false := by rfl) :
    PE X (.Call (.Name x p) [] kws pos) (tRs (gx X C) W (bnd mk fun es => callK 0 ks.length gD df [] es)) := ⟨fun pins s σ H Q I h => by
  refine wpAny_Call_Name_kw (ld_glob I hg hm (PySem.W.callWith_KW0 (h₀ := X.base) I.ok.mod.kin hk hall (thn (hkw.run pos pins s σ H (fun zs H2 => zs.length = ks.length ∧ spD (gx X C) n df (gV [] zs) H2 Q (WE W σ)) I ?_) fun ws s2 ⟨zs, H2, I2, rz, l2, q2⟩ => ⟨I2.kIn, wpAny_call ?_⟩) hpl) hdb)
  · exact (lift1 (Ra := RDs (gx X C)) h).imp fun zs H1 ⟨B, F, env, es, q, r⟩ => (q.callK (ds := []) (vs := []) kd hn rfl r).2
  · rw [hks]
    exact run_g Fn hr hG tk I2 (kd.b.to s2 [] ws I2.kIn rfl (rz.length.symm.trans l2)) (kd.b.rel .nil rz) q2⟩
theorem Pt.freeze {G : Gx} {B F : Addr → Prop} {σ : L2.St} {H : Hp} {env : List Slot} {Q : V → Hp → Prop} {ds : List D} {a : Addr} (p : Pt G W (RD G) σ H Q (ret (.lst ds)) B F env) (nB : ¬ B a) (ho : OwAt G F H a (.lst ds)) (hn : ∀ i, ¬ OwnAt env σ i a) : Q (.ref a) H := by
  obtain ⟨Qd, Ed, rel, hm, hq, he⟩ := p
  obtain ⟨vs, e1, r1⟩ := ho
  have st : Stp B F H (fun b => F b ∨ b = a) H := ⟨fun _ z => .inl z, fun b z => z.imp id fun w => by rw [w]; exact nB, fun b u z e _ => e, fun _ _ z => z, fun t => t.ext (fun _ z => .inl z) fun _ _ z => z, fun _ _ _ z => z⟩
  have rel' : Rel G B (fun b => F b ∨ b = a) σ env H := rel.step st (fun i b z => ⟨rfl, fun w => w.elim (rel.ownSome z).2.1 fun w => by subst w; exact hn i z⟩) fun b z => z.elim (rel.hF b) fun w => by rw [w]; exact Nt.of e1
  exact hq (.lst ds) env (.ref a) _ H hm st rel' ⟨a, vs, rfl, .inr rfl, e1, RpL.mono st ds vs r1⟩
theorem e_res {e : Expr} {mr : M Res} (h : PE X e (tRs (gx X C) W mr)) : PE X e (tD (gx X C) W (bnd mr resD)) := peImp h fun σ H Q q => (lift1 (Ra := RRs (gx X C)) q).imp fun x H1 ⟨B, F, env, r, p, rr⟩ => by
  cases r with
  | d d => exact Pt.pure (c := d) p rr
  | o o =>
    cases o with
    | lst ds => obtain ⟨a, ea, nF, nB, ho, hn⟩ := rr; subst ea; exact Pt.freeze p nB ho hn
    | _ => exact (Pt.no p).elim
  | t _ _ => exact (Pt.no p).elim
theorem o_res {e : Expr} {mr : M Res} (h : PE X e (tRs (gx X C) W mr)) : PE X e (tO (gx X C) W (bnd mr resO)) := peImp h fun σ H Q q => (lift1 (Ra := RRs (gx X C)) q).imp fun x H1 ⟨B, F, env, r, p, rr⟩ => by
  cases r with
  | d d => exact (Pt.no p).elim
  | o o => exact Pt.pure (c := o) p rr
  | t _ _ => exact (Pt.no p).elim
structure FitsC (G : Gx) (W : WX) (r : List V → Hp → VK → Prop) (k : List D → M D) : Prop where
  go : ∀ {σ : L2.St} {H : Hp} {Q : V → Hp → Prop} {B F : Addr → Prop} {env : List Slot} {xs : List V} {ds : List D}, Pt G W (RD G) σ H Q (k ds) B F env → RpL G F H ds xs → r xs H Q
theorem b_call {id : String} {r : List V → Hp → VK → Prop} {kk : List D → M D} (hc : CallR X (.builtin id) r) (hf : FitsC (gx X C) W r kk) (hg : Gl X x) (hm : X.mg x = none) (hv : bootBuiltins x = some (.builtin id)) (ha : PA X (e :: es) (tDs (gx X C) W ms)) (hn : x ≠ "__name__" := by decide)
    (hdb : (x == ("__debug__" : Str)) = false := by decide) (he : starEach (e :: es) X.env = (false, eval e X.env) :: starEach es X.env := by rfl) (hpl : (backTo pos (starEach es X.env)).any (·.1) = false := by rfl) :
    PE X (.Call (.Name x p) (e :: es) [] pos) (tD (gx X C) W (bnd ms kk)) := peImp (pe_callB hc hg hm hv ha hn hdb he hpl) fun σ H Q h => (lift1 (Ra := RDs (gx X C)) h).imp fun xs H1 ⟨B, F, env, ds, q, r⟩ => hf.go q r
theorem b_callT {T : String} {r : List V → Hp → VK → Prop} {kk : List D → M D} (hc : CallR X (.type T) r) (hf : FitsC (gx X C) W r kk) (hg : Gl X x) (hm : X.mg x = none) (hv : bootBuiltins x = some (.type T)) (ha : PA X (e :: es) (tDs (gx X C) W ms)) (hn : x ≠ "__name__" := by decide)
    (hdb : (x == ("__debug__" : Str)) = false := by decide) (he : starEach (e :: es) X.env = (false, eval e X.env) :: starEach es X.env := by rfl) (hpl : (backTo pos (starEach es X.env)).any (·.1) = false := by rfl) :
    PE X (.Call (.Name x p) (e :: es) [] pos) (tD (gx X C) W (bnd ms kk)) := peImp (pe_callTy hc hg hm hv ha hn hdb he hpl) fun σ H Q h => (lift1 (Ra := RDs (gx X C)) h).imp fun xs H1 ⟨B, F, env, ds, q, r⟩ => hf.go q r
theorem fits1 {G : Gx} {r : List V → Hp → VK → Prop} {kk : D → M D} (h : ∀ {σ : L2.St} {H : Hp} {Q : V → Hp → Prop} {B F : Addr → Prop} {env : List Slot} {x : V} {d : D}, Pt G W (RD G) σ H Q (kk d) B F env → Rp G F H d x → r [x] H Q) : FitsC G W r (un1 kk) := by
  refine ⟨fun {σ H Q B F env xs ds} p rr => ?_⟩
  match ds, p, rr with
  | [d], p, ⟨v, r', e, rv, rn⟩ => cases (show _ = _ from rn); subst e; exact h p rv
  | [], p, _ => exact (Pt.no p).elim
  | _ :: _ :: _, p, _ => exact (Pt.no p).elim
theorem fits2 {G : Gx} {r : List V → Hp → VK → Prop} {kk : D → D → M D} (h : ∀ {σ : L2.St} {H : Hp} {Q : V → Hp → Prop} {B F : Addr → Prop} {env : List Slot} {x y : V} {d e : D}, Pt G W (RD G) σ H Q (kk d e) B F env → Rp G F H d x → Rp G F H e y → r [x, y] H Q) : FitsC G W r (un2 kk) := by
  refine ⟨fun {σ H Q B F env xs ds} p rr => ?_⟩
  match ds, p, rr with
  | [d, e], p, ⟨v, r', ee, rv, v2, r2, ee2, rv2, rn⟩ => cases (show _ = _ from rn); subst ee ee2; exact h p rv rv2
  | [], p, _ => exact (Pt.no p).elim
  | [_], p, _ => exact (Pt.no p).elim
  | _ :: _ :: _ :: _, p, _ => exact (Pt.no p).elim
theorem fits_len {G : Gx} : FitsC G W (fun xs H Q => ∃ x n, xs = [x] ∧ LenV G.K x H n ∧ Q (.int n) H) (un1 lenD) := fits1 fun {σ H Q B F env x d} p r => by
  cases d with
  | tup ds => obtain ⟨a, vs, e, h1, h2⟩ := r; subst e; exact ⟨_, ds.length, rfl, .inr ⟨vs, .inl h1.rd, h2.length⟩, p.pure (b := .int _) rfl⟩
  | lst ds => obtain ⟨a, vs, e, _, h1, h2⟩ := r; subst e; exact ⟨_, ds.length, rfl, .inl ⟨vs, SqL.of h1, h2.length⟩, p.pure (b := .int _) rfl⟩
  | scr ns => obtain ⟨a, e, h1⟩ := scrSq r; subst e; exact ⟨_, ns.length, rfl, .inl ⟨_, h1, by rw [List.length_map]⟩, p.pure (b := .int _) rfl⟩
  | str s => cases (show _ = _ from r); exact ⟨_, s.length, rfl, ⟨(Pt.asked p).1, rfl⟩, (Pt.asked p).2.pure (b := .int _) rfl⟩
  | _ => exact (Pt.no p).elim
theorem fits_abs {G : Gx} : FitsC G W (fun xs H Q => ∃ i, xs = [.int i] ∧ Q (.int (if i < 0 then -i else i)) H) (un1 absD) := fits1 fun {σ H Q B F env x d} p r => by
  cases d with
  | int i => cases (show _ = _ from r); exact ⟨i, rfl, p.pure (b := .int _) rfl⟩
  | _ => exact (Pt.no p).elim
theorem fits_int {G : Gx} : FitsC G W (fun xs H Q => (∃ i, xs = [.int i] ∧ Q (.int i) H) ∨ ∃ k, xs = [.bl k] ∧ Q (.int (if k then 1 else 0)) H) (un1 intD) := fits1 fun {σ H Q B F env x d} p r => by
  cases d with
  | int i => cases (show _ = _ from r); exact .inl ⟨i, rfl, p.pure (b := .int _) rfl⟩
  | bl k => cases (show _ = _ from r); exact .inr ⟨k, rfl, p.pure (b := .int _) rfl⟩
  | _ => exact (Pt.no p).elim
theorem fits_max2 {G : Gx} : FitsC G W (fun xs H Q => ∃ i j, xs = [.int i, .int j] ∧ Q (.int (if j > i then j else i)) H) (un2 max2D) := fits2 fun {σ H Q B F env x y d e} p r r' => by
  cases d <;> cases e <;> first | exact (Pt.no p).elim | (cases (show _ = _ from r); cases (show _ = _ from r'); exact ⟨_, _, rfl, Pt.pure p (b := .int _) rfl⟩)
theorem fits_min2 {G : Gx} : FitsC G W (fun xs H Q => ∃ i j, xs = [.int i, .int j] ∧ Q (.int (if j < i then j else i)) H) (un2 min2D) := fits2 fun {σ H Q B F env x y d e} p r r' => by
  cases d <;> cases e <;> first | exact (Pt.no p).elim | (cases (show _ = _ from r); cases (show _ = _ from r'); exact ⟨_, _, rfl, Pt.pure p (b := .int _) rfl⟩)
theorem fits_divmod {G : Gx} : FitsC G W (fun xs H Q => ∃ i j, xs = [.int i, .int j] ∧ CDiv i j ∧ ∀ p, H p = none → Q (.ref p) (upd H p (.tup [.int (i / j), .int (i % j)]))) (un2 divD) := fits2 fun {σ H Q B F env x y d e} p r r' => by
  cases d <;> cases e <;> first
    | exact (Pt.no p).elim
    | (cases (show _ = _ from r); cases (show _ = _ from r'); exact ⟨_, _, rfl, (Pt.asked p).1, fun q hq => (Pt.asked p).2.pr ⟨_, _, rfl, rfl, _, _, rfl, rfl, rfl⟩ hq⟩)
theorem fits_tuple {G : Gx} : FitsC G W (DLt.fOf G.K) (un1 tupD) := fits1 fun {σ H Q B F env x d} p r => by
  cases d with
  | tup ds => obtain ⟨a, vs, e, h1, h2⟩ := id r; subst e; exact ⟨a, vs, rfl, .inr ⟨.inl h1.rd, Pt.pure (c := D.tup ds) p r⟩⟩
  | lst ds => obtain ⟨a, vs, e, _, h1, h2⟩ := r; subst e; exact ⟨a, vs, rfl, .inl ⟨SqL.of h1, Pt.tup p h2⟩⟩
  | _ => exact (Pt.no p).elim
theorem boolsD : ∀ {bs : List Bool} {ds : List D}, ds = bs.map .bl → ∀ {G : Gx} {F : Addr → Prop} {H : Hp} {vs : List V}, RpL G F H ds vs → vs = bs.map .bl
  | [], _, rfl, _, _, _, _, r => r
  | b :: bs, _, rfl, G, F, H, _, ⟨v, r', e, rv, rn⟩ => by subst e; rw [show v = V.bl b from rv, boolsD rfl rn]; rfl
theorem boolsOf_eq : ∀ {ds : List D} {bs : List Bool}, boolsOf ds = some bs → ds = bs.map .bl
  | [], bs, h => by cases h; rfl
  | .bl b :: ds, bs, h => by
    cases e : boolsOf ds with
    | none => simp [boolsOf, e] at h
    | some l => simp [boolsOf, e] at h; subst h; rw [List.map_cons, ← boolsOf_eq e]
  | .non :: _, _, h => by cases h
  | .int _ :: _, _, h => by cases h
  | .str _ :: _, _, h => by cases h
  | .byt _ :: _, _, h => by cases h
  | .tup _ :: _, _, h => by cases h
  | .pr _ :: _, _, h => by cases h
  | .lst _ :: _, _, h => by cases h
  | .hall _ _ :: _, _, h => by cases h
  | .scr _ :: _, _, h => by cases h
  | .emp :: _, _, h => by cases h
  | .exn _ _ _ :: _, _, h => by cases h
theorem fits_all {G : Gx} : FitsC G W (rAll G.K) (un1 allM) := fits1 fun {σ H Q B F env x d} p r => by
  cases d with
  | lst ds =>
    obtain ⟨a, vs, e, _, h1, h2⟩ := r
    subst e
    cases q : boolsOf ds with
    | none => exact (Pt.no (by simpa only [allM, q] using p)).elim
    | some bs =>
      have p' : Pt G W (RD G) σ H Q (ret (.bl (bs.all id))) B F env := by simpa only [allM, q] using p
      exact ⟨a, bs, rfl, SqL.of (by rw [h1, boolsD (boolsOf_eq q) h2]), p'.pure (b := .bl _) rfl⟩
  | _ => exact (Pt.no p).elim
theorem fits_list {G : Gx} : FitsC G W (fun xs H Q => ∃ p ys, xs = [.ref p] ∧ (SqL G.K H p ys ∨ SqT G.K H p ys) ∧ ∀ l, H l = none → Q (.ref l) (upd H l (.lst ys))) (un1 listD) := fits1 fun {σ H Q B F env x d} p r => by
  cases d with
  | tup ds => obtain ⟨a, vs, e, h1, h2⟩ := r; subst e; exact ⟨a, vs, rfl, .inr (.inl h1.rd), fun l hl => Pt.lst p h2 hl⟩
  | lst ds => obtain ⟨a, vs, e, _, h1, h2⟩ := r; subst e; exact ⟨a, vs, rfl, .inl (SqL.of h1), fun l hl => Pt.lst p h2 hl⟩
  | scr ns => obtain ⟨a, e, h1⟩ := scrSq r; subst e; exact ⟨a, _, rfl, .inl h1, fun l hl => Pt.lst p (RpL.ints.mpr rfl) hl⟩
  | _ => exact (Pt.no p).elim
end
end DL
set_option Elab.async false
set_option linter.all false
set_option maxRecDepth 100000
set_option maxHeartbeats 2000000
namespace DL
open PySem PySem.Spec PyProof.Rows L2
variable [Tbs]
section
variable {G : Gx} {W : WX} {B F : Addr → Prop} {σ : L2.St} {H : Hp} {env : List Slot} {α β γ δ : Type}
variable {R : (Addr → Prop) → (Addr → Prop) → List Slot → L2.St → Hp → γ → δ → Prop} {Q : δ → Hp → Prop} {i : Nat} {a : Addr} {o o' : O}
theorem Pt.getO {k : O → M γ} (h : Pt G W R σ H Q (bnd (DL.getO i) k) B F env) : ∃ a o, σ[i]? = some (some (.ref a)) ∧ OwAt G F H a o ∧ OwnR env σ i a ∧ Pt G W R σ H Q (k o) B F env := by
  obtain ⟨Qd, Ed, rel, hm, hq, he⟩ := h
  obtain ⟨o, ho, hm⟩ := getO_spec (Q := fun o env' => k o env' Qd Ed) (E := Ed) hm
  obtain ⟨a, e1, _, _, e2, e3⟩ := rel.owned ho
  exact ⟨a, o, e1, e2, e3, Qd, Ed, rel, hm, hq, he⟩
theorem Pt.olist {k : List D → M γ} (h : Pt G W R σ H Q (bnd (DL.olist i) k) B F env) : ∃ a ds vs, σ[i]? = some (some (.ref a)) ∧ H a = some (.lst vs) ∧ RpL G F H ds vs ∧ OwnR env σ i a ∧ Pt G W R σ H Q (k ds) B F env := by
  have h : Pt G W R σ H Q (bnd (DL.getO i) fun o => bnd (asL o) k) B F env := h
  obtain ⟨a, o, e1, e2, e3, p⟩ := h.getO
  cases o with
  | lst ds => obtain ⟨vs, h1, h2⟩ := e2; exact ⟨a, ds, vs, e1, h1, h2, e3, p⟩
  | _ => exact (Pt.unknown p).elim
theorem putO_spec {env : List Slot} {Q : Unit → List Slot → Prop} {E : Exn → List Slot → Prop} (h : putO i o env Q E) : Q () (putS env i o) := by
  unfold putO at h
  unfold putS
  cases q : env[i]? with
  | none => rw [q] at h; exact h.elim
  | some s => rw [q] at h; cases s <;> first | exact h | exact h.elim
theorem Pt.putO {k : Unit → M γ} {u : HO} (h : Pt G W R σ H Q (bnd (DL.putO i o') k) B F env) (own : OwnR env σ i a) (hw : OwAt G F H a o) (hu : OwAt G F (upd H a u) a o') : Pt G W R σ (upd H a u) Q (k ()) B F (putS env i o') := by
  obtain ⟨Qd, Ed, rel, hm, hq, he⟩ := h
  obtain ⟨st, rel'⟩ := rel.put own hw hu
  exact ⟨Qd, Ed, rel', putO_spec (Q := fun _ env' => k () env' Qd Ed) hm, fun x env' b F' H' q s2 => hq x env' b F' H' q (st.trans s2), fun x env' c d F' H' q s2 => he x env' c d F' H' q (st.trans s2)⟩
theorem own_lst {ds : List D} {vs : List V} (rel : Rel G B F σ env H) (own : OwnR env σ i a) (hw : OwAt G F H a o) (r : RpL G F H ds vs) : OwAt G F (upd H a (.lst vs)) a (.lst ds) := by
  obtain ⟨_, nF, nB⟩ := rel.ownSome (.inl own)
  exact ⟨vs, upd_same, RpL.mono (stp_own (B := B) (u := .lst vs) nF nB hw.notup hw.noTab hw.noCode) ds vs r⟩
theorem Pt.putL {k : Unit → M γ} {ds ds' : List D} {vs vs' : List V} (h : Pt G W R σ H Q (bnd (DL.putO i (.lst ds')) k) B F env) (own : OwnR env σ i a) (hv : H a = some (.lst vs)) (rv : RpL G F H ds vs) (r : RpL G F H ds' vs') :
    Pt G W R σ (upd H a (.lst vs')) Q (k ()) B F (putS env i (.lst ds')) := h.putO (o := .lst ds) own ⟨vs, hv, rv⟩ (own_lst (o := .lst ds) h.rel own ⟨vs, hv, rv⟩ r)
theorem Pt.keepL {m : M γ} {ds : List D} {vs vs' : List V} {d : D} {v : V} (h : Pt G W R σ H Q m B F env) (own : OwnR env σ i a) (hv : H a = some (.lst vs)) (rv : RpL G F H ds vs) (r : Rp G F H d v) : Rp G F (upd H a (.lst vs')) d v :=
  Rp.mono (stp_own (B := B) (h.rel.ownSome (.inl own)).2.1 (h.rel.ownSome (.inl own)).2.2 (OwAt.notup (o := .lst ds) ⟨vs, hv, rv⟩) (OwAt.noTab (o := .lst ds) ⟨vs, hv, rv⟩) (OwAt.noCode (o := .lst ds) ⟨vs, hv, rv⟩)) d v r
end
section
variable {X : Cx} {C : Addr} {W : WX} {a b c : Expr} {es : List Expr} {ma mb mc : M D} {ms : M (List D)} {pos apos cpos p : Pos} {i : Nat}
theorem e_oix (ha : PE X a (tVar i)) (hb : PE X b (tD (gx X C) W mb)) (hs : PlainIx b := by exact fun _ _ => rfl) : PE X (.Subscript a b pos) (tD (gx X C) W (oixM i mb)) :=
  peImp (pe_ix ix_seq ha hb hs) fun σ H Q ⟨B, F, env, h⟩ => by
    obtain ⟨q, _, e1, _, e3, h⟩ := h.getO
    refine ⟨_, e1, (h.bind (Ra := RD (gx X C)) (as := []) (xs := []) rfl).imp fun y H2 ⟨F2, env2, d, p2, _, r2⟩ => ?_⟩
    obtain ⟨q', ds, vs, e1', hv, rv, _, p3⟩ := p2.olist
    rw [e1] at e1'
    cases e1'
    cases d with
    | int k =>
      cases z : atI ds k with
      | none => simp only [ixL, z] at p3; exact (Pt.no p3).elim
      | some d =>
        simp only [ixL, z] at p3
        obtain ⟨v, hv', rv'⟩ := rv.at z
        exact .inl ⟨q, vs, k, v, rfl, r2, SqL.of hv, hv', p3.pure rv'⟩
    | _ => exact (Pt.no p3).elim
theorem e_olen (hg : Gl X "len") (hm : X.mg "len" = none) (ha : PE X a (tVar i)) (na : starEach [a] X.env = (false, eval a X.env) :: starEach [] X.env := by rfl) (hpl : (backTo pos (starEach [] X.env)).any (·.1) = false := by rfl) :
    PE X (.Call (.Name "len" p) [a] [] pos) (tD (gx X C) W (olenM i)) :=
  peImp (pe_callB call_len hg hm boot_len (pa_cons ha pa_nil na) (by decide) (by decide) na hpl) fun σ H Q ⟨B, F, env, h⟩ => by
    obtain ⟨q, ds, vs, e1, hv, rv, _, p3⟩ := h.olist
    exact ⟨_, e1, _, ds.length, rfl, .inl ⟨vs, SqL.of hv, rv.length⟩, p3.pure (b := .int _) rfl⟩
theorem e_oapp (ha : PE X a (tVar i)) (hb : PE X b (tD (gx X C) W mb)) (hbase : attributeBase a "append" X.env (eval a X.env) = eval a X.env := by rfl)
    (hfew : ((backTo cpos (starEach [b] X.env)).all (fun x => !x.1) && (backToKw cpos (keywordEach [] X.env)).all (fun x => x.1.isSome)
      && decide ([b].length + ([] : List Keyword).length + (if ([] : List Keyword).isEmpty then 0 else 1) < 30)) = true := by rfl)
    (hline : (apos.endLine == cpos.line) = true := by rfl) (hs : starEach [b] X.env = (false, eval b X.env) :: starEach [] X.env := by rfl) (hpl : (backTo cpos (starEach [] X.env)).any (·.1) = false := by rfl) :
    PE X (.Call (.Attribute a "append" apos) [b] [] cpos) (tD (gx X C) W (oappM i mb)) :=
  peImp (pe_bm F.plainAttrs_list F.slot_list_append F.type_list_append mt_append ha (pa_cons hb pa_nil hs) hbase hfew hline hs hpl) fun σ H Q ⟨B, F, env, h⟩ => by
    obtain ⟨q, _, vs0, e1, hv0, _, _, h⟩ := Pt.olist h
    refine ⟨_, e1, .inl ⟨rfl, vs0, SqL.of hv0⟩, (h.bind (Ra := RD (gx X C)) (as := []) (xs := []) rfl).imp fun y H2 ⟨F2, env2, d, p2, _, r2⟩ => ?_⟩
    obtain ⟨q', ds, vs, e1', hv, rv, own, p3⟩ := p2.olist
    rw [e1] at e1'; cases e1'
    obtain ⟨sz, p3⟩ := p3.asked
    refine ⟨q, vs, y, rfl, rfl, hv, by rw [← rv.length]; exact sz, ?_⟩
    exact (p3.putL own hv rv (rv.snoc r2)).pure (b := .non) rfl
theorem e_opop (ha : PE X a (tVar i)) (hb : PE X b (tD (gx X C) W mb)) (hbase : attributeBase a "pop" X.env (eval a X.env) = eval a X.env := by rfl)
    (hfew : ((backTo cpos (starEach [b] X.env)).all (fun x => !x.1) && (backToKw cpos (keywordEach [] X.env)).all (fun x => x.1.isSome)
      && decide ([b].length + ([] : List Keyword).length + (if ([] : List Keyword).isEmpty then 0 else 1) < 30)) = true := by rfl)
    (hline : (apos.endLine == cpos.line) = true := by rfl) (hs : starEach [b] X.env = (false, eval b X.env) :: starEach [] X.env := by rfl) (hpl : (backTo cpos (starEach [] X.env)).any (·.1) = false := by rfl) :
    PE X (.Call (.Attribute a "pop" apos) [b] [] cpos) (tD (gx X C) W (opopM i mb)) :=
  peImp (pe_bm F.plainAttrs_list F.slot_list_pop F.type_list_pop mt_popAt ha (pa_cons hb pa_nil hs) hbase hfew hline hs hpl) fun σ H Q ⟨B, F, env, h⟩ => by
    obtain ⟨q, _, vs0, e1, hv0, _, _, h⟩ := Pt.olist h
    refine ⟨_, e1, .inl ⟨rfl, vs0, SqL.of hv0⟩, (h.bind (Ra := RD (gx X C)) (as := []) (xs := []) rfl).imp fun y H2 ⟨F2, env2, d, p2, _, r2⟩ => ?_⟩
    obtain ⟨q', ds, vs, e1', hv, rv, own, p3⟩ := p2.olist
    rw [e1] at e1'; cases e1'
    obtain ⟨lz, p3⟩ := p3.asked
    cases d with
    | int k =>
      cases z : ixN ds.length k with
      | none => simp only [z] at p3; exact (Pt.no p3).elim
      | some j =>
        cases z2 : ds[j]? with
        | none => simp only [z, z2] at p3; exact (Pt.no p3).elim
        | some d =>
          simp only [z, z2] at p3
          obtain ⟨v, hv', rv'⟩ := rv.get z2
          rw [rv.length] at z
          obtain ⟨s1, s2, s3, s4⟩ := ixN_seq z
          have big := line63
          have sz : vs.length < 2 ^ 63 := by rw [← rv.length]; omega
          refine ⟨q, vs, k, j, v, rfl, by rw [show y = V.int k from r2], hv, by omega, by omega, s1, hv', ?_⟩
          exact (p3.putL own hv rv (rv.eraseIdx j)).pure (p3.keepL own hv rv rv')
    | _ => exact (Pt.no p3).elim
theorem intsOf_eq : ∀ {ds : List D} {ns : List Int}, intsOf ds = some ns → ds = ns.map .int
  | [], _, h => by cases h; rfl
  | d :: ds, ns, h => by
    cases d with
    | int k =>
      cases e : intsOf ds with
      | none => simp [intsOf, e] at h
      | some l => simp [intsOf, e] at h; subst h; rw [List.map_cons, ← intsOf_eq e]
    | _ => cases h
end
end DL
set_option Elab.async false
set_option linter.all false
set_option maxRecDepth 100000
set_option maxHeartbeats 2000000
namespace DL
open PySem PySem.Spec PyProof.Rows L2
variable [Tbs]
/-- a target that stores into slots and own objects -/
def tTw (G : Gx) (k : D → M Unit) : TG := fun x σ H Q => ∃ (B F : Addr → Prop) (env : List Slot) (d : D) (Qd : List Slot → Prop), Rel G B F σ env H ∧ Rp G F H d x ∧ k d env (fun _ env' => Qd env') (fun _ _ => False) ∧
  ∀ env' σ' F' H', Qd env' → Stp B F H F' H' → Rel G B F' σ' env' H' → Q σ' H'
def tTws (G : Gx) (ks : List (D → M Unit)) : TGs := fun xs σ H Q => ∃ (B F : Addr → Prop) (env : List Slot) (ds : List D) (Qd : List Slot → Prop), Rel G B F σ env H ∧ RpL G F H ds xs ∧ setKs ks ds env (fun _ env' => Qd env') (fun _ _ => False) ∧
  ∀ env' σ' F' H', Qd env' → Stp B F H F' H' → Rel G B F' σ' env' H' → Q σ' H'
def RU : (Addr → Prop) → (Addr → Prop) → List Slot → L2.St → Hp → Unit → Unit → Prop := fun _ _ _ _ _ _ _ => True
section
variable {X : Cx} {C : Addr} {W : WX} {e b a : Expr} {es : List Expr} {md mb : M D} {pos p : Pos} {is : List Nat} {k : D → M Unit} {ks : List (D → M Unit)} {i : Nat}
theorem g_w {tg : Expr} (h : PG X tg (tTo (gx X C) is k)) : PG X tg (tTw (gx X C) k) := pgImp h fun v σ H Q ⟨B, F, env, d, Qd, rel, r, hm, hq⟩ => ⟨B, F, env, d, Qd, rel, r, hm, fun env' σ' q rl _ _ => hq env' σ' F H q Stp.refl rl⟩
theorem g_oset (ha : PE X a (tVar i)) (hb : PE X b (tD (gx X C) W mb))
    (hs : ∀ v, assign (.Subscript a b pos) X.env v = (do
      let ov ← holding [v] (eval a X.env)
      let iv ← holding [v, ov] (eval b X.env)
      standAt pos
      holding [v, ov, iv] (setItem ov iv v)
      release [v, ov, iv] []) := by intro _; rfl) : PG X (.Subscript a b pos) (tTw (gx X C) (osetM i mb)) :=
  pgImp (pg_sub ha hb set_list hs) fun x σ H Q ⟨B, F, env, d, Qd, rel, r, hm, hq⟩ => by
    have h : Pt (gx X C) W RU σ H (fun _ H' => Q σ H') (osetM i mb d) B F env := ⟨fun _ env' => Qd env', fun _ _ => False, rel, hm, fun _ env' _ F' H' q st rl _ => hq env' σ F' H' q st rl, fun _ _ _ _ _ _ z => z.elim⟩
    obtain ⟨q, _, e1, _, e3, h⟩ := Pt.getO h
    refine ⟨_, e1, (h.bind (Ra := RD (gx X C)) (as := [d]) (xs := [x]) ⟨x, [], rfl, r, rfl⟩).imp fun y H2 ⟨F2, env2, kd, p2, ⟨x', r', ex, rd, _⟩, r2⟩ => ?_⟩
    cases ex
    obtain ⟨q', ds, vs, e1', hv, rv, own, p3⟩ := p2.olist
    rw [e1] at e1'; cases e1'
    cases kd with
    | int k =>
      cases z : ixN ds.length k with
      | none => simp only [z] at p3; exact (Pt.no p3).elim
      | some j =>
        simp only [z] at p3
        refine ⟨q, vs, k, j, rfl, r2, hv, by rw [← rv.length]; exact z, ?_⟩
        have p3 : Pt (gx X C) W RU σ H2 (fun _ H' => Q σ H') (bnd (putO i (.lst (ds.set j d))) fun u => ret u) B F2 env2 := p3
        exact (p3.putL own hv rv (rv.set j rd)).pure (b := ()) trivial
    | _ => exact (Pt.no p3).elim
theorem gw_nil : PGs X [] (tTws (gx X C) []) := pgsImp pgs_nil fun v σ H Q ⟨B, F, env, ds, Qd, rel, r, hm, hq⟩ => by
  cases ds with
  | nil => exact ⟨r, hq env σ F H hm Stp.refl rel⟩
  | cons d ds => exact (show False from hm).elim
theorem gw_cons {tg : Expr} (h1 : PG X tg (tTw (gx X C) k)) (h2 : PGs X es (tTws (gx X C) ks)) (hs : (assignEach (tg :: es) X.env).map (·.2) = assign tg X.env :: (assignEach es X.env).map (·.2) := by rfl) : PGs X (tg :: es) (tTws (gx X C) (k :: ks)) :=
  pgsImp (pgs_cons h1 h2 hs) fun v σ H Q ⟨B, F, env, ds, Qd, rel, r, hm, hq⟩ => by
    cases ds with
    | nil => exact (show False from hm).elim
    | cons d ds =>
      obtain ⟨v0, rr, e0, rd, rs⟩ := r
      subst e0
      refine ⟨v0, rr, rfl, B, F, env, d, fun env' => setKs ks ds env' (fun _ env' => Qd env') (fun _ _ => False), rel, rd, hm, fun env' σ' F' H' q st rl => ?_⟩
      exact ⟨B, F', env', ds, Qd, rl, RpL.mono st ds rr rs, q, fun env2 σ2 F2 H2 q2 st2 rl2 => hq env2 σ2 F2 H2 q2 (st.trans st2) rl2⟩
theorem g_tupw {kk n : Nat} (hc : X.calm = true) (h : PGs X es (tTws (gx X C) ks)) (hl : ks.length = n) (hn : (assignEach es X.env).length = n := by rfl) (hst : (assignEach es X.env).findIdx? (·.1) = none := by rfl) :
    PG X (.Tuple es kk pos) (tTw (gx X C) (setTw ks)) := pgImp (pg_tup hc h hn hst) fun v σ H Q ⟨B, F, env, d, Qd, rel, r, hm, hq⟩ => by
  cases d with
  | tup ds =>
    obtain ⟨a, vs, e0, h1, h2⟩ := r
    obtain ⟨l, hm⟩ : ds.length = ks.length ∧ setKs ks ds env (fun _ env' => Qd env') (fun _ _ => False) := hm
    exact ⟨a, vs, e0, .inl h1.rd, by rw [← h2.length, l, hl], B, F, env, ds, Qd, rel, h2, hm, hq⟩
  | pr ds =>
    obtain ⟨a, vs, e0, h1, h2⟩ := r
    obtain ⟨l, hm⟩ : ds.length = ks.length ∧ setKs ks ds env (fun _ env' => Qd env') (fun _ _ => False) := hm
    exact ⟨a, vs, e0, .inl h1, by rw [← h2.length, l, hl], B, F, env, ds, Qd, rel, h2, hm, hq⟩
  | _ => exact (show False from hm).elim
theorem s_asgw {tg : Expr} (he : PE X e (tD (gx X C) W md)) (hg : PG X tg (tTw (gx X C) k)) (hs : swapsWithSole [tg] e pos.line X.env = pure false := by rfl) (hw : swappedStores [tg] e X.env = pure none := by rfl)
    (h1 : (assignEach [tg] X.env).map (·.2) = [assign tg X.env] := by rfl) : PS X (.Assign [tg] e pos) (tS (gx X C) W (asgM md k)) :=
  psImp (ps_asg he hg hs hw h1) fun Z σ H ⟨B, F, env, Qd, Ed, rel, hm, z1, z2, z3, z4, z5⟩ => by
    refine ⟨B, F, env, _, Ed, rel, hm, fun d env1 x F1 H1 hk st1 rel1 r => ?_, fun x env' cls d F' H' q st rl r => z5 x env' σ cls d F' H' q st rl r⟩
    exact ⟨B, F1, env1, d, fun env2 => Qd .nx env2, rel1, r, hk, fun env2 σ2 F2 H2 q2 st2 rl2 => z1 env2 σ2 F2 H2 q2 (st1.trans st2) rl2⟩
end
def RVs (G : Gx) (B F : Addr → Prop) (env : List Slot) (σ : L2.St) (H : Hp) : List Vl → List V → List Addr → Prop
  | [], vs, as => vs = [] ∧ as = []
  | .d d :: r, vs, as => ∃ v vr, vs = v :: vr ∧ Rp G F H d v ∧ RVs G B F env σ H r vr as
  | .o o :: r, vs, as => ∃ a vr ar, vs = .ref a :: vr ∧ as = a :: ar ∧ ¬ F a ∧ ¬ B a ∧ OwAt G F H a o ∧ (∀ i, ¬ OwnAt env σ i a) ∧ a ∉ ar ∧ RVs G B F env σ H r vr ar
  | .t a ns :: r, vs, as => ∃ vr ar, vs = .ref a :: vr ∧ as = ns.map (·.1) ++ ar ∧ Tree G B F H a ns ∧ (∀ b ∈ ns.map (·.1), ∀ i, ¬ OwnAt env σ i b) ∧ (∀ b ∈ ns.map (·.1), b ∉ ar) ∧ RVs G B F env σ H r vr ar
def RVl (G : Gx) : (Addr → Prop) → (Addr → Prop) → List Slot → L2.St → Hp → List Vl → List V → Prop := fun B F env σ H vl vs => ∃ as, RVs G B F env σ H vl vs as
abbrev tVs (G : Gx) (W : WX) (m : M (List Vl)) : TA := Lift G W (RVl G) m
section
variable {X : Cx} {C : Addr} {W : WX} {e b a : Expr} {es : List Expr} {md : M D} {mo : M O} {ms : M (List Vl)} {pos p : Pos}
theorem v_nil : PA X [] (tVs (gx X C) W (ret [])) := paImp pa_nil fun σ H Q ⟨B, F, env, h⟩ => h.pure ⟨[], rfl, rfl⟩
theorem v_d (ha : PE X e (tD (gx X C) W md)) (hr : PA X es (tVs (gx X C) W ms)) (hs : starEach (e :: es) X.env = (false, eval e X.env) :: starEach es X.env := by rfl) : PA X (e :: es) (tVs (gx X C) W (vD md ms)) :=
  paImp (pa_cons ha hr hs) fun σ H Q h => (lift1 (Ra := RD (gx X C)) h).imp fun x H1 ⟨B, F, env, d, p, r⟩ =>
    (p.bind (Ra := RVl (gx X C)) (as := [d]) (xs := [x]) ⟨x, [], rfl, r, rfl⟩).imp fun xs H2 ⟨F2, env2, as, p2, ⟨x', r', e, rd, _⟩, ⟨ad, rs⟩⟩ => by
      cases e
      exact Pt.pure (c := Vl.d d :: as) p2 ⟨ad, x, xs, rfl, rd, rs⟩
theorem v_o (ha : PE X e (tO (gx X C) W mo)) (hr : PA X es (tVs (gx X C) W ms)) (hs : starEach (e :: es) X.env = (false, eval e X.env) :: starEach es X.env := by rfl) : PA X (e :: es) (tVs (gx X C) W (vO mo ms)) :=
  paImp (pa_cons ha hr hs) fun σ H Q h => (lift1 (Ra := RO (gx X C)) h).imp fun x H1 ⟨B, F, env, o, ⟨Qd, Ed, rel, hm, hq, he⟩, a, ea, nF, nB, ho, hn⟩ => by
    subst ea
    have rel2 : Rel (gx X C) (fun b => B b ∨ b = a) F σ env H1 := rel.more ⟨ho.some, ho.noTab⟩ hn
    refine ⟨fun b => B b ∨ b = a, F, env, fun vs env' => Qd (.o o :: vs) env', Ed, rel2, hm, fun vs env' xs F' H' q st rl ⟨as, rs⟩ => ?_, fun x env' cls d F' H' q st rl r => he x env' cls d F' H' q (st.less fun _ z => .inl z) (rl.less fun _ z => .inl z) r⟩
    have st' : Stp B F H1 F' H' := st.less fun _ z => .inl z
    have keep : H' a = H1 a := by
      cases e : H1 a with
      | none => exact absurd e ho.some
      | some u => exact st.hk a u (.inl (.inr rfl)) e fun ps z => ho.noTab ps (z ▸ e)
    have notin : ∀ {vl : List Vl} {xs : List V} {as : List Addr}, RVs (gx X C) (fun b => B b ∨ b = a) F' env' σ H' vl xs as → RVs (gx X C) B F' env' σ H' vl xs as ∧ a ∉ as := by
      intro vl
      induction vl with
      | nil => rintro xs as ⟨e1, e2⟩; subst e1 e2; exact ⟨⟨rfl, rfl⟩, by simp⟩
      | cons v vl ih =>
        cases v with
        | d d => rintro xs as ⟨v, vr, e1, r1, r2⟩; obtain ⟨z1, z2⟩ := ih r2; exact ⟨⟨v, vr, e1, r1, z1⟩, z2⟩
        | o o' =>
          rintro xs as ⟨b, vr, ar, e1, e2, f1, f2, f3, f4, f5, r2⟩
          obtain ⟨z1, z2⟩ := ih r2
          refine ⟨⟨b, vr, ar, e1, e2, f1, fun z => f2 (.inl z), f3, f4, f5, z1⟩, ?_⟩
          subst e2
          exact fun z => (List.mem_cons.mp z).elim (fun w => f2 (.inr w.symm)) z2
        | t b ns =>
          rintro xs as ⟨vr, ar, e1, e2, f1, f2, f3, r2⟩
          obtain ⟨z1, z2⟩ := ih r2
          refine ⟨⟨vr, ar, e1, e2, ⟨f1.root, f1.nd, fun p hp => ⟨(f1.at_ p hp).1, fun z => (f1.at_ p hp).2.1 (.inl z), (f1.at_ p hp).2.2⟩⟩, f2, f3, z1⟩, ?_⟩
          subst e2
          exact fun z => (List.mem_append.mp z).elim (fun w => by obtain ⟨p, hp, e⟩ := List.mem_map.mp w; exact (f1.at_ p hp).2.1 (.inr e)) z2
    obtain ⟨rs', na⟩ := notin rs
    refine hq (.o o :: vs) env' (.ref a :: xs) F' H' q st' (rl.less fun _ z => .inl z) ⟨a :: as, a, xs, as, rfl, rfl, fun z => (st.fn a z).elim nF fun n => n (.inr rfl), nB, OwAt.mono st' keep ho, fun i w => (rl.ownSome w).2.2 (.inr rfl), na, rs'⟩
def storeV : L2.St → List Nat → List V → L2.St
  | σ, i :: is, v :: vs => storeV (σ.set i (some v)) is vs
  | σ, _, _ => σ
theorem setO_spec {i : Nat} {o : O} {env : List Slot} {Q : Unit → List Slot → Prop} {E : Exn → List Slot → Prop} (h : setO i o env Q E) : Q () (env.set i (.ow o)) := by
  unfold setO at h
  cases q : env[i]? with
  | none => rw [q] at h; exact h.elim
  | some s =>
    rw [q] at h
    cases s with
    | io _ _ => exact h.elim
    | _ => exact h
theorem RVs.move {G : Gx} {B F : Addr → Prop} {env env' : List Slot} {σ σ' : L2.St} {H : Hp} : ∀ {vl : List Vl} {vs : List V} {as : List Addr}, (∀ i a, a ∈ as → OwnAt env' σ' i a → ∃ j, OwnAt env σ j a) → RVs G B F env σ H vl vs as → RVs G B F env' σ' H vl vs as
  | [], _, _, _, h => h
  | .d d :: r, _, _, f, ⟨v, vr, e, r1, r2⟩ => ⟨v, vr, e, r1, RVs.move f r2⟩
  | .o o :: r, _, _, f, ⟨a, vr, ar, e1, e2, f1, f2, f3, f4, f5, r2⟩ => by
    subst e2
    exact ⟨a, vr, ar, e1, rfl, f1, f2, f3, fun i w => (f i a (by simp) w).elim fun j z => f4 j z, f5, RVs.move (fun i b hb => f i b (List.mem_cons_of_mem _ hb)) r2⟩
  | .t r ns :: _, _, _, f, ⟨vr, ar, e1, e2, f1, f2, f3, r2⟩ => by
    subst e2
    exact ⟨vr, ar, e1, rfl, f1, fun b hb i w => (f i b (List.mem_append_left _ hb) w).elim fun j z => f2 b hb j z, f3, RVs.move (fun i b hb => f i b (List.mem_append_right _ hb)) r2⟩
theorem Rel.setT {G : Gx} {B F : Addr → Prop} {σ : L2.St} {H : Hp} {env : List Slot} (rel : Rel G B F σ env H) {i : Nat} {r : Addr} {ns : List (Addr × R1)} (t : Tree G B F H r ns) (hn : ∀ b ∈ ns.map (·.1), ∀ j, ¬ OwnAt env σ j b) : Rel G B F (σ.set i (some (.ref r))) (env.set i (.tr r ns)) H := by
  refine ⟨by rw [List.length_set, List.length_set]; exact rel.len, fun j s e => ?_, fun j k b h1 h2 => ?_, rel.hB, rel.hF, rel.tb⟩
  · by_cases hj : j = i
    · subst hj
      have hlt : j < env.length := by
        have := (List.getElem?_eq_some_iff.mp e).1
        rw [List.length_set] at this; exact this
      rw [List.getElem?_set_self hlt] at e
      cases e
      rw [List.getElem?_set_self (by rw [← rel.len]; exact hlt)]
      exact ⟨rfl, t⟩
    · rw [List.getElem?_set_ne (Ne.symm hj)] at e ⊢
      exact rel.sl j s e
  · have inT : ∀ {x : Option (Option V)} {c : Addr}, (Slot.tr r ns).feet x c → c ∈ ns.map (·.1) := fun h => by
      rcases h with ⟨k, _⟩ | ⟨_, _, q, m⟩
      · cases k
      · cases q; exact m
    rcases ownAt_set rel.len h1 with ⟨e1, z⟩ | ⟨n1, h1⟩
    · rcases ownAt_set rel.len h2 with ⟨e2, z'⟩ | ⟨_, h2⟩
      · rw [e1, e2]
      · exact (hn b (inT z) k h2).elim
    · rcases ownAt_set rel.len h2 with ⟨_, z⟩ | ⟨_, h2⟩
      · exact (hn b (inT z) j h1).elim
      · exact rel.ap j k b h1 h2
theorem setVs_rel {G : Gx} {B F : Addr → Prop} {H : Hp} : ∀ {is : List Nat} {vl : List Vl} {vs : List V} {as : List Addr} {env : List Slot} {σ : L2.St} {Q : Unit → List Slot → Prop} {E : Exn → List Slot → Prop}, Rel G B F σ env H → RVs G B F env σ H vl vs as → setVs is vl env Q E →
    ∃ env', Q () env' ∧ Rel G B F (storeV σ is vs) env' H ∧ is.length = vs.length
  | [], [], _, _, env, σ, Q, E, rel, ⟨e, _⟩, h => by subst e; exact ⟨env, h, rel, rfl⟩
  | [], _ :: _, _, _, _, _, _, _, _, _, h => (show False from h).elim
  | _ :: _, [], _, _, _, _, _, _, _, _, h => (show False from h).elim
  | i :: is, .d d :: vl, _, as, env, σ, Q, E, rel, ⟨v, vr, e, r1, r2⟩, h => by
    subst e
    have h : setI i d env (fun _ env' => setVs is vl env' Q E) E := h
    have rel' := rel.setI (i := i) r1
    obtain ⟨env', q, rl, l⟩ := setVs_rel rel' (r2.move fun j a _ w => (ownAt_set rel.len w).elim (fun z => (feet_im z.2).elim) fun z => ⟨j, z.2⟩) (setI_spec h)
    exact ⟨env', q, rl, by rw [List.length_cons, List.length_cons, l]⟩
  | i :: is, .o o :: vl, _, _, env, σ, Q, E, rel, ⟨a, vr, ar, e1, e2, f1, f2, f3, f4, f5, r2⟩, h => by
    subst e1 e2
    have h : setO i o env (fun _ env' => setVs is vl env' Q E) E := h
    have rel' := rel.setO (i := i) f1 f2 f3 f4
    obtain ⟨env', q, rl, l⟩ := setVs_rel rel' (r2.move fun j b hb w => (ownAt_set rel.len w).elim (fun z => by cases feet_own z.2 rfl; exact (f5 hb).elim) fun z => ⟨j, z.2⟩) (setO_spec h)
    exact ⟨env', q, rl, by rw [List.length_cons, List.length_cons, l]⟩
  | i :: is, .t r ns :: vl, _, _, env, σ, Q, E, rel, ⟨vr, ar, e1, e2, f1, f2, f3, r2⟩, h => by
    subst e1 e2
    have h : (match env[i]? with
      | some (.io _ _) => False
      | some _ => setVs is vl (env.set i (.tr r ns)) Q E
      | none => False) := h
    have h2 : setVs is vl (env.set i (.tr r ns)) Q E := by
      cases q : env[i]? with
      | none => rw [q] at h; exact h.elim
      | some s =>
        rw [q] at h
        cases s with
        | io _ _ => exact h.elim
        | _ => exact h
    have rel' := rel.setT (i := i) f1 f2
    obtain ⟨env', q, rl, l⟩ := setVs_rel rel' (r2.move fun j b hb w => (ownAt_set rel.len w).elim (fun z => by
      rcases z.2 with ⟨k, _⟩ | ⟨_, _, e, m⟩
      · cases k
      · cases e; exact (f3 b m hb).elim) fun z => ⟨j, z.2⟩) h2
    exact ⟨env', q, rl, by rw [List.length_cons, List.length_cons, l]⟩
theorem par_reads {is : List Nat} {Z : Ends} {σ : L2.St} {H : Hp} (h : tS (gx X C) W (parM is ms) Z σ H) : tVs (gx X C) W ms σ H fun vs H1 => is.length = vs.length ∧ Z.nx (storeV σ is vs) H1 := by
  obtain ⟨B, F, env, h⟩ := h
  have h : Ps (gx X C) W (bnd ms fun vs => bnd (setVs is vs) fun _ => ret .nx) Z σ H B F env := h
  refine (h.bind (Ra := RVl (gx X C)) (as := []) (xs := [])).imp fun y H1 ⟨F1, env1, vl, ⟨Qd, Ed, rel, hm, h1, h2, h3, h4, h5⟩, as, rs⟩ => ?_
  obtain ⟨env', q, rl, l⟩ := setVs_rel rel rs (show setVs is vl env1 (fun _ env' => Qd .nx env') Ed from hm)
  exact ⟨l, h1 env' _ F1 H1 q Stp.refl rl⟩
theorem s_par2 {i j : Nat} {x y : Str} {px py pt : Pos} {kt k2 pt2} (hc : X.calm = true) (hN : X.N.Nodup) (hi : X.N[i]? = some x) (hj : X.N[j]? = some y) (hij : i ≠ j)
    (hx : X.env.scope.names.lookup x = some .local) (hy : X.env.scope.names.lookup y = some .local) (ha : PA X [a, b] (tVs (gx X C) W ms))
    (hw : swappedStores [.Tuple [.Name x px, .Name y py] kt pt] (.Tuple [a, b] k2 pt2) X.env = pure (some [x, y]) := by rfl)
    (hs : swapsWithSole [.Tuple [.Name x px, .Name y py] kt pt] (.Tuple [a, b] k2 pt2) pos.line X.env = pure false := by rfl) :
    PS X (.Assign [.Tuple [.Name x px, .Name y py] kt pt] (.Tuple [a, b] k2 pt2) pos) (tS (gx X C) W (parM [i, j] ms)) :=
  psImp (ps_par hc hN hi hj hij hx hy ha hw hs) fun Z σ H h => (par_reads h).imp fun vs H1 ⟨l, q⟩ => by
    match vs, l, q with
    | [v, w], _, q => exact ⟨v, w, rfl, q⟩
    | [], l, _ => cases l
    | [_], l, _ => cases l
    | _ :: _ :: _ :: _, l, _ => simp at l
end
end DL
set_option Elab.async false
set_option linter.all false
set_option maxRecDepth 100000
set_option maxHeartbeats 2000000
namespace DL
open PySem PySem.Spec PyProof.Rows L2
variable [Tbs]
section
variable {X : Cx} {C : Addr} {W : WX} {a b c e : Expr} {es : List Expr} {ma mb mc : M D} {pos apos cpos p : Pos} {i : Nat}
theorem rp_at {G : Gx} {F : Addr → Prop} {H : Hp} {ds : List D} {vs : List V} (r : RpL G F H ds vs) {m : Nat} {z : V} (h : vs[m]? = some z) : ∃ d, ds[m]? = some d ∧ Rp G F H d z := by
  have l : m < ds.length := by rw [r.length]; exact (List.getElem?_eq_some_iff.mp h).1
  obtain ⟨v, hv, rv⟩ := r.get (List.getElem?_eq_getElem l)
  rw [h] at hv
  cases hv
  exact ⟨_, List.getElem?_eq_getElem l, rv⟩
theorem e_tidx {o e : Expr} (ho : PE X o (tD (gx X C) W ma)) (ha : PE X e (tD (gx X C) W mb))
    (hbase : attributeBase o "index" X.env (eval o X.env) = eval o X.env := by rfl)
    (hfew : ((backTo cpos (starEach [e] X.env)).all (fun x => !x.1) && (backToKw cpos (keywordEach [] X.env)).all (fun x => x.1.isSome)
      && decide ([e].length + ([] : List Keyword).length + (if ([] : List Keyword).isEmpty then 0 else 1) < 30)) = true := by rfl)
    (hline : (apos.endLine == cpos.line) = true := by rfl) (hs : starEach [e] X.env = (false, eval e X.env) :: starEach [] X.env := by rfl) (hpl : (backTo cpos (starEach [] X.env)).any (·.1) = false := by rfl) :
    PE X (.Call (.Attribute o "index" apos) [e] [] cpos) (tD (gx X C) W (tidxM ma mb)) :=
  peImp (DLt.pf_index ho (pa_cons ha pa_nil hs) hbase hfew hline hs hpl) fun σ H Q h => (lift1 (Ra := RD (gx X C)) h).imp fun x H1 ⟨B, F, env, d, p, r⟩ => by
    cases d with
    | tup ds =>
      obtain ⟨q, vs, ex, h1, h2⟩ := id r
      obtain ⟨hF, ob, e1, dn⟩ := h1
      have p : Pt (gx X C) W (RD (gx X C)) σ H1 Q (bnd mb fun y => idxL ds y) B F env := p
      refine ⟨q, ob, vs, ex, e1, dn, (p.bind (Ra := RD (gx X C)) (as := [.tup ds]) (xs := [x]) ⟨x, [], rfl, r, rfl⟩).imp fun y H2 ⟨F2, env2, yd, p2, ⟨x', r', e', rd, _⟩, ry⟩ => ?_⟩
      cases e'
      obtain ⟨⟨fy, fds, hit⟩, p2⟩ := p2.asked
      obtain ⟨q2, vs2, ex2, h12, h22⟩ := id rd
      have eq2 : q2 = q := by rw [ex] at ex2; cases ex2; rfl
      subst eq2
      have lt : ds.findIdx (fun d => eqv d yd) < ds.length := List.findIdx_lt_length_of_exists (by simpa using hit)
      obtain ⟨w, hw, rw'⟩ := h22.get (List.getElem?_eq_getElem lt)
      have fl : ∀ d ∈ ds, flatD d = true := by simpa using fds
      refine ⟨y, ds.findIdx (fun d => eqv d yd), w, vs2, rfl, h12.rd, flat_of ry fy, flats_of h22 fds, hw, ?_, fun m z hm hz => ?_, p2.pure (b := .int _) rfl⟩
      · rw [eqv_flat rw' ry (fl _ (List.getElem_mem lt)) fy]
        exact List.findIdx_getElem (w := lt)
      · obtain ⟨d, hd, rd'⟩ := rp_at h22 hz
        obtain ⟨hm', hd'⟩ := List.getElem?_eq_some_iff.mp hd
        rw [eqv_flat rd' ry (fl _ (hd' ▸ List.getElem_mem hm')) fy]
        have := List.not_of_lt_findIdx hm
        rw [hd'] at this
        simpa using this
    | _ => exact (Pt.unknown p).elim
end
end DL
set_option Elab.async false
set_option linter.all false
set_option maxRecDepth 100000
set_option maxHeartbeats 2000000
namespace DL
open PySem PySem.Spec PyProof.Rows L2
variable [Tbs]
def CT.u (C : Addr) : CT → Value
  | .int => .type "int" | .bool => .type "bool" | .tuple => .type "tuple" | .str => .type "str" | .list => .type "list" | .bytes => .type "bytes" | .hall => .ref C
def CT.v (C : Addr) : CT → V
  | .int => .ty "int" | .bool => .ty "bool" | .tuple => .ty "tuple" | .str => .ty "str" | .list => .ty "list" | .bytes => .ty "bytes" | .hall => .ref C
def TK.u (C : Addr) : TK → Value
  | .non => .type "NoneType" | .bl => .type "bool" | .int => .type "int" | .str => .type "str" | .byt => .type "bytes" | .tup => .type "tuple" | .lst => .type "list" | .dict => .type "dict" | .hall => .ref C
theorem CT.clsV {C : Addr} (c : CT) : ClsV (c.v C) (c.u C) := by
  cases c
  case hall => exact .own C
  all_goals exact .ty _
section
variable {X : Cx} {C : Addr} {W : WX} {a b c e : Expr} {es : List Expr} {ma mb mc md : M D} {pos apos cpos p : Pos} {i : Nat}
variable {k n : Nat} {f : Addr} {fd : FuncData} {ps ks : List Str} {df : DF} {x m : Str} {kws : List Keyword} {ms mk : M (List D)} {o : Expr}
theorem FsR.put {G : Gx} {F : Addr → Prop} {H : Hp} {f : Str} {d : D} {v : V} (rv : Rp G F H d v) : ∀ {fs : List (Str × D)} {l : List (Str × V)}, FsR G F H fs l → FsR G F H (putFD f d fs) (putF f v l)
  | [], _, h => by cases (show _ = _ from h); exact ⟨v, [], rfl, rv, rfl⟩
  | (g, x) :: r, _, ⟨w, l', e, h1, h2⟩ => by
    subst e
    show FsR G F H (if g = f then (g, d) :: r else (g, x) :: putFD f d r) (if g = f then (g, v) :: l' else (g, w) :: putF f v l')
    by_cases z : g = f
    · rw [if_pos z, if_pos z]; exact ⟨v, l', rfl, rv, h2⟩
    · rw [if_neg z, if_neg z]; exact ⟨w, _, rfl, h1, FsR.put rv h2⟩
end
end DL
set_option Elab.async false
set_option linter.all false
set_option maxRecDepth 100000
set_option maxHeartbeats 2000000
namespace DL
open PySem PySem.Spec PyProof.Rows L2
variable [Tbs]
/-- how written and named values come to the parameters behind self -/
structure KwM (K : PySem.W.Frag) (fd : FuncData) (ps : List Str) (n : Nat) (ks : List Str) (gD : List D → List D → List D) (g : List Value → List Value → List Value) (gV gT : List V → List V → List V) : Prop where
  b : KBn K fd ps (n + 1) ks g gV
  hd : ∀ v vs zs, gV (v :: vs) zs = v :: gT vs zs
  len : ∀ vs zs, vs.length = n → zs.length = ks.length → (gT vs zs).length + 1 = ps.length
  rel : ∀ {G : Gx} {F : Addr → Prop} {H : Hp} {ds es : List D} {vs zs : List V}, RpL G F H ds vs → RpL G F H es zs → RpL G F H (gD ds es) (gT vs zs)
section
variable {X : Cx} {C C' : Addr} {W : WX} {a b c e : Expr} {es : List Expr} {ms mz : M (List D)} {pos apos cpos p : Pos} {i : Nat}
variable {k n j : Nat} {f : Addr} {fd : FuncData} {ps ks : List Str} {df : DF} {x : Str} {kws : List Keyword}
variable {gD : List D → List D → List D} {g : List Value → List Value → List Value} {gV gT : List V → List V → List V}
theorem Pt.mk {B F : Addr → Prop} {env : List Slot} {σ : L2.St} {H : Hp} {Q : V → Hp → Prop} {ds es : List D} {vs zs : List V} (kd : KwM X.K fd ps j ks gD g gV gT) (hn : n = ps.length) (h : Pt (gx X C) W (RO (gx X C)) σ H Q (mkM C' j ks.length gD df ds es) B F env) (r1 : RpL (gx X C) F H ds vs) (r2 : RpL (gx X C) F H es zs) :
    vs.length = j ∧ zs.length = ks.length ∧ ∀ x dx, H x = none → H dx = none → dx ≠ x → spD (gx X C) n df (gV (.ref x :: vs) zs) (upd (upd H dx (.own x)) x (.ins C' dx [])) (fun v H2 => v = .non ∧ Q (.ref x) H2) (WE W σ) := by
  obtain ⟨Qd, Ed, rel, ⟨l1, l2, hm⟩, hq, he⟩ := h
  have a1 := r1.length.symm.trans l1
  have a2 := r2.length.symm.trans l2
  refine ⟨a1, a2, fun x dx nx nd ne => ?_⟩
  rw [kd.hd]
  have nx2 : upd H dx (.own x) x = none := by rw [upd_ne (Ne.symm ne)]; exact nx
  have kp : ∀ b o, H b = some o → upd (upd H dx (.own x)) x (.ins C' dx []) b = some o := fun b o q => by
    rw [upd_ne (ne_of_none q nx), upd_ne (ne_of_none q nd)]; exact q
  have st0 : Stp B F H F (upd (upd H dx (.own x)) x (.ins C' dx [])) := stp_keep kp
  have rr := RpL.mono st0 _ _ (kd.rel (G := gx X C) r1 r2)
  have lt := kd.len vs zs a1 a2
  have lr := rr.length
  -- the callee: it owns x alone
  have nB : ∀ b, Nt H b → b ≠ x := fun b h z => h.1 (z ▸ nx)
  have own0 : ∀ i s, (Slot.io x (.ins C' []) :: (gD ds es).map .im)[i]? = some s → s.has = true → i = 0 := fun i s e w => by
    cases i with
    | zero => rfl
    | succ i => rw [(im_slot (B' := B) rr (by simpa using e)).2] at w; cases w
  have relC : Rel (gx X C) (fun b => Nt H b) F ((V.ref x :: gT vs zs).map some) (Slot.io x (.ins C' []) :: (gD ds es).map .im) (upd (upd H dx (.own x)) x (.ins C' dx [])) := by
    refine ⟨by simp [lr], fun i s e => ?_, fun i l b w1 w2 => by
      obtain ⟨s, e, w⟩ := own_feet.mp w1
      obtain ⟨s', e', w'⟩ := own_feet.mp w2
      exact (own0 i s e (feet_has w)).trans (own0 l s' e' (feet_has w')).symm, fun b h => h.keep kp, fun b h => (rel.hF b h).keep kp, st0.tb rel.tb⟩
    · cases i with
      | zero =>
        cases (Option.some.inj e)
        exact ⟨rfl, fun z => (rel.hF x z).1 nx, fun z => z.1 nx, dx, [], upd_same, rfl⟩
      | succ i => exact (im_slot rr (by simpa using e)).1
  refine ⟨by rw [List.length_cons, lt, hn], fun b => Nt H b, F, _, _, _, relC, hm x, fun r ss' v F' H' q st rl rs => ?_, fun ex ss' cls d F' H' q st rl rx => ?_⟩
  · have hoo : ∀ i a, OwnAt env σ i a → Nt H a := fun i a o => ⟨(rel.ownSome o).1, rel.ownTab o⟩
    have st' : Stp (fun b => Nt H b) F H F' H' := ((stp_keep kp).trans st)
    obtain ⟨st2, rel2⟩ := rel.called st' rel.hB hoo rl.hF
    cases r with
    | o _ => exact (show False from q).elim
    | t _ _ => exact (show False from q).elim
    | d d => cases d with
      | non =>
        refine ⟨rs, ?_⟩
        cases z : ss'[0]? with
        | none => simp only [z] at q
        | some s0 =>
          simp only [z] at q
          cases s0 with
          | io b o =>
            obtain ⟨e1, e2, e3, e4⟩ := rl.sl 0 _ z
            cases (show some (some (V.ref x)) = some (some (V.ref b)) from e1)
            exact hq o env (.ref x) F' H' q st2 rel2 ⟨x, rfl, e2, fun w => (rel.hB x w).1 nx, e4, fun i w => (rel.ownSome w).1 nx⟩
          | _ => exact q.elim
      | _ => exact (show False from q).elim
  · have hoo : ∀ i a, OwnAt env σ i a → Nt H a := fun i a o => ⟨(rel.ownSome o).1, rel.ownTab o⟩
    have st' : Stp (fun b => Nt H b) F H F' H' := ((stp_keep kp).trans st)
    obtain ⟨st2, rel2⟩ := rel.called st' rel.hB hoo rl.hF
    exact he ex env cls d F' H' q st2 rel2 rx
end
end DL
set_option Elab.async false
set_option linter.all false
set_option maxRecDepth 100000
set_option maxHeartbeats 2000000
namespace DL
open PySem PySem.Spec PyProof.Rows L2
variable [Tbs]
def rShow (K : PySem.W.Frag) : List V → Hp → VK → Prop := fun xs H Q => ∃ p d, xs = [.ref p] ∧ Dp K H (.ref p) d ∧ shOk d = true ∧ Q (.str d.shown) H
section
variable {X : Cx} {C : Addr} {W : WX} {a : Expr} {ma : M D} {pos p : Pos}
theorem call_show (hG : X.A.guards = some []) (hu : X.A.units + 100 < cLine) : CallR X (.builtin "repr") (rShow X.K) := by
  rintro pins s σ H xs us Q J r ⟨a, d, ex, dp, ok, q⟩
  subst ex
  obtain ⟨u, eu, ru⟩ := vals1 r
  subst eu
  obtain ⟨as, rd⟩ := Dp.reads J d (.ref a) u dp ru
  cases ru
  simp only [shOk, Bool.and_eq_true, Bool.not_eq_true', decide_eq_true_eq] at ok
  obtain ⟨⟨⟨⟨o1, o2⟩, o3⟩, o4⟩, o5⟩ := ok
  exact repr_of_reads' rd o1 (PyData.noDict_hsm o2) hG (by omega) (fun b o e => e) (fun h' u tk kp => ⟨.str d.shown, H, J.kept kp, ⟨u, rfl⟩, q⟩) (PyData.shown_fits_bulk (B := 13) (by decide) (by decide) o4 o5)
end
end DL
set_option Elab.async false
set_option linter.all false
set_option maxRecDepth 100000
set_option maxHeartbeats 2000000
namespace DL
open PySem PySem.Spec PyProof.Rows L2
theorem caller_room {k : Nat} (h : k ≤ 200) : Room k callerA := by
  have q : Room 200 callerA := ⟨rfl, by decide, by decide⟩
  exact q.mono h
/-- an empty table of code objects -/
abbrev tab0 : Obj := { cls := .none, data := .fields #[] }
/-- the tables at a heap's start: (code object, table, the lambdas' name) -/
structure TabsIn (K : PySem.W.Frag) (cs : List (Addr × Addr × Str)) (h : Heap) : Prop where
  tab : ∀ p ∈ cs, h.get? p.2.1 = some tab0
  out : ∀ p ∈ cs, K.lookup p.2.1 = none
  code : ∀ p ∈ cs, PySem.W.CodeHd h p.1 p.2.1
/-- a law's def from a heap that holds the script -/
theorem law_from {P : Program} {w : World} {K : PySem.W.Frag} {mg mb : Str → Option Value} {k : Nat} {fa a : Addr} {fd : FuncData} {x : Str} {sp : Sp} {t : Shared} {us : List Value} {cs : List (Addr × Addr × Str)} (kin : K.In t.heap) (gl : t.heap.Ns mainGlobals mg) (bl : t.heap.Ns builtinsNs mb) (bb : ∀ x : Str, x ≠ "__name__" → mb x = bootBuiltins x) (nl : t.heap.NoLimit)
    (ng : t.gens = #[]) (tabs : TabsIn K cs t.heap) (bmod : ∃ (bm : Addr) (ob : Obj), mg "__builtins__" = some (.ref bm) ∧ bm ≠ builtinsNs ∧ t.heap.get? bm = some ob ∧ ob.cls = .type "module" ∧ ob.dict = some builtinsNs ∧ ob.data = .plain)
    (scr : t.heap.get? a = some { cls := .type "list", data := .seq us.toArray }) (rk : Room k callerA) (gu : callerA.guards = some [])
    (F : ∀ base : Heap, K.In base → base.Ns mainGlobals mg → (∀ p ∈ cs, LamX.TabB base mg p.1 p.2.1) → FnG P w K mg base k fa fd [x] sp) (bt : ∀ (s : Shared) (u : Value), BindsTo s fd ⟨[u], []⟩ [(x, u)])
    (H : Hp) (ok : HOk P w H t.heap) (alone : ∀ b, H b ≠ none → (b = a ∧ K.lookup a = none ∧ ∃ o xs, H b = some (.frz o (.lst xs))) ∨ ((∃ p ∈ cs, b = p.2.1) ∧ H b = some (.tbl #[]))) (wish : sp [.ref a] H (fun v _ => v = .bl true) fun _ _ _ => False) :
    codeAny (model P w) callerA (.call (.ref fa) ⟨[.ref a], []⟩) (fun r t' => r = .ok (.ret (.bool true)) ∧ OldK t.heap t'.heap ∧ t'.os = t.os ∧ AllBare t'.gens) t := by
  have free : ∀ {b : Addr} {o : Obj}, t.heap.get? b = some o → (∀ vs n, o.data ≠ .seq vs n) → o.data ≠ .fields #[] → H b = none := fun {b o} e n1 n2 => by
    cases z : H b with
    | none => rfl
    | some u =>
      rcases alone b (by rw [z]; exact fun y => nomatch y) with ⟨eb, _⟩ | ⟨⟨p, hp, eb⟩, _⟩
      · subst eb; rw [scr] at e; cases e; exact (n1 _ _ rfl).elim
      · subst eb; rw [tabs.tab p hp] at e; cases e; exact (n2 rfl).elim
  have dic : ∀ {b : Addr} {m : Str → Option Value}, t.heap.Ns b m → (hidT t.heap H).Ns b m := fun {b m} ⟨o, es, ep, e, d, r⟩ => ⟨o, es, ep, hidT_get e (free e (fun vs n z => by rw [d] at z; cases z) fun z => by rw [d] at z; cases z), d, r⟩
  have kb : K.In (hidT t.heap H) := fun b o e => hidT_get (kin b o e) (by
    cases z : H b with
    | none => rfl
    | some u =>
      rcases alone b (by rw [z]; exact fun y => nomatch y) with ⟨e1, e2, _⟩ | ⟨⟨p, hp, eb⟩, _⟩
      · subst e1; rw [e2] at e; cases e
      · subst eb; rw [tabs.out p hp] at e; cases e)
  have md : Mod K mg (hidT t.heap H) := ⟨kb, dic gl, ⟨mb, dic bl, bb⟩, let ⟨mc, h1, h2⟩ := nl; ⟨mc, dic h1, h2⟩⟩
  have env0 : Env0 P w K mg (hidT t.heap H) callerA [] t H := ⟨rfl, md, fun b o e => of_hidT e, Nat.le_of_eq (hidT_size _ _), trivial, fun b z => (List.not_mem_nil z).elim, ok, .of_eq ng⟩
  have tb : ∀ p ∈ cs, LamX.TabB (hidT t.heap H) mg p.1 p.2.1 := fun p hp => by
    have e0 := tabs.tab p hp
    obtain ⟨o, us, file, tf, flags, tg, inF, text, tt, c1, c2, c3, c4, c5⟩ := tabs.code p hp
    obtain ⟨bm, ob, b1, b2, b3, b4, b5, b6⟩ := bmod
    obtain ⟨om, em, pm, m1, m2, _⟩ := id gl
    refine ⟨⟨o, us, file, tf, flags, tg, inF, text, tt, hidT_get c1 (free c1 (fun vs n z => ?_) fun z => ?_), c2, c3, c4, c5⟩, ⟨bm, ob, b1, b2, fun q => ?_, fun q => ?_, hidT_get b3 (free b3 (fun vs n z => ?_) fun z => ?_), b4, b5, b6⟩, fun q => ?_⟩
    · rw [c3] at z; cases z
    · rw [c3] at z; cases z; simp at c4
    · rw [q, m1] at b3; cases b3; rw [m2] at b6; cases b6
    · rw [q, e0] at b3; cases b3; cases b6
    · rw [b6] at z; cases z
    · rw [b6] at z; cases z
    · rw [q, e0] at m1; cases m1; cases m2
  refine codeAny_mono ((F _ kb (dic gl) tb).run callerA [] t H ⟨[.ref a], []⟩ [.ref a] [.ref a] _ _ rk gu env0 (bt t (.ref a)) (.cons rfl .nil) wish) fun r t' q => ?_
  match r, q with
  | .error e, q =>
    obtain ⟨_, _, _, _, _, _, ⟨_, _, _, no⟩, _⟩ := q
    exact (show False from no).elim
  | .ok (.ret u), ⟨v, H', os, bare, un, ok', rv, ev⟩ =>
    have ev : v = .bl true := ev
    subst ev
    cases (show u = Value.bool true from rv)
    have grown : ∀ p ∈ cs, H p.2.1 = some (.tbl #[]) → ∃ more : Array Value, t'.heap.get? p.2.1 = some { cls := .none, data := .fields more } := fun p hp z => by
      obtain ⟨more, z2⟩ := un.tbls p.2.1 #[] z
      exact ⟨_, ok' p.2.1 _ z2⟩
    have stays : ∀ b o, t.heap.get? b = some o → t'.heap.get? b = some o ∨ ∃ p ∈ cs, b = p.2.1 ∧ H b = some (.tbl #[]) := fun b o e => by
      cases z : H b with
      | none => exact .inl (un.keep b o e z (fun y => (List.not_mem_nil y).elim) (by simp))
      | some u =>
        rcases alone b (by rw [z]; exact fun y => nomatch y) with ⟨_, _, ob, xs, z2⟩ | ⟨⟨p, hp, eb⟩, z2⟩
        · have e1 := (ok b _ z2).1
          rw [e] at e1
          cases e1
          exact .inl (ok' b _ (un.frzs b _ _ z2)).1
        · exact .inr ⟨p, hp, eb, z ▸ z2⟩
    refine ⟨rfl, ⟨fun b o e => ?_, fun b o e => ?_⟩, os, bare⟩
    · rcases stays b o e with h | ⟨p, hp, eb, z⟩
      · exact .inl h
      · subst eb
        obtain ⟨more, hm⟩ := grown p hp z
        have e0 := tabs.tab p hp
        rw [e0] at e; cases e
        exact .inr (.inl ⟨((tabs.code p hp).tab e0).isCodeTable, rfl, #[], more, rfl, by rw [Array.empty_append]; exact hm⟩)
    · rcases stays b o e with h | ⟨p, hp, eb, z⟩
      · exact ⟨o, h⟩
      · subst eb
        obtain ⟨more, hm⟩ := grown p hp z
        exact ⟨_, hm⟩
  | .ok .next, q => exact (show False from q).elim
  | .ok .brk, q => exact (show False from q).elim
  | .ok .cont, q => exact (show False from q).elim
/-- the tables by the defs' names -/
def TabsBy (q : Program) (K : PySem.W.Frag) (cs : List (Addr × Addr × Str)) (xs : List Str) : Prop := ∀ p ∈ cs, K.lookup p.2.1 = none ∧ ∃ x ∈ xs, ((recsOf q).any fun e => e.name == x) = true ∧ PySem.W.tabIn K x = some (p.1, p.2.1)
end DL
set_option Elab.async false
set_option linter.all false
set_option maxRecDepth 100000
set_option maxHeartbeats 2000000
namespace DL
open PySem PySem.Spec PyProof.Rows L2
variable [Tbs]
theorem room100 {k : Nat} {A : Around} (hr : Room k A) : A.units + 100 < cLine := by have := hr.un; omega
structure Df (K : PySem.W.Frag) (mg : Str → Option Value) (x qual : Str) (st : Stmt) (ps : List Str) (f : Addr) (fd : FuncData) : Prop where
  fn : Fun K x qual st f fd
  mg : mg x = some (.ref f)
  kp : PySem.W.keepIn K (.ref f) = true
  bi : Binds K fd ps []
theorem pick_length {α : Type} {us ws : List α} : ∀ {idx : List Nat}, (∀ i ∈ idx, i < us.length + ws.length) → (pick idx us ws).length = idx.length
  | [], _ => rfl
  | i :: idx, h => by
    have hi : i < (us ++ ws).length := by rw [List.length_append]; exact h i (by simp)
    unfold pick
    rw [List.filterMap_cons, List.getElem?_eq_getElem hi]
    show (_ :: _ : List α).length = _
    rw [List.length_cons, List.length_cons]
    exact congrArg (· + 1) (pick_length fun j hj => h j (List.mem_cons_of_mem _ hj))
theorem pick_vals {vs zs : List V} {us ws : List Value} (r : Vals vs us) (q : Vals zs ws) : ∀ idx : List Nat, Vals (pick idx vs zs) (pick idx us ws)
  | [] => .nil
  | i :: idx => by
    have rq := r.append q
    unfold pick
    rw [List.filterMap_cons, List.filterMap_cons]
    cases e : (vs ++ zs)[i]? with
    | none =>
      have : (us ++ ws)[i]? = none := by
        rw [List.getElem?_eq_none_iff] at e ⊢
        rw [← rq.length]; exact e
      rw [this]
      exact pick_vals r q idx
    | some v =>
      obtain ⟨u, hu, ru⟩ := rq.get e
      rw [hu]
      exact .cons ru (pick_vals r q idx)
theorem pick_rel {G : Gx} {F : Addr → Prop} {H : Hp} {ds es : List D} {vs zs : List V} (r : RpL G F H ds vs) (q : RpL G F H es zs) : ∀ idx : List Nat, RpL G F H (pick idx ds es) (pick idx vs zs)
  | [] => rfl
  | i :: idx => by
    have rq := r.append q
    unfold pick
    rw [List.filterMap_cons, List.filterMap_cons]
    cases e : (ds ++ es)[i]? with
    | none =>
      have : (vs ++ zs)[i]? = none := by
        rw [List.getElem?_eq_none_iff] at e ⊢
        rw [← rq.length]; exact e
      rw [this]
      exact pick_rel r q idx
    | some d =>
      obtain ⟨v, hv, rv⟩ := rq.get e
      rw [hv]
      exact ⟨v, _, rfl, rv, pick_rel r q idx⟩
/-- named arguments, all given -/
theorem kwD_of {K : PySem.W.Frag} {x qual : Str} {st : Stmt} {f : Addr} {fd : FuncData} {ps ks : List Str} {n : Nat} (idx : List Nat) (F : Fun K x qual st f fd) (hi : ∀ i ∈ idx, i < n + ks.length) (hl : idx.length = ps.length)
    (h : ∀ (kV doc pm : Value) (an : Option Addr) (cdv ct : Value) (us ws : List Value), us.length = n → ws.length = ks.length → bindArgs (PySem.W.fnOf x qual (defArgs st) (defBody st) (defScope st) .none kV doc pm an cdv ct) ⟨us, ks.zip ws⟩ = pure (ps.zip (pick idx us ws))) :
    KwD K fd ps n ks (pick idx) (pick idx) (pick idx) := by
  obtain ⟨oc, od, kV, doc, pm, an, cdv, ct, osl, rfl, lk, hcd⟩ := F.ex
  refine ⟨⟨fun s us ws X l1 l2 => .of_eq (h kV doc pm an cdv ct us ws l1 l2), fun r q => pick_vals r q idx⟩, fun vs zs l1 l2 => ?_, fun r q => pick_rel r q idx⟩
  rw [pick_length fun i hm => by rw [l1, l2]; exact hi i hm, hl]
section
variable {X : Cx} {C : Addr} {W : WX} {a b c e : Expr} {es : List Expr} {ma mb mc md : M D} {ms : M (List D)} {pos apos cpos p p2 : Pos} {i : Nat}
theorem e_neg (ha : PE X a (tD (gx X C) W ma)) : PE X (.UnaryOp .USub a pos) (tD (gx X C) W (bnd ma negD)) := peImp (pe_un un_neg ha) fun σ H Q h => (lift1 (Ra := RD (gx X C)) h).imp fun x H1 ⟨B, F, env, d, p, r⟩ => by
  cases d with
  | int i => exact ⟨i, r, Pt.pure p (b := .int _) rfl⟩
  | _ => exact (Pt.no p).elim
theorem rg_rp {G : Gx} {F : Addr → Prop} {H : Hp} (lo hi : Int) : RpL G F H (rangeL lo hi) (rgV lo hi) := by
  have e : rangeL lo hi = ((List.range (hi - lo).toNat).map fun i => lo + ((i : Nat) : Int)).map D.int := by unfold rangeL; rw [List.map_map]; rfl
  rw [e]
  refine RpL.ints.mpr ?_
  unfold rgV
  rw [List.map_map]; rfl
theorem rgOk_small {j : Int} (h : smallN j) : RgOk 0 j := by
  obtain ⟨h1, h2⟩ := h
  exact ⟨by decide, by decide, h1, by omega, by omega⟩
theorem o_lRg (calm : X.calm = true) (hg : Gl X "list") (hm : X.mg "list" = none) (hg2 : Gl X "range") (hm2 : X.mg "range" = none) (ha : PE X a (tD (gx X C) W ma)) (na : starEach [a] X.env = (false, eval a X.env) :: starEach [] X.env := by rfl)
    (na2 : starEach [.Call (.Name "range" p2) [a] [] apos] X.env = (false, eval (.Call (.Name "range" p2) [a] [] apos) X.env) :: starEach [] X.env := by rfl) : PE X (.Call (.Name "list" p) [.Call (.Name "range" p2) [a] [] apos] [] pos) (tO (gx X C) W (lRgM ma)) :=
  peImp (pe_listRg calm hg hm (prg_1 hg2 hm2 ha na) na2) fun σ H Q h => (lift1 (Ra := RD (gx X C)) h).imp fun x H1 ⟨B, F, env, d, p, r⟩ => by
    cases d with
    | int j => exact ⟨j, r, rgOk_small (Pt.asked p).1, fun q hq => (Pt.asked p).2.olst (rg_rp 0 j) hq⟩
    | _ => exact (Pt.no p).elim
/-- a global constant, a built-in type -/
theorem e_gc {x : Str} {d : D} {v : V} (hg : Gl X x) (h : ∃ u, X.mg x = some u ∧ RelV v u) (r : ∀ F H, Rp (gx X C) F H d v) (hd : (x == ("__debug__" : Str)) = false := by decide) : PE X (.Name x pos) (tD (gx X C) W (ret d)) := by
  obtain ⟨u, h1, h2⟩ := h
  exact e_glob (x := x) (pe_glob hg h1 h2 hd) r
/-- name = [.. for ..], never written: a datum -/
theorem s_setLcD {tg iter elt : Expr} {ifs : List Expr} {is : List Nat} {scope : Scope} {own : List (Str × Nat)} {mt : M Bool} {y : Str} {py spos : Pos} {k : D → M Unit} (hc : X.calm = true) (hN : X.N.Nodup) (hy : X.N[i]? = some y) (hyl : X.env.scope.names.lookup y = some .local) (hsw : swapsWith (.ListComp elt [⟨tg, iter, ifs, 0⟩] scope pos) (some (.Name y py)) spos.line X.env = pure true)
    (hi : PI X tg iter (tI (gx X C) W ms)) (ok : BlkOk X.N X.env.scope scope own) (hsub : ∀ i ∈ is, i ∈ own.map (·.2)) (nox : ∀ d env Q E, k d env Q E → k d env Q (fun _ _ => False))
    (hg : ∀ (s : Shared) (H : Hp) (c : Addr) (cl : List (Str × Addr)) (fp : List Addr), PG (X.blk s H scope (compEnvC scope cl c X.env) fp) tg (tTo (gx X C) is k)) (ht : ∀ (s : Shared) (H : Hp) (c : Addr) (cl : List (Str × Addr)) (fp : List Addr), PTs (X.blk s H scope (compEnvC scope cl c X.env) fp) ifs (tBl (gx X C) W0 mt))
    (he : ∀ (s : Shared) (H : Hp) (c : Addr) (cl : List (Str × Addr)) (fp : List Addr), PE (X.blk s H scope (compEnvC scope cl c X.env) fp) elt (tD (gx X C) W0 md)) (hs : ∀ x, foldedSetIterable iter X.env x = pure x := by intro _; rfl) :
    PS X (.Assign [.Name y py] (.ListComp elt [⟨tg, iter, ifs, 0⟩] scope pos) spos) (tS (gx X C) W (thenN (bnd (frzM (compM ms k (own.map (·.2)) mt md)) (setI i)))) :=
  psImp (ps_setLc hc hN hy hyl hsw hi ok hg ht he hs) fun Z σ H ⟨B, F, env, h⟩ => by
    refine comp_reads hsub nox ?_
    have h : Ps (gx X C) W (bnd (compM ms k (own.map (·.2)) mt md) fun o => bnd ((fun o => match o with | .lst ds => ret (D.lst ds) | _ => fail : O → M D) o) fun d => bnd (setI i d) fun _ => ret .nx) Z σ H B F env := h
    refine (h.bind (Ra := RO (gx X C)) (as := []) (xs := [])).imp fun y H1 ⟨F1, env1, o, ⟨Qd, Ed, rel, hm, h1, h2, h3, h4, h5⟩, a, ea, hF, hB, ho, hn⟩ => ?_
    subst ea
    cases o with
    | lst ds =>
      have hm : setI i (.lst ds) env1 (fun _ env' => Qd .nx env') Ed := hm
      obtain ⟨vs, e1, r1⟩ := ho
      have st : Stp B F1 H1 (fun b => F1 b ∨ b = a) H1 := ⟨fun _ z => .inl z, fun b z => z.imp id fun w => by rw [w]; exact hB, fun b u z e _ => e, fun _ _ z => z, fun t => t.ext (fun _ z => .inl z) fun _ _ z => z, fun _ _ _ z => z⟩
      have rel' : Rel (gx X C) B (fun b => F1 b ∨ b = a) σ env1 H1 := rel.step st (fun i b z => ⟨rfl, fun w => w.elim (rel.ownSome z).2.1 fun w => by subst w; exact hn i z⟩) fun b z => z.elim (rel.hF b) fun w => by rw [w]; exact Nt.of e1
      exact h1 _ _ _ H1 (setI_spec hm) st (rel'.setI (d := .lst ds) ⟨a, vs, rfl, .inr rfl, e1, RpL.mono st ds vs r1⟩)
    | _ => exact (show False from hm).elim
end
end DL
set_option Elab.async false
set_option linter.all false
set_option maxRecDepth 100000
set_option maxHeartbeats 2000000
namespace DL
open PySem PySem.Spec PyProof.Rows L2
variable [Tbs]
section
variable {G : Gx} {W : WX} {B F : Addr → Prop} {σ : L2.St} {H : Hp} {env : List Slot} {α β γ δ : Type}
variable {R : (Addr → Prop) → (Addr → Prop) → List Slot → L2.St → Hp → γ → δ → Prop} {Q : δ → Hp → Prop} {i : Nat} {a : Addr} {o o' : O}
theorem KvR.setAt : ∀ {kvs : List (Key × D)} {l : List (Key × V)} {k : Key} {d : D} {v : V}, KvR G F H kvs l → Rp G F H d v → KvR G F H (kvs.map fun kv => if kv.1 = k then (kv.1, d) else kv) (l.map fun kv => if kv.1 = k then (kv.1, v) else kv)
  | [], _, _, _, _, h, _ => by cases (show _ = _ from h); exact rfl
  | (k', d') :: r, _, k, d, v, ⟨v', l', e, h1, h2⟩, q => by
    subst e
    rw [List.map_cons, List.map_cons]
    by_cases z : k' = k
    · rw [if_pos z, if_pos z]; exact ⟨v, _, rfl, q, KvR.setAt h2 q⟩
    · rw [if_neg z, if_neg z]; exact ⟨v', _, rfl, h1, KvR.setAt h2 q⟩
theorem KvR.put {kvs : List (Key × D)} {l : List (Key × V)} {k : Key} {d : D} {v : V} (h : KvR G F H kvs l) (q : Rp G F H d v) : KvR G F H (putD kvs k d) (putK l k v) := by
  unfold putD putK
  rw [h.any k]
  split
  · exact h.setAt q
  · exact h.append ⟨v, [], rfl, q, rfl⟩
end
end DL
set_option Elab.async false
set_option linter.all false
set_option maxRecDepth 100000
set_option maxHeartbeats 2000000
namespace DL
open PySem PySem.Spec PyProof.Rows L2
variable [Tbs]
end DL
namespace DL
open PySem PySem.Spec PyProof.Rows L2
variable [Tbs]
end DL
set_option Elab.async false
set_option linter.all false
set_option maxRecDepth 100000
set_option maxHeartbeats 2000000
namespace DL
open PySem PySem.Spec PyProof.Rows L2
variable [Tbs]
section
variable {X : Cx} {C : Addr} {W : WX} {a b c e : Expr} {es : List Expr} {ma mb mc : M D} {ms : M (List D)} {pos apos cpos p : Pos} {i : Nat}
theorem e_otupV (hg : Gl X "tuple") (hm : X.mg "tuple" = none) (ha : PE X a (tVar i)) (na : starEach [a] X.env = (false, eval a X.env) :: starEach [] X.env := by rfl) (hpl : (backTo pos (starEach [] X.env)).any (·.1) = false := by rfl) :
    PE X (.Call (.Name "tuple" p) [a] [] pos) (tD (gx X C) W (otupV i)) :=
  peImp (pe_callTy DLt.call_tupF hg hm boot_tuple (pa_cons ha pa_nil na) (by decide) (by decide) na hpl) fun σ H Q ⟨B, F, env, Qd, Ed, rel, hm, hq, he⟩ => by
    unfold otupV at hm
    cases q : env[i]? with
    | none => rw [q] at hm; exact hm.elim
    | some s =>
      rw [q] at hm
      have mk : ∀ {ds : List D} {vs : List V}, Qd (.tup ds) env → RpL (gx X C) F H ds vs → DLt.NewT vs H Q := fun {ds vs} h r =>
        Pt.tup (G := gx X C) (W := W) (σ := σ) (B := B) (F := F) (env := env) ⟨Qd, Ed, rel, h, hq, he⟩ r
      cases s with
      | no => exact hm.elim
      | tr _ _ => exact hm.elim
      | ow o => cases o with
        | lst ds =>
          obtain ⟨a, e1, _, _, vs, hv, rv⟩ := rel.sl i _ q
          exact ⟨_, e1, a, vs, rfl, .inl ⟨SqL.of hv, mk hm rv⟩⟩
        | _ => exact hm.elim
      | io a o => cases o with
        | lst ds =>
          obtain ⟨e1, _, _, vs, hv, rv⟩ := rel.sl i _ q
          exact ⟨_, e1, a, vs, rfl, .inl ⟨SqL.of hv, mk hm rv⟩⟩
        | _ => exact hm.elim
      | im d => cases d with
        | lst ds =>
          obtain ⟨v, e1, a, vs, ev, _, hv, rv⟩ := rel.sl i _ q
          subst ev
          exact ⟨_, e1, a, vs, rfl, .inl ⟨SqL.of hv, mk hm rv⟩⟩
        | tup ds =>
          obtain ⟨v, e1, a, vs, ev, hv, rv⟩ := rel.sl i _ q
          subst ev
          exact ⟨_, e1, a, vs, rfl, .inr ⟨.inl hv.rd, hq (.tup ds) env _ F H hm Stp.refl rel ⟨a, vs, rfl, hv, rv⟩⟩⟩
        | _ => exact hm.elim
end
end DL
set_option Elab.async false
set_option linter.all false
set_option maxRecDepth 100000
set_option maxHeartbeats 2000000
namespace DL
open PySem PySem.Spec PyProof.Rows L2
variable [Tbs]
end DL
set_option Elab.async false
set_option linter.all false
set_option maxRecDepth 100000
set_option maxHeartbeats 2000000
namespace DL
open PySem PySem.Spec PyProof.Rows L2
variable [Tbs]
end DL
namespace DL
open PySem PySem.Spec PyProof.Rows L2
variable [Tbs]
end DL
namespace DL
open PySem PySem.Spec PyProof.Rows L2
end DL
set_option Elab.async false
set_option linter.all false
set_option maxRecDepth 100000
set_option maxHeartbeats 2000000
namespace DL
open PySem PySem.Spec PyProof.Rows L2
end DL
set_option Elab.async false
set_option linter.all false
set_option maxRecDepth 100000
set_option maxHeartbeats 2000000
namespace DL
open PySem PySem.Spec PyProof.Rows L2
variable [Tbs]
end DL
set_option Elab.async false
set_option linter.all false
set_option maxRecDepth 100000
set_option maxHeartbeats 2000000
namespace DL
open PySem PySem.Spec PyProof.Rows L2
end DL
set_option Elab.async false
set_option linter.all false
set_option maxRecDepth 100000
set_option maxHeartbeats 2000000
namespace DL
open PySem PySem.Spec PyProof.Rows L2
variable [Tbs]
end DL
set_option Elab.async false
set_option linter.all false
set_option maxRecDepth 100000
set_option maxHeartbeats 2000000
namespace DL
open PySem PySem.Spec PyProof.Rows L2
variable [Tbs]
end DL
set_option Elab.async false
set_option linter.all false
set_option maxRecDepth 100000
set_option maxHeartbeats 2000000
namespace DL
open PySem PySem.Spec PyProof.Rows L2
variable [Tbs]
abbrev WN : WX := fun _ _ _ _ => False
end DL
set_option Elab.async false
set_option linter.all false
set_option maxRecDepth 100000
set_option maxHeartbeats 2000000
namespace DL
open PySem PySem.Spec PyProof.Rows L2
variable [Tbs]
theorem takes0N {X : Cx} : DLz.Takes X WN := fun _ _ x => by
  obtain ⟨_, _, _, _, _, _, _, _, _, ⟨_, _, _, no⟩, _⟩ := x
  exact no.elim
theorem RoomX.deeper {k : Nat} {A : Around} (r : RoomX (k + 1) A) (env : Env) : RoomX k (A.deeper env) :=
  ⟨by have := r.dp; show A.depth + 1 + 3 * k + 5 < _; omega, by have := r.un; show A.units + 3 + 16 * k + 200 < _; omega⟩
end DL
set_option Elab.async false
set_option linter.all false
set_option maxRecDepth 100000
set_option maxHeartbeats 2000000
namespace DL
open PySem PySem.Spec PyProof.Rows L2
end DL
set_option Elab.async false
set_option linter.all false
set_option maxRecDepth 100000
set_option maxHeartbeats 2000000
namespace DL
open PySem PySem.Spec PyProof.Rows L2
end DL
set_option Elab.async false
set_option linter.all false
set_option maxRecDepth 100000
set_option maxHeartbeats 2000000
namespace DL
open PySem PySem.Spec PyProof.Rows L2
end DL
set_option Elab.async false
set_option linter.all false
set_option maxRecDepth 100000
set_option maxHeartbeats 2000000
namespace DL
open PySem PySem.Spec PyProof.Rows L2
end DL
set_option Elab.async false
set_option linter.all false
set_option maxRecDepth 100000
set_option maxHeartbeats 2000000
namespace DL
open PySem PySem.Spec PyProof.Rows L2
end DL
set_option Elab.async false
set_option linter.all false
set_option maxRecDepth 100000
set_option maxHeartbeats 2000000
namespace DL
open PySem PySem.Spec PyProof.Rows L2
variable [Tbs]
section
variable {X : Cx} {pins : List (Addr × Obj)} {σ : L2.St} {H : Hp} {s : Shared} {G : Gx} {F : Addr → Prop}
mutual
theorem Rp.readsD (I : Inv X pins σ H s) : ∀ (d : D) (v : V) (u : Value), Rp G F H d v → okD d = true → RelV v u → ∃ as, Reads s.heap u (pyE d) as ∧ sysModules ∉ as
  | .non, _, _, h, _, r => by cases (show _ = _ from h); cases r; exact ⟨_, Reads.none, List.not_mem_nil⟩
  | .bl b, _, _, h, _, r => by cases (show _ = _ from h); cases r; exact ⟨_, Reads.bool b, List.not_mem_nil⟩
  | .int i, _, _, h, _, r => by cases (show _ = _ from h); obtain ⟨t, rfl⟩ := r; exact ⟨_, Reads.int i t, List.not_mem_nil⟩
  | .str x, _, _, h, _, r => by cases (show _ = _ from h); obtain ⟨t, rfl⟩ := r; exact ⟨_, Reads.str x t, List.not_mem_nil⟩
  | .byt _, _, _, _, e, _ => by cases e
  | .hall _ _, _, _, _, e, _ => by cases e
  | .scr _, _, _, _, e, _ => by cases e
  | .exn _ _ _, _, _, _, e, _ => by cases e
  | .dct _ _, _, _, _, e, _ => by cases e
  | .fn _, _, _, _, e, _ => by cases e
  | .dcn _ _, _, _, _, e, _ => by cases e
  | .pr _, _, _, _, e, _ => by cases e
  | .lst _, _, _, _, e, _ => by cases e
  | .emp, _, _, ⟨a, e, hF, h1⟩, _, r => by
    subst e
    cases r
    obtain ⟨_, sm, vs, kv, o, es, n, g1, g2, g3, g4, g5, g6⟩ := dk_of I.hok h1
    cases kv
    have e0 : es.toList = [] := by
      generalize es.toList = l at g5
      cases g5
      rfl
    have rd : Reads s.heap (.ref a) (.dict []) (a :: [] ++ []) := Reads.dict g1 g2.1 g3 (by rw [e0]; exact .nil) (by rw [e0]; exact .nil)
    refine ⟨_, rd, ?_⟩
    intro m
    have z := List.mem_singleton.mp m
    subst z
    exact absurd sm (by decide)
  | .tup ds, _, _, ⟨a, vs, e, h1, h2⟩, q, r => by
    subst e
    cases r
    have hs : SqT X.K H a vs := .inl h1.rd
    obtain ⟨its, rv, ⟨o, ho, hc, n, hd⟩, _⟩ := I.tuple hs
    obtain ⟨as, hr, hn⟩ := RpL.readsD I ds vs its h2 (by simpa [okD] using q) rv
    exact ⟨_, Reads.tuple ho hc hd hr, hn⟩
theorem RpL.readsD (I : Inv X pins σ H s) : ∀ (ds : List D) (vs : List V) (us : List Value), RpL G F H ds vs → okDL ds = true → Vals vs us → ∃ as, ReadsAll s.heap us (pyEL ds) as ∧ sysModules ∉ as
  | [], _, _, h, _, r => by cases (show _ = _ from h); cases r; exact ⟨_, ReadsAll.nil, List.not_mem_nil⟩
  | d :: ds, _, _, ⟨v, vs, e, h1, h2⟩, q, r => by
    subst e
    have q' : okD d = true ∧ okDL ds = true := by simpa [okDL] using q
    cases r with
    | cons r1 r2 =>
      obtain ⟨as, q1, n1⟩ := Rp.readsD I d v _ h1 q'.1 r1
      obtain ⟨bs, q2, n2⟩ := RpL.readsD I ds vs _ h2 q'.2 r2
      exact ⟨_, ReadsAll.cons q1 q2, fun m => (List.mem_append.mp m).elim n1 n2⟩
end
end
mutual
theorem nd_py : ∀ d : D, pyOk d = true → (py d).hasDict = false
  | .non, _ => rfl
  | .bl _, _ => rfl
  | .int _, _ => rfl
  | .str _, _ => rfl
  | .byt _, e => by cases e
  | .hall _ _, e => by cases e
  | .scr _, e => by cases e
  | .emp, e => by cases e
  | .exn _ _ _, e => by cases e
  | .dct _ _, e => by cases e
  | .fn _, e => by cases e
  | .dcn _ _, e => by cases e
  | .pr _, e => by cases e
  | .tup ds, h => ndL_py ds (by simpa [pyOk] using h)
  | .lst ds, h => ndL_py ds (by simpa [pyOk] using h)
theorem ndL_py : ∀ ds : List D, pyOkL ds = true → PyData.hasDictAll (pyL ds) = false
  | [], _ => rfl
  | d :: ds, h => by
    have q' : pyOk d = true ∧ pyOkL ds = true := by simpa [pyOkL] using h
    show ((py d).hasDict || PyData.hasDictAll (pyL ds)) = false
    rw [nd_py d q'.1, ndL_py ds q'.2]; rfl
end
section
variable {X : Cx} {C : Addr} {pins : List (Addr × Obj)} {σ : L2.St} {H : Hp} {s : Shared} {F : Addr → Prop}
theorem el_reads (I : Inv X pins σ H s) {d : D} {v : V} {u : Value} (r : Rp (gx X C) F H d v) (h : pyOk d = true ∨ okD d = true) (ru : RelV v u) : ∃ as, Reads s.heap u (pyE d) as ∧ ((pyE d).hasDict = true → sysModules ∉ as) := by
  rcases h with h | h
  · obtain ⟨as, q⟩ := Dp.reads I (py d) v u (Rp.dp r h) ru
    rw [pyE_eq d h]
    exact ⟨as, q, fun z => by rw [nd_py d h] at z; cases z⟩
  · obtain ⟨as, q, n⟩ := Rp.readsD I d v u r h ru
    exact ⟨as, q, fun _ => n⟩
theorem els_repr (I : Inv X pins σ H s) : ∀ (ds : List D) (vs : List V) (us : List Value), RpL (gx X C) F H ds vs → (∀ d ∈ ds, pyOk d = true ∨ okD d = true) → Vals vs us → PyData.showableAll (pyEL ds) = true → (∀ t ∈ PyData.shownAll (pyEL ds), t.length ≤ sizeLine) →
    ∃ as bs, ReadsAll s.heap us (pyEL ds) as ∧ ReadAtMost s.heap (PyData.depthAll (pyEL ds)) bs ∧ ReprAllK X.prog X.w bs s.heap (PyData.depthAll (pyEL ds)) us (PyData.shownAll (pyEL ds))
  | [], _, _, h, _, r, _, _ => by cases (show _ = _ from h); cases r; exact ⟨[], [], .nil, (fun _ h => nomatch h), by simp only [pyEL, PyData.shownAll]; exact .nil⟩
  | d :: ds, _, _, ⟨v, vs, e, h1, h2⟩, ok, r, sh, z => by
    subst e
    cases r with
    | cons r1 r2 =>
      have sh' : (pyE d).showable = true ∧ PyData.showableAll (pyEL ds) = true := by simpa [pyEL, PyData.showableAll] using sh
      obtain ⟨a1, q1, n1⟩ := el_reads (C := C) I h1 (ok d List.mem_cons_self) r1
      obtain ⟨b1, hb1, k1⟩ := ReprK.of_reads (prog := X.prog) (w := X.w) q1 sh'.1 n1 (z _ (by simp only [pyEL, PyData.shownAll]; exact List.mem_cons_self ..))
      obtain ⟨a2, b2, q2, hb2, k2⟩ := els_repr I ds vs _ h2 (fun e he => ok e (List.mem_cons_of_mem _ he)) r2 sh'.2 (fun t ht => z t (by simp only [pyEL, PyData.shownAll]; exact List.mem_cons_of_mem _ ht))
      refine ⟨_, b1 ++ b2, .cons q1 q2, fun b hm => ?_, ?_⟩
      · simp only [pyEL, PyData.depthAll]
        exact (List.mem_append.mp hm).elim (fun hm => let ⟨d', as', r', hd'⟩ := hb1 b hm; ⟨d', as', r', Nat.le_trans hd' (Nat.le_max_left _ _)⟩) fun hm => let ⟨d', as', r', hd'⟩ := hb2 b hm; ⟨d', as', r', Nat.le_trans hd' (Nat.le_max_right _ _)⟩
      · simp only [pyEL, PyData.depthAll, PyData.shownAll]
        exact .cons ((k1.more (as' := b1 ++ b2) fun b hb => List.mem_append_left _ hb).level_le (Nat.le_max_left _ _)) (k2.more_le (fun b hb => List.mem_append_right _ hb) (Nat.le_max_right _ _))
end
def rReprE (G : Gx) : List V → Hp → VK → Prop := fun xs H Q => (∃ x, xs = [.str x] ∧ (reprText x).length ≤ sizeLine ∧ Q (.str (reprText x)) H) ∨ (∃ i, xs = [.int i] ∧ i.natAbs.log2 < 1920 ∧ Q (.str (toString i : String)) H) ∨
  (xs = [.non] ∧ Q (.str "None") H) ∨ (∃ b, xs = [.bl b] ∧ Q (.str (if b then "True" else "False")) H) ∨ (∃ p d, xs = [.ref p] ∧ Dp G.K H (.ref p) d ∧ shOk d = true ∧ Q (.str d.shown) H) ∨
  (∃ p d, xs = [.ref p] ∧ Dp G.K H (.ref p) d ∧ d.hasDict = false ∧ shOkE d = true ∧ Q (.str d.shown) H) ∨
  ∃ F p d, xs = [.ref p] ∧ Rp G F H d (.ref p) ∧ (okD d = true ∨ okT d = true) ∧ shOkE (pyE d) = true ∧ Q (.str (pyE d).shown) H
section
variable {X : Cx} {C : Addr} {W : WX}
theorem call_reprE (hG : X.A.guards = some []) (hu : X.A.units + 100 < cLine) : CallR X (.builtin "repr") (rReprE (gx X C)) := by
  rintro pins s σ H xs us Q J r (⟨x, ex, hz, q⟩ | ⟨i, ex, hz, q⟩ | ⟨ex, q⟩ | ⟨b, ex, q⟩ | ⟨p, d, ex, dp, ok, q⟩ | ⟨p, d, ex, dp, nd, ok, q⟩ | ⟨F, p, d, ex, rp, o0, ok, q⟩)
  · subst ex
    obtain ⟨u, rfl, t, rfl⟩ := vals1 r
    exact PySem.P.repr_of_str ⟨.str _, H, J.tok _, ⟨_, rfl⟩, q⟩ hz
  · subst ex
    obtain ⟨u, rfl, t, rfl⟩ := vals1 r
    exact PySem.P.repr_of_int hz ⟨.str _, H, J.tok _, ⟨_, rfl⟩, q⟩
  · subst ex
    obtain ⟨u, rfl, e⟩ := vals1 r
    cases e
    exact PySem.P.repr_of_none ⟨.str _, H, J.tok _, ⟨_, rfl⟩, q⟩
  · subst ex
    obtain ⟨u, rfl, e⟩ := vals1 r
    cases e
    refine PySem.P.repr_of_bool ⟨.str _, H, J.tok _, ⟨s.toks, ?_⟩, q⟩
    cases b <;> rfl
  · exact call_show hG hu _ _ _ _ _ _ _ J r ⟨p, d, ex, dp, ok, q⟩
  · subst ex
    obtain ⟨u, eu, ru⟩ := vals1 r
    subst eu
    obtain ⟨as, rd⟩ := Dp.reads J d (.ref p) u dp ru
    cases ru
    simp only [shOkE, Bool.and_eq_true, decide_eq_true_eq] at ok
    obtain ⟨⟨⟨o1, o3⟩, o4⟩, o5⟩ := ok
    exact repr_of_reads' rd o1 (PyData.noDict_hsm nd) hG (by omega) (fun b o e => e) (fun h' u tk kp => ⟨.str _, H, J.kept kp, ⟨u, rfl⟩, q⟩) (shown_fitsE o4 o5)
  · subst ex
    obtain ⟨u, eu, ru⟩ := vals1 r
    subst eu
    simp only [shOkE, Bool.and_eq_true, decide_eq_true_eq] at ok
    obtain ⟨⟨⟨o1, o3⟩, o4⟩, o5⟩ := ok
    have fit := shown_fitsE o4 o5
    rcases o0 with o0 | o0
    · obtain ⟨as, rd, sm⟩ := Rp.readsD J d (.ref p) u rp o0 ru
      cases ru
      exact repr_of_reads' rd o1 (fun _ => sm) hG (by omega) (fun b o e => e) (fun h' u tk kp => ⟨.str _, H, J.kept kp, ⟨u, rfl⟩, q⟩) fit
    · cases d with
      | tup ds =>
        cases ru
        obtain ⟨a, vs, e, h1, h2⟩ := rp
        cases e
        have hs : SqT X.K H p vs := .inl h1.rd
        obtain ⟨its, rv, ⟨o, ho, hc, n, hd⟩, _⟩ := J.tuple hs
        have fit' : (tupleText (PyData.shownAll (pyEL ds))).length ≤ sizeLine := by simpa only [pyE, PyData.shown] using fit
        obtain ⟨as, bs, rs, am, rk⟩ := els_repr (C := C) J ds vs its h2 (fun e he => by
          have := List.all_eq_true.mp (show (ds.all fun e => pyOk e || okD e) = true from o0) e he
          simpa using this) rv (by simpa [pyE, PyData.showable] using o1) (fun t ht => Nat.le_trans (tupleText_mem_le ht) fit')
        have dp : PyData.depthAll (pyEL ds) + 1 ≤ 64 := by simpa only [pyE, PyData.depth] using o3
        have out : p ∉ bs := not_mem_of_deeper (.tuple ho hc hd rs) (by simp only [PyData.depth]; omega) am
        refine call_repr_slot (by show X.A.units + 1 < _; omega) ⟨o, ho, hc⟩ PySem.F.slot_tuple_repr (call_tuple_reprK ho hc hd out rk hG (fun b _ => Clear.nil b) (by show X.A.units + 1 + _ < _; omega) (fun b o e => e) (fun h' u tk kp => ⟨_, _, rfl, .str _, H, J.kept kp, ⟨u, rfl⟩, ?_⟩) fit')
        exact q
      | _ => cases o0
theorem fits_reprE {G : Gx} : FitsC G W (rReprE G) (un1 reprE) := fits1 fun {σ H Q B F env x d} p r => by
  have big : ∀ ds, (d = .tup ds ∨ d = .lst ds ∨ d = .emp) → Pt G W (RD G) σ H Q (ask (compE d = true ∧ ((pyOk d = true ∧ shOk (py d) = true) ∨ (okD d = true ∧ shOkE (pyE d) = true) ∨ (pyOk d = true ∧ (py d).hasDict = false ∧ shOkE (py d) = true) ∨ (okT d = true ∧ shOkE (pyE d) = true))) (ret (.str (pyE d).shown))) B F env → rReprE G [x] H Q := by
    intro ds e p
    obtain ⟨⟨c1, c2⟩, p⟩ := Pt.asked p
    have ex : ∃ a, x = .ref a := by
      rcases e with e | e | e
      · subst e; obtain ⟨a, vs, e, _⟩ := r; exact ⟨a, e⟩
      · subst e; obtain ⟨a, vs, e, _⟩ := r; exact ⟨a, e⟩
      · subst e; obtain ⟨a, e, _⟩ := r; exact ⟨a, e⟩
    obtain ⟨a, ex⟩ := ex
    subst ex
    rcases c2 with ⟨c2, c3⟩ | ⟨c2, c3⟩ | ⟨c2, c4, c3⟩ | ⟨c2, c3⟩
    · exact .inr (.inr (.inr (.inr (.inl ⟨a, _, rfl, Rp.dp r c2, c3, by rw [← pyE_eq d c2]; exact p.pure (b := .str _) rfl⟩))))
    · exact .inr (.inr (.inr (.inr (.inr (.inr ⟨F, a, d, rfl, r, .inl c2, c3, p.pure (b := .str _) rfl⟩)))))
    · exact .inr (.inr (.inr (.inr (.inr (.inl ⟨a, _, rfl, Rp.dp r c2, c4, c3, by rw [← pyE_eq d c2]; exact p.pure (b := .str _) rfl⟩)))))
    · exact .inr (.inr (.inr (.inr (.inr (.inr ⟨F, a, d, rfl, r, .inr c2, c3, p.pure (b := .str _) rfl⟩)))))
  cases d with
  | non => cases (show _ = _ from r); exact .inr (.inr (.inl ⟨rfl, Pt.pure p (b := .str _) rfl⟩))
  | bl b => cases (show _ = _ from r); exact .inr (.inr (.inr (.inl ⟨b, rfl, Pt.pure p (b := .str _) rfl⟩)))
  | int i => cases (show _ = _ from r); obtain ⟨hz, p⟩ := Pt.asked p; exact .inr (.inl ⟨i, rfl, hz, p.pure (b := .str _) rfl⟩)
  | str y => cases (show _ = _ from r); obtain ⟨hz, p⟩ := Pt.asked p; exact .inl ⟨y, rfl, hz, p.pure (b := .str _) rfl⟩
  | tup ds => exact big ds (.inl rfl) p
  | lst ds => exact big ds (.inr (.inl rfl)) p
  | emp => exact big [] (.inr (.inr rfl)) p
  | _ => obtain ⟨⟨c1, _⟩, _⟩ := Pt.asked p; cases c1
theorem e_emp {pos : Pos} : PE X (.Dict [] [] pos) (tD (gx X C) W (ret .emp)) := peImp pe_dnewK fun σ H Q ⟨B, F, env, h⟩ p hp => Pt.emp h hp
end
end DL
set_option Elab.async false
set_option linter.all false
set_option maxRecDepth 100000
set_option maxHeartbeats 2000000
namespace DL
open PySem PySem.Spec PyProof.Rows L2
variable [Tbs]
end DL
set_option Elab.async false
set_option linter.all false
set_option maxRecDepth 100000
set_option maxHeartbeats 2000000
namespace DL
open PySem PySem.Spec PyProof.Rows L2
variable [Tbs]
end DL
set_option Elab.async false
set_option linter.all false
set_option maxRecDepth 100000
set_option maxHeartbeats 2000000
namespace DL
open PySem PySem.Spec PyProof.Rows L2
variable [Tbs]
section
variable {G : Gx} {W : WX} {B F : Addr → Prop} {σ : L2.St} {H : Hp} {env : List Slot} {α β : Type}
theorem Ps.bindP {ma : M α} {k : α → M Fl} {Ra : (Addr → Prop) → (Addr → Prop) → List Slot → L2.St → Hp → α → β → Prop} {Z : Ends} (h : Ps G W (bnd ma k) Z σ H B F env) :
    Pt G W Ra σ H (fun y H' => ∃ F' env' b, Ps G W (k b) Z σ H' B F' env' ∧ Ra B F' env' σ H' b y) ma B F env := by
  obtain ⟨Qd, Ed, rel, hm, h1, h2, h3, h4, h5⟩ := h
  exact ⟨fun a env' => k a env' Qd Ed, Ed, rel, hm, fun a env' b F' H' hk st rl hr => ⟨F', env', a, ⟨Qd, Ed, rl, hk, fun e s f h' q s2 => h1 e s f h' q (st.trans s2), fun e s f h' q s2 => h2 e s f h' q (st.trans s2), fun e s f h' q s2 => h3 e s f h' q (st.trans s2),
    fun r e s f h' v q s2 => h4 r e s f h' v q (st.trans s2), fun x e s cls d f h' q s2 => h5 x e s cls d f h' q (st.trans s2)⟩, hr⟩, fun x env' cls d F' H' q st rl r => h5 x env' σ cls d F' H' q st rl r⟩
end
end DL
set_option Elab.async false
set_option linter.all false
set_option maxRecDepth 100000
set_option maxHeartbeats 2000000
namespace DLt
open PySem PySem.Spec PyProof.Rows L2
theorem fm_congr {α β : Type} {f g : α → Option β} : ∀ {l : List α}, (∀ a ∈ l, f a = g a) → l.filterMap f = l.filterMap g
  | [], _ => rfl
  | a :: l, h => by rw [List.filterMap_cons, List.filterMap_cons, h a List.mem_cons_self, fm_congr fun b hb => h b (List.mem_cons_of_mem _ hb)]
theorem turn_places (n : Nat) : Builtin.Slice.slicePlaces ((n : Int) - 1) (-1) (-1) = n := by
  rcases Nat.eq_zero_or_pos n with h | h
  · subst h; rfl
  unfold Builtin.Slice.slicePlaces
  rw [if_neg (by decide), if_pos (by omega)]
  have : (- -1 : Int) = 1 := by decide
  rw [this, Int.ediv_one]
  omega
theorem turn_pick (xs : Array Value) : ((List.range xs.size).filterMap fun (k : Nat) => xs[((xs.size : Int) - 1 + (k : Int) * (-1)).toNat]?) = xs.toList.reverse := by
  have e := PySem.W.krv_all xs.toList.reverse.toArray
  rw [show xs.toList.reverse.toArray.size = xs.size by simp] at e
  rw [show xs.toList.reverse.toArray.toList = xs.toList.reverse from rfl] at e
  rw [← e]
  refine fm_congr fun k hk => ?_
  have hk := List.mem_range.mp hk
  show xs[((xs.size : Int) - 1 + (k : Int) * (-1)).toNat]? = xs.toList.reverse.toArray[k]?
  have e1 : xs.toList.reverse.toArray[k]? = xs.toList.reverse[k]? := by simp
  rw [e1, List.getElem?_reverse (by simpa using hk), ← Array.getElem?_toList]
  congr 1
  rw [Array.length_toList]
  omega
section
variable {prog : Program} {w : World} {A : Around} {E : Value → Shared → Prop} {s : Shared}
theorem sliceApplied_turn {sl : Addr} {vs : Value} {n : Nat} {Q : Int × Int × Nat → Shared → Prop} (hs : s.heap.IsSliceOf sl .none .none vs) (ps : IsPart vs (some (-1))) (h : Q ((n : Int) - 1, -1, n) s) : wpAny (model prog w) A (Builtin.Slice.sliceApplied (.ref sl) (pure (n : Int))) Q E s := by
  obtain ⟨os, hos, hcs, hds⟩ := id hs
  unfold Builtin.Slice.sliceApplied Builtin.Slice.sliceFields
  refine wpAny_bind (wpAny_bind (wpAny_field hos hds (x := .none) rfl (wpAny_bind (wpAny_field hos hds (x := .none) rfl (wpAny_bind (wpAny_field hos hds (x := vs) rfl (wpAny_pure ?_)))))))
  refine wpAny_bind (HT.slicePart_ ps ?_)
  show wpAny _ _ (if ((-1 : Int) == 0) = true then _ else _) _ _ s
  rw [if_neg (by decide)]
  refine wpAny_bind (slicePart_none (wpAny_bind (slicePart_none (wpAny_bind (wpAny_pure ?_)))))
  show wpAny _ _ (pure ((n : Int) - 1, (-1 : Int), Builtin.Slice.slicePlaces ((n : Int) - 1) (-1) (-1))) _ _ s
  rw [turn_places n]
  exact wpAny_pure h
theorem getItem_tuple_turn {t sl : Addr} {us : Array Value} {vs : Value} {Q : Value → Shared → Prop} (hz : us.size ≤ sizeLine) (ht : IsTup s.heap t us) (hs : s.heap.IsSliceOf sl .none .none vs) (ps : IsPart vs (some (-1)))
    (h : Q (.ref s.heap.objs.size) { s with heap := s.heap.push { cls := .type "tuple", data := .seq us.toList.reverse.toArray } }) : wpAny (model prog w) A (getItem (.ref t) (.ref sl)) Q E s := by
  have htake : sizeOk (.seq us.toList.reverse.toArray) := by show us.toList.reverse.toArray.size ≤ sizeLine; simpa using hz
  obtain ⟨os, hos, hcs, hds⟩ := id hs
  have hTs : s.TypeIs (.ref sl) "slice" := ⟨os, hos, hcs⟩
  unfold getItem
  try with_reducible refine wpAny_holding ?_
  first | refine wpAny_bind (wpAny_pure ?_) | skip
  refine wpAny_bind (wpAny_sequenceKey ht.typeIs (by decide) ?_)
  refine wpAny_bind (wpAny_callSpecial?_slot (name := Str.ofString "__getitem__") ht.typeIs PyProof.Rows.slot_tuple_getitem
    (wpAny_call_entry PyProof.Rows.slot_tuple_getitem ht.typeIs entry_tuple_getitem ?_ (args_tuple_getitem _ _)))
  show wpAny _ _ (Builtin.Tuple.tupleItemsOf (.ref t) >>= _) _ _ s
  refine wpAny_bind (tupleItemsOf_ ht ?_)
  refine wpAny_bind (wpAny_typeOf hTs ?_)
  rw [if_pos (by decide)]
  refine wpAny_bind (sliceApplied_turn hs ps ?_)
  show wpAny _ _ (if (((us.size : Int) - 1) == 0 && (-1 : Int) == 1 && us.size == us.size) = true then _ else _) _ _ s
  rw [if_neg (fun h => by simp at h)]
  rw [show ((List.range us.size).filterMap fun (k : Nat) => us[((us.size : Int) - 1 + (k : Int) * (-1)).toNat]?) = us.toList.reverse from turn_pick us]
  first
    | exact wpAny_bind (m := Builtin.Tuple.tupleExact _) (wpAny_newObj_type (wpAny_pure ⟨_, rfl, wpAny_pure h⟩) htake)
    | exact wpAny_bind (m := Builtin.Tuple.tupleExact _) (wpAny_newObj_type (wpAny_bind (wpAny_pure (wpAny_pure ⟨_, rfl, wpAny_pure h⟩))) htake)
    | exact wpAny_bind (wpAny_bind (m := Builtin.Tuple.tupleExact _) (wpAny_newObj_type (wpAny_pure (wpAny_pure ⟨_, rfl, wpAny_pure h⟩)) htake))
    | exact wpAny_bind (wpAny_bind (m := Builtin.Tuple.tupleExact _) (wpAny_newObj_type (wpAny_pure ⟨_, rfl, wpAny_pure h⟩) htake))
end
section
variable {X : Cx}
def tTurn (K : PySem.W.Frag) (te : TE) : TE := fun σ H Q => te σ H fun x H1 => ∃ a ws, x = .ref a ∧ SqT K H1 a ws ∧ ws.length ≤ sizeLine ∧ NewT ws.reverse H1 Q
theorem pe_turn {e : Expr} {te : TE} {k : Nat} {p1 p2 p3 pos : Pos} (he : PE X e te) : PE X (.Subscript e (.Slice none none (some (.UnaryOp .USub (.Constant (.int 1) k p1) p2)) p3) pos) (tTurn X.K te) := by
  refine ⟨fun pins s σ H Q I h => ?_⟩
  refine Subscript_ (thn (he.run pins s σ H _ I h) fun v s1 ⟨x, H1, I1, r1, q1⟩ => ?_)
  obtain ⟨a, ws, ex, hx, zl, q⟩ := q1
  subst ex
  cases r1
  have hst : PO X (some (.UnaryOp .USub (.Constant (.int 1) k p1) p2)) (tPart (tUn (rU fun i => .int (-i)) (tC (.int 1)))) := po_some (pe_un un_neg pe_int)
  refine wpAny_Slice (thn (po_none.run pins s1 σ H1 (fun o H2 => o = none ∧ H2 = H1) I1 ⟨rfl, rfl⟩) fun vl s2 ⟨l, H2, I2, pl, el, e2⟩ => ?_)
  subst el e2
  refine thn (po_none.run pins s2 σ H2 (fun o H3 => o = none ∧ H3 = H2) I2 ⟨rfl, rfl⟩) fun vu s3 ⟨u, H3, I3, pu, eu, e3⟩ => ?_
  subst eu e3
  refine thn (hst.run pins s3 σ H3 (fun o H4 => o = some (-1) ∧ H4 = H3) I3 ⟨1, rfl, -1, rfl, rfl, rfl⟩) fun vs s4 ⟨o, H4, I4, ps, eo, e4⟩ => ?_
  subst eo e4
  have I5 : Inv X pins σ H4 { s4 with heap := s4.heap.push { cls := .type "slice", data := .fields #[vl, vu, vs] } } := I4.kept (t' := s4.toks) fun b ob q => Heap.get?_push_of_some _ q
  obtain ⟨us, rv, tp, sz⟩ := I5.tuple hx
  have len := rv.length
  show wpAny (model X.prog X.w) X.A (subscriptTail e (.Slice none none (some (.UnaryOp .USub (.Constant (.int 1) k p1) p2)) p3) (.ref a) (.ref s4.heap.objs.size)) (EP X pins σ Q) X.xe { s4 with heap := s4.heap.push { cls := .type "slice", data := .fields #[vl, vu, vs] } }
  refine tail_any (ops := [.ref a, .ref s4.heap.objs.size]) tp.typeIs (PyProof.Rows.slot_tuple_getitem.lookup) ?_ (by with_unfolding_all rfl)
  cases pl
  cases pu
  refine getItem_tuple_turn (by rw [List.size_toArray, ← len]; exact zl) tp (Heap.IsSliceOf.new _ _ _ vs) ps ?_
  exact made I5 (us := us.reverse) rv.reverse (by rw [List.length_reverse]; exact zl) q
end
end DLt
namespace DL
open PySem PySem.Spec PyProof.Rows L2
variable [Tbs]
section
variable {X : Cx} {C : Addr} {W : WX} {a : Expr} {ma : M D} {k : Nat} {p1 p2 p3 pos : Pos}
theorem rpL_rev {G : Gx} {F : Addr → Prop} {H : Hp} : ∀ {ds : List D} {vs : List V}, RpL G F H ds vs → RpL G F H ds.reverse vs.reverse
  | [], _, h => by cases (show _ = _ from h); exact rfl
  | d :: ds, _, ⟨v, r, e, h1, h2⟩ => by
    subst e
    rw [List.reverse_cons, List.reverse_cons]
    exact RpL.append (rpL_rev h2) ⟨v, [], rfl, h1, rfl⟩
theorem e_turn (ha : PE X a (tD (gx X C) W ma)) : PE X (.Subscript a (.Slice none none (some (.UnaryOp .USub (.Constant (.int 1) k p1) p2)) p3) pos) (tD (gx X C) W (turnsM ma)) :=
  peImp (DLt.pe_turn ha) fun σ H Q h => (lift1 (Ra := RD (gx X C)) h).imp fun x H1 ⟨B, F, env, d, p, r⟩ => by
    cases d with
    | tup ds =>
      obtain ⟨q, vs, e, h1, h2⟩ := id r
      subst e
      obtain ⟨n2, p⟩ := Pt.asked p
      exact ⟨q, vs, rfl, .inl h1.rd, by rw [← RpL.length h2]; exact n2, Pt.tup p (rpL_rev h2)⟩
    | _ => exact (Pt.no p).elim
end
end DL
set_option Elab.async false
set_option linter.all false
set_option maxRecDepth 100000
set_option maxHeartbeats 2000000
namespace DL
open PySem PySem.Spec PyProof.Rows L2
variable [Tbs]
def rTxt (K : PySem.W.Frag) : List V → Hp → VK → Prop := fun xs H Q => (∃ a, xs = [.str a] ∧ Q (.str a) H) ∨ (∃ i, xs = [.int i] ∧ i.natAbs.log2 < 1920 ∧ Q (.str (toString i)) H) ∨ ∃ p d, xs = [.ref p] ∧ Dp K H (.ref p) d ∧ shOk d = true ∧ Q (.str d.shown) H
section
variable {X : Cx} {W : WX}
theorem call_txtD (hG : X.A.guards = some []) (hu : X.A.units + 100 < cLine) : CallR X (.type "str") (rTxt X.K) := by
  rintro pins s σ H xs us Q J r (⟨a, ex, q⟩ | ⟨i, ex, hz, q⟩ | ⟨p, d, ex, dp, ok, q⟩)
  · exact SkE.call_str_str _ _ _ _ _ _ _ J r ⟨a, ex, q⟩
  · exact call_str_int _ _ _ _ _ _ _ J r ⟨i, ex, hz, q⟩
  · subst ex
    obtain ⟨u, eu, ru⟩ := vals1 r
    subst eu
    obtain ⟨as, rd⟩ := Dp.reads J d (.ref p) u dp ru
    cases ru
    simp only [shOk, Bool.and_eq_true, Bool.not_eq_true', decide_eq_true_eq] at ok
    obtain ⟨⟨⟨⟨o1, o2⟩, o3⟩, o4⟩, o5⟩ := ok
    exact str_of_reads rd o1 (PyData.noDict_hsm o2) hG (by omega) (fun b o e => e) (fun h' u tk kp => ⟨.str d.shown, H, J.kept kp, ⟨u, rfl⟩, q⟩) (PyData.shown_fits_bulk (B := 13) (by decide) (by decide) o4 o5)
theorem fits_txtD {G : Gx} : FitsC G W (rTxt G.K) (un1 txtD) := fits1 fun {σ H Q B F env x d} p r => by
  cases d with
  | int i => cases (show _ = _ from r); obtain ⟨hz, p⟩ := Pt.asked p; exact .inr (.inl ⟨i, rfl, hz, p.pure (b := .str _) rfl⟩)
  | str y => cases (show _ = _ from r); exact .inl ⟨y, rfl, Pt.pure p (b := .str _) rfl⟩
  | tup ds =>
    obtain ⟨⟨c1, c2, c3⟩, p⟩ := Pt.asked p
    have dp := Rp.dp r c2
    obtain ⟨a, vs, e, _⟩ := r
    subst e
    exact .inr (.inr ⟨a, _, rfl, dp, c3, p.pure (b := .str _) rfl⟩)
  | lst ds =>
    obtain ⟨⟨c1, c2, c3⟩, p⟩ := Pt.asked p
    have dp := Rp.dp r c2
    obtain ⟨a, vs, e, _⟩ := r
    subst e
    exact .inr (.inr ⟨a, _, rfl, dp, c3, p.pure (b := .str _) rfl⟩)
  | _ => obtain ⟨⟨c1, _⟩, _⟩ := Pt.asked p; cases c1
end
end DL
set_option Elab.async false
set_option linter.all false
set_option maxRecDepth 100000
set_option maxHeartbeats 2000000
namespace DL
open PySem PySem.Spec PyProof.Rows L2
end DL
set_option Elab.async false
set_option linter.all false
set_option maxRecDepth 100000
set_option maxHeartbeats 2000000
namespace DL
open PySem PySem.Spec PyProof.Rows L2
variable [Tbs]
end DL
set_option Elab.async false
set_option linter.all false
set_option maxRecDepth 100000
set_option maxHeartbeats 2000000
namespace DL
open PySem PySem.Spec PyProof.Rows L2
end DL
set_option Elab.async false
set_option linter.all false
set_option maxRecDepth 100000
set_option maxHeartbeats 2000000
namespace DL
open PySem PySem.Spec PyProof.Rows L2
end DL
set_option Elab.async false
set_option linter.all false
set_option maxRecDepth 100000
set_option maxHeartbeats 2000000
namespace HE
open PySem PySem.Spec PyProof.Rows L2
end HE
namespace HE
open PySem PySem.Spec PyProof.Rows L2
end HE
namespace HE
open PySem PySem.Spec PyProof.Rows L2
end HE
namespace DL
open PySem PySem.Spec PyProof.Rows L2 HE
end DL
namespace HE
open PySem PySem.Spec PyProof.Rows L2
end HE
namespace HE
open PySem PySem.Spec PyProof.Rows L2
end HE
namespace DL
open PySem PySem.Spec PyProof.Rows L2 HE
end DL
set_option Elab.async false
set_option linter.all false
set_option maxRecDepth 100000
set_option maxHeartbeats 2000000
namespace DL
open PySem PySem.Spec PyProof.Rows L2
end DL
set_option Elab.async false
set_option linter.all false
set_option maxRecDepth 100000
set_option maxHeartbeats 2000000
namespace DL
open PySem PySem.Spec PyProof.Rows L2
variable [Tbs]
section
variable {X : Cx} {C : Addr} {W : WX} {k n : Nat} {f : Addr} {fd : FuncData} {df : DF} {x : Str} {p pos : Pos}
/-- f() -/
theorem c_pos0 (Fn : FnG X.prog X.w X.K X.mg X.base k f fd [] (spD (gx X C) 0 df)) (hr : Room k X.A) (hG : X.A.guards = some []) (tk : DLz.Takes X W) (hg : Gl X x) (hm : X.mg x = some (.ref f)) (hk : PySem.W.keepIn X.K (.ref f) = true) (hb : Binds X.K fd [] [])
    (hdb : (x == ("__debug__" : Str)) = false := by decide) :
    PE X (.Call (.Name x p) [] [] pos) (tRs (gx X C) W (callN 0 df [])) := ⟨fun pins s σ H Q I ⟨B, F, env, h⟩ => by
  have hb' := hb s [] I.kIn rfl
  rw [List.append_nil] at hb'
  exact wpAny_Call_Name_kw (ld_glob I hg hm (PySem.W.callWith_K0 I.kIn hk (wpAny_call (run_g Fn hr hG tk I hb' .nil (h.callN (as := []) (vs := []) rfl).2))) hdb)⟩
end
end DL
set_option Elab.async false
set_option linter.all false
set_option maxRecDepth 100000
set_option maxHeartbeats 2000000
namespace DL
open PySem PySem.Spec PyProof.Rows L2
end DL
set_option Elab.async false
set_option linter.all false
set_option maxRecDepth 100000
set_option maxHeartbeats 2000000
namespace DL
open PySem PySem.Spec PyProof.Rows L2
variable [Tbs]
end DL
set_option Elab.async false
set_option linter.all false
set_option maxRecDepth 100000
set_option maxHeartbeats 2000000
namespace DL
open PySem PySem.Spec PyProof.Rows L2
section
variable {chk : List (PySem.W.Frag → Bool)} {fn : List He.FnD} {K : PySem.W.Frag}
theorem SaysK.fact (c : SaysK chk fn K) (i : Nat) {f : PySem.W.Frag → Bool} (h : chk[i]? = some f := by rfl) : f K = true := by
  have c1 := (He.ba (show ((chk.all fun f => f K) && fn.all fun d => (He.Fa.code d.at_ d.qual).ok K) = true from congrArg (fun z : AlH => z.1) c)).1
  exact List.all_eq_true.mp c1 f (List.mem_of_getElem? h)
theorem SaysK.def_ (c : SaysK chk fn K) (i : Nat) {d : He.FnD} (h : fn[i]? = some d := by rfl) :
    ∃ oc od osl kV doc pm an cdv ct, K.lookup (He.fAd K d.at_) = some ⟨oc, od, .func (PySem.W.fnOf d.name d.qual d.params d.body d.scope .none kV doc pm an cdv ct), osl⟩ ∧ PySem.W.codeIn K cdv d.qual = true := by
  have c2 := (He.ba (show ((chk.all fun f => f K) && fn.all fun d => (He.Fa.code d.at_ d.qual).ok K) = true from congrArg (fun z : AlH => z.1) c)).2
  have e : fn.map (fun d => He.fnObs K d.at_) = fn.map He.FnD.val := congrArg (fun z : AlH => z.2) c
  have e2 : (fn.map fun d => He.fnObs K d.at_)[i]? = (fn.map He.FnD.val)[i]? := by rw [e]
  rw [List.getElem?_map, List.getElem?_map, h] at e2
  exact He.fn_ok (Option.some.inj e2) (List.all_eq_true.mp c2 d (List.mem_of_getElem? h))
end
theorem intB_ok {K : PySem.W.Frag} {x : Str} {i : Int} (h : intB K x i = true) : ∃ t, PySem.W.nsIn K mainGlobals x = some (some (.int i t)) := by
  unfold intB at h
  split at h
  · rename_i j t e
    have ej : j = i := of_decide_eq_true h
    subst ej
    exact ⟨t, e⟩
  · cases h
/-- THE END: the law by its own plain law -/
theorem walk_gJ {ι : Type} {l : PySem.W.OpenLaw} {n k : Nat} {q : Program} {loose : List Str} {XP : (Str → Option Value) → Heap → Prop} {YP : World → Heap → Prop} {d : DefRec} {x : Str} {xs : List Str} (df : Addr → ι → DF) (hn : l.most = some n) (hn2 : n ≤ 1000) (hdf : d.params.defaults = []) (hk : k ≤ 200) (gu : callerA.guards = some [])
    (F : ∀ (w : World) (mg : Str → Option Value) (fa : Addr) (h : Heap), YP w h → h.Ns mainGlobals mg → mg d.name = some (.ref fa) →
      ∃ (K : PySem.W.Frag) (cs : List (Addr × Addr × Str)) (C : Addr) (jj : ι) (fd : FuncData), K.In h ∧ TabsBy q K cs xs ∧ (∀ (s : Shared) (u : Value), BindsTo s fd ⟨[u], []⟩ [(x, u)]) ∧ ∀ base : Heap, K.In base → base.Ns mainGlobals mg → (∀ p ∈ cs, LamX.TabB base mg p.1 p.2.1) →
        FnG l.prog w K mg base k fa fd [x] (@spD ⟨cs.map (·.2)⟩ ⟨C, mg, K, w, l.prog⟩ 1 (df C jj)))
    (law : ∀ (C : Addr) (jj : ι) (ns : List Int), ns.length ≤ n → df C jj [.im (.scr ns)] (fun r _ => r = .d (.bl true)) (fun _ _ => False)) : PySem.W.WalkO q loose XP YP l.row.toRowW d [] (fun f vs => PySem.call f vs) := by
  refine Att.attach_call hn hdf fun w s₀ t mg mb fa o pm cd doc a us ns G Y ho hd hcd hmg scr isn len ng => ?_
  obtain ⟨K, cs, C, jj, fd, kin, TB, bt, Fd⟩ := F w mg fa _ Y G.T.g hmg
  have tabs : TabsIn K cs t.heap := by
    have at_ : ∀ p ∈ cs, PySem.W.CodeHd t.heap p.1 p.2.1 ∧ t.heap.get? p.2.1 = some tab0 := fun p hp => by
      obtain ⟨_, y, _, hr, ht⟩ := TB p hp
      obtain ⟨d', hd', hn'⟩ := List.any_eq_true.mp hr
      cases e : (recsOf q).find? (fun e => e.name == y) with
      | none => exact absurd hn' (by simpa using List.find?_eq_none.mp e d' hd')
      | some d2 => exact PySem.W.tab_of G.T kin e ht
    exact ⟨fun p hp => (at_ p hp).2, fun p hp => (TB p hp).1, fun p hp => (at_ p hp).1⟩
  have rv := vals_ints isn
  have notA : ∀ p ∈ cs, p.2.1 ≠ a := fun p hp z => by
    have e := tabs.tab p hp
    rw [z, scr] at e
    cases e
  have wish : ∀ H : Hp, (∀ p ∈ cs, H p.2.1 = some (.tbl #[])) → (∀ H', SqL K H' a (ns.map V.int)) ∨ (Nt H a ∧ Rd H a (.lst (ns.map V.int))) → @spD ⟨cs.map (·.2)⟩ ⟨C, mg, K, w, l.prog⟩ 1 (df C jj) [.ref a] H (fun v _ => v = .bl true) fun _ _ _ => False := fun H ht hs => by
    letI : Tbs := ⟨cs.map (·.2)⟩
    refine ⟨rfl, fun _ => False, fun b => b = a ∧ Nt H b, [.im (.scr ns)], _, _, ⟨rfl, fun i s e => ?_, fun i j b w1 _ => ?_, fun b z => z.elim, fun b z => z.2, fun p hp => ?_⟩, law C jj ns len, fun r ss' v F' H' e st rl rr => ?_, fun _ _ _ _ _ _ z => z.elim⟩
    · cases i with
      | zero => cases (Option.some.inj e); exact ⟨.ref a, rfl, a, rfl, hs.elim .inr fun q => .inl ⟨⟨rfl, q.1⟩, q.2⟩⟩
      | succ i => cases e
    · obtain ⟨s, e, w⟩ := own_feet.mp w1
      cases i with
      | zero => cases (Option.some.inj e); exact (feet_im w).elim
      | succ i => cases e
    · obtain ⟨p0, hp0, e⟩ := List.mem_map.mp hp
      subst e
      exact ⟨#[], ht p0 hp0, True.intro, fun pos cv hc => by
        have z : codeAmong pos [] = some cv := hc
        simp [codeAmong] at z⟩
    · subst e
      exact rr
  have small : ns.length ≤ sizeLine := Nat.le_trans len (Nat.le_trans hn2 (by rw [sizeLine_eq]; decide))
  cases z : K.lookup a with
  | some u =>
    have e := kin a u z
    rw [scr] at e
    cases e
    refine law_from (cs := cs) kin G.T.g G.T.b G.T.builtins G.T.nolimit ng tabs G.T.bmain scr (caller_room hk) gu Fd bt (fun b => if ∃ p ∈ cs, b = p.2.1 then some (.tbl #[]) else none) (fun b u e => ?_) (fun b e => ?_) (wish _ (fun p hp => if_pos ⟨p, hp, rfl⟩) (.inl fun H' => .inr ⟨_, us.toArray, _, z, rfl, rfl, rfl, by rw [List.size_toArray, isn.length]; exact small, by simpa using rv⟩))
    · by_cases hb : ∃ p ∈ cs, b = p.2.1
      · cases (if_pos hb).symm.trans e
        obtain ⟨p, hp, eb⟩ := hb
        subst eb
        exact tabs.tab p hp
      · cases (if_neg hb).symm.trans e
    · by_cases hb : ∃ p ∈ cs, b = p.2.1
      · exact .inr ⟨hb, if_pos hb⟩
      · exact (e (if_neg hb)).elim
  | none =>
    refine law_from (cs := cs) kin G.T.g G.T.b G.T.builtins G.T.nolimit ng tabs G.T.bmain scr (caller_room hk) gu Fd bt (fun b => if b = a then some (.frz { cls := .type "list", data := .seq us.toArray } (.lst (ns.map V.int))) else if ∃ p ∈ cs, b = p.2.1 then some (.tbl #[]) else none) (fun b u e => ?_) (fun b e => ?_)
      (wish _ (fun p hp => (if_neg (notA p hp)).trans (if_pos ⟨p, hp, rfl⟩)) (.inr ⟨Nt.of (if_pos rfl), .inr ⟨_, if_pos rfl⟩⟩))
    · by_cases eb : b = a
      · subst eb
        cases (if_pos rfl).symm.trans e
        exact ⟨scr, by rw [List.length_map]; exact small, us, _, rv, scr⟩
      · have e := (if_neg eb).symm.trans e
        by_cases hb : ∃ p ∈ cs, b = p.2.1
        · cases (if_pos hb).symm.trans e
          obtain ⟨p, hp, e0⟩ := hb
          subst e0
          exact tabs.tab p hp
        · cases (if_neg hb).symm.trans e
    · by_cases eb : b = a
      · exact .inl ⟨eb, eb ▸ z, _, _, if_pos eb⟩
      · by_cases hb : ∃ p ∈ cs, b = p.2.1
        · exact .inr ⟨hb, (if_neg eb).trans (if_pos hb)⟩
        · exact (e ((if_neg eb).trans (if_neg hb))).elim
/-- THE END: the law by its own plain law -/
theorem walk_gE {l : PySem.W.OpenLaw} {n k : Nat} {q : Program} {loose : List Str} {XP : (Str → Option Value) → Heap → Prop} {YP : World → Heap → Prop} {d : DefRec} {x : Str} {xs : List Str} (df : Addr → DF) (hn : l.most = some n) (hn2 : n ≤ 1000) (hdf : d.params.defaults = []) (hk : k ≤ 200) (gu : callerA.guards = some [])
    (F : ∀ (w : World) (mg : Str → Option Value) (fa : Addr) (h : Heap), YP w h → h.Ns mainGlobals mg → mg d.name = some (.ref fa) →
      ∃ (K : PySem.W.Frag) (cs : List (Addr × Addr × Str)) (C : Addr) (fd : FuncData), K.In h ∧ TabsBy q K cs xs ∧ (∀ (s : Shared) (u : Value), BindsTo s fd ⟨[u], []⟩ [(x, u)]) ∧ ∀ base : Heap, K.In base → base.Ns mainGlobals mg → (∀ p ∈ cs, LamX.TabB base mg p.1 p.2.1) →
        FnG l.prog w K mg base k fa fd [x] (@spD ⟨cs.map (·.2)⟩ ⟨C, mg, K, w, l.prog⟩ 1 (df C)))
    (law : ∀ (C : Addr) (ns : List Int), ns.length ≤ n → df C [.im (.scr ns)] (fun r _ => r = .d (.bl true)) (fun _ _ => False)) : PySem.W.WalkO q loose XP YP l.row.toRowW d [] (fun f vs => PySem.call f vs) :=
  walk_gJ (ι := Unit) (fun C _ => df C) hn hn2 hdf hk gu (fun w mg fa h Y G hm => let ⟨K, cs, C, fd, z⟩ := F w mg fa h Y G hm; ⟨K, cs, C, (), fd, z⟩) fun C _ ns h => law C ns h
end DL
set_option Elab.async false
set_option linter.all false
set_option maxRecDepth 100000
set_option maxHeartbeats 2000000
namespace DL
open PySem PySem.Spec PyProof.Rows L2
end DL
set_option Elab.async false
set_option linter.all false
set_option maxRecDepth 100000
set_option maxHeartbeats 2000000
namespace DL
open PySem PySem.Spec PyProof.Rows L2
variable [Tbs]
section
variable {X : Cx} {C : Addr} {W : WX} {n i j : Nat} {x : Str} {p pos : Pos} {e : Expr} {es : List Expr} {kws : List Keyword} {ms mk : M (List D)}
/-- callable by place, by names -/
structure FnPos (X : Cx) (C : Addr) (n : Nat) (y : Str) (df : DF) : Prop where
  ex : ∃ k f fd ps, FnG X.prog X.w X.K X.mg X.base k f fd ps (spD (gx X C) n df) ∧ Room k X.A ∧ X.mg y = some (.ref f) ∧ PySem.W.keepIn X.K (.ref f) = true ∧ Binds X.K fd ps [] ∧ n = ps.length
theorem fn_nil {P : Str → DF → Prop} : ∀ q ∈ ([] : List (Str × DF)), P q.1 q.2 := fun _ h => absurd h (by simp)
theorem fn_cons {P : Str → DF → Prop} {y : Str} {df : DF} {tab : List (Str × DF)} (h : P y df) (t : ∀ q ∈ tab, P q.1 q.2) : ∀ q ∈ (y, df) :: tab, P q.1 q.2 := List.forall_mem_cons.mpr ⟨h, t⟩
theorem fn_pos {k : Nat} {y : Str} {f : Addr} {fd : FuncData} {ps : List Str} {df : DF} (Fn : FnG X.prog X.w X.K X.mg X.base k f fd ps (spD (gx X C) n df)) (hr : Room k X.A) (hm : X.mg y = some (.ref f)) (hk : PySem.W.keepIn X.K (.ref f) = true) (hb : Binds X.K fd ps []) (hn : n = ps.length) : FnPos X C n y df := ⟨k, f, fd, ps, Fn, hr, hm, hk, hb, hn⟩
theorem fnOf_some {tab : List (Str × DF)} {d : D} {df : DF} (h : fnOf tab d = some df) : ∃ y, d = .fn y ∧ (y, df) ∈ tab := by
  cases d with
  | fn y =>
    unfold fnOf at h
    dsimp only at h
    cases e : tab.find? fun q => q.1 == y with
    | none => rw [e] at h; cases h
    | some q =>
      rw [e] at h
      cases h
      have h1 := List.find?_some e
      exact ⟨y, rfl, by rw [← (by simpa using h1 : q.1 = y)]; exact List.mem_of_find?_eq_some e⟩
  | _ => cases h
/-- g(e, ..), g a name of this code -/
theorem c_fnp {tab : List (Str × DF)} (hv : PE X (.Name x p) (tVar i)) (hT : ∀ q ∈ tab, FnPos X C n q.1 q.2) (hG : X.A.guards = some []) (tk : DLz.Takes X W) (ha : PA X (e :: es) (tDs (gx X C) W ms))
    (he : starEach (e :: es) X.env = (false, eval e X.env) :: starEach es X.env := by rfl) (hpl : (backTo pos (starEach es X.env)).any (·.1) = false := by rfl) :
    PE X (.Call (.Name x p) (e :: es) [] pos) (tRs (gx X C) W (fnPick tab i fun df => bnd ms fun ds => ask (ds.length = n) (callD df ds))) := ⟨fun pins s σ H Q I ⟨B, F, env, Qd, Ed, rel, hm, hq, hE⟩ => by
  unfold fnPick bnd dVar at hm
  cases q : env[i]? with
  | none => rw [q] at hm; exact hm.elim
  | some sl =>
    rw [q] at hm
    cases sl with
    | im d =>
      dsimp only at hm
      obtain ⟨v, h1, h2⟩ := rel.sl i _ q
      cases ed : fnOf tab d with
      | none => rw [ed] at hm; exact hm.elim
      | some df =>
        rw [ed] at hm
        obtain ⟨y, rfl, my⟩ := fnOf_some ed
        obtain ⟨f, rfl, h3⟩ := h2
        obtain ⟨k, f', fd, ps, Fn, hr, hmy, hk, hb, hn⟩ := (hT _ my).ex
        cases h3.symm.trans hmy
        have h : tRs (gx X C) W (bnd ms fun ds => ask (ds.length = n) (callD df ds)) σ H Q := ⟨B, F, env, Qd, Ed, rel, hm, hq, hE⟩
        refine wpAny_Call_Name_kw (thn (hv.run pins s σ H (fun v H1 => v = .ref f ∧ H1 = H) I ⟨.ref f, h1, rfl, rfl⟩) fun u s0 ⟨v, H0, I0, r0, ev, eH⟩ => ?_)
        subst ev eH
        cases (show u = Value.ref f from r0)
        refine PySem.W.callWith_K (h₀ := X.base) I0.ok.mod.kin hk (thn (ha.run pos pins s0 σ H0 (fun vs H1 => vs.length = n ∧ spD (gx X C) n df vs H1 Q (WE W σ)) I0 ?_) fun us s1 ⟨vs, H1, I1, r, l, q⟩ => ⟨I1.kIn, wpAny_call ?_⟩) he hpl
        · exact (lift1 (Ra := RDs (gx X C)) h).imp fun vs H1 ⟨B, F, env, ds, q, r⟩ => by
            obtain ⟨l, q⟩ := q.asked
            have lv := r.length.symm.trans l
            exact ⟨lv, q.callD r lv⟩
        · have hb' := hb s1 us I1.kIn (by rw [List.append_nil, ← r.length, l, hn])
          rw [List.append_nil] at hb'
          exact run_g Fn hr hG tk I1 hb' r q
    | _ => exact hm.elim⟩
variable {ks : List Str} {gD : List D → List D → List D}
end
end DL
set_option Elab.async false
set_option linter.all false
set_option maxRecDepth 100000
set_option maxHeartbeats 2000000
namespace DL
open PySem PySem.Spec PyProof.Rows L2
variable [Tbs]
def putNV (l : List (NestedKey × Addr × V)) (k : NestedKey) (b : Addr) (v : V) : List (NestedKey × Addr × V) :=
  if (l.any fun p => decide (p.1 = k)) = true then l.map (fun p => if p.1 = k then (p.1, p.2.1, v) else p) else l ++ [(k, b, v)]
theorem valNV_any (k : NestedKey) : ∀ l : List (NestedKey × Addr × V), (l.any fun p => decide (p.1 = k)) = (valNV l k).isSome
  | [] => rfl
  | p :: r => by
    by_cases e : p.1 = k
    · simp [valNV, List.find?_cons, List.any_cons, e]
    · have ih := valNV_any k r
      simp only [valNV] at ih
      simp [valNV, List.find?_cons, List.any_cons, e, ih]
theorem NPs.repl {l : List (NestedKey × Addr × V)} {xs : List (NestedKey × Addr × Value)} (r : Paired NP l xs) (k : NestedKey) {y : V} {u : Value} (ry : RelV y u) :
    Paired NP (l.map fun p => if p.1 = k then (p.1, p.2.1, y) else p) (xs.map (putAt k u)) := by
  induction r with
  | nil => exact .nil
  | @cons p q ps qs h t ih =>
    rw [List.map_cons, List.map_cons]
    refine .cons ?_ ih
    obtain ⟨h1, h2, h3⟩ := h
    unfold putAt
    by_cases e : p.1 = k
    · rw [if_pos e, if_pos (h1.symm.trans e)]; exact ⟨h1, h2, ry⟩
    · rw [if_neg e, if_neg (fun z => e (h1.trans z))]; exact ⟨h1, h2, h3⟩
theorem NPs.put {l : List (NestedKey × Addr × V)} {xs : List (NestedKey × Addr × Value)} (r : Paired NP l xs) (k : NestedKey) {b : Addr} {y : V} {u : Value} (ry : RelV y u) :
    Paired NP (putNV l k b y) (storedH xs k b u) := by
  have e : (l.any fun p => decide (p.1 = k)) = (atKey xs k).isSome := by
    rw [valNV_any, (NPs.val r k).isSome_eq, Option.isSome_map]
  unfold putNV storedH
  rw [e]
  by_cases q : (atKey xs k).isSome = true
  · rw [if_pos q, if_pos q]; exact NPs.repl r k ry
  · rw [if_neg q, if_neg q]; exact Paired.snoc r ⟨rfl, rfl, ry⟩
section
variable {P : Program} {w : World} {F : Addr → Prop} {H : Hp} {h : Heap} {a : Addr} {o : Obj} {l : List (NestedKey × Addr × V)}
theorem nd_get (ok : HOk P w H h) (e : H a = some (NdO a o)) : h.get? a = some o := (ok a _ e).1
theorem nd_of (ok : HOk P w H h) (e : H a = some (NdO a o)) (n : NdIs w a o l) (kr : KysR F H l) : ∃ xs, Paired NP l xs ∧ h.DictOfH (nestedKind P w) a xs := by
  obtain ⟨xs, es, ep, pr, hx, hd, he, hn⟩ := n.what
  refine ⟨xs, pr, o, es, ep, nd_get ok e, hx, hd, he, fun x hx => ?_, hn⟩
  have all : ∀ {l : List (NestedKey × Addr × V)} {m : List (NestedKey × Addr × Value)}, Paired NP l m → KysR F H l → ∀ x ∈ m, (nestedKind P w).is h x.1 x.2.1 := by
    intro l m q
    induction q with
    | nil => intro _ x hx; exact nomatch hx
    | @cons p q ps qs hq t ih =>
      intro kr x hx
      rcases List.mem_cons.mp hx with e | hx
      · subst e
        obtain ⟨k1, k2⟩ := kr p (List.mem_cons_self ..)
        rw [hq.1, hq.2.1] at k2
        rw [hq.1] at k1
        exact ⟨KeyR.is ok k2 rfl, k1⟩
      · exact ih (fun p hp => kr p (List.mem_cons_of_mem _ hp)) x hx
  exact all pr kr x hx
end
/-- what the dict at a holds at the key y -/
def NGet (w : World) (H : Hp) (a : Addr) (y : V) (r : Option V) : Prop := ∃ o l F k b, H a = some (NdO a o) ∧ NdIs w a o l ∧ KysR F H l ∧ y = .ref b ∧ k.depth ≤ 8 ∧ KeyR F H k y ∧ r = valNV l k
section
variable {X : Cx} {pins : List (Addr × Obj)} {σ : L2.St} {H : Hp} {s : Shared} {a : Addr} {y v d : V} {u r : Value} {o : Option V} {A : Around} {E : Value → Shared → Prop}
theorem NGet.typeIs (I : Inv X pins σ H s) (g : NGet X.w H a y o) : s.TypeIs (.ref a) "dict" := by
  obtain ⟨ob, l, F, k, b, e, n, kr, _⟩ := g
  obtain ⟨xs, _, dd⟩ := nd_of I.hok e n kr
  exact dd.typeIs
end
section
variable {G : Gx} {W : WX} {B F : Addr → Prop} {σ : L2.St} {H : Hp} {env : List Slot} {α β γ δ : Type}
variable {R : (Addr → Prop) → (Addr → Prop) → List Slot → L2.St → Hp → γ → δ → Prop} {Q : δ → Hp → Prop} {i : Nat} {a : Addr} {o o' : O}
theorem KnR.setAt : ∀ {kvs : List (NestedKey × D)} {l : List (NestedKey × Addr × V)} {k : NestedKey} {d : D} {v : V}, KnR G F H kvs l → Rp G F H d v → KnR G F H (kvs.map fun p => if p.1 = k then (p.1, d) else p) (l.map fun p => if p.1 = k then (p.1, p.2.1, v) else p)
  | [], _, _, _, _, h, _ => by cases (show _ = _ from h); exact rfl
  | (k', d') :: r, _, k, d, v, ⟨b, v', l', e, dp, hk, h1, h2⟩, q => by
    subst e
    rw [List.map_cons, List.map_cons]
    by_cases z : k' = k
    · rw [if_pos z, if_pos z]; exact ⟨b, v, _, rfl, dp, hk, q, KnR.setAt h2 q⟩
    · rw [if_neg z, if_neg z]; exact ⟨b, v', _, rfl, dp, hk, h1, KnR.setAt h2 q⟩
theorem KnR.put {kvs : List (NestedKey × D)} {l : List (NestedKey × Addr × V)} {k : NestedKey} {b : Addr} {d : D} {v : V} (h : KnR G F H kvs l) (dp : k.depth ≤ 8) (hk : KeyR F H k (.ref b)) (q : Rp G F H d v) : KnR G F H (putN kvs k d) (putNV l k b v) := by
  unfold putN putNV
  rw [h.any k]
  split
  · exact h.setAt q
  · exact h.append ⟨b, v, [], rfl, dp, hk, q, rfl⟩
end
end DL
set_option Elab.async false
set_option linter.all false
set_option maxRecDepth 100000
set_option maxHeartbeats 2000000
namespace DL
open PySem PySem.Spec PyProof.Rows L2
end DL
set_option Elab.async false
set_option linter.all false
set_option maxRecDepth 100000
set_option maxHeartbeats 2000000
namespace DL
open PySem PySem.Spec PyProof.Rows L2
variable [Tbs]
end DL
set_option Elab.async false
set_option linter.all false
set_option maxRecDepth 100000
set_option maxHeartbeats 2000000
namespace DL
open PySem PySem.Spec PyProof.Rows L2
variable [Tbs]
section
variable {G : Gx} {B F : Addr → Prop} {σ : L2.St} {H : Hp} {env : List Slot}
theorem R1At.notup0 {a : Addr} : ∀ {r : R1}, R1At G F H a r → ∀ vs, ¬ Rd H a (.tup vs)
  | .lst ds, ⟨us, h1, _⟩, vs, h => by rcases h with h | ⟨o, h⟩ <;> (rw [h1] at h; cases h)
  | .ins C fs, ⟨dx, us, h1, _⟩, vs, h => by rcases h with h | ⟨o, h⟩ <;> (rw [h1] at h; cases h)
theorem R1At.nofrz {a : Addr} : ∀ {r : R1}, R1At G F H a r → ∀ ob v, H a ≠ Option.some (HO.frz ob v)
  | .lst _, ⟨us, h1, _⟩, ob, v => by rw [h1]; exact fun z => nomatch z
  | .ins _ _, ⟨_, us, h1, _⟩, ob, v => by rw [h1]; exact fun z => by have h2 := Option.some.inj z; cases h2
theorem R1At.notup {a : Addr} {r : R1} (h : R1At G F H a r) : (∀ vs, ¬ Rd H a (.tup vs)) ∧ ∀ ob v, H a ≠ Option.some (HO.frz ob v) := ⟨h.notup0, h.nofrz⟩
/-- a slot stands over a step that leaves what it owns as it is -/
theorem SlotR.keep {F' : Addr → Prop} {H' : Hp} {x : Option (Option V)} {s : Slot} (st : Stp B F H F' H') (h : SlotR G B F H x s) (k : ∀ b, s.feet x b → H' b = H b ∧ ¬ F' b) : SlotR G B F' H' x s := by
  cases s with
  | no => trivial
  | im d => obtain ⟨v, h1, h2⟩ := h; exact ⟨v, h1, Rp.mono st d v h2⟩
  | ow o =>
    obtain ⟨a, h1, h2, h3, h4⟩ := h
    obtain ⟨e1, e2⟩ := k a (.inl ⟨rfl, h1⟩)
    exact ⟨a, h1, e2, h3, OwAt.mono st e1 h4⟩
  | io a o =>
    obtain ⟨h1, h2, h3, h4⟩ := h
    obtain ⟨e1, e2⟩ := k a (.inl ⟨rfl, h1⟩)
    exact ⟨h1, e2, h3, OwAt.mono st e1 h4⟩
  | tr r ns =>
    obtain ⟨h1, t⟩ := h
    refine ⟨h1, t.root, t.nd, fun p hp => ?_⟩
    obtain ⟨e1, e2⟩ := k p.1 (.inr ⟨r, ns, rfl, List.mem_map.mpr ⟨p, hp, rfl⟩⟩)
    exact ⟨e2, (t.at_ p hp).2.1, R1At.mono st e1 (t.at_ p hp).2.2⟩
end
section
variable {G : Gx} {W : WX} {B F : Addr → Prop} {σ : L2.St} {H : Hp} {env : List Slot} {α β γ δ : Type}
variable {R : (Addr → Prop) → (Addr → Prop) → List Slot → L2.St → Hp → γ → δ → Prop} {Q : δ → Hp → Prop} {i : Nat}
theorem ErL.get : ∀ {xs : List E1} {vs : List V}, ErL G F H xs vs → ∀ {j : Nat} {e : E1}, xs[j]? = some e → ∃ v, vs[j]? = some v ∧ Er G F H e v
  | [], _, _, j, e, h => by simp at h
  | x :: xs, _, ⟨v, l', q, h1, h2⟩, j, e, h => by
    subst q
    cases j with
    | zero => simp at h; subst h; exact ⟨v, rfl, h1⟩
    | succ j => exact ErL.get h2 (by simpa using h)
theorem ErL.snoc : ∀ {xs : List E1} {vs : List V} {e : E1} {v : V}, ErL G F H xs vs → Er G F H e v → ErL G F H (xs ++ [e]) (vs ++ [v])
  | [], _, e, v, h, r => by cases (show _ = _ from h); exact ⟨v, [], rfl, r, rfl⟩
  | x :: xs, _, e, v, ⟨w, l', q, h1, h2⟩, r => by subst q; exact ⟨w, _, rfl, h1, ErL.snoc h2 r⟩
end
section
variable {X : Cx} {C : Addr} {W : WX} {a b c : Expr} {es : List Expr} {ma mb mc : M D} {mk : M Addr} {ms : M (List D)} {pos apos cpos p : Pos} {i : Nat}
theorem ErL.at {G : Gx} {F : Addr → Prop} {H : Hp} {xs : List E1} {vs : List V} {k : Int} {e : E1} (h : ErL G F H xs vs) (q : atI xs k = some e) : ∃ v, atI vs k = some v ∧ Er G F H e v := by
  unfold atI at q ⊢
  rw [← h.length]
  cases w : ixN xs.length k with
  | none => rw [w] at q; cases q
  | some j => rw [w] at q; exact h.get (j := j) q
end
def setT (i : Nat) (t : Addr × List (Addr × R1)) : M Unit := fun env Q _ => match env[i]? with
  | some (.io _ _) => False
  | some _ => Q () (env.set i (.tr t.1 t.2))
  | none => False
end DL
set_option Elab.async false
set_option linter.all false
set_option maxRecDepth 100000
set_option maxHeartbeats 2000000
namespace DL
open PySem PySem.Spec PyProof.Rows L2
variable [Tbs]
end DL
set_option Elab.async false
set_option linter.all false
set_option maxRecDepth 100000
set_option maxHeartbeats 2000000
namespace DL
open PySem PySem.Spec PyProof.Rows L2
variable [Tbs]
end DL
set_option Elab.async false
set_option linter.all false
set_option maxRecDepth 100000
set_option maxHeartbeats 2000000
namespace DL
open PySem PySem.Spec PyProof.Rows L2
variable [Tbs]
end DL
set_option Elab.async false
set_option linter.all false
set_option maxRecDepth 100000
set_option maxHeartbeats 2000000
namespace DL
open PySem PySem.Spec PyProof.Rows L2
variable [Tbs]
end DL
set_option Elab.async false
set_option linter.all false
set_option maxRecDepth 100000
set_option maxHeartbeats 2000000
namespace DL
open PySem PySem.Spec PyProof.Rows L2
variable [Tbs]
theorem paired_get {xs ys : List D} {i : Nat} {d : D} (h : (paired xs ys)[i]? = some d) : ∃ x y, xs[i]? = some x ∧ ys[i]? = some y ∧ d = .pr [x, y] := by
  unfold paired at h
  rw [List.getElem?_map] at h
  obtain ⟨p, hp, e⟩ := Option.map_eq_some_iff.mp h
  obtain ⟨h1, h2⟩ := List.getElem?_zip_eq_some.mp hp
  exact ⟨_, _, h1, h2, e.symm⟩
theorem paired_length {xs ys : List D} : (paired xs ys).length = min xs.length ys.length := by unfold paired; rw [List.length_map, List.length_zip]
section
variable {G : Gx} {B F : Addr → Prop} {H : Hp} {a b : Addr} {vs us : List V} {xs ys : List D} {K : PySem.W.Frag}
theorem ok_zipL (hF : F a) (h1 : H a = some (.lst vs)) (h2 : RpL G F H xs vs) (hG : F b) (g1 : H b = some (.lst us)) (g2 : RpL G F H ys us) : ItOk G (Itz K a b) (paired xs ys) B F H := fun F' H' s i => by
  have q1 : H' a = some (.lst vs) := s.hk a _ (.inr hF) h1
  have q2 : RpL G F' H' xs vs := RpL.mono s xs vs h2
  have p1 : H' b = some (.lst us) := s.hk b _ (.inr hG) g1
  have p2 : RpL G F' H' ys us := RpL.mono s ys us g2
  refine ⟨fun d hd => ?_, fun hl => ⟨vs, us, SqL.of q1, SqL.of p1, by rw [paired_length] at hl; rw [← q2.length, ← p2.length]; omega⟩⟩
  obtain ⟨x, y, hx, hy, ed⟩ := paired_get hd
  subst ed
  obtain ⟨v, hv, rv⟩ := q2.get hx
  obtain ⟨u, hu, ru⟩ := p2.get hy
  refine ⟨⟨vs, us, v, u, SqL.of q1, SqL.of p1, hv, hu⟩, fun z H'' ⟨T, v', u', ex, hT, eH, hy1, hy2⟩ => ?_⟩
  subst ex eH
  have z1 := hy1 vs (SqL.of q1)
  have z2 := hy2 us (SqL.of p1)
  rw [hv] at z1
  rw [hu] at z2
  cases z1
  cases z2
  have st : Stp B F' H' F' (upd H' T (.tup [v, u])) := stp_new hT
  exact ⟨st, keep_upd hT, T, _, rfl, .inl upd_same, _, _, rfl, Rp.mono st x v rv, _, _, rfl, Rp.mono st y u ru, rfl⟩
theorem ok_zipT (h1 : Rd H a (.tup vs)) (h2 : RpL G F H xs vs) (g1 : Rd H b (.tup us)) (g2 : RpL G F H ys us) : ItOk G (RZ.ItzT K a b) (paired xs ys) B F H := fun F' H' s i => by
  have q1 : Rd H' a (.tup vs) := s.ht a vs h1
  have q2 : RpL G F' H' xs vs := RpL.mono s xs vs h2
  have p1 : Rd H' b (.tup us) := s.ht b us g1
  have p2 : RpL G F' H' ys us := RpL.mono s ys us g2
  refine ⟨fun d hd => ?_, fun hl => ⟨vs, us, .inl q1, .inl p1, by rw [paired_length] at hl; rw [← q2.length, ← p2.length]; omega⟩⟩
  obtain ⟨x, y, hx, hy, ed⟩ := paired_get hd
  subst ed
  obtain ⟨v, hv, rv⟩ := q2.get hx
  obtain ⟨u, hu, ru⟩ := p2.get hy
  refine ⟨⟨vs, us, v, u, .inl q1, .inl p1, hv, hu⟩, fun z H'' ⟨T, v', u', ex, hT, eH, hy1, hy2⟩ => ?_⟩
  subst ex eH
  have z1 := hy1 vs (.inl q1)
  have z2 := hy2 us (.inl p1)
  rw [hv] at z1
  rw [hu] at z2
  cases z1
  cases z2
  have st : Stp B F' H' F' (upd H' T (.tup [v, u])) := stp_new hT
  exact ⟨st, keep_upd hT, T, _, rfl, .inl upd_same, _, _, rfl, Rp.mono st x v rv, _, _, rfl, Rp.mono st y u ru, rfl⟩
end
section
variable {X : Cx} {C : Addr} {W : WX} {e e2 : Expr} {es : List Expr} {ms : M (List D)} {pos tpos p : Pos}
theorem i_zip {kk : Nat} (hg : Gl X "zip") (hm : X.mg "zip" = none) (ha : PA X [e, e2] (tDs (gx X C) W ms)) (hs : starEach [e, e2] X.env = (false, eval e X.env) :: starEach [e2] X.env := by rfl) (hpl : (backTo pos (starEach [e2] X.env)).any (·.1) = false := by rfl) :
    PI X (.Tuple es kk tpos) (.Call (.Name "zip" p) [e, e2] [] pos) (tI (gx X C) W (bnd ms zipLM)) :=
  piImp (RZ.pi_zipA hg hm ha hs hpl) fun σ H Q h => (lift1 (Ra := RDs (gx X C)) h).imp fun xs H1 ⟨B, F, env, ds, q, r⟩ => by
    cases ds with
    | nil => exact (Pt.no q).elim
    | cons d ds => cases ds with
      | nil => cases d <;> exact (Pt.no q).elim
      | cons d' ds => cases ds with
        | cons d'' ds => cases d <;> cases d' <;> exact (Pt.no q).elim
        | nil => cases d with
          | lst xs => cases d' with
            | lst ys =>
              obtain ⟨v, r', e0, ⟨a, vs, ev, hF, h1, h2⟩, v2, r2, e3, ⟨b, us, eu, hG, g1, g2⟩, rn⟩ := r
              cases (show _ = _ from rn)
              subst ev eu e3
              exact ⟨a, b, vs, us, e0, .inl ⟨SqL.of h1, SqL.of g1, Pt.pure (c := paired xs ys) q (ok_zipL hF h1 h2 hG g1 g2)⟩⟩
            | _ => exact (Pt.no q).elim
          | tup xs => cases d' with
            | tup ys =>
              obtain ⟨v, r', e0, ⟨a, vs, ev, h1, h2⟩, v2, r2, e3, ⟨b, us, eu, g1, g2⟩, rn⟩ := r
              cases (show _ = _ from rn)
              subst ev eu e3
              exact ⟨a, b, vs, us, e0, .inr ⟨.inl h1.rd, .inl g1.rd, Pt.pure (c := paired xs ys) q (ok_zipT h1.rd h2 g1.rd g2)⟩⟩
            | _ => exact (Pt.no q).elim
          | _ => exact (Pt.no q).elim
end
end DL
set_option Elab.async false
set_option linter.all false
set_option maxRecDepth 100000
set_option maxHeartbeats 2000000
namespace DL
open PySem PySem.Spec PyProof.Rows L2
variable [Tbs]
theorem ErF.put {G : Gx} {F : Addr → Prop} {H : Hp} {f : Str} {d : E1} {v : V} (rv : Er G F H d v) : ∀ {fs : List (Str × E1)} {l : List (Str × V)}, ErF G F H fs l → ErF G F H (putFE f d fs) (putF f v l)
  | [], _, h => by cases (show _ = _ from h); exact ⟨v, [], rfl, rv, rfl⟩
  | (g, x) :: r, _, ⟨w, l', e, h1, h2⟩ => by
    subst e
    show ErF G F H (if g = f then (g, d) :: r else (g, x) :: putFE f d r) (if g = f then (g, v) :: l' else (g, w) :: putF f v l')
    by_cases z : g = f
    · rw [if_pos z, if_pos z]; exact ⟨v, l', rfl, rv, h2⟩
    · rw [if_neg z, if_neg z]; exact ⟨w, _, rfl, h1, ErF.put rv h2⟩
end DL
set_option Elab.async false
set_option linter.all false
set_option maxRecDepth 100000
set_option maxHeartbeats 2000000
namespace DL
open PySem PySem.Spec PyProof.Rows L2
variable [Tbs]
end DL
set_option Elab.async false
set_option linter.all false
set_option maxRecDepth 100000
set_option maxHeartbeats 2000000
namespace DL
open PySem PySem.Spec PyProof.Rows L2
variable [Tbs]
end DL
set_option Elab.async false
set_option linter.all false
set_option maxRecDepth 100000
set_option maxHeartbeats 2000000
namespace DL
open PySem PySem.Spec PyProof.Rows L2
variable [Tbs]
theorem obsHT_eq {n : Nat} {chk : List (PySem.W.Frag → Bool)} {fn : List He.FnD} {ts : List TabH} {g : Addr → Option Obj} {s : Shared} (h : ∀ a, g a = s.heap.get? a) : obsHT n chk fn ts g = (hookHT n chk fn ts).obs s := by
  have e : g = s.heap.get? := funext h
  rw [e] <;> rfl
section
variable {chk : List (PySem.W.Frag → Bool)} {fn : List He.FnD} {ts : List TabH} {K : PySem.W.Frag} {w : World}
theorem SaysKT.tab (c : SaysKT chk fn ts w K) (i : Nat) {t : TabH} (h : ts[i]? = some t := by rfl) : He.dicW K (tabAt K t.1) = some (He.keysIn w.params t.2) := by
  have e : ts.map (fun t => He.dicW K (tabAt K t.1)) = ts.map fun t => some (He.keysIn w.params t.2) := congrArg (fun z : AlHT => z.2) c
  have e2 : (ts.map fun t => He.dicW K (tabAt K t.1))[i]? = (ts.map fun t => some (He.keysIn w.params t.2))[i]? := by rw [e]
  rw [List.getElem?_map, List.getElem?_map, h] at e2
  exact Option.some.inj e2
end
theorem keys_find {P : Params} {s : Str} : ∀ {l : List DictEntry} {ks : List Str}, l.map He.keyOf = He.keysIn P ks → s ∉ ks → l.find? (·.key.isStr s) = none ∧ l.any (·.refKey) = false
  | [], ks, h, n => ⟨rfl, rfl⟩
  | e :: r, [], h, n => by cases h
  | e :: r, k :: ks, h, n => by
    have h1 : He.keyOf e :: r.map He.keyOf = some (k, PyData.keyHash P k) :: He.keysIn P ks := h
    injection h1 with h2 h3
    obtain ⟨i1, i2⟩ := keys_find h3 fun z => n (List.mem_cons_of_mem _ z)
    unfold He.keyOf at h2
    split at h2
    · rename_i x t q
      obtain ⟨h5, h6⟩ := Prod.mk.inj (Option.some.inj h2)
      have ne : e.key.isStr s = false := by
        rw [q]
        show (x == s) = false
        exact beq_eq_false_iff_ne.mpr fun z => n (by rw [← z, h5]; exact List.mem_cons_self)
      have nr : e.refKey = false := by unfold DictEntry.refKey; rw [q]
      exact ⟨by rw [List.find?_cons, ne]; exact i1, by rw [List.any_cons, nr, i2]; rfl⟩
    · cases h2
end DL
set_option Elab.async false
set_option linter.all false
set_option maxRecDepth 100000
set_option maxHeartbeats 2000000
namespace DL
open PySem PySem.Spec PyProof.Rows L2
end DL
namespace DL
open PySem PySem.Spec PyProof.Rows L2
end DL
set_option Elab.async false
set_option linter.all false
set_option maxRecDepth 100000
set_option maxHeartbeats 2000000
namespace DL
open PySem PySem.Spec PyProof.Rows L2
end DL
set_option Elab.async false
set_option linter.all false
set_option maxRecDepth 100000
set_option maxHeartbeats 2000000
namespace DL
open PySem PySem.Spec PyProof.Rows L2
end DL
set_option Elab.async false
set_option linter.all false
set_option maxRecDepth 100000
set_option maxHeartbeats 2000000
namespace DL
open PySem PySem.Spec PyProof.Rows L2
variable [Tbs]
end DL
set_option Elab.async false
set_option linter.all false
set_option maxRecDepth 100000
set_option maxHeartbeats 2000000
namespace DL
open PySem PySem.Spec PyProof.Rows L2
end DL
set_option Elab.async false
set_option linter.all false
set_option maxRecDepth 100000
set_option maxHeartbeats 2000000
namespace DL
open PySem PySem.Spec PyProof.Rows L2
variable [Tbs]
theorem HdA.fresh {A : Around} {H : Hp} {p : Addr} {o : HO} (h : HdA A H) (hp : H p = none) : HdA A (upd H p o) := by
  have kp : ∀ b o' , H b = some o' → upd H p o b = some o' := fun b o' e => by rw [upd_ne (ne_of_none e hp)]; exact e
  obtain ⟨a, cls, d, hh, oe, vs, c, e, e1, e2, e3, e4, ch⟩ := h
  exact ⟨a, cls, d, hh, oe, vs, c, kp _ _ e, e1, e2, e3, e4, ch.mono fun b o' u e => kp _ _ e⟩
end DL
set_option Elab.async false
set_option linter.all false
set_option maxRecDepth 100000
set_option maxHeartbeats 2000000
namespace DL
open PySem PySem.Spec PyProof.Rows L2
variable [Tbs]
namespace DQ
section
variable {prog : Program} {w : World} {A : Around} {s : Shared}
theorem str_dict_l (b : Str) (u : Tok) {l : Addr} {ol : Obj} {E : Value → Shared → Prop} {Q : Fin → Shared → Prop} {es : Array DictEntry} {ep : Nat} (hl : s.heap.get? l = some ol) (hd : ol.data = .dict es ep) (h : Q (.done (.ret .notImplemented)) s) : wpAny (model prog w) A (Builtin.«str.__eq__» ⟨[.str b u, .ref l], []⟩) Q E s := by
  obtain ⟨hp, g, d, tk, os⟩ := s
  obtain ⟨cl, di, da, sl⟩ := ol
  cases (show da = _ from hd)
  wp_walk using wpAny_loadPart' hl, wpAny_load hl
  exact h
theorem dict_str_l (b : Str) (u : Tok) {l : Addr} {ol : Obj} {E : Value → Shared → Prop} {Q : Fin → Shared → Prop} (hl : s.heap.get? l = some ol) (h : Q (.done (.ret .notImplemented)) s) : wpAny (model prog w) A (Builtin.«dict.__eq__» ⟨[.ref l, .str b u], []⟩) Q E s := by
  obtain ⟨hp, g, d, tk, os⟩ := s
  have f1 : isSubtype (.type "str") (.type "dict") = pure false := by rfl
  wp_walk using wpAny_loadPart' hl, wpAny_load hl
  exact h
end
end DQ
end DL
set_option Elab.async false
set_option linter.all false
set_option maxRecDepth 100000
set_option maxHeartbeats 2000000
namespace DL
open PySem PySem.Spec PyProof.Rows L2
end DL
set_option Elab.async false
set_option linter.all false
set_option maxRecDepth 100000
set_option maxHeartbeats 2000000
namespace DL
open PySem PySem.Spec PyProof.Rows L2
/-- an inner iterator i over the items xs of l: P k where it stands, L what it walks over -/
structure Nx (prog : Program) (w : World) (i l : Addr) (P : Nat → Heap → Prop) (L : Heap → Prop) (xs : Array Value) : Prop where
  item : ∀ {A : Around} {E : Value → Shared → Prop} {s : Shared} {Q : Value → Shared → Prop} {k : Nat} {x : Value}, P k s.heap → L s.heap → xs[k]? = some x →
    (∀ h', P (k + 1) h' → Heap.SameBut i s.heap h' → Q x { s with heap := h' }) → wpAny (model prog w) A (Builtin.SmallTypes.nextOf (.ref i)) Q E s
  stop : ∀ {A : Around} {E : Value → Shared → Prop} {s : Shared} {Q : Value → Shared → Prop} {k : Nat}, A.handled = none → P k s.heap → L s.heap → xs[k]? = none →
    (∀ h' e, Heap.ExtBut i s.heap h' → (∃ o, h'.get? e = some o ∧ o.cls = .type "StopIteration") → E (.ref e) { s with heap := h' }) → wpAny (model prog w) A (Builtin.SmallTypes.nextOf (.ref i)) Q E s
  pe : ∀ {k : Nat} {h h' : Heap} {c : Addr}, P k h → Heap.ExtBut c h h' → i ≠ c → P k h'
  le : ∀ {h h' : Heap} {c : Addr}, L h → Heap.ExtBut c h h' → l ≠ c → L h'
  at_ : ∀ {k : Nat} {h h' : Heap}, P k h → (∀ o, h.get? i = some o → h'.get? i = some o) → P k h'
  ob : ∀ {k : Nat} {h : Heap}, P k h → ∃ o, h.get? i = some o ∧ ∀ v, o.data ≠ .cell v
end DL
set_option Elab.async false
set_option linter.all false
set_option maxRecDepth 100000
set_option maxHeartbeats 2000000
namespace DL
open PySem PySem.Spec PyProof.Rows L2
variable [Tbs]
end DL
set_option Elab.async false
set_option linter.all false
set_option maxRecDepth 100000
set_option maxHeartbeats 2000000
namespace DL
open PySem PySem.Spec PyProof.Rows L2
variable [Tbs]
section
variable {X : Cx} {C : Addr} {W : WX} {a : Expr} {i : Nat} {pos : Pos}
theorem e_osl {lo hi : Option Expr} {mlo mhi : M (Option Int)} {p2 : Pos} (ha : PE X a (tVar i)) (hl : PO X lo (tQ (gx X C) W mlo)) (hh : PO X hi (tQ (gx X C) W mhi)) :
    PE X (.Subscript a (.Slice lo hi none p2) pos) (tD (gx X C) W (oslM i mlo mhi)) :=
  peImp (pe_slice (r := rSls X.K) (DLt.sl_tupF.or (sl_list.or sl_str)) ha hl hh) fun σ H Q ⟨B, F, env, h⟩ => by
    obtain ⟨q, _, e1, _, _, h⟩ := Pt.getO h
    refine ⟨.ref q, e1, (h.bind (Ra := RQ) (as := []) (xs := []) rfl).imp fun l H2 ⟨F2, env2, l', p2, _, e⟩ => ?_⟩
    cases (show l' = l from e)
    refine (p2.bind (Ra := RQ) (as := []) (xs := []) rfl).imp fun u H3 ⟨F3, env3, u', p3, _, e⟩ => ?_
    cases (show u' = u from e)
    obtain ⟨q', ds, vs, e1', hv, rv, _, p4⟩ := p3.olist
    rw [e1] at e1'; cases e1'
    exact .inr (.inl ⟨q, vs, rfl, SqL.of hv, fun o ho => Pt.lst (ds := cutL ds l u) p4 (cutV_rp rv l u) ho⟩)
end
end DL
set_option Elab.async false
set_option linter.all false
set_option maxRecDepth 100000
set_option maxHeartbeats 2000000
namespace DL
open PySem PySem.Spec PyProof.Rows L2
theorem sum_rawT {prog : Program} {w : World} {A : Around} {E : Value → Shared → Prop} {s : Shared} {l : Addr} {its : List Value} {ns : List Int} {Q : Value → Shared → Prop} (hh : A.handled = none) (hl : s.heap.IsTuple l its.toArray) (hi : IntsAre its ns)
    (h : ∀ h' tk t', (∀ b o, s.heap.get? b = some o → h'.get? b = some o) → Q (.int ns.sum t') { s with heap := h', toks := tk }) : wpAny (model prog w) A (call (.builtin "sum") [.ref l]) Q E s := by
  obtain ⟨xs, e⟩ := hi.allInts.items
  have hn : numsOf (intItems xs).toList = ns := by rw [← e]; exact hi.numsOf
  rw [nums_intItems] at hn
  rw [e] at hl
  refine PySem.W.ktm_sumG hh hl fun h' tk t' hk => ?_
  have := h h' tk t' hk
  rw [preSum_eq, List.take_of_length_le (by simp), hn]; exact this
def rSumT (K : PySem.W.Frag) : List V → Hp → VK → Prop := fun vs H Q => ∃ (a : Addr) (ns : List Int), vs = [V.ref a] ∧ SqT K H a (ns.map V.int) ∧ Q (.int ns.sum) H
theorem cr_sumT {X : Cx} (hc : X.calm = true) : CallR X (.builtin "sum") (rSumT X.K) := by
  intro pins s σ H vs us Q I r h
  obtain ⟨a, ns, rfl, hs, q⟩ := h
  obtain ⟨its, rv, tp, _⟩ := I.tuple hs
  rw [Vals.ref1 r]
  exact sum_rawT (I.ok.hd hc) (show s.heap.IsTuple a its.toArray from tp) rv.ints fun h' tk t' hk => ⟨.int _, H, I.kept hk, ⟨_, rfl⟩, q⟩
variable [Tbs]
theorem fits_sumT {G : Gx} {W : WX} : FitsC G W (rSumT G.K) (un1 sumTD) := fits1 fun {σ H Q B F env x d} p r => by
  cases d with
  | tup ds =>
    cases z : intsOf ds with
    | none => simp only [sumTD, z] at p; exact (Pt.no p).elim
    | some ns =>
      simp only [sumTD, z] at p
      have e := intsOf_eq z
      subst e
      obtain ⟨a, vs, e, h1, h2⟩ := r
      subst e
      have evs := RpL.ints.mp h2
      subst evs
      exact ⟨a, ns, rfl, .inl h1.rd, p.pure (b := .int _) rfl⟩
  | _ => exact (Pt.no p).elim
end DL
set_option Elab.async false
set_option linter.all false
set_option maxRecDepth 100000
set_option maxHeartbeats 2000000
namespace DL
open PySem PySem.Spec PyProof.Rows L2
variable [Tbs]
end DL
set_option Elab.async false
set_option linter.all false
set_option maxRecDepth 100000
set_option maxHeartbeats 2000000
namespace DL
open PySem PySem.Spec PyProof.Rows L2
end DL
namespace HE
open PySem PySem.SeqAt
open MeetsSeq MeetsSeq2 MeetsSeq3 SeqRoads2
end HE
namespace DL
open PySem PySem.Spec PyProof.Rows L2 HE
end DL
set_option Elab.async false
set_option linter.all false
set_option maxRecDepth 100000
set_option maxHeartbeats 2000000
namespace DL
open PySem PySem.Spec PyProof.Rows L2
end DL
set_option Elab.async false
set_option linter.all false
set_option maxRecDepth 100000
set_option maxHeartbeats 2000000
namespace DL
open PySem PySem.Spec PyProof.Rows L2
end DL
set_option Elab.async false
set_option linter.all false
set_option maxRecDepth 100000
set_option maxHeartbeats 2000000
namespace DL
open PySem PySem.Spec PyProof.Rows L2
end DL
set_option Elab.async false
set_option linter.all false
set_option maxRecDepth 100000
set_option maxHeartbeats 2000000
namespace DL
open PySem PySem.Spec PyProof.Rows L2
end DL
set_option Elab.async false
set_option linter.all false
set_option maxRecDepth 100000
set_option maxHeartbeats 2000000
namespace DL
open PySem PySem.Spec PyProof.Rows L2
end DL
set_option Elab.async false
set_option linter.all false
set_option maxRecDepth 100000
set_option maxHeartbeats 2000000
namespace DL
open PySem PySem.Spec PyProof.Rows L2
/-- a name of the top that holds a dict of defs, by their names -/
structure TabFn (K : PySem.W.Frag) (w : World) (mg : Str → Option Value) (x : Str) (kvs : List (Str × Str)) : Prop where
  ex : ∃ d es n, mg x = some (.ref d) ∧ KDict K w d es n ∧ (∀ s f, kvs.lookup s = some f → ∃ a, PySem.W.nsIn K d s = some (some (.ref a)) ∧ mg f = some (.ref a)) ∧ ∀ s, kvs.lookup s = none → PySem.W.nsIn K d s = some none
variable [Tbs]
section
variable {X : Cx} {C : Addr} {W : WX} {b : Expr} {mb : M D} {p pos : Pos} {x : Str} {kvs : List (Str × Str)}
theorem t_gnin (T : TabFn X.K X.w X.mg x kvs) (hg : Gl X x) (hb : PE X b (tD (gx X C) W mb)) (hm : behindInMarks .NotIn (.Name x p) = false := by rfl) (hdb : (x == ("__debug__" : Str)) = false := by decide) :
    PT X (.Compare b [.NotIn] [.Name x p] pos) (tBl (gx X C) W (bnd mb fun k => bnd (gninM true kvs k) asB)) := by
  obtain ⟨d, es, n, gm, D, there, miss⟩ := T.ex
  refine ptImp (pt_cmpR (op_notIn_kd D) hb (pe_glob (v := .ref d) hg gm rfl hdb) hm) fun σ H Q ⟨B, F, env, h⟩ => ?_
  refine (h.bind (Ra := RD (gx X C)) (as := []) (xs := []) rfl).imp fun y H1 ⟨F1, env1, k, p, _, rk⟩ => ?_
  have p := p.asb
  cases k with
  | str s =>
    cases (show y = V.str s from rk)
    cases q : kvs.lookup s with
    | none => exact ⟨s, none, rfl, rfl, miss s q, by rw [show gninM true kvs (.str s) = ret (.bl (true != (kvs.lookup s).isSome)) from rfl, q] at p; exact p.pure (b := .bl true) rfl⟩
    | some f =>
      obtain ⟨a, e, _⟩ := there s f q
      exact ⟨s, _, rfl, rfl, e, by rw [show gninM true kvs (.str s) = ret (.bl (true != (kvs.lookup s).isSome)) from rfl, q] at p; exact p.pure (b := .bl false) rfl⟩
  | _ => exact (Pt.no p).elim
theorem e_gfn (T : TabFn X.K X.w X.mg x kvs) (hg : Gl X x) (hb : PE X b (tD (gx X C) W mb)) (hs : PlainIx b := by exact fun _ _ => rfl) (hdb : (x == ("__debug__" : Str)) = false := by decide) :
    PE X (.Subscript (.Name x p) b pos) (tD (gx X C) W (bnd mb (gfnM kvs))) := by
  obtain ⟨d, es, n, gm, D, there, miss⟩ := T.ex
  refine peImp (pe_ix ix_kdict (pe_glob (v := .ref d) hg gm rfl hdb) hb hs) fun σ H Q ⟨B, F, env, h⟩ => ?_
  refine (h.bind (Ra := RD (gx X C)) (as := []) (xs := []) rfl).imp fun y H1 ⟨F1, env1, k, p, _, rk⟩ => ?_
  cases k with
  | str s =>
    cases (show y = V.str s from rk)
    cases q : kvs.lookup s with
    | none => rw [show gfnM kvs (.str s) = (match kvs.lookup s with | some f => ret (.fn f) | none => fail) from rfl, q] at p; exact (Pt.no p).elim
    | some f =>
      obtain ⟨a, e, em⟩ := there s f q
      rw [show gfnM kvs (.str s) = (match kvs.lookup s with | some f => ret (.fn f) | none => fail) from rfl, q] at p
      exact ⟨d, s, .ref a, rfl, rfl, ⟨es, n, .ref a, D.at_, D.lit, e, rfl⟩, p.pure (b := .ref a) ⟨a, rfl, em⟩⟩
  | _ => exact (Pt.no p).elim
end
theorem look_memF {s i : Str} : ∀ {kvs : List (Str × Str)}, kvs.lookup s = some i → (s, i) ∈ kvs
  | (k, j) :: r, h => by
    simp only [List.lookup] at h
    cases z : s == k with
    | true => rw [z] at h; simp only at h; cases h; rw [show s = k from beq_iff_eq.mp z]; exact List.mem_cons_self
    | false => rw [z] at h; simp only at h; exact List.mem_cons_of_mem _ (look_memF h)
theorem lookup_notF {s : Str} : ∀ {kvs : List (Str × Str)}, kvs.lookup s = none → s ∉ kvs.map (·.1)
  | [], _ => by simp
  | (k, j) :: r, h => by
    simp only [List.lookup] at h
    cases z : s == k with
    | true => rw [z] at h; cases h
    | false =>
      rw [z] at h
      simp only at h
      rw [List.map_cons, List.mem_cons, not_or]
      exact ⟨beq_eq_false_iff_ne.mp z, lookup_notF h⟩
theorem tabF_of {K : PySem.W.Frag} {h : Heap} {w : World} {mg : Str → Option Value} {x : Str} {kvs : List (Str × Str)} (kin : K.In h) (G : h.Ns mainGlobals mg) (e : tabFB K x kvs = true) (t : He.dicW K (tabAt K x) = some (He.keysIn w.params (kvs.map (·.1)))) : TabFn K w mg x kvs := by
  obtain ⟨es, n, D⟩ := He.dicW_ok t
  unfold tabFB at e
  rw [Bool.and_eq_true] at e
  obtain ⟨e1, e2⟩ := e
  refine ⟨⟨_, es, n, PySem.W.mg_of kin G (of_decide_eq_true e1), D, fun s f hq => ?_, fun s hs => ?_⟩⟩
  · have := List.all_eq_true.mp e2 (s, f) (look_memF hq)
    split at this
    · rename_i a ee
      exact ⟨a, ee, PySem.W.mg_of kin G (of_decide_eq_true this)⟩
    · cases this
  · have ek : es.toList.map He.keyOf = He.keysIn w.params (kvs.map (·.1)) := by
      unfold He.dicW at t
      rw [D.at_] at t
      simp only at t
      split at t
      · exact Option.some.inj t
      · cases t
    obtain ⟨a1, a2⟩ := keys_find ek (lookup_notF hs)
    unfold PySem.W.nsIn
    rw [D.at_]
    simp only [a1, a2]
    rfl
theorem okNever {P : Program} {w : World} {K : PySem.W.Frag} {mg : Str → Option Value} {base : Heap} {k n : Nat} {f : Addr} {fd : FuncData} {ps : List Str} {G : Gx} (hn : n = ps.length) : FnG P w K mg base k f fd ps (spD G n neverF) :=
  ⟨fun vs H Q E h => h.1.trans hn, fun A outer s H args us vs Q E hr hg he hb hv h => by
    obtain ⟨_, B, F, ss, Qd, Ed, _, hm, _⟩ := h
    exact hm.elim⟩
end DL
set_option Elab.async false
set_option linter.all false
set_option maxRecDepth 100000
set_option maxHeartbeats 2000000
namespace DLsi
open PySem PySem.Spec PyProof.Rows L2
/-- the set with one number more -/
abbrev plusO (w : World) (D : Addr) (S : Int → Bool) (n : Nat) (k : Int) : HO := SetO w D (fun j => S j || decide (j = k)) (if S k = true then n else n + 1)
/-- {elt for target in iter}: what is wished -/
def tSi (w : World) (wi : TI) (g : TG) (te : TE) (vs : List Nat) : TE := fun σ H Q => wi σ H fun J H1 => ∀ D, H1 D = none →
  ∃ Wt : Nat → Nat → Hp → Prop, (∃ m, Wt 0 m (upd H1 D (SetO w D (fun _ => false) 0))) ∧ ∀ i m H2, Wt i m H2 → (J.stop i H2 ∧ Q (.ref D) H2) ∨
    (J.go i H2 ∧ ∃ Nx : Hp → Prop, (∀ H3, Nx H3 → ∃ m1, m1 < m ∧ Wt (i + 1) m1 H3) ∧ ∀ x H3, J.yld i H2 x H3 → g x (wipe σ vs) H3 fun σ4 H4 => wipe σ4 vs = wipe σ vs ∧
      te σ4 H4 fun y H5 => ∃ (k : Int) (S : Int → Bool) (n : Nat), y = .int k ∧ H5 D = some (SetO w D S n) ∧ n + 1 < scanBound ∧ Nx (upd H5 D (plusO w D S n k)))
section
variable {X : Cx}
theorem pe_si {elt tg iter : Expr} {scope : Scope} {own : List (Str × Nat)} {pos : Pos} {wi : TI} {g : TG} {te : TE} (hc : X.calm = true) (hN : X.N.Nodup) (hi : PI X tg iter wi) (ok : BlkOk X.N X.env.scope scope own)
    (hg : ∀ (s : Shared) (H : Hp) (c : Addr) (cl : List (Str × Addr)) (fp : List Addr), PG (X.blk s H scope (compEnvC scope cl c X.env) fp) tg g)
    (he : ∀ (s : Shared) (H : Hp) (c : Addr) (cl : List (Str × Addr)) (fp : List Addr), PE (X.blk s H scope (compEnvC scope cl c X.env) fp) elt te)
    (hfs : ∀ x, foldedSetIterable iter X.env x = pure x := by intro _; rfl) : PE X (.SetComp elt [⟨tg, iter, [], 0⟩] scope pos) (tSi X.w wi g te (own.map (·.2))) := by
  refine ⟨fun pins s σ H Q I h => ?_⟩
  rw [PpSet.eval_SetComp]
  have hfree : ∀ y ∈ scope.names, y.2 = .free → ∃ c, X.env.cells.lookup y.1 = some c := fun y hy e => (ok.free y hy e).elim (fun k => I.ok.has _ (.inl k)) fun k => I.ok.has _ (.inr k)
  refine wpAny_comprehension_free (use := none) rfl hfs (closure_ok hfree) ok.kind (fun y hy e => by rw [ok.uniq y hy, e]) (thn (hi.run pins s σ H _ I h) fun xv s1 hx => thn hx fun itv s2 ⟨it, fp, tn, J, H2, e, I2, T, st2, f2, q⟩ => ?_)
  subst e
  refine PpSet.newSet_ok (newEnv_comp ?_)
  -- the new set at D
  generalize hD : s2.heap.objs.size = D
  obtain ⟨Wt, ⟨m0, w0⟩, turn⟩ := q D (I2.hok.fresh (Nat.le_of_eq hD))
  let ob : Obj := { cls := .type "set", dict := none, data := .set #[] 0 (.fresh 0 0 (!X.w.params.followText "set-order")) }
  generalize hs3 : ({ s2 with heap := s2.heap.push ob } : Shared) = s3
  have h3 : s3.heap = s2.heap.push ob := by rw [← hs3]
  have I3 : Inv X pins σ (upd H2 D (SetO X.w D (fun _ => false) 0)) s3 := by
    rw [← hs3, ← hD]
    exact I2.laid (t' := s2.toks) (fun b o e => Heap.get?_push_of_some _ e) (Nat.le_refl _) (setO_new (setR_fresh X.w))
  generalize hH3 : upd H2 D (SetO X.w D (fun _ => false) 0) = H3 at I3 w0
  have f3 : ∀ b ∈ fp, FpOk X pins H3 b ∧ b < s3.heap.objs.size := fun b hb => by
    obtain ⟨o, e, _⟩ := T.obj _ _ st2 b hb
    have lt := Heap.lt_size e
    refine ⟨⟨?_, (f2 b hb).2⟩, by rw [h3, Heap.size_push]; exact Nat.lt_succ_of_lt lt⟩
    rw [← hH3, upd_ne (by rw [← hD]; exact Nat.ne_of_lt lt)]
    exact (f2 b hb).1
  have st3 : tn 0 s3.heap := T.keep _ _ _ st2 fun b _ o e => by rw [h3]; exact Heap.get?_push_of_some _ e
  -- the block
  let cl := cellsFrom (s3.heap.objs.size + 1) scope.names (cloFrom X.env.cells scope.names [])
  have I4 := block_start I3 ok hN f3
  have pg := hg s3 H3 s3.heap.objs.size cl fp
  have pe := he s3 H3 s3.heap.objs.size cl fp
  show codeAny _ _ (.compStart (.SetComp elt [⟨tg, iter, [], 0⟩] scope pos) 0 (.ref it) (.ref D) (compEnvC scope cl s3.heap.objs.size X.env)) (compPost (model X.prog X.w) X.A X.xe none _ (.ref D) s3.heap.objs.size) { s3 with heap := pushCells (s3.heap.push { cls := .type "dict", data := .dict #[] }) scope.names }
  have nfp : ∀ b ∈ fp, H3 b = none := fun b hb => (f3 b hb).1.1
  generalize hce : compEnvC scope cl s3.heap.objs.size X.env = ce at pg pe ⊢
  have I4 : Inv (X.blk s3 H3 scope ce fp) [] (wipe σ (own.map (·.2))) H3 { s3 with heap := pushCells (s3.heap.push { cls := .type "dict", data := .dict #[] }) scope.names } := by rw [← hce]; exact I4
  have cL : ce.locals = s3.heap.objs.size := by subst hce; rfl
  generalize hs4 : ({ s3 with heap := pushCells (s3.heap.push { cls := .type "dict", data := .dict #[] }) scope.names } : Shared) = s4 at I4 ⊢
  have st4 : tn 0 s4.heap := T.keep _ _ _ st3 fun b _ o e => by rw [← hs4]; exact pushCells_keeps _ _ _ _ (Heap.get?_push_of_some _ e)
  let Y : Cx := X.blk s3 H3 scope ce fp
  have stat : ∀ {σ5 : L2.St} {H5 : Hp} {s5 : Shared}, Inv Y [] σ5 H5 s5 → (∀ b ∈ fp, H5 b = none) → ∀ b ∈ fp, FpOk Y [] H5 b := fun {σ5 H5 s5} J5 hn b hb =>
    ⟨hn b hb, (J5.ok.exf b hb).1, J5.ok.exfs b hb, .inl hb, fun x c e => (J5.ok.exf b hb).2 x c e, fun p hp => absurd (show p ∈ ([] : List (Addr × Obj)) ++ [] from hp) (by simp)⟩
  let Lp : Nat → Shared → Prop := fun n s5 => ∃ i H5, Inv Y [] (wipe σ (own.map (·.2))) H5 s5 ∧ tn i s5.heap ∧ (∀ b ∈ fp, H5 b = none) ∧ Wt i n H5
  refine PpSet.codeAny_compStart_set ?_ (T.self X.A 0 _ _ _ st4 ?_) <;>
  · refine PpSet.compLoopS_any Lp ?_ m0 ⟨0, H3, I4, st4, nfp, w0⟩
    rintro n s5 ⟨i, H5, I5, st5, n5, w5⟩
    rcases turn i n H5 w5 with ⟨stop, qq⟩ | ⟨go, Nx, hNx, step⟩
    · refine thnF (T.done Y rfl rfl rfl hc i [] s5 _ H5 (fun _ _ => False) I5 (stat I5 n5) st5 stop) fun r s6 ⟨hr, I6⟩ => ?_
      subst hr
      have I7 : Inv X pins σ H5 s6 := I3.call' (ch := fp) I6.os I6.base I6.hok I6.bare fun b hb => ⟨(f3 b hb).1.2.2.2.1, (f3 b hb).1.2.1, (f3 b hb).1.2.2.2.2.1, (f3 b hb).1.2.2.2.2.2⟩
      have nC : H5 s3.heap.objs.size = none := by
        have z : H5 ce.locals = none := I6.free
        rw [cL] at z; exact z
      obtain ⟨m, hn, _⟩ := I6.loc
      have hn : s6.heap.Ns ce.locals m := hn
      rw [cL] at hn
      obtain ⟨f0, f1, f2', f4, f5, f6⟩ := I3.fpOk (H' := H5) (Nat.le_refl _) nC
      exact ⟨m, hn, fun h7 sb => ⟨.ref D, H5, I7.turned (t' := s6.toks) (fun b o hb e => (sb.2 b hb).trans e) f0 f1 f4 f5 f6, rfl, qq⟩⟩
    · refine thnF (T.item Y rfl rfl rfl hc i [] s5 _ H5 (fun _ _ => False) I5 (stat I5 n5) st5 go) fun r s6 ⟨u, hr, h6⟩ => ?_
      subst hr
      refine thnF h6 fun _ s7 ⟨x, H7, I7, r7, y7, st7, n7⟩ => ?_
      refine thnF (pg.run _ s7 _ H7 x u _ (I7.pinned (stat I7 n7) (T.obj _ _ st7)) r7 (step x H7 y7)) fun _ s8 ⟨σ8, H8, I8, hw8, q8⟩ => ?_
      refine wpAny_tests_nil ?_
      rw [if_pos rfl]
      refine thnF (pe.run _ s8 σ8 H8 _ I8 q8) fun z s9 ⟨yv, H9, I9, r9, k, S, n9, ey, hD9, hz9, nx⟩ => ?_
      subst ey
      refine thnF (mt_sadd (X := Y) _ s9 σ8 H9 (.ref D) [.int k] (.ref D) [z] (fun _ H' => H' = upd H9 D (plusO X.w D S n9 k)) I9 rfl (.cons r9 .nil) ⟨D, k, S, n9, rfl, rfl, hD9, hz9, rfl⟩) fun _ s10 ⟨_, H10, I10, _, e10⟩ => ?_
      subst e10
      -- the turn's end
      obtain ⟨m1, hm, w10⟩ := hNx _ nx
      have still : ∀ b ∈ fp, ∀ o, s7.heap.get? b = some o → s10.heap.get? b = some o ∧ (upd H9 D (plusO X.w D S n9 k)) b = none := fun b hb o e =>
        let z := I10.pin (b, o) (List.mem_append_right _ (List.mem_append_right _ (mem_pinsAt hb e)))
        ⟨z.1, z.2.1⟩
      refine ⟨m1, hm, i + 1, _, (I10.unpinned (pins := [])).weak (by rw [← hw8, wipe_length]) (fun j v e => ?_), T.keep _ _ _ st7 fun b hb o e => (still b hb o e).1, fun b hb => ?_, w10⟩
      · rw [← hw8] at e
        exact (wipe_some e).1
      · obtain ⟨o, e, _⟩ := T.obj _ _ st7 b hb
        exact (still b hb o e).2
end
end DLsi
namespace DL
open PySem PySem.Spec PyProof.Rows L2
variable [Tbs]
theorem onces_take (ns : List Int) (i : Nat) (h : i < ns.length) : onces (ns.take (i + 1)) = onceI (onces (ns.take i)) ns[i] := by
  unfold onces
  rw [List.take_succ_eq_append_getElem h, List.foldl_append]
  rfl
theorem onceI_in (acc : List Int) (k : Int) : (fun j => acc.any (· == j) || decide (j = k)) = fun j => (onceI acc k).any (· == j) := by
  funext j
  unfold onceI
  by_cases h : acc.any (· == k) = true
  · rw [if_pos h]
    by_cases e : j = k
    · subst e; rw [h]; rfl
    · rw [decide_eq_false e, Bool.or_false]
  · rw [if_neg h, List.any_append]
    have e : [k].any (· == j) = decide (j = k) := by
      rw [List.any_cons, List.any_nil, Bool.or_false]
      by_cases e : j = k
      · subst e; simp
      · rw [decide_eq_false e]; exact beq_eq_false_iff_ne.mpr fun z => e z.symm
    rw [e]
theorem onceI_len (acc : List Int) (k : Int) : (if acc.any (· == k) = true then acc.length else acc.length + 1) = (onceI acc k).length := by
  unfold onceI
  split <;> simp
section
variable {X : Cx} {C : Addr} {W : WX} {a : Expr} {ma : M D} {p p2 q pos : Pos}
/-- len(set(list)) -/
theorem e_lenSl (hc : X.calm = true) (hg : Gl X "len") (hm : X.mg "len" = none) (hg2 : Gl X "set") (hm2 : X.mg "set" = none) (ha : PE X a (tD (gx X C) W ma))
    (na : starEach [a] X.env = (false, eval a X.env) :: starEach [] X.env := by rfl) : PE X (.Call (.Name "len" p) [.Call (.Name "set" p2) [a] [] q] [] pos) (tD (gx X C) W (manyM ma)) := by
  refine ⟨fun pins s σ H Q I h => ?_⟩
  refine Call_ (ld_blt I hg hm boot_len ?_)
  refine PyProof.Rows.callWith_builtin1 (PyProof.Rows.args_cons ?_ rfl) rfl rfl
  refine Call_ (ld_blt I hg2 hm2 boot_set ?_)
  refine PyProof.Rows.callWith_type1 (PyProof.Rows.args_cons (thn (ha.run pins s σ H _ I (lift1 (Ra := RD (gx X C)) h)) fun v s1 ⟨x, H1, I1, r1, B, F, env, d, pt, rd⟩ => PyProof.Rows.args_nil ?_) na) na rfl
  cases d with
  | lst ds =>
    have pt : Pt (gx X C) W (RD (gx X C)) σ H1 Q (match intsOf ds with
      | some ns => ask (ns.length ≤ 4000) (ret (.int ((onces ns).length : Nat)))
      | none => fail) B F env := pt
    cases z : intsOf ds with
    | none => rw [z] at pt; exact (Pt.no pt).elim
    | some ns =>
      rw [z] at pt
      obtain ⟨hl, ptA⟩ := pt.asked
      have e := intsOf_eq z
      subst e
      obtain ⟨l, vs, ex, _, h1, h2⟩ := rd
      subst ex
      cases RpL.ints.mp h2
      obtain rfl : v = Value.ref l := r1
      obtain ⟨its, rv, pl, hz⟩ := I1.list (SqL.of h1)
      have hi : IntsAre its.toArray.toList ns := ints_of_vals rv
      have hn : its.length = ns.length := by have := rv.length; rw [List.length_map] at this; exact this.symm
      refine call_set_list (I1.ok.hd hc) pl.isList hi (by simp only [List.size_toArray]; unfold scanBound; omega) fun h' tk hS hk => ?_
      refine PyProof.Rows.args_nil ?_
      obtain ⟨o, es, ep, t, ho, hex, hd, _, _, _, hf, hsz⟩ := hS
      have em : firstMet (fun i => ns.getD i 0) its.toArray.size = onces ns := by
        unfold firstMet onces
        have e : (List.range its.toArray.size).map (fun i => ns.getD i 0) = ns := by
          refine List.ext_getElem (by simp [hn]) fun i h1 h2 => ?_
          simp [List.getD_eq_getElem?_getD, List.getElem?_eq_getElem h2]
        rw [e]
        rfl
      rw [em] at hsz
      have lo := onces_len ns []
      have lo : (onces ns).length ≤ ns.length := by unfold onces; simpa using lo
      have I2 : Inv X pins σ H1 { s1 with heap := h', toks := tk } := I1.kept fun b u e => hk b u (Heap.lt_size e) e
      have pq : Q (V.int ((onces ns).length : Nat)) H1 := Pt.pure ptA rfl
      exact call_len_set ho hex hd hf (by omega) ⟨V.int ((onces ns).length : Nat), H1, I2.tok _, ⟨_, by rw [hsz]⟩, pq⟩
  | _ => exact (Pt.no pt).elim
end
section
variable {X : Cx} {C : Addr} {W : WX} {tg iter elt : Expr} {ma : M D} {p pos pos2 : Pos} {scope : Scope} {y : Str} {k : Nat}
def tVarL (k : Nat) : TE := fun σ H Q => k < σ.length → ∃ v, σ[k]? = some (some v) ∧ Q v H
theorem pe_varL {X : Cx} {e : Expr} (hk : k < X.N.length) (h : PE X e (tVar k)) : PE X e (tVarL k) := ⟨fun pins s σ H Q I q => h.run pins s σ H Q I (q (by rw [I.len]; exact hk))⟩
theorem si_reads {σ : L2.St} {H : Hp} {Q : V → Hp → Prop} (h : Lift (gx X C) W (RD (gx X C)) (manyM ma) σ H Q) :
    DLsi.tSi X.w (iList X.K (tD (gx X C) W ma)) (gName k) (tVarL k) [k] σ H fun v H2 => ∃ D S n, v = .ref D ∧ H2 D = some (SetO X.w D S n) ∧ n ≤ 4000 ∧ Q (.int (n : Nat)) H2 := by
  refine (lift1 (Ra := RD (gx X C)) h).imp fun x H1 ⟨B, F, env, d, pt, rd⟩ => ?_
  cases d with
  | lst ds =>
    have pt : Pt (gx X C) W (RD (gx X C)) σ H1 Q (match intsOf ds with
      | some ns => ask (ns.length ≤ 4000) (ret (.int ((onces ns).length : Nat)))
      | none => fail) B F env := pt
    cases z : intsOf ds with
    | none => rw [z] at pt; exact (Pt.no pt).elim
    | some ns =>
      rw [z] at pt
      obtain ⟨hl, Qd, Ed, rel, hm, hq, he⟩ := pt.asked
      have e := intsOf_eq z
      subst e
      obtain ⟨l, vs, ex, _, h1, h2⟩ := rd
      cases RpL.ints.mp h2
      have lo : (onces ns).length ≤ ns.length := by have := onces_len ns []; unfold onces; simpa using this
      refine ⟨l, ex, ⟨_, SqL.of h1⟩, fun D hD => ?_⟩
      have nl : l ≠ D := fun w => by rw [w, hD] at h1; cases h1
      let Ob : Nat → HO := fun i => SetO X.w D (fun j => (onces (ns.take i)).any (· == j)) (onces (ns.take i)).length
      have sq : ∀ i, SqL X.K (upd H1 D (Ob i)) l (ns.map V.int) := fun i => SqL.of (by rw [upd_ne nl]; exact h1)
      refine ⟨fun i m H2 => m = ns.length - i ∧ i ≤ ns.length ∧ H2 = upd H1 D (Ob i), ⟨_, rfl, Nat.zero_le _, rfl⟩, ?_⟩
      rintro i m H2 ⟨rfl, hi, rfl⟩
      by_cases hlt : i < ns.length
      · have hx : (ns.map V.int)[i]? = some (V.int ns[i]) := by rw [List.getElem?_map, List.getElem?_eq_getElem hlt]; rfl
        refine .inr ⟨⟨_, _, sq i, hx⟩, fun H3 => i + 1 ≤ ns.length ∧ H3 = upd H1 D (Ob (i + 1)), fun H3 ⟨w1, w2⟩ => ⟨ns.length - (i + 1), by omega, rfl, w1, w2⟩, fun x H3 ⟨e3, hy⟩ => ?_⟩
        subst e3
        have ey := hy _ (sq i)
        rw [hx] at ey
        cases ey
        refine ⟨by simp [L2.wipe, List.set_set], fun hk => ⟨V.int ns[i], by rw [List.getElem?_set_self (by simpa [L2.wipe] using hk)], ns[i], _, _, rfl, upd_same, ?_, hlt, ?_⟩⟩
        · have q1 := onces_len (ns.take i) []
          have q1 : (onces (ns.take i)).length ≤ ns.length := by unfold onces; simp at q1 ⊢; omega
          unfold scanBound; omega
        · show upd (upd H1 D (Ob i)) D _ = upd H1 D (SetO X.w D _ _)
          rw [onces_take ns i hlt, ← onceI_in, ← onceI_len]
          funext b
          unfold upd
          split <;> rfl
      · have e : i = ns.length := by omega
        subst e
        refine .inl ⟨⟨_, sq _, by simp⟩, D, _, _, rfl, upd_same, ?_, ?_⟩
        · rw [List.take_length]; omega
        · rw [List.take_length]
          exact hq (.int ((onces ns).length : Nat)) env _ F _ hm (stp_new hD) (rel.new hD) rfl
  | _ => exact (Pt.no pt).elim
/-- len({x for x in list}) -/
theorem e_lenSc {elt tg : Expr} (hc : X.calm = true) (hg0 : Gl X "len") (hm0 : X.mg "len" = none) (hN : X.N.Nodup) (ok : BlkOk X.N X.env.scope scope [(y, k)]) (ha : PE X iter (tD (gx X C) W ma)) (hk : k < X.N.length)
    (hg : ∀ (s : Shared) (H : Hp) (c : Addr) (cl : List (Str × Addr)) (fp : List Addr), PG (X.blk s H scope (compEnvC scope cl c X.env) fp) tg (gName k))
    (he : ∀ (s : Shared) (H : Hp) (c : Addr) (cl : List (Str × Addr)) (fp : List Addr), PE (X.blk s H scope (compEnvC scope cl c X.env) fp) elt (tVar k))
    (hfs : ∀ x, foldedSetIterable iter X.env x = pure x := by intro _; rfl) : PE X (.Call (.Name "len" p) [.SetComp elt [⟨tg, iter, [], 0⟩] scope pos2] [] pos) (tD (gx X C) W (manyM ma)) := by
  refine ⟨fun pins s σ H Q I h => ?_⟩
  refine Call_ (ld_blt I hg0 hm0 boot_len ?_)
  refine PyProof.Rows.callWith_builtin1 (PyProof.Rows.args_cons (thn ((DLsi.pe_si hc hN (pi_list ha) ok hg (fun s H c cl fp => pe_varL hk (he s H c cl fp)) hfs).run pins s σ H _ I (si_reads h)) fun v s1 ⟨x, H1, I1, r1, D, S, n, ex, hD, hn, hq⟩ => PyProof.Rows.args_nil ?_) rfl) rfl rfl
  subst ex
  obtain rfl : v = Value.ref D := r1
  obtain ⟨o, es, ep, t, ho, hex, hd, _, _, _, _, hf, hsz, _, _⟩ := setO_get I1 hD
  exact call_len_set ho hex hd hf (by omega) ⟨V.int (n : Nat), H1, I1.tok _, ⟨_, by rw [hsz]⟩, hq⟩
end
end DL
namespace DL
open PySem PySem.Spec PyProof.Rows L2
variable [Tbs]
namespace DQ
section
variable {prog : Program} {w : World} {A : Around} {s : Shared}
theorem str_dict_ln (b : Str) (u : Tok) {l : Addr} {ol : Obj} {E : Value → Shared → Prop} {Q : Fin → Shared → Prop} {es : Array DictEntry} {ep : Nat} (hl : s.heap.get? l = some ol) (hd : ol.data = .dict es ep) (h : Q (.done (.ret .notImplemented)) s) : wpAny (model prog w) A (Builtin.«str.__ne__» ⟨[.str b u, .ref l], []⟩) Q E s := by
  obtain ⟨hp, g, d, tk, os⟩ := s
  obtain ⟨cl, di, da, sl⟩ := ol
  cases (show da = _ from hd)
  wp_walk using wpAny_loadPart' hl, wpAny_load hl
  exact h
theorem dict_str_ln (b : Str) (u : Tok) {l : Addr} {ol : Obj} {E : Value → Shared → Prop} {Q : Fin → Shared → Prop} (hl : s.heap.get? l = some ol) (h : Q (.done (.ret .notImplemented)) s) : wpAny (model prog w) A (Builtin.«dict.__ne__» ⟨[.ref l, .str b u], []⟩) Q E s := by
  obtain ⟨hp, g, d, tk, os⟩ := s
  have f1 : isSubtype (.type "str") (.type "dict") = pure false := by rfl
  wp_walk using wpAny_loadPart' hl, wpAny_load hl
  exact h
/-- {} == text -/
theorem eq_emp_str (b : Str) (u : Tok) {l : Addr} {ol : Obj} (hl : s.heap.get? l = some ol) {es : Array DictEntry} {ep : Nat} (hc : ol.cls = .type "dict") (hd : ol.data = .dict es ep) (hu : A.units < cLine) {E Q : Value → Shared → Prop} (h : Q (.bool false) s) :
    wpAny (model prog w) A (compareOp .Eq (.ref l) (.str b u)) Q E s := by
  show wpAny _ A (richCompare .Eq (.ref l) (.str b u)) Q E s
  exact SeqAt.rc_eq_decline_or (k := false) ⟨_, hl, hc⟩ (typeIs_str s b u) (by decide) (by rfl) PySem.F.slot_dict_eq PySem.F.slot_str_eq
    (fun _ hq => wpAny_call_entry PySem.F.slot_dict_eq ⟨_, hl, hc⟩ PySem.F.entry_dict_eq (dict_str_l b u hl ⟨_, rfl, hq⟩) (PySem.F.args_dict_eq_2 _ _))
    (fun _ hq => wpAny_call_entry PySem.F.slot_str_eq (typeIs_str s b u) PySem.F.entry_str_eq (str_dict_l b u hl hd ⟨_, rfl, hq⟩) (PySem.F.args_str_eq_2 _ _))
    (fun _ hq => wpAny_of_eq (rfl : isSame (.ref l) (.str b u) = pure false) hq) (.inr hu) h
/-- {} != text -/
theorem ne_emp_str (b : Str) (u : Tok) {l : Addr} {ol : Obj} (hl : s.heap.get? l = some ol) {es : Array DictEntry} {ep : Nat} (hc : ol.cls = .type "dict") (hd : ol.data = .dict es ep) (hu : A.units < cLine) {E Q : Value → Shared → Prop} (h : Q (.bool true) s) :
    wpAny (model prog w) A (compareOp .NotEq (.ref l) (.str b u)) Q E s := by
  show wpAny _ A (richCompare .NotEq (.ref l) (.str b u)) Q E s
  exact SeqAt.rc_ne_decline_or (k := false) ⟨_, hl, hc⟩ (typeIs_str s b u) (by decide) (by rfl) PySem.F.slot_dict_ne PySem.F.slot_str_ne
    (fun _ hq => wpAny_call_entry PySem.F.slot_dict_ne ⟨_, hl, hc⟩ PySem.F.entry_dict_ne (dict_str_ln b u hl ⟨_, rfl, hq⟩) (PySem.F.args_dict_ne_2 _ _))
    (fun _ hq => wpAny_call_entry PySem.F.slot_str_ne (typeIs_str s b u) PySem.F.entry_str_ne (str_dict_ln b u hl hd ⟨_, rfl, hq⟩) (PySem.F.args_str_ne_2 _ _))
    (fun _ hq => wpAny_of_eq (rfl : isSame (.ref l) (.str b u) = pure false) hq) (.inr hu) h
end
end DQ
/-- a list, a tuple, or the empty dict at q -/
def Kq (K : PySem.W.Frag) (H : Hp) (q : Addr) : Prop := (∃ us, SqL K H q us) ∨ (∃ us, SqT K H q us) ∨ H q = some (.dK [])
def rEqQ (neg : Bool) (K : PySem.W.Frag) : R2 := fun x y H Q => (∃ q t, x = .ref q ∧ y = .str t ∧ Kq K H q ∧ Q (.bl neg) H) ∨ ∃ p q xs, x = .ref p ∧ y = .ref q ∧ SqT K H p xs ∧ SqT K H q [] ∧ Q (.bl (neg != xs.isEmpty)) H
theorem size_empty {xs : List V} {its : List Value} (r : Vals xs its) : xs.isEmpty = (its.length == 0) := by
  have := r.length
  cases xs <;> cases its <;> simp_all
theorem op_eqQ {X : Cx} (hu : X.A.units + 100 < cLine) : OpR X (compareOp .Eq) (fun x y H Q => rEqs X.K x y H Q ∨ rEqQ false X.K x y H Q) := by
  intro pins s σ H x y v u Q I rx ry h
  have hu1 : X.A.units < cLine := by omega
  rcases h with h | ⟨q, t, rfl, rfl, kd, h⟩ | ⟨p, q, xs, rfl, rfl, hp, hq, h⟩
  · exact op_eqs (by omega) pins s σ H x y v u Q I rx ry h
  · cases rx
    obtain ⟨tk, rfl⟩ := ry
    rcases kd with ⟨us, k1⟩ | ⟨us, k1⟩ | k1
    · obtain ⟨its2, _, pl2, _⟩ := I.list k1
      exact SeqAt.RcAt.list_str t tk pl2.isList hu1 _ _ _ _ ⟨.bl false, H, I, rfl, h⟩
    · obtain ⟨its2, _, pl2, _⟩ := I.tuple k1
      exact SeqAt.RcAt.tuple_str t tk pl2 hu1 _ _ _ _ ⟨.bl false, H, I, rfl, h⟩
    · obtain ⟨_, _, _, _, ol, _, _, la, hc, hd, _⟩ := dk_of I.hok k1
      exact DQ.eq_emp_str t tk la hc.1 hd hu1 ⟨.bl false, H, I, rfl, h⟩
  · cases rx
    cases ry
    obtain ⟨its, r1, pl, _⟩ := I.tuple hp
    obtain ⟨its2, r2, pl2, _⟩ := I.tuple hq
    cases r2
    refine SeqAt.RcAt.tuples (e := fun _ => false) pl pl2 hu1 (fun j h1 h2 => absurd h2 (by simp)) _ _ _ _ ⟨.bl _, H, I, rfl, ?_⟩
    have e := size_empty r1
    simpa [e] using h
theorem op_neQ {X : Cx} (hu : X.A.units + 100 < cLine) : OpR X (compareOp .NotEq) (fun x y H Q => rNes X.K x y H Q ∨ rEqQ true X.K x y H Q) := by
  intro pins s σ H x y v u Q I rx ry h
  have hu1 : X.A.units < cLine := by omega
  rcases h with h | ⟨q, t, rfl, rfl, kd, h⟩ | ⟨p, q, xs, rfl, rfl, hp, hq, h⟩
  · exact op_nes (by omega) pins s σ H x y v u Q I rx ry h
  · cases rx
    obtain ⟨tk, rfl⟩ := ry
    rcases kd with ⟨us, k1⟩ | ⟨us, k1⟩ | k1
    · obtain ⟨its2, _, pl2, _⟩ := I.list k1
      exact SeqAt.RcNeAt.list_str t tk pl2.isList hu1 _ _ _ _ ⟨.bl true, H, I, rfl, h⟩
    · obtain ⟨its2, _, pl2, _⟩ := I.tuple k1
      exact SeqAt.RcNeAt.tuple_str t tk pl2 hu1 _ _ _ _ ⟨.bl true, H, I, rfl, h⟩
    · obtain ⟨_, _, _, _, ol, _, _, la, hc, hd, _⟩ := dk_of I.hok k1
      exact DQ.ne_emp_str t tk la hc.1 hd hu1 ⟨.bl true, H, I, rfl, h⟩
  · cases rx
    cases ry
    obtain ⟨its, r1, pl, _⟩ := I.tuple hp
    obtain ⟨its2, r2, pl2, _⟩ := I.tuple hq
    cases r2
    refine SeqAt.RcNeAt.tuples (e := fun _ => false) pl pl2 hu1 (fun j h1 h2 => absurd h2 (by simp)) _ _ _ _ ⟨.bl _, H, I, rfl, ?_⟩
    have e := size_empty r1
    simpa [e] using h
theorem empty_rp {G : Gx} {F : Addr → Prop} {H : Hp} {ds : List D} {vs : List V} (h : RpL G F H ds vs) : vs.isEmpty = ds.isEmpty := by
  have := RpL.length h
  cases ds <;> cases vs <;> simp_all
theorem fits_eqQ {G : Gx} {W : WX} : Fits G W (fun x y H Q => rEqs G.K x y H Q ∨ rEqQ false G.K x y H Q) eqQ := by
  intro σ H Q B F env x y a b h ra rb
  unfold eqQ at h
  split at h
  · obtain ⟨q, us, e, k1, _⟩ := ra; cases rb; subst e; exact .inr (.inl ⟨q, _, rfl, rfl, .inr (.inl ⟨us, .inl k1.rd⟩), h.pure (b := V.bl false) rfl⟩)
  · obtain ⟨q, us, e, _, k1, _⟩ := ra; cases rb; subst e; exact .inr (.inl ⟨q, _, rfl, rfl, .inl ⟨us, SqL.of k1⟩, h.pure (b := V.bl false) rfl⟩)
  · obtain ⟨q, e, _, k1⟩ := ra; cases rb; subst e; exact .inr (.inl ⟨q, _, rfl, rfl, .inr (.inr k1), h.pure (b := V.bl false) rfl⟩)
  · obtain ⟨q, us, e, k1, k2⟩ := ra
    obtain ⟨p, us2, e2, m1, m2⟩ := rb
    subst e e2
    cases (show us2 = [] from m2)
    exact .inr (.inr ⟨q, p, us, rfl, rfl, .inl k1.rd, .inl m1.rd, by rw [empty_rp k2]; exact h.pure (b := V.bl _) (by simp [RD, Rp])⟩)
  · exact .inl (fits_eq h ra rb)
theorem fits_neQ {G : Gx} {W : WX} : Fits G W (fun x y H Q => rNes G.K x y H Q ∨ rEqQ true G.K x y H Q) neQ := by
  intro σ H Q B F env x y a b h ra rb
  unfold neQ at h
  split at h
  · obtain ⟨q, us, e, k1, _⟩ := ra; cases rb; subst e; exact .inr (.inl ⟨q, _, rfl, rfl, .inr (.inl ⟨us, .inl k1.rd⟩), h.pure (b := V.bl true) rfl⟩)
  · obtain ⟨q, us, e, _, k1, _⟩ := ra; cases rb; subst e; exact .inr (.inl ⟨q, _, rfl, rfl, .inl ⟨us, SqL.of k1⟩, h.pure (b := V.bl true) rfl⟩)
  · obtain ⟨q, e, _, k1⟩ := ra; cases rb; subst e; exact .inr (.inl ⟨q, _, rfl, rfl, .inr (.inr k1), h.pure (b := V.bl true) rfl⟩)
  · obtain ⟨q, us, e, k1, k2⟩ := ra
    obtain ⟨p, us2, e2, m1, m2⟩ := rb
    subst e e2
    cases (show us2 = [] from m2)
    exact .inr (.inr ⟨q, p, us, rfl, rfl, .inl k1.rd, .inl m1.rd, by rw [empty_rp k2]; exact h.pure (b := V.bl _) (by simp [RD, Rp])⟩)
  · exact .inl (fits_ne h ra rb)
end DL
set_option Elab.async false
set_option linter.all false
set_option maxRecDepth 100000
set_option maxHeartbeats 2000000
namespace DL
open PySem PySem.Spec PyProof.Rows L2
variable [Tbs]
section
variable {X : Cx} {C : Addr} {W : WX} {a c : Expr} {ma : M D} {pos p : Pos}
theorem tyX_of0 {F : Addr → Prop} {H : Hp} {d : D} {v : V} {t : TK} (r : Rp (gx X C) F H d v) (h : d.kind = some t) (nh : t ≠ .hall) : TyX X.K H v (t.u C) := by
  cases d with
  | non => cases h; cases (show _ = _ from r); exact .base .non
  | bl _ => cases h; cases (show _ = _ from r); exact .base (.bl _)
  | int _ => cases h; cases (show _ = _ from r); exact .base (.int _)
  | str _ => cases h; cases (show _ = _ from r); exact .base (.str _)
  | byt _ => cases h; cases (show _ = _ from r); exact .byt _
  | tup _ => cases h; obtain ⟨q, vs, e, ⟨_, ob, h1, _⟩, _⟩ := r; subst e; exact .fTuple h1
  | pr _ =>
    cases h
    obtain ⟨q, vs, e, h1, _⟩ := r
    subst e
    rcases h1 with h1 | ⟨ob, h1⟩
    · exact .base (.tup h1)
    · exact .fTuple h1
  | lst _ => cases h; obtain ⟨q, vs, e, _, h1, _⟩ := r; subst e; exact .base (.lst h1)
  | hall g s => cases h; exact absurd rfl nh
  | scr _ => cases h
  | emp => cases h; obtain ⟨q, e, _, h1⟩ := r; subst e; exact .base (.dK h1)
  | exn _ _ _ => cases h
  | dct _ _ => cases h
  | fn _ => cases h
  | dcn _ _ => cases h
theorem kit0 {K : PySem.W.Frag} {C : Addr} : ∀ (c : CT) (t : TK), c ≠ .hall → t ≠ .hall → PySem.W.kitOne K (TK.u C t) (CT.u C c) = some (CT.is c t) := fun c t h1 h2 => by
  cases c <;> cases t <;> first | exact absurd rfl h1 | exact absurd rfl h2 | exact kit_ty (by decide +kernel)
theorem e_isi0 {ct : CT} (nh : ct ≠ .hall) (hg : Gl X "isinstance") (hm : X.mg "isinstance" = none) (ha : PE X a (tD (gx X C) W ma)) (hc : PE X c (tC (ct.v C)))
    (h1 : starEach [a, c] X.env = (false, eval a X.env) :: starEach [c] X.env := by rfl) (h2 : starEach [c] X.env = (false, eval c X.env) :: starEach [] X.env := by rfl) (hpl : (backTo pos (starEach [c] X.env)).any (·.1) = false := by rfl) :
    PE X (.Call (.Name "isinstance" p) [a, c] [] pos) (tD (gx X C) W (bnd ma (isi0 ct))) :=
  peImp (pe_callB call_isi hg hm boot_isinstance (pa_cons ha (pa_cons hc pa_nil h2) h1) (by decide) (by decide) h1 hpl) fun σ H Q h => (lift1 (Ra := RD (gx X C)) h).imp fun x H1 ⟨B, F, env, d, q, r⟩ => by
    cases k : d.kind with
    | none => simp only [isi0, k] at q; exact (Pt.no q).elim
    | some t =>
      have nt : t ≠ .hall := fun z => by subst z; simp only [isi0, k] at q; exact (Pt.no q).elim
      have q : Pt (gx X C) W (RD (gx X C)) σ H1 Q (ret (.bl (ct.is t))) B F env := by
        have e : isi0 ct d = ret (.bl (ct.is t)) := by unfold isi0; rw [k]; cases t <;> first | rfl | exact absurd rfl nt
        rw [e] at q; exact q
      exact ⟨x, ct.v C, t.u C, ct.u C, ct.is t, rfl, ct.clsV, tyX_of0 r k nt, kit0 ct t nh nt, q.pure (b := .bl _) rfl⟩
end
end DL
set_option Elab.async false
set_option linter.all false
set_option maxRecDepth 100000
set_option maxHeartbeats 2000000
namespace DL
open PySem PySem.Spec PyProof.Rows L2
variable [Tbs]
namespace DQ
section
variable {prog : Program} {w : World} {A : Around} {s : Shared}
theorem int_dict_l (b : Int) (u : Tok) {l : Addr} {ol : Obj} {E : Value → Shared → Prop} {Q : Fin → Shared → Prop} {es : Array DictEntry} {ep : Nat} (hl : s.heap.get? l = some ol) (hd : ol.data = .dict es ep) (h : Q (.done (.ret .notImplemented)) s) : wpAny (model prog w) A (Builtin.«int.__eq__» ⟨[.int b u, .ref l], []⟩) Q E s := by
  obtain ⟨hp, g, d, tk, os⟩ := s
  obtain ⟨cl, di, da, sl⟩ := ol
  cases (show da = _ from hd)
  wp_walk using wpAny_loadPart' hl, wpAny_load hl
  exact h
theorem dict_int_l (b : Int) (u : Tok) {l : Addr} {ol : Obj} {E : Value → Shared → Prop} {Q : Fin → Shared → Prop} (hl : s.heap.get? l = some ol) (h : Q (.done (.ret .notImplemented)) s) : wpAny (model prog w) A (Builtin.«dict.__eq__» ⟨[.ref l, .int b u], []⟩) Q E s := by
  obtain ⟨hp, g, d, tk, os⟩ := s
  have f1 : isSubtype (.type "int") (.type "dict") = pure false := by rfl
  wp_walk using wpAny_loadPart' hl, wpAny_load hl
  exact h
/-- {} == number -/
theorem eq_emp_int (b : Int) (u : Tok) {l : Addr} {ol : Obj} (hl : s.heap.get? l = some ol) {es : Array DictEntry} {ep : Nat} (hc : ol.cls = .type "dict") (hd : ol.data = .dict es ep) (hu : A.units < cLine) {E Q : Value → Shared → Prop} (h : Q (.bool false) s) :
    wpAny (model prog w) A (compareOp .Eq (.ref l) (.int b u)) Q E s := by
  show wpAny _ A (richCompare .Eq (.ref l) (.int b u)) Q E s
  exact SeqAt.rc_eq_decline_or (k := false) ⟨_, hl, hc⟩ (typeIs_int s b u) (by decide) (by rfl) PySem.F.slot_dict_eq PySem.F.slot_int_eq
    (fun _ hq => wpAny_call_entry PySem.F.slot_dict_eq ⟨_, hl, hc⟩ PySem.F.entry_dict_eq (dict_int_l b u hl ⟨_, rfl, hq⟩) (PySem.F.args_dict_eq_2 _ _))
    (fun _ hq => wpAny_call_entry PySem.F.slot_int_eq (typeIs_int s b u) PySem.F.entry_int_eq (int_dict_l b u hl hd ⟨_, rfl, hq⟩) (PySem.F.args_int_eq_2 _ _))
    (fun _ hq => wpAny_of_eq (rfl : isSame (.ref l) (.int b u) = pure false) hq) (.inr hu) h
end
end DQ
def rEqZ (K : PySem.W.Frag) : R2 := fun x y H Q => (∃ q t, x = .ref q ∧ y = .int t ∧ Kq K H q ∧ Q (.bl false) H) ∨ ∃ a t, x = .str a ∧ y = .int t ∧ Q (.bl false) H
theorem op_eqZ {X : Cx} (hu : X.A.units + 100 < cLine) : OpR X (compareOp .Eq) (fun x y H Q => rEqs X.K x y H Q ∨ rEqZ X.K x y H Q) := by
  intro pins s σ H x y v u Q I rx ry h
  have hu1 : X.A.units < cLine := by omega
  rcases h with h | ⟨q, t, rfl, rfl, kd, h⟩ | ⟨a, t, rfl, rfl, h⟩
  · exact op_eqs (by omega) pins s σ H x y v u Q I rx ry h
  · cases rx
    obtain ⟨tk, rfl⟩ := ry
    rcases kd with ⟨us, k1⟩ | ⟨us, k1⟩ | k1
    · obtain ⟨its2, _, pl2, _⟩ := I.list k1
      exact SeqAt.RcAt.list_int t tk pl2.isList hu1 _ _ _ _ ⟨.bl false, H, I, rfl, h⟩
    · obtain ⟨its2, _, pl2, _⟩ := I.tuple k1
      exact SeqAt.RcAt.tuple_int t tk pl2 hu1 _ _ _ _ ⟨.bl false, H, I, rfl, h⟩
    · obtain ⟨_, _, _, _, ol, _, _, la, hc, hd, _⟩ := dk_of I.hok k1
      exact DQ.eq_emp_int t tk la hc.1 hd hu1 ⟨.bl false, H, I, rfl, h⟩
  · obtain ⟨tk, rfl⟩ := rx
    obtain ⟨tl, rfl⟩ := ry
    exact SeqAt.RcAt.str_int a tk t tl _ _ _ _ ⟨.bl false, H, I, rfl, h⟩
theorem fits_eqZ {G : Gx} {W : WX} : Fits G W (fun x y H Q => rEqs G.K x y H Q ∨ rEqZ G.K x y H Q) eqZ := by
  intro σ H Q B F env x y a b h ra rb
  unfold eqZ at h
  split at h
  · obtain ⟨q, us, e, k1, _⟩ := ra; cases rb; subst e; exact .inr (.inl ⟨q, _, rfl, rfl, .inr (.inl ⟨us, .inl k1.rd⟩), h.pure (b := V.bl false) rfl⟩)
  · obtain ⟨q, us, e, _, k1, _⟩ := ra; cases rb; subst e; exact .inr (.inl ⟨q, _, rfl, rfl, .inl ⟨us, SqL.of k1⟩, h.pure (b := V.bl false) rfl⟩)
  · obtain ⟨q, e, _, k1⟩ := ra; cases rb; subst e; exact .inr (.inl ⟨q, _, rfl, rfl, .inr (.inr k1), h.pure (b := V.bl false) rfl⟩)
  · cases ra; cases rb; exact .inr (.inr ⟨_, _, rfl, rfl, h.pure (b := V.bl false) rfl⟩)
  · exact .inl (fits_eq h ra rb)
end DL
set_option Elab.async false
set_option linter.all false
set_option maxRecDepth 100000
set_option maxHeartbeats 4000000
namespace DLP
open PySem PySem.Spec PyProof.Rows L2 DL
theorem sc_Ltake : FnScope ["_law_pool_here", "_law_count", "_law_state", "_law_digit"] ["_law_pool_here", "_law_count"] (defScope s_Ltake) := ⟨rfl, rfl, rfl, by decide +kernel, rfl, by decide +kernel, by decide +kernel⟩
theorem sc_Lwhole : FnScope ["_law_thing", "_law_least", "_law_most"] ["_law_thing", "_law_least", "_law_most"] (defScope s_Lwhole) := ⟨rfl, rfl, rfl, by decide +kernel, rfl, by decide +kernel, by decide +kernel⟩
theorem sc_Lbentr0 : FnScope ["_law_pool_here", "_law_thing", "_law_deep", "_law_odd", "_law_other", "_law_at", "_law_mode", "_law_to"] ["_law_pool_here", "_law_thing", "_law_deep"] (defScope s_Lbentr0) := ⟨rfl, rfl, rfl, by decide +kernel, rfl, by decide +kernel, by decide +kernel⟩
theorem sc_Lbentr1 : FnScope ["_law_pool_here", "_law_thing", "_law_deep", "_law_odd", "_law_other", "_law_at", "_law_mode", "_law_to"] ["_law_pool_here", "_law_thing", "_law_deep"] (defScope s_Lbentr1) := ⟨rfl, rfl, rfl, by decide +kernel, rfl, by decide +kernel, by decide +kernel⟩
theorem sc_Lbentr2 : FnScope ["_law_pool_here", "_law_thing", "_law_deep", "_law_odd", "_law_other", "_law_at", "_law_mode", "_law_to"] ["_law_pool_here", "_law_thing", "_law_deep"] (defScope s_Lbentr2) := ⟨rfl, rfl, rfl, by decide +kernel, rfl, by decide +kernel, by decide +kernel⟩
theorem sc_Lbentr3 : FnScope ["_law_pool_here", "_law_thing", "_law_deep", "_law_odd", "_law_other", "_law_at", "_law_mode", "_law_to"] ["_law_pool_here", "_law_thing", "_law_deep"] (defScope s_Lbentr3) := ⟨rfl, rfl, rfl, by decide +kernel, rfl, by decide +kernel, by decide +kernel⟩
theorem sc_Lcell : FnScope ["_law_script", "_law_k", "_law_state", "_law_cell_here"] ["_law_script", "_law_k"] (defScope s_Lcell) := ⟨rfl, rfl, rfl, by decide +kernel, rfl, by decide +kernel, by decide +kernel⟩
theorem sc_Lseen : FnScope ["_law_stood_here", "_law_chair", "_law_found"] ["_law_stood_here", "_law_chair"] (defScope s_Lseen) := ⟨rfl, rfl, rfl, by decide +kernel, rfl, by decide +kernel, by decide +kernel⟩
theorem sc_is_whole : FnScope ["thing", "least", "most"] ["thing", "least", "most"] (defScope s_is_whole) := ⟨rfl, rfl, rfl, by decide +kernel, rfl, by decide +kernel, by decide +kernel⟩
theorem sc_are_sizes : FnScope ["thing"] ["thing"] (defScope s_are_sizes) := ⟨rfl, rfl, rfl, by decide +kernel, rfl, by decide +kernel, by decide +kernel⟩
theorem sc_fits : FnScope ["sizes", "thing", "taken", "seat"] ["sizes", "thing"] (defScope s_fits) := ⟨rfl, rfl, rfl, by decide +kernel, rfl, by decide +kernel, by decide +kernel⟩
theorem sc_is_samer0 : FnScope ["thing", "due", "mine", "theirs"] ["thing", "due"] (defScope s_is_samer0) := ⟨rfl, rfl, rfl, by decide +kernel, rfl, by decide +kernel, by decide +kernel⟩
theorem sc_is_samer1 : FnScope ["thing", "due", "mine", "theirs"] ["thing", "due"] (defScope s_is_samer1) := ⟨rfl, rfl, rfl, by decide +kernel, rfl, by decide +kernel, by decide +kernel⟩
theorem sc_walked : FnScope ["standing", "seat", "found"] ["standing", "seat"] (defScope s_walked) := ⟨rfl, rfl, rfl, by decide +kernel, rfl, by decide +kernel, by decide +kernel⟩
theorem sc_waits_holds : FnScope ["claim", "paper", "word", "sizes", "standing", "guest", "seat", "walk"] ["claim", "paper"] (defScope s_waits_holds) := ⟨rfl, rfl, rfl, by decide +kernel, rfl, by decide +kernel, by decide +kernel⟩
theorem sc_holds : FnScope ["claim", "paper", "judge"] ["claim", "paper"] (defScope s_holds) := ⟨rfl, rfl, rfl, by decide +kernel, rfl, by decide +kernel, by decide +kernel⟩
theorem sc_Ltold : FnScope ["_law_saying", "_law_sheet", "_law_due", "_law_shown", "_law_told_here"] ["_law_saying", "_law_sheet", "_law_due"] (defScope s_Ltold) := ⟨rfl, rfl, rfl, by decide +kernel, rfl, by decide +kernel, by decide +kernel⟩
theorem sc_Leach_right : FnScope ["_law_sizes_here", "_law_stood_here", "_law_lodger", "_law_due", "_law_saying", "_law_gone_out", "_law_other", "_law_sheet"] ["_law_sizes_here", "_law_stood_here"] (defScope s_Leach_right) := ⟨rfl, rfl, rfl, by decide +kernel, rfl, by decide +kernel, by decide +kernel⟩
theorem sc_Lfits : FnScope ["_law_sizes_here", "_law_thing", "_law_taken", "_law_chair"] ["_law_sizes_here", "_law_thing"] (defScope s_Lfits) := ⟨rfl, rfl, rfl, by decide +kernel, rfl, by decide +kernel, by decide +kernel⟩
theorem sc_Lis_waits : FnScope ["_law_saying", "_law_sheet", "_law_due"] ["_law_saying", "_law_sheet"] (defScope s_Lis_waits) := ⟨rfl, rfl, rfl, by decide +kernel, rfl, by decide +kernel, by decide +kernel⟩
theorem sc_Lno_halls_right : FnScope ["_law_sizes_here", "_law_lodgers"] [] (defScope s_Lno_halls_right) := ⟨rfl, rfl, rfl, by decide +kernel, rfl, by decide +kernel, by decide +kernel⟩
theorem sc_Lpool : FnScope ["_law_cell_here", "_law_digits"] ["_law_cell_here"] (defScope s_Lpool) := ⟨rfl, rfl, rfl, by decide +kernel, rfl, by decide +kernel, by decide +kernel⟩
theorem sc_Lsizes : FnScope ["_law_pool_here", "_law_most", "_law_most_spare", "_law_lodgers", "_law_odds"] ["_law_pool_here", "_law_most", "_law_most_spare"] (defScope s_Lsizes) := ⟨rfl, rfl, rfl, by decide +kernel, rfl, by decide +kernel, by decide +kernel⟩
theorem sc_Lstood : FnScope ["_law_pool_here", "_law_sizes_here", "_law_left", "_law_found", "_law_mode", "_law_odds", "_law_lodger", "_law_chair"] ["_law_pool_here", "_law_sizes_here"] (defScope s_Lstood) := ⟨rfl, rfl, rfl, by decide +kernel, rfl, by decide +kernel, by decide +kernel⟩
theorem sc_law : FnScope ["_law_script", "_law_k", "_law_pool_here", "_law_sizes_here", "_law_stood_here", "_law_gone_out", "_law_turn", "_law_lodger", "_law_sheet", "_law_saying"] ["_law_script"] (defScope s_law) := ⟨rfl, rfl, rfl, by decide +kernel, rfl, by decide +kernel, by decide +kernel⟩
end DLP
set_option Elab.async false
set_option linter.all false
set_option maxRecDepth 100000
set_option maxHeartbeats 0
namespace DLP
open PySem PySem.Spec PyProof.Rows L2 DL
theorem obH_eq (s : PySem.W.SharedT) : obH s = hkH.obs s.abs := haveI : Tbs := ⟨[]⟩; obsHT_eq (HandSHeadRun.getT_eq s)
end DLP
set_option Elab.async false
set_option linter.all false
set_option maxRecDepth 100000
set_option maxHeartbeats 4000000
namespace DL
open PySem PySem.Spec PyProof.Rows L2
end DL
set_option Elab.async false
set_option linter.all false
set_option maxRecDepth 100000
set_option maxHeartbeats 4000000
namespace DL
open PySem PySem.Spec PyProof.Rows L2
end DL
set_option Elab.async false
set_option linter.all false
set_option maxRecDepth 100000
set_option maxHeartbeats 4000000
namespace DL
open PySem PySem.Spec PyProof.Rows L2
end DL
set_option Elab.async false
set_option linter.all false
set_option maxRecDepth 100000
set_option maxHeartbeats 4000000
namespace DL
open PySem PySem.Spec PyProof.Rows L2
end DL
namespace DL
open PySem PySem.Spec PyProof.Rows L2
end DL
set_option Elab.async false
set_option linter.all false
set_option maxRecDepth 100000
set_option maxHeartbeats 4000000
namespace DL
open PySem PySem.Spec PyProof.Rows L2
end DL
set_option Elab.async false
set_option linter.all false
set_option maxRecDepth 100000
set_option maxHeartbeats 2000000
namespace MW
section
variable {g s : Int} {st : Sd}
theorem Stand.uniq (S : Stand g s st) {i j v : Int} (h1 : seatAt st i = some v) (h2 : seatAt st j = some v) : i = j := by
  obtain ⟨a1, b1⟩ := seat_get.mp h1
  obtain ⟨a2, b2⟩ := seat_get.mp h2
  obtain ⟨li, ei⟩ := List.getElem?_eq_some_iff.mp b1
  obtain ⟨lj, ej⟩ := List.getElem?_eq_some_iff.mp b2
  have pw := List.pairwise_iff_getElem.mp S.nd
  rcases Nat.lt_trichotomy i.toNat j.toNat with z | z | z
  · have := pw _ _ li lj z
    rw [ei, ej] at this
    rcases this with y | y
    · cases y
    · exact (y rfl).elim
  · omega
  · have := pw _ _ lj li z
    rw [ei, ej] at this
    rcases this with y | y
    · cases y
    · exact (y rfl).elim
/-- back along a walk -/
def back (st : Sd) : Nat → Int → Int
  | 0, v => v
  | n + 1, v => match seatAt st v with
    | none => v
    | some w => back st n w
def put (st : Sd) (i : Int) (o : Option Int) : Sd := st.set i.toNat o
theorem put_len {i : Int} {o : Option Int} : (put st i o).length = st.length := List.length_set ..
theorem seat_put {i j : Int} {o : Option Int} (hi : 0 ≤ i ∧ i < st.length) : seatAt (put st i o) j = if j = i then o else seatAt st j := by
  unfold seatAt put
  by_cases hj : 0 ≤ j
  · rw [if_pos hj]
    by_cases e : j = i
    · subst e
      rw [if_pos rfl, List.getElem?_set_self (by omega)]; rfl
    · rw [if_neg e, if_pos hj, List.getElem?_set_ne (by omega)]
  · rw [if_neg hj, if_neg hj, if_neg (by omega)]
theorem stand_of {g s : Int} {st : Sd} (len : (st.length : Int) = g) (hg : 1 ≤ g ∧ g ≤ 24) (hs : 0 ≤ s ∧ s ≤ 6) (bd : ∀ i v, seatAt st i = some v → 0 ≤ v ∧ v < g + s) (un : ∀ i j v, seatAt st i = some v → seatAt st j = some v → i = j) : Stand g s st := by
  refine ⟨len, hg, hs, fun v hv => ?_, ?_⟩
  · obtain ⟨k, hk⟩ := List.mem_iff_getElem?.mp hv
    exact bd k v (seat_nat hk)
  · rw [List.pairwise_iff_getElem]
    intro i j hi hj l
    cases e : st[i] with
    | none => exact .inl rfl
    | some v =>
      refine .inr fun z => ?_
      have := un i j v (seat_nat (by rw [List.getElem?_eq_getElem hi, e])) (seat_nat (by rw [List.getElem?_eq_getElem hj, ← z]))
      omega
theorem Stand.put (S : Stand g s st) {i : Int} {o : Option Int} (hi : 0 ≤ i ∧ i < g) (hb : ∀ e, o = some e → 0 ≤ e ∧ e < g + s) (hn : ∀ e j, o = some e → seatAt st j = some e → j = i) : Stand g s (put st i o) := by
  have hi' : 0 ≤ i ∧ i < st.length := by have := S.len; omega
  refine stand_of (by rw [put_len]; exact S.len) S.hg S.hs (fun j v h => ?_) fun j k v h1 h2 => ?_
  · rw [seat_put hi'] at h
    split at h
    · exact hb v h
    · exact (S.bound h).2
  · rw [seat_put hi'] at h1 h2
    split at h1
    · rename_i e1
      split at h2
      · rename_i e2; rw [e1, e2]
      · rename_i e2; exact absurd (hn v k h1 h2) e2
    · rename_i e1
      split at h2
      · exact absurd (hn v j h2 h1) e1
      · exact S.uniq h1 h2
end
end MW
set_option Elab.async false
set_option linter.all false
set_option maxRecDepth 100000
set_option maxHeartbeats 4000000
namespace DLP
open PySem PySem.Spec PyProof.Rows L2 DL
structure Tx (w : World) (K : PySem.W.Frag) (mg : Str → Option Value) (C : Addr) (a : Nat → Addr) (d : Nat → FuncData) : Prop where
  tabf_JUDGES : TabFn K w mg "JUDGES" [("waits", "waits_holds"), ("comes", "comes_holds"), ("never", "never_holds"), ("fewest", "fewest_holds"), ("sits", "sits_holds"), ("nowhere", "nowhere_holds"), ("meet", "meet_holds"), ("join", "join_holds"), ("stands", "stands_holds")]
  u_Ltake : Df K mg "_law_take" "_law_take" s_Ltake ["_law_pool_here", "_law_count"] (a 0) (d 0)
  u_Lwhole : Df K mg "_law_whole" "_law_whole" s_Lwhole ["_law_thing", "_law_least", "_law_most"] (a 1) (d 1)
  u_Lbentr0 : Df K mg "_law_bent" "_law_bent" s_Lbentr0 ["_law_pool_here", "_law_thing", "_law_deep"] (a 2) (d 2)
  u_Lbentr1 : Df K mg "_law_bent" "_law_bent" s_Lbentr1 ["_law_pool_here", "_law_thing", "_law_deep"] (a 3) (d 3)
  u_Lbentr2 : Df K mg "_law_bent" "_law_bent" s_Lbentr2 ["_law_pool_here", "_law_thing", "_law_deep"] (a 4) (d 4)
  u_Lbentr3 : Df K mg "_law_bent" "_law_bent" s_Lbentr3 ["_law_pool_here", "_law_thing", "_law_deep"] (a 5) (d 5)
  u_Lcell : Df K mg "_law_cell" "_law_cell" s_Lcell ["_law_script", "_law_k"] (a 6) (d 6)
  u_Lseen : Df K mg "_law_seen" "_law_seen" s_Lseen ["_law_stood_here", "_law_chair"] (a 7) (d 7)
  u_is_whole : Df K mg "is_whole" "is_whole" s_is_whole ["thing", "least", "most"] (a 8) (d 8)
  u_are_sizes : Df K mg "are_sizes" "are_sizes" s_are_sizes ["thing"] (a 9) (d 9)
  u_fits : Df K mg "fits" "fits" s_fits ["sizes", "thing"] (a 10) (d 10)
  u_is_samer0 : Df K mg "is_same" "is_same" s_is_samer0 ["thing", "due"] (a 11) (d 11)
  u_is_samer1 : Df K mg "is_same" "is_same" s_is_samer1 ["thing", "due"] (a 12) (d 12)
  u_walked : Df K mg "walked" "walked" s_walked ["standing", "seat"] (a 13) (d 13)
  u_waits_holds : Df K mg "waits_holds" "waits_holds" s_waits_holds ["claim", "paper"] (a 14) (d 14)
  u_holds : Df K mg "holds" "holds" s_holds ["claim", "paper"] (a 15) (d 15)
  u_Ltold : Df K mg "_law_told" "_law_told" s_Ltold ["_law_saying", "_law_sheet", "_law_due"] (a 16) (d 16)
  u_Leach_right : Df K mg "_law_each_right" "_law_each_right" s_Leach_right ["_law_sizes_here", "_law_stood_here"] (a 17) (d 17)
  u_Lfits : Df K mg "_law_fits" "_law_fits" s_Lfits ["_law_sizes_here", "_law_thing"] (a 18) (d 18)
  u_Lis_waits : Df K mg "_law_is_waits" "_law_is_waits" s_Lis_waits ["_law_saying", "_law_sheet"] (a 19) (d 19)
  u_Lno_halls_right : Df K mg "_law_no_halls_right" "_law_no_halls_right" s_Lno_halls_right [] (a 20) (d 20)
  u_Lpool : Df K mg "_law_pool" "_law_pool" s_Lpool ["_law_cell_here"] (a 21) (d 21)
  u_Lsizes : Df K mg "_law_sizes" "_law_sizes" s_Lsizes ["_law_pool_here", "_law_most", "_law_most_spare"] (a 22) (d 22)
  u_Lstood : Df K mg "_law_stood" "_law_stood" s_Lstood ["_law_pool_here", "_law_sizes_here"] (a 23) (d 23)
  u_law : Df K mg "law" "law" s_law ["_law_script"] (a 24) (d 24)
  b_abs : mg "abs" = none
  b_all : mg "all" = none
  b_bool : mg "bool" = none
  b_divmod : mg "divmod" = none
  b_int : mg "int" = none
  b_isinstance : mg "isinstance" = none
  b_len : mg "len" = none
  b_list : mg "list" = none
  b_max : mg "max" = none
  b_min : mg "min" = none
  b_range : mg "range" = none
  b_repr : mg "repr" = none
  b_set : mg "set" = none
  b_str : mg "str" = none
  b_sum : mg "sum" = none
  b_tuple : mg "tuple" = none
  b_zip : mg "zip" = none
  c_MOST_GUESTS : ∃ u, mg "MOST_GUESTS" = some u ∧ RelV (.int 24) u
  c_MOST_SPARE : ∃ u, mg "MOST_SPARE" = some u ∧ RelV (.int 6) u
section
variable [Tbs]
variable {P : Program} {w : World} {K : PySem.W.Frag} {mg : Str → Option Value} {base : Heap} {C : Addr} {a : Nat → Addr} {d : Nat → FuncData}
theorem kw_holds_0_paper_claim (T : Tx w K mg C a d) : KwD K (d 15) ["claim", "paper"] 0 ["paper", "claim"] (pick [1, 0]) (pick [1, 0]) (pick [1, 0]) := kwD_of [1, 0] T.u_holds.fn (by decide) rfl fun _ _ _ _ _ _ us ws h1 h2 => match us, ws, h1, h2 with | [], [_, _], _, _ => rfl
theorem ok_Ltake (T : Tx w K mg C a d) : FnG P w K mg base 1 (a 0) (d 0) ["_law_pool_here", "_law_count"] (spD ⟨C, mg, K, w, P⟩ 2 (f_Ltake C)) :=
  fnD T.u_Ltake.fn sc_Ltake rfl (by decide) fun cdv A outer s H E hr hG => s_cons (s_asgw (e_add (e_oix (pv 0) e_int) e_int) (g_oset (W := W0) (pv 0) e_int)) (s_cons (s_set sc_Ltake.nd rfl (Or.inl rfl) (e_oix (pv 0) e_int)) (s_cons (s_asgw (e_mod (b_callT call_int1 fits_int rfl T.b_int boot_int (a_cons (e_add (e_mul (e_var (pv 2)) (e_add (e_mod (b_callT call_int1 fits_int rfl T.b_int boot_int (a_cons (e_var (pv 2)) a_nil)) e_int) e_int)) (e_mul e_int (e_oix (pv 0) e_int))) a_nil)) e_int) (g_oset (W := W0) (pv 0) e_int)) (s_cons (s_if (t_cmp op_gt fits_gt (e_oix (pv 0) e_int) e_int rfl) (s_cons (s_asgw (b_call call_divmod fits_divmod rfl T.b_divmod boot_divmod (a_cons (e_oix (pv 0) e_int) (a_cons (e_var (pv 1)) a_nil))) (g_tupw rfl (gw_cons (g_oset (W := W0) (pv 0) e_int) (gw_cons (g_w (g_name sc_Ltake.nd rfl (Or.inl rfl))) gw_nil)) rfl)) (s_one (s_ret (e_var (pv 3))))) s_nil) (s_one (s_ret (e_mod (e_fdiv (e_oix (pv 0) e_int) e_int) (e_var (pv 1))))))))
theorem ok_Lwhole (T : Tx w K mg C a d) : FnG P w K mg base 1 (a 1) (d 1) ["_law_thing", "_law_least", "_law_most"] (spD ⟨C, mg, K, w, P⟩ 3 (f_Lwhole C)) :=
  fnD T.u_Lwhole.fn sc_Lwhole rfl (by decide) fun cdv A outer s H E hr hG => s_one (s_ret (e_and (e_isi0 (ct := .int) nofun rfl T.b_isinstance (e_var (pv 0)) (pe_bltn rfl T.b_int boot_int rfl)) (e_and (e_not (e_isi0 (ct := .bool) nofun rfl T.b_isinstance (e_var (pv 0)) (pe_bltn rfl T.b_bool boot_bool rfl))) (e_one (e_chain op_le op_le fits_le fits_le (e_var (pv 1)) (e_var (pv 0)) (e_var (pv 2)))))))
theorem ok_Lbentr0 (T : Tx w K mg C a d) : FnG P w K mg base 2 (a 2) (d 2) ["_law_pool_here", "_law_thing", "_law_deep"] (spD ⟨C, mg, K, w, P⟩ 3 (f_Lbentr0 C)) :=
  fnD T.u_Lbentr0.fn sc_Lbentr0 rfl (by decide) fun cdv A outer s H E hr hG => s_cons (s_set sc_Lbentr0.nd rfl (Or.inl rfl) (e_lst (a_cons e_non (a_cons e_bl (a_cons e_bl (a_cons e_int (a_cons e_int (a_cons (e_neg e_int) (a_cons e_int (a_cons e_int (a_cons e_str (a_cons e_str (a_cons e_str (a_cons (e_tup a_nil) (a_cons (e_lst a_nil) (a_cons e_emp (a_cons (e_tup (a_cons e_int a_nil)) (a_cons (e_tup (a_cons (e_tup a_nil) a_nil)) (a_cons (e_pow e_int e_int) (a_cons e_int (a_cons e_int (a_cons e_str (a_cons (e_lst (a_cons e_int a_nil)) a_nil))))))))))))))))))))))) (s_cons (s_set sc_Lbentr0.nd rfl (Or.inl rfl) (e_add (e_var (pv 3)) (e_lst (a_cons (e_tup (a_cons (e_lst a_nil) a_nil)) (a_cons (e_tup (a_cons e_str (a_cons e_int a_nil))) (a_cons (e_tup (a_cons (e_tup (a_cons e_str (a_cons e_int a_nil))) a_nil)) (a_cons (e_tup (a_cons e_int (a_cons e_int a_nil))) (a_cons (e_tup (a_cons e_int (a_cons e_int a_nil))) (a_cons (e_tup (a_cons e_int (a_cons e_non a_nil))) a_nil))))))))) (s_cons (s_if (t_tru (e_res (c_pos (ok_Lwhole T) (hr.mono (by decide)) hG (DLz.takes_of rfl rfl rfl rfl) rfl T.u_Lwhole.mg T.u_Lwhole.kp T.u_Lwhole.bi rfl (ar_d (e_var (pv 1)) (ar_d e_int (ar_d (e_pow e_int e_int) ar_nil)))))) (s_one (s_set sc_Lbentr0.nd rfl (Or.inl rfl) (e_add (e_var (pv 3)) (e_lst (a_cons (e_add (e_var (pv 1)) e_int) (a_cons (e_sub (e_var (pv 1)) e_int) (a_cons (e_add (e_var (pv 1)) e_int) (a_cons (e_add (e_var (pv 1)) e_int) (a_cons (b_callT (call_txtD hG (room100 hr)) fits_txtD rfl T.b_str PyProof.Rows.Boot.str (a_cons (e_var (pv 1)) a_nil)) (a_cons (e_sub (e_var (pv 1)) e_int) a_nil)))))))))) s_nil) (s_cons (s_set sc_Lbentr0.nd rfl (Or.inl rfl) (e_ix (e_var (pv 3)) (e_res (c_pos (ok_Ltake T) (hr.mono (by decide)) hG (DLz.takes_of rfl rfl rfl rfl) rfl T.u_Ltake.mg T.u_Ltake.kp T.u_Ltake.bi rfl (ar_o (pv 0) (ar_d (b_call call_len fits_len rfl T.b_len boot_len (a_cons (e_var (pv 3)) a_nil)) ar_nil)))))) (s_cons (s_if (PW.pt (w_or (t_cmp (op_eqs hr.units) fits_eq (e_var (pv 2)) e_int rfl) (w_or (t_not (t_tru (e_isi0 (ct := .tuple) nofun rfl T.b_isinstance (e_var (pv 1)) (pe_bltn rfl T.b_tuple boot_tuple rfl)))) (w_or (t_cmp (op_eqQ (room100 hr)) fits_eqQ (e_var (pv 1)) (e_tup a_nil) rfl) (w_or1 (t_cmp (op_eqs hr.units) fits_eq (e_res (c_pos (ok_Ltake T) (hr.mono (by decide)) hG (DLz.takes_of rfl rfl rfl rfl) rfl T.u_Ltake.mg T.u_Ltake.kp T.u_Ltake.bi rfl (ar_o (pv 0) (ar_d e_int ar_nil)))) e_int rfl)))))) (s_one (s_ret (e_var (pv 4)))) s_nil) (s_cons (s_par2 rfl sc_Lbentr0.nd rfl rfl (by decide) rfl rfl (v_d (e_res (c_pos (ok_Ltake T) (hr.mono (by decide)) hG (DLz.takes_of rfl rfl rfl rfl) rfl T.u_Ltake.mg T.u_Ltake.kp T.u_Ltake.bi rfl (ar_o (pv 0) (ar_d (b_call call_len fits_len rfl T.b_len boot_len (a_cons (e_var (pv 1)) a_nil)) ar_nil)))) (v_d (e_res (c_pos (ok_Ltake T) (hr.mono (by decide)) hG (DLz.takes_of rfl rfl rfl rfl) rfl T.u_Ltake.mg T.u_Ltake.kp T.u_Ltake.bi rfl (ar_o (pv 0) (ar_d e_int ar_nil)))) v_nil))) (s_cons (s_if (t_cmp (op_eqs hr.units) fits_eq (e_var (pv 6)) e_int rfl) (s_one (s_ret (e_add (e_sl (e_var (pv 1)) p_none (p_some (e_var (pv 5)))) (e_sl (e_var (pv 1)) (p_some (e_add (e_var (pv 5)) e_int)) p_none)))) s_nil) (s_cons (s_if (t_cmp (op_eqs hr.units) fits_eq (e_var (pv 6)) e_int rfl) (s_one (s_ret (e_add (e_sl (e_var (pv 1)) p_none (p_some (e_add (e_var (pv 5)) e_int))) (e_sl (e_var (pv 1)) (p_some (e_var (pv 5))) p_none)))) s_nil) (s_cons (s_if (t_cmp (op_eqs hr.units) fits_eq (e_var (pv 6)) e_int rfl) (s_one (s_ret (e_ix (e_lst (a_cons (b_callT call_list_of fits_list rfl T.b_list boot_list (a_cons (e_var (pv 1)) a_nil)) (a_cons (e_turn (e_var (pv 1))) (a_cons (e_add (e_var (pv 1)) (e_tup (a_cons (e_var (pv 4)) a_nil))) (a_cons (e_tup (a_cons (e_var (pv 1)) a_nil)) a_nil))))) (e_res (c_pos (ok_Ltake T) (hr.mono (by decide)) hG (DLz.takes_of rfl rfl rfl rfl) rfl T.u_Ltake.mg T.u_Ltake.kp T.u_Ltake.bi rfl (ar_o (pv 0) (ar_d e_int ar_nil))))))) s_nil) (s_cons (s_if (t_cmp (op_eqs hr.units) fits_eq (e_var (pv 6)) e_int rfl) (s_cons (s_set sc_Lbentr0.nd rfl (Or.inl rfl) (e_res (c_pos (ok_Ltake T) (hr.mono (by decide)) hG (DLz.takes_of rfl rfl rfl rfl) rfl T.u_Ltake.mg T.u_Ltake.kp T.u_Ltake.bi rfl (ar_o (pv 0) (ar_d (b_call call_len fits_len rfl T.b_len boot_len (a_cons (e_var (pv 1)) a_nil)) ar_nil))))) (s_one (s_ret (e_add (e_add (e_sl (e_var (pv 1)) p_none (p_some (e_var (pv 5)))) (e_tup (a_cons (e_ix (e_var (pv 1)) (e_var (pv 7))) a_nil))) (e_sl (e_var (pv 1)) (p_some (e_add (e_var (pv 5)) e_int)) p_none))))) s_nil) (s_one (s_ret (e_add (e_add (e_sl (e_var (pv 1)) p_none (p_some (e_var (pv 5)))) (e_tup (a_cons (e_res (c_pos (okNever (k := 0) rfl) (hr.mono (by decide)) hG (DLz.takes_of rfl rfl rfl rfl) rfl T.u_Lbentr0.mg T.u_Lbentr0.kp T.u_Lbentr0.bi rfl (ar_o (pv 0) (ar_d (e_ix (e_var (pv 1)) (e_var (pv 5))) (ar_d (e_sub (e_var (pv 2)) e_int) ar_nil))))) a_nil))) (e_sl (e_var (pv 1)) (p_some (e_add (e_var (pv 5)) e_int)) p_none)))))))))))))
theorem ok_Lbentr1 (T : Tx w K mg C a d) : FnG P w K mg base 3 (a 3) (d 3) ["_law_pool_here", "_law_thing", "_law_deep"] (spD ⟨C, mg, K, w, P⟩ 3 (f_Lbentr1 C)) :=
  fnD T.u_Lbentr1.fn sc_Lbentr1 rfl (by decide) fun cdv A outer s H E hr hG => s_cons (s_set sc_Lbentr1.nd rfl (Or.inl rfl) (e_lst (a_cons e_non (a_cons e_bl (a_cons e_bl (a_cons e_int (a_cons e_int (a_cons (e_neg e_int) (a_cons e_int (a_cons e_int (a_cons e_str (a_cons e_str (a_cons e_str (a_cons (e_tup a_nil) (a_cons (e_lst a_nil) (a_cons e_emp (a_cons (e_tup (a_cons e_int a_nil)) (a_cons (e_tup (a_cons (e_tup a_nil) a_nil)) (a_cons (e_pow e_int e_int) (a_cons e_int (a_cons e_int (a_cons e_str (a_cons (e_lst (a_cons e_int a_nil)) a_nil))))))))))))))))))))))) (s_cons (s_set sc_Lbentr1.nd rfl (Or.inl rfl) (e_add (e_var (pv 3)) (e_lst (a_cons (e_tup (a_cons (e_lst a_nil) a_nil)) (a_cons (e_tup (a_cons e_str (a_cons e_int a_nil))) (a_cons (e_tup (a_cons (e_tup (a_cons e_str (a_cons e_int a_nil))) a_nil)) (a_cons (e_tup (a_cons e_int (a_cons e_int a_nil))) (a_cons (e_tup (a_cons e_int (a_cons e_int a_nil))) (a_cons (e_tup (a_cons e_int (a_cons e_non a_nil))) a_nil))))))))) (s_cons (s_if (t_tru (e_res (c_pos (ok_Lwhole T) (hr.mono (by decide)) hG (DLz.takes_of rfl rfl rfl rfl) rfl T.u_Lwhole.mg T.u_Lwhole.kp T.u_Lwhole.bi rfl (ar_d (e_var (pv 1)) (ar_d e_int (ar_d (e_pow e_int e_int) ar_nil)))))) (s_one (s_set sc_Lbentr1.nd rfl (Or.inl rfl) (e_add (e_var (pv 3)) (e_lst (a_cons (e_add (e_var (pv 1)) e_int) (a_cons (e_sub (e_var (pv 1)) e_int) (a_cons (e_add (e_var (pv 1)) e_int) (a_cons (e_add (e_var (pv 1)) e_int) (a_cons (b_callT (call_txtD hG (room100 hr)) fits_txtD rfl T.b_str PyProof.Rows.Boot.str (a_cons (e_var (pv 1)) a_nil)) (a_cons (e_sub (e_var (pv 1)) e_int) a_nil)))))))))) s_nil) (s_cons (s_set sc_Lbentr1.nd rfl (Or.inl rfl) (e_ix (e_var (pv 3)) (e_res (c_pos (ok_Ltake T) (hr.mono (by decide)) hG (DLz.takes_of rfl rfl rfl rfl) rfl T.u_Ltake.mg T.u_Ltake.kp T.u_Ltake.bi rfl (ar_o (pv 0) (ar_d (b_call call_len fits_len rfl T.b_len boot_len (a_cons (e_var (pv 3)) a_nil)) ar_nil)))))) (s_cons (s_if (PW.pt (w_or (t_cmp (op_eqs hr.units) fits_eq (e_var (pv 2)) e_int rfl) (w_or (t_not (t_tru (e_isi0 (ct := .tuple) nofun rfl T.b_isinstance (e_var (pv 1)) (pe_bltn rfl T.b_tuple boot_tuple rfl)))) (w_or (t_cmp (op_eqQ (room100 hr)) fits_eqQ (e_var (pv 1)) (e_tup a_nil) rfl) (w_or1 (t_cmp (op_eqs hr.units) fits_eq (e_res (c_pos (ok_Ltake T) (hr.mono (by decide)) hG (DLz.takes_of rfl rfl rfl rfl) rfl T.u_Ltake.mg T.u_Ltake.kp T.u_Ltake.bi rfl (ar_o (pv 0) (ar_d e_int ar_nil)))) e_int rfl)))))) (s_one (s_ret (e_var (pv 4)))) s_nil) (s_cons (s_par2 rfl sc_Lbentr1.nd rfl rfl (by decide) rfl rfl (v_d (e_res (c_pos (ok_Ltake T) (hr.mono (by decide)) hG (DLz.takes_of rfl rfl rfl rfl) rfl T.u_Ltake.mg T.u_Ltake.kp T.u_Ltake.bi rfl (ar_o (pv 0) (ar_d (b_call call_len fits_len rfl T.b_len boot_len (a_cons (e_var (pv 1)) a_nil)) ar_nil)))) (v_d (e_res (c_pos (ok_Ltake T) (hr.mono (by decide)) hG (DLz.takes_of rfl rfl rfl rfl) rfl T.u_Ltake.mg T.u_Ltake.kp T.u_Ltake.bi rfl (ar_o (pv 0) (ar_d e_int ar_nil)))) v_nil))) (s_cons (s_if (t_cmp (op_eqs hr.units) fits_eq (e_var (pv 6)) e_int rfl) (s_one (s_ret (e_add (e_sl (e_var (pv 1)) p_none (p_some (e_var (pv 5)))) (e_sl (e_var (pv 1)) (p_some (e_add (e_var (pv 5)) e_int)) p_none)))) s_nil) (s_cons (s_if (t_cmp (op_eqs hr.units) fits_eq (e_var (pv 6)) e_int rfl) (s_one (s_ret (e_add (e_sl (e_var (pv 1)) p_none (p_some (e_add (e_var (pv 5)) e_int))) (e_sl (e_var (pv 1)) (p_some (e_var (pv 5))) p_none)))) s_nil) (s_cons (s_if (t_cmp (op_eqs hr.units) fits_eq (e_var (pv 6)) e_int rfl) (s_one (s_ret (e_ix (e_lst (a_cons (b_callT call_list_of fits_list rfl T.b_list boot_list (a_cons (e_var (pv 1)) a_nil)) (a_cons (e_turn (e_var (pv 1))) (a_cons (e_add (e_var (pv 1)) (e_tup (a_cons (e_var (pv 4)) a_nil))) (a_cons (e_tup (a_cons (e_var (pv 1)) a_nil)) a_nil))))) (e_res (c_pos (ok_Ltake T) (hr.mono (by decide)) hG (DLz.takes_of rfl rfl rfl rfl) rfl T.u_Ltake.mg T.u_Ltake.kp T.u_Ltake.bi rfl (ar_o (pv 0) (ar_d e_int ar_nil))))))) s_nil) (s_cons (s_if (t_cmp (op_eqs hr.units) fits_eq (e_var (pv 6)) e_int rfl) (s_cons (s_set sc_Lbentr1.nd rfl (Or.inl rfl) (e_res (c_pos (ok_Ltake T) (hr.mono (by decide)) hG (DLz.takes_of rfl rfl rfl rfl) rfl T.u_Ltake.mg T.u_Ltake.kp T.u_Ltake.bi rfl (ar_o (pv 0) (ar_d (b_call call_len fits_len rfl T.b_len boot_len (a_cons (e_var (pv 1)) a_nil)) ar_nil))))) (s_one (s_ret (e_add (e_add (e_sl (e_var (pv 1)) p_none (p_some (e_var (pv 5)))) (e_tup (a_cons (e_ix (e_var (pv 1)) (e_var (pv 7))) a_nil))) (e_sl (e_var (pv 1)) (p_some (e_add (e_var (pv 5)) e_int)) p_none))))) s_nil) (s_one (s_ret (e_add (e_add (e_sl (e_var (pv 1)) p_none (p_some (e_var (pv 5)))) (e_tup (a_cons (e_res (c_pos (ok_Lbentr0 T) (hr.mono (by decide)) hG (DLz.takes_of rfl rfl rfl rfl) rfl T.u_Lbentr0.mg T.u_Lbentr0.kp T.u_Lbentr0.bi rfl (ar_o (pv 0) (ar_d (e_ix (e_var (pv 1)) (e_var (pv 5))) (ar_d (e_sub (e_var (pv 2)) e_int) ar_nil))))) a_nil))) (e_sl (e_var (pv 1)) (p_some (e_add (e_var (pv 5)) e_int)) p_none)))))))))))))
theorem ok_Lbentr2 (T : Tx w K mg C a d) : FnG P w K mg base 4 (a 4) (d 4) ["_law_pool_here", "_law_thing", "_law_deep"] (spD ⟨C, mg, K, w, P⟩ 3 (f_Lbentr2 C)) :=
  fnD T.u_Lbentr2.fn sc_Lbentr2 rfl (by decide) fun cdv A outer s H E hr hG => s_cons (s_set sc_Lbentr2.nd rfl (Or.inl rfl) (e_lst (a_cons e_non (a_cons e_bl (a_cons e_bl (a_cons e_int (a_cons e_int (a_cons (e_neg e_int) (a_cons e_int (a_cons e_int (a_cons e_str (a_cons e_str (a_cons e_str (a_cons (e_tup a_nil) (a_cons (e_lst a_nil) (a_cons e_emp (a_cons (e_tup (a_cons e_int a_nil)) (a_cons (e_tup (a_cons (e_tup a_nil) a_nil)) (a_cons (e_pow e_int e_int) (a_cons e_int (a_cons e_int (a_cons e_str (a_cons (e_lst (a_cons e_int a_nil)) a_nil))))))))))))))))))))))) (s_cons (s_set sc_Lbentr2.nd rfl (Or.inl rfl) (e_add (e_var (pv 3)) (e_lst (a_cons (e_tup (a_cons (e_lst a_nil) a_nil)) (a_cons (e_tup (a_cons e_str (a_cons e_int a_nil))) (a_cons (e_tup (a_cons (e_tup (a_cons e_str (a_cons e_int a_nil))) a_nil)) (a_cons (e_tup (a_cons e_int (a_cons e_int a_nil))) (a_cons (e_tup (a_cons e_int (a_cons e_int a_nil))) (a_cons (e_tup (a_cons e_int (a_cons e_non a_nil))) a_nil))))))))) (s_cons (s_if (t_tru (e_res (c_pos (ok_Lwhole T) (hr.mono (by decide)) hG (DLz.takes_of rfl rfl rfl rfl) rfl T.u_Lwhole.mg T.u_Lwhole.kp T.u_Lwhole.bi rfl (ar_d (e_var (pv 1)) (ar_d e_int (ar_d (e_pow e_int e_int) ar_nil)))))) (s_one (s_set sc_Lbentr2.nd rfl (Or.inl rfl) (e_add (e_var (pv 3)) (e_lst (a_cons (e_add (e_var (pv 1)) e_int) (a_cons (e_sub (e_var (pv 1)) e_int) (a_cons (e_add (e_var (pv 1)) e_int) (a_cons (e_add (e_var (pv 1)) e_int) (a_cons (b_callT (call_txtD hG (room100 hr)) fits_txtD rfl T.b_str PyProof.Rows.Boot.str (a_cons (e_var (pv 1)) a_nil)) (a_cons (e_sub (e_var (pv 1)) e_int) a_nil)))))))))) s_nil) (s_cons (s_set sc_Lbentr2.nd rfl (Or.inl rfl) (e_ix (e_var (pv 3)) (e_res (c_pos (ok_Ltake T) (hr.mono (by decide)) hG (DLz.takes_of rfl rfl rfl rfl) rfl T.u_Ltake.mg T.u_Ltake.kp T.u_Ltake.bi rfl (ar_o (pv 0) (ar_d (b_call call_len fits_len rfl T.b_len boot_len (a_cons (e_var (pv 3)) a_nil)) ar_nil)))))) (s_cons (s_if (PW.pt (w_or (t_cmp (op_eqs hr.units) fits_eq (e_var (pv 2)) e_int rfl) (w_or (t_not (t_tru (e_isi0 (ct := .tuple) nofun rfl T.b_isinstance (e_var (pv 1)) (pe_bltn rfl T.b_tuple boot_tuple rfl)))) (w_or (t_cmp (op_eqQ (room100 hr)) fits_eqQ (e_var (pv 1)) (e_tup a_nil) rfl) (w_or1 (t_cmp (op_eqs hr.units) fits_eq (e_res (c_pos (ok_Ltake T) (hr.mono (by decide)) hG (DLz.takes_of rfl rfl rfl rfl) rfl T.u_Ltake.mg T.u_Ltake.kp T.u_Ltake.bi rfl (ar_o (pv 0) (ar_d e_int ar_nil)))) e_int rfl)))))) (s_one (s_ret (e_var (pv 4)))) s_nil) (s_cons (s_par2 rfl sc_Lbentr2.nd rfl rfl (by decide) rfl rfl (v_d (e_res (c_pos (ok_Ltake T) (hr.mono (by decide)) hG (DLz.takes_of rfl rfl rfl rfl) rfl T.u_Ltake.mg T.u_Ltake.kp T.u_Ltake.bi rfl (ar_o (pv 0) (ar_d (b_call call_len fits_len rfl T.b_len boot_len (a_cons (e_var (pv 1)) a_nil)) ar_nil)))) (v_d (e_res (c_pos (ok_Ltake T) (hr.mono (by decide)) hG (DLz.takes_of rfl rfl rfl rfl) rfl T.u_Ltake.mg T.u_Ltake.kp T.u_Ltake.bi rfl (ar_o (pv 0) (ar_d e_int ar_nil)))) v_nil))) (s_cons (s_if (t_cmp (op_eqs hr.units) fits_eq (e_var (pv 6)) e_int rfl) (s_one (s_ret (e_add (e_sl (e_var (pv 1)) p_none (p_some (e_var (pv 5)))) (e_sl (e_var (pv 1)) (p_some (e_add (e_var (pv 5)) e_int)) p_none)))) s_nil) (s_cons (s_if (t_cmp (op_eqs hr.units) fits_eq (e_var (pv 6)) e_int rfl) (s_one (s_ret (e_add (e_sl (e_var (pv 1)) p_none (p_some (e_add (e_var (pv 5)) e_int))) (e_sl (e_var (pv 1)) (p_some (e_var (pv 5))) p_none)))) s_nil) (s_cons (s_if (t_cmp (op_eqs hr.units) fits_eq (e_var (pv 6)) e_int rfl) (s_one (s_ret (e_ix (e_lst (a_cons (b_callT call_list_of fits_list rfl T.b_list boot_list (a_cons (e_var (pv 1)) a_nil)) (a_cons (e_turn (e_var (pv 1))) (a_cons (e_add (e_var (pv 1)) (e_tup (a_cons (e_var (pv 4)) a_nil))) (a_cons (e_tup (a_cons (e_var (pv 1)) a_nil)) a_nil))))) (e_res (c_pos (ok_Ltake T) (hr.mono (by decide)) hG (DLz.takes_of rfl rfl rfl rfl) rfl T.u_Ltake.mg T.u_Ltake.kp T.u_Ltake.bi rfl (ar_o (pv 0) (ar_d e_int ar_nil))))))) s_nil) (s_cons (s_if (t_cmp (op_eqs hr.units) fits_eq (e_var (pv 6)) e_int rfl) (s_cons (s_set sc_Lbentr2.nd rfl (Or.inl rfl) (e_res (c_pos (ok_Ltake T) (hr.mono (by decide)) hG (DLz.takes_of rfl rfl rfl rfl) rfl T.u_Ltake.mg T.u_Ltake.kp T.u_Ltake.bi rfl (ar_o (pv 0) (ar_d (b_call call_len fits_len rfl T.b_len boot_len (a_cons (e_var (pv 1)) a_nil)) ar_nil))))) (s_one (s_ret (e_add (e_add (e_sl (e_var (pv 1)) p_none (p_some (e_var (pv 5)))) (e_tup (a_cons (e_ix (e_var (pv 1)) (e_var (pv 7))) a_nil))) (e_sl (e_var (pv 1)) (p_some (e_add (e_var (pv 5)) e_int)) p_none))))) s_nil) (s_one (s_ret (e_add (e_add (e_sl (e_var (pv 1)) p_none (p_some (e_var (pv 5)))) (e_tup (a_cons (e_res (c_pos (ok_Lbentr1 T) (hr.mono (by decide)) hG (DLz.takes_of rfl rfl rfl rfl) rfl T.u_Lbentr1.mg T.u_Lbentr1.kp T.u_Lbentr1.bi rfl (ar_o (pv 0) (ar_d (e_ix (e_var (pv 1)) (e_var (pv 5))) (ar_d (e_sub (e_var (pv 2)) e_int) ar_nil))))) a_nil))) (e_sl (e_var (pv 1)) (p_some (e_add (e_var (pv 5)) e_int)) p_none)))))))))))))
theorem ok_Lbentr3 (T : Tx w K mg C a d) : FnG P w K mg base 5 (a 5) (d 5) ["_law_pool_here", "_law_thing", "_law_deep"] (spD ⟨C, mg, K, w, P⟩ 3 (f_Lbentr3 C)) :=
  fnD T.u_Lbentr3.fn sc_Lbentr3 rfl (by decide) fun cdv A outer s H E hr hG => s_cons (s_set sc_Lbentr3.nd rfl (Or.inl rfl) (e_lst (a_cons e_non (a_cons e_bl (a_cons e_bl (a_cons e_int (a_cons e_int (a_cons (e_neg e_int) (a_cons e_int (a_cons e_int (a_cons e_str (a_cons e_str (a_cons e_str (a_cons (e_tup a_nil) (a_cons (e_lst a_nil) (a_cons e_emp (a_cons (e_tup (a_cons e_int a_nil)) (a_cons (e_tup (a_cons (e_tup a_nil) a_nil)) (a_cons (e_pow e_int e_int) (a_cons e_int (a_cons e_int (a_cons e_str (a_cons (e_lst (a_cons e_int a_nil)) a_nil))))))))))))))))))))))) (s_cons (s_set sc_Lbentr3.nd rfl (Or.inl rfl) (e_add (e_var (pv 3)) (e_lst (a_cons (e_tup (a_cons (e_lst a_nil) a_nil)) (a_cons (e_tup (a_cons e_str (a_cons e_int a_nil))) (a_cons (e_tup (a_cons (e_tup (a_cons e_str (a_cons e_int a_nil))) a_nil)) (a_cons (e_tup (a_cons e_int (a_cons e_int a_nil))) (a_cons (e_tup (a_cons e_int (a_cons e_int a_nil))) (a_cons (e_tup (a_cons e_int (a_cons e_non a_nil))) a_nil))))))))) (s_cons (s_if (t_tru (e_res (c_pos (ok_Lwhole T) (hr.mono (by decide)) hG (DLz.takes_of rfl rfl rfl rfl) rfl T.u_Lwhole.mg T.u_Lwhole.kp T.u_Lwhole.bi rfl (ar_d (e_var (pv 1)) (ar_d e_int (ar_d (e_pow e_int e_int) ar_nil)))))) (s_one (s_set sc_Lbentr3.nd rfl (Or.inl rfl) (e_add (e_var (pv 3)) (e_lst (a_cons (e_add (e_var (pv 1)) e_int) (a_cons (e_sub (e_var (pv 1)) e_int) (a_cons (e_add (e_var (pv 1)) e_int) (a_cons (e_add (e_var (pv 1)) e_int) (a_cons (b_callT (call_txtD hG (room100 hr)) fits_txtD rfl T.b_str PyProof.Rows.Boot.str (a_cons (e_var (pv 1)) a_nil)) (a_cons (e_sub (e_var (pv 1)) e_int) a_nil)))))))))) s_nil) (s_cons (s_set sc_Lbentr3.nd rfl (Or.inl rfl) (e_ix (e_var (pv 3)) (e_res (c_pos (ok_Ltake T) (hr.mono (by decide)) hG (DLz.takes_of rfl rfl rfl rfl) rfl T.u_Ltake.mg T.u_Ltake.kp T.u_Ltake.bi rfl (ar_o (pv 0) (ar_d (b_call call_len fits_len rfl T.b_len boot_len (a_cons (e_var (pv 3)) a_nil)) ar_nil)))))) (s_cons (s_if (PW.pt (w_or (t_cmp (op_eqs hr.units) fits_eq (e_var (pv 2)) e_int rfl) (w_or (t_not (t_tru (e_isi0 (ct := .tuple) nofun rfl T.b_isinstance (e_var (pv 1)) (pe_bltn rfl T.b_tuple boot_tuple rfl)))) (w_or (t_cmp (op_eqQ (room100 hr)) fits_eqQ (e_var (pv 1)) (e_tup a_nil) rfl) (w_or1 (t_cmp (op_eqs hr.units) fits_eq (e_res (c_pos (ok_Ltake T) (hr.mono (by decide)) hG (DLz.takes_of rfl rfl rfl rfl) rfl T.u_Ltake.mg T.u_Ltake.kp T.u_Ltake.bi rfl (ar_o (pv 0) (ar_d e_int ar_nil)))) e_int rfl)))))) (s_one (s_ret (e_var (pv 4)))) s_nil) (s_cons (s_par2 rfl sc_Lbentr3.nd rfl rfl (by decide) rfl rfl (v_d (e_res (c_pos (ok_Ltake T) (hr.mono (by decide)) hG (DLz.takes_of rfl rfl rfl rfl) rfl T.u_Ltake.mg T.u_Ltake.kp T.u_Ltake.bi rfl (ar_o (pv 0) (ar_d (b_call call_len fits_len rfl T.b_len boot_len (a_cons (e_var (pv 1)) a_nil)) ar_nil)))) (v_d (e_res (c_pos (ok_Ltake T) (hr.mono (by decide)) hG (DLz.takes_of rfl rfl rfl rfl) rfl T.u_Ltake.mg T.u_Ltake.kp T.u_Ltake.bi rfl (ar_o (pv 0) (ar_d e_int ar_nil)))) v_nil))) (s_cons (s_if (t_cmp (op_eqs hr.units) fits_eq (e_var (pv 6)) e_int rfl) (s_one (s_ret (e_add (e_sl (e_var (pv 1)) p_none (p_some (e_var (pv 5)))) (e_sl (e_var (pv 1)) (p_some (e_add (e_var (pv 5)) e_int)) p_none)))) s_nil) (s_cons (s_if (t_cmp (op_eqs hr.units) fits_eq (e_var (pv 6)) e_int rfl) (s_one (s_ret (e_add (e_sl (e_var (pv 1)) p_none (p_some (e_add (e_var (pv 5)) e_int))) (e_sl (e_var (pv 1)) (p_some (e_var (pv 5))) p_none)))) s_nil) (s_cons (s_if (t_cmp (op_eqs hr.units) fits_eq (e_var (pv 6)) e_int rfl) (s_one (s_ret (e_ix (e_lst (a_cons (b_callT call_list_of fits_list rfl T.b_list boot_list (a_cons (e_var (pv 1)) a_nil)) (a_cons (e_turn (e_var (pv 1))) (a_cons (e_add (e_var (pv 1)) (e_tup (a_cons (e_var (pv 4)) a_nil))) (a_cons (e_tup (a_cons (e_var (pv 1)) a_nil)) a_nil))))) (e_res (c_pos (ok_Ltake T) (hr.mono (by decide)) hG (DLz.takes_of rfl rfl rfl rfl) rfl T.u_Ltake.mg T.u_Ltake.kp T.u_Ltake.bi rfl (ar_o (pv 0) (ar_d e_int ar_nil))))))) s_nil) (s_cons (s_if (t_cmp (op_eqs hr.units) fits_eq (e_var (pv 6)) e_int rfl) (s_cons (s_set sc_Lbentr3.nd rfl (Or.inl rfl) (e_res (c_pos (ok_Ltake T) (hr.mono (by decide)) hG (DLz.takes_of rfl rfl rfl rfl) rfl T.u_Ltake.mg T.u_Ltake.kp T.u_Ltake.bi rfl (ar_o (pv 0) (ar_d (b_call call_len fits_len rfl T.b_len boot_len (a_cons (e_var (pv 1)) a_nil)) ar_nil))))) (s_one (s_ret (e_add (e_add (e_sl (e_var (pv 1)) p_none (p_some (e_var (pv 5)))) (e_tup (a_cons (e_ix (e_var (pv 1)) (e_var (pv 7))) a_nil))) (e_sl (e_var (pv 1)) (p_some (e_add (e_var (pv 5)) e_int)) p_none))))) s_nil) (s_one (s_ret (e_add (e_add (e_sl (e_var (pv 1)) p_none (p_some (e_var (pv 5)))) (e_tup (a_cons (e_res (c_pos (ok_Lbentr2 T) (hr.mono (by decide)) hG (DLz.takes_of rfl rfl rfl rfl) rfl T.u_Lbentr2.mg T.u_Lbentr2.kp T.u_Lbentr2.bi rfl (ar_o (pv 0) (ar_d (e_ix (e_var (pv 1)) (e_var (pv 5))) (ar_d (e_sub (e_var (pv 2)) e_int) ar_nil))))) a_nil))) (e_sl (e_var (pv 1)) (p_some (e_add (e_var (pv 5)) e_int)) p_none)))))))))))))
theorem ok_Lcell (T : Tx w K mg C a d) : FnG P w K mg base 1 (a 6) (d 6) ["_law_script", "_law_k"] (spD ⟨C, mg, K, w, P⟩ 2 (f_Lcell C)) :=
  fnD T.u_Lcell.fn sc_Lcell rfl (by decide) fun cdv A outer s H E hr hG => s_cons (s_if (t_cmp op_lt fits_lt (e_var (pv 1)) (b_call call_len fits_len rfl T.b_len boot_len (a_cons (e_var (pv 0)) a_nil)) rfl) (s_one (s_ret (e_ix (e_var (pv 0)) (e_var (pv 1))))) s_nil) (s_cons (s_set sc_Lcell.nd rfl (Or.inl rfl) (e_mod (e_mul e_int (e_add (e_add (e_mul (e_var (pv 1)) (e_var (pv 1))) (e_mul e_int (e_var (pv 1)))) e_int)) e_int)) (s_cons (s_for (passes_of rfl) rfl (i_lst (e_sl (e_var (pv 0)) p_none (p_some e_int))) (g_name sc_Lcell.nd rfl (Or.inl rfl)) (s_one (s_set sc_Lcell.nd rfl (Or.inl rfl) (e_mod (e_add (e_mul (e_var (pv 2)) e_int) (e_var (pv 3))) e_int))) (fun _ _ _ _ h => setI_nox h)) (s_one (s_ret (e_var (pv 2))))))
theorem ok_Lseen (T : Tx w K mg C a d) : FnG P w K mg base 1 (a 7) (d 7) ["_law_stood_here", "_law_chair"] (spD ⟨C, mg, K, w, P⟩ 2 (f_Lseen C)) :=
  fnD T.u_Lseen.fn sc_Lseen rfl (by decide) fun cdv A outer s H E hr hG => s_cons (s_setO sc_Lseen.nd rfl (Or.inl rfl) (o_lst (a_cons (e_var (pv 1)) a_nil))) (s_cons (s_while (passes_of rfl) (PW.pt (w_and (t_cmp op_in_seq fits_in (e_oix (pv 2) (e_neg e_int)) (e_var (pv 0)) rfl) (w_and1 (t_cmp op_notIn_seq fits_nin (e_oix (pv 2) (e_neg e_int)) (e_osl (pv 2) p_none (p_some (e_neg e_int))) rfl)))) (s_one (s_expr (e_oapp (pv 2) (e_tidx (e_var (pv 0)) (e_oix (pv 2) (e_neg e_int))))))) (s_one (s_retOw (pv 2))))
theorem ok_is_whole (T : Tx w K mg C a d) : FnG P w K mg base 1 (a 8) (d 8) ["thing", "least", "most"] (spD ⟨C, mg, K, w, P⟩ 3 (f_is_whole C)) :=
  fnD T.u_is_whole.fn sc_is_whole rfl (by decide) fun cdv A outer s H E hr hG => s_one (s_ret (e_and (e_isi0 (ct := .int) nofun rfl T.b_isinstance (e_var (pv 0)) (pe_bltn rfl T.b_int boot_int rfl)) (e_and (e_not (e_isi0 (ct := .bool) nofun rfl T.b_isinstance (e_var (pv 0)) (pe_bltn rfl T.b_bool boot_bool rfl))) (e_one (e_chain op_le op_le fits_le fits_le (e_var (pv 1)) (e_var (pv 0)) (e_var (pv 2)))))))
theorem ok_are_sizes (T : Tx w K mg C a d) : FnG P w K mg base 2 (a 9) (d 9) ["thing"] (spD ⟨C, mg, K, w, P⟩ 1 (f_are_sizes C)) :=
  fnD T.u_are_sizes.fn sc_are_sizes rfl (by decide) fun cdv A outer s H E hr hG => s_cons (s_if (PW.pt (w_or (t_not (t_tru (e_isi0 (ct := .tuple) nofun rfl T.b_isinstance (e_var (pv 0)) (pe_bltn rfl T.b_tuple boot_tuple rfl)))) (w_or1 (t_cmp (op_nes hr.units) fits_ne (b_call call_len fits_len rfl T.b_len boot_len (a_cons (e_var (pv 0)) a_nil)) e_int rfl)))) (s_one (s_ret e_bl)) s_nil) (s_one (s_ret (e_and (e_res (c_pos (ok_is_whole T) (hr.mono (by decide)) hG (DLz.takes_of rfl rfl rfl rfl) rfl T.u_is_whole.mg T.u_is_whole.kp T.u_is_whole.bi rfl (ar_d (e_ix (e_var (pv 0)) e_int) (ar_d e_int (ar_d (e_gc rfl T.c_MOST_GUESTS (fun _ _ => rfl)) ar_nil))))) (e_one (e_res (c_pos (ok_is_whole T) (hr.mono (by decide)) hG (DLz.takes_of rfl rfl rfl rfl) rfl T.u_is_whole.mg T.u_is_whole.kp T.u_is_whole.bi rfl (ar_d (e_ix (e_var (pv 0)) e_int) (ar_d e_int (ar_d (e_gc rfl T.c_MOST_SPARE (fun _ _ => rfl)) ar_nil)))))))))
theorem ok_fits (T : Tx w K mg C a d) : FnG P w K mg base 3 (a 10) (d 10) ["sizes", "thing"] (spD ⟨C, mg, K, w, P⟩ 2 (f_fits C)) :=
  fnD T.u_fits.fn sc_fits rfl (by decide) fun cdv A outer s H E hr hG => s_cons (s_if (PW.pt (w_or (t_not (t_tru (e_res (c_pos (ok_are_sizes T) (hr.mono (by decide)) hG (DLz.takes_of rfl rfl rfl rfl) rfl T.u_are_sizes.mg T.u_are_sizes.kp T.u_are_sizes.bi rfl (ar_d (e_var (pv 0)) ar_nil))))) (w_or (t_not (t_tru (e_isi0 (ct := .tuple) nofun rfl T.b_isinstance (e_var (pv 1)) (pe_bltn rfl T.b_tuple boot_tuple rfl)))) (w_or1 (t_cmp (op_nes hr.units) fits_ne (b_call call_len fits_len rfl T.b_len boot_len (a_cons (e_var (pv 1)) a_nil)) (e_ix (e_var (pv 0)) e_int) rfl))))) (s_one (s_ret e_bl)) s_nil) (s_cons (s_setLcD (own := [("seat", 3)]) (i := 2) rfl sc_fits.nd rfl rfl (sw_true rfl rfl rfl (by decide +kernel)) (i_tup (e_var (pv 1))) (blkOk_by (own := [("seat", 3)]) (N := ["sizes", "thing", "taken", "seat"]) (sc := (defScope s_fits)) (by first | decide +kernel | kernel_rfl)) (by decide) (fun _ _ _ _ h => setI_nox h) (fun _ _ _ _ _ => g_name sc_fits.nd rfl (Or.inl rfl)) (fun _ _ _ _ _ => c_if (t_cmp op_notN fits_notN (e_var (pv 3)) e_non rfl)) (fun _ _ _ _ _ => e_var (pv 3))) (s_cons (s_if (t_not (t_tru (b_call (cr_all rfl) fits_all rfl T.b_all boot_all (a_cons (e_frz (o_lc (own := [("seat", 3)]) rfl sc_fits.nd (i_lst (e_var (pv 2))) (blkOk_by (own := [("seat", 3)]) (N := ["sizes", "thing", "taken", "seat"]) (sc := (defScope s_fits)) (by first | decide +kernel | kernel_rfl)) (by decide) (fun _ _ _ _ h => setI_nox h) (fun _ _ _ _ _ => g_name sc_fits.nd rfl (Or.inl rfl)) (fun _ _ _ _ _ => c_yes) (fun _ _ _ _ _ => e_res (c_pos (ok_is_whole T) (hr.mono (by decide)) hG takes0N rfl T.u_is_whole.mg T.u_is_whole.kp T.u_is_whole.bi rfl (ar_d (e_var (pv 3)) (ar_d e_int (ar_d (e_sub (b_call (cr_sumT rfl) fits_sumT rfl T.b_sum (by decide +kernel) (a_cons (e_var (pv 0)) a_nil)) e_int) ar_nil))))))) a_nil)))) (s_one (s_ret e_bl)) s_nil) (s_one (s_ret (e_cmp (op_eqs hr.units) fits_eq (e_lenSc (y := "seat") (k := 3) rfl rfl T.b_len sc_fits.nd (blkOk_by (own := [("seat", 3)]) (N := ["sizes", "thing", "taken", "seat"]) (sc := (defScope s_fits)) (by first | decide +kernel | kernel_rfl)) (e_var (pv 2)) (Nat.le_of_ble_eq_true rfl) (fun _ _ _ _ _ => pg_name sc_fits.nd rfl (Or.inl rfl)) (fun _ _ _ _ _ => pv 3)) (b_call call_len fits_len rfl T.b_len boot_len (a_cons (e_var (pv 2)) a_nil)) rfl)))))
theorem ok_is_samer0 (T : Tx w K mg C a d) : FnG P w K mg base 1 (a 11) (d 11) ["thing", "due"] (spD ⟨C, mg, K, w, P⟩ 2 (f_is_samer0 C)) :=
  fnD T.u_is_samer0.fn sc_is_samer0 rfl (by decide) fun cdv A outer s H E hr hG => s_cons (s_if (t_tru (e_isi0 (ct := .tuple) nofun rfl T.b_isinstance (e_var (pv 1)) (pe_bltn rfl T.b_tuple boot_tuple rfl))) (s_cons (s_if (PW.pt (w_or (t_not (t_tru (e_isi0 (ct := .tuple) nofun rfl T.b_isinstance (e_var (pv 0)) (pe_bltn rfl T.b_tuple boot_tuple rfl)))) (w_or1 (t_cmp (op_nes hr.units) fits_ne (b_call call_len fits_len rfl T.b_len boot_len (a_cons (e_var (pv 0)) a_nil)) (b_call call_len fits_len rfl T.b_len boot_len (a_cons (e_var (pv 1)) a_nil)) rfl)))) (s_one (s_ret e_bl)) s_nil) (s_one (s_ret (b_call (cr_all rfl) fits_all rfl T.b_all boot_all (a_cons (e_frz (o_lc (own := [("mine", 2), ("theirs", 3)]) rfl sc_is_samer0.nd (i_zip rfl T.b_zip (a_cons (e_var (pv 0)) (a_cons (e_var (pv 1)) a_nil))) (blkOk_by (own := [("mine", 2), ("theirs", 3)]) (N := ["thing", "due", "mine", "theirs"]) (sc := (defScope s_is_samer0)) (by first | decide +kernel | kernel_rfl)) (by decide) setTup_nox (fun _ _ _ _ _ => g_tup rfl (gs_cons sc_is_samer0.nd rfl (Or.inl rfl) (gs_cons sc_is_samer0.nd rfl (Or.inl rfl) gs_nil)) rfl) (fun _ _ _ _ _ => c_yes) (fun _ _ _ _ _ => e_res (c_pos (okNever (k := 0) rfl) (hr.mono (by decide)) hG takes0N rfl T.u_is_samer0.mg T.u_is_samer0.kp T.u_is_samer0.bi rfl (ar_d (e_var (pv 2)) (ar_d (e_var (pv 3)) ar_nil)))))) a_nil))))) s_nil) (s_one (s_ret (e_and (e_cmp (op_eqs hr.units) fits_eq (e_isi0 (ct := .bool) nofun rfl T.b_isinstance (e_var (pv 0)) (pe_bltn rfl T.b_bool boot_bool rfl)) (e_isi0 (ct := .bool) nofun rfl T.b_isinstance (e_var (pv 1)) (pe_bltn rfl T.b_bool boot_bool rfl)) rfl) (e_one (e_cmp (op_eqZ (room100 hr)) fits_eqZ (e_var (pv 0)) (e_var (pv 1)) rfl)))))
theorem ok_is_samer1 (T : Tx w K mg C a d) : FnG P w K mg base 2 (a 12) (d 12) ["thing", "due"] (spD ⟨C, mg, K, w, P⟩ 2 (f_is_samer1 C)) :=
  fnD T.u_is_samer1.fn sc_is_samer1 rfl (by decide) fun cdv A outer s H E hr hG => s_cons (s_if (t_tru (e_isi0 (ct := .tuple) nofun rfl T.b_isinstance (e_var (pv 1)) (pe_bltn rfl T.b_tuple boot_tuple rfl))) (s_cons (s_if (PW.pt (w_or (t_not (t_tru (e_isi0 (ct := .tuple) nofun rfl T.b_isinstance (e_var (pv 0)) (pe_bltn rfl T.b_tuple boot_tuple rfl)))) (w_or1 (t_cmp (op_nes hr.units) fits_ne (b_call call_len fits_len rfl T.b_len boot_len (a_cons (e_var (pv 0)) a_nil)) (b_call call_len fits_len rfl T.b_len boot_len (a_cons (e_var (pv 1)) a_nil)) rfl)))) (s_one (s_ret e_bl)) s_nil) (s_one (s_ret (b_call (cr_all rfl) fits_all rfl T.b_all boot_all (a_cons (e_frz (o_lc (own := [("mine", 2), ("theirs", 3)]) rfl sc_is_samer1.nd (i_zip rfl T.b_zip (a_cons (e_var (pv 0)) (a_cons (e_var (pv 1)) a_nil))) (blkOk_by (own := [("mine", 2), ("theirs", 3)]) (N := ["thing", "due", "mine", "theirs"]) (sc := (defScope s_is_samer1)) (by first | decide +kernel | kernel_rfl)) (by decide) setTup_nox (fun _ _ _ _ _ => g_tup rfl (gs_cons sc_is_samer1.nd rfl (Or.inl rfl) (gs_cons sc_is_samer1.nd rfl (Or.inl rfl) gs_nil)) rfl) (fun _ _ _ _ _ => c_yes) (fun _ _ _ _ _ => e_res (c_pos (ok_is_samer0 T) (hr.mono (by decide)) hG takes0N rfl T.u_is_samer0.mg T.u_is_samer0.kp T.u_is_samer0.bi rfl (ar_d (e_var (pv 2)) (ar_d (e_var (pv 3)) ar_nil)))))) a_nil))))) s_nil) (s_one (s_ret (e_and (e_cmp (op_eqs hr.units) fits_eq (e_isi0 (ct := .bool) nofun rfl T.b_isinstance (e_var (pv 0)) (pe_bltn rfl T.b_bool boot_bool rfl)) (e_isi0 (ct := .bool) nofun rfl T.b_isinstance (e_var (pv 1)) (pe_bltn rfl T.b_bool boot_bool rfl)) rfl) (e_one (e_cmp (op_eqZ (room100 hr)) fits_eqZ (e_var (pv 0)) (e_var (pv 1)) rfl)))))
theorem ok_walked (T : Tx w K mg C a d) : FnG P w K mg base 1 (a 13) (d 13) ["standing", "seat"] (spD ⟨C, mg, K, w, P⟩ 2 (f_walked C)) :=
  fnD T.u_walked.fn sc_walked rfl (by decide) fun cdv A outer s H E hr hG => s_cons (s_setO sc_walked.nd rfl (Or.inl rfl) (o_lst (a_cons (e_var (pv 1)) a_nil))) (s_cons (s_while (passes_of rfl) (t_cmp op_in_seq fits_in (e_oix (pv 2) (e_neg e_int)) (e_var (pv 0)) rfl) (s_one (s_expr (e_oapp (pv 2) (e_tidx (e_var (pv 0)) (e_oix (pv 2) (e_neg e_int))))))) (s_one (s_retOw (pv 2))))
theorem ok_waits_holds (T : Tx w K mg C a d) : FnG P w K mg base 4 (a 14) (d 14) ["claim", "paper"] (spD ⟨C, mg, K, w, P⟩ 2 (f_waits_holds C)) :=
  fnD T.u_waits_holds.fn sc_waits_holds rfl (by decide) fun cdv A outer s H E hr hG => s_cons (s_if (PW.pt (w_or (t_cmp (op_nes hr.units) fits_ne (b_call call_len fits_len rfl T.b_len boot_len (a_cons (e_var (pv 0)) a_nil)) e_int rfl) (w_or (t_not (t_tru (e_res (c_pos (ok_fits T) (hr.mono (by decide)) hG (DLz.takes_of rfl rfl rfl rfl) rfl T.u_fits.mg T.u_fits.kp T.u_fits.bi rfl (ar_d (e_ix (e_var (pv 0)) e_int) (ar_d (e_ix (e_var (pv 0)) e_int) ar_nil)))))) (w_or1 (t_not (t_tru (e_res (c_pos (ok_is_whole T) (hr.mono (by decide)) hG (DLz.takes_of rfl rfl rfl rfl) rfl T.u_is_whole.mg T.u_is_whole.kp T.u_is_whole.bi rfl (ar_d (e_ix (e_var (pv 0)) e_int) (ar_d e_int (ar_d (e_sub (b_call call_len fits_len rfl T.b_len boot_len (a_cons (e_ix (e_var (pv 0)) e_int) a_nil)) e_int) ar_nil))))))))))) (s_one (s_ret e_bl)) s_nil) (s_cons (s_asgw (e_var (pv 0)) (g_tupw rfl (gw_cons (g_w (g_name sc_waits_holds.nd rfl (Or.inl rfl))) (gw_cons (g_w (g_name sc_waits_holds.nd rfl (Or.inl rfl))) (gw_cons (g_w (g_name sc_waits_holds.nd rfl (Or.inl rfl))) (gw_cons (g_w (g_name sc_waits_holds.nd rfl (Or.inl rfl))) (gw_cons (g_w (g_name sc_waits_holds.nd rfl (Or.inl rfl))) gw_nil))))) rfl)) (s_cons (s_if (t_cmp op_notN fits_notN (e_ix (e_var (pv 4)) (e_var (pv 5))) e_non rfl) (s_one (s_ret e_bl)) s_nil) (s_cons (s_set sc_waits_holds.nd rfl (Or.inl rfl) (b_callT DLt.call_tupF fits_tuple rfl T.b_tuple boot_tuple (a_cons (e_res (c_pos (ok_walked T) (hr.mono (by decide)) hG (DLz.takes_of rfl rfl rfl rfl) rfl T.u_walked.mg T.u_walked.kp T.u_walked.bi rfl (ar_d (e_var (pv 4)) (ar_d (e_var (pv 5)) ar_nil)))) a_nil))) (s_one (s_ret (e_and (e_res (c_pos (ok_is_samer1 T) (hr.mono (by decide)) hG (DLz.takes_of rfl rfl rfl rfl) rfl T.u_is_samer1.mg T.u_is_samer1.kp T.u_is_samer1.bi rfl (ar_d (e_var (pv 6)) (ar_d (e_ix (e_var (pv 7)) (e_neg e_int)) ar_nil)))) (e_one (e_res (c_pos (ok_is_samer1 T) (hr.mono (by decide)) hG (DLz.takes_of rfl rfl rfl rfl) rfl T.u_is_samer1.mg T.u_is_samer1.kp T.u_is_samer1.bi rfl (ar_d (e_var (pv 1)) (ar_d (e_var (pv 7)) ar_nil)))))))))))
theorem ok_holds (T : Tx w K mg C a d) : FnG P w K mg base 5 (a 15) (d 15) ["claim", "paper"] (spD ⟨C, mg, K, w, P⟩ 2 (f_holds C)) :=
  fnD T.u_holds.fn sc_holds rfl (by decide) fun cdv A outer s H E hr hG => s_cons (s_if (PW.pt (w_or (t_not (t_tru (e_isi0 (ct := .tuple) nofun rfl T.b_isinstance (e_var (pv 0)) (pe_bltn rfl T.b_tuple boot_tuple rfl)))) (w_or (t_cmp (op_eqQ (room100 hr)) fits_eqQ (e_var (pv 0)) (e_tup a_nil) rfl) (w_or (t_not (t_tru (e_isi0 (ct := .str) nofun rfl T.b_isinstance (e_ix (e_var (pv 0)) e_int) (pe_bltn rfl T.b_str boot_str rfl)))) (w_or1 (t_gnin T.tabf_JUDGES rfl (e_ix (e_var (pv 0)) e_int))))))) (s_one (s_ret e_bl)) s_nil) (s_cons (s_set sc_holds.nd rfl (Or.inl rfl) (e_gfn T.tabf_JUDGES rfl (e_ix (e_var (pv 0)) e_int))) (s_one (s_ret (e_res (c_fnp (pv 2) (fn_cons (fn_pos (ok_waits_holds T) (hr.mono (by decide)) T.u_waits_holds.mg T.u_waits_holds.kp T.u_waits_holds.bi rfl) (fn_nil)) hG (DLz.takes_of rfl rfl rfl rfl) (a_cons (e_var (pv 0)) (a_cons (e_var (pv 1)) a_nil)))))))
theorem ok_Ltold (T : Tx w K mg C a d) : FnG P w K mg base 6 (a 16) (d 16) ["_law_saying", "_law_sheet", "_law_due"] (spD ⟨C, mg, K, w, P⟩ 3 (f_Ltold C)) :=
  fnD T.u_Ltold.fn sc_Ltold rfl (by decide) fun cdv A outer s H E hr hG => s_cons (s_set sc_Ltold.nd rfl (Or.inl rfl) (b_call (call_reprE hG (room100 hr)) fits_reprE rfl T.b_repr boot_repr (a_cons (e_tup (a_cons (e_var (pv 0)) (a_cons (e_var (pv 1)) a_nil))) a_nil))) (s_cons (s_for (passes_of rfl) rfl (i_lst (e_lst (a_cons (e_res (c_pos (ok_holds T) (hr.mono (by decide)) hG (DLz.takes_of rfl rfl rfl rfl) rfl T.u_holds.mg T.u_holds.kp T.u_holds.bi rfl (ar_d (e_var (pv 0)) (ar_d (e_var (pv 1)) ar_nil)))) (a_cons (e_res (c_kw0 (ks := ["paper", "claim"]) (ok_holds T) (hr.mono (by decide)) hG (DLz.takes_of rfl rfl rfl rfl) rfl T.u_holds.mg T.u_holds.kp (kw_holds_0_paper_claim T) rfl (k_cons (e_var (pv 1)) (k_cons (e_var (pv 0)) k_nil)))) (a_cons (e_res (c_pos (ok_holds T) (hr.mono (by decide)) hG (DLz.takes_of rfl rfl rfl rfl) rfl T.u_holds.mg T.u_holds.kp T.u_holds.bi rfl (ar_d (e_var (pv 0)) (ar_d (e_var (pv 1)) ar_nil)))) a_nil))))) (g_name sc_Ltold.nd rfl (Or.inl rfl)) (s_one (s_if (PW.pt (w_or (t_not (t_tru (e_isi0 (ct := .bool) nofun rfl T.b_isinstance (e_var (pv 4)) (pe_bltn rfl T.b_bool boot_bool rfl)))) (w_or1 (t_cmp (op_nes hr.units) fits_ne (e_var (pv 4)) (e_var (pv 2)) rfl)))) (s_one (s_ret e_bl)) s_nil)) (fun _ _ _ _ h => setI_nox h)) (s_one (s_ret (e_cmp (op_eqs hr.units) fits_eq (b_call (call_reprE hG (room100 hr)) fits_reprE rfl T.b_repr boot_repr (a_cons (e_tup (a_cons (e_var (pv 0)) (a_cons (e_var (pv 1)) a_nil))) a_nil)) (e_var (pv 3)) rfl))))
theorem ok_Leach_right (T : Tx w K mg C a d) : FnG P w K mg base 7 (a 17) (d 17) ["_law_sizes_here", "_law_stood_here"] (spD ⟨C, mg, K, w, P⟩ 2 (f_Leach_right C)) :=
  fnD T.u_Leach_right.fn sc_Leach_right rfl (by decide) fun cdv A outer s H E hr hG => s_cons (s_for (passes_of rfl) rfl (i_rng1 rfl T.b_range (a_cons (e_ix (e_var (pv 0)) e_int) a_nil)) (g_name sc_Leach_right.nd rfl (Or.inl rfl)) (s_cons (s_set sc_Leach_right.nd rfl (Or.inl rfl) (b_callT DLt.call_tupF fits_tuple rfl T.b_tuple boot_tuple (a_cons (e_res (c_pos (ok_Lseen T) (hr.mono (by decide)) hG (DLz.takes_of rfl rfl rfl rfl) rfl T.u_Lseen.mg T.u_Lseen.kp T.u_Lseen.bi rfl (ar_d (e_var (pv 1)) (ar_d (e_var (pv 2)) ar_nil)))) a_nil))) (s_cons (s_par2 rfl sc_Leach_right.nd rfl rfl (by decide) rfl rfl (v_d (e_tup (a_cons e_str (a_cons (e_var (pv 0)) (a_cons (e_var (pv 1)) (a_cons (e_var (pv 2)) (a_cons (e_ix (e_var (pv 3)) (e_neg e_int)) a_nil)))))) (v_d (e_cmp op_isN fits_isN (e_ix (e_var (pv 1)) (e_var (pv 2))) e_non rfl) v_nil))) (s_cons (s_if (t_not (t_tru (e_res (c_pos (ok_Ltold T) (hr.mono (by decide)) hG (DLz.takes_of rfl rfl rfl rfl) rfl T.u_Ltold.mg T.u_Ltold.kp T.u_Ltold.bi rfl (ar_d (e_var (pv 4)) (ar_d (e_var (pv 3)) (ar_d (e_var (pv 5)) ar_nil))))))) (s_one (s_ret e_bl)) s_nil) (s_cons (s_for (passes_of rfl) rfl (i_lst (e_lst (a_cons (e_tup (a_cons e_str (a_cons (e_var (pv 0)) (a_cons (e_var (pv 1)) (a_cons (e_sub (e_var (pv 2)) (e_ix (e_var (pv 0)) e_int)) (a_cons (e_ix (e_var (pv 3)) (e_neg e_int)) a_nil)))))) (a_cons (e_add (e_sl (e_var (pv 4)) p_none (p_some e_int)) (e_tup (a_cons (e_sub (e_ix (e_var (pv 3)) (e_neg e_int)) (b_call (cr_sumT rfl) fits_sumT rfl T.b_sum (by decide +kernel) (a_cons (e_var (pv 0)) a_nil))) a_nil))) a_nil)))) (g_name sc_Leach_right.nd rfl (Or.inl rfl)) (s_one (s_if (t_not (t_tru (e_res (c_pos (ok_Ltold T) (hr.mono (by decide)) hG (DLz.takes_of rfl rfl rfl rfl) rfl T.u_Ltold.mg T.u_Ltold.kp T.u_Ltold.bi rfl (ar_d (e_var (pv 6)) (ar_d (e_var (pv 3)) (ar_d e_bl ar_nil))))))) (s_one (s_ret e_bl)) s_nil)) (fun _ _ _ _ h => setI_nox h)) (s_one (s_for (passes_of rfl) rfl (i_lst (e_lst (a_cons (b_callT call_list_of fits_list rfl T.b_list boot_list (a_cons (e_var (pv 3)) a_nil)) (a_cons (e_sl (e_var (pv 3)) p_none (p_some (e_neg e_int))) (a_cons (e_add (e_var (pv 3)) (e_sl (e_var (pv 3)) (p_some (e_neg e_int)) p_none)) (a_cons (e_turn (e_var (pv 3))) (a_cons e_non (a_cons (e_tup a_nil) a_nil)))))))) (g_name sc_Leach_right.nd rfl (Or.inl rfl)) (s_one (s_if (t_not (t_tru (e_res (c_pos (ok_Ltold T) (hr.mono (by decide)) hG (DLz.takes_of rfl rfl rfl rfl) rfl T.u_Ltold.mg T.u_Ltold.kp T.u_Ltold.bi rfl (ar_d (e_var (pv 4)) (ar_d (e_var (pv 7)) (ar_d (e_and (e_var (pv 5)) (e_one (e_cmp (op_eqs hr.units) fits_eq (e_var (pv 7)) (e_var (pv 3)) rfl))) ar_nil))))))) (s_one (s_ret e_bl)) s_nil)) (fun _ _ _ _ h => setI_nox h))))))) (fun _ _ _ _ h => setI_nox h)) (s_one (s_ret e_bl))
theorem ok_Lfits (T : Tx w K mg C a d) : FnG P w K mg base 2 (a 18) (d 18) ["_law_sizes_here", "_law_thing"] (spD ⟨C, mg, K, w, P⟩ 2 (f_Lfits C)) :=
  fnD T.u_Lfits.fn sc_Lfits rfl (by decide) fun cdv A outer s H E hr hG => s_cons (s_if (PW.pt (w_or (t_not (t_tru (e_isi0 (ct := .tuple) nofun rfl T.b_isinstance (e_var (pv 0)) (pe_bltn rfl T.b_tuple boot_tuple rfl)))) (w_or (t_cmp (op_nes hr.units) fits_ne (b_call call_len fits_len rfl T.b_len boot_len (a_cons (e_var (pv 0)) a_nil)) e_int rfl) (w_or1 (t_not (t_tru (e_res (c_pos (ok_Lwhole T) (hr.mono (by decide)) hG (DLz.takes_of rfl rfl rfl rfl) rfl T.u_Lwhole.mg T.u_Lwhole.kp T.u_Lwhole.bi rfl (ar_d (e_ix (e_var (pv 0)) e_int) (ar_d e_int (ar_d e_int ar_nil))))))))))) (s_one (s_ret e_bl)) s_nil) (s_cons (s_if (PW.pt (w_or (t_not (t_tru (e_res (c_pos (ok_Lwhole T) (hr.mono (by decide)) hG (DLz.takes_of rfl rfl rfl rfl) rfl T.u_Lwhole.mg T.u_Lwhole.kp T.u_Lwhole.bi rfl (ar_d (e_ix (e_var (pv 0)) e_int) (ar_d e_int (ar_d e_int ar_nil))))))) (w_or (t_not (t_tru (e_isi0 (ct := .tuple) nofun rfl T.b_isinstance (e_var (pv 1)) (pe_bltn rfl T.b_tuple boot_tuple rfl)))) (w_or1 (t_cmp (op_nes hr.units) fits_ne (b_call call_len fits_len rfl T.b_len boot_len (a_cons (e_var (pv 1)) a_nil)) (e_ix (e_var (pv 0)) e_int) rfl))))) (s_one (s_ret e_bl)) s_nil) (s_cons (s_setLcD (own := [("_law_chair", 3)]) (i := 2) rfl sc_Lfits.nd rfl rfl (sw_true rfl rfl rfl (by decide +kernel)) (i_tup (e_var (pv 1))) (blkOk_by (own := [("_law_chair", 3)]) (N := ["_law_sizes_here", "_law_thing", "_law_taken", "_law_chair"]) (sc := (defScope s_Lfits)) (by first | decide +kernel | kernel_rfl)) (by decide) (fun _ _ _ _ h => setI_nox h) (fun _ _ _ _ _ => g_name sc_Lfits.nd rfl (Or.inl rfl)) (fun _ _ _ _ _ => c_if (t_cmp op_notN fits_notN (e_var (pv 3)) e_non rfl)) (fun _ _ _ _ _ => e_var (pv 3))) (s_cons (s_if (t_not (t_tru (b_call (cr_all rfl) fits_all rfl T.b_all boot_all (a_cons (e_frz (o_lc (own := [("_law_chair", 3)]) rfl sc_Lfits.nd (i_lst (e_var (pv 2))) (blkOk_by (own := [("_law_chair", 3)]) (N := ["_law_sizes_here", "_law_thing", "_law_taken", "_law_chair"]) (sc := (defScope s_Lfits)) (by first | decide +kernel | kernel_rfl)) (by decide) (fun _ _ _ _ h => setI_nox h) (fun _ _ _ _ _ => g_name sc_Lfits.nd rfl (Or.inl rfl)) (fun _ _ _ _ _ => c_yes) (fun _ _ _ _ _ => e_res (c_pos (ok_Lwhole T) (hr.mono (by decide)) hG takes0N rfl T.u_Lwhole.mg T.u_Lwhole.kp T.u_Lwhole.bi rfl (ar_d (e_var (pv 3)) (ar_d e_int (ar_d (e_sub (b_call (cr_sumT rfl) fits_sumT rfl T.b_sum (by decide +kernel) (a_cons (e_var (pv 0)) a_nil)) e_int) ar_nil))))))) a_nil)))) (s_one (s_ret e_bl)) s_nil) (s_one (s_ret (e_cmp (op_eqs hr.units) fits_eq (e_lenSl rfl rfl T.b_len rfl T.b_set (e_var (pv 2))) (b_call call_len fits_len rfl T.b_len boot_len (a_cons (e_var (pv 2)) a_nil)) rfl))))))
theorem ok_Lis_waits (T : Tx w K mg C a d) : FnG P w K mg base 3 (a 19) (d 19) ["_law_saying", "_law_sheet"] (spD ⟨C, mg, K, w, P⟩ 2 (f_Lis_waits C)) :=
  fnD T.u_Lis_waits.fn sc_Lis_waits rfl (by decide) fun cdv A outer s H E hr hG => s_cons (s_if (PW.pt (w_or (t_not (t_tru (e_isi0 (ct := .tuple) nofun rfl T.b_isinstance (e_var (pv 0)) (pe_bltn rfl T.b_tuple boot_tuple rfl)))) (w_or (t_cmp (op_nes hr.units) fits_ne (b_call call_len fits_len rfl T.b_len boot_len (a_cons (e_var (pv 0)) a_nil)) e_int rfl) (w_or (t_cmp (op_neQ (room100 hr)) fits_neQ (e_ix (e_var (pv 0)) e_int) e_str rfl) (w_or1 (t_not (t_tru (e_res (c_pos (ok_Lfits T) (hr.mono (by decide)) hG (DLz.takes_of rfl rfl rfl rfl) rfl T.u_Lfits.mg T.u_Lfits.kp T.u_Lfits.bi rfl (ar_d (e_ix (e_var (pv 0)) e_int) (ar_d (e_ix (e_var (pv 0)) e_int) ar_nil))))))))))) (s_one (s_ret e_bl)) s_nil) (s_cons (s_if (PW.pt (w_or (t_not (t_tru (e_res (c_pos (ok_Lwhole T) (hr.mono (by decide)) hG (DLz.takes_of rfl rfl rfl rfl) rfl T.u_Lwhole.mg T.u_Lwhole.kp T.u_Lwhole.bi rfl (ar_d (e_ix (e_var (pv 0)) e_int) (ar_d e_int (ar_d (e_sub (e_ix (e_ix (e_var (pv 0)) e_int) e_int) e_int) ar_nil))))))) (w_or1 (t_cmp op_notN fits_notN (e_ix (e_ix (e_var (pv 0)) e_int) (e_ix (e_var (pv 0)) e_int)) e_non rfl)))) (s_one (s_ret e_bl)) s_nil) (s_cons (s_set sc_Lis_waits.nd rfl (Or.inl rfl) (b_callT DLt.call_tupF fits_tuple rfl T.b_tuple boot_tuple (a_cons (e_res (c_pos (ok_Lseen T) (hr.mono (by decide)) hG (DLz.takes_of rfl rfl rfl rfl) rfl T.u_Lseen.mg T.u_Lseen.kp T.u_Lseen.bi rfl (ar_d (e_ix (e_var (pv 0)) e_int) (ar_d (e_ix (e_var (pv 0)) e_int) ar_nil)))) a_nil))) (s_one (s_ret (e_and (e_cmp (op_eqs hr.units) fits_eq (b_call (call_reprE hG (room100 hr)) fits_reprE rfl T.b_repr boot_repr (a_cons (e_ix (e_var (pv 0)) e_int) a_nil)) (b_call (call_reprE hG (room100 hr)) fits_reprE rfl T.b_repr boot_repr (a_cons (e_ix (e_var (pv 2)) (e_neg e_int)) a_nil)) rfl) (e_one (e_cmp (op_eqs hr.units) fits_eq (b_call (call_reprE hG (room100 hr)) fits_reprE rfl T.b_repr boot_repr (a_cons (e_var (pv 1)) a_nil)) (b_call (call_reprE hG (room100 hr)) fits_reprE rfl T.b_repr boot_repr (a_cons (e_var (pv 2)) a_nil)) rfl)))))))
theorem ok_Lno_halls_right (T : Tx w K mg C a d) : FnG P w K mg base 7 (a 20) (d 20) [] (spD ⟨C, mg, K, w, P⟩ 0 (f_Lno_halls_right C)) :=
  fnD T.u_Lno_halls_right.fn sc_Lno_halls_right rfl (by decide) fun cdv A outer s H E hr hG => s_cons (s_for (passes_of rfl) rfl (i_lst (e_lst (a_cons (e_tup (a_cons e_int (a_cons e_int a_nil))) (a_cons (e_tup (a_cons e_int (a_cons e_int a_nil))) (a_cons (e_tup (a_cons e_int (a_cons e_int a_nil))) (a_cons (e_tup (a_cons e_int (a_cons (e_neg e_int) a_nil))) (a_cons (e_tup (a_cons e_int a_nil)) (a_cons (e_lst (a_cons e_int (a_cons e_int a_nil))) (a_cons (e_tup (a_cons e_int (a_cons e_int (a_cons e_int a_nil)))) (a_cons (e_tup (a_cons e_bl (a_cons e_int a_nil))) (a_cons (e_tup (a_cons e_int (a_cons e_bl a_nil))) (a_cons e_int (a_cons e_non a_nil))))))))))))) (g_name sc_Lno_halls_right.nd rfl (Or.inl rfl)) (s_one (s_for (passes_of rfl) rfl (i_lst (e_lst (a_cons e_int (a_cons e_int (a_cons e_int (a_cons e_int a_nil)))))) (g_name sc_Lno_halls_right.nd rfl (Or.inl rfl)) (s_one (s_if (t_not (t_tru (e_res (c_pos (ok_Ltold T) (hr.mono (by decide)) hG (DLz.takes_of rfl rfl rfl rfl) rfl T.u_Ltold.mg T.u_Ltold.kp T.u_Ltold.bi rfl (ar_d (e_tup (a_cons e_str (a_cons (e_var (pv 0)) (a_cons (e_mul (e_tup (a_cons e_non a_nil)) (e_var (pv 1))) (a_cons e_int (a_cons e_int a_nil)))))) (ar_d (e_tup (a_cons e_int a_nil)) (ar_d e_bl ar_nil))))))) (s_one (s_ret e_bl)) s_nil)) (fun _ _ _ _ h => setI_nox h))) (fun _ _ _ _ h => setI_nox h)) (s_one (s_ret (e_res (c_pos (ok_Ltold T) (hr.mono (by decide)) hG (DLz.takes_of rfl rfl rfl rfl) rfl T.u_Ltold.mg T.u_Ltold.kp T.u_Ltold.bi rfl (ar_d (e_tup (a_cons e_str (a_cons (e_tup (a_cons e_int (a_cons e_int a_nil))) (a_cons (e_mul (e_tup (a_cons e_non a_nil)) e_int) (a_cons e_int (a_cons e_int a_nil)))))) (ar_d (e_tup (a_cons e_int a_nil)) (ar_d e_bl ar_nil)))))))
theorem ok_Lpool (T : Tx w K mg C a d) : FnG P w K mg base 1 (a 21) (d 21) ["_law_cell_here"] (spD ⟨C, mg, K, w, P⟩ 1 (f_Lpool C)) :=
  fnD T.u_Lpool.fn sc_Lpool rfl (by decide) fun cdv A outer s H E hr hG => s_cons (s_set sc_Lpool.nd rfl (Or.inl rfl) e_int) (s_cons (s_if (PW.pt (w_or (t_cmp op_lt fits_lt (e_var (pv 0)) e_int rfl) (w_or1 (t_cmp op_ge fits_ge (e_var (pv 0)) (e_pow e_int e_int) rfl)))) (s_one (s_set sc_Lpool.nd rfl (Or.inl rfl) (b_call call_abs fits_abs rfl T.b_abs boot_abs (a_cons (e_var (pv 0)) a_nil)))) s_nil) (s_one (s_retO (o_lst (a_cons (e_mod (e_var (pv 0)) e_int) (a_cons (e_var (pv 1)) (a_cons e_int a_nil)))))))
theorem ok_Lsizes (T : Tx w K mg C a d) : FnG P w K mg base 2 (a 22) (d 22) ["_law_pool_here", "_law_most", "_law_most_spare"] (spD ⟨C, mg, K, w, P⟩ 3 (f_Lsizes C)) :=
  fnD T.u_Lsizes.fn sc_Lsizes rfl (by decide) fun cdv A outer s H E hr hG => s_cons (s_par2 rfl sc_Lsizes.nd rfl rfl (by decide) rfl rfl (v_d (e_add e_int (e_res (c_pos (ok_Ltake T) (hr.mono (by decide)) hG (DLz.takes_of rfl rfl rfl rfl) rfl T.u_Ltake.mg T.u_Ltake.kp T.u_Ltake.bi rfl (ar_o (pv 0) (ar_d (e_var (pv 1)) ar_nil))))) (v_d (e_res (c_pos (ok_Ltake T) (hr.mono (by decide)) hG (DLz.takes_of rfl rfl rfl rfl) rfl T.u_Ltake.mg T.u_Ltake.kp T.u_Ltake.bi rfl (ar_o (pv 0) (ar_d e_int ar_nil)))) v_nil))) (s_one (s_ret (e_tup (a_cons (e_var (pv 3)) (a_cons (e_mul (e_var (pv 4)) (e_res (c_pos (ok_Ltake T) (hr.mono (by decide)) hG (DLz.takes_of rfl rfl rfl rfl) rfl T.u_Ltake.mg T.u_Ltake.kp T.u_Ltake.bi rfl (ar_o (pv 0) (ar_d (e_add (e_var (pv 2)) e_int) ar_nil))))) a_nil)))))
theorem ok_Lstood (T : Tx w K mg C a d) : FnG P w K mg base 2 (a 23) (d 23) ["_law_pool_here", "_law_sizes_here"] (spD ⟨C, mg, K, w, P⟩ 2 (f_Lstood C)) :=
  fnD T.u_Lstood.fn sc_Lstood rfl (by decide) fun cdv A outer s H E hr hG => s_cons (s_par2 rfl sc_Lstood.nd rfl rfl (by decide) rfl rfl (v_o (o_lRg rfl rfl T.b_list rfl T.b_range (b_call (cr_sumT rfl) fits_sumT rfl T.b_sum (by decide +kernel) (a_cons (e_var (pv 1)) a_nil))) (v_o (o_lst a_nil) v_nil))) (s_cons (s_par2 rfl sc_Lstood.nd rfl rfl (by decide) rfl rfl (v_d (e_res (c_pos (ok_Ltake T) (hr.mono (by decide)) hG (DLz.takes_of rfl rfl rfl rfl) rfl T.u_Ltake.mg T.u_Ltake.kp T.u_Ltake.bi rfl (ar_o (pv 0) (ar_d e_int ar_nil)))) (v_d (e_ix (e_lst (a_cons e_int (a_cons e_int (a_cons e_int (a_cons e_int a_nil))))) (e_res (c_pos (ok_Ltake T) (hr.mono (by decide)) hG (DLz.takes_of rfl rfl rfl rfl) rfl T.u_Ltake.mg T.u_Ltake.kp T.u_Ltake.bi rfl (ar_o (pv 0) (ar_d e_int ar_nil))))) v_nil))) (s_cons (s_for (passes_of rfl) rfl (i_rng1 rfl T.b_range (a_cons (e_ix (e_var (pv 1)) e_int) a_nil)) (g_name sc_Lstood.nd rfl (Or.inl rfl)) (s_cons (s_set sc_Lstood.nd rfl (Or.inl rfl) (e_opop (pv 2) (e_ife (t_cmp op_gt fits_gt (e_var (pv 4)) e_int rfl) (e_res (c_pos (ok_Ltake T) (hr.mono (by decide)) hG (DLz.takes_of rfl rfl rfl rfl) rfl T.u_Ltake.mg T.u_Ltake.kp T.u_Ltake.bi rfl (ar_o (pv 0) (ar_d (e_olen rfl T.b_len (pv 2)) ar_nil)))) (b_call (call_min2 rfl) fits_min2 rfl T.b_min boot_min (a_cons (e_sub (e_olen rfl T.b_len (pv 2)) e_int) (a_cons e_int a_nil)))))) (s_one (s_expr (e_oapp (pv 3) (e_ife (t_cmp (op_eqs hr.units) fits_eq (e_res (c_pos (ok_Ltake T) (hr.mono (by decide)) hG (DLz.takes_of rfl rfl rfl rfl) rfl T.u_Ltake.mg T.u_Ltake.kp T.u_Ltake.bi rfl (ar_o (pv 0) (ar_d (e_var (pv 5)) ar_nil)))) e_int rfl) e_non (e_var (pv 7))))))) (fun _ _ _ _ h => setI_nox h)) (s_one (s_ret (e_otupV rfl T.b_tuple (pv 3))))))
theorem ok_law (T : Tx w K mg C a d) : FnG P w K mg base 8 (a 24) (d 24) ["_law_script"] (spD ⟨C, mg, K, w, P⟩ 1 (f_law C)) :=
  fnD T.u_law.fn sc_law rfl (by decide) fun cdv A outer s H E hr hG => s_cons (s_if (t_not (t_tru (e_res (c_pos0 (ok_Lno_halls_right T) (hr.mono (by decide)) hG (DLz.takes_of rfl rfl rfl rfl) rfl T.u_Lno_halls_right.mg T.u_Lno_halls_right.kp T.u_Lno_halls_right.bi)))) (s_one (s_ret e_bl)) s_nil) (s_cons (s_for (passes_of rfl) rfl (i_rng1 rfl T.b_range (a_cons (b_call (call_max2 rfl) fits_max2 rfl T.b_max boot_max (a_cons e_int (a_cons (b_call (call_min2 rfl) fits_min2 rfl T.b_min boot_min (a_cons (b_call call_len fits_len rfl T.b_len boot_len (a_cons (e_var (pv 0)) a_nil)) (a_cons e_int a_nil))) a_nil))) a_nil)) (g_name sc_law.nd rfl (Or.inl rfl)) (s_cons (s_setO sc_law.nd rfl (Or.inl rfl) (o_res (c_pos (ok_Lpool T) (hr.mono (by decide)) hG (DLz.takes_of rfl rfl rfl rfl) rfl T.u_Lpool.mg T.u_Lpool.kp T.u_Lpool.bi rfl (ar_d (e_res (c_pos (ok_Lcell T) (hr.mono (by decide)) hG (DLz.takes_of rfl rfl rfl rfl) rfl T.u_Lcell.mg T.u_Lcell.kp T.u_Lcell.bi rfl (ar_d (e_var (pv 0)) (ar_d (e_var (pv 1)) ar_nil)))) ar_nil)))) (s_cons (s_set sc_law.nd rfl (Or.inl rfl) (e_ix (e_lst (a_cons (e_res (c_pos (ok_Lsizes T) (hr.mono (by decide)) hG (DLz.takes_of rfl rfl rfl rfl) rfl T.u_Lsizes.mg T.u_Lsizes.kp T.u_Lsizes.bi rfl (ar_o (pv 2) (ar_d e_int (ar_d e_int ar_nil))))) (a_cons (e_tup (a_cons e_int (a_cons e_int a_nil))) a_nil))) (b_callT call_int1 fits_int rfl T.b_int boot_int (a_cons (e_cmp (op_eqs hr.units) fits_eq (e_res (c_pos (ok_Ltake T) (hr.mono (by decide)) hG (DLz.takes_of rfl rfl rfl rfl) rfl T.u_Ltake.mg T.u_Ltake.kp T.u_Ltake.bi rfl (ar_o (pv 2) (ar_d e_int ar_nil)))) e_int rfl) a_nil)))) (s_cons (s_set sc_law.nd rfl (Or.inr rfl) (e_res (c_pos (ok_Lstood T) (hr.mono (by decide)) hG (DLz.takes_of rfl rfl rfl rfl) rfl T.u_Lstood.mg T.u_Lstood.kp T.u_Lstood.bi rfl (ar_o (pv 2) (ar_d (e_var (pv 3)) ar_nil))))) (s_cons (s_if (t_not (t_tru (e_res (c_pos (ok_Leach_right T) (hr.mono (by decide)) hG (DLz.takes_of rfl rfl rfl rfl) rfl T.u_Leach_right.mg T.u_Leach_right.kp T.u_Leach_right.bi rfl (ar_d (e_var (pv 3)) (ar_d (e_var (pv 4)) ar_nil)))))) (s_one (s_ret e_bl)) s_nil) (s_cons (s_setLcD (own := [("_law_lodger", 7)]) (i := 5) rfl sc_law.nd rfl rfl (sw_true rfl rfl rfl (by decide +kernel)) (i_rng1 rfl T.b_range (a_cons (e_ix (e_var (pv 3)) e_int) a_nil)) (blkOk_by (own := [("_law_lodger", 7)]) (N := ["_law_script", "_law_k", "_law_pool_here", "_law_sizes_here", "_law_stood_here", "_law_gone_out", "_law_turn", "_law_lodger", "_law_sheet", "_law_saying"]) (sc := (defScope s_law)) (by first | decide +kernel | kernel_rfl)) (by decide) (fun _ _ _ _ h => setI_nox h) (fun _ _ _ _ _ => g_name sc_law.nd rfl (Or.inl rfl)) (fun _ _ _ _ _ => c_if (t_cmp op_isN fits_isN (e_ix (e_var (pv 4)) (e_var (pv 7))) e_non rfl)) (fun _ _ _ _ _ => e_var (pv 7))) (s_one (s_for (passes_of rfl) rfl (i_rng1 rfl T.b_range (a_cons e_int a_nil)) (g_name sc_law.nd rfl (Or.inl rfl)) (s_cons (s_set sc_law.nd rfl (Or.inl rfl) (e_ix (e_add (e_var (pv 5)) (e_lst (a_cons e_int a_nil))) (e_res (c_pos (ok_Ltake T) (hr.mono (by decide)) hG (DLz.takes_of rfl rfl rfl rfl) rfl T.u_Ltake.mg T.u_Ltake.kp T.u_Ltake.bi rfl (ar_o (pv 2) (ar_d (e_add (b_call call_len fits_len rfl T.b_len boot_len (a_cons (e_var (pv 5)) a_nil)) e_int) ar_nil)))))) (s_cons (s_set sc_law.nd rfl (Or.inl rfl) (b_callT DLt.call_tupF fits_tuple rfl T.b_tuple boot_tuple (a_cons (e_res (c_pos (ok_Lseen T) (hr.mono (by decide)) hG (DLz.takes_of rfl rfl rfl rfl) rfl T.u_Lseen.mg T.u_Lseen.kp T.u_Lseen.bi rfl (ar_d (e_var (pv 4)) (ar_d (e_var (pv 7)) ar_nil)))) a_nil))) (s_cons (s_set sc_law.nd rfl (Or.inl rfl) (e_tup (a_cons e_str (a_cons (e_var (pv 3)) (a_cons (e_var (pv 4)) (a_cons (e_var (pv 7)) (a_cons (e_ix (e_var (pv 8)) (e_neg e_int)) a_nil))))))) (s_cons (s_if (t_cmp (op_eqs hr.units) fits_eq (e_res (c_pos (ok_Ltake T) (hr.mono (by decide)) hG (DLz.takes_of rfl rfl rfl rfl) rfl T.u_Ltake.mg T.u_Ltake.kp T.u_Ltake.bi rfl (ar_o (pv 2) (ar_d e_int ar_nil)))) e_int rfl) (s_one (s_set sc_law.nd rfl (Or.inl rfl) (e_res (c_pos (ok_Lbentr3 T) (hr.mono (by decide)) hG (DLz.takes_of rfl rfl rfl rfl) rfl T.u_Lbentr3.mg T.u_Lbentr3.kp T.u_Lbentr3.bi rfl (ar_o (pv 2) (ar_d (e_var (pv 8)) (ar_d e_int ar_nil))))))) (s_one (s_set sc_law.nd rfl (Or.inl rfl) (e_res (c_pos (ok_Lbentr3 T) (hr.mono (by decide)) hG (DLz.takes_of rfl rfl rfl rfl) rfl T.u_Lbentr3.mg T.u_Lbentr3.kp T.u_Lbentr3.bi rfl (ar_o (pv 2) (ar_d (e_var (pv 9)) (ar_d e_int ar_nil)))))))) (s_one (s_if (t_not (t_tru (e_res (c_pos (ok_Ltold T) (hr.mono (by decide)) hG (DLz.takes_of rfl rfl rfl rfl) rfl T.u_Ltold.mg T.u_Ltold.kp T.u_Ltold.bi rfl (ar_d (e_var (pv 9)) (ar_d (e_var (pv 8)) (ar_d (e_res (c_pos (ok_Lis_waits T) (hr.mono (by decide)) hG (DLz.takes_of rfl rfl rfl rfl) rfl T.u_Lis_waits.mg T.u_Lis_waits.kp T.u_Lis_waits.bi rfl (ar_d (e_var (pv 9)) (ar_d (e_var (pv 8)) ar_nil)))) ar_nil))))))) (s_one (s_ret e_bl)) s_nil)))))) (fun _ _ _ _ h => setI_nox h)))))))) (fun _ _ _ _ h => setI_nox h)) (s_one (s_ret e_bl)))
end
theorem all_mk {qq : Program} {l : PySem.W.OpenLaw} {w : World} {K : PySem.W.Frag} {h : Heap} {mg : Str → Option Value} {fa : Addr} (X : K.In h) (G : h.Ns mainGlobals mg) (hfa : mg "law" = some (.ref fa))
    {f0 f1 f2 f3 f4 f5 f6 f7 f8 f9 f10 f11 f12 f13 f14 f15 f16 f17 f18 f19 f20 f21 f22 f23 f24 : Addr} {od0 an0 od1 an1 od2 an2 od3 an3 od4 an4 od5 an5 od6 an6 od7 an7 od8 an8 od9 an9 od10 an10 od11 an11 od12 an12 od13 an13 od14 an14 od15 an15 od16 an16 od17 an17 od18 an18 od19 an19 od20 an20 od21 an21 od22 an22 od23 an23 od24 an24 : Option Addr} {sl0 sl1 sl2 sl3 sl4 sl5 sl6 sl7 sl8 sl9 sl10 sl11 sl12 sl13 sl14 sl15 sl16 sl17 sl18 sl19 sl20 sl21 sl22 sl23 sl24 : Array (Option Value)} {oc0 kV0 dc0 pm0 cd0 ct0 oc1 kV1 dc1 pm1 cd1 ct1 oc2 kV2 dc2 pm2 cd2 ct2 oc3 kV3 dc3 pm3 cd3 ct3 oc4 kV4 dc4 pm4 cd4 ct4 oc5 kV5 dc5 pm5 cd5 ct5 oc6 kV6 dc6 pm6 cd6 ct6 oc7 kV7 dc7 pm7 cd7 ct7 oc8 kV8 dc8 pm8 cd8 ct8 oc9 kV9 dc9 pm9 cd9 ct9 oc10 kV10 dc10 pm10 cd10 ct10 oc11 kV11 dc11 pm11 cd11 ct11 oc12 kV12 dc12 pm12 cd12 ct12 oc13 kV13 dc13 pm13 cd13 ct13 oc14 kV14 dc14 pm14 cd14 ct14 oc15 kV15 dc15 pm15 cd15 ct15 oc16 kV16 dc16 pm16 cd16 ct16 oc17 kV17 dc17 pm17 cd17 ct17 oc18 kV18 dc18 pm18 cd18 ct18 oc19 kV19 dc19 pm19 cd19 ct19 oc20 kV20 dc20 pm20 cd20 ct20 oc21 kV21 dc21 pm21 cd21 ct21 oc22 kV22 dc22 pm22 cd22 ct22 oc23 kV23 dc23 pm23 cd23 ct23 oc24 kV24 dc24 pm24 cd24 ct24 : Value}
    (l0 : K.lookup f0 = some ⟨oc0, od0, .func (PySem.W.fnOf "_law_take" "_law_take" (defArgs s_Ltake) (defBody s_Ltake) (defScope s_Ltake) .none kV0 dc0 pm0 an0 cd0 ct0), sl0⟩) (c0 : PySem.W.codeIn K cd0 "_law_take" = true) (k0 : PySem.W.keepIn K (.ref f0) = true)
    (a0 : PySem.W.nsIn K mainGlobals "_law_take" = some (some (.ref f0)))
    (l1 : K.lookup f1 = some ⟨oc1, od1, .func (PySem.W.fnOf "_law_whole" "_law_whole" (defArgs s_Lwhole) (defBody s_Lwhole) (defScope s_Lwhole) .none kV1 dc1 pm1 an1 cd1 ct1), sl1⟩) (c1 : PySem.W.codeIn K cd1 "_law_whole" = true) (k1 : PySem.W.keepIn K (.ref f1) = true)
    (a1 : PySem.W.nsIn K mainGlobals "_law_whole" = some (some (.ref f1)))
    (l2 : K.lookup f2 = some ⟨oc2, od2, .func (PySem.W.fnOf "_law_bent" "_law_bent" (defArgs s_Lbentr0) (defBody s_Lbentr0) (defScope s_Lbentr0) .none kV2 dc2 pm2 an2 cd2 ct2), sl2⟩) (c2 : PySem.W.codeIn K cd2 "_law_bent" = true) (k2 : PySem.W.keepIn K (.ref f2) = true)
    (a2 : PySem.W.nsIn K mainGlobals "_law_bent" = some (some (.ref f2)))
    (l3 : K.lookup f3 = some ⟨oc3, od3, .func (PySem.W.fnOf "_law_bent" "_law_bent" (defArgs s_Lbentr1) (defBody s_Lbentr1) (defScope s_Lbentr1) .none kV3 dc3 pm3 an3 cd3 ct3), sl3⟩) (c3 : PySem.W.codeIn K cd3 "_law_bent" = true) (k3 : PySem.W.keepIn K (.ref f3) = true)
    (a3 : PySem.W.nsIn K mainGlobals "_law_bent" = some (some (.ref f3)))
    (l4 : K.lookup f4 = some ⟨oc4, od4, .func (PySem.W.fnOf "_law_bent" "_law_bent" (defArgs s_Lbentr2) (defBody s_Lbentr2) (defScope s_Lbentr2) .none kV4 dc4 pm4 an4 cd4 ct4), sl4⟩) (c4 : PySem.W.codeIn K cd4 "_law_bent" = true) (k4 : PySem.W.keepIn K (.ref f4) = true)
    (a4 : PySem.W.nsIn K mainGlobals "_law_bent" = some (some (.ref f4)))
    (l5 : K.lookup f5 = some ⟨oc5, od5, .func (PySem.W.fnOf "_law_bent" "_law_bent" (defArgs s_Lbentr3) (defBody s_Lbentr3) (defScope s_Lbentr3) .none kV5 dc5 pm5 an5 cd5 ct5), sl5⟩) (c5 : PySem.W.codeIn K cd5 "_law_bent" = true) (k5 : PySem.W.keepIn K (.ref f5) = true)
    (a5 : PySem.W.nsIn K mainGlobals "_law_bent" = some (some (.ref f5)))
    (l6 : K.lookup f6 = some ⟨oc6, od6, .func (PySem.W.fnOf "_law_cell" "_law_cell" (defArgs s_Lcell) (defBody s_Lcell) (defScope s_Lcell) .none kV6 dc6 pm6 an6 cd6 ct6), sl6⟩) (c6 : PySem.W.codeIn K cd6 "_law_cell" = true) (k6 : PySem.W.keepIn K (.ref f6) = true)
    (a6 : PySem.W.nsIn K mainGlobals "_law_cell" = some (some (.ref f6)))
    (l7 : K.lookup f7 = some ⟨oc7, od7, .func (PySem.W.fnOf "_law_seen" "_law_seen" (defArgs s_Lseen) (defBody s_Lseen) (defScope s_Lseen) .none kV7 dc7 pm7 an7 cd7 ct7), sl7⟩) (c7 : PySem.W.codeIn K cd7 "_law_seen" = true) (k7 : PySem.W.keepIn K (.ref f7) = true)
    (a7 : PySem.W.nsIn K mainGlobals "_law_seen" = some (some (.ref f7)))
    (l8 : K.lookup f8 = some ⟨oc8, od8, .func (PySem.W.fnOf "is_whole" "is_whole" (defArgs s_is_whole) (defBody s_is_whole) (defScope s_is_whole) .none kV8 dc8 pm8 an8 cd8 ct8), sl8⟩) (c8 : PySem.W.codeIn K cd8 "is_whole" = true) (k8 : PySem.W.keepIn K (.ref f8) = true)
    (a8 : PySem.W.nsIn K mainGlobals "is_whole" = some (some (.ref f8)))
    (l9 : K.lookup f9 = some ⟨oc9, od9, .func (PySem.W.fnOf "are_sizes" "are_sizes" (defArgs s_are_sizes) (defBody s_are_sizes) (defScope s_are_sizes) .none kV9 dc9 pm9 an9 cd9 ct9), sl9⟩) (c9 : PySem.W.codeIn K cd9 "are_sizes" = true) (k9 : PySem.W.keepIn K (.ref f9) = true)
    (a9 : PySem.W.nsIn K mainGlobals "are_sizes" = some (some (.ref f9)))
    (l10 : K.lookup f10 = some ⟨oc10, od10, .func (PySem.W.fnOf "fits" "fits" (defArgs s_fits) (defBody s_fits) (defScope s_fits) .none kV10 dc10 pm10 an10 cd10 ct10), sl10⟩) (c10 : PySem.W.codeIn K cd10 "fits" = true) (k10 : PySem.W.keepIn K (.ref f10) = true)
    (a10 : PySem.W.nsIn K mainGlobals "fits" = some (some (.ref f10)))
    (l11 : K.lookup f11 = some ⟨oc11, od11, .func (PySem.W.fnOf "is_same" "is_same" (defArgs s_is_samer0) (defBody s_is_samer0) (defScope s_is_samer0) .none kV11 dc11 pm11 an11 cd11 ct11), sl11⟩) (c11 : PySem.W.codeIn K cd11 "is_same" = true) (k11 : PySem.W.keepIn K (.ref f11) = true)
    (a11 : PySem.W.nsIn K mainGlobals "is_same" = some (some (.ref f11)))
    (l12 : K.lookup f12 = some ⟨oc12, od12, .func (PySem.W.fnOf "is_same" "is_same" (defArgs s_is_samer1) (defBody s_is_samer1) (defScope s_is_samer1) .none kV12 dc12 pm12 an12 cd12 ct12), sl12⟩) (c12 : PySem.W.codeIn K cd12 "is_same" = true) (k12 : PySem.W.keepIn K (.ref f12) = true)
    (a12 : PySem.W.nsIn K mainGlobals "is_same" = some (some (.ref f12)))
    (l13 : K.lookup f13 = some ⟨oc13, od13, .func (PySem.W.fnOf "walked" "walked" (defArgs s_walked) (defBody s_walked) (defScope s_walked) .none kV13 dc13 pm13 an13 cd13 ct13), sl13⟩) (c13 : PySem.W.codeIn K cd13 "walked" = true) (k13 : PySem.W.keepIn K (.ref f13) = true)
    (a13 : PySem.W.nsIn K mainGlobals "walked" = some (some (.ref f13)))
    (l14 : K.lookup f14 = some ⟨oc14, od14, .func (PySem.W.fnOf "waits_holds" "waits_holds" (defArgs s_waits_holds) (defBody s_waits_holds) (defScope s_waits_holds) .none kV14 dc14 pm14 an14 cd14 ct14), sl14⟩) (c14 : PySem.W.codeIn K cd14 "waits_holds" = true) (k14 : PySem.W.keepIn K (.ref f14) = true)
    (a14 : PySem.W.nsIn K mainGlobals "waits_holds" = some (some (.ref f14)))
    (l15 : K.lookup f15 = some ⟨oc15, od15, .func (PySem.W.fnOf "holds" "holds" (defArgs s_holds) (defBody s_holds) (defScope s_holds) .none kV15 dc15 pm15 an15 cd15 ct15), sl15⟩) (c15 : PySem.W.codeIn K cd15 "holds" = true) (k15 : PySem.W.keepIn K (.ref f15) = true)
    (a15 : PySem.W.nsIn K mainGlobals "holds" = some (some (.ref f15)))
    (l16 : K.lookup f16 = some ⟨oc16, od16, .func (PySem.W.fnOf "_law_told" "_law_told" (defArgs s_Ltold) (defBody s_Ltold) (defScope s_Ltold) .none kV16 dc16 pm16 an16 cd16 ct16), sl16⟩) (c16 : PySem.W.codeIn K cd16 "_law_told" = true) (k16 : PySem.W.keepIn K (.ref f16) = true)
    (a16 : PySem.W.nsIn K mainGlobals "_law_told" = some (some (.ref f16)))
    (l17 : K.lookup f17 = some ⟨oc17, od17, .func (PySem.W.fnOf "_law_each_right" "_law_each_right" (defArgs s_Leach_right) (defBody s_Leach_right) (defScope s_Leach_right) .none kV17 dc17 pm17 an17 cd17 ct17), sl17⟩) (c17 : PySem.W.codeIn K cd17 "_law_each_right" = true) (k17 : PySem.W.keepIn K (.ref f17) = true)
    (a17 : PySem.W.nsIn K mainGlobals "_law_each_right" = some (some (.ref f17)))
    (l18 : K.lookup f18 = some ⟨oc18, od18, .func (PySem.W.fnOf "_law_fits" "_law_fits" (defArgs s_Lfits) (defBody s_Lfits) (defScope s_Lfits) .none kV18 dc18 pm18 an18 cd18 ct18), sl18⟩) (c18 : PySem.W.codeIn K cd18 "_law_fits" = true) (k18 : PySem.W.keepIn K (.ref f18) = true)
    (a18 : PySem.W.nsIn K mainGlobals "_law_fits" = some (some (.ref f18)))
    (l19 : K.lookup f19 = some ⟨oc19, od19, .func (PySem.W.fnOf "_law_is_waits" "_law_is_waits" (defArgs s_Lis_waits) (defBody s_Lis_waits) (defScope s_Lis_waits) .none kV19 dc19 pm19 an19 cd19 ct19), sl19⟩) (c19 : PySem.W.codeIn K cd19 "_law_is_waits" = true) (k19 : PySem.W.keepIn K (.ref f19) = true)
    (a19 : PySem.W.nsIn K mainGlobals "_law_is_waits" = some (some (.ref f19)))
    (l20 : K.lookup f20 = some ⟨oc20, od20, .func (PySem.W.fnOf "_law_no_halls_right" "_law_no_halls_right" (defArgs s_Lno_halls_right) (defBody s_Lno_halls_right) (defScope s_Lno_halls_right) .none kV20 dc20 pm20 an20 cd20 ct20), sl20⟩) (c20 : PySem.W.codeIn K cd20 "_law_no_halls_right" = true) (k20 : PySem.W.keepIn K (.ref f20) = true)
    (a20 : PySem.W.nsIn K mainGlobals "_law_no_halls_right" = some (some (.ref f20)))
    (l21 : K.lookup f21 = some ⟨oc21, od21, .func (PySem.W.fnOf "_law_pool" "_law_pool" (defArgs s_Lpool) (defBody s_Lpool) (defScope s_Lpool) .none kV21 dc21 pm21 an21 cd21 ct21), sl21⟩) (c21 : PySem.W.codeIn K cd21 "_law_pool" = true) (k21 : PySem.W.keepIn K (.ref f21) = true)
    (a21 : PySem.W.nsIn K mainGlobals "_law_pool" = some (some (.ref f21)))
    (l22 : K.lookup f22 = some ⟨oc22, od22, .func (PySem.W.fnOf "_law_sizes" "_law_sizes" (defArgs s_Lsizes) (defBody s_Lsizes) (defScope s_Lsizes) .none kV22 dc22 pm22 an22 cd22 ct22), sl22⟩) (c22 : PySem.W.codeIn K cd22 "_law_sizes" = true) (k22 : PySem.W.keepIn K (.ref f22) = true)
    (a22 : PySem.W.nsIn K mainGlobals "_law_sizes" = some (some (.ref f22)))
    (l23 : K.lookup f23 = some ⟨oc23, od23, .func (PySem.W.fnOf "_law_stood" "_law_stood" (defArgs s_Lstood) (defBody s_Lstood) (defScope s_Lstood) .none kV23 dc23 pm23 an23 cd23 ct23), sl23⟩) (c23 : PySem.W.codeIn K cd23 "_law_stood" = true) (k23 : PySem.W.keepIn K (.ref f23) = true)
    (a23 : PySem.W.nsIn K mainGlobals "_law_stood" = some (some (.ref f23)))
    (l24 : K.lookup f24 = some ⟨oc24, od24, .func (PySem.W.fnOf "law" "law" (defArgs s_law) (defBody s_law) (defScope s_law) .none kV24 dc24 pm24 an24 cd24 ct24), sl24⟩) (c24 : PySem.W.codeIn K cd24 "law" = true) (k24 : PySem.W.keepIn K (.ref f24) = true)
    (a24 : PySem.W.nsIn K mainGlobals "law" = some (some (.ref f24)))
    (z_abs : PySem.W.nsIn K mainGlobals "abs" = some none)
    (z_all : PySem.W.nsIn K mainGlobals "all" = some none)
    (z_bool : PySem.W.nsIn K mainGlobals "bool" = some none)
    (z_divmod : PySem.W.nsIn K mainGlobals "divmod" = some none)
    (z_int : PySem.W.nsIn K mainGlobals "int" = some none)
    (z_isinstance : PySem.W.nsIn K mainGlobals "isinstance" = some none)
    (z_len : PySem.W.nsIn K mainGlobals "len" = some none)
    (z_list : PySem.W.nsIn K mainGlobals "list" = some none)
    (z_max : PySem.W.nsIn K mainGlobals "max" = some none)
    (z_min : PySem.W.nsIn K mainGlobals "min" = some none)
    (z_range : PySem.W.nsIn K mainGlobals "range" = some none)
    (z_repr : PySem.W.nsIn K mainGlobals "repr" = some none)
    (z_set : PySem.W.nsIn K mainGlobals "set" = some none)
    (z_str : PySem.W.nsIn K mainGlobals "str" = some none)
    (z_sum : PySem.W.nsIn K mainGlobals "sum" = some none)
    (z_tuple : PySem.W.nsIn K mainGlobals "tuple" = some none)
    (z_zip : PySem.W.nsIn K mainGlobals "zip" = some none)
    {t_MOST_GUESTS : Tok} (v_MOST_GUESTS : PySem.W.nsIn K mainGlobals "MOST_GUESTS" = some (some (.int 24 t_MOST_GUESTS)))
    {t_MOST_SPARE : Tok} (v_MOST_SPARE : PySem.W.nsIn K mainGlobals "MOST_SPARE" = some (some (.int 6 t_MOST_SPARE)))
    (tabf_JUDGES : tabFB K "JUDGES" [("waits", "waits_holds"), ("comes", "comes_holds"), ("never", "never_holds"), ("fewest", "fewest_holds"), ("sits", "sits_holds"), ("nowhere", "nowhere_holds"), ("meet", "meet_holds"), ("join", "join_holds"), ("stands", "stands_holds")] = true) (tacf_JUDGES : He.dicW K (tabAt K "JUDGES") = some (He.keysIn w.params (([("waits", "waits_holds"), ("comes", "comes_holds"), ("never", "never_holds"), ("fewest", "fewest_holds"), ("sits", "sits_holds"), ("nowhere", "nowhere_holds"), ("meet", "meet_holds"), ("join", "join_holds"), ("stands", "stands_holds")] : List (Str × Str)).map (·.1))))
    : ∃ (cs : List (Addr × Addr × Str)) (C : Addr) (fd : FuncData), TabsBy qq K cs [] ∧ (∀ (s : Shared) (v : Value), BindsTo s fd ⟨[v], []⟩ [("_law_script", v)]) ∧ ∀ base : Heap, K.In base → base.Ns mainGlobals mg → (∀ p ∈ cs, LamX.TabB base mg p.1 p.2.1) → FnG l.prog w K mg base 8 fa fd ["_law_script"] (@spD ⟨cs.map (·.2)⟩ ⟨C, mg, K, w, l.prog⟩ 1 (f_law C)) := by
  have e := hfa.symm.trans (PySem.W.mg_of X G a24)
  cases e
  have F0 := fun_mk (st := s_Ltake) l0 c0 k0
  have F1 := fun_mk (st := s_Lwhole) l1 c1 k1
  have F2 := fun_mk (st := s_Lbentr0) l2 c2 k2
  have F3 := fun_mk (st := s_Lbentr1) l3 c3 k3
  have F4 := fun_mk (st := s_Lbentr2) l4 c4 k4
  have F5 := fun_mk (st := s_Lbentr3) l5 c5 k5
  have F6 := fun_mk (st := s_Lcell) l6 c6 k6
  have F7 := fun_mk (st := s_Lseen) l7 c7 k7
  have F8 := fun_mk (st := s_is_whole) l8 c8 k8
  have F9 := fun_mk (st := s_are_sizes) l9 c9 k9
  have F10 := fun_mk (st := s_fits) l10 c10 k10
  have F11 := fun_mk (st := s_is_samer0) l11 c11 k11
  have F12 := fun_mk (st := s_is_samer1) l12 c12 k12
  have F13 := fun_mk (st := s_walked) l13 c13 k13
  have F14 := fun_mk (st := s_waits_holds) l14 c14 k14
  have F15 := fun_mk (st := s_holds) l15 c15 k15
  have F16 := fun_mk (st := s_Ltold) l16 c16 k16
  have F17 := fun_mk (st := s_Leach_right) l17 c17 k17
  have F18 := fun_mk (st := s_Lfits) l18 c18 k18
  have F19 := fun_mk (st := s_Lis_waits) l19 c19 k19
  have F20 := fun_mk (st := s_Lno_halls_right) l20 c20 k20
  have F21 := fun_mk (st := s_Lpool) l21 c21 k21
  have F22 := fun_mk (st := s_Lsizes) l22 c22 k22
  have F23 := fun_mk (st := s_Lstood) l23 c23 k23
  have F24 := fun_mk (st := s_law) l24 c24 k24
  have B0 := F0.binds (ps := ["_law_pool_here", "_law_count"]) fun _ _ _ _ _ _ us hl => match us, hl with | [_, _], _ => rfl
  have B1 := F1.binds (ps := ["_law_thing", "_law_least", "_law_most"]) fun _ _ _ _ _ _ us hl => match us, hl with | [_, _, _], _ => rfl
  have B2 := F2.binds (ps := ["_law_pool_here", "_law_thing", "_law_deep"]) fun _ _ _ _ _ _ us hl => match us, hl with | [_, _, _], _ => rfl
  have B3 := F3.binds (ps := ["_law_pool_here", "_law_thing", "_law_deep"]) fun _ _ _ _ _ _ us hl => match us, hl with | [_, _, _], _ => rfl
  have B4 := F4.binds (ps := ["_law_pool_here", "_law_thing", "_law_deep"]) fun _ _ _ _ _ _ us hl => match us, hl with | [_, _, _], _ => rfl
  have B5 := F5.binds (ps := ["_law_pool_here", "_law_thing", "_law_deep"]) fun _ _ _ _ _ _ us hl => match us, hl with | [_, _, _], _ => rfl
  have B6 := F6.binds (ps := ["_law_script", "_law_k"]) fun _ _ _ _ _ _ us hl => match us, hl with | [_, _], _ => rfl
  have B7 := F7.binds (ps := ["_law_stood_here", "_law_chair"]) fun _ _ _ _ _ _ us hl => match us, hl with | [_, _], _ => rfl
  have B8 := F8.binds (ps := ["thing", "least", "most"]) fun _ _ _ _ _ _ us hl => match us, hl with | [_, _, _], _ => rfl
  have B9 := F9.binds (ps := ["thing"]) fun _ _ _ _ _ _ us hl => match us, hl with | [_], _ => rfl
  have B10 := F10.binds (ps := ["sizes", "thing"]) fun _ _ _ _ _ _ us hl => match us, hl with | [_, _], _ => rfl
  have B11 := F11.binds (ps := ["thing", "due"]) fun _ _ _ _ _ _ us hl => match us, hl with | [_, _], _ => rfl
  have B12 := F12.binds (ps := ["thing", "due"]) fun _ _ _ _ _ _ us hl => match us, hl with | [_, _], _ => rfl
  have B13 := F13.binds (ps := ["standing", "seat"]) fun _ _ _ _ _ _ us hl => match us, hl with | [_, _], _ => rfl
  have B14 := F14.binds (ps := ["claim", "paper"]) fun _ _ _ _ _ _ us hl => match us, hl with | [_, _], _ => rfl
  have B15 := F15.binds (ps := ["claim", "paper"]) fun _ _ _ _ _ _ us hl => match us, hl with | [_, _], _ => rfl
  have B16 := F16.binds (ps := ["_law_saying", "_law_sheet", "_law_due"]) fun _ _ _ _ _ _ us hl => match us, hl with | [_, _, _], _ => rfl
  have B17 := F17.binds (ps := ["_law_sizes_here", "_law_stood_here"]) fun _ _ _ _ _ _ us hl => match us, hl with | [_, _], _ => rfl
  have B18 := F18.binds (ps := ["_law_sizes_here", "_law_thing"]) fun _ _ _ _ _ _ us hl => match us, hl with | [_, _], _ => rfl
  have B19 := F19.binds (ps := ["_law_saying", "_law_sheet"]) fun _ _ _ _ _ _ us hl => match us, hl with | [_, _], _ => rfl
  have B20 := F20.binds (ps := []) fun _ _ _ _ _ _ us hl => match us, hl with | [], _ => rfl
  have B21 := F21.binds (ps := ["_law_cell_here"]) fun _ _ _ _ _ _ us hl => match us, hl with | [_], _ => rfl
  have B22 := F22.binds (ps := ["_law_pool_here", "_law_most", "_law_most_spare"]) fun _ _ _ _ _ _ us hl => match us, hl with | [_, _, _], _ => rfl
  have B23 := F23.binds (ps := ["_law_pool_here", "_law_sizes_here"]) fun _ _ _ _ _ _ us hl => match us, hl with | [_, _], _ => rfl
  have B24 := F24.binds (ps := ["_law_script"]) fun _ _ _ _ _ _ us hl => match us, hl with | [_], _ => rfl
  obtain ⟨C, _⟩ : ∃ C : Addr, C = 0 := ⟨0, rfl⟩
  letI : Tbs := ⟨([] : List (Addr × Addr × Str)).map (·.2)⟩
  have T : Tx w K mg C (fun i => [f0, f1, f2, f3, f4, f5, f6, f7, f8, f9, f10, f11, f12, f13, f14, f15, f16, f17, f18, f19, f20, f21, f22, f23, fa].getD i 0) (fun i => [PySem.W.fnOf "_law_take" "_law_take" (defArgs s_Ltake) (defBody s_Ltake) (defScope s_Ltake) .none kV0 dc0 pm0 an0 cd0 ct0, PySem.W.fnOf "_law_whole" "_law_whole" (defArgs s_Lwhole) (defBody s_Lwhole) (defScope s_Lwhole) .none kV1 dc1 pm1 an1 cd1 ct1, PySem.W.fnOf "_law_bent" "_law_bent" (defArgs s_Lbentr0) (defBody s_Lbentr0) (defScope s_Lbentr0) .none kV2 dc2 pm2 an2 cd2 ct2, PySem.W.fnOf "_law_bent" "_law_bent" (defArgs s_Lbentr1) (defBody s_Lbentr1) (defScope s_Lbentr1) .none kV3 dc3 pm3 an3 cd3 ct3, PySem.W.fnOf "_law_bent" "_law_bent" (defArgs s_Lbentr2) (defBody s_Lbentr2) (defScope s_Lbentr2) .none kV4 dc4 pm4 an4 cd4 ct4, PySem.W.fnOf "_law_bent" "_law_bent" (defArgs s_Lbentr3) (defBody s_Lbentr3) (defScope s_Lbentr3) .none kV5 dc5 pm5 an5 cd5 ct5, PySem.W.fnOf "_law_cell" "_law_cell" (defArgs s_Lcell) (defBody s_Lcell) (defScope s_Lcell) .none kV6 dc6 pm6 an6 cd6 ct6, PySem.W.fnOf "_law_seen" "_law_seen" (defArgs s_Lseen) (defBody s_Lseen) (defScope s_Lseen) .none kV7 dc7 pm7 an7 cd7 ct7, PySem.W.fnOf "is_whole" "is_whole" (defArgs s_is_whole) (defBody s_is_whole) (defScope s_is_whole) .none kV8 dc8 pm8 an8 cd8 ct8, PySem.W.fnOf "are_sizes" "are_sizes" (defArgs s_are_sizes) (defBody s_are_sizes) (defScope s_are_sizes) .none kV9 dc9 pm9 an9 cd9 ct9, PySem.W.fnOf "fits" "fits" (defArgs s_fits) (defBody s_fits) (defScope s_fits) .none kV10 dc10 pm10 an10 cd10 ct10, PySem.W.fnOf "is_same" "is_same" (defArgs s_is_samer0) (defBody s_is_samer0) (defScope s_is_samer0) .none kV11 dc11 pm11 an11 cd11 ct11, PySem.W.fnOf "is_same" "is_same" (defArgs s_is_samer1) (defBody s_is_samer1) (defScope s_is_samer1) .none kV12 dc12 pm12 an12 cd12 ct12, PySem.W.fnOf "walked" "walked" (defArgs s_walked) (defBody s_walked) (defScope s_walked) .none kV13 dc13 pm13 an13 cd13 ct13, PySem.W.fnOf "waits_holds" "waits_holds" (defArgs s_waits_holds) (defBody s_waits_holds) (defScope s_waits_holds) .none kV14 dc14 pm14 an14 cd14 ct14, PySem.W.fnOf "holds" "holds" (defArgs s_holds) (defBody s_holds) (defScope s_holds) .none kV15 dc15 pm15 an15 cd15 ct15, PySem.W.fnOf "_law_told" "_law_told" (defArgs s_Ltold) (defBody s_Ltold) (defScope s_Ltold) .none kV16 dc16 pm16 an16 cd16 ct16, PySem.W.fnOf "_law_each_right" "_law_each_right" (defArgs s_Leach_right) (defBody s_Leach_right) (defScope s_Leach_right) .none kV17 dc17 pm17 an17 cd17 ct17, PySem.W.fnOf "_law_fits" "_law_fits" (defArgs s_Lfits) (defBody s_Lfits) (defScope s_Lfits) .none kV18 dc18 pm18 an18 cd18 ct18, PySem.W.fnOf "_law_is_waits" "_law_is_waits" (defArgs s_Lis_waits) (defBody s_Lis_waits) (defScope s_Lis_waits) .none kV19 dc19 pm19 an19 cd19 ct19, PySem.W.fnOf "_law_no_halls_right" "_law_no_halls_right" (defArgs s_Lno_halls_right) (defBody s_Lno_halls_right) (defScope s_Lno_halls_right) .none kV20 dc20 pm20 an20 cd20 ct20, PySem.W.fnOf "_law_pool" "_law_pool" (defArgs s_Lpool) (defBody s_Lpool) (defScope s_Lpool) .none kV21 dc21 pm21 an21 cd21 ct21, PySem.W.fnOf "_law_sizes" "_law_sizes" (defArgs s_Lsizes) (defBody s_Lsizes) (defScope s_Lsizes) .none kV22 dc22 pm22 an22 cd22 ct22, PySem.W.fnOf "_law_stood" "_law_stood" (defArgs s_Lstood) (defBody s_Lstood) (defScope s_Lstood) .none kV23 dc23 pm23 an23 cd23 ct23, PySem.W.fnOf "law" "law" (defArgs s_law) (defBody s_law) (defScope s_law) .none kV24 dc24 pm24 an24 cd24 ct24].getD i (PySem.W.fnOf "_law_take" "_law_take" (defArgs s_Ltake) (defBody s_Ltake) (defScope s_Ltake) .none kV0 dc0 pm0 an0 cd0 ct0)) := by
    exact ⟨tabF_of X G tabf_JUDGES tacf_JUDGES, ⟨F0, PySem.W.mg_of X G a0, k0, B0⟩, ⟨F1, PySem.W.mg_of X G a1, k1, B1⟩, ⟨F2, PySem.W.mg_of X G a2, k2, B2⟩, ⟨F3, PySem.W.mg_of X G a3, k3, B3⟩, ⟨F4, PySem.W.mg_of X G a4, k4, B4⟩, ⟨F5, PySem.W.mg_of X G a5, k5, B5⟩, ⟨F6, PySem.W.mg_of X G a6, k6, B6⟩, ⟨F7, PySem.W.mg_of X G a7, k7, B7⟩, ⟨F8, PySem.W.mg_of X G a8, k8, B8⟩, ⟨F9, PySem.W.mg_of X G a9, k9, B9⟩, ⟨F10, PySem.W.mg_of X G a10, k10, B10⟩, ⟨F11, PySem.W.mg_of X G a11, k11, B11⟩, ⟨F12, PySem.W.mg_of X G a12, k12, B12⟩, ⟨F13, PySem.W.mg_of X G a13, k13, B13⟩, ⟨F14, PySem.W.mg_of X G a14, k14, B14⟩, ⟨F15, PySem.W.mg_of X G a15, k15, B15⟩, ⟨F16, PySem.W.mg_of X G a16, k16, B16⟩, ⟨F17, PySem.W.mg_of X G a17, k17, B17⟩, ⟨F18, PySem.W.mg_of X G a18, k18, B18⟩, ⟨F19, PySem.W.mg_of X G a19, k19, B19⟩, ⟨F20, PySem.W.mg_of X G a20, k20, B20⟩, ⟨F21, PySem.W.mg_of X G a21, k21, B21⟩, ⟨F22, PySem.W.mg_of X G a22, k22, B22⟩, ⟨F23, PySem.W.mg_of X G a23, k23, B23⟩, ⟨F24, PySem.W.mg_of X G a24, k24, B24⟩, PySem.W.mg_none_of X G z_abs, PySem.W.mg_none_of X G z_all, PySem.W.mg_none_of X G z_bool, PySem.W.mg_none_of X G z_divmod, PySem.W.mg_none_of X G z_int, PySem.W.mg_none_of X G z_isinstance, PySem.W.mg_none_of X G z_len, PySem.W.mg_none_of X G z_list, PySem.W.mg_none_of X G z_max, PySem.W.mg_none_of X G z_min, PySem.W.mg_none_of X G z_range, PySem.W.mg_none_of X G z_repr, PySem.W.mg_none_of X G z_set, PySem.W.mg_none_of X G z_str, PySem.W.mg_none_of X G z_sum, PySem.W.mg_none_of X G z_tuple, PySem.W.mg_none_of X G z_zip, ⟨_, PySem.W.mg_of X G v_MOST_GUESTS, ⟨_, rfl⟩⟩, ⟨_, PySem.W.mg_of X G v_MOST_SPARE, ⟨_, rfl⟩⟩⟩
  exact ⟨[], C, PySem.W.fnOf "law" "law" (defArgs s_law) (defBody s_law) (defScope s_law) .none kV24 dc24 pm24 an24 cd24 ct24, fun p hp => by simp at hp, fun s v => .of_eq rfl, fun base _ _ TB => ok_law T⟩
end DLP
set_option Elab.async false
set_option linter.all false
set_option maxRecDepth 100000
set_option maxHeartbeats 4000000
set_option Elab.async false
set_option linter.all false
set_option maxRecDepth 100000
set_option maxHeartbeats 4000000
set_option Elab.async false
set_option linter.all false
set_option maxRecDepth 100000
set_option maxHeartbeats 4000000
set_option Elab.async false
set_option linter.all false
set_option maxRecDepth 100000
set_option maxHeartbeats 4000000
set_option Elab.async false
set_option linter.all false
set_option maxRecDepth 100000
set_option maxHeartbeats 4000000
set_option Elab.async false
set_option linter.all false
set_option maxRecDepth 100000
set_option maxHeartbeats 4000000
set_option Elab.async false
set_option linter.all false
set_option maxRecDepth 100000
set_option maxHeartbeats 4000000
set_option Elab.async false
set_option linter.all false
set_option maxRecDepth 100000
set_option maxHeartbeats 4000000
set_option Elab.async false
set_option linter.all false
set_option maxRecDepth 100000
set_option maxHeartbeats 4000000
set_option Elab.async false
set_option linter.all false
set_option maxRecDepth 100000
set_option maxHeartbeats 4000000
set_option Elab.async false
set_option linter.all false
set_option maxRecDepth 100000
set_option maxHeartbeats 4000000
set_option Elab.async false
set_option linter.all false
set_option maxRecDepth 100000
set_option maxHeartbeats 4000000
set_option Elab.async false
set_option linter.all false
set_option maxRecDepth 100000
set_option maxHeartbeats 4000000
set_option Elab.async false
set_option linter.all false
set_option maxRecDepth 100000
set_option maxHeartbeats 4000000
set_option Elab.async false
set_option linter.all false
set_option maxRecDepth 100000
set_option maxHeartbeats 4000000
set_option Elab.async false
set_option linter.all false
set_option maxRecDepth 100000
set_option maxHeartbeats 4000000
set_option Elab.async false
set_option linter.all false
set_option maxRecDepth 100000
set_option maxHeartbeats 4000000
set_option Elab.async false
set_option linter.all false
set_option maxRecDepth 100000
set_option maxHeartbeats 4000000
set_option Elab.async false
set_option linter.all false
set_option maxRecDepth 100000
set_option maxHeartbeats 400000
set_option Elab.async false
set_option linter.all false
set_option maxRecDepth 100000
set_option maxHeartbeats 400000
set_option Elab.async false
set_option linter.all false
set_option maxRecDepth 100000
set_option maxHeartbeats 4000000
set_option Elab.async false
set_option linter.all false
set_option maxRecDepth 100000
set_option maxHeartbeats 0
namespace DLP
open PySem PySem.Spec PyProof.Rows L2 DL
theorem all_h {qq : Program} {l : PySem.W.OpenLaw} {w : World} {K : PySem.W.Frag} {h : Heap} {mg : Str → Option Value} {fa : Addr} (KX : K.In h) (G : h.Ns mainGlobals mg) (hmg : mg "law" = some (.ref fa)) (c : SaysK chkH fnH K) (ct : SaysKT chkH fnH tsH w K)
    : ∃ (cs : List (Addr × Addr × Str)) (C : Addr) (fd : FuncData), K.In h ∧ TabsBy qq K cs [] ∧ (∀ (s : Shared) (v : Value), BindsTo s fd ⟨[v], []⟩ [("_law_script", v)]) ∧ ∀ base : Heap, K.In base → base.Ns mainGlobals mg → (∀ p ∈ cs, LamX.TabB base mg p.1 p.2.1) → FnG l.prog w K mg base 8 fa fd ["_law_script"] (@spD ⟨cs.map (·.2)⟩ ⟨C, mg, K, w, l.prog⟩ 1 (f_law C)) := by
    obtain ⟨oc0, od0, sl0, kV0, dc0, pm0, an0, cd0, ct0, l0, c0⟩ := c.def_ 0 (d := ⟨("_law_take", none), "_law_take", "_law_take", defArgs s_Ltake, defBody s_Ltake, defScope s_Ltake⟩) rfl
    obtain ⟨oc1, od1, sl1, kV1, dc1, pm1, an1, cd1, ct1, l1, c1⟩ := c.def_ 1 (d := ⟨("_law_whole", none), "_law_whole", "_law_whole", defArgs s_Lwhole, defBody s_Lwhole, defScope s_Lwhole⟩) rfl
    obtain ⟨oc2, od2, sl2, kV2, dc2, pm2, an2, cd2, ct2, l2, c2⟩ := c.def_ 2 (d := ⟨("_law_bent", none), "_law_bent", "_law_bent", defArgs s_Lbentr0, defBody s_Lbentr0, defScope s_Lbentr0⟩) rfl
    obtain ⟨oc3, od3, sl3, kV3, dc3, pm3, an3, cd3, ct3, l3, c3⟩ := c.def_ 3 (d := ⟨("_law_bent", none), "_law_bent", "_law_bent", defArgs s_Lbentr1, defBody s_Lbentr1, defScope s_Lbentr1⟩) rfl
    obtain ⟨oc4, od4, sl4, kV4, dc4, pm4, an4, cd4, ct4, l4, c4⟩ := c.def_ 4 (d := ⟨("_law_bent", none), "_law_bent", "_law_bent", defArgs s_Lbentr2, defBody s_Lbentr2, defScope s_Lbentr2⟩) rfl
    obtain ⟨oc5, od5, sl5, kV5, dc5, pm5, an5, cd5, ct5, l5, c5⟩ := c.def_ 5 (d := ⟨("_law_bent", none), "_law_bent", "_law_bent", defArgs s_Lbentr3, defBody s_Lbentr3, defScope s_Lbentr3⟩) rfl
    obtain ⟨oc6, od6, sl6, kV6, dc6, pm6, an6, cd6, ct6, l6, c6⟩ := c.def_ 6 (d := ⟨("_law_cell", none), "_law_cell", "_law_cell", defArgs s_Lcell, defBody s_Lcell, defScope s_Lcell⟩) rfl
    obtain ⟨oc7, od7, sl7, kV7, dc7, pm7, an7, cd7, ct7, l7, c7⟩ := c.def_ 7 (d := ⟨("_law_seen", none), "_law_seen", "_law_seen", defArgs s_Lseen, defBody s_Lseen, defScope s_Lseen⟩) rfl
    obtain ⟨oc8, od8, sl8, kV8, dc8, pm8, an8, cd8, ct8, l8, c8⟩ := c.def_ 8 (d := ⟨("is_whole", none), "is_whole", "is_whole", defArgs s_is_whole, defBody s_is_whole, defScope s_is_whole⟩) rfl
    obtain ⟨oc9, od9, sl9, kV9, dc9, pm9, an9, cd9, ct9, l9, c9⟩ := c.def_ 9 (d := ⟨("are_sizes", none), "are_sizes", "are_sizes", defArgs s_are_sizes, defBody s_are_sizes, defScope s_are_sizes⟩) rfl
    obtain ⟨oc10, od10, sl10, kV10, dc10, pm10, an10, cd10, ct10, l10, c10⟩ := c.def_ 10 (d := ⟨("fits", none), "fits", "fits", defArgs s_fits, defBody s_fits, defScope s_fits⟩) rfl
    obtain ⟨oc11, od11, sl11, kV11, dc11, pm11, an11, cd11, ct11, l11, c11⟩ := c.def_ 11 (d := ⟨("is_same", none), "is_same", "is_same", defArgs s_is_samer0, defBody s_is_samer0, defScope s_is_samer0⟩) rfl
    obtain ⟨oc12, od12, sl12, kV12, dc12, pm12, an12, cd12, ct12, l12, c12⟩ := c.def_ 12 (d := ⟨("is_same", none), "is_same", "is_same", defArgs s_is_samer1, defBody s_is_samer1, defScope s_is_samer1⟩) rfl
    obtain ⟨oc13, od13, sl13, kV13, dc13, pm13, an13, cd13, ct13, l13, c13⟩ := c.def_ 13 (d := ⟨("walked", none), "walked", "walked", defArgs s_walked, defBody s_walked, defScope s_walked⟩) rfl
    obtain ⟨oc14, od14, sl14, kV14, dc14, pm14, an14, cd14, ct14, l14, c14⟩ := c.def_ 14 (d := ⟨("waits_holds", none), "waits_holds", "waits_holds", defArgs s_waits_holds, defBody s_waits_holds, defScope s_waits_holds⟩) rfl
    obtain ⟨oc15, od15, sl15, kV15, dc15, pm15, an15, cd15, ct15, l15, c15⟩ := c.def_ 15 (d := ⟨("holds", none), "holds", "holds", defArgs s_holds, defBody s_holds, defScope s_holds⟩) rfl
    obtain ⟨oc16, od16, sl16, kV16, dc16, pm16, an16, cd16, ct16, l16, c16⟩ := c.def_ 16 (d := ⟨("_law_told", none), "_law_told", "_law_told", defArgs s_Ltold, defBody s_Ltold, defScope s_Ltold⟩) rfl
    obtain ⟨oc17, od17, sl17, kV17, dc17, pm17, an17, cd17, ct17, l17, c17⟩ := c.def_ 17 (d := ⟨("_law_each_right", none), "_law_each_right", "_law_each_right", defArgs s_Leach_right, defBody s_Leach_right, defScope s_Leach_right⟩) rfl
    obtain ⟨oc18, od18, sl18, kV18, dc18, pm18, an18, cd18, ct18, l18, c18⟩ := c.def_ 18 (d := ⟨("_law_fits", none), "_law_fits", "_law_fits", defArgs s_Lfits, defBody s_Lfits, defScope s_Lfits⟩) rfl
    obtain ⟨oc19, od19, sl19, kV19, dc19, pm19, an19, cd19, ct19, l19, c19⟩ := c.def_ 19 (d := ⟨("_law_is_waits", none), "_law_is_waits", "_law_is_waits", defArgs s_Lis_waits, defBody s_Lis_waits, defScope s_Lis_waits⟩) rfl
    obtain ⟨oc20, od20, sl20, kV20, dc20, pm20, an20, cd20, ct20, l20, c20⟩ := c.def_ 20 (d := ⟨("_law_no_halls_right", none), "_law_no_halls_right", "_law_no_halls_right", defArgs s_Lno_halls_right, defBody s_Lno_halls_right, defScope s_Lno_halls_right⟩) rfl
    obtain ⟨oc21, od21, sl21, kV21, dc21, pm21, an21, cd21, ct21, l21, c21⟩ := c.def_ 21 (d := ⟨("_law_pool", none), "_law_pool", "_law_pool", defArgs s_Lpool, defBody s_Lpool, defScope s_Lpool⟩) rfl
    obtain ⟨oc22, od22, sl22, kV22, dc22, pm22, an22, cd22, ct22, l22, c22⟩ := c.def_ 22 (d := ⟨("_law_sizes", none), "_law_sizes", "_law_sizes", defArgs s_Lsizes, defBody s_Lsizes, defScope s_Lsizes⟩) rfl
    obtain ⟨oc23, od23, sl23, kV23, dc23, pm23, an23, cd23, ct23, l23, c23⟩ := c.def_ 23 (d := ⟨("_law_stood", none), "_law_stood", "_law_stood", defArgs s_Lstood, defBody s_Lstood, defScope s_Lstood⟩) rfl
    obtain ⟨oc24, od24, sl24, kV24, dc24, pm24, an24, cd24, ct24, l24, c24⟩ := c.def_ 24 (d := ⟨("law", none), "law", "law", defArgs s_law, defBody s_law, defScope s_law⟩) rfl
    obtain ⟨t_MOST_GUESTS, v_MOST_GUESTS⟩ := DL.intB_ok (c.fact 67)
    obtain ⟨t_MOST_SPARE, v_MOST_SPARE⟩ := DL.intB_ok (c.fact 68)
    obtain ⟨cs, C, fd, z⟩ := all_mk (qq := qq) (l := l) (w := w) KX G hmg l0 c0 (c.fact 0) (of_decide_eq_true (c.fact 1)) l1 c1 (c.fact 2) (of_decide_eq_true (c.fact 3)) l2 c2 (c.fact 4) (of_decide_eq_true (c.fact 5)) l3 c3 (c.fact 6) (of_decide_eq_true (c.fact 7)) l4 c4 (c.fact 8) (of_decide_eq_true (c.fact 9)) l5 c5 (c.fact 10) (of_decide_eq_true (c.fact 11)) l6 c6 (c.fact 12) (of_decide_eq_true (c.fact 13)) l7 c7 (c.fact 14) (of_decide_eq_true (c.fact 15)) l8 c8 (c.fact 16) (of_decide_eq_true (c.fact 17)) l9 c9 (c.fact 18) (of_decide_eq_true (c.fact 19)) l10 c10 (c.fact 20) (of_decide_eq_true (c.fact 21)) l11 c11 (c.fact 22) (of_decide_eq_true (c.fact 23)) l12 c12 (c.fact 24) (of_decide_eq_true (c.fact 25)) l13 c13 (c.fact 26) (of_decide_eq_true (c.fact 27)) l14 c14 (c.fact 28) (of_decide_eq_true (c.fact 29)) l15 c15 (c.fact 30) (of_decide_eq_true (c.fact 31)) l16 c16 (c.fact 32) (of_decide_eq_true (c.fact 33)) l17 c17 (c.fact 34) (of_decide_eq_true (c.fact 35)) l18 c18 (c.fact 36) (of_decide_eq_true (c.fact 37)) l19 c19 (c.fact 38) (of_decide_eq_true (c.fact 39)) l20 c20 (c.fact 40) (of_decide_eq_true (c.fact 41)) l21 c21 (c.fact 42) (of_decide_eq_true (c.fact 43)) l22 c22 (c.fact 44) (of_decide_eq_true (c.fact 45)) l23 c23 (c.fact 46) (of_decide_eq_true (c.fact 47)) l24 c24 (c.fact 48) (of_decide_eq_true (c.fact 49)) (of_decide_eq_true (c.fact 50)) (of_decide_eq_true (c.fact 51)) (of_decide_eq_true (c.fact 52)) (of_decide_eq_true (c.fact 53)) (of_decide_eq_true (c.fact 54)) (of_decide_eq_true (c.fact 55)) (of_decide_eq_true (c.fact 56)) (of_decide_eq_true (c.fact 57)) (of_decide_eq_true (c.fact 58)) (of_decide_eq_true (c.fact 59)) (of_decide_eq_true (c.fact 60)) (of_decide_eq_true (c.fact 61)) (of_decide_eq_true (c.fact 62)) (of_decide_eq_true (c.fact 63)) (of_decide_eq_true (c.fact 64)) (of_decide_eq_true (c.fact 65)) (of_decide_eq_true (c.fact 66)) v_MOST_GUESTS v_MOST_SPARE (c.fact 69) (ct.tab 0)
    exact ⟨cs, C, fd, KX, z⟩
theorem walkH {q : Program} {loose : List Str} {XP : (Str → Option Value) → Heap → Prop} {YP : World → Heap → Prop} {d : DefRec} (hdf : d.params.defaults = [])
    (F : ∀ (w : World) (mg : Str → Option Value) (fa : Addr) (h : Heap), YP w h → h.Ns mainGlobals mg → mg d.name = some (.ref fa) →
      ∃ (K : PySem.W.Frag) (cs : List (Addr × Addr × Str)) (C : Addr) (fd : FuncData), K.In h ∧ TabsBy q K cs [] ∧ (∀ (s : Shared) (u : Value), BindsTo s fd ⟨[u], []⟩ [("_law_script", u)]) ∧ ∀ base : Heap, K.In base → base.Ns mainGlobals mg → (∀ p ∈ cs, LamX.TabB base mg p.1 p.2.1) → FnG PySem.Challenge.rw_waitseats_k48_claims_of_walks.prog w K mg base 8 fa fd ["_law_script"] (@spD ⟨cs.map (·.2)⟩ ⟨C, mg, K, w, PySem.Challenge.rw_waitseats_k48_claims_of_walks.prog⟩ 1 (f_law C))) :
    PySem.W.WalkO q loose XP YP PySem.Challenge.rw_waitseats_k48_claims_of_walks.row.toRowW d [] (fun f vs => PySem.call f vs) :=
  walk_gE (l := PySem.Challenge.rw_waitseats_k48_claims_of_walks) (n := 63) (k := 8) f_law rfl (by decide) hdf (by decide) rfl F plain
end DLP
open PySem PySem.W PySem.Calls PyProof.Rows
set_option maxRecDepth 100000 in
set_option maxHeartbeats 0 in
theorem PySem.Challenge.cw_waitseats_k48_claims_of_walks_holds : PySem.Challenge.rw_waitseats_k48_claims_of_walks.Holds := by
  w_on; o_law
  refine HandSHeadRun.head_any (r := DLP.rowH) (q := DLP.viewH) (H := DLP.hkH) (ob := DLP.obH) (M := 20000) (loose := DLP.looseH) (d := HandSHeadRun.topDef DLP.rowH.prog 76) (kwd := []) DLP.obH_eq
    (by kernel_rfl) (fun s => by kernel_rfl) DLP.runH (by kernel_rfl) (by kernel_rfl) (by kernel_rfl) (by rfl) (by first | assumption | decide +kernel) (by decide +kernel) ⟨rfl, rfl, rfl, rfl, rfl, by decide +kernel⟩ ?hw ?hc
  case hw => w_witness2
  case hc =>
    refine DLP.walkH rfl ?F
    intro w mg fa h Y G hmg0
    obtain ⟨K, KX, c⟩ := Y
    have hmg : mg ("law" : PySem.Str) = some (.ref fa) := by
      have e : (HandSHeadRun.topDef DLP.rowH.prog 76).name = ("law" : PySem.Str) := by kernel_rfl
      rw [← e]
      exact hmg0
    exact ⟨K, DLP.all_h KX G hmg c.k c⟩
