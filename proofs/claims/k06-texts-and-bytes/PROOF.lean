import PyProof.Rows.All
import Wide.All
import OpenK.AllK
import Wide.FinOn
import HandS.ForMost
import HandS.Exc
import HandS.Strs
import HandS.TupAny
import HandS.TupMul
import HandS.Conv
import HandS.ExcCtx
import HandS.Hot
import HandS.HotCalls
import HandS.SuiteRaise
import KE.KCtx
import HandS.Lambda
import KE.KDictKeyed
import KE.KeyNested
import HandS.IsInst
import HandS.ExcOwn
import HandS.WideBits
import KE.GoesMore
import HandS.Walk
import HandS.WordsExc
import HandS.ExcInit
import HandS.ExcIs
import HandS.TryMany
import HandS.MakeKwOnly
import HandS.SetFor
import HandS.Style
import HandS.Ends
import KE.KNest
import HandS.DictComp
import HandS.SortInts
import KE.LtData
import KE.KDictPairs
import KE.DataMinMax
import HandS.ClsMeth
import KE.KExcIs
import HandS.ExcField
import HandS.Comp
import HandS.RaiseMore
import HandS.FStr
import HandS.Text
import KE.KCallOwn
import HandS.TupLe
import KE.KRevSl
import HandS.Small
import HandS.Head0
import HandS.Head1
import HandS.Head2
import HandS.HeadHook1
import HandS.Zip
import PyProof.CollectIter
import PyProof.WalksMore
import KE.KFmtOwn
import HandS.More
import HandS.HeadHook3
import HandS.Finally
import PyProof.RulesFinally
import HandS.RaiseFrom
import PyProof.EqKinds
import KE.KTupSum
import PyProof.Rows.Range3
import HandS.SetBool
import HandS.SortOrd
import KE.SortData
import KE.DataCmp
import HandS.DictSubView
import PySem.Challenge.RW_waitseats_k06_texts_and_bytes
set_option Elab.async false
set_option linter.all false
set_option maxRecDepth 100000
set_option maxHeartbeats 4000000
namespace DLt
open PySem PySem.Spec PyProof.Rows L2
section
/-- a new tuple of the items, whatever its address -/
def NewT (vs : List V) (H : Hp) (Q : VK) : Prop := ∀ (ob : Obj) (a : Addr), ob.dict = none → H a = none → Q (.ref a) (upd H a (.frz ob (.tup vs)))
end
end DLt
namespace DLz
open PySem PySem.Spec PyProof.Rows L2
section
open HotX (chained)
/-- a chain of contexts, over what is held -/
inductive Chn (H : Hp) : Value → Prop
  | nil : Chn H .none
  | ref {b : Addr} {ob : Obj} {us : Array Value} {v : Value} : H b = some (.frz ob (.ext fun h => h.get? b = some ob)) → ob.data = .fields us → us[2]? = some v → Chn H v → Chn H (.ref b)
theorem Chn.mono {H H' : Hp} (k : ∀ b o u, H b = some (.frz o u) → H' b = some (.frz o u)) {v : Value} (h : Chn H v) : Chn H' v := by
  induction h with
  | nil => exact .nil
  | ref e d u _ ih => exact .ref (k _ _ _ e) d u ih
/-- what is kept of the object: class, dict, context -/
def Zq (cls : Value) (d : Option Addr) (c : Value) : Obj → Prop := fun o => (o.cls = cls ∧ o.dict = d) ∧ ∀ vs : Array Value, o.data = .fields vs → vs[2]? = some c
/-- such an exception in the air -/
def XE (X : Cx) (W : WX) (u : Value) (s' : Shared) : Prop :=
  ∃ (a : Addr) (c : Value) (B : Heap) (sI : Shared) (pins : List (Addr × Obj)) (σ : L2.St) (H : Hp) (cls : Value) (d : Option Addr),
    (u = .ref a ∧ Chn H c ∧ H a = none ∧ W cls d σ H) ∧ Inv X pins σ H sI ∧ (s'.os = sI.os ∧ AllBare s'.gens) ∧
    (∀ b o, sI.heap.get? b = some o → b ∉ frs X.stack → B.get? b = some o) ∧ sI.heap.UpToSlots s'.heap ∧ Sky B X.stack a (Zq cls d c) X.env.locals s'.heap
def Takes (X : Cx) (W : WX) : Prop := ∀ u s', XE X W u s' → X.xe u s'
theorem Takes.imp {X : Cx} {W W' : WX} (t : Takes X W) (h : ∀ c d σ H, W' c d σ H → W c d σ H) : Takes X W' := fun u s' x => by
  obtain ⟨a, c, B, sI, pins, σ, H, cls, d, ⟨e, ch, na, w⟩, r⟩ := x
  exact t u s' ⟨a, c, B, sI, pins, σ, H, cls, d, ⟨e, ch, na, h _ _ _ _ w⟩, r⟩
/-- what a call lets out -/
def CX (P : Program) (w : World) (outer : List Env) (H : Hp) (s : Shared) (E : XK) (u : Value) (s' : Shared) : Prop :=
  ∃ (a : Addr) (c : Value) (B : Heap) (H' : Hp) (cls : Value) (d : Option Addr), (u = .ref a ∧ Chn H' c ∧ H' a = none ∧ E cls d H') ∧ (s'.os = s.os ∧ AllBare s'.gens) ∧
    HandSPX.FlyingZ B outer a (Zq cls d c) s'.heap ∧ HOk P w H' B ∧ UB (frs outer) H H' s.heap B s'.heap
section
variable {X : Cx} {pins : List (Addr × Obj)} {σ : L2.St} {H : Hp} {sI s s' : Shared} {B : Heap} {W : WX} {E : XK}
theorem XE.new {a : Addr} {c : Value} {oe : Obj} {vs : Array Value} {cls : Value} {d : Option Addr} (I : Inv X pins σ H sI) (k : ∀ b o, sI.heap.get? b = some o → s'.heap.get? b = some o) (fresh : sI.heap.get? a = none) (he : s'.heap.get? a = some oe)
    (hz : Zq cls d c oe) (hd : oe.data = .fields vs) (h1 : vs[1]? = some .none) (ch : Chn H c) (na : H a = none) (os : s'.os = sI.os) (ag : AllBare s'.gens) (w : W cls d σ H) : XE X W (.ref a) s' := by
  have gone : (PySem.W.hideAll sI.heap (frs X.stack)).get? a = none := by
    cases q : (PySem.W.hideAll sI.heap (frs X.stack)).get? a with
    | none => rfl
    | some o => exact nomatch fresh.symm.trans (PySem.W.of_hideAll _ q)
  refine ⟨a, c, _, sI, pins, σ, H, cls, d, ⟨rfl, ch, na, w⟩, I, ⟨os, ag⟩, fun b o e hb => PySem.W.hideAll_get _ e hb, Heap.UpToSlots.of_keeps k, .inl ⟨fun b o e => k b o (PySem.W.of_hideAll _ e), gone, ?_, oe, vs, he, hz, hd, h1⟩⟩
  exact Heap.FunFrames.of_keeps (fun b o e _ => ⟨o, k b o e, rfl⟩) (funFrames_none I.stack fun b hb => PySem.W.hideAll_none _ hb)
end
/-- the chain as it stands, without a -/
inductive HCh (h : Heap) (a : Addr) : Value → Prop
  | nil : HCh h a .none
  | ref {b : Addr} {ob : Obj} {us : Array Value} {v : Value} : b ≠ a → h.get? b = some ob → ob.data = .fields us → us[2]? = some v → HCh h a v → HCh h a (.ref b)
theorem HCh.keeps {h h' : Heap} {a : Addr} (k : ∀ b o, h.get? b = some o → h'.get? b = some o) {v : Value} (x : HCh h a v) : HCh h' a v := by
  induction x with
  | nil => exact .nil
  | ref n e d u _ ih => exact .ref n (k _ _ e) d u ih
theorem Chn.here {H : Hp} {h : Heap} (hok : ∀ b ob, H b = some (.frz ob (.ext fun h => h.get? b = some ob)) → h.get? b = some ob) {a : Addr} (na : h.get? a = none) {v : Value} (x : Chn H v) : HCh h a v := by
  induction x with
  | nil => exact .nil
  | ref e d u _ ih => exact .ref (fun z => by have e2 := hok _ _ e; rw [z, na] at e2; cases e2) (hok _ _ e) d u ih
section
variable {prog : Program} {w : World} {A : Around} {E : Value → Shared → Prop} {s : Shared}
/-- the handled exception, as it stands -/
def HotAt (A : Around) (x1 a : Addr) (h : Heap) : Prop := A.handled = some (.ref x1) ∧ ∃ (o : Obj) (us : Array Value) (v : Value), h.get? x1 = some o ∧ o.data = .fields us ∧ us[2]? = some v ∧ HCh h a v
theorem HotAt.keeps {x1 a : Addr} {h h' : Heap} (x : HotAt A x1 a h) (k : ∀ b o, h.get? b = some o → h'.get? b = some o) : HotAt A x1 a h' :=
  let ⟨hh, o, us, v, e, d, q, c⟩ := x; ⟨hh, o, us, v, k _ _ e, d, q, c.keeps k⟩
end
end
end DLz
namespace DL
open PySem PySem.Spec PyProof.Rows L2
section
/-- what stays through the whole law: the class Hall, the module's names, the written part, the world, the program -/
structure Gx where
  C : Addr
  mg : Str → Option Value
  K : PySem.W.Frag
  w : World
  P : Program
/-- the tables of code objects of the defs that make lambdas, with the lambdas' names -/
class Tbs where
  T : List (Addr × Str)
inductive D where
  | non | bl (b : Bool) | int (i : Int) | str (s : Str) | byt (b : Array UInt8)
  | tup (xs : List D) | pr (xs : List D) | lst (xs : List D) | hall (g s : Int) | scr (ns : List Int)
  | emp | exn (c f : Str) (ys : List D)
  | dct (ks : List Key) (ds : List D) | fn (x : Str)
  | dcn (ks : List NestedKey) (ds : List D)
  deriving Inhabited
/-- at a: an exception that is let alone (its class, its dict, its chain of contexts) -/
def ExAt (H : Hp) (a : Addr) (cls : Value) (d : Option Addr) : Prop := ∃ (oe : Obj) (vs : Array Value) (c : Value), H a = some (.frz oe (.ext fun h => h.get? a = some oe)) ∧ oe.cls = cls ∧ oe.dict = d ∧ oe.data = .fields vs ∧ vs[2]? = some c ∧ DLz.Chn H c
/-- what its dict says -/
def FldR (F : Addr → Prop) (H : Hp) (f : Str) (d : Option Addr) (vs : List V) : Prop := (d = none ∧ vs = []) ∨ ∃ dd y, d = some dd ∧ vs = [y] ∧ F dd ∧ H dd = some (.xd [(f, y)])
/-- a tuple that stays, without a dict of its own -/
def TupAt (F : Addr → Prop) (H : Hp) (a : Addr) (vs : List V) : Prop := F a ∧ ∃ ob : Obj, H a = some (.frz ob (.tup vs)) ∧ ob.dict = none
theorem TupAt.rd {F : Addr → Prop} {H : Hp} {a : Addr} {vs : List V} (h : TupAt F H a vs) : Rd H a (.tup vs) := let ⟨_, ob, e, _⟩ := h; .inr ⟨ob, e⟩
/-- the dict at a is the object o -/
def yF (a : Addr) (o : Obj) : HO := .ext fun h => h.get? a = some o
/-- the object o at a is a dict with these keys, their tuples, the values -/
structure NdIs (w : World) (a : Addr) (o : Obj) (l : List (NestedKey × Addr × V)) : Prop where
  len : l.length ≤ sizeLine
  nm : (a == sysModules) = false
  what : ∃ (xs : List (NestedKey × Addr × Value)) (es : Array DictEntry) (ep : Nat), Paired (fun p q => p.1 = q.1 ∧ p.2.1 = q.2.1 ∧ RelV p.2.2 q.2.2) l xs ∧ o.ExactDict ∧ o.data = .dict es ep ∧ es.toList = xs.map (fun x => (⟨x.1.hash w, .ref x.2.1, x.2.2⟩ : DictEntry)) ∧ (xs.map (·.1)).Nodup
mutual
/-- the value v, over the heap H, is the key -/
def KeyR (F : Addr → Prop) (H : Hp) : NestedKey → V → Prop
  | .none, v => v = .non
  | .num i, v => v = .int i
  | .text s, v => v = .str s
  | .tup ks, v => ∃ a vs, v = .ref a ∧ TupAt F H a vs ∧ KeyRL F H ks vs
def KeyRL (F : Addr → Prop) (H : Hp) : List NestedKey → List V → Prop
  | [], vs => vs = []
  | k :: ks, vs => ∃ v r, vs = v :: r ∧ KeyR F H k v ∧ KeyRL F H ks r
end
/-- the keys of a dict, as their tuples stand -/
def KysR (F : Addr → Prop) (H : Hp) (l : List (NestedKey × Addr × V)) : Prop := ∀ p ∈ l, p.1.depth ≤ 8 ∧ KeyR F H p.1 (.ref p.2.1)
mutual
/-- the value v, over the heap H, is the datum; F: the addresses that nobody writes any more -/
def Rp (G : Gx) (F : Addr → Prop) (H : Hp) : D → V → Prop
  | .non, v => v = .non
  | .bl b, v => v = .bl b
  | .int i, v => v = .int i
  | .str s, v => v = .str s
  | .byt b, v => v = .byt b
  | .tup ds, v => ∃ a vs, v = .ref a ∧ TupAt F H a vs ∧ RpL G F H ds vs
  | .pr ds, v => ∃ a vs, v = .ref a ∧ Rd H a (.tup vs) ∧ RpL G F H ds vs
  | .lst ds, v => ∃ a vs, v = .ref a ∧ F a ∧ H a = some (.lst vs) ∧ RpL G F H ds vs
  | .hall g s, v => ∃ a dx, v = .ref a ∧ F a ∧ H a = some (.ins G.C dx [("guests", .int g), ("spare", .int s)])
  | .scr ns, v => ∃ a, v = .ref a ∧ ((F a ∧ Rd H a (.lst (ns.map V.int))) ∨ ∀ H', SqL G.K H' a (ns.map V.int))
  | .emp, v => ∃ a, v = .ref a ∧ F a ∧ H a = some (.dK [])
  | .exn c f ys, v => ∃ a cls d vs, v = .ref a ∧ F a ∧ ExAt H a cls d ∧ G.mg c = some cls ∧ RpL G F H ys vs ∧ FldR F H f d vs
  | .dct ks ds, v => ∃ a vs, v = .ref a ∧ F a ∧ vs.length = ks.length ∧ (∃ z, H a = some (.frz z (.dK (ks.zip vs)))) ∧ RpL G F H ds vs
  | .fn x, v => ∃ f, v = .ref f ∧ G.mg x = some (.ref f)
  | .dcn ks ds, v => ∃ a o l, v = .ref a ∧ F a ∧ H a = some (yF a o) ∧ NdIs G.w a o l ∧ l.map (·.1) = ks ∧ KysR F H l ∧ RpL G F H ds (l.map (·.2.2))
def RpL (G : Gx) (F : Addr → Prop) (H : Hp) : List D → List V → Prop
  | [], vs => vs = []
  | d :: ds, vs => ∃ v r, vs = v :: r ∧ Rp G F H d v ∧ RpL G F H ds r
end
/-- the tables: each code object that they tell is known -/
def TabF (T : List (Addr × Str)) (F : Addr → Prop) (H : Hp) : Prop := LamX.Tabs T H
theorem TabF.ext {T : List (Addr × Str)} {F F' : Addr → Prop} {H H' : Hp} (t : TabF T F H) (hF : ∀ a, F a → F' a) (e : ∀ b o, H b = some o → H' b = some o) : TabF T F' H' := LamX.Tabs.ext t e
theorem TabF.own {T : List (Addr × Str)} {F : Addr → Prop} {H : Hp} {a : Addr} {u : HO} (t : TabF T F H) (nt : ∀ ps, H a ≠ some (.tbl ps)) (nc : ∀ q, H a ≠ some (LamX.CodeO a q)) : TabF T F (upd H a u) := fun p hp =>
  let ⟨ps, h1, h2, h3⟩ := t p hp
  ⟨ps, by rw [upd_ne (show p.1 ≠ a from fun z => nt ps (by rw [← z]; exact h1))]; exact h1, h2, fun pos cv q => let ⟨c, e1, e2⟩ := h3 pos cv q; ⟨c, e1, by rw [upd_ne (show c ≠ a from fun z => nc p.2 (by rw [← z]; exact e2))]; exact e2⟩⟩
/-- tracked, no table -/
def Nt (H : Hp) (a : Addr) : Prop := H a ≠ none ∧ ∀ ps, H a ≠ some (.tbl ps)
theorem Nt.of {H : Hp} {a : Addr} {o : HO} (e : H a = some o) (nt : ∀ ps, o ≠ .tbl ps := by intro _ z; cases z) : Nt H a := ⟨by rw [e]; exact (fun z => nomatch z), fun ps z => nt ps (Option.some.inj (e.symm.trans z))⟩
variable [Tbs]
/-- what is kept from (F, H) to (F', H'): B are the addresses that this code does not own -/
structure Stp (B F : Addr → Prop) (H : Hp) (F' : Addr → Prop) (H' : Hp) : Prop where
  fm : ∀ a, F a → F' a
  fn : ∀ a, F' a → F a ∨ ¬ B a
  hk0 : ∀ a o, B a ∨ F a → H a = some o → (∀ ps, o ≠ .tbl ps) → H' a = some o
  ht : ∀ a vs, Rd H a (.tup vs) → Rd H' a (.tup vs)
  tb : TabF Tbs.T F H → TabF Tbs.T F' H'
  fz : ∀ a o u, H a = some (.frz o u) → H' a = some (.frz o u)
theorem Stp.hs {B F F' : Addr → Prop} {H H' : Hp} (s : Stp B F H F' H') (a : Addr) (h : B a ∨ F a) (n : Nt H a) : Nt H' a := by
  cases e : H a with
  | none => exact absurd e n.1
  | some o => exact Nt.of (s.hk0 a o h e fun ps z => n.2 ps (e.trans (congrArg some z))) fun ps z => n.2 ps (e.trans (congrArg some z))
theorem Stp.hk {B F F' : Addr → Prop} {H H' : Hp} (s : Stp B F H F' H') (a : Addr) (o : HO) (h : B a ∨ F a) (e : H a = some o) (nt : ∀ ps, o ≠ .tbl ps := by intro _ z; cases z) : H' a = some o := s.hk0 a o h e nt
theorem Stp.trans {B F F1 F2 : Addr → Prop} {H H1 H2 : Hp} (a : Stp B F H F1 H1) (b : Stp B F1 H1 F2 H2) : Stp B F H F2 H2 where
  fm := fun x h => b.fm x (a.fm x h)
  fn := fun x h => (b.fn x h).elim (fun q => a.fn x q) .inr
  hk0 := fun x o h e n => b.hk0 x o (h.imp id (a.fm x)) (a.hk0 x o h e n) n
  ht := fun x vs h => b.ht x vs (a.ht x vs h)
  fz := fun x o u h => b.fz x o u (a.fz x o u h)
  tb := fun t => b.tb (a.tb t)
theorem ExAt.mono {B F F' : Addr → Prop} {H H' : Hp} (s : Stp B F H F' H') {a : Addr} {cls : Value} {d : Option Addr} (h : ExAt H a cls d) (hF : F a) : ExAt H' a cls d :=
  let ⟨oe, vs, c, e, e1, e2, e3, e4, ch⟩ := h; ⟨oe, vs, c, s.hk a _ (.inr hF) e, e1, e2, e3, e4, ch.mono s.fz⟩
theorem FldR.mono {B F F' : Addr → Prop} {H H' : Hp} (s : Stp B F H F' H') {f : Str} {d : Option Addr} {vs : List V} (h : FldR F H f d vs) : FldR F' H' f d vs :=
  h.imp id fun ⟨dd, y, e1, e2, hF, e3⟩ => ⟨dd, y, e1, e2, s.fm dd hF, s.hk dd _ (.inr hF) e3⟩
mutual
theorem KeyR.mono {B F F' : Addr → Prop} {H H' : Hp} (s : Stp B F H F' H') : ∀ (k : NestedKey) (v : V), KeyR F H k v → KeyR F' H' k v
  | .none, _, h => h
  | .num _, _, h => h
  | .text _, _, h => h
  | .tup ks, _, ⟨a, vs, e, ⟨hF, ob, h1, dn⟩, h2⟩ => ⟨a, vs, e, ⟨s.fm a hF, ob, s.hk a _ (.inr hF) h1, dn⟩, KeyRL.mono s ks vs h2⟩
theorem KeyRL.mono {B F F' : Addr → Prop} {H H' : Hp} (s : Stp B F H F' H') : ∀ (ks : List NestedKey) (vs : List V), KeyRL F H ks vs → KeyRL F' H' ks vs
  | [], _, h => h
  | k :: ks, _, ⟨v, r, e, h1, h2⟩ => ⟨v, r, e, KeyR.mono s k v h1, KeyRL.mono s ks r h2⟩
end
theorem KysR.mono {B F F' : Addr → Prop} {H H' : Hp} (s : Stp B F H F' H') {l : List (NestedKey × Addr × V)} (h : KysR F H l) : KysR F' H' l := fun p hp => ⟨(h p hp).1, KeyR.mono s _ _ (h p hp).2⟩
mutual
theorem Rp.mono {G : Gx} {B F F' : Addr → Prop} {H H' : Hp} (s : Stp B F H F' H') : ∀ (d : D) (v : V), Rp G F H d v → Rp G F' H' d v
  | .non, _, h => h
  | .bl _, _, h => h
  | .int _, _, h => h
  | .str _, _, h => h
  | .byt _, _, h => h
  | .tup ds, _, ⟨a, vs, e, ⟨hF, ob, h1, dn⟩, h2⟩ => ⟨a, vs, e, ⟨s.fm a hF, ob, s.hk a _ (.inr hF) h1, dn⟩, RpL.mono s ds vs h2⟩
  | .pr ds, _, ⟨a, vs, e, h1, h2⟩ => ⟨a, vs, e, s.ht a vs h1, RpL.mono s ds vs h2⟩
  | .lst ds, _, ⟨a, vs, e, hF, h1, h2⟩ => ⟨a, vs, e, s.fm a hF, s.hk a _ (.inr hF) h1, RpL.mono s ds vs h2⟩
  | .hall _ _, _, ⟨a, dx, e, hF, h1⟩ => ⟨a, dx, e, s.fm a hF, s.hk a _ (.inr hF) h1⟩
  | .scr _, _, ⟨a, e, h⟩ => ⟨a, e, h.imp (fun ⟨hF, h1⟩ => ⟨s.fm a hF, h1.imp (fun z => s.hk a _ (.inr hF) z) fun ⟨o, q⟩ => ⟨o, s.hk a _ (.inr hF) q⟩⟩) id⟩
  | .emp, _, ⟨a, e, hF, h1⟩ => ⟨a, e, s.fm a hF, s.hk a _ (.inr hF) h1⟩
  | .exn _ _ ys, _, ⟨a, cls, d, vs, e, hF, h1, h2, h3, h4⟩ => ⟨a, cls, d, vs, e, s.fm a hF, h1.mono s hF, h2, RpL.mono s ys vs h3, h4.mono s⟩
  | .dct ks ds, _, ⟨a, vs, e, hF, n, h1, h2⟩ => ⟨a, vs, e, s.fm a hF, n, h1.imp fun z q => s.hk a _ (.inr hF) q, RpL.mono s ds vs h2⟩
  | .fn _, _, h => h
  | .dcn ks ds, _, ⟨a, o, l, e, hF, h1, n, ek, kr, h2⟩ => ⟨a, o, l, e, s.fm a hF, s.hk a _ (.inr hF) h1, n, ek, kr.mono s, RpL.mono s ds _ h2⟩
theorem RpL.mono {G : Gx} {B F F' : Addr → Prop} {H H' : Hp} (s : Stp B F H F' H') : ∀ (ds : List D) (vs : List V), RpL G F H ds vs → RpL G F' H' ds vs
  | [], _, h => h
  | d :: ds, _, ⟨v, r, e, h1, h2⟩ => ⟨v, r, e, Rp.mono s d v h1, RpL.mono s ds r h2⟩
end
end
section
variable [Tbs]
/-- what an owned object holds -/
inductive O where
  | lst (ds : List D) | set (S : Int → Bool) (n : Nat) | dic (kvs : List (Key × D)) | ins (C : Addr) (fs : List (Str × D))
  | dcn (kvs : List (NestedKey × D))
/-- an entry of an object of an owned tree: a datum, or an object of the same tree -/
inductive E1 where
  | d (x : D) | k (a : Addr)
/-- an object of an owned tree -/
inductive R1 where
  | lst (xs : List E1) | ins (C : Addr) (fs : List (Str × E1))
/-- a slot: unknown, a datum, an owned object, an owned object handed in (at the letter a), an owned tree (its root, its objects) -/
inductive Slot where
  | no | im (d : D) | ow (o : O) | io (a : Addr) (o : O) | tr (a : Addr) (ns : List (Addr × R1))
def Slot.own : Slot → Bool
  | .ow _ => true
  | .io _ _ => true
  | _ => false
def KvR (G : Gx) (F : Addr → Prop) (H : Hp) : List (Key × D) → List (Key × V) → Prop
  | [], l => l = []
  | (k, d) :: r, l => ∃ v l', l = (k, v) :: l' ∧ Rp G F H d v ∧ KvR G F H r l'
def KnR (G : Gx) (F : Addr → Prop) (H : Hp) : List (NestedKey × D) → List (NestedKey × Addr × V) → Prop
  | [], l => l = []
  | (k, d) :: r, l => ∃ b v l', l = (k, b, v) :: l' ∧ k.depth ≤ 8 ∧ KeyR F H k (.ref b) ∧ Rp G F H d v ∧ KnR G F H r l'
def FsR (G : Gx) (F : Addr → Prop) (H : Hp) : List (Str × D) → List (Str × V) → Prop
  | [], l => l = []
  | (k, d) :: r, l => ∃ v l', l = (k, v) :: l' ∧ Rp G F H d v ∧ FsR G F H r l'
def OwAt (G : Gx) (F : Addr → Prop) (H : Hp) (a : Addr) : O → Prop
  | .lst ds => ∃ vs, H a = some (.lst vs) ∧ RpL G F H ds vs
  | .set S n => H a = some (SetO G.w a S n)
  | .dic kvs => ∃ l, H a = some (.dK l) ∧ KvR G F H kvs l
  | .ins C fs => ∃ dx l, H a = some (.ins C dx l) ∧ FsR G F H fs l
  | .dcn kvs => ∃ o l, H a = some (yF a o) ∧ NdIs G.w a o l ∧ KnR G F H kvs l
def Er (G : Gx) (F : Addr → Prop) (H : Hp) : E1 → V → Prop
  | .d x, v => Rp G F H x v
  | .k a, v => v = .ref a
def ErL (G : Gx) (F : Addr → Prop) (H : Hp) : List E1 → List V → Prop
  | [], l => l = []
  | e :: r, l => ∃ v l', l = v :: l' ∧ Er G F H e v ∧ ErL G F H r l'
def ErF (G : Gx) (F : Addr → Prop) (H : Hp) : List (Str × E1) → List (Str × V) → Prop
  | [], l => l = []
  | (f, e) :: r, l => ∃ v l', l = (f, v) :: l' ∧ Er G F H e v ∧ ErF G F H r l'
def R1At (G : Gx) (F : Addr → Prop) (H : Hp) (a : Addr) : R1 → Prop
  | .lst xs => ∃ vs, H a = some (.lst vs) ∧ ErL G F H xs vs
  | .ins C fs => ∃ dx l, H a = some (.ins C dx l) ∧ ErF G F H fs l
/-- an owned tree: nobody else has its objects -/
structure Tree (G : Gx) (B F : Addr → Prop) (H : Hp) (a : Addr) (ns : List (Addr × R1)) : Prop where
  root : a ∈ ns.map (·.1)
  nd : (ns.map (·.1)).Nodup
  at_ : ∀ p ∈ ns, ¬ F p.1 ∧ ¬ B p.1 ∧ R1At G F H p.1 p.2
def SlotR (G : Gx) (B F : Addr → Prop) (H : Hp) (x : Option (Option V)) : Slot → Prop
  | .no => True
  | .im d => ∃ v, x = some (some v) ∧ Rp G F H d v
  | .ow o => ∃ a, x = some (some (.ref a)) ∧ ¬ F a ∧ ¬ B a ∧ OwAt G F H a o
  | .io a o => x = some (some (.ref a)) ∧ ¬ F a ∧ ¬ B a ∧ OwAt G F H a o
  | .tr a ns => x = some (some (.ref a)) ∧ Tree G B F H a ns
/-- a is the owned object in the slot i -/
def OwnR (env : List Slot) (σ : L2.St) (i : Nat) (a : Addr) : Prop := (∃ s, env[i]? = some s ∧ s.own = true) ∧ σ[i]? = some (some (.ref a))
/-- the address a is owned by the slot i -/
def dM (env : List Slot) (σ : L2.St) (i : Nat) (a : Addr) : Prop := OwnR env σ i a ∨ ∃ r ns, env[i]? = some (.tr r ns) ∧ a ∈ ns.map (·.1)
instance {env : List Slot} {σ : L2.St} {i : Nat} {a : Addr} : Coe (OwnR env σ i a) (dM env σ i a) := ⟨.inl⟩
/-- what a slot owns, its value being x -/
def Slot.feet (s : Slot) (x : Option (Option V)) (a : Addr) : Prop := (s.own = true ∧ x = some (some (.ref a))) ∨ ∃ r ns, s = .tr r ns ∧ a ∈ ns.map (·.1)
theorem own_feet {env : List Slot} {σ : L2.St} {i : Nat} {a : Addr} : dM env σ i a ↔ ∃ s, env[i]? = some s ∧ s.feet σ[i]? a := by
  constructor
  · rintro (⟨⟨s, e, k⟩, h⟩ | ⟨r, ns, e, m⟩)
    · exact ⟨s, e, .inl ⟨k, h⟩⟩
    · exact ⟨_, e, .inr ⟨r, ns, rfl, m⟩⟩
  · rintro ⟨s, e, ⟨k, h⟩ | ⟨r, ns, q, m⟩⟩
    · exact .inl ⟨⟨s, e, k⟩, h⟩
    · subst q; exact .inr ⟨r, ns, e, m⟩
structure Rel (G : Gx) (B F : Addr → Prop) (σ : L2.St) (env : List Slot) (H : Hp) : Prop where
  len : env.length = σ.length
  sl : ∀ (i : Nat) s, env[i]? = some s → SlotR G B F H σ[i]? s
  ap : ∀ i j a, dM env σ i a → dM env σ j a → i = j
  hB : ∀ a, B a → Nt H a
  hF : ∀ a, F a → Nt H a
  tb : TabF Tbs.T F H
/-- an exception: its class by name, its field -/
structure Exn where
  cls : Str
  fld : Option (Str × D)
def ExnR (G : Gx) (F : Addr → Prop) (H : Hp) (x : Exn) (cls : Value) (d : Option Addr) : Prop :=
  G.mg x.cls = some cls ∧ match x.fld with
    | none => d = none
    | some (f, y) => ∃ dd v, d = some dd ∧ F dd ∧ H dd = some (.xd [(f, v)]) ∧ Rp G F H y v
abbrev M (α : Type) := List Slot → (α → List Slot → Prop) → (Exn → List Slot → Prop) → Prop
def ret {α : Type} (a : α) : M α := fun env Q _ => Q a env
def aq {α β : Type} (m : M α) (k : α → M β) : M β := fun env Q E => m env (fun a env' => k a env' Q E) E
def fail {α : Type} : M α := fun _ _ _ => False
/-- the state as the hand layer sees it, with what is wanted -/
def Pt {α β : Type} (G : Gx) (W : WX) (R : (Addr → Prop) → (Addr → Prop) → List Slot → L2.St → Hp → α → β → Prop) (σ : L2.St) (H : Hp) (Q : β → Hp → Prop) (m : M α) (B F : Addr → Prop) (env : List Slot) : Prop :=
  ∃ Qd Ed, Rel G B F σ env H ∧ m env Qd Ed ∧
    (∀ a env' b F' H', Qd a env' → Stp B F H F' H' → Rel G B F' σ env' H' → R B F' env' σ H' a b → Q b H') ∧
    (∀ x env' cls d F' H', Ed x env' → Stp B F H F' H' → Rel G B F' σ env' H' → ExnR G F' H' x cls d → W cls d σ H')
def Lift {α β : Type} (G : Gx) (W : WX) (R : (Addr → Prop) → (Addr → Prop) → List Slot → L2.St → Hp → α → β → Prop) (m : M α) : L2.St → Hp → (β → Hp → Prop) → Prop :=
  fun σ H Q => ∃ B F env, Pt G W R σ H Q m B F env
def RD (G : Gx) : (Addr → Prop) → (Addr → Prop) → List Slot → L2.St → Hp → D → V → Prop := fun _ F _ _ H d v => Rp G F H d v
/-- a new owned object -/
def RO (G : Gx) : (Addr → Prop) → (Addr → Prop) → List Slot → L2.St → Hp → O → V → Prop := fun B F env σ H o v => ∃ a, v = .ref a ∧ ¬ F a ∧ ¬ B a ∧ OwAt G F H a o ∧ ∀ i, ¬ dM env σ i a
section
variable {G : Gx} {W : WX} {B F : Addr → Prop} {σ : L2.St} {H : Hp} {env : List Slot} {α β γ δ : Type}
variable {R : (Addr → Prop) → (Addr → Prop) → List Slot → L2.St → Hp → γ → δ → Prop} {Ra : (Addr → Prop) → (Addr → Prop) → List Slot → L2.St → Hp → α → β → Prop} {Q : δ → Hp → Prop}
theorem KvR.mono {F' : Addr → Prop} {H' : Hp} (s : Stp B F H F' H') : ∀ (l : List (Key × D)) (l' : List (Key × V)), KvR G F H l l' → KvR G F' H' l l'
  | [], _, h => h
  | (k, d) :: r, _, ⟨v, l', e, h1, h2⟩ => ⟨v, l', e, Rp.mono s d v h1, KvR.mono s r l' h2⟩
theorem KnR.mono {F' : Addr → Prop} {H' : Hp} (s : Stp B F H F' H') : ∀ (l : List (NestedKey × D)) (l' : List (NestedKey × Addr × V)), KnR G F H l l' → KnR G F' H' l l'
  | [], _, h => h
  | (k, d) :: r, _, ⟨b, v, l', e, dp, hk, h1, h2⟩ => ⟨b, v, l', e, dp, KeyR.mono s k _ hk, Rp.mono s d v h1, KnR.mono s r l' h2⟩
theorem FsR.mono {F' : Addr → Prop} {H' : Hp} (s : Stp B F H F' H') : ∀ (l : List (Str × D)) (l' : List (Str × V)), FsR G F H l l' → FsR G F' H' l l'
  | [], _, h => h
  | (k, d) :: r, _, ⟨v, l', e, h1, h2⟩ => ⟨v, l', e, Rp.mono s d v h1, FsR.mono s r l' h2⟩
theorem Pt.no (h : Pt G W R σ H Q fail B F env) : False := by
  obtain ⟨Qd, Ed, rel, hm, hq, he⟩ := h
  exact hm
theorem tE {a p : Addr} {u o : HO} (h : Rd H a u) (hp : H p = none) : Rd (upd H p o) a u := by
  rcases h with h | ⟨ob, h⟩
  · exact .inl (by rw [upd_ne (ne_of_none h hp)]; exact h)
  · exact .inr ⟨ob, by rw [upd_ne (ne_of_none h hp)]; exact h⟩
theorem gC {p : Addr} {o : HO} (hp : H p = none) : Stp B F H F (upd H p o) where
  tb := fun t => t.ext (fun _ z => z) fun b o e => by rw [upd_ne (ne_of_none e hp)]; exact e
  fm := fun _ h => h
  fn := fun _ h => .inl h
  hk0 := fun a o' _ e _ => by rw [upd_ne (ne_of_none e hp)]; exact e
  ht := fun a vs h => tE h hp
  fz := fun a o' u' e => by rw [upd_ne (ne_of_none e hp)]; exact e
theorem hU {p : Addr} {o : HO} (hp : H p = none) (hB : ¬ B p) : Stp B F H (fun a => F a ∨ a = p) (upd H p o) where
  tb := fun t => t.ext (fun _ z => .inl z) fun b o e => by rw [upd_ne (ne_of_none e hp)]; exact e
  fm := fun _ h => .inl h
  fn := fun a h => h.elim .inl fun e => .inr (by subst e; exact hB)
  hk0 := fun a o' _ e _ => by rw [upd_ne (ne_of_none e hp)]; exact e
  ht := fun a vs h => tE h hp
  fz := fun a o' u' e => by rw [upd_ne (ne_of_none e hp)]; exact e
theorem Rel.notB (rel : Rel G B F σ env H) {p : Addr} (hp : H p = none) : ¬ B p := fun h => (rel.hB p h).1 hp
theorem OwAt.mono {F' : Addr → Prop} {H' : Hp} (s : Stp B F H F' H') {a : Addr} (e : H' a = H a) : ∀ {o : O}, OwAt G F H a o → OwAt G F' H' a o
  | .lst ds, ⟨vs, h1, h2⟩ => ⟨vs, e.trans h1, RpL.mono s ds vs h2⟩
  | .set S n, h => e.trans h
  | .dic kvs, ⟨l, h1, h2⟩ => ⟨l, e.trans h1, KvR.mono s kvs l h2⟩
  | .ins C fs, ⟨dx, l, h1, h2⟩ => ⟨dx, l, e.trans h1, FsR.mono s fs l h2⟩
  | .dcn kvs, ⟨o, l, h1, n, h2⟩ => ⟨o, l, e.trans h1, n, KnR.mono s kvs l h2⟩
theorem OwAt.some {a : Addr} : ∀ {o : O}, OwAt G F H a o → H a ≠ none
  | .lst ds, ⟨vs, h1, _⟩ => by rw [h1]; exact fun z => nomatch z
  | .set S n, h => by rw [show H a = _ from h]; exact fun z => nomatch z
  | .dic kvs, ⟨l, h1, _⟩ => by rw [h1]; exact fun z => nomatch z
  | .ins C fs, ⟨dx, l, h1, _⟩ => by rw [h1]; exact fun z => nomatch z
  | .dcn kvs, ⟨o, l, h1, _⟩ => by rw [h1]; exact fun z => nomatch z
theorem OwAt.noTab {a : Addr} {o : O} (h : OwAt G F H a o) : ∀ ps, H a ≠ Option.some (HO.tbl ps) := fun ps z => by
  cases o with
  | lst ds => obtain ⟨vs, h1, _⟩ := h; rw [z] at h1; cases h1
  | set S n => have h1 : H a = Option.some (SetO G.w a S n) := h; rw [z] at h1; have h2 : HO.tbl ps = HO.ext _ := Option.some.inj h1; cases h2
  | dic kvs => obtain ⟨l, h1, _⟩ := h; rw [z] at h1; cases h1
  | ins C fs => obtain ⟨dx, l, h1, _⟩ := h; rw [z] at h1; cases h1
  | dcn kvs => obtain ⟨ob, l, h1, _⟩ := h; rw [z] at h1; have h2 : HO.tbl ps = HO.ext _ := Option.some.inj h1; cases h2
theorem OwAt.noCode {a : Addr} {o : O} (h : OwAt G F H a o) : ∀ q, H a ≠ Option.some (LamX.CodeO a q) := fun q z => by
  cases o with
  | lst ds => obtain ⟨vs, h1, _⟩ := h; rw [z] at h1; have h2 : HO.ext _ = HO.lst vs := Option.some.inj h1; cases h2
  | set S n =>
    have h1 : H a = Option.some (SetO G.w a S n) := h
    rw [z] at h1
    have h2 : HO.ext _ = HO.ext _ := Option.some.inj h1
    have h3 := congrFun (HO.ext.inj h2) ⟨Array.replicate (a + 1) { cls := .none, data := .fields #[.none, .str q 0] }, {}⟩
    have g : Heap.get? ⟨Array.replicate (a + 1) { cls := .none, data := .fields #[.none, .str q 0] }, {}⟩ a = Option.some { cls := .none, data := .fields #[.none, .str q 0] } := by
      unfold Heap.get?
      rw [Array.getElem?_replicate, if_pos (Nat.lt_succ_self a)]
    have h4 := h3.mp ⟨_, _, _, g, rfl, rfl⟩
    obtain ⟨o, es, ep, t, e1, _, e2, _⟩ := h4
    rw [g] at e1
    cases e1
    cases e2
  | dic kvs => obtain ⟨l, h1, _⟩ := h; rw [z] at h1; have h2 : HO.ext _ = HO.dK l := Option.some.inj h1; cases h2
  | ins C fs => obtain ⟨dx, l, h1, _⟩ := h; rw [z] at h1; have h2 : HO.ext _ = HO.ins C dx l := Option.some.inj h1; cases h2
  | dcn kvs =>
    obtain ⟨ob, l, h1, n, _⟩ := h
    rw [z] at h1
    have h2 : HO.ext _ = HO.ext _ := Option.some.inj h1
    have h3 := congrFun (HO.ext.inj h2) ⟨Array.replicate (a + 1) { cls := .none, data := .fields #[.none, .str q 0] }, {}⟩
    have g : Heap.get? ⟨Array.replicate (a + 1) { cls := .none, data := .fields #[.none, .str q 0] }, {}⟩ a = Option.some { cls := .none, data := .fields #[.none, .str q 0] } := by
      unfold Heap.get?
      rw [Array.getElem?_replicate, if_pos (Nat.lt_succ_self a)]
    have h4 : Heap.get? ⟨Array.replicate (a + 1) { cls := .none, data := .fields #[.none, .str q 0] }, {}⟩ a = Option.some ob := h3.mp ⟨_, _, _, g, rfl, rfl⟩
    rw [g] at h4
    cases h4
    obtain ⟨_, _, _, _, _, e2, _⟩ := n.what
    cases e2
theorem Er.mono {F' : Addr → Prop} {H' : Hp} (s : Stp B F H F' H') : ∀ {e : E1} {v : V}, Er G F H e v → Er G F' H' e v
  | .d x, v, h => Rp.mono s x v h
  | .k _, _, h => h
theorem ErL.mono {F' : Addr → Prop} {H' : Hp} (s : Stp B F H F' H') : ∀ (l : List E1) (l' : List V), ErL G F H l l' → ErL G F' H' l l'
  | [], _, h => h
  | e :: r, _, ⟨v, l', q, h1, h2⟩ => ⟨v, l', q, Er.mono s h1, ErL.mono s r l' h2⟩
theorem ErF.mono {F' : Addr → Prop} {H' : Hp} (s : Stp B F H F' H') : ∀ (l : List (Str × E1)) (l' : List (Str × V)), ErF G F H l l' → ErF G F' H' l l'
  | [], _, h => h
  | (f, e) :: r, _, ⟨v, l', q, h1, h2⟩ => ⟨v, l', q, Er.mono s h1, ErF.mono s r l' h2⟩
theorem R1At.mono {F' : Addr → Prop} {H' : Hp} (s : Stp B F H F' H') {a : Addr} (e : H' a = H a) : ∀ {r : R1}, R1At G F H a r → R1At G F' H' a r
  | .lst xs, ⟨vs, h1, h2⟩ => ⟨vs, e.trans h1, ErL.mono s xs vs h2⟩
  | .ins C fs, ⟨dx, l, h1, h2⟩ => ⟨dx, l, e.trans h1, ErF.mono s fs l h2⟩
theorem R1At.some {a : Addr} : ∀ {r : R1}, R1At G F H a r → H a ≠ none
  | .lst _, ⟨vs, h1, _⟩ => by rw [h1]; exact fun z => nomatch z
  | .ins _ _, ⟨dx, l, h1, _⟩ => by rw [h1]; exact fun z => nomatch z
theorem R1At.noTab {a : Addr} : ∀ {r : R1}, R1At G F H a r → ∀ ps, H a ≠ Option.some (HO.tbl ps)
  | .lst _, ⟨vs, h1, _⟩ => by rw [h1]; exact fun ps z => nomatch z
  | .ins _ _, ⟨dx, l, h1, _⟩ => by rw [h1]; exact fun ps z => nomatch z
theorem R1At.noCode {a : Addr} : ∀ {r : R1}, R1At G F H a r → ∀ q, H a ≠ Option.some (LamX.CodeO a q)
  | .lst vs, ⟨_, h1, _⟩ => fun q z => by rw [z] at h1; have h2 : HO.ext _ = HO.lst _ := Option.some.inj h1; cases h2
  | .ins _ _, ⟨dx, l, h1, _⟩ => fun q z => by rw [z] at h1; have h2 : HO.ext _ = HO.ins _ _ _ := Option.some.inj h1; cases h2
/-- of a tree the address is one of an object -/
theorem Tree.of {a : Addr} {r : Addr} {ns : List (Addr × R1)} (t : Tree G B F H r ns) (m : a ∈ ns.map (·.1)) : ∃ n, (a, n) ∈ ns ∧ ¬ F a ∧ ¬ B a ∧ R1At G F H a n := by
  obtain ⟨p, hp, e⟩ := List.mem_map.mp m
  subst e
  exact ⟨p.2, hp, t.at_ p hp⟩
/-- the slots stand over a step that leaves the owned objects as they are -/
theorem Rel.step {F' : Addr → Prop} {H' : Hp} (rel : Rel G B F σ env H) (s : Stp B F H F' H') (ho : ∀ i a, dM env σ i a → H' a = H a ∧ ¬ F' a) (hF : ∀ a, F' a → Nt H' a) : Rel G B F' σ env H' := by
  refine ⟨rel.len, fun i sl e => ?_, rel.ap, fun a h => s.hs a (.inl h) (rel.hB a h), hF, s.tb rel.tb⟩
  have q := rel.sl i sl e
  cases sl with
  | no => trivial
  | im d => obtain ⟨v, h1, h2⟩ := q; exact ⟨v, h1, Rp.mono s d v h2⟩
  | ow o =>
    obtain ⟨a, h1, h2, h3, h4⟩ := q
    obtain ⟨e1, e2⟩ := ho i a (.inl ⟨⟨_, e, rfl⟩, h1⟩)
    exact ⟨a, h1, e2, h3, OwAt.mono s e1 h4⟩
  | io a o =>
    obtain ⟨h1, h2, h3, h4⟩ := q
    obtain ⟨e1, e2⟩ := ho i a (.inl ⟨⟨_, e, rfl⟩, h1⟩)
    exact ⟨h1, e2, h3, OwAt.mono s e1 h4⟩
  | tr r ns =>
    obtain ⟨h1, t⟩ := q
    refine ⟨h1, t.root, t.nd, fun p hp => ?_⟩
    obtain ⟨e1, e2⟩ := ho i p.1 (.inr ⟨r, ns, e, List.mem_map.mpr ⟨p, hp, rfl⟩⟩)
    exact ⟨e2, (t.at_ p hp).2.1, R1At.mono s e1 (t.at_ p hp).2.2⟩
theorem Rel.ownKind (rel : Rel G B F σ env H) {i : Nat} {a : Addr} (h : dM env σ i a) : H a ≠ none ∧ ¬ F a ∧ ¬ B a ∧ (∀ ps, H a ≠ Option.some (HO.tbl ps)) ∧ ∀ q, H a ≠ Option.some (LamX.CodeO a q) := by
  rcases h with ⟨⟨s, e, k⟩, hσ⟩ | ⟨r, ns, e, m⟩
  · have q := rel.sl i s e
    cases s with
    | no => cases k
    | im d => cases k
    | tr _ _ => cases k
    | ow o =>
      obtain ⟨b, h1, h2, h3, h4⟩ := q
      rw [hσ] at h1; cases h1
      exact ⟨h4.some, h2, h3, h4.noTab, h4.noCode⟩
    | io b o =>
      obtain ⟨h1, h2, h3, h4⟩ := q
      rw [hσ] at h1; cases h1
      exact ⟨h4.some, h2, h3, h4.noTab, h4.noCode⟩
  · obtain ⟨_, t⟩ := rel.sl i _ e
    obtain ⟨n, _, nF, nB, w⟩ := t.of m
    exact ⟨w.some, nF, nB, w.noTab, w.noCode⟩
theorem Rel.ownSome (rel : Rel G B F σ env H) {i : Nat} {a : Addr} (h : dM env σ i a) : H a ≠ none ∧ ¬ F a ∧ ¬ B a := ⟨(rel.ownKind h).1, (rel.ownKind h).2.1, (rel.ownKind h).2.2.1⟩
theorem Rel.new {p : Addr} {o : HO} (rel : Rel G B F σ env H) (hp : H p = none) : Rel G B F σ env (upd H p o) :=
  rel.step (gC hp) (fun i a h => ⟨upd_ne fun e => by subst e; exact (rel.ownSome h).1 hp, (rel.ownSome h).2.1⟩) fun a h => (gC (B := B) (F := F) hp).hs a (.inr h) (rel.hF a h)
theorem Rel.newF {p : Addr} {o : HO} (rel : Rel G B F σ env H) (hp : H p = none) (no : ∀ ps, o ≠ .tbl ps := by intro _ z; cases z) : Rel G B (fun a => F a ∨ a = p) σ env (upd H p o) :=
  rel.step (hU hp (rel.notB hp)) (fun i a h => ⟨upd_ne fun e => by subst e; exact (rel.ownSome h).1 hp, fun z => z.elim (rel.ownSome h).2.1 fun e => by subst e; exact (rel.ownSome h).1 hp⟩)
    fun a h => h.elim (fun q => (gC (B := B) (F := F) hp).hs a (.inr q) (rel.hF a q)) fun e => by subst e; exact Nt.of upd_same no
/-- a new pair, only taken apart -/
theorem Pt.pr {ds : List D} {vs : List V} {p : Addr} {Q : V → Hp → Prop} (h : Pt G W (RD G) σ H Q (ret (.pr ds)) B F env) (hx : RpL G F H ds vs) (hp : H p = none) : Q (.ref p) (upd H p (.tup vs)) := by
  obtain ⟨Qd, Ed, rel, hm, hq, he⟩ := h
  exact hq _ env _ F _ hm (gC hp) (rel.new hp) ⟨p, vs, rfl, .inl upd_same, RpL.mono (gC (B := B) hp) ds vs hx⟩
/-- a new tuple -/
theorem Pt.tup {ds : List D} {vs : List V} {Q : V → Hp → Prop} (h : Pt G W (RD G) σ H Q (ret (.tup ds)) B F env) (hx : RpL G F H ds vs) : DLt.NewT vs H Q := by
  intro ob p dn hp
  obtain ⟨Qd, Ed, rel, hm, hq, he⟩ := h
  exact hq _ env _ (fun a => F a ∨ a = p) _ hm (hU hp (rel.notB hp)) (rel.newF hp) ⟨p, vs, rfl, ⟨.inr rfl, ob, upd_same, dn⟩, RpL.mono (hU (B := B) hp (rel.notB hp)) ds vs hx⟩
/-- a new list that nobody will write -/
theorem Pt.lst {ds : List D} {vs : List V} {p : Addr} {Q : V → Hp → Prop} (h : Pt G W (RD G) σ H Q (ret (.lst ds)) B F env) (hx : RpL G F H ds vs) (hp : H p = none) : Q (.ref p) (upd H p (.lst vs)) := by
  obtain ⟨Qd, Ed, rel, hm, hq, he⟩ := h
  exact hq _ env _ (fun a => F a ∨ a = p) _ hm (hU hp (rel.notB hp)) (rel.newF hp) ⟨p, vs, rfl, .inr rfl, upd_same, RpL.mono (hU (B := B) hp (rel.notB hp)) ds vs hx⟩
end
end
section
variable [Tbs]
section
variable {G : Gx} {W : WX} {B F : Addr → Prop} {σ : L2.St} {H : Hp} {env : List Slot} {α β γ δ : Type}
variable {R : (Addr → Prop) → (Addr → Prop) → List Slot → L2.St → Hp → γ → δ → Prop} {Ra : (Addr → Prop) → (Addr → Prop) → List Slot → L2.St → Hp → α → β → Prop} {Q : δ → Hp → Prop}
theorem Lift.imp {m : M α} {Q Q' : β → Hp → Prop} (h : Lift G W Ra m σ H Q) (i : ∀ b H', Q b H' → Q' b H') : Lift G W Ra m σ H Q' := by
  obtain ⟨B, F, env, Qd, Ed, rel, hm, hq, he⟩ := h
  exact ⟨B, F, env, Qd, Ed, rel, hm, fun a env' b F' H' q st rl r => i _ _ (hq a env' b F' H' q st rl r), he⟩
theorem RpL.length : ∀ {ds : List D} {vs : List V}, RpL G F H ds vs → ds.length = vs.length
  | [], _, h => by cases (show _ = _ from h); rfl
  | _ :: _, _, ⟨v, r, e, _, h⟩ => by subst e; simp [RpL.length h]
theorem RpL.drop : ∀ {ds : List D} {vs : List V} (n : Nat), RpL G F H ds vs → RpL G F H (ds.drop n) (vs.drop n)
  | _, _, 0, h => h
  | [], _, n + 1, h => by cases (show _ = _ from h); exact rfl
  | _ :: _, _, n + 1, ⟨v, r, e, h, t⟩ => by subst e; exact RpL.drop n t
theorem RpL.set : ∀ {ds : List D} {vs : List V} {d : D} {v : V} (n : Nat), RpL G F H ds vs → Rp G F H d v → RpL G F H (ds.set n d) (vs.set n v)
  | [], _, _, _, _, h, _ => by cases (show _ = _ from h); exact rfl
  | _ :: _, _, _, _, 0, ⟨u, r, e, h, t⟩, q => by subst e; exact ⟨_, r, rfl, q, t⟩
  | _ :: _, _, _, _, n + 1, ⟨u, r, e, h, t⟩, q => by subst e; exact ⟨u, _, rfl, h, RpL.set n t q⟩
end
end
section
variable [Tbs]
mutual
def py : D → PyData
  | .non => .none | .bl b => .bool b | .int i => .int i | .str s => .str s
  | .tup xs => .tuple (jW xs) | .lst xs => .list (jW xs)
  | _ => .none
def jW : List D → List PyData
  | [] => []
  | x :: xs => py x :: jW xs
end
mutual
def ig : D → Bool
  | .non => true | .bl b => true | .int i => true | .str s => PyData.canLay0 (.str s)
  | .tup xs => iN xs | .lst xs => iN xs
  | _ => false
def iN : List D → Bool
  | [] => true
  | x :: xs => ig x && iN xs
end
section
variable {G : Gx} {W : WX} {B F : Addr → Prop} {σ : L2.St} {H : Hp} {env : List Slot} {α β γ δ : Type}
mutual
theorem Rp.dp : ∀ {d : D} {v : V}, Rp G F H d v → ig d = true → Dp G.K H v (py d)
  | .non, _, h, _ => by cases (show _ = _ from h); exact .non
  | .bl b, _, h, _ => by cases (show _ = _ from h); exact .bl b
  | .int b, _, h, _ => by cases (show _ = _ from h); exact .int b
  | .str b, _, h, _ => by cases (show _ = _ from h); exact .str b
  | .byt _, _, _, e => by cases e
  | .hall _ _, _, _, e => by cases e
  | .scr _, _, _, e => by cases e
  | .emp, _, _, e => by cases e
  | .exn _ _ _, _, _, e => by cases e
  | .pr _, _, _, e => by cases e
  | .dct _ _, _, _, e => by cases e
  | .fn _, _, _, e => by cases e
  | .dcn _ _, _, _, e => by cases e
  | .tup ds, _, ⟨a, vs, e, h1, h2⟩, q => by subst e; exact .tup (.inl h1.rd) (RpL.dp h2 (by simpa [ig] using q))
  | .lst ds, _, ⟨a, vs, e, _, h1, h2⟩, q => by subst e; exact .lst (SqL.of h1) (RpL.dp h2 (by simpa [ig] using q))
theorem RpL.dp : ∀ {ds : List D} {vs : List V}, RpL G F H ds vs → iN ds = true → DpAll G.K H vs (jW ds)
  | [], _, h, _ => by cases (show _ = _ from h); exact .nil
  | d :: ds, _, ⟨v, r, e, h1, h2⟩, q => by
    subst e
    have q' : ig d = true ∧ iN ds = true := by simpa [iN] using q
    exact .cons (Rp.dp h1 q'.1) (RpL.dp h2 q'.2)
end
end
end
section
variable [Tbs]
section
variable {G : Gx} {W : WX} {B F : Addr → Prop} {σ : L2.St} {H : Hp} {env : List Slot} {α β γ δ : Type}
variable {R : (Addr → Prop) → (Addr → Prop) → List Slot → L2.St → Hp → γ → δ → Prop} {Ra : (Addr → Prop) → (Addr → Prop) → List Slot → L2.St → Hp → α → β → Prop} {Q : δ → Hp → Prop}
theorem Pt.imp {m : M α} {Q Q' : β → Hp → Prop} (h : Pt G W Ra σ H Q m B F env) (i : ∀ b H', Q b H' → Q' b H') : Pt G W Ra σ H Q' m B F env := by
  obtain ⟨Qd, Ed, rel, hm, hq, he⟩ := h
  exact ⟨Qd, Ed, rel, hm, fun a env' b F' H' q st rl r => i _ _ (hq a env' b F' H' q st rl r), he⟩
end
section
variable {X : Cx} {C : Addr} {W : WX} {a b c : Expr} {es : List Expr} {ma mb mc : M D} {ms : M (List D)} {pos : Pos} {mt mu : M Bool} {rest : List Expr}
def notB (t : M Bool) : M Bool := aq t fun c => ret (!c)
end
end
section
variable [Tbs]
/-- what a def hands back -/
inductive Res where
  | d (d : D) | o (o : O) | t (r : Addr) (ns : List (Addr × R1))
inductive Fl where
  | nx | bk | ct | rt (r : Res)
def yD (G : Gx) (B F : Addr → Prop) (env : List Slot) (σ : L2.St) (H : Hp) : Res → V → Prop
  | .d d, v => Rp G F H d v
  | .o o, v => ∃ a, v = .ref a ∧ ¬ F a ∧ ¬ B a ∧ OwAt G F H a o ∧ (∀ (i : Nat) b p, env[i]? = some (.io b p) → b ≠ a) ∧ ∀ (i : Nat) b ns, env[i]? = some (.tr b ns) → a ∉ ns.map (·.1)
  | .t r ns, v => v = .ref r ∧ Tree G B F H r ns ∧ ∀ a ∈ ns.map (·.1), ∀ (i : Nat) b p, env[i]? = some (.io b p) → b ≠ a
/-- a statement's reading -/
def Ps (G : Gx) (W : WX) (ms : M Fl) (D : Ends) (σ : L2.St) (H : Hp) (B F : Addr → Prop) (env : List Slot) : Prop :=
  ∃ Qd Ed, Rel G B F σ env H ∧ ms env Qd Ed ∧
    (∀ env' σ' F' H', Qd .nx env' → Stp B F H F' H' → Rel G B F' σ' env' H' → D.nx σ' H') ∧
    (∀ env' σ' F' H', Qd .bk env' → Stp B F H F' H' → Rel G B F' σ' env' H' → D.bk σ' H') ∧
    (∀ env' σ' F' H', Qd .ct env' → Stp B F H F' H' → Rel G B F' σ' env' H' → D.ct σ' H') ∧
    (∀ r env' σ' F' H' v, Qd (.rt r) env' → Stp B F H F' H' → Rel G B F' σ' env' H' → yD G B F' env' σ' H' r v → D.rt v H') ∧
    (∀ x env' σ' cls d F' H', Ed x env' → Stp B F H F' H' → Rel G B F' σ' env' H' → ExnR G F' H' x cls d → W cls d σ' H')
def tS (G : Gx) (W : WX) (ms : M Fl) : TS := fun D σ H => ∃ B F env, Ps G W ms D σ H B F env
def dq (k : M Fl) : Fl → M Fl
  | .nx => k
  | .bk => ret .bk
  | .ct => ret .ct
  | .rt r => ret (.rt r)
def bc (m k : M Fl) : M Fl := aq m (dq k)
section
variable {G : Gx} {W : WX} {B F : Addr → Prop} {σ : L2.St} {H : Hp} {env : List Slot} {α β γ δ : Type}
theorem eL {s : Slot} {i : Nat} {x : Option V} {j : Nat} {a : Addr} (hl : env.length = σ.length) (h : dM (env.set i s) (σ.set i x) j a) : (j = i ∧ s.feet (some x) a) ∨ (j ≠ i ∧ dM env σ j a) := by
  obtain ⟨t, h1, h3⟩ := own_feet.mp h
  by_cases e : j = i
  · subst e
    have hj : j < env.length := by
      have := (List.getElem?_eq_some_iff.mp h1).1
      rw [List.length_set] at this; exact this
    rw [List.getElem?_set_self hj] at h1
    rw [List.getElem?_set_self (by omega)] at h3
    cases h1
    exact .inl ⟨rfl, h3⟩
  · rw [List.getElem?_set_ne (Ne.symm e)] at h1 h3
    exact .inr ⟨e, own_feet.mpr ⟨t, h1, h3⟩⟩
theorem jB {d : D} {x : Option (Option V)} {a : Addr} (h : (Slot.im d).feet x a) : False := by
  rcases h with ⟨k, _⟩ | ⟨_, _, e, _⟩
  · cases k
  · cases e
theorem j6 {x : Option (Option V)} {a : Addr} (h : Slot.no.feet x a) : False := by
  rcases h with ⟨k, _⟩ | ⟨_, _, e, _⟩
  · cases k
  · cases e
/-- a slot is forgotten -/
theorem Rel.drop (rel : Rel G B F σ env H) (i : Nat) (x : Option V) : Rel G B F (σ.set i x) (env.set i .no) H := by
  refine ⟨by rw [List.length_set, List.length_set]; exact rel.len, fun j s e => ?_, fun j k a h1 h2 => ?_, rel.hB, rel.hF, rel.tb⟩
  · by_cases hj : j = i
    · subst hj
      have hlt : j < env.length := by
        have := (List.getElem?_eq_some_iff.mp e).1
        rw [List.length_set] at this; exact this
      rw [List.getElem?_set_self hlt] at e
      cases e
      trivial
    · rw [List.getElem?_set_ne (Ne.symm hj)] at e ⊢
      exact rel.sl j s e
  · rcases eL rel.len h1 with ⟨_, z⟩ | ⟨_, h1⟩
    · exact (j6 z).elim
    · rcases eL rel.len h2 with ⟨_, z⟩ | ⟨_, h2⟩
      · exact (j6 z).elim
      · exact rel.ap j k a h1 h2
theorem lA {s1 : Slot} {i : Nat} (hs : ∀ b, s1.feet σ[i]? b → dM env σ i b) {m : Nat} {b : Addr} (w : dM (env.set i s1) σ m b) : dM env σ m b := by
  obtain ⟨t, e1, e2⟩ := own_feet.mp w
  by_cases hm : m = i
  · subst hm
    have hlt := (List.getElem?_eq_some_iff.mp e1).1
    rw [List.length_set] at hlt
    rw [List.getElem?_set_self hlt] at e1
    cases e1
    exact hs b e2
  · rw [List.getElem?_set_ne (Ne.symm hm)] at e1
    exact own_feet.mpr ⟨t, e1, e2⟩
theorem Ps.seq {m k : M Fl} {D : Ends} {u : TS} (h : Ps G W (bc m k) D σ H B F env) (hu : ∀ σ' H', tS G W k D σ' H' → u D σ' H') : Ps G W m { D with nx := u D } σ H B F env := by
  obtain ⟨Qd, Ed, rel, hm, h1, h2, h3, h4, h5⟩ := h
  refine ⟨fun f env' => dq k f env' Qd Ed, Ed, rel, hm, fun env' σ' F' H' q st rl => hu σ' H' ⟨B, F', env', Qd, Ed, rl, q, ?_, ?_, ?_, ?_, ?_⟩, h2, h3, h4, h5⟩
  · exact fun e2 s2 F2 H2 q2 st2 rl2 => h1 e2 s2 F2 H2 q2 (st.trans st2) rl2
  · exact fun e2 s2 F2 H2 q2 st2 rl2 => h2 e2 s2 F2 H2 q2 (st.trans st2) rl2
  · exact fun e2 s2 F2 H2 q2 st2 rl2 => h3 e2 s2 F2 H2 q2 (st.trans st2) rl2
  · exact fun r e2 s2 F2 H2 v q2 st2 rl2 => h4 r e2 s2 F2 H2 v q2 (st.trans st2) rl2
  · exact fun x e2 s2 c d F2 H2 q2 st2 rl2 => h5 x e2 s2 c d F2 H2 q2 (st.trans st2) rl2
end
end
section
variable [Tbs]
section
variable {X : Cx} {C : Addr} {W : WX} {e : Expr} {es : List Expr} {st : Stmt} {sts : List Stmt} {m k : M Fl} {md : M D} {mt : M Bool} {pos : Pos} {is : List Nat}
/-- J walks the data ds, whatever this code does meanwhile -/
def ItOk (G : Gx) (J : It) (ds : List D) (B F : Addr → Prop) (H : Hp) : Prop := ∀ F' H', Stp B F H F' H' → ∀ i, (∀ d, ds[i]? = some d → J.go i H' ∧ ∀ x H'', J.yld i H' x H'' → Stp B F' H' F' H'' ∧ (∀ a o, H' a = some o → H'' a = some o) ∧ Rp G F' H'' d x) ∧ (ds.length ≤ i → J.stop i H')
theorem ItOk.mono {G : Gx} {J : It} {ds : List D} {B F F' : Addr → Prop} {H H' : Hp} (h : ItOk G J ds B F H) (s : Stp B F H F' H') : ItOk G J ds B F' H' := fun F2 H2 s2 => h F2 H2 (s.trans s2)
end
end
section
end
section
variable [Tbs]
def aX (env : List Slot) : List Nat → List Slot
  | [] => env
  | v :: vs => (aX env vs).set v .no
def cZ (env0 : List Slot) (v : Nat) : Slot := match env0[v]? with
  | some (.im d) => .im d
  | _ => .no
def aO (env0 env : List Slot) : List Nat → List Slot
  | [] => env
  | v :: vs => (aO env0 env vs).set v (cZ env0 v)
theorem wipe_out {σ : L2.St} {j : Nat} : ∀ {vs : List Nat}, j ∉ vs → (wipe σ vs)[j]? = σ[j]?
  | [], _ => rfl
  | v :: vs, h => by
    show ((wipe σ vs).set v none)[j]? = _
    rw [List.getElem?_set_ne fun z => h (by simp [z]), wipe_out fun z => h (List.mem_cons_of_mem _ z)]
theorem mL {σ σ' : L2.St} {vs : List Nat} (h : wipe σ' vs = wipe σ vs) {j : Nat} (hj : j ∉ vs) : σ'[j]? = σ[j]? := by
  rw [← wipe_out (σ := σ') hj, h, wipe_out hj]
theorem iy {e0 e : List Slot} : ∀ {vs : List Nat}, (aO e0 e vs).length = e.length
  | [] => rfl
  | v :: vs => by show ((aO e0 e vs).set v _).length = _; rw [List.length_set, iy]
theorem iW {e0 e : List Slot} {j : Nat} : ∀ {vs : List Nat}, j ∉ vs → (aO e0 e vs)[j]? = e[j]?
  | [], _ => rfl
  | v :: vs, h => by
    show ((aO e0 e vs).set v _)[j]? = _
    rw [List.getElem?_set_ne fun z => h (by simp [z]), iW fun z => h (List.mem_cons_of_mem _ z)]
theorem jq {e0 e : List Slot} {j : Nat} {s : Slot} : ∀ {vs : List Nat}, j ∈ vs → (aO e0 e vs)[j]? = some s → s = cZ e0 j
  | [], h, _ => by cases h
  | v :: vs, h, q => by
    have q : ((aO e0 e vs).set v (cZ e0 v))[j]? = some s := q
    by_cases z : v = j
    · subst z
      have hl : v < (aO e0 e vs).length := by
        have := (List.getElem?_eq_some_iff.mp q).1
        rw [List.length_set] at this; exact this
      rw [List.getElem?_set_self hl] at q
      exact (Option.some.inj q).symm
    · rw [List.getElem?_set_ne z] at q
      exact jq ((List.mem_cons.mp h).elim (fun z' => absurd z'.symm z) id) q
section
variable {G : Gx} {B B' F F' F0 : Addr → Prop} {σ σ2 : L2.St} {H H' H0 : Hp} {env env0 : List Slot}
theorem Rel.wipe (rel : Rel G B F σ env H) : ∀ vs : List Nat, Rel G B F (L2.wipe σ vs) (aX env vs) H
  | [] => rel
  | v :: vs => (Rel.wipe rel vs).drop v none
theorem lV {vs : List Nat} (hw : L2.wipe σ2 vs = L2.wipe σ vs) {k : Nat} {a : Addr} (w : dM (aO env0 env vs) σ k a) : dM env σ2 k a := by
  obtain ⟨s, e, o⟩ := own_feet.mp w
  by_cases hk : k ∈ vs
  · have es := jq hk e
    subst es
    unfold cZ at o
    cases z : env0[k]? with
    | none => rw [z] at o; exact (j6 o).elim
    | some s => rw [z] at o; cases s <;> first | exact (j6 o).elim | exact (jB o).elim
  · rw [iW hk] at e
    exact own_feet.mpr ⟨s, e, by rw [mL hw hk]; exact o⟩
theorem Rel.back (rel0 : Rel G B F0 σ env0 H0) (st : Stp B F0 H0 F H) {vs : List Nat} (rel : Rel G B F σ2 env H) (hw : L2.wipe σ2 vs = L2.wipe σ vs) : Rel G B F σ (aO env0 env vs) H := by
  have hl : σ2.length = σ.length := by have := congrArg List.length hw; rwa [wipe_length, wipe_length] at this
  refine ⟨by rw [iy, rel.len, hl], fun j s e => ?_, fun i j a h1 h2 => ?_, rel.hB, rel.hF, rel.tb⟩
  · by_cases hj : j ∈ vs
    · have es := jq hj e
      subst es
      unfold cZ
      cases q : env0[j]? with
      | none => trivial
      | some s =>
        cases s with
        | im d => obtain ⟨v, h1, h2⟩ := rel0.sl j _ q; exact ⟨v, h1, Rp.mono st d v h2⟩
        | _ => trivial
    · rw [iW hj] at e
      rw [← mL hw hj]
      exact rel.sl j s e
  · exact rel.ap i j a (lV hw h1) (lV hw h2)
end
end
section
variable [Tbs]
/-- a def's promise where nothing that shows things is under way -/
structure FnG (P : Program) (w : World) (K : PySem.W.Frag) (mg : Str → Option Value) (base : Heap) (k : Nat) (f : Addr) (fd : FuncData) (ps : List Str) (sp : Sp) : Prop where
  len : ∀ vs H Q E, sp vs H Q E → vs.length = ps.length
  run : ∀ (A : Around) (outer : List Env) (s : Shared) (H : Hp) (args : Args) (us : List Value) (vs : List V) (Q : VK) (E : XK), Room k A → A.guards = some [] → Env0 P w K mg base A outer s H → BindsTo s fd args (ps.zip us) → Vals vs us → sp vs H Q E →
    codeAny (model P w) A (.call (.ref f) args) (CR (DLz.CX P w) outer P w H s Q E) s
theorem FnG.mono {P : Program} {w : World} {K : PySem.W.Frag} {mg : Str → Option Value} {base : Heap} {j k : Nat} {f : Addr} {fd : FuncData} {ps : List Str} {sp : Sp} (F : FnG P w K mg base j f fd ps sp) (h : j ≤ k) : FnG P w K mg base k f fd ps sp :=
  ⟨F.len, fun A outer s H args us vs Q E hr => F.run A outer s H args us vs Q E (hr.mono h)⟩
abbrev DF := List Slot → (Res → List Slot → Prop) → (Exn → List Slot → Prop) → Prop
def qt (G : Gx) : (Addr → Prop) → (Addr → Prop) → List Slot → L2.St → Hp → Res → V → Prop := fun B F env σ H r v => match r with
  | .d d => Rp G F H d v
  | .o o => RO G B F env σ H o v
  | .t r ns => v = .ref r ∧ Tree G B F H r ns ∧ ∀ b ∈ ns.map (·.1), ∀ i, ¬ dM env σ i b
end
section
end
section
end
section
variable [Tbs]
section
variable {G : Gx} {W : WX} {B F : Addr → Prop} {σ : L2.St} {H : Hp} {env : List Slot} {α β γ δ : Type}
variable {R : (Addr → Prop) → (Addr → Prop) → List Slot → L2.St → Hp → γ → δ → Prop} {Q : δ → Hp → Prop} {i : Nat} {a : Addr} {o o' : O}
theorem OwnR.here (h : OwnR env σ i a) {b : Addr} (e : σ[i]? = some (some (.ref b))) : a = b := by
  have z := h.2
  rw [e] at z
  cases z; rfl
theorem Pt.rel {m : M γ} (h : Pt G W R σ H Q m B F env) : Rel G B F σ env H := let ⟨_, _, r, _⟩ := h; r
end
end
section
end
section
end
section
variable [Tbs]
section
variable {X : Cx} {C : Addr} {W : WX} {a b c e : Expr} {es : List Expr} {ma mb mc md : M D} {pos apos cpos p : Pos} {i : Nat}
variable {k n : Nat} {f : Addr} {fd : FuncData} {ps ks : List Str} {df : DF} {x m : Str} {kws : List Keyword} {ms mk : M (List D)} {o : Expr}
theorem FsR.len {G : Gx} {F : Addr → Prop} {H : Hp} : ∀ {fs : List (Str × D)} {l : List (Str × V)}, FsR G F H fs l → fs.length = l.length
  | [], _, h => by cases (show _ = _ from h); rfl
  | (g, x) :: r, _, ⟨w, l', e, h1, h2⟩ => by subst e; rw [List.length_cons, List.length_cons, FsR.len h2]
end
end
section
end
section
end
section
end
section
end
section
variable [Tbs]
def valD (kvs : List (Key × D)) (k : Key) : Option D := (kvs.find? fun kv => decide (kv.1 = k)).map (·.2)
section
variable {G : Gx} {W : WX} {B F : Addr → Prop} {σ : L2.St} {H : Hp} {env : List Slot} {α β γ δ : Type}
variable {R : (Addr → Prop) → (Addr → Prop) → List Slot → L2.St → Hp → γ → δ → Prop} {Q : δ → Hp → Prop} {i : Nat} {a : Addr} {o o' : O}
theorem KvR.length : ∀ {kvs : List (Key × D)} {l : List (Key × V)}, KvR G F H kvs l → kvs.length = l.length
  | [], _, h => by cases (show _ = _ from h); rfl
  | (k, d) :: r, _, ⟨v, l', e, h1, h2⟩ => by subst e; simp [KvR.length h2]
theorem KvR.any : ∀ {kvs : List (Key × D)} {l : List (Key × V)} (k : Key), KvR G F H kvs l → (kvs.any fun kv => decide (kv.1 = k)) = (l.any fun kv => decide (kv.1 = k))
  | [], _, k, h => by cases (show _ = _ from h); rfl
  | (k', d) :: r, _, k, ⟨v, l', e, h1, h2⟩ => by subst e; rw [List.any_cons, List.any_cons, KvR.any k h2]
theorem KvR.val : ∀ {kvs : List (Key × D)} {l : List (Key × V)} (k : Key), KvR G F H kvs l → match valD kvs k with
    | some d => ∃ v, valV l k = some v ∧ Rp G F H d v
    | none => valV l k = none
  | [], _, k, h => by cases (show _ = _ from h); rfl
  | (k', d') :: r, _, k, ⟨v', l', e, h1, h2⟩ => by
    subst e
    by_cases z : k' = k
    · have e1 : valD ((k', d') :: r) k = some d' := by unfold valD; rw [List.find?_cons, decide_eq_true z]; rfl
      rw [e1]
      exact ⟨v', valV_pos z, h1⟩
    · have e1 : valD ((k', d') :: r) k = valD r k := by unfold valD; rw [List.find?_cons, decide_eq_false z]
      rw [e1, valV_neg (p := (k', v')) z]
      exact KvR.val k h2
end
end
section
end
section
end
section
end
section
end
section
end
section
end
section
end
section
end
section
end
section
end
section
end
section
end
section
variable [Tbs]
/-- the exception at a is held -/
def HotA (F : Addr → Prop) (H : Hp) (a : Addr) : Prop := F a ∧ ∃ cls d, ExAt H a cls d
end
section
variable [Tbs]
/-- room where something is handled -/
structure RoomX (k : Nat) (A : Around) : Prop where
  dp : A.depth + 3 * k + 5 < recursionLimit
  un : A.units + 16 * k + 200 < cLine
theorem RoomX.mono {j k : Nat} {A : Around} (r : RoomX k A) (h : j ≤ k) : RoomX j A := ⟨by have := r.dp; omega, by have := r.un; omega⟩
theorem RoomX.units {k : Nat} {A : Around} (r : RoomX k A) : A.units + 200 < cLine := by have := r.un; omega
/-- the handled exception is known -/
def HdA (A : Around) (H : Hp) : Prop := ∃ a cls d, A.handled = some (.ref a) ∧ ExAt H a cls d
/-- .. all through a def's run -/
def HotX (X : Cx) : Prop := HdA X.A X.H_0
theorem HotX.at_ {X : Cx} {pins : List (Addr × Obj)} {σ : L2.St} {H : Hp} {s : Shared} (h : HotX X) (I : Inv X pins σ H s) : ∃ x1, X.A.handled = some (.ref x1) ∧ (s.heap.get? x1 = none → False) ∧ ∀ p, s.heap.get? p = none → DLz.HotAt X.A x1 p s.heap := by
  obtain ⟨a, cls, d, hh, oe, vs, c, e, _, _, e3, e4, ch⟩ := h
  have at_ := (I.hok a _ (I.base.frzs a _ _ e)).1
  exact ⟨a, hh, fun z => (by rw [z] at at_; cases at_), fun p np => ⟨hh, oe, vs, c, at_, e3, e4, (ch.mono I.base.frzs).here (fun b ob z => (I.hok b _ z).1) np⟩⟩
theorem HotA.mono {B F F' : Addr → Prop} {H H' : Hp} {a : Addr} (s : Stp B F H F' H') (h : HotA F H a) : HotA F' H' a := ⟨s.fm a h.1, let ⟨c, d, e⟩ := h.2; ⟨c, d, e.mono s h.1⟩⟩
end
section
end
section
end
section
end
section
end
section
end
section
variable [Tbs]
section
variable {G : Gx} {W : WX} {B F : Addr → Prop} {σ : L2.St} {H : Hp} {env : List Slot}
theorem Pt.emp {p : Addr} {Q : V → Hp → Prop} (h : Pt G W (RD G) σ H Q (ret .emp) B F env) (hp : H p = none) : Q (.ref p) (upd H p (.dK [])) := by
  obtain ⟨Qd, Ed, rel, hm, hq, he⟩ := h
  exact hq _ env _ (fun a => F a ∨ a = p) _ hm (hU hp (rel.notB hp)) (rel.newF hp) ⟨p, rfl, .inr rfl, upd_same⟩
end
end
section
end
section
variable [Tbs]
section
variable {X : Cx} {C : Addr} {W : WX} {e h e2 : Expr} {a : Addr} {mh : M Res} {md m2 : M D} {pos : Pos} {k1 : Nat}
theorem Pt.rd {G : Gx} {B F : Addr → Prop} {σ : L2.St} {H : Hp} {env : List Slot} {Q : V → Hp → Prop} {x : D} (h : Pt G W (qt G) σ H Q (ret (.d x)) B F env) : Pt G W (RD G) σ H Q (ret x) B F env := by
  obtain ⟨Qd, Ed, rel, hm, hq, he⟩ := h
  exact ⟨fun d env' => Qd (.d d) env', Ed, rel, hm, fun d env' v F' H' q st rl r => hq (.d d) env' v F' H' q st rl r, he⟩
end
end
section
end
section
end
section
end
section
end
section
end
section
end
section
end
end DL
namespace HE
open PySem PySem.Spec PyProof.Rows L2
section
end
section
end
section
end
end HE
namespace DL
open PySem PySem.Spec PyProof.Rows L2 HE
section
end
end DL
namespace HE
open PySem PySem.Spec PyProof.Rows L2
section
end
section
end
end HE
namespace DL
open PySem PySem.Spec PyProof.Rows L2 HE
section
end
end DL
namespace DL
open PySem PySem.Spec PyProof.Rows L2
section
end
section
end
section
end
section
end
section
/-- the objects that an object names, code objects' own parts left out -/
def yS (o : Obj) : List Addr := match o.data with
  | .fields _ => []
  | .func fd => He.refsO o ++ He.refV fd.kwdefaults
  | _ => He.refsO o
def zl (g : Addr → Option Obj) (as : List Addr) : List Addr := (as ++ as.flatMap fun a => match g a with
  | some o => yS o
  | none => []).eraseDups
def zK (g : Addr → Option Obj) : Nat → List Addr
  | 0 => [mainGlobals, PySem.cStatics]
  | n + 1 => zl g (zK g n)
abbrev wC : Type := Bool × List He.FnV
def xY (chk : List (PySem.W.Frag → Bool)) (fn : List He.FnD) (K : PySem.W.Frag) : wC := ((chk.all fun f => f K) && fn.all fun d => (He.Fa.code d.at_ d.qual).ok K, fn.map fun d => He.fnObs K d.at_)
def xc (fn : List He.FnD) : wC := (true, fn.map He.FnD.val)
def SaysK (chk : List (PySem.W.Frag → Bool)) (fn : List He.FnD) (K : PySem.W.Frag) : Prop := xY chk fn K = xc fn
def xZ (n : Nat) (chk : List (PySem.W.Frag → Bool)) (fn : List He.FnD) (g : Addr → Option Obj) : wC := xY chk fn (He.frG g (zK g n))
def wY (n : Nat) (chk : List (PySem.W.Frag → Bool)) (fn : List He.FnD) : PySem.W.Hook where
  α := wC
  obs := fun s => xZ n chk fn s.heap.get?
  val := fun _ => xc fn
  says := fun _ h => ∃ K : PySem.W.Frag, K.In h ∧ SaysK chk fn K
  of := fun _ _ e => ⟨_, He.frG_in, e⟩
  keeps := fun _ _ _ ⟨K, hK, c⟩ k => ⟨K, PySem.W.Frag.In.keeps hK k, c⟩
/-- a name that holds the number i -/
def rT (K : PySem.W.Frag) (x : Str) (i : Int) : Bool := match PySem.W.nsIn K mainGlobals x with
  | some (some (.int j _)) => decide (j = i)
  | _ => false
end
section
end
section
end
section
variable [Tbs]
abbrev NP : NestedKey × Addr × V → NestedKey × Addr × Value → Prop := fun p q => p.1 = q.1 ∧ p.2.1 = q.2.1 ∧ RelV p.2.2 q.2.2
def gY (l : List (NestedKey × Addr × V)) (k : NestedKey) : Option V := (l.find? fun p => decide (p.1 = k)).map (·.2.2)
def valN (kvs : List (NestedKey × D)) (k : NestedKey) : Option D := (kvs.find? fun p => decide (p.1 = k)).map (·.2)
theorem NPs.val {l : List (NestedKey × Addr × V)} {xs : List (NestedKey × Addr × Value)} (r : Paired NP l xs) (k : NestedKey) : RelO (gY l k) ((atKey xs k).map (·.2)) := by
  induction r with
  | nil => exact True.intro
  | @cons p q ps qs h t ih =>
    obtain ⟨h1, _, h2⟩ := h
    by_cases e : p.1 = k
    · have e' : q.1 = k := h1.symm.trans e
      have a : gY (p :: ps) k = some p.2.2 := by simp [gY, List.find?_cons, e]
      have b : atKey (q :: qs) k = some q.2 := by simp [atKey, List.find?_cons, e']
      rw [a, b]; exact h2
    · have e' : ¬ q.1 = k := fun z => e (h1.trans z)
      have a : gY (p :: ps) k = gY ps k := by simp [gY, List.find?_cons, e]
      have b : atKey (q :: qs) k = atKey qs k := by simp [atKey, List.find?_cons, e']
      rw [a, b]; exact ih
section
variable {G : Gx} {W : WX} {B F : Addr → Prop} {σ : L2.St} {H : Hp} {env : List Slot} {α β γ δ : Type}
variable {R : (Addr → Prop) → (Addr → Prop) → List Slot → L2.St → Hp → γ → δ → Prop} {Q : δ → Hp → Prop} {i : Nat} {a : Addr} {o o' : O}
theorem KnR.length : ∀ {kvs : List (NestedKey × D)} {l : List (NestedKey × Addr × V)}, KnR G F H kvs l → kvs.length = l.length
  | [], _, h => by cases (show _ = _ from h); rfl
  | (k, d) :: r, _, ⟨b, v, l', e, _, _, _, h2⟩ => by subst e; simp [KnR.length h2]
theorem KnR.any : ∀ {kvs : List (NestedKey × D)} {l : List (NestedKey × Addr × V)} (k : NestedKey), KnR G F H kvs l → (kvs.any fun p => decide (p.1 = k)) = (l.any fun p => decide (p.1 = k))
  | [], _, k, h => by cases (show _ = _ from h); rfl
  | (k', d) :: r, _, k, ⟨b, v, l', e, _, _, _, h2⟩ => by subst e; rw [List.any_cons, List.any_cons, KnR.any k h2]
theorem KnR.val : ∀ {kvs : List (NestedKey × D)} {l : List (NestedKey × Addr × V)} (k : NestedKey), KnR G F H kvs l → match valN kvs k with
    | some d => ∃ v, gY l k = some v ∧ Rp G F H d v
    | none => gY l k = none
  | [], _, k, h => by cases (show _ = _ from h); rfl
  | (k', d') :: r, _, k, ⟨b, v', l', e, dp, hk, h1, h2⟩ => by
    subst e
    by_cases z : k' = k
    · have e1 : valN ((k', d') :: r) k = some d' := by unfold valN; rw [List.find?_cons, decide_eq_true z]; rfl
      rw [e1]
      exact ⟨v', by unfold gY; rw [List.find?_cons, decide_eq_true z]; rfl, h1⟩
    · have e1 : valN ((k', d') :: r) k = valN r k := by unfold valN; rw [List.find?_cons, decide_eq_false z]
      have e2 : gY ((k', b, v') :: l') k = gY l' k := by unfold gY; rw [List.find?_cons, decide_eq_false z]
      rw [e1, e2]
      exact KnR.val k h2
end
end
section
end
section
end
section
variable [Tbs]
def getT (i : Nat) : M (Addr × List (Addr × R1)) := fun env Q _ => match env[i]? with
  | some (.tr r ns) => Q (r, ns) env
  | _ => False
def zG : List E1 → Option (List D)
  | [] => some []
  | .d x :: r => (zG r).map (x :: ·)
  | .k _ :: _ => none
section
variable {G : Gx} {W : WX} {B F : Addr → Prop} {σ : L2.St} {H : Hp} {env : List Slot} {α β γ δ : Type}
variable {R : (Addr → Prop) → (Addr → Prop) → List Slot → L2.St → Hp → γ → δ → Prop} {Q : δ → Hp → Prop} {i : Nat}
theorem Pt.getT {k : Addr × List (Addr × R1) → M γ} (h : Pt G W R σ H Q (aq (DL.getT i) k) B F env) : ∃ r ns, σ[i]? = some (some (.ref r)) ∧ env[i]? = some (.tr r ns) ∧ Tree G B F H r ns ∧ Pt G W R σ H Q (k (r, ns)) B F env := by
  obtain ⟨Qd, Ed, rel, hm, hq, he⟩ := h
  have hm : DL.getT i env (fun o env' => k o env' Qd Ed) Ed := hm
  unfold DL.getT at hm
  cases q : env[i]? with
  | none => rw [q] at hm; exact hm.elim
  | some s =>
    rw [q] at hm
    cases s with
    | tr r ns =>
      obtain ⟨h1, t⟩ := rel.sl i _ q
      exact ⟨r, ns, h1, rfl, t, Qd, Ed, rel, hm, hq, he⟩
    | _ => exact hm.elim
theorem ErL.length : ∀ {xs : List E1} {vs : List V}, ErL G F H xs vs → xs.length = vs.length
  | [], _, h => by cases (show _ = _ from h); rfl
  | x :: xs, _, ⟨v, l', q, h1, h2⟩ => by subst q; rw [List.length_cons, List.length_cons, ErL.length h2]
theorem ErL.data : ∀ {xs : List E1} {vs : List V} {ds : List D}, ErL G F H xs vs → zG xs = some ds → RpL G F H ds vs
  | [], _, ds, h, e => by cases (show _ = _ from h); cases (show some [] = some ds from e); rfl
  | .d x :: xs, _, ds, ⟨w, l', q, h1, h2⟩, e => by
    subst q
    obtain ⟨r, hr, er⟩ := Option.map_eq_some_iff.mp (show (zG xs).map (x :: ·) = some ds from e)
    subst er
    exact ⟨w, l', rfl, h1, ErL.data h2 hr⟩
  | .k _ :: xs, _, ds, _, e => by cases e
end
end
section
end
section
end
section
end
section
end
section
end
section
variable [Tbs]
theorem ErF.len {G : Gx} {F : Addr → Prop} {H : Hp} : ∀ {fs : List (Str × E1)} {l : List (Str × V)}, ErF G F H fs l → fs.length = l.length
  | [], _, h => by cases (show _ = _ from h); rfl
  | (g, x) :: r, _, ⟨w, l', e, h1, h2⟩ => by subst e; rw [List.length_cons, List.length_cons, ErF.len h2]
end
section
end
section
end
section
variable [Tbs]
abbrev sG : Type := Str × List Str
abbrev wB : Type := wC × List (Option (List (Option (Str × Int))))
def tabAt (K : PySem.W.Frag) (x : Str) : Addr := match PySem.W.nsIn K mainGlobals x with
  | some (some (.ref a)) => a
  | _ => 0
def y8 (chk : List (PySem.W.Frag → Bool)) (fn : List He.FnD) (ts : List sG) (K : PySem.W.Frag) : wB := (xY chk fn K, ts.map fun t => He.dicW K (tabAt K t.1))
def yH (fn : List He.FnD) (ts : List sG) (w : World) : wB := (xc fn, ts.map fun t => some (He.keysIn w.params t.2))
def SaysKT (chk : List (PySem.W.Frag → Bool)) (fn : List He.FnD) (ts : List sG) (w : World) (K : PySem.W.Frag) : Prop := y8 chk fn ts K = yH fn ts w
section
variable {chk : List (PySem.W.Frag → Bool)} {fn : List He.FnD} {ts : List sG} {K : PySem.W.Frag} {w : World}
theorem SaysKT.k (c : SaysKT chk fn ts w K) : SaysK chk fn K := congrArg (fun z : wB => z.1) c
end
end
section
end
section
/-- a name that holds the text y -/
def xn (K : PySem.W.Frag) (x y : Str) : Bool := match PySem.W.nsIn K mainGlobals x with
  | some (some (.str z _)) => decide (z = y)
  | _ => false
end
section
end
section
end
section
end
section
end
section
end
section
end
section
end
section
end
section
end
section
end
section
end
section
variable [Tbs]
section
variable {G : Gx} {B F F' : Addr → Prop} {H H' : Hp}
theorem ExnR.mono {x : Exn} {cls : Value} {d : Option Addr} (st : Stp B F H F' H') (h : ExnR G F H x cls d) : ExnR G F' H' x cls d := by
  obtain ⟨h1, h2⟩ := h
  refine ⟨h1, ?_⟩
  cases q : x.fld with
  | none => rw [q] at h2; exact h2
  | some p =>
    rw [q] at h2
    obtain ⟨dd, v, e, hF, hd, rv⟩ := h2
    exact ⟨dd, v, e, st.fm dd hF, st.hk dd _ (.inr hF) hd, Rp.mono st _ v rv⟩
end
end
section
end
end DL
namespace HE
open PySem PySem.SeqAt
section
open MeetsSeq MeetsSeq2 MeetsSeq3 SeqRoads2
end
end HE
namespace DL
open PySem PySem.Spec PyProof.Rows L2 HE
section
end
end DL
namespace DL
open PySem PySem.Spec PyProof.Rows L2
section
end
section
end
section
end
section
end
section
end
section
end
section
end
section
end
section
end
section
end
section
end
section
end
section
end
section
end
section
end
section
end
section
end
section
end
section
end
section
variable [Tbs]
theorem Rel.own {G : Gx} {B F : Addr → Prop} {σ : L2.St} {H : Hp} {env : List Slot} (rel : Rel G B F σ env H) {i : Nat} {a : Addr} {o : O} (e : env[i]? = some (.io a o)) : Rel G B F σ (env.set i (.ow o)) H := by
  obtain ⟨h1, h2, h3, h4⟩ := rel.sl i _ e
  have hlt := (List.getElem?_eq_some_iff.mp e).1
  have back : ∀ {m : Nat} {b : Addr}, dM (env.set i (.ow o)) σ m b → dM env σ m b := fun w => lA (fun c h => by
    rcases h with ⟨_, k⟩ | ⟨_, _, q, _⟩
    · exact .inl ⟨⟨_, e, rfl⟩, k⟩
    · cases q) w
  refine ⟨by rw [List.length_set]; exact rel.len, fun j s e' => ?_, fun j k c w1 w2 => rel.ap j k c (back w1) (back w2), rel.hB, rel.hF, rel.tb⟩
  by_cases hj : j = i
  · subst hj
    rw [List.getElem?_set_self hlt] at e'
    cases e'
    exact ⟨a, h1, h2, h3, h4⟩
  · rw [List.getElem?_set_ne (Ne.symm hj)] at e'
    exact rel.sl j s e'
end
section
end
end DL
namespace DLs
open PySem PyProof.Rows Srt SrtO
section
def wS (b : Bool) : Str := if b = true then "come" else "go"
def IsW (h : Heap) (v : Value) (p : Bool × Int) : Prop := ∃ a o t u n, v = .ref a ∧ h.get? a = some o ∧ o.cls = .type "tuple" ∧ o.data = .seq #[.str (wS p.1) t, .int p.2 u] n
theorem IsW.keeps {h h' : Heap} {v : Value} {p : Bool × Int} (q : IsW h v p) (k : ∀ b o, h.get? b = some o → o.cls = .type "tuple" → h'.get? b = some o) : IsW h' v p := by
  obtain ⟨a, o, t, u, n, e, ho, hc, hd⟩ := q
  exact ⟨a, o, t, u, n, e, k a o ho hc, hc, hd⟩
end
end DLs
namespace DL
open PySem PySem.Spec PyProof.Rows L2
section
end
section
end
section
end
section
end
section
end
section
end
section
end
section
end
section
end
section
end
section
end
section
variable [Tbs]
inductive Ky where
  | k (l : List Key) | n (l : List NestedKey)
abbrev BR (B : Addr → Prop) (d : Addr) (bs : List Addr) : Addr → Prop := fun a => B a ∨ a ∈ d :: bs
def RegD (w : World) (F : Addr → Prop) (H : Hp) (d : Addr) (bs : List Addr) : Ky → Prop
  | .k l => l.length = bs.length ∧ H d = some (.dK (l.zip (bs.map .ref)))
  | .n l => ∃ o m, H d = some (yF d o) ∧ NdIs w d o m ∧ KysR F H m ∧ m.map (·.1) = l ∧ m.map (·.2.2) = bs.map V.ref
structure Reg (w : World) (G : Gx) (B F : Addr → Prop) (H : Hp) (d : Addr) (bs : List Addr) (ks : Ky) (dss : List (List D)) : Prop where
  nd : (d :: bs).Nodup
  fr : ∀ a ∈ d :: bs, ¬ F a ∧ ¬ B a
  len : bs.length = dss.length
  dict : RegD w F H d bs ks
  kids : ∀ (n : Nat) b, bs[n]? = some b → ∃ vs, H b = some (.lst vs) ∧ RpL G F H (dss.getD n []) vs
section
variable {w : World} {G : Gx} {W : WX} {B B' F F' : Addr → Prop} {H H' : Hp} {σ : L2.St} {env : List Slot} {d : Addr} {bs : List Addr} {ks : Ky} {dss : List (List D)}
theorem RegD.mono (s : Stp B' F H F' H') (hd : B' d) (r : RegD w F H d bs ks) : RegD w F' H' d bs ks := by
  cases ks with
  | k l => exact ⟨r.1, s.hk d _ (.inl hd) r.2⟩
  | n l => obtain ⟨o, m, e, n, kr, q⟩ := r; exact ⟨o, m, s.hk d _ (.inl hd) e, n, kr.mono s, q⟩
theorem Reg.mono (s : Stp (BR B d bs) F H F' H') (r : Reg w G B F H d bs ks dss) : Reg w G B F' H' d bs ks dss where
  nd := r.nd
  fr := fun a h => ⟨fun z => (s.fn a z).elim (r.fr a h).1 fun z => z (.inr h), (r.fr a h).2⟩
  len := r.len
  dict := r.dict.mono s (.inr (List.mem_cons_self ..))
  kids := fun n b e => by
    obtain ⟨vs, h1, h2⟩ := r.kids n b e
    exact ⟨vs, s.hk b _ (.inl (.inr (List.mem_cons_of_mem _ (List.mem_of_getElem? e)))) h1, RpL.mono s _ _ h2⟩
end
end
section
end
section
end
section
end
end DL
namespace DLP
open PySem PySem.Spec PyProof.Rows L2 DL
section
def lg (i : Nat) : Stmt := PySem.Challenge.pw_waitseats_k06_texts_and_bytes.main.body.getD i (.Pass ⟨0, 0, 0, 0⟩)
abbrev eR : Stmt := (lg 27)
abbrev fX : Stmt := (lg 28)
abbrev eC : Stmt := (inClass (lg 12) 2)
abbrev dR : Stmt := (lg 11)
abbrev dJ : Stmt := (inClass (lg 12) 0)
abbrev gv : Stmt := (lg 33)
abbrev fg : Stmt := (lg 32)
abbrev ez : Stmt := (lg 13)
abbrev dE : Stmt := (inClass (lg 12) 1)
abbrev eh : Stmt := (lg 15)
abbrev dI : Stmt := (lg 16)
abbrev eN : Stmt := (lg 18)
abbrev cw : Stmt := (lg 24)
abbrev cQ : Stmt := (lg 17)
abbrev dF : Stmt := (lg 22)
abbrev cq : Stmt := (lg 23)
abbrev dU : Stmt := (inClass (lg 12) 4)
abbrev cu : Stmt := (lg 21)
abbrev bE : Stmt := (lg 25)
abbrev eQ : Stmt := (lg 35)
abbrev fW : Stmt := (lg 29)
abbrev eO : Stmt := (lg 30)
abbrev eB : Stmt := (lg 31)
abbrev dW : Stmt := (lg 34)
abbrev gN : Stmt := (lg 36)
end
end DLP
set_option maxHeartbeats 0
namespace DLP
open PySem PySem.Spec PyProof.Rows L2 DL
section
def zE : List He.FnD := [⟨("_law_cell", none), "_law_cell", "_law_cell", defArgs eR, defBody eR, defScope eR⟩, ⟨("_law_pool", none), "_law_pool", "_law_pool", defArgs fX, defBody fX, defScope fX⟩, ⟨("Hall", some "__eq__"), "__eq__", "Hall.__eq__", defArgs eC, defBody eC, defScope eC⟩, ⟨("is_whole", none), "is_whole", "is_whole", defArgs dR, defBody dR, defScope dR⟩, ⟨("Hall", some "__init__"), "__init__", "Hall.__init__", defArgs dJ, defBody dJ, defScope dJ⟩, ⟨("_law_row", none), "_law_row", "_law_row", defArgs gv, defBody gv, defScope gv⟩, ⟨("_law_text", none), "_law_text", "_law_text", defArgs fg, defBody fg, defScope fg⟩, ⟨("hall_of", none), "hall_of", "hall_of", defArgs ez, defBody ez, defScope ez⟩, ⟨("Hall", some "seats"), "seats", "Hall.seats", defArgs dE, defBody dE, defScope dE⟩, ⟨("is_seat", none), "is_seat", "is_seat", defArgs eh, defBody eh, defScope eh⟩, ⟨("first_odd", none), "first_odd", "first_odd", defArgs dI, defBody dI, defScope dI⟩, ⟨("seated", none), "seated", "seated", defArgs eN, defBody eN, defScope eN⟩, ⟨("pack_standing", none), "pack_standing", "pack_standing", defArgs cw, defBody cw, defScope cw⟩, ⟨("is_standing", none), "is_standing", "is_standing", defArgs cQ, defBody cQ, defScope cQ⟩, ⟨("number_in", none), "number_in", "number_in", defArgs dF, defBody dF, defScope dF⟩, ⟨("read_standing", none), "read_standing", "read_standing", defArgs cq, defBody cq, defScope cq⟩, ⟨("Hall", some "__str__"), "__str__", "Hall.__str__", defArgs dU, defBody dU, defScope dU⟩, ⟨("show_standing", none), "show_standing", "show_standing", defArgs cu, defBody cu, defScope cu⟩, ⟨("unpack_standing", none), "unpack_standing", "unpack_standing", defArgs bE, defBody bE, defScope bE⟩, ⟨("_law_right", none), "_law_right", "_law_right", defArgs eQ, defBody eQ, defScope eQ⟩, ⟨("_law_take", none), "_law_take", "_law_take", defArgs fW, defBody fW, defScope fW⟩, ⟨("_law_sizes", none), "_law_sizes", "_law_sizes", defArgs eO, defBody eO, defScope eO⟩, ⟨("_law_seated", none), "_law_seated", "_law_seated", defArgs eB, defBody eB, defScope eB⟩, ⟨("_law_stands", none), "_law_stands", "_law_stands", defArgs dW, defBody dW, defScope dW⟩, ⟨("law", none), "law", "law", defArgs gN, defBody gN, defScope gN⟩]
def zv : List (PySem.W.Frag → Bool) := [fun K => PySem.W.keepIn K (.ref (He.fAd K ("_law_cell", none))),
  fun K => decide (PySem.W.nsIn K mainGlobals "_law_cell" = some (some (.ref (He.fAd K ("_law_cell", none))))),
  fun K => PySem.W.keepIn K (.ref (He.fAd K ("_law_pool", none))),
  fun K => decide (PySem.W.nsIn K mainGlobals "_law_pool" = some (some (.ref (He.fAd K ("_law_pool", none))))),
  fun K => PySem.W.keepIn K (.ref (He.fAd K ("Hall", some "__eq__"))),
  fun K => decide (PySem.W.findIn K (.ref (He.ga K "Hall")) "__eq__" = some (some (.ref (He.fAd K ("Hall", some "__eq__"))))),
  fun K => PySem.W.isFn K (.ref (He.fAd K ("Hall", some "__eq__"))),
  fun K => PySem.W.keepIn K (.ref (He.fAd K ("is_whole", none))),
  fun K => decide (PySem.W.nsIn K mainGlobals "is_whole" = some (some (.ref (He.fAd K ("is_whole", none))))),
  fun K => PySem.W.keepIn K (.ref (He.fAd K ("Hall", some "__init__"))),
  fun K => decide (PySem.W.findIn K (.ref (He.ga K "Hall")) "__init__" = some (some (.ref (He.fAd K ("Hall", some "__init__"))))),
  fun K => PySem.W.isFn K (.ref (He.fAd K ("Hall", some "__init__"))),
  fun K => PySem.W.keepIn K (.ref (He.fAd K ("_law_row", none))),
  fun K => decide (PySem.W.nsIn K mainGlobals "_law_row" = some (some (.ref (He.fAd K ("_law_row", none))))),
  fun K => PySem.W.keepIn K (.ref (He.fAd K ("_law_text", none))),
  fun K => decide (PySem.W.nsIn K mainGlobals "_law_text" = some (some (.ref (He.fAd K ("_law_text", none))))),
  fun K => PySem.W.keepIn K (.ref (He.fAd K ("hall_of", none))),
  fun K => decide (PySem.W.nsIn K mainGlobals "hall_of" = some (some (.ref (He.fAd K ("hall_of", none))))),
  fun K => PySem.W.keepIn K (.ref (He.fAd K ("Hall", some "seats"))),
  fun K => decide (PySem.W.findIn K (.ref (He.ga K "Hall")) "seats" = some (some (.ref (He.fAd K ("Hall", some "seats"))))),
  fun K => PySem.W.isFn K (.ref (He.fAd K ("Hall", some "seats"))),
  fun K => PySem.W.keepIn K (.ref (He.fAd K ("is_seat", none))),
  fun K => decide (PySem.W.nsIn K mainGlobals "is_seat" = some (some (.ref (He.fAd K ("is_seat", none))))),
  fun K => PySem.W.keepIn K (.ref (He.fAd K ("first_odd", none))),
  fun K => decide (PySem.W.nsIn K mainGlobals "first_odd" = some (some (.ref (He.fAd K ("first_odd", none))))),
  fun K => PySem.W.keepIn K (.ref (He.fAd K ("seated", none))),
  fun K => decide (PySem.W.nsIn K mainGlobals "seated" = some (some (.ref (He.fAd K ("seated", none))))),
  fun K => PySem.W.keepIn K (.ref (He.fAd K ("pack_standing", none))),
  fun K => decide (PySem.W.nsIn K mainGlobals "pack_standing" = some (some (.ref (He.fAd K ("pack_standing", none))))),
  fun K => PySem.W.keepIn K (.ref (He.fAd K ("is_standing", none)))]
def zu : List (PySem.W.Frag → Bool) := [fun K => decide (PySem.W.nsIn K mainGlobals "is_standing" = some (some (.ref (He.fAd K ("is_standing", none))))),
  fun K => PySem.W.keepIn K (.ref (He.fAd K ("number_in", none))),
  fun K => decide (PySem.W.nsIn K mainGlobals "number_in" = some (some (.ref (He.fAd K ("number_in", none))))),
  fun K => PySem.W.keepIn K (.ref (He.fAd K ("read_standing", none))),
  fun K => decide (PySem.W.nsIn K mainGlobals "read_standing" = some (some (.ref (He.fAd K ("read_standing", none))))),
  fun K => PySem.W.keepIn K (.ref (He.fAd K ("Hall", some "__str__"))),
  fun K => decide (PySem.W.findIn K (.ref (He.ga K "Hall")) "__str__" = some (some (.ref (He.fAd K ("Hall", some "__str__"))))),
  fun K => PySem.W.isFn K (.ref (He.fAd K ("Hall", some "__str__"))),
  fun K => PySem.W.keepIn K (.ref (He.fAd K ("show_standing", none))),
  fun K => decide (PySem.W.nsIn K mainGlobals "show_standing" = some (some (.ref (He.fAd K ("show_standing", none))))),
  fun K => PySem.W.keepIn K (.ref (He.fAd K ("unpack_standing", none))),
  fun K => decide (PySem.W.nsIn K mainGlobals "unpack_standing" = some (some (.ref (He.fAd K ("unpack_standing", none))))),
  fun K => PySem.W.keepIn K (.ref (He.fAd K ("_law_right", none))),
  fun K => decide (PySem.W.nsIn K mainGlobals "_law_right" = some (some (.ref (He.fAd K ("_law_right", none))))),
  fun K => PySem.W.keepIn K (.ref (He.fAd K ("_law_take", none))),
  fun K => decide (PySem.W.nsIn K mainGlobals "_law_take" = some (some (.ref (He.fAd K ("_law_take", none))))),
  fun K => PySem.W.keepIn K (.ref (He.fAd K ("_law_sizes", none))),
  fun K => decide (PySem.W.nsIn K mainGlobals "_law_sizes" = some (some (.ref (He.fAd K ("_law_sizes", none))))),
  fun K => PySem.W.keepIn K (.ref (He.fAd K ("_law_seated", none))),
  fun K => decide (PySem.W.nsIn K mainGlobals "_law_seated" = some (some (.ref (He.fAd K ("_law_seated", none))))),
  fun K => PySem.W.keepIn K (.ref (He.fAd K ("_law_stands", none))),
  fun K => decide (PySem.W.nsIn K mainGlobals "_law_stands" = some (some (.ref (He.fAd K ("_law_stands", none))))),
  fun K => PySem.W.keepIn K (.ref (He.fAd K ("law", none))),
  fun K => decide (PySem.W.nsIn K mainGlobals "law" = some (some (.ref (He.fAd K ("law", none))))),
  fun K => decide (PySem.W.nsIn K mainGlobals "Hall" = some (some (.ref (He.ga K "Hall")))),
  fun K => PySem.W.plainGet K (He.ga K "Hall") Str.empty,
  fun K => PySem.W.hasDictIn K (He.ga K "Hall"),
  fun K => PySem.W.plainOver K (He.ga K "Hall"),
  fun K => decide (PySem.W.findIn K (.ref (He.ga K "Hall")) "__setattr__" = some (some (.builtin "object.__setattr__"))),
  fun K => decide (PySem.W.findIn K (.ref (He.ga K "Hall")) "__class__" = some (some (.builtin "object.__class__")))]
def zt : List (PySem.W.Frag → Bool) := [fun K => decide (PySem.W.specialIn K (.builtin "object.__class__") "__get__" = some (some (.builtin "getset_descriptor.__get__"))),
  fun K => decide (PySem.W.takesIn K (.builtin "object.__class__") = some true),
  fun K => decide (PySem.W.mroIn K (He.ga K "Hall") (.type "object") = some true),
  fun K => decide (PySem.W.findIn K (.ref (He.ga K "Hall")) "guests" = some none),
  fun K => decide (PySem.W.findIn K (.ref (He.ga K "Hall")) "spare" = some none),
  fun K => PySem.W.makesIn K (He.ga K "Hall"),
  fun K => PySem.W.keepIn K (.ref (He.ga K "Hall")),
  fun K => decide (PySem.W.findIn K (.ref (He.ga K "Hall")) "__format__" = some (some (.builtin "object.__format__"))),
  fun K => decide (PySem.W.findIn K (.ref (He.ga K "Hall")) "__ne__" = some (some (.builtin "object.__ne__"))),
  fun K => decide (PySem.W.findIn K (.ref (He.ga K "Hall")) "__bool__" = some none),
  fun K => decide (PySem.W.mroIn K (He.ga K "Hall") (.type "NoneType") = some false),
  fun K => decide (PySem.W.mroIn K (He.ga K "Hall") (.type "bool") = some false),
  fun K => decide (PySem.W.mroIn K (He.ga K "Hall") (.type "int") = some false),
  fun K => decide (PySem.W.mroIn K (He.ga K "Hall") (.type "str") = some false),
  fun K => decide (PySem.W.mroIn K (He.ga K "Hall") (.type "tuple") = some false),
  fun K => decide (PySem.W.mroIn K (He.ga K "Hall") (.type "list") = some false),
  fun K => decide (PySem.W.mroIn K (He.ga K "Hall") (.type "dict") = some false),
  fun K => decide (PySem.W.kitOne K (.type "NoneType") (.ref (He.ga K "Hall")) = some false),
  fun K => decide (PySem.W.kitOne K (.type "bool") (.ref (He.ga K "Hall")) = some false),
  fun K => decide (PySem.W.kitOne K (.type "int") (.ref (He.ga K "Hall")) = some false),
  fun K => decide (PySem.W.kitOne K (.type "str") (.ref (He.ga K "Hall")) = some false),
  fun K => decide (PySem.W.kitOne K (.type "bytes") (.ref (He.ga K "Hall")) = some false),
  fun K => decide (PySem.W.kitOne K (.type "tuple") (.ref (He.ga K "Hall")) = some false),
  fun K => decide (PySem.W.kitOne K (.type "list") (.ref (He.ga K "Hall")) = some false),
  fun K => decide (PySem.W.kitOne K (.type "dict") (.ref (He.ga K "Hall")) = some false),
  fun K => decide (PySem.W.kitOne K (.ref (He.ga K "Hall")) (.ref (He.ga K "Hall")) = some true),
  fun K => decide (PySem.W.kitOne K (.ref (He.ga K "Hall")) (.type "int") = some false),
  fun K => decide (PySem.W.kitOne K (.ref (He.ga K "Hall")) (.type "bool") = some false),
  fun K => decide (PySem.W.kitOne K (.ref (He.ga K "Hall")) (.type "tuple") = some false),
  fun K => decide (PySem.W.kitOne K (.ref (He.ga K "Hall")) (.type "str") = some false)]
def zr : List (PySem.W.Frag → Bool) := [fun K => decide (PySem.W.kitOne K (.ref (He.ga K "Hall")) (.type "list") = some false),
  fun K => decide (PySem.W.kitOne K (.ref (He.ga K "Hall")) (.type "bytes") = some false),
  fun K => decide (PySem.W.nsIn K mainGlobals "abs" = some none),
  fun K => decide (PySem.W.nsIn K mainGlobals "all" = some none),
  fun K => decide (PySem.W.nsIn K mainGlobals "bool" = some none),
  fun K => decide (PySem.W.nsIn K mainGlobals "bytes" = some none),
  fun K => decide (PySem.W.nsIn K mainGlobals "divmod" = some none),
  fun K => decide (PySem.W.nsIn K mainGlobals "enumerate" = some none),
  fun K => decide (PySem.W.nsIn K mainGlobals "int" = some none),
  fun K => decide (PySem.W.nsIn K mainGlobals "isinstance" = some none),
  fun K => decide (PySem.W.nsIn K mainGlobals "len" = some none),
  fun K => decide (PySem.W.nsIn K mainGlobals "list" = some none),
  fun K => decide (PySem.W.nsIn K mainGlobals "max" = some none),
  fun K => decide (PySem.W.nsIn K mainGlobals "min" = some none),
  fun K => decide (PySem.W.nsIn K mainGlobals "range" = some none),
  fun K => decide (PySem.W.nsIn K mainGlobals "repr" = some none),
  fun K => decide (PySem.W.nsIn K mainGlobals "set" = some none),
  fun K => decide (PySem.W.nsIn K mainGlobals "str" = some none),
  fun K => decide (PySem.W.nsIn K mainGlobals "sum" = some none),
  fun K => decide (PySem.W.nsIn K mainGlobals "tuple" = some none),
  fun K => decide (PySem.W.nsIn K mainGlobals "zip" = some none),
  fun K => DL.xn K "FIGURES" "0123456789",
  fun K => DL.rT K "MARK" 87,
  fun K => DL.rT K "MOST" 24,
  fun K => DL.rT K "ROUND" 251,
  fun K => DL.rT K "SPARE" 6]
def yB : List (PySem.W.Frag → Bool) := zv ++ zu ++ zt ++ zr
def vI : List Str := ["MOST", "SPARE", "MARK", "ROUND", "SeatError", "NoHall", "NoStanding", "NoText", "NoBytes", "is_whole", "Hall", "hall_of", "is_seat", "first_odd", "is_standing", "seated", "FIGURES", "show_standing", "number_in", "read_standing", "pack_standing", "unpack_standing", "_law_cell", "_law_pool", "_law_take", "_law_sizes", "_law_seated", "_law_text", "_law_row", "_law_stands"]
def vH : List Str := ["_law_right"]
def uh : List Str := vI ++ vH
abbrev rowH : PySem.W.OpenRow := PySem.W.OpenLaw.row PySem.Challenge.rw_waitseats_k06_texts_and_bytes
abbrev wF : Program := PySem.W.view rowH.prog [36]
abbrev hkH : PySem.W.Hook := wY 5 yB zE
def zB (s : PySem.W.SharedT) : wC := xZ 5 yB zE (HandSHeadRun.getT s)
theorem zz (w : World) : HandSHeadRun.RunEq rowH wF hkH zB 20000 uh w := by
  intro os
  kernel_rfl
end
end DLP
set_option maxHeartbeats 4000000
namespace DL
open PySem PySem.Spec PyProof.Rows L2
section
/-- the plain lemmas say nothing of tables -/
instance tbs0 : Tbs := ⟨[]⟩
end
section
mutual
def uO : D → Bool
  | .non => true | .bl _ => true | .int i => decide (-1000000000 < i ∧ i < 1000000000)
  | .tup xs => uV xs | .lst xs => uV xs
  | _ => false
def uV : List D → Bool
  | [] => true
  | x :: xs => uO x && uV xs
end
theorem qE {α : Type} {f : α → D} {l : List α} (h : ∀ a ∈ l, uO (f a) = true) : uV (l.map f) = true := by
  induction l with
  | nil => rfl
  | cons a l ih => show (uO (f a) && uV (l.map f)) = true; rw [h a (by simp), ih fun b hb => h b (List.mem_cons_of_mem _ hb)]; rfl
theorem nA {α : Type} {f : α → D} {n : Nat} {l : List α} (h : ∀ a ∈ l, (py (f a)).bulk ≤ n) : PyData.bulkAll (jW (l.map f)) ≤ (n + 1) * l.length := by
  induction l with
  | nil => show 0 ≤ _; exact Nat.zero_le _
  | cons a l ih =>
    have h1 := h a (by simp)
    have h2 := ih fun b hb => h b (List.mem_cons_of_mem _ hb)
    show (py (f a)).bulk + 1 + PyData.bulkAll (jW (l.map f)) ≤ (n + 1) * (l.length + 1)
    rw [Nat.mul_add]; omega
theorem mD {α : Type} {f : α → D} {n : Nat} {l : List α} (h : ∀ a ∈ l, (py (f a)).depth ≤ n) : PyData.depthAll (jW (l.map f)) ≤ n := by
  induction l with
  | nil => show 0 ≤ _; exact Nat.zero_le _
  | cons a l ih =>
    have h1 := h a (by simp)
    have h2 := ih fun b hb => h b (List.mem_cons_of_mem _ hb)
    show max (py (f a)).depth (PyData.depthAll (jW (l.map f))) ≤ n
    omega
/-- a row's measures: small, depth at most n, bulk at most b -/
structure Row (d : D) (n b : Nat) : Prop where
  sm : uO d = true
  dp : (py d).depth ≤ n
  bk : (py d).bulk ≤ b
theorem Row.int {i : Int} (h : -1000000000 < i ∧ i < 1000000000) : Row (.int i) 0 0 := ⟨decide_eq_true h, Nat.le_refl _, Nat.le_refl _⟩
theorem Row.non : Row .non 0 0 := ⟨rfl, Nat.le_refl _, Nat.le_refl _⟩
theorem Row.tup {α : Type} {f : α → D} {n b : Nat} {l : List α} (h : ∀ a ∈ l, Row (f a) n b) : Row (.tup (l.map f)) (n + 1) ((b + 1) * l.length) :=
  ⟨qE fun a ha => (h a ha).sm, Nat.succ_le_succ (mD fun a ha => (h a ha).dp), nA fun a ha => (h a ha).bk⟩
theorem Row.mono {d : D} {n b n' b' : Nat} (h : Row d n b) (h1 : n ≤ n') (h2 : b ≤ b') : Row d n' b' := ⟨h.sm, Nat.le_trans h.dp h1, Nat.le_trans h.bk h2⟩
theorem Row.lst {ds : List D} {n b : Nat} (h : ∀ d ∈ ds, Row d n b) : Row (.lst ds) (n + 1) ((b + 1) * ds.length) := by
  have e : ds.map id = ds := List.map_id ds
  refine ⟨?_, ?_, ?_⟩
  · show uV ds = true; rw [← e]; exact qE fun a ha => (h a ha).sm
  · show PyData.depthAll (jW ds) + 1 ≤ _; have := mD (f := id) (l := ds) fun a ha => (h a ha).dp; rw [e] at this; omega
  · show PyData.bulkAll (jW ds) ≤ _; have := nA (f := id) (l := ds) fun a ha => (h a ha).bk; rw [e] at this; exact this
end
section
end
section
end
section
end
end DL
namespace MW
abbrev Sd := List (Option Int)
def gk (st : Sd) (i : Int) : Option Int := if 0 ≤ i then (st[i.toNat]?).join else none
def hold (st : Sd) (x : Int) : Option Int := if (st.any fun o => o == some x) = true then some ((st.findIdx fun o => o == some x : Nat) : Int) else none
section
variable {g s : Int} {st : Sd}
def Ends (st : Sd) : Nat → Int → Prop
  | 0, x => hold st x = none
  | n + 1, x => match hold st x with
    | none => True
    | some h => Ends st n h
/-- loose: out, or nobody's -/
def xb (st : Sd) (x : Int) : Prop := gk st x = none
instance (st : Sd) (x : Int) : Decidable (xb st x) := by unfold xb; infer_instance
/-- back along a walk -/
def back (st : Sd) : Nat → Int → Int
  | 0, v => v
  | n + 1, v => match gk st v with
    | none => v
    | some w => back st n w
end
end MW
namespace DLP
open PySem PySem.Spec PyProof.Rows L2 DL MW
section
structure Pl where
  a : Int
  b : Int
  c : Int
def Pl.o (p : Pl) : O := .lst [.int p.a, .int p.b, .int p.c]
end
section
/-- one guest is seated -/
structure Step (l l' : List Int) (o : Option Int) : Prop where
  nd : l'.Nodup
  sub : ∀ i ∈ l', i ∈ l
  len : l.length ≤ l'.length + 1
  le : l'.length ≤ l.length
  out : ∀ i, o = some i → i ∈ l ∧ i ∉ l'
structure Good (n : Int) (l : List Int) (f : List (Option Int)) : Prop where
  nd : l.Nodup
  lb : ∀ i ∈ l, 0 ≤ i ∧ i < n
  fb : ∀ i, some i ∈ f → (0 ≤ i ∧ i < n) ∧ i ∉ l
  pw : f.Pairwise fun o p => o = none ∨ o ≠ p
theorem Good.step {n : Int} {l l' : List Int} {f : List (Option Int)} {o : Option Int} (h : Good n l f) (t : Step l l' o) : Good n l' (f ++ [o]) := by
  refine ⟨t.nd, fun i hi => h.lb i (t.sub i hi), fun i hi => ?_, ?_⟩
  · rcases List.mem_append.mp hi with hi | hi
    · exact ⟨(h.fb i hi).1, fun z => (h.fb i hi).2 (t.sub i z)⟩
    · have e : some i = o := by simpa using hi
      obtain ⟨a, b⟩ := t.out i e.symm
      exact ⟨h.lb i a, b⟩
  · rw [List.pairwise_append]
    refine ⟨h.pw, List.pairwise_singleton _ _, fun a ha b hb => ?_⟩
    have e : b = o := by simpa using hb
    subst e
    cases a with
    | none => exact .inl rfl
    | some i => exact .inr fun z => (h.fb i ha).2 (t.out i z.symm).1
end
end DLP
set_option maxHeartbeats 0
open PySem PySem.W PySem.Calls PyProof.Rows
set_option maxHeartbeats 4000000
namespace DLt
open PySem PySem.Spec PyProof.Rows L2
section
section
variable {X : Cx} {pins : List (Addr × Obj)} {σ : L2.St} {H : Hp} {s : Shared} {vs : List V} {us : List Value} {Q : VK}
theorem made (J : Inv X pins σ H s) (rv : Vals vs us) (sz : vs.length ≤ sizeLine) (nt : NewT vs H Q) : EP X pins σ Q (.ref s.heap.objs.size) { s with heap := s.heap.push { cls := .type "tuple", data := .seq us.toArray } } := by
  have none' : H s.heap.objs.size = none := J.hok.fresh (Nat.le_refl _)
  refine ⟨V.ref s.heap.objs.size, upd H s.heap.objs.size (.frz { cls := .type "tuple", data := .seq us.toArray } (.tup vs)), ?_, rfl, nt _ _ rfl none'⟩
  exact J.laid (t' := s.toks) (fun c oc ec => Heap.get?_push_of_some _ ec) (Nat.le_refl _) ⟨Heap.get?_push_size _ rfl, sz, us, rv, IsTup.new _ _⟩
/-- (a, b, ..) -/
def zF (t : TA) : TE := fun σ H Q => t σ H fun vs H1 => vs.length ≤ sizeLine ∧ NewT vs H1 Q
theorem pf_tup {t : TA} {es : List Expr} {k} {pos : Pos} (pa : PA X es t) : PE X (.Tuple es k pos) (zF t) := ⟨fun pins s σ H Q J hq =>
  wpAny_Tuple_spliced (thn (pa.run pos pins s σ H _ J hq) fun us s1 ⟨vs, H1, J1, rv, sz, nt⟩ => ⟨rv.length ▸ sz, made J1 rv sz nt⟩)⟩
/-- t + u -/
def fCat (K : PySem.W.Frag) : R2 := fun x y H Q => ∃ a b vs ws, x = .ref a ∧ y = .ref b ∧ SqT K H a vs ∧ SqT K H b ws ∧ vs.length + ws.length ≤ sizeLine ∧
  (vs = [] → Q (.ref b) H) ∧ (ws = [] → Q (.ref a) H) ∧ NewT (vs ++ ws) H Q
theorem op_catF : OpR X (binaryOp .Add) (fCat X.K) := by
  rintro pins s σ H x y v u Q J rx ry ⟨a, b, vs, ws, ex, ey, ta, tb, sz, ifl, ifr, nt⟩
  subst ex; subst ey
  cases rx; cases ry
  obtain ⟨us, r1, t1, _⟩ := J.tuple ta
  obtain ⟨us', r2, t2, _⟩ := J.tuple tb
  by_cases e1 : vs = []
  · subst e1
    cases r1
    exact cat_tup0 t1 t2 ⟨.ref b, H, J, rfl, ifl rfl⟩
  · have n1 : us ≠ [] := fun z => e1 (r1.nil_iff.mp z)
    refine HT.cat_tup t1 t2 n1 (fun z => ⟨.ref a, H, J, rfl, ifr (r2.nil_iff.mp z)⟩) (fun _ => made J (r1.append r2) (by rw [List.length_append]; exact sz) nt) ?_
    rw [← r1.length, ← r2.length]; exact sz
/-- t * k -/
def fRep (K : PySem.W.Frag) : R2 := fun x y H Q => ∃ a k vs, x = .ref a ∧ y = .int k ∧ SqT K H a vs ∧ vs ≠ [] ∧ 0 ≤ k ∧ k ≤ 2000 ∧ vs.length ≤ 1000 ∧ (k = 1 → Q (.ref a) H) ∧ NewT (List.replicate k.toNat vs).flatten H Q
theorem pL (l : Addr) (its : Array Value) (n : Nat) (dd : Option Addr) (sl : Array (Option Value)) (u : Tok) :
    Meets (Builtin.«tuple.__mul__» ⟨[.ref l, .int 1 u], []⟩) (fun _ R s => s.heap.get? l = some { cls := .type "tuple", dict := dd, data := .seq its n, slots := sl } ∧ R (.ok (.ret (Value.ref l))) s) :=
  .of_wp fun prog w A R s h => by
    obtain ⟨hp, g, d, tk, os⟩ := s
    obtain ⟨hl, h⟩ := h
    have f1 := AutoSeq1.idx_int
    wp_walk using wpAny_loadPart' hl
    exact ⟨_, rfl, h⟩
theorem pM (l : Addr) (its : Array Value) (n : Nat) (dd : Option Addr) (sl : Array (Option Value)) (u : Tok) (ne : its.isEmpty = false) :
    Meets (Builtin.«tuple.__mul__» ⟨[.ref l, .int 0 u], []⟩) (fun _ R s => s.heap.get? l = some { cls := .type "tuple", dict := dd, data := .seq its n, slots := sl } ∧
      R (.ok (.ret (Value.ref s.heap.objs.size))) { s with heap := s.heap.push { cls := Value.type "tuple", data := Data.seq #[] }, toks := s.toks }) :=
  .of_wp fun prog w A R s h => by
    obtain ⟨hp, g, d, tk, os⟩ := s
    obtain ⟨hl, h⟩ := h
    have f1 := AutoSeq1.idx_int
    have c1 : (its.isEmpty || (0 : Int) == 1) = false := by rw [ne]; rfl
    wp_walk using wpAny_loadPart' hl
    repeat (first
      | (refine wpAny_ite_false (decide_eq_false (by rw [c1]; exact Bool.false_ne_true)) ?_; wp_walk using wpAny_loadPart' hl))
    exact ⟨_, rfl, h⟩
theorem oO : ∀ (k : Nat) (us : List Value), (List.foldl (fun x1 x2 => x1 ++ x2) #[] (List.replicate k us.toArray)) = (List.replicate k us).flatten.toArray := fun k us => size_rep us k
theorem oN {vs : List V} {us : List Value} (rv : Vals vs us) : ∀ k : Nat, Vals (List.replicate k vs).flatten (List.replicate k us).flatten
  | 0 => .nil
  | k + 1 => by
    rw [List.replicate_succ, List.replicate_succ, List.flatten_cons, List.flatten_cons]
    exact rv.append (oN rv k)
theorem nM {α : Type} (vs : List α) : ∀ k : Nat, (List.replicate k vs).flatten.length = k * vs.length
  | 0 => by simp
  | k + 1 => by rw [List.replicate_succ, List.flatten_cons, List.length_append, nM vs k, Nat.add_mul, Nat.one_mul, Nat.add_comm]
theorem op_repF : OpR X (binaryOp .Mult) (fRep X.K) := by
  rintro pins s σ H x y v u Q J rx ry ⟨a, k, vs, ex, ey, ta, nn, k1, k2, sz, same, nt⟩
  subst ex; subst ey
  cases rx
  obtain ⟨tk, eu⟩ := ry
  subst eu
  obtain ⟨us, rv, ⟨⟨cl, dd, da, sl⟩, look, ec, n, ed⟩, _⟩ := J.tuple ta
  simp only at ec ed
  subst ec; subst ed
  have ln : us.length = vs.length := rv.length.symm
  have un : us ≠ [] := fun z => nn (rv.nil_iff.mp z)
  have kz : k.toNat * vs.length ≤ 2000 * 1000 := Nat.mul_le_mul (by omega) sz
  have fl : (List.replicate k.toNat us).flatten.length ≤ sizeLine := by rw [nM, ln, sizeLine_eq]; omega
  refine wpAny_binaryOp_repeat_ref (T := "tuple") (U := "int") (by decide) ⟨_, look, rfl⟩ (fun st => typeIs_int st k tk) noFill_tuple_mul F.fills_int_mul F.slot_int_rmul repeat_tuple F.slot_int_index.lookup
    (call_meets F.slot_int_rmul (typeIs_int s k tk) F.entry_int_rmul (F.args_int_rmul_2 _ _) (int_rmul_tuple k tk a us.toArray n dd sl)
      ⟨look, rfl, ⟨_, look, rfl⟩, ?_⟩)
  have ne : us.toArray.isEmpty = false := by
    cases us with
    | nil => exact absurd rfl un
    | cons _ _ => rfl
  by_cases e0 : k = 0
  · subst e0
    refine call_meets F.slot_tuple_mul ⟨_, look, rfl⟩ F.entry_tuple_mul (F.args_tuple_mul_2 _ _) (pM a us.toArray n dd sl tk ne) ⟨look, ?_⟩
    exact made (vs := []) (us := []) J .nil (Nat.zero_le _) nt
  by_cases e1 : k = 1
  · subst e1
    exact call_meets F.slot_tuple_mul ⟨_, look, rfl⟩ F.entry_tuple_mul (F.args_tuple_mul_2 _ _) (pL a us.toArray n dd sl tk) ⟨look, .ref a, H, J, rfl, same rfl⟩
  · have sz0 : us.toArray.size = vs.length := by rw [List.size_toArray, ln]
    have pr : ((us.toArray.size : Nat) : Int) * k ≤ 2000000 := by
      rw [sz0]
      have : ((vs.length : Nat) : Int) * k ≤ 1000 * k := Int.mul_le_mul_of_nonneg_right (by omega) (by omega)
      omega
    have b0 : (decide (k < -(2 ^ 63)) || decide (k ≥ 2 ^ 63)) = false := by
      rw [decide_eq_false (by omega), decide_eq_false (by omega)] <;> rfl
    have b1 : (us.toArray.isEmpty || k == 1) = false := by
      rw [ne, Bool.false_or]; exact beq_eq_false_iff_ne.mpr e1
    have b2 : (decide (k ≤ 0) || us.toArray.isEmpty) = false := by
      rw [ne, Bool.or_false]; exact decide_eq_false (by omega)
    have b4 : Builtin.Tuple.tupleTooMany (((us.toArray.size : Nat) : Int) * k) = false := by
      unfold Builtin.Tuple.tupleTooMany; rw [sizeLine_eq]; exact decide_eq_false (by omega)
    refine call_meets F.slot_tuple_mul ⟨_, look, rfl⟩ F.entry_tuple_mul (F.args_tuple_mul_2 _ _) (tuple_mulW a us.toArray n dd sl k tk b0 b1 b2 (by omega) b4 (by rw [oO, List.size_toArray]; exact fl)) ⟨look, ?_⟩
    rw [oO]
    exact made J (oN rv k.toNat) (by rw [nM, sizeLine_eq]; omega) nt
/-- t[a:b] -/
def fCut (K : PySem.W.Frag) : V → Option Int → Option Int → Hp → VK → Prop := fun x lo hi H Q => ∃ a vs, x = .ref a ∧ SqT K H a vs ∧
  (HT.sIx vs.length 0 lo = 0 ∧ HT.sIx vs.length vs.length hi = vs.length → Q (.ref a) H) ∧ NewT (cutV vs lo hi) H Q
theorem sl_tupF : SlR X (fCut X.K) := by
  rintro pins s σ H x v vl vu lo hi sl Q J rx hs pl pu ⟨a, vs, ex, ta, whole, nt⟩
  subst ex
  cases rx
  obtain ⟨us, rv, tp, sz⟩ := J.tuple ta
  have ln : us.toArray.size = vs.length := by rw [List.size_toArray]; exact rv.length.symm
  refine ⟨"tuple", _, PyProof.Rows.slot_tuple_getitem.lookup, tp.typeIs, ?_⟩
  by_cases all : HT.sIx vs.length 0 lo = 0 ∧ HT.sIx vs.length vs.length hi = vs.length
  · exact getItem_tuple_whole tp hs pl pu (by rw [ln]; exact all) ⟨.ref a, H, J, rfl, whole all⟩
  · refine HT.getItem_tuple_cut tp hs pl pu (by rw [ln]; exact all) ?_ (by rw [ln]; exact sz)
    rw [ln]
    exact made J ((rv.drop _).take _) (Nat.le_trans (cutV_length vs lo hi) sz) nt
/-- tuple(x) -/
def fOf (K : PySem.W.Frag) : List V → Hp → VK → Prop := fun xs H Q => ∃ p ys, xs = [.ref p] ∧ ((SqL K H p ys ∧ NewT ys H Q) ∨ (SqT K H p ys ∧ Q (.ref p) H))
theorem call_tupF : CallR X (.type "tuple") (fOf X.K) := by
  rintro pins s σ H xs us Q J r ⟨p, ys, ex, h⟩
  subst ex
  obtain ⟨u, eu, ru⟩ := vals1 r
  subst eu
  cases ru
  rcases h with ⟨sq, nt⟩ | ⟨sq, q⟩
  · obtain ⟨us, rv, pl, sz⟩ := J.list sq
    refine call_tuple_list pl.isList (fun h' hk => ?_) (by rw [List.size_toArray, ← rv.length]; exact sz)
    exact made (s := { s with heap := h' }) (J.kept (t' := s.toks) hk) rv sz nt
  · obtain ⟨us, _, t1, _⟩ := J.tuple sq
    exact call_tuple_same (items := us.toArray) t1 ⟨.ref p, H, J, rfl, q⟩
/-- tuple(range(..)) -/
def zM (te : L2.St → Hp → (Int → Int → Hp → Prop) → Prop) : TE := fun σ H Q => te σ H fun lo hi H1 => RgOk lo hi ∧ NewT (rgV lo hi) H1 Q
theorem pf_tupRg {e : Expr} {te : L2.St → Hp → (Int → Int → Hp → Prop) → Prop} {p pos : Pos} (calm : X.calm = true) (hg : Gl X "tuple") (hm : X.mg "tuple" = none) (he : PRg X e te) (na : starEach [e] X.env = (false, eval e X.env) :: starEach [] X.env := by rfl) :
    PE X (.Call (.Name "tuple" p) [e] [] pos) (zM te) := by
  refine ⟨fun pins s σ H Q J h => ?_⟩
  refine Call_ (ld_blt J hg hm boot_tuple (PyProof.Rows.callWith_type1 (PyProof.Rows.args_cons (thn (he pins s σ H _ J h) fun x s1 ⟨r, lo, hi, t, u, v, H1, ex, ir, J1, ⟨b1, b2, b3, b4, b5⟩, nt⟩ => PyProof.Rows.args_nil ?_) na) na))
  subst ex
  refine call_tuple_range (n := (hi - lo).toNat) (J1.ok.hd calm) ir (small_one b1 b2 b3 b4) (rangeSize_nat lo hi) b5 fun h' tk acc hk hi' => ?_
  have J2 : Inv X pins σ H1 { s1 with heap := h', toks := tk } := J1.kept hk
  have z := made J2 (vals_rg hi') (by rw [rgV_length, sizeLine_eq]; omega) nt
  rw [Array.toArray_toList] at z
  exact z
end
end
end DLt
namespace DLz
open PySem PySem.Spec PyProof.Rows L2
section
open HotX (chained)
theorem Zq.steady {cls : Value} {d : Option Addr} {c : Value} : PXN.Steady1 (Zq cls d c) := fun o v h => by
  refine ⟨⟨PXN.steady_cls o v h.1.1, PXN.steady_dict o v h.1.2⟩, fun ws e => ?_⟩
  obtain ⟨c1, d1, dt, sl⟩ := o
  cases dt with
  | fields ws0 =>
    have e2 : ws0.setIfInBounds 1 v = ws := Data.fields.inj e
    rw [← e2, show (ws0.setIfInBounds 1 v)[2]? = ws0[2]? from by
      first
      | exact Array.getElem?_setIfInBounds_ne (by decide)
      | simp [Array.getElem?_setIfInBounds]]
    exact h.2 ws0 rfl
  | _ => first | exact Data.noConfusion e | cases e
section
variable {X : Cx} {pins : List (Addr × Obj)} {σ : L2.St} {H : Hp} {sI s s' : Shared} {B : Heap} {W : WX} {E : XK}
theorem XE.of_call (I : Inv X pins σ H s) (hW : ∀ cls d H', E cls d H' → W cls d σ H') {u : Value} (x : CX X.prog X.w X.stack H s E u s') : XE X W u s' := by
  obtain ⟨a, c, B, H1, cls, d, ⟨rfl, ch, na, hE⟩, ⟨os, ag⟩, fl, hok, ub⟩ := x
  have stay : B.StaysIn s'.heap := fl.1
  -- the ground and the frames alone
  obtain ⟨T, t1, t2⟩ := restrict s'.heap fun b => (B.get? b).isSome || decide (b ∈ frs X.stack)
  have ground : ∀ b o, B.get? b = some o → T.get? b = some o := fun b o e => (t1 b (by simp [e])).trans (stay b o e)
  have frame : ∀ b, b ∈ frs X.stack → T.get? b = s'.heap.get? b := fun b hb => t1 b (by simp [hb])
  have back : ∀ b o, T.get? b = some o → s'.heap.get? b = some o ∧ (b ∈ frs X.stack ∨ B.get? b = some o) := fun b o e => by
    by_cases q : ((B.get? b).isSome || decide (b ∈ frs X.stack)) = true
    · rw [t1 b q] at e
      rcases (Bool.or_eq_true ..).mp q with q | q
      · obtain ⟨o2, e2⟩ := Option.isSome_iff_exists.mp q
        have e3 := stay b o2 e2
        rw [e] at e3
        cases e3
        exact ⟨e, .inr e2⟩
      · exact ⟨e, .inl (of_decide_eq_true q)⟩
    · rw [t2 b (by simpa using q)] at e
      cases e
  have J : Inv X pins σ H1 { s with heap := T, gens := s'.gens, drawn := s'.drawn, toks := s'.toks } := by
    refine I.call (ch := []) ⟨fun b o e n hb _ => ground b o (ub.keep b o e n hb), fun b o e _ hb _ => ?_, fun b o e n _ => ub.free b o e n, fun b o e _ => ?_, ub.tups, ub.frzs, ub.tbls⟩ (hok.kept ground) ag (fun _ z => nomatch z)
    · obtain ⟨sl, q⟩ := ub.slot b o e hb
      exact ⟨sl, (frame b hb).trans q⟩
    · by_cases hb : b ∈ frs X.stack
      · obtain ⟨sl, q⟩ := ub.slot b o e hb
        exact ⟨_, (frame b hb).trans q⟩
      · obtain ⟨o2, q⟩ := ub.there b o e hb
        exact ⟨o2, ground b o2 q⟩
  exact ⟨a, c, B, _, pins, σ, H1, cls, d, ⟨rfl, ch, na, hW _ _ _ hE⟩, J, ⟨os, ag⟩, fun b o e hb => (back b o e).2.resolve_left hb, Heap.UpToSlots.of_keeps fun b o e => (back b o e).1, .inr (.inl fl)⟩
theorem XE.leave (hs : X.stack = X.env :: X.outer) (hf : X.env.frame = some X.env.locals) (hex : X.ex = []) {E₁ : Value → Shared → Prop} (hW : ∀ cls d σ H, W cls d σ H → E cls d H) {u : Value} (x : XE X W u s') :
    wpAny (model X.prog X.w) X.A (leaving X.env u) (fun _ s2 => CX X.prog X.w X.outer X.H_0 X.s_0 E u s2) E₁ s' := by
  obtain ⟨a, c, B, sI, pins, σ, H, cls, d, ⟨rfl, ch, na, w⟩, I, ⟨os, ag⟩, nb, up, sky⟩ := x
  have frs0 : X.A.frames = some (X.env :: X.outer) := I.ok.frames.trans (congrArg some hs)
  have older : ∀ b o, X.s_0.heap.get? b = some o → b ∉ X.fs → b ∉ frs X.stack := fun b o e nf m =>
    (List.mem_cons.mp (I.stkSub b m)).elim (fun z => by
      have l1 := Heap.lt_size e
      have l2 := I.ok.above
      rw [z] at l1
      exact absurd (Nat.lt_of_lt_of_le l1 l2) (Nat.lt_irrefl _)) nf
  have noex : ∀ b, b ∉ X.ex := fun b m => by rw [hex] at m; cases m
  have land : ∀ h2, HandSPX.FlyingZ B X.outer a (Zq cls d c) h2 → s'.heap.UpToSlots h2 → CX X.prog X.w X.outer X.H_0 X.s_0 E (.ref a) { s' with heap := h2 } := fun h2 fl up2 => by
    refine ⟨a, c, B, H, cls, d, ⟨rfl, ch, na, hW _ _ _ _ w⟩, ⟨os.trans I.os, ag⟩, fl, I.inGround nb, ?_⟩
    refine ⟨fun b o e n nf => nb b o (I.base.keep b o e n nf (noex b)) (older b o e nf), fun b o e hb => ?_, fun b o e n => I.base.free b o e n (noex b), fun b o e nf => ?_, I.base.tups, I.base.frzs, I.base.tbls⟩
    · obtain ⟨_, o0, e0, plain⟩ := I.ok.funs.mem hb
      cases e.symm.trans e0
      obtain ⟨s1, g1⟩ := I.base.slot b o e (I.ok.frf b hb) hb (noex b)
      obtain ⟨s2, g2⟩ := up b _ g1 plain
      obtain ⟨s3, g3⟩ := up2 b _ g2 plain
      exact ⟨s3, g3⟩
    · obtain ⟨o1, g1⟩ := I.base.there b o e (noex b)
      exact ⟨o1, nb b o1 g1 (older b o e nf)⟩
  rw [hs] at sky
  rcases sky with ⟨st, n, ff, oe, vs, he, hz, hd, h1⟩ | fl | held
  · exact PXN.leaving_firstZ Zq.steady frs0 ff hf he st n hd h1 hz land
  · exact PXN.leaves_onZ Zq.steady frs0 hf fl land
  · exact HandSPX.leaves_heldZ hf held land
theorem takes_of (hs : X.stack = X.env :: X.outer) (hf : X.env.frame = some X.env.locals) (hex : X.ex = []) {E₁ : Value → Shared → Prop}
    (hx : X.xe = fun e s2 => wpAny (model X.prog X.w) X.A (leaving X.env e) (fun _ s3 => CX X.prog X.w X.outer X.H_0 X.s_0 E e s3) E₁ s2) : Takes X (fun cls d _ H => E cls d H) := fun u s2 x => by
  rw [hx]
  exact XE.leave (W := fun cls d _ H => E cls d H) (E := E) hs hf hex (fun _ _ _ _ h => h) x
end
theorem passAt {X : Cx} {W : WX} (tk : Takes X W) (σ : L2.St) : PassesAt (CX X.prog X.w) X σ (WE W σ) := fun _ _ _ e s1 I x => tk e s1 (XE.of_call I (fun _ _ _ z => z) x)
/-- from the one to the other by contexts -/
inductive Way (h : Heap) : Value → Value → Prop
  | here {v : Value} : Way h v v
  | on {b : Addr} {ob : Obj} {us : Array Value} {w v : Value} : h.get? b = some ob → ob.data = .fields us → us[2]? = some w → Way h w v → Way h (.ref b) v
theorem Way.more {h : Heap} {u : Value} {b : Addr} {ob : Obj} {us : Array Value} {v : Value} (x : Way h u (.ref b)) (e : h.get? b = some ob) (d : ob.data = .fields us) (q : us[2]? = some v) : Way h u v := by
  generalize er : Value.ref b = r at x
  induction x with
  | here => subst er; exact .on e d q .here
  | on e1 d1 q1 _ ih => exact .on e1 d1 q1 (ih er)
end
end DLz
namespace DL
open PySem PySem.Spec PyProof.Rows L2
section
theorem Nt.keep {H H' : Hp} {a : Addr} (kp : ∀ b o, H b = some o → H' b = some o) (n : Nt H a) : Nt H' a := by
  cases e : H a with
  | none => exact absurd e n.1
  | some o => exact Nt.of (kp a o e) fun ps z => n.2 ps (e.trans (congrArg some z))
variable [Tbs]
theorem Stp.refl {B F : Addr → Prop} {H : Hp} : Stp B F H F H := ⟨fun _ h => h, fun _ h => .inl h, fun _ _ _ h _ => h, fun _ _ h => h, fun t => t, fun _ _ _ h => h⟩
end
section
variable [Tbs]
/-- it owns something -/
def Slot.has : Slot → Bool
  | .ow _ => true
  | .io _ _ => true
  | .tr _ _ => true
  | _ => false
theorem vQ {s : Slot} (h : s.own = true) : s.has = true := by cases s <;> first | rfl | cases h
theorem iS {s : Slot} {x : Option (Option V)} {a : Addr} (h : s.feet x a) : s.has = true := by
  rcases h with ⟨k, _⟩ | ⟨_, _, e, _⟩
  · exact vQ k
  · subst e; rfl
def fV {α : Type} (p : Prop) (m : M α) : M α := fun env Q E => p ∧ m env Q E
def qw (G : Gx) : (Addr → Prop) → (Addr → Prop) → List Slot → L2.St → Hp → List D → List V → Prop := fun _ F _ _ H d v => RpL G F H d v
def RB : (Addr → Prop) → (Addr → Prop) → List Slot → L2.St → Hp → Bool → Bool → Prop := fun _ _ _ _ _ a b => a = b
abbrev tD (G : Gx) (W : WX) (m : M D) : TE := Lift G W (RD G) m
abbrev lh (G : Gx) (W : WX) (m : M Bool) : TT := Lift G W RB m
abbrev oF (G : Gx) (W : WX) (m : M (List D)) : TA := Lift G W (qw G) m
abbrev tO (G : Gx) (W : WX) (m : M O) : TE := Lift G W (RO G) m
section
variable {G : Gx} {W : WX} {B F : Addr → Prop} {σ : L2.St} {H : Hp} {env : List Slot} {α β γ δ : Type}
variable {R : (Addr → Prop) → (Addr → Prop) → List Slot → L2.St → Hp → γ → δ → Prop} {Ra : (Addr → Prop) → (Addr → Prop) → List Slot → L2.St → Hp → α → β → Prop} {Q : δ → Hp → Prop}
/-- a stage: what was had ahead (as, xs) is still had -/
theorem Pt.bind {ma : M α} {k : α → M γ} {as : List D} {xs : List V} (h : Pt G W R σ H Q (aq ma k) B F env) (hx : RpL G F H as xs) :
    Lift G W Ra ma σ H (fun y H' => ∃ F' env' b, Pt G W R σ H' Q (k b) B F' env' ∧ RpL G F' H' as xs ∧ Ra B F' env' σ H' b y) := by
  obtain ⟨Qd, Ed, rel, hm, hq, he⟩ := h
  refine ⟨B, F, env, fun a env' => k a env' Qd Ed, Ed, rel, hm, fun a env' b F' H' hk st rl hr => ?_, he⟩
  refine ⟨F', env', a, ⟨Qd, Ed, rl, hk, fun a2 env2 b2 F2 H2 q2 st2 rl2 r2 => hq a2 env2 b2 F2 H2 q2 (st.trans st2) rl2 r2, fun x env2 cls d F2 H2 q2 st2 rl2 r2 => he x env2 cls d F2 H2 q2 (st.trans st2) rl2 r2⟩, RpL.mono st as xs hx, hr⟩
theorem Pt.pure {c : γ} (h : Pt G W R σ H Q (ret c) B F env) {b : δ} (hr : R B F env σ H c b) : Q b H := by
  obtain ⟨Qd, Ed, rel, hm, hq, he⟩ := h
  exact hq c env b F H hm Stp.refl rel hr
theorem Pt.asked {p : Prop} {m : M γ} (h : Pt G W R σ H Q (fV p m) B F env) : p ∧ Pt G W R σ H Q m B F env := by
  obtain ⟨Qd, Ed, rel, ⟨hp, hm⟩, hq, he⟩ := h
  exact ⟨hp, Qd, Ed, rel, hm, hq, he⟩
theorem Rel.notF (rel : Rel G B F σ env H) {p : Addr} (hp : H p = none) : ¬ F p := fun h => (rel.hF p h).1 hp
theorem Rel.ownTab (rel : Rel G B F σ env H) {i : Nat} {a : Addr} (h : dM env σ i a) : ∀ ps, H a ≠ some (.tbl ps) := (rel.ownKind h).2.2.2.1
/-- a new list to be owned -/
theorem Pt.olst {ds : List D} {vs : List V} {p : Addr} {Q : V → Hp → Prop} (h : Pt G W (RO G) σ H Q (ret (.lst ds)) B F env) (hx : RpL G F H ds vs) (hp : H p = none) : Q (.ref p) (upd H p (.lst vs)) := by
  obtain ⟨Qd, Ed, rel, hm, hq, he⟩ := h
  exact hq _ env _ F _ hm (gC hp) (rel.new hp) ⟨p, rfl, rel.notF hp, rel.notB hp, ⟨vs, upd_same, RpL.mono (gC (B := B) hp) ds vs hx⟩, fun i h => (rel.ownSome h).1 hp⟩
theorem dN {X : Cx} {e : Expr} {t t' : TE} (h : PE X e t) (i : ∀ σ H Q, t' σ H Q → t σ H Q) : PE X e t' := ⟨fun pins s σ H Q I q => h.run pins s σ H Q I (i σ H Q q)⟩
theorem oP {X : Cx} {e : Expr} {t t' : TT} (h : PT X e t) (i : ∀ σ H Q, t' σ H Q → t σ H Q) : PT X e t' := ⟨fun pins s σ H Q I q => h.run pins s σ H Q I (i σ H Q q)⟩
theorem kN {X : Cx} {e : List Expr} {t t' : TA} (h : PA X e t) (i : ∀ σ H Q, t' σ H Q → t σ H Q) : PA X e t' := ⟨fun pos pins s σ H Q I q => h.run pos pins s σ H Q I (i σ H Q q)⟩
theorem iO {X : Cx} {st : Stmt} {t t' : TS} (h : PS X st t) (i : ∀ D σ H, t' D σ H → t D σ H) : PS X st t' := ⟨fun pins s σ H D I q => h.run pins s σ H D I (i D σ H q)⟩
theorem pW {X : Cx} {st : List Stmt} {t t' : TS} (h : PSs X st t) (i : ∀ D σ H, t' D σ H → t D σ H) : PSs X st t' := ⟨fun pins s σ H D I q => h.run pins s σ H D I (i D σ H q)⟩
theorem mU {X : Cx} {tg e : Expr} {t t' : TI} (h : PI X tg e t) (i : ∀ σ H Q, t' σ H Q → t σ H Q) : PI X tg e t' := ⟨fun pins s σ H Q I q => h.run pins s σ H Q I (i σ H Q q)⟩
end
end
section
variable [Tbs]
abbrev gx (X : Cx) (C : Addr) : Gx := ⟨C, X.mg, X.K, X.w, X.prog⟩
section
variable {G : Gx} {W : WX} {B F : Addr → Prop} {σ : L2.St} {H : Hp} {env : List Slot} {α β γ δ : Type}
variable {R : (Addr → Prop) → (Addr → Prop) → List Slot → L2.St → Hp → γ → δ → Prop} {Ra : (Addr → Prop) → (Addr → Prop) → List Slot → L2.St → Hp → α → β → Prop} {Q : δ → Hp → Prop}
theorem Pt.lift {m : M γ} (h : Pt G W R σ H Q m B F env) : Lift G W R m σ H Q := ⟨B, F, env, h⟩
/-- one operand -/
theorem dQ {ma : M α} {k : α → M γ} (h : Lift G W R (aq ma k) σ H Q) :
    Lift G W Ra ma σ H fun x H1 => ∃ B F env a, Pt G W R σ H1 Q (k a) B F env ∧ Ra B F env σ H1 a x := by
  obtain ⟨B, F, env, h⟩ := h
  exact (h.bind (Ra := Ra) (as := []) (xs := []) rfl).imp fun y H' ⟨F', env', b, p, _, r⟩ => ⟨B, F', env', b, p, r⟩
/-- two operands -/
theorem lZ {ma mb : M D} {k : D → D → M γ} (h : Lift G W R (aq ma fun a => aq mb fun b => k a b) σ H Q) :
    Lift G W (RD G) ma σ H fun x H1 => Lift G W (RD G) mb σ H1 fun y H2 => ∃ B F env a b, Pt G W R σ H2 Q (k a b) B F env ∧ Rp G F H2 a x ∧ Rp G F H2 b y := by
  obtain ⟨B, F, env, h⟩ := h
  refine (h.bind (Ra := RD G) (as := []) (xs := []) rfl).imp fun x H1 ⟨F1, env1, a, p1, _, r1⟩ => ?_
  refine (p1.bind (Ra := RD G) (as := [a]) (xs := [x]) ⟨x, [], rfl, r1, rfl⟩).imp fun y H2 ⟨F2, env2, b, p2, ⟨x', r, e, ra, _⟩, rb⟩ => ?_
  cases e
  exact ⟨B, F2, env2, a, b, p2, ra, rb⟩
theorem RpL.get : ∀ {ds : List D} {vs : List V} {i : Nat} {d : D}, RpL G F H ds vs → ds[i]? = some d → ∃ v, vs[i]? = some v ∧ Rp G F H d v
  | [], _, _, _, _, e => by simp at e
  | _ :: _, _, 0, _, ⟨v, r, e, h, _⟩, q => by subst e; simp at q; subst q; exact ⟨v, rfl, h⟩
  | _ :: _, _, i + 1, _, ⟨v, r, e, _, h⟩, q => by
    subst e
    obtain ⟨u, h1, h2⟩ := RpL.get (i := i) h (by simpa using q)
    exact ⟨u, by simpa using h1, h2⟩
theorem RpL.append : ∀ {ds es : List D} {vs us : List V}, RpL G F H ds vs → RpL G F H es us → RpL G F H (ds ++ es) (vs ++ us)
  | [], _, _, _, h, h' => by cases (show _ = _ from h); exact h'
  | _ :: _, _, _, _, ⟨v, r, e, h, t⟩, h' => by subst e; exact ⟨v, r ++ _, rfl, h, RpL.append t h'⟩
theorem RpL.take : ∀ {ds : List D} {vs : List V} (n : Nat), RpL G F H ds vs → RpL G F H (ds.take n) (vs.take n)
  | _, _, 0, _ => by rw [List.take_zero, List.take_zero]; exact rfl
  | [], _, n + 1, h => by cases (show _ = _ from h); exact rfl
  | _ :: _, _, n + 1, ⟨v, r, e, h, t⟩ => by subst e; exact ⟨v, _, rfl, h, RpL.take n t⟩
theorem RpL.snoc {ds : List D} {vs : List V} {d : D} {v : V} (h : RpL G F H ds vs) (q : Rp G F H d v) : RpL G F H (ds ++ [d]) (vs ++ [v]) := h.append ⟨v, [], rfl, q, rfl⟩
theorem RpL.eraseIdx : ∀ {ds : List D} {vs : List V} (n : Nat), RpL G F H ds vs → RpL G F H (ds.eraseIdx n) (vs.eraseIdx n)
  | [], _, _, h => by cases (show _ = _ from h); exact rfl
  | _ :: _, _, 0, ⟨u, r, e, h, t⟩ => by subst e; exact t
  | _ :: _, _, n + 1, ⟨u, r, e, h, t⟩ => by subst e; exact ⟨u, _, rfl, h, RpL.eraseIdx n t⟩
theorem RpL.ints : ∀ {ns : List Int} {vs : List V}, RpL G F H (ns.map D.int) vs ↔ vs = ns.map V.int
  | [], vs => Iff.rfl
  | n :: ns, vs => ⟨fun ⟨v, r, e, h, t⟩ => by subst e; rw [show v = V.int n from h, RpL.ints.mp t]; rfl, fun e => by subst e; exact ⟨_, _, rfl, rfl, RpL.ints.mpr rfl⟩⟩
theorem RpL.at {ds : List D} {vs : List V} {i : Int} {d : D} (h : RpL G F H ds vs) (e : atI ds i = some d) : ∃ v, atI vs i = some v ∧ Rp G F H d v := by
  unfold atI at e ⊢
  rw [← h.length]
  cases q : ixN ds.length i with
  | none => rw [q] at e; cases e
  | some j =>
    rw [q] at e
    exact h.get (i := j) e
def cy : D → D → M D
  | .int i, .int j => ret (.int (i + j))
  | .str s, .str t => fV (s.length + t.length ≤ sizeLine) (ret (.str (s ++ t)))
  | .tup a, .tup b => fV (a.length + b.length ≤ sizeLine) (ret (.tup (a ++ b)))
  | .lst a, .lst b => fV (a.length + b.length ≤ sizeLine) (ret (.lst (a ++ b)))
  | _, _ => fail
def cW : D → D → M D
  | .int i, .int j => ret (.int (i - j))
  | _, _ => fail
def cK : D → D → M D
  | .int i, .int j => fV (CMul i j) (ret (.int (i * j)))
  | .lst a, .int k => fV (-(2 ^ 63) ≤ k ∧ k < 2 ^ 63 ∧ a.length * k.toNat ≤ sizeLine) (ret (.lst (List.replicate k.toNat a).flatten))
  | .tup a, .int k => fV (a ≠ [] ∧ 0 ≤ k ∧ k ≤ 2000 ∧ a.length ≤ 1000) (ret (.tup (List.replicate k.toNat a).flatten))
  | _, _ => fail
def cJ : D → D → M D
  | .int i, .int j => fV (0 < j) (ret (.int (i % j)))
  | _, _ => fail
def bM : D → D → M D
  | .int i, .int j => fV (0 < j ∧ j < 1073741824) (ret (.int (i / j)))
  | _, _ => fail
def di : D → D → M D
  | .int i, .int j => fV (0 ≤ j ∧ j ≤ 1000000 ∧ i.natAbs < 2 ^ 64) (ret (.int (i ^ j.toNat)))
  | _, _ => fail
def fh : D → D → M D
  | .int i, .int j => ret (.bl (decide (i < j)))
  | _, _ => fail
def fB : D → D → M D
  | .int i, .int j => ret (.bl (decide (i ≤ j)))
  | _, _ => fail
def fD : D → D → M D
  | .int i, .int j => ret (.bl (decide (j < i)))
  | _, _ => fail
def fF : D → D → M D
  | .int i, .int j => ret (.bl (decide (j ≤ i)))
  | _, _ => fail
def aH : D → D → M D
  | .non, .non => ret (.bl true)
  | _, .non => ret (.bl false)
  | _, _ => fail
def aC : D → D → M D
  | .non, .non => ret (.bl false)
  | _, .non => ret (.bl true)
  | _, _ => fail
/-- an operator's rule fits its form over data -/
def Fits (G : Gx) (W : WX) (r : R2) (k : D → D → M D) : Prop := ∀ {σ : L2.St} {H : Hp} {Q : V → Hp → Prop} {B F : Addr → Prop} {env : List Slot} {x y : V} {a b : D},
  Pt G W (RD G) σ H Q (k a b) B F env → Rp G F H a x → Rp G F H b y → r x y H Q
theorem uq : Fits G W (rI0 fun i j => .int (i - j)) cW := by
  intro σ H Q B F env x y a b h ra rb
  cases a <;> cases b <;> first | exact h.no.elim | exact ⟨_, _, ra, rb, h.pure (b := .int _) rfl⟩
theorem n8 : Fits G W (rI0 fun i j => .bl (decide (i < j))) fh := by
  intro σ H Q B F env x y a b h ra rb
  cases a <;> cases b <;> first | exact h.no.elim | exact ⟨_, _, ra, rb, h.pure (b := .bl _) rfl⟩
theorem qX : Fits G W (rI0 fun i j => .bl (decide (i ≤ j))) fB := by
  intro σ H Q B F env x y a b h ra rb
  cases a <;> cases b <;> first | exact h.no.elim | exact ⟨_, _, ra, rb, h.pure (b := .bl _) rfl⟩
theorem qY : Fits G W (rI0 fun i j => .bl (decide (j < i))) fD := by
  intro σ H Q B F env x y a b h ra rb
  cases a <;> cases b <;> first | exact h.no.elim | exact ⟨_, _, ra, rb, h.pure (b := .bl _) rfl⟩
theorem vZ : Fits G W (rI0 fun i j => .bl (decide (j ≤ i))) fF := by
  intro σ H Q B F env x y a b h ra rb
  cases a <;> cases b <;> first | exact h.no.elim | exact ⟨_, _, ra, rb, h.pure (b := .bl _) rfl⟩
theorem ux : Fits G W (rI (fun _ j => 0 < j) fun i j => .int (i % j)) cJ := by
  intro σ H Q B F env x y a b h ra rb
  cases a <;> cases b <;> first | exact h.no.elim | exact ⟨_, _, ra, rb, h.asked.1, h.asked.2.pure (b := .int _) rfl⟩
theorem su : Fits G W (rI CDiv fun i j => .int (i / j)) bM := by
  intro σ H Q B F env x y a b h ra rb
  cases a <;> cases b <;> first | exact h.no.elim | exact ⟨_, _, ra, rb, h.asked.1, h.asked.2.pure (b := .int _) rfl⟩
theorem uu : Fits G W (rI CPow fun i j => .int (i ^ j.toNat)) di := by
  intro σ H Q B F env x y a b h ra rb
  cases a <;> cases b <;> first | exact h.no.elim | exact ⟨_, _, ra, rb, h.asked.1, h.asked.2.pure (b := .int _) rfl⟩
theorem Rp.non_iff {d : D} {v : V} (h : Rp G F H d v) : v = .non ↔ d = .non := by
  cases d with
  | non => exact ⟨fun _ => rfl, fun _ => h⟩
  | bl _ => cases (show _ = _ from h); exact ⟨fun z => (nomatch z), fun z => (nomatch z)⟩
  | int _ => cases (show _ = _ from h); exact ⟨fun z => (nomatch z), fun z => (nomatch z)⟩
  | str _ => cases (show _ = _ from h); exact ⟨fun z => (nomatch z), fun z => (nomatch z)⟩
  | byt _ => cases (show _ = _ from h); exact ⟨fun z => (nomatch z), fun z => (nomatch z)⟩
  | tup _ => obtain ⟨a, _, e, _⟩ := h; subst e; exact ⟨fun z => (nomatch z), fun z => (nomatch z)⟩
  | pr _ => obtain ⟨a, _, e, _⟩ := h; subst e; exact ⟨fun z => (nomatch z), fun z => (nomatch z)⟩
  | lst _ => obtain ⟨a, _, e, _⟩ := h; subst e; exact ⟨fun z => (nomatch z), fun z => (nomatch z)⟩
  | hall _ _ => obtain ⟨a, _, e, _⟩ := h; subst e; exact ⟨fun z => (nomatch z), fun z => (nomatch z)⟩
  | scr _ => obtain ⟨a, e, _⟩ := h; subst e; exact ⟨fun z => (nomatch z), fun z => (nomatch z)⟩
  | emp => obtain ⟨a, e, _⟩ := h; subst e; exact ⟨fun z => (nomatch z), fun z => (nomatch z)⟩
  | exn _ _ _ => obtain ⟨a, _, _, _, e, _⟩ := h; subst e; exact ⟨fun z => (nomatch z), fun z => (nomatch z)⟩
  | dct _ _ => obtain ⟨a, _, e, _⟩ := h; subst e; exact ⟨fun z => (nomatch z), fun z => (nomatch z)⟩
  | dcn _ _ => obtain ⟨a, _, _, e, _⟩ := h; subst e; exact ⟨fun z => (nomatch z), fun z => (nomatch z)⟩
  | fn _ => obtain ⟨a, e, _⟩ := h; subst e; exact ⟨fun z => (nomatch z), fun z => (nomatch z)⟩
theorem iC : Fits G W (fun x y H Q => y = .non ∧ Q (.bl (decide (x = .non))) H) aH := by
  intro σ H Q B F env x y a b h ra rb
  cases b with
  | non =>
    refine ⟨rb, ?_⟩
    by_cases e : a = .non
    · subst e
      rw [decide_eq_true (show x = .non from ra)]
      exact h.pure (b := .bl true) rfl
    · rw [decide_eq_false fun z => e (ra.non_iff.mp z)]
      cases a <;> first | exact absurd rfl e | exact h.pure (b := .bl false) rfl
  | _ => cases a <;> exact h.no.elim
theorem rY : Fits G W (fun x y H Q => y = .non ∧ Q (.bl (!decide (x = .non))) H) aC := by
  intro σ H Q B F env x y a b h ra rb
  cases b with
  | non =>
    refine ⟨rb, ?_⟩
    by_cases e : a = .non
    · subst e
      rw [decide_eq_true (show x = .non from ra)]
      exact h.pure (b := .bl false) rfl
    · rw [decide_eq_false fun z => e (ra.non_iff.mp z)]
      cases a <;> first | exact absurd rfl e | exact h.pure (b := .bl true) rfl
  | _ => cases a <;> exact h.no.elim
end
end
section
variable [Tbs]
/-- == of data -/
def eqv (a b : D) : Bool := PyData.eqv (py a) (py b)
def gj : D → Bool
  | .non => true | .bl _ => true | .int _ => true | .str _ => true
  | _ => false
section
variable {G : Gx} {W : WX} {B F : Addr → Prop} {σ : L2.St} {H : Hp} {env : List Slot} {α β γ δ : Type}
mutual
theorem nv : ∀ d : D, ig d = true → PyData.canLay0 (py d) = true
  | .non, _ => rfl
  | .bl _, _ => rfl
  | .int _, _ => rfl
  | .str _, h => h
  | .byt _, e => by cases e
  | .hall _ _, e => by cases e
  | .scr _, e => by cases e
  | .emp, e => by cases e
  | .exn _ _ _, e => by cases e
  | .pr _, e => by cases e
  | .dct _ _, e => by cases e
  | .fn _, e => by cases e
  | .dcn _ _, e => by cases e
  | .tup ds, h => by show PyData.canLayAll0 (jW ds) = true; exact jR ds (by simpa [ig] using h)
  | .lst ds, h => by show PyData.canLayAll0 (jW ds) = true; exact jR ds (by simpa [ig] using h)
theorem jR : ∀ ds : List D, iN ds = true → PyData.canLayAll0 (jW ds) = true
  | [], _ => rfl
  | d :: ds, h => by
    have q' : ig d = true ∧ iN ds = true := by simpa [iN] using h
    show (PyData.canLay0 (py d) && PyData.canLayAll0 (jW ds)) = true
    rw [nv d q'.1, jR ds q'.2]; rfl
end
/-- fit for ==: laid, not deeper than 64 -/
def gq (d : D) : Bool := ig d && decide ((py d).depth ≤ 64)
theorem jt {d : D} (h : gq d = true) : SeqAt.shaped (py d) = true := by
  have q : ig d = true ∧ (py d).depth ≤ 64 := by simpa [gq] using h
  unfold SeqAt.shaped
  rw [nv d q.1, decide_eq_true q.2]; rfl
theorem lG {d : D} (h : gq d = true) : ig d = true := by
  have q : ig d = true ∧ (py d).depth ≤ 64 := by simpa [gq] using h
  exact q.1
def lu (a b : D) : M D := match a, b with
  | .str s, .str t => ret (.bl (s == t))
  | a, b => fV (gq a = true ∧ gq b = true) (ret (.bl (eqv a b)))
def ki (a b : D) : M D := match a, b with
  | .str s, .str t => ret (.bl (!(s == t)))
  | a, b => fV (gq a = true ∧ gq b = true) (ret (.bl (!eqv a b)))
abbrev yW (K : PySem.W.Frag) : R2 := fun x y H Q => rEq x y H Q ∨ rEqD K x y H Q
abbrev yU (K : PySem.W.Frag) : R2 := fun x y H Q => rNe x y H Q ∨ rNeD K x y H Q
theorem iK {X : Cx} (hu : X.A.units + 64 < cLine) : OpR X (compareOp .Eq) (yW X.K) := op_eq.or (op_eqD hu)
theorem g6 {X : Cx} (hu : X.A.units + 64 < cLine) : OpR X (compareOp .NotEq) (yU X.K) := op_ne.or (op_neD hu)
theorem hO : Fits G W (yW G.K) lu := by
  intro σ H Q B F env x y a b h ra rb
  by_cases z : ∃ s t, a = .str s ∧ b = .str t
  · obtain ⟨s, t, e1, e2⟩ := z
    subst e1 e2
    cases (show _ = _ from ra); cases (show _ = _ from rb)
    exact .inl ⟨rfl, by rw [dec_str]; exact Pt.pure h (b := .bl _) rfl⟩
  · have e : lu a b = fV (gq a = true ∧ gq b = true) (ret (.bl (eqv a b))) := by
      unfold lu
      split
      · exact (z ⟨_, _, rfl, rfl⟩).elim
      · rfl
    rw [e] at h
    obtain ⟨⟨h1, h2⟩, h⟩ := h.asked
    exact .inr ⟨_, _, ra.dp (lG h1), rb.dp (lG h2), jt h1, jt h2, h.pure (b := .bl _) rfl⟩
theorem gp : Fits G W (yU G.K) ki := by
  intro σ H Q B F env x y a b h ra rb
  by_cases z : ∃ s t, a = .str s ∧ b = .str t
  · obtain ⟨s, t, e1, e2⟩ := z
    subst e1 e2
    cases (show _ = _ from ra); cases (show _ = _ from rb)
    exact .inl ⟨rfl, by rw [dec_str]; exact Pt.pure h (b := .bl _) rfl⟩
  · have e : ki a b = fV (gq a = true ∧ gq b = true) (ret (.bl (!eqv a b))) := by
      unfold ki
      split
      · exact (z ⟨_, _, rfl, rfl⟩).elim
      · rfl
    rw [e] at h
    obtain ⟨⟨h1, h2⟩, h⟩ := h.asked
    exact .inr ⟨_, _, ra.dp (lG h1), rb.dp (lG h2), jt h1, jt h2, h.pure (b := .bl _) rfl⟩
abbrev wQ (K : PySem.W.Frag) : R2 := fun x y H Q => (rI0 fun i j => .int (i + j)) x y H Q ∨ ((fun x y H Q => ∃ i j, x = .str i ∧ y = .str j ∧ i.length + j.length ≤ sizeLine ∧ Q (.str (i ++ j)) H) x y H Q ∨ (DLt.fCat K x y H Q ∨ rCat x y H Q))
theorem vp {X : Cx} : OpR X (binaryOp .Add) (wQ X.K) := op_add.or (op_add_str.or (DLt.op_catF.or op_cat))
theorem uz : Fits G W (wQ G.K) cy := by
  intro σ H Q B F env x y a b h ra rb
  cases a with
  | int i => cases b with
    | int j => exact .inl ⟨_, _, ra, rb, h.pure (b := .int _) rfl⟩
    | _ => exact h.no.elim
  | str s => cases b with
    | str t => exact .inr (.inl ⟨_, _, ra, rb, h.asked.1, h.asked.2.pure (b := .str _) rfl⟩)
    | _ => exact h.no.elim
  | tup as => cases b with
    | tup bs =>
      obtain ⟨p, vs, e, h1, h2⟩ := id ra
      obtain ⟨q, us, e', h1', h2'⟩ := id rb
      subst e; subst e'
      refine .inr (.inr (.inl ⟨p, q, vs, us, rfl, rfl, .inl h1.rd, .inl h1'.rd, by rw [← h2.length, ← h2'.length]; exact h.asked.1, fun z => ?_, fun z => ?_, ?_⟩))
      · subst z
        have z : as = [] := List.length_eq_zero_iff.mp h2.length
        subst z
        exact h.asked.2.pure rb
      · subst z
        have z : bs = [] := List.length_eq_zero_iff.mp h2'.length
        subst z
        exact h.asked.2.pure (by rw [List.append_nil]; exact ra)
      · exact h.asked.2.tup (h2.append h2')
    | _ => exact h.no.elim
  | lst as => cases b with
    | lst bs =>
      obtain ⟨p, vs, e, _, h1, h2⟩ := ra
      obtain ⟨q, us, e', _, h1', h2'⟩ := rb
      subst e; subst e'
      exact .inr (.inr (.inr ⟨p, q, vs, us, rfl, rfl, h1, h1', by rw [← h2.length, ← h2'.length]; exact h.asked.1, fun o ho => h.asked.2.lst (h2.append h2') ho⟩))
    | _ => exact h.no.elim
  | _ => cases b <;> exact h.no.elim
theorem RpL.rep {ds : List D} {vs : List V} (h : RpL G F H ds vs) : ∀ n : Nat, RpL G F H (List.replicate n ds).flatten (List.replicate n vs).flatten
  | 0 => rfl
  | n + 1 => by
    rw [List.replicate_succ, List.replicate_succ, List.flatten_cons, List.flatten_cons]
    exact h.append (RpL.rep h n)
abbrev wO (K : PySem.W.Frag) : R2 := fun x y H Q => (rI CMul fun i j => .int (i * j)) x y H Q ∨ (rRep x y H Q ∨ DLt.fRep K x y H Q)
theorem vo {X : Cx} : OpR X (binaryOp .Mult) (wO X.K) := op_mul.or (op_rep.or DLt.op_repF)
theorem uw : Fits G W (wO G.K) cK := by
  intro σ H Q B F env x y a b h ra rb
  cases a with
  | int i => cases b with
    | int j => exact .inl ⟨_, _, ra, rb, h.asked.1, h.asked.2.pure (b := .int _) rfl⟩
    | _ => exact h.no.elim
  | lst as => cases b with
    | int k =>
      obtain ⟨p, vs, e, _, h1, h2⟩ := ra
      subst e
      obtain ⟨⟨g1, g2, g3⟩, h⟩ := h.asked
      exact .inr (.inl ⟨p, k, vs, rfl, rb, h1, g1, g2, by rw [← h2.length]; exact g3, fun o ho => h.lst (h2.rep _) ho⟩)
    | _ => exact h.no.elim
  | tup as => cases b with
    | int k =>
      obtain ⟨p, vs, e, h1, h2⟩ := id ra
      subst e
      obtain ⟨⟨g0, g1, g2, g3⟩, h⟩ := h.asked
      refine .inr (.inr ⟨p, k, vs, rfl, rb, .inl h1.rd, fun z => ?_, g1, g2, by rw [← h2.length]; exact g3, fun z => ?_, h.tup (h2.rep _)⟩)
      · subst z
        have z := h2.length
        cases as with
        | nil => exact g0 rfl
        | cons _ _ => cases z
      · subst z
        exact h.pure (show Rp G F H _ _ by simpa using ra)
    | _ => exact h.no.elim
  | _ => cases b <;> exact h.no.elim
def zC (a b : D) : M D := match b with
  | .tup ds => fV (gj a = true ∧ ds.all gj = true) (ret (.bl (ds.any fun d => eqv d a)))
  | .lst ds => fV (gj a = true ∧ ds.all gj = true) (ret (.bl (ds.any fun d => eqv d a)))
  | _ => fail
def x5 (a b : D) : M D := match b with
  | .tup ds => fV (gj a = true ∧ ds.all gj = true) (ret (.bl (!ds.any fun d => eqv d a)))
  | .lst ds => fV (gj a = true ∧ ds.all gj = true) (ret (.bl (!ds.any fun d => eqv d a)))
  | _ => fail
theorem jy {d : D} {v : V} (h : Rp G F H d v) (f : gj d = true) : flatV v = true := by
  cases d <;> first | (cases (show _ = _ from h); rfl) | cases f
theorem iR : ∀ {ds : List D} {vs : List V}, RpL G F H ds vs → ds.all gj = true → vs.all flatV = true
  | [], _, h, _ => by cases (show _ = _ from h); rfl
  | d :: ds, _, ⟨v, r, e, h1, h2⟩, q => by
    subst e
    have q' : gj d = true ∧ ds.all gj = true := by simpa using q
    rw [List.all_cons, jy h1 q'.1, iR h2 q'.2]; rfl
theorem uC {d e : D} {v u : V} (h : Rp G F H d v) (h' : Rp G F H e u) (f : gj d = true) (f' : gj e = true) : eqV v u = eqv d e := by
  cases d <;> first
    | exact (Bool.false_ne_true f).elim
    | (cases (show _ = _ from h)
       cases e <;> first
         | exact (Bool.false_ne_true f').elim
         | (cases (show _ = _ from h'); rfl))
theorem i6 {e : D} {u : V} (h' : Rp G F H e u) (f' : gj e = true) : ∀ {ds : List D} {vs : List V}, RpL G F H ds vs → ds.all gj = true → inV u vs = ds.any fun d => eqv d e
  | [], _, h, _ => by cases (show _ = _ from h); rfl
  | d :: ds, _, ⟨v, r, z, h1, h2⟩, q => by
    subst z
    have q' : gj d = true ∧ ds.all gj = true := by simpa using q
    show (eqV v u || inV u r) = _
    rw [List.any_cons, uC h1 h' q'.1 f', i6 h' f' h2 q'.2]
theorem vY : Fits G W (rIn G.K false) zC := by
  intro σ H Q B F env x y a b h ra rb
  cases b with
  | tup ds =>
    obtain ⟨p, vs, e, h1, h2⟩ := rb
    subst e
    obtain ⟨⟨g1, g2⟩, h⟩ := Pt.asked h
    refine ⟨p, vs, rfl, .inr (.inl h1.rd), jy ra g1, iR h2 g2, ?_⟩
    exact h.pure (b := .bl _) (by rw [if_neg Bool.false_ne_true, i6 ra g1 h2 g2]; rfl)
  | lst ds =>
    obtain ⟨p, vs, e, _, h1, h2⟩ := rb
    subst e
    obtain ⟨⟨g1, g2⟩, h⟩ := Pt.asked h
    refine ⟨p, vs, rfl, .inl (SqL.of h1), jy ra g1, iR h2 g2, ?_⟩
    exact h.pure (b := .bl _) (by rw [if_neg Bool.false_ne_true, i6 ra g1 h2 g2]; rfl)
  | _ => exact (Pt.no h).elim
theorem uv : Fits G W (rIn G.K true) x5 := by
  intro σ H Q B F env x y a b h ra rb
  cases b with
  | tup ds =>
    obtain ⟨p, vs, e, h1, h2⟩ := rb
    subst e
    obtain ⟨⟨g1, g2⟩, h⟩ := Pt.asked h
    refine ⟨p, vs, rfl, .inr (.inl h1.rd), jy ra g1, iR h2 g2, ?_⟩
    exact h.pure (b := .bl _) (by rw [if_pos rfl, i6 ra g1 h2 g2]; rfl)
  | lst ds =>
    obtain ⟨p, vs, e, _, h1, h2⟩ := rb
    subst e
    obtain ⟨⟨g1, g2⟩, h⟩ := Pt.asked h
    refine ⟨p, vs, rfl, .inl (SqL.of h1), jy ra g1, iR h2 g2, ?_⟩
    exact h.pure (b := .bl _) (by rw [if_pos rfl, i6 ra g1 h2 g2]; rfl)
  | _ => exact (Pt.no h).elim
def jI (a b : D) : M D := match a, b with
  | .tup ds, .int i => match atI ds i with
    | some d => ret d
    | none => fail
  | .lst ds, .int i => match atI ds i with
    | some d => ret d
    | none => fail
  | .scr ns, .int i => match atI ns i with
    | some d => ret (.int d)
    | none => fail
  | .str s, .int i => match atI s.cps.toList i with
    | some c => fV (s.length ≤ sizeLine) (ret (.str ⟨#[c]⟩))
    | none => fail
  | _, _ => fail
theorem wz {α β : Type} {f : α → β} {xs : List α} {i : Int} {a : α} (h : atI xs i = some a) : atI (xs.map f) i = some (f a) := by
  unfold atI at h ⊢
  rw [List.length_map]
  cases q : ixN xs.length i with
  | none => rw [q] at h; cases h
  | some j =>
    rw [q] at h
    have h' : xs[j]? = some a := h
    show (xs.map f)[j]? = _
    rw [List.getElem?_map, h']; rfl
theorem qF {ns : List Int} {v : V} (h : Rp G F H (.scr ns) v) : ∃ a, v = .ref a ∧ SqL G.K H a (ns.map V.int) := by
  obtain ⟨a, e, h⟩ := h
  exact ⟨a, e, h.elim (fun q => .inl q.2) fun q => q H⟩
theorem vX : Fits G W (rIx G.K) jI := by
  intro σ H Q B F env x y a b h ra rb
  cases b with
  | int i =>
    cases a with
    | tup ds =>
      obtain ⟨p, vs, e, h1, h2⟩ := ra
      subst e
      cases q : atI ds i with
      | none => exact (Pt.no (by simpa only [jI, q] using h)).elim
      | some d =>
        obtain ⟨v, hv, rv⟩ := h2.at q
        have h' : Pt G W (RD G) σ H Q (ret d) B F env := by simpa only [jI, q] using h
        exact .inr (.inl ⟨p, vs, i, v, rfl, rb, .inl h1.rd, hv, h'.pure rv⟩)
    | lst ds =>
      obtain ⟨p, vs, e, _, h1, h2⟩ := ra
      subst e
      cases q : atI ds i with
      | none => exact (Pt.no (by simpa only [jI, q] using h)).elim
      | some d =>
        obtain ⟨v, hv, rv⟩ := h2.at q
        have h' : Pt G W (RD G) σ H Q (ret d) B F env := by simpa only [jI, q] using h
        exact .inl ⟨p, vs, i, v, rfl, rb, SqL.of h1, hv, h'.pure rv⟩
    | scr ns =>
      obtain ⟨p, e, h1⟩ := qF ra
      subst e
      cases q : atI ns i with
      | none => exact (Pt.no (by simpa only [jI, q] using h)).elim
      | some d =>
        have h' : Pt G W (RD G) σ H Q (ret (.int d)) B F env := by simpa only [jI, q] using h
        exact .inl ⟨p, _, i, .int d, rfl, rb, h1, wz q, h'.pure (b := .int d) rfl⟩
    | str s =>
      cases q : atI s.cps.toList i with
      | none => exact (Pt.no (by simpa only [jI, q] using h)).elim
      | some c =>
        have h' : Pt G W (RD G) σ H Q (fV (s.length ≤ sizeLine) (ret (.str ⟨#[c]⟩))) B F env := by simpa only [jI, q] using h
        exact .inr (.inr ⟨s, i, c, ra, rb, h'.asked.1, q, h'.asked.2.pure (b := .str _) rfl⟩)
    | _ => exact (Pt.no h).elim
  | _ => cases a <;> exact (Pt.no h).elim
end
end
section
variable [Tbs]
def cA {γ : Type} (ma mb : M D) (k : D → D → M γ) : M γ := aq ma fun a => aq mb fun b => k a b
def dP : D → M Bool
  | .bl b => ret b
  | _ => fail
def RQ {α : Type} : (Addr → Prop) → (Addr → Prop) → List Slot → L2.St → Hp → α → α → Prop := fun _ _ _ _ _ a b => a = b
abbrev tQ {α : Type} (G : Gx) (W : WX) (m : M α) : L2.St → Hp → (α → Hp → Prop) → Prop := Lift G W RQ m
section
variable {G : Gx} {W : WX} {B F : Addr → Prop} {σ : L2.St} {H : Hp} {env : List Slot} {α β γ δ : Type}
variable {R : (Addr → Prop) → (Addr → Prop) → List Slot → L2.St → Hp → γ → δ → Prop} {Ra : (Addr → Prop) → (Addr → Prop) → List Slot → L2.St → Hp → α → β → Prop} {Q : δ → Hp → Prop}
theorem Pt.bindP {ma : M α} {k : α → M γ} {as : List D} {xs : List V} (h : Pt G W R σ H Q (aq ma k) B F env) (hx : RpL G F H as xs) :
    Pt G W Ra σ H (fun y H' => ∃ F' env' b, Pt G W R σ H' Q (k b) B F' env' ∧ RpL G F' H' as xs ∧ Ra B F' env' σ H' b y) ma B F env := by
  obtain ⟨Qd, Ed, rel, hm, hq, he⟩ := h
  refine ⟨fun a env' => k a env' Qd Ed, Ed, rel, hm, fun a env' b F' H' hk st rl hr => ?_, he⟩
  refine ⟨F', env', a, ⟨Qd, Ed, rl, hk, fun a2 env2 b2 F2 H2 q2 st2 rl2 r2 => hq a2 env2 b2 F2 H2 q2 (st.trans st2) rl2 r2, fun x env2 cls d F2 H2 q2 st2 rl2 r2 => he x env2 cls d F2 H2 q2 (st.trans st2) rl2 r2⟩, RpL.mono st as xs hx, hr⟩
/-- a bool handed on -/
theorem Pt.asb {m : M D} {Q : Bool → Hp → Prop} (h : Pt G W RB σ H Q (aq m dP) B F env) : Pt G W (RD G) σ H (fun z H' => ∃ c, z = .bl c ∧ Q c H') m B F env := by
  refine (h.bindP (Ra := RD G) (as := []) (xs := []) rfl).imp fun y H' ⟨F', env', d, p, _, r⟩ => ?_
  cases d with
  | bl c => exact ⟨c, r, p.pure rfl⟩
  | _ => exact (Pt.no p).elim
end
theorem Pt.known {G : Gx} {W : WX} {B F : Addr → Prop} {σ : L2.St} {H : Hp} {env : List Slot} {γ δ : Type} {R : (Addr → Prop) → (Addr → Prop) → List Slot → L2.St → Hp → γ → δ → Prop} {Q : δ → Hp → Prop} {q : Bool} {k : Bool → M γ}
    (h : Pt G W R σ H Q (aq (dP (.bl q)) k) B F env) : Pt G W R σ H Q (k q) B F env := h
theorem Pt.unknown {G : Gx} {W : WX} {B F : Addr → Prop} {σ : L2.St} {H : Hp} {env : List Slot} {α γ δ : Type} {R : (Addr → Prop) → (Addr → Prop) → List Slot → L2.St → Hp → γ → δ → Prop} {Q : δ → Hp → Prop} {k : α → M γ}
    (h : Pt G W R σ H Q (aq fail k) B F env) : False := by
  obtain ⟨Qd, Ed, rel, hm, hq, he⟩ := h
  exact hm
section
variable {X : Cx} {C : Addr} {W : WX} {a b c : Expr} {es : List Expr} {ma mb mc : M D} {ms : M (List D)} {pos : Pos} {mt mu : M Bool} {rest : List Expr}
def ai (i : Nat) : M D := fun env Q _ => match env[i]? with
  | some (.im d) => Q d env
  | _ => False
theorem ah {i : Nat} {e : Expr} (h : PE X e (tVar i)) : PE X e (tD (gx X C) W (ai i)) := dN h fun σ H Q ⟨B, F, env, Qd, Ed, rel, hm, hq, he⟩ => by
  unfold ai at hm
  cases q : env[i]? with
  | none => rw [q] at hm; exact hm.elim
  | some s =>
    rw [q] at hm
    cases s with
    | im d =>
      obtain ⟨v, h1, h2⟩ := rel.sl i _ q
      exact ⟨v, h1, hq d env v F H hm Stp.refl rel h2⟩
    | _ => exact hm.elim
theorem aY {i : Int} {j p} : PE X (.Constant (.int i) j p) (tD (gx X C) W (ret (.int i))) := dN pe_int fun σ H Q ⟨B, F, env, h⟩ => h.pure (b := .int i) rfl
theorem oa {i : Bool} {j p} : PE X (.Constant (.bool i) j p) (tD (gx X C) W (ret (.bl i))) := dN pe_bl fun σ H Q ⟨B, F, env, h⟩ => h.pure (b := .bl i) rfl
theorem gG {i : Str} {j p} : PE X (.Constant (.str i) j p) (tD (gx X C) W (ret (.str i))) := dN pe_str fun σ H Q ⟨B, F, env, h⟩ => h.pure (b := .str i) rfl
theorem iV {j p} : PE X (.Constant .none j p) (tD (gx X C) W (ret .non)) := dN pe_non fun σ H Q ⟨B, F, env, h⟩ => h.pure (b := .non) rfl
/-- a module's constant -/
theorem yq {x : Str} {d : D} {v : V} {e : Expr} (h : PE X e (tC v)) (r : ∀ F H, Rp (gx X C) F H d v) : PE X e (tD (gx X C) W (ret d)) := dN h fun σ H Q ⟨B, F, env, h⟩ => h.pure (b := v) (r F H)
theorem sy {op : Operator} {r : R2} {k : D → D → M D} (ho : OpR X (binaryOp op) r) (hk : Fits (gx X C) W r k) (ha : PE X a (tD (gx X C) W ma)) (hb : PE X b (tD (gx X C) W mb)) :
    PE X (.BinOp a op b pos) (tD (gx X C) W (cA ma mb k)) := dN (pe_op ho ha hb) fun σ H Q h =>
  (lZ h).imp fun x H1 h1 => h1.imp fun y H2 ⟨B, F, env, d, e, p, r1, r2⟩ => hk p r1 r2
theorem fZ (ha : PE X a (tD (gx X C) W ma)) (hb : PE X b (tD (gx X C) W mb)) : PE X (.BinOp a .Add b pos) (tD (gx X C) W (cA ma mb cy)) := sy vp uz ha hb
theorem q8 (ha : PE X a (tD (gx X C) W ma)) (hb : PE X b (tD (gx X C) W mb)) : PE X (.BinOp a .Sub b pos) (tD (gx X C) W (cA ma mb cW)) := sy op_sub uq ha hb
theorem kX (ha : PE X a (tD (gx X C) W ma)) (hb : PE X b (tD (gx X C) W mb)) : PE X (.BinOp a .Mult b pos) (tD (gx X C) W (cA ma mb cK)) := sy vo uw ha hb
theorem j8 (ha : PE X a (tD (gx X C) W ma)) (hb : PE X b (tD (gx X C) W mb)) : PE X (.BinOp a .Mod b pos) (tD (gx X C) W (cA ma mb cJ)) := sy op_mod ux ha hb
theorem yt (ha : PE X a (tD (gx X C) W ma)) (hb : PE X b (tD (gx X C) W mb)) : PE X (.BinOp a .FloorDiv b pos) (tD (gx X C) W (cA ma mb bM)) := sy op_fdiv su ha hb
theorem zp (ha : PE X a (tD (gx X C) W ma)) (hb : PE X b (tD (gx X C) W mb)) : PE X (.BinOp a .Pow b pos) (tD (gx X C) W (cA ma mb di)) := sy op_pow uu ha hb
theorem q9 {op : CmpOp} {r : R2} {k : D → D → M D} (ho : OpR X (compareOp op) r) (hk : Fits (gx X C) W r k) (ha : PE X a (tD (gx X C) W ma)) (hb : PE X b (tD (gx X C) W mb)) (hm : behindInMarks op b = false) :
    PE X (.Compare a [op] [b] pos) (tD (gx X C) W (cA ma mb k)) := dN (pe_cmpR ho ha hb hm) fun σ H Q h =>
  (lZ h).imp fun x H1 h1 => h1.imp fun y H2 ⟨B, F, env, d, e, p, r1, r2⟩ => hk p r1 r2
theorem d8 {op : CmpOp} {r : R2} {k : D → D → M D} (ho : OpR X (compareOp op) r) (hk : Fits (gx X C) W r k) (ha : PE X a (tD (gx X C) W ma)) (hb : PE X b (tD (gx X C) W mb)) (hm : behindInMarks op b = false) :
    PT X (.Compare a [op] [b] pos) (lh (gx X C) W (cA ma mb fun x y => aq (k x y) dP)) := oP (pt_cmpR ho ha hb hm) fun σ H Q h =>
  (lZ h).imp fun x H1 h1 => h1.imp fun y H2 ⟨B, F, env, d, e, p, r1, r2⟩ => hk p.asb r1 r2
/-- a < b < c -/
def fG (k k' : D → D → M D) (ma mb mc : M D) : M D := aq ma fun a => aq mb fun b => aq (k a b) fun z => match z with
  | .bl true => aq mc fun c => k' b c
  | .bl false => ret (.bl false)
  | _ => fail
theorem wg {op op' : CmpOp} {r r' : R2} {k k' : D → D → M D} (ho : OpR X (compareOp op) r) (ho' : OpR X (compareOp op') r') (hk : Fits (gx X C) W r k) (hk' : Fits (gx X C) W r' k')
    (ha : PE X a (tD (gx X C) W ma)) (hb : PE X b (tD (gx X C) W mb)) (hc : PE X c (tD (gx X C) W mc)) (hm : lastMarks [op, op'] [b, c] = false := by with_unfolding_all rfl) :
    PE X (.Compare a [op, op'] [b, c] pos) (tD (gx X C) W (fG k k' ma mb mc)) := dN (pe_chain ho ho' ha hb hc hm) fun σ H Q h =>
  (lZ (k := fun a b => aq (k a b) fun z => match z with
    | .bl true => aq mc fun c => k' b c
    | .bl false => ret (.bl false)
    | _ => fail) h).imp fun x H1 h1 => h1.imp fun y H2 ⟨B, F, env, d, e, p, r1, r2⟩ => by
    refine hk ((p.bindP (Ra := RD (gx X C)) (as := [e]) (xs := [y]) ⟨y, [], rfl, r2, rfl⟩).imp fun z H3 ⟨F3, env3, g, p3, ⟨y', rr, ee, re, _⟩, rz⟩ => ?_) r1 r2
    cases ee
    cases g with
    | bl q =>
      refine ⟨q, rz, ?_⟩
      cases q with
      | true =>
        rw [if_pos rfl]
        refine (p3.bind (Ra := RD (gx X C)) (as := [e]) (xs := [y]) ⟨y, [], rfl, re, rfl⟩).imp fun w' H4 ⟨F4, env4, u, p4, ⟨y', rr, ee, re, _⟩, ru⟩ => ?_
        cases ee
        exact hk' p4 re ru
      | false =>
        rw [if_neg Bool.false_ne_true]
        exact p3.pure (b := .bl false) rfl
    | _ => exact (Pt.no p3).elim
def cB : D → M Bool
  | .non => ret false
  | .bl b => ret b
  | .int i => ret (i != 0)
  | .str s => fV (s.length ≤ sizeLine) (ret ((s.length : Int) != 0))
  | .tup ds => ret (!ds.isEmpty)
  | .lst ds => ret (!ds.isEmpty)
  | .scr ns => ret (!ns.isEmpty)
  | _ => fail
theorem mx {G : Gx} {F : Addr → Prop} {H : Hp} {ds : List D} {vs : List V} (h : RpL G F H ds vs) : vs.isEmpty = ds.isEmpty := by
  cases ds with
  | nil => cases (show _ = _ from h); rfl
  | cons d ds => obtain ⟨v, r, e, _⟩ := h; subst e; rfl
theorem gJ (ha : PE X a (tD (gx X C) W ma)) (he : ∀ whole, isTrue a X.env whole = (do let v ← whole; standAt a.pos; holding [v] (truthy v)) := by intro _; rfl) : PT X a (lh (gx X C) W (aq ma cB)) :=
  oP (pt_truth ha he) fun σ H Q h => (dQ (Ra := RD (gx X C)) h).imp fun x H1 ⟨B, F, env, d, p, r⟩ => by
    cases d with
    | non => cases (show _ = _ from r); exact ⟨false, rfl, p.pure rfl⟩
    | bl q => cases (show _ = _ from r); exact ⟨q, rfl, p.pure rfl⟩
    | int i => cases (show _ = _ from r); exact ⟨_, rfl, p.pure rfl⟩
    | str s => cases (show _ = _ from r); exact ⟨_, ⟨(Pt.asked p).1, rfl⟩, (Pt.asked p).2.pure rfl⟩
    | byt _ => exact (Pt.no p).elim
    | hall _ _ => exact (Pt.no p).elim
    | emp => exact (Pt.no p).elim
    | exn _ _ _ => exact (Pt.no p).elim
    | dct _ _ => exact (Pt.no p).elim
    | dcn _ _ => exact (Pt.no p).elim
    | fn _ => exact (Pt.no p).elim
    | pr _ => exact (Pt.no p).elim
    | tup ds => obtain ⟨q, vs, e, h1, h2⟩ := r; subst e; exact ⟨_, .inr (.inl ⟨vs, .inl h1.rd, rfl⟩), p.pure (by rw [mx h2]; rfl)⟩
    | lst ds => obtain ⟨q, vs, e, _, h1, h2⟩ := r; subst e; exact ⟨_, .inl ⟨vs, SqL.of h1, rfl⟩, p.pure (by rw [mx h2]; rfl)⟩
    | scr ns => obtain ⟨q, e, h1⟩ := qF r; subst e; exact ⟨_, .inl ⟨_, h1, rfl⟩, p.pure (by rw [List.isEmpty_map]; rfl)⟩
def cV (t u : M Bool) : M Bool := aq t fun c => if c = true then u else ret false
def eG (t u : M Bool) : M Bool := aq t fun c => if c = true then ret true else u
theorem nE (ha : PT X a (lh (gx X C) W mt)) : PW X (.BoolOp .And [a] pos) (lh (gx X C) W mt) := pw_and1 ha
theorem jf (ha : PT X a (lh (gx X C) W mt)) : PW X (.BoolOp .Or [a] pos) (lh (gx X C) W mt) := pw_or1 ha
theorem wR {X : Cx} {e : Expr} {t t' : TT} (h : PW X e t) (i : ∀ σ H Q, t' σ H Q → t σ H Q) : PW X e t' := ⟨fun wh pins s σ H Q I q => h.run wh pins s σ H Q I (i σ H Q q)⟩
theorem w_and (ha : PT X a (lh (gx X C) W mt)) (hb : PW X (.BoolOp .And (b :: rest) pos) (lh (gx X C) W mu)) : PW X (.BoolOp .And (a :: b :: rest) pos) (lh (gx X C) W (cV mt mu)) :=
  wR (pw_and ha hb) fun σ H Q h => (dQ (Ra := RB) h).imp fun q H1 ⟨B, F, env, d, p, r⟩ => by
    cases (show d = q from r)
    cases q with
    | true => rw [if_pos rfl] at p ⊢; exact p.lift
    | false => rw [if_neg Bool.false_ne_true] at p ⊢; exact p.pure rfl
theorem w_or (ha : PT X a (lh (gx X C) W mt)) (hb : PW X (.BoolOp .Or (b :: rest) pos) (lh (gx X C) W mu)) : PW X (.BoolOp .Or (a :: b :: rest) pos) (lh (gx X C) W (eG mt mu)) :=
  wR (pw_or ha hb) fun σ H Q h => (dQ (Ra := RB) h).imp fun q H1 ⟨B, F, env, d, p, r⟩ => by
    cases (show d = q from r)
    cases q with
    | true => rw [if_pos rfl] at p ⊢; exact p.pure rfl
    | false => rw [if_neg Bool.false_ne_true] at p ⊢; exact p.lift
theorem gK (ha : PT X a (lh (gx X C) W mt)) : PT X (.UnaryOp .Not a pos) (lh (gx X C) W (notB mt)) :=
  oP (pt_not ha) fun σ H Q h => (dQ (Ra := RB) h).imp fun q H1 ⟨B, F, env, d, p, r⟩ => by
    cases (show d = q from r)
    exact p.pure rfl
def dh (ma mb : M D) : M D := aq ma fun a => aq (dP a) fun c => if c = true then mb else ret (.bl false)
def dw (ma : M D) : M D := aq ma fun a => aq (dP a) fun c => ret (.bl (!c))
theorem w6 {op} (h : PE X a (tD (gx X C) W ma)) : PE X (.BoolOp op [a] pos) (tD (gx X C) W ma) := pe_one h
theorem uH (ha : PE X a (tD (gx X C) W ma)) (hb : PE X (.BoolOp .And (b :: rest) pos) (tD (gx X C) W mb)) : PE X (.BoolOp .And (a :: b :: rest) pos) (tD (gx X C) W (dh ma mb)) :=
  dN (pe_and ha hb) fun σ H Q h => (dQ (Ra := RD (gx X C)) h).imp fun x H1 ⟨B, F, env, d, p, r⟩ => by
    cases d with
    | bl q =>
      refine ⟨q, r, ?_⟩
      have p := p.known
      cases q with
      | true => rw [if_pos rfl] at p ⊢; exact p.lift
      | false => rw [if_neg Bool.false_ne_true] at p ⊢; exact p.pure (b := .bl false) rfl
    | _ => exact (Pt.unknown p).elim
theorem zq (ha : PE X a (tD (gx X C) W ma)) : PE X (.UnaryOp .Not a pos) (tD (gx X C) W (dw ma)) :=
  dN (pe_not ha) fun σ H Q h => (dQ (Ra := RD (gx X C)) h).imp fun x H1 ⟨B, F, env, d, p, r⟩ => by
    cases d with
    | bl q => exact ⟨q, r, p.known.pure (b := .bl !q) rfl⟩
    | _ => exact (Pt.unknown p).elim
def dY {γ : Type} (t : M Bool) (u v : M γ) : M γ := aq t fun c => if c = true then u else v
theorem pH (hc : PT X c (lh (gx X C) W mt)) (ha : PE X a (tD (gx X C) W ma)) (hb : PE X b (tD (gx X C) W mb)) : PE X (.IfExp c a b pos) (tD (gx X C) W (dY mt ma mb)) :=
  dN (pe_ifExp hc ha hb) fun σ H Q h => (dQ (Ra := RB) h).imp fun q H1 ⟨B, F, env, d, p, r⟩ => by
    cases (show d = q from r)
    cases q with
    | true => rw [if_pos rfl] at p ⊢; exact p.lift
    | false => rw [if_neg Bool.false_ne_true] at p ⊢; exact p.lift
def ak (m : M D) (ms : M (List D)) : M (List D) := aq m fun d => aq ms fun ds => ret (d :: ds)
theorem cC : PA X [] (oF (gx X C) W (ret [])) := kN pa_nil fun σ H Q ⟨B, F, env, h⟩ => h.pure rfl
theorem aG (ha : PE X a (tD (gx X C) W ma)) (hr : PA X es (oF (gx X C) W ms)) (hs : starEach (a :: es) X.env = (false, eval a X.env) :: starEach es X.env := by rfl) : PA X (a :: es) (oF (gx X C) W (ak ma ms)) :=
  kN (pa_cons ha hr hs) fun σ H Q h => (dQ (Ra := RD (gx X C)) h).imp fun x H1 ⟨B, F, env, d, p, r⟩ =>
    (p.bind (Ra := qw (gx X C)) (as := [d]) (xs := [x]) ⟨x, [], rfl, r, rfl⟩).imp fun xs H2 ⟨F2, env2, ds, p2, ⟨x', r', e, rd, _⟩, rs⟩ => by
      cases e
      exact p2.pure ⟨x, xs, rfl, rd, rs⟩
def cI (ms : M (List D)) : M D := aq ms fun ds => fV (ds.length ≤ sizeLine) (ret (.tup ds))
def lstM (ms : M (List D)) : M D := aq ms fun ds => fV (ds.length ≤ sizeLine) (ret (.lst ds))
def bK (ms : M (List D)) : M O := aq ms fun ds => fV (ds.length ≤ sizeLine) (ret (.lst ds))
theorem jn {x1} (h : PA X es (oF (gx X C) W ms)) : PE X (.Tuple es x1 pos) (tD (gx X C) W (cI ms)) :=
  dN (DLt.pf_tup h) fun σ H Q h => (dQ (Ra := qw (gx X C)) h).imp fun xs H1 ⟨B, F, env, ds, p, r⟩ => ⟨by rw [← RpL.length r]; exact p.asked.1, p.asked.2.tup r⟩
theorem je (h : PA X es (oF (gx X C) W ms)) : PE X (.List es pos) (tD (gx X C) W (lstM ms)) :=
  dN (pe_lst h) fun σ H Q h => (dQ (Ra := qw (gx X C)) h).imp fun xs H1 ⟨B, F, env, ds, p, r⟩ => ⟨by rw [← RpL.length r]; exact p.asked.1, fun q hq => p.asked.2.lst r hq⟩
theorem wV (h : PA X es (oF (gx X C) W ms)) : PE X (.List es pos) (tO (gx X C) W (bK ms)) :=
  dN (pe_lst h) fun σ H Q h => (dQ (Ra := qw (gx X C)) h).imp fun xs H1 ⟨B, F, env, ds, p, r⟩ => ⟨by rw [← RpL.length r]; exact p.asked.1, fun q hq => p.asked.2.olst r hq⟩
theorem j9 (ha : PE X a (tD (gx X C) W ma)) (hb : PE X b (tD (gx X C) W mb)) (hs : PlainIx b := by exact fun _ _ => rfl) : PE X (.Subscript a b pos) (tD (gx X C) W (cA ma mb jI)) :=
  dN (pe_ix ix_seq ha hb hs) fun σ H Q h => (lZ h).imp fun x H1 h1 => h1.imp fun y H2 ⟨B, F, env, d, e, p, r1, r2⟩ => vX p r1 r2
def kg {α : Type} (xs : List α) (lo hi : Option Int) : List α := (xs.drop (HT.sIx xs.length 0 lo)).take (HT.sIx xs.length xs.length hi - HT.sIx xs.length 0 lo)
def fj (d : D) (lo hi : Option Int) : M D := match d with
  | .tup ds => ret (.tup (kg ds lo hi))
  | .lst ds => ret (.lst (kg ds lo hi))
  | .scr ns => ret (.lst ((kg ns lo hi).map .int))
  | .str s => fV (s.length ≤ sizeLine) (ret (.str (cutS s lo hi)))
  | _ => fail
def bz (m : M D) : M (Option Int) := aq m fun d => match d with
  | .int i => ret (some i)
  | _ => fail
theorem wU {X : Cx} {e : Option Expr} {t t' : TO} (h : PO X e t) (i : ∀ σ H Q, t' σ H Q → t σ H Q) : PO X e t' := ⟨fun pins s σ H Q I q => h.run pins s σ H Q I (i σ H Q q)⟩
theorem pY : PO X none (tQ (gx X C) W (ret none)) := wU po_none fun σ H Q ⟨B, F, env, h⟩ => h.pure rfl
theorem lT (ha : PE X a (tD (gx X C) W ma)) : PO X (some a) (tQ (gx X C) W (bz ma)) := wU (po_some ha) fun σ H Q h => (dQ (Ra := RD (gx X C)) h).imp fun x H1 ⟨B, F, env, d, p, r⟩ => by
  cases d with
  | int i => exact ⟨i, r, p.pure rfl⟩
  | _ => exact (Pt.no p).elim
theorem rg {G : Gx} {F : Addr → Prop} {H : Hp} {ds : List D} {vs : List V} (h : RpL G F H ds vs) (lo hi : Option Int) : RpL G F H (kg ds lo hi) (cutV vs lo hi) := by
  unfold kg cutV
  rw [h.length]
  exact (h.drop _).take _
theorem wo {α : Type} {xs : List α} {lo hi : Option Int} (h : HT.sIx xs.length 0 lo = 0 ∧ HT.sIx xs.length xs.length hi = xs.length) : kg xs lo hi = xs := by
  unfold kg
  rw [h.1, h.2]
  simp
abbrev zA (K : PySem.W.Frag) : V → Option Int → Option Int → Hp → VK → Prop := fun x lo hi H Q => DLt.fCut K x lo hi H Q ∨ (rSlL K x lo hi H Q ∨ rSlS x lo hi H Q)
theorem zo {lo hi : Option Expr} {mlo mhi : M (Option Int)} {p2 : Pos} (ha : PE X a (tD (gx X C) W ma)) (hl : PO X lo (tQ (gx X C) W mlo)) (hh : PO X hi (tQ (gx X C) W mhi)) :
    PE X (.Subscript a (.Slice lo hi none p2) pos) (tD (gx X C) W (aq ma fun d => aq mlo fun l => aq mhi fun h => fj d l h)) :=
  dN (pe_slice (r := zA X.K) (DLt.sl_tupF.or (sl_list.or sl_str)) ha hl hh) fun σ H Q h => (dQ (Ra := RD (gx X C)) h).imp fun x H1 ⟨B, F, env, d, p, r⟩ =>
    (p.bind (Ra := RQ) (as := [d]) (xs := [x]) ⟨x, [], rfl, r, rfl⟩).imp fun l H2 ⟨F2, env2, l', p2, rd, e⟩ => by
      cases (show l' = l from e)
      refine (p2.bind (Ra := RQ) (as := [d]) (xs := [x]) rd).imp fun u H3 ⟨F3, env3, u', p3, ⟨x', r', e', rd, _⟩, e⟩ => ?_
      cases (show u' = u from e)
      cases e'
      cases d with
      | tup ds =>
        obtain ⟨q, vs, e, h1, h2⟩ := id rd
        subst e
        refine .inl ⟨q, vs, rfl, .inl h1.rd, fun z => ?_, Pt.tup (ds := kg ds l u) p3 (rg h2 l u)⟩
        rw [← h2.length] at z
        exact Pt.pure (c := D.tup (kg ds l u)) p3 (by rw [wo z]; exact rd)
      | lst ds =>
        obtain ⟨q, vs, e, _, h1, h2⟩ := rd
        subst e
        exact .inr (.inl ⟨q, vs, rfl, SqL.of h1, fun o ho => Pt.lst (ds := kg ds l u) p3 (rg h2 l u) ho⟩)
      | scr ns =>
        obtain ⟨q, e, h1⟩ := qF rd
        subst e
        refine .inr (.inl ⟨q, _, rfl, h1, fun o ho => Pt.lst (ds := (kg ns l u).map .int) p3 (RpL.ints.mpr ?_) ho⟩)
        unfold kg cutV
        rw [List.length_map, List.map_take, List.map_drop]
      | str s => exact .inr (.inr ⟨s, rd, (Pt.asked p3).1, (Pt.asked p3).2.pure (b := .str _) rfl⟩)
      | _ => exact (Pt.no p3).elim
end
end
section
variable [Tbs]
def setI (i : Nat) (d : D) : M Unit := fun env Q _ => match env[i]? with
  | some (.io _ _) => False
  | some _ => Q () (env.set i (.im d))
  | none => False
def setO (i : Nat) (o : O) : M Unit := fun env Q _ => match env[i]? with
  | some (.io _ _) => False
  | some _ => Q () (env.set i (.ow o))
  | none => False
def aN {α : Type} (m : M α) : M Fl := aq m fun _ => ret .nx
/-- what the owned object in slot i holds -/
def getO (i : Nat) : M O := fun env Q _ => match env[i]? with
  | some (.ow o) => Q o env
  | some (.io _ o) => Q o env
  | _ => False
def putO (i : Nat) (o : O) : M Unit := fun env Q _ => match env[i]? with
  | some (.ow _) => Q () (env.set i (.ow o))
  | some (.io a _) => Q () (env.set i (.io a o))
  | _ => False
section
variable {G : Gx} {W : WX} {B F : Addr → Prop} {σ : L2.St} {H : Hp} {env : List Slot} {α β γ δ : Type}
theorem mB {s : Slot} {v : V} {a : Addr} (h : s.feet (some (some v)) a) (k : s.own = true) : v = .ref a := by
  rcases h with ⟨_, e⟩ | ⟨_, _, e, _⟩
  · exact Option.some.inj (Option.some.inj e)
  · subst e; cases k
/-- slot i gets a datum -/
theorem Rel.setI (rel : Rel G B F σ env H) {i : Nat} {d : D} {v : V} (r : Rp G F H d v) : Rel G B F (σ.set i (some v)) (env.set i (.im d)) H := by
  refine ⟨by rw [List.length_set, List.length_set]; exact rel.len, fun j s e => ?_, fun j k a h1 h2 => ?_, rel.hB, rel.hF, rel.tb⟩
  · by_cases hj : j = i
    · subst hj
      have hlt : j < env.length := by
        have := (List.getElem?_eq_some_iff.mp e).1
        rw [List.length_set] at this; exact this
      rw [List.getElem?_set_self hlt] at e
      cases e
      rw [List.getElem?_set_self (by rw [← rel.len]; exact hlt)]
      exact ⟨v, rfl, r⟩
    · rw [List.getElem?_set_ne (Ne.symm hj)] at e ⊢
      exact rel.sl j s e
  · rcases eL rel.len h1 with ⟨_, z⟩ | ⟨_, h1⟩
    · exact (jB z).elim
    · rcases eL rel.len h2 with ⟨_, z⟩ | ⟨_, h2⟩
      · exact (jB z).elim
      · exact rel.ap j k a h1 h2
/-- slot i gets a new object -/
theorem Rel.setO (rel : Rel G B F σ env H) {i : Nat} {o : O} {a : Addr} (hF : ¬ F a) (hB : ¬ B a) (ho : OwAt G F H a o) (hn : ∀ j, ¬ dM env σ j a) : Rel G B F (σ.set i (some (.ref a))) (env.set i (.ow o)) H := by
  refine ⟨by rw [List.length_set, List.length_set]; exact rel.len, fun j s e => ?_, fun j k b h1 h2 => ?_, rel.hB, rel.hF, rel.tb⟩
  · by_cases hj : j = i
    · subst hj
      have hlt : j < env.length := by
        have := (List.getElem?_eq_some_iff.mp e).1
        rw [List.length_set] at this; exact this
      rw [List.getElem?_set_self hlt] at e
      cases e
      rw [List.getElem?_set_self (by rw [← rel.len]; exact hlt)]
      exact ⟨a, rfl, hF, hB, ho⟩
    · rw [List.getElem?_set_ne (Ne.symm hj)] at e ⊢
      exact rel.sl j s e
  · rcases eL rel.len h1 with ⟨e1, z⟩ | ⟨n1, h1⟩
    · rcases eL rel.len h2 with ⟨e2, z'⟩ | ⟨_, h2⟩
      · rw [e1, e2]
      · cases mB z rfl
        exact (hn k h2).elim
    · rcases eL rel.len h2 with ⟨_, z⟩ | ⟨_, h2⟩
      · cases mB z rfl
        exact (hn j h1).elim
      · exact rel.ap j k b h1 h2
/-- the owned object in slot i: where it stands -/
theorem Rel.owned (rel : Rel G B F σ env H) {i : Nat} {o : O} (h : env[i]? = some (.ow o) ∨ ∃ b, env[i]? = some (.io b o)) : ∃ a, σ[i]? = some (some (.ref a)) ∧ ¬ F a ∧ ¬ B a ∧ OwAt G F H a o ∧ OwnR env σ i a := by
  rcases h with h | ⟨b, h⟩
  · obtain ⟨a, h1, h2, h3, h4⟩ := rel.sl i _ h
    exact ⟨a, h1, h2, h3, h4, ⟨_, h, rfl⟩, h1⟩
  · obtain ⟨h1, h2, h3, h4⟩ := rel.sl i _ h
    exact ⟨b, h1, h2, h3, h4, ⟨_, h, rfl⟩, h1⟩
/-- the owned object at a is written: a tracked tuple, the frozen, the others' objects stay -/
theorem jr {a : Addr} {u : HO} (hF : ¬ F a) (hB : ¬ B a) (ht : (∀ vs, ¬ Rd H a (.tup vs)) ∧ ∀ o v, H a ≠ some (.frz o v)) (nt : ∀ ps, H a ≠ some (.tbl ps)) (nc : ∀ q, H a ≠ some (LamX.CodeO a q)) : Stp B F H F (upd H a u) where
  tb := fun t => t.own nt nc
  fm := fun _ h => h
  fn := fun _ h => .inl h
  hk0 := fun b o h e _ => by rw [upd_ne fun z => by subst z; exact h.elim hB hF]; exact e
  ht := fun b vs h => by
    have ne : b ≠ a := fun z => by subst z; exact ht.1 vs h
    exact h.imp (fun q => by rw [upd_ne ne]; exact q) fun ⟨o, q⟩ => ⟨o, by rw [upd_ne ne]; exact q⟩
  fz := fun b o v e => by rw [upd_ne fun z => by subst z; exact ht.2 o v e]; exact e
theorem OwAt.nofrz {a : Addr} : ∀ {o : O}, OwAt G F H a o → ∀ ob v, H a ≠ Option.some (HO.frz ob v)
  | .lst ds, ⟨us, h1, _⟩, ob, v => by rw [h1]; exact fun z => nomatch z
  | .set S n, h1, ob, v => by rw [show H a = _ from h1]; exact fun z => by have h2 := Option.some.inj z; cases h2
  | .dic kvs, ⟨us, h1, _⟩, ob, v => by rw [h1]; exact fun z => by have h2 := Option.some.inj z; cases h2
  | .dcn kvs, ⟨us, _, h1, _⟩, ob, v => by rw [h1]; exact fun z => by have h2 := Option.some.inj z; cases h2
  | .ins C fs, ⟨dx, us, h1, _⟩, ob, v => by rw [h1]; exact fun z => by have h2 := Option.some.inj z; cases h2
theorem OwAt.notup0 {a : Addr} : ∀ {o : O}, OwAt G F H a o → ∀ vs, ¬ Rd H a (.tup vs)
  | .lst ds, ⟨us, h1, _⟩, vs, h => by rcases h with h | ⟨o, h⟩ <;> (rw [h1] at h; cases h)
  | .set S n, h1, vs, h => by rcases h with h | ⟨o, h⟩ <;> (rw [show H a = _ from h1] at h; cases h)
  | .dic kvs, ⟨us, h1, _⟩, vs, h => by rcases h with h | ⟨o, h⟩ <;> (rw [h1] at h; cases h)
  | .dcn kvs, ⟨us, _, h1, _⟩, vs, h => by rcases h with h | ⟨o, h⟩ <;> (rw [h1] at h; have h2 := Option.some.inj h; cases h2)
  | .ins C fs, ⟨dx, us, h1, _⟩, vs, h => by rcases h with h | ⟨o, h⟩ <;> (rw [h1] at h; cases h)
theorem OwAt.notup {a : Addr} {o : O} (h : OwAt G F H a o) : (∀ vs, ¬ Rd H a (.tup vs)) ∧ ∀ ob v, H a ≠ Option.some (HO.frz ob v) := ⟨h.notup0, h.nofrz⟩
def putS (env : List Slot) (i : Nat) (o : O) : List Slot := match env[i]? with
  | some (.ow _) => env.set i (.ow o)
  | some (.io a _) => env.set i (.io a o)
  | _ => env
theorem jA {s : Slot} {x : Option (Option V)} {b : Addr} (h : s.feet x b) (k : ∀ r ns, s ≠ .tr r ns) : s.own = true ∧ x = some (some (.ref b)) := by
  rcases h with h | ⟨r, ns, e, _⟩
  · exact h
  · exact (k r ns e).elim
theorem vm {i : Nat} {o : O} {m : Nat} {b : Addr} (w : dM (putS env i o) σ m b) : dM env σ m b := by
  unfold putS at w
  cases q : env[i]? with
  | none => rw [q] at w; exact w
  | some s0 =>
    rw [q] at w
    cases s0 with
    | ow _ => exact lA (s1 := .ow o) (fun b h => .inl ⟨⟨_, q, rfl⟩, (jA h fun _ _ z => nomatch z).2⟩) w
    | io _ _ => exact lA (s1 := .io _ o) (fun b h => .inl ⟨⟨_, q, rfl⟩, (jA h fun _ _ z => nomatch z).2⟩) w
    | _ => exact w
theorem Rel.put (rel : Rel G B F σ env H) {i : Nat} {o o' : O} {a : Addr} {u : HO} (h : OwnR env σ i a) (hw : OwAt G F H a o) (hu : OwAt G F (upd H a u) a o') :
    Stp B F H F (upd H a u) ∧ Rel G B F σ (putS env i o') (upd H a u) := by
  obtain ⟨hs, hF, hB⟩ := rel.ownSome (.inl h)
  have st : Stp B F H F (upd H a u) := jr hF hB hw.notup hw.noTab hw.noCode
  refine ⟨st, ?_⟩
  have hlt : i < env.length := by obtain ⟨⟨s, e, _⟩, _⟩ := h; exact (List.getElem?_eq_some_iff.mp e).1
  have other : ∀ j s, j ≠ i → env[j]? = some s → SlotR G B F (upd H a u) σ[j]? s := fun j s ne e => by
    have q := rel.sl j s e
    cases s with
    | no => trivial
    | im d => obtain ⟨v, h1, h2⟩ := q; exact ⟨v, h1, Rp.mono st d v h2⟩
    | ow p =>
      obtain ⟨b, h1, h2, h3, h4⟩ := q
      have nb : b ≠ a := fun z => by subst z; exact ne (rel.ap j i b (.inl ⟨⟨_, e, rfl⟩, h1⟩) (.inl h))
      exact ⟨b, h1, h2, h3, OwAt.mono st (upd_ne nb) h4⟩
    | io b p =>
      obtain ⟨h1, h2, h3, h4⟩ := q
      have nb : b ≠ a := fun z => by subst z; exact ne (rel.ap j i b (.inl ⟨⟨_, e, rfl⟩, h1⟩) (.inl h))
      exact ⟨h1, h2, h3, OwAt.mono st (upd_ne nb) h4⟩
    | tr r ns =>
      obtain ⟨h1, t⟩ := q
      refine ⟨h1, t.root, t.nd, fun p hp => ?_⟩
      have nb : p.1 ≠ a := fun z => ne (rel.ap j i p.1 (.inr ⟨r, ns, e, List.mem_map.mpr ⟨p, hp, rfl⟩⟩) (.inl (z ▸ h)))
      exact ⟨(t.at_ p hp).1, (t.at_ p hp).2.1, R1At.mono st (upd_ne nb) (t.at_ p hp).2.2⟩
  obtain ⟨⟨s, e, k⟩, hσ⟩ := id h
  have fin : ∀ s' : Slot, s'.own = true → SlotR G B F (upd H a u) σ[i]? s' → Rel G B F σ (env.set i s') (upd H a u) := fun s' k' r => by
    refine ⟨by rw [List.length_set]; exact rel.len, fun j t e' => ?_, fun j l b h1 h2 => ?_, fun b z => st.hs b (.inl z) (rel.hB b z), fun b z => st.hs b (.inr z) (rel.hF b z), st.tb rel.tb⟩
    · by_cases hj : j = i
      · subst hj
        rw [List.getElem?_set_self hlt] at e'
        cases e'
        exact r
      · rw [List.getElem?_set_ne (Ne.symm hj)] at e'
        exact other j t hj e'
    · have back : ∀ m, dM (env.set i s') σ m b → dM env σ m b := fun m w => by
        obtain ⟨t, e1, e2⟩ := own_feet.mp w
        by_cases hm : m = i
        · subst hm
          rw [List.getElem?_set_self hlt] at e1
          cases e1
          rcases e2 with ⟨_, e2⟩ | ⟨_, _, q, _⟩
          · exact .inl ⟨⟨s, e, k⟩, e2⟩
          · subst q; cases k'
        · rw [List.getElem?_set_ne (Ne.symm hm)] at e1
          exact own_feet.mpr ⟨t, e1, e2⟩
      exact rel.ap j l b (back j h1) (back l h2)
  unfold putS
  rw [e]
  cases s with
  | ow p => exact fin (.ow o') rfl ⟨a, hσ, hF, hB, hu⟩
  | io b p =>
    have z : σ[i]? = some (some (.ref b)) := (rel.sl i _ e).1
    rw [hσ] at z
    cases z
    exact fin (.io a o') rfl ⟨hσ, hF, hB, hu⟩
  | no => cases k
  | im d => cases k
  | tr _ _ => cases k
/-- an expression ahead of the rest of a statement -/
theorem Ps.bind {ma : M α} {k : α → M Fl} {Ra : (Addr → Prop) → (Addr → Prop) → List Slot → L2.St → Hp → α → β → Prop} {Z : Ends} {as : List D} {xs : List V} (h : Ps G W (aq ma k) Z σ H B F env) :
    Lift G W Ra ma σ H (fun y H' => ∃ F' env' b, Ps G W (k b) Z σ H' B F' env' ∧ Ra B F' env' σ H' b y) := by
  obtain ⟨Qd, Ed, rel, hm, h1, h2, h3, h4, h5⟩ := h
  refine ⟨B, F, env, fun a env' => k a env' Qd Ed, Ed, rel, hm, fun a env' b F' H' hk st rl hr => ⟨F', env', a, ⟨Qd, Ed, rl, hk, ?_, ?_, ?_, ?_, ?_⟩, hr⟩, fun x env' cls d F' H' q st rl r => h5 x env' σ cls d F' H' q st rl r⟩
  · exact fun e2 s2 F2 H2 q2 st2 rl2 => h1 e2 s2 F2 H2 q2 (st.trans st2) rl2
  · exact fun e2 s2 F2 H2 q2 st2 rl2 => h2 e2 s2 F2 H2 q2 (st.trans st2) rl2
  · exact fun e2 s2 F2 H2 q2 st2 rl2 => h3 e2 s2 F2 H2 q2 (st.trans st2) rl2
  · exact fun r e2 s2 F2 H2 v q2 st2 rl2 => h4 r e2 s2 F2 H2 v q2 (st.trans st2) rl2
  · exact fun x e2 s2 c d F2 H2 q2 st2 rl2 => h5 x e2 s2 c d F2 H2 q2 (st.trans st2) rl2
theorem Ps.next {Z : Ends} (h : Ps G W (ret .nx) Z σ H B F env) : Z.nx σ H := by
  obtain ⟨Qd, Ed, rel, hm, h1, _⟩ := h
  exact h1 env σ F H hm Stp.refl rel
theorem Ps.retd {Z : Ends} {d : D} {v : V} (h : Ps G W (ret (.rt (.d d))) Z σ H B F env) (r : Rp G F H d v) : Z.rt v H := by
  obtain ⟨Qd, Ed, rel, hm, h1, h2, h3, h4, h5⟩ := h
  exact h4 _ env σ F H v hm Stp.refl rel r
end
section
variable {X : Cx} {C : Addr} {W : WX} {e : Expr} {st : Stmt} {sts : List Stmt} {m k : M Fl} {md : M D} {mo : M O} {mt : M Bool} {pos : Pos}
theorem e8 : PSs X [] (tS (gx X C) W (ret .nx)) := pW pss_nil fun D σ H ⟨B, F, env, h⟩ => h.next
theorem bG (h1 : PS X st (tS (gx X C) W m)) (h2 : PSs X sts (tS (gx X C) W k)) : PSs X (st :: sts) (tS (gx X C) W (bc m k)) := pW (pss_cons h1 h2) fun D σ H ⟨B, F, env, h⟩ => ⟨B, F, env, h.seq fun _ _ z => z⟩
theorem cD (h1 : PS X st (tS (gx X C) W m)) : PSs X [st] (tS (gx X C) W m) := pW (pss_one h1) fun D σ H h => h
theorem gM : PS X st (tS (gx X C) W fail) := iO ps_never fun D σ H ⟨B, F, env, Qd, Ed, rel, hm, _⟩ => hm
theorem jM (he : PE X e (tD (gx X C) W md)) (hs : swapsWith e none pos.line X.env = pure false := by rfl) : PS X (.Expr e pos) (tS (gx X C) W (aN md)) :=
  iO (ps_expr he hs) fun D σ H ⟨B, F, env, h⟩ => (h.bind (Ra := RD (gx X C)) (as := []) (xs := [])).imp fun x H1 ⟨F1, env1, d, p, r⟩ => p.next
theorem s_ret (he : PE X e (tD (gx X C) W md)) : PS X (.Return (some e) pos) (tS (gx X C) W (aq md fun d => ret (.rt (.d d)))) :=
  iO (ps_ret he) fun D σ H ⟨B, F, env, h⟩ => (h.bind (Ra := RD (gx X C)) (as := []) (xs := [])).imp fun x H1 ⟨F1, env1, d, p, r⟩ => p.retd r
theorem xu (he : PE X e (tO (gx X C) W mo)) : PS X (.Return (some e) pos) (tS (gx X C) W (aq mo fun d => ret (.rt (.o d)))) :=
  iO (ps_ret he) fun D σ H ⟨B, F, env, h⟩ => (h.bind (Ra := RO (gx X C)) (as := []) (xs := [])).imp fun x H1 ⟨F1, env1, d, ⟨Qd, Ed, rel, hm, h1, h2, h3, h4, h5⟩, a, ea, hF, hB, ho, hn⟩ =>
    h4 _ env1 σ F1 H1 x hm Stp.refl rel ⟨a, ea, hF, hB, ho, fun i b p q z => by
      subst z
      exact hn i (.inl ⟨⟨_, q, rfl⟩, (rel.sl i _ q).1⟩), fun i b ns q z => hn i (.inr ⟨b, ns, q, z⟩)⟩
theorem s_if {c : Expr} {a b : List Stmt} (hc : PT X c (lh (gx X C) W mt)) (ha : PSs X a (tS (gx X C) W m)) (hb : PSs X b (tS (gx X C) W k)) : PS X (.If c a b pos) (tS (gx X C) W (dY mt m k)) :=
  iO (ps_if hc ha hb) fun D σ H ⟨B, F, env, h⟩ => (h.bind (Ra := RB) (as := []) (xs := [])).imp fun q H1 ⟨F1, env1, d, p, r⟩ => by
    cases (show d = q from r)
    cases q with
    | true => rw [if_pos rfl] at p ⊢; exact ⟨B, F1, env1, p⟩
    | false => rw [if_neg Bool.false_ne_true] at p ⊢; exact ⟨B, F1, env1, p⟩
/-- name = a datum -/
theorem iM {i : Nat} {x : Str} {p : Pos} (hN : X.N.Nodup) (hi : X.N[i]? = some x) (hx : Loc X.env.scope x) (he : PE X e (tD (gx X C) W md)) (hs : swapsWith e (some (.Name x p)) pos.line X.env = pure false := by rfl)
    (hf : X.fn x = true ∨ X.env.scope.names.lookup x = some .local := by first | exact .inl rfl | exact .inr rfl | assumption) : PS X (.Assign [.Name x p] e pos) (tS (gx X C) W (aN (aq md (setI i)))) :=
  iO (ps_set hN hi hx he hs hf) fun D σ H ⟨B, F, env, h⟩ => by
    have h : Ps (gx X C) W (aq md fun d => aq (setI i d) fun _ => ret .nx) D σ H B F env := h
    refine (h.bind (Ra := RD (gx X C)) (as := []) (xs := [])).imp fun y H1 ⟨F1, env1, d, ⟨Qd, Ed, rel, hm, h1, h2, h3, h4, h5⟩, r⟩ => ?_
    have hm : setI i d env1 (fun _ env' => Qd .nx env') Ed := hm
    unfold setI at hm
    cases q : env1[i]? with
    | none => rw [q] at hm; exact hm.elim
    | some s =>
      rw [q] at hm
      cases s with
      | io _ _ => exact hm.elim
      | _ => exact h1 _ _ F1 H1 hm Stp.refl (rel.setI r)
/-- name = a new object -/
theorem sZ {i : Nat} {x : Str} {p : Pos} (hN : X.N.Nodup) (hi : X.N[i]? = some x) (hx : Loc X.env.scope x) (he : PE X e (tO (gx X C) W mo)) (hs : swapsWith e (some (.Name x p)) pos.line X.env = pure false := by rfl)
    (hf : X.fn x = true ∨ X.env.scope.names.lookup x = some .local := by first | exact .inl rfl | exact .inr rfl | assumption) : PS X (.Assign [.Name x p] e pos) (tS (gx X C) W (aN (aq mo (setO i)))) :=
  iO (ps_set hN hi hx he hs hf) fun D σ H ⟨B, F, env, h⟩ => by
    have h : Ps (gx X C) W (aq mo fun d => aq (setO i d) fun _ => ret .nx) D σ H B F env := h
    refine (h.bind (Ra := RO (gx X C)) (as := []) (xs := [])).imp fun y H1 ⟨F1, env1, d, ⟨Qd, Ed, rel, hm, h1, h2, h3, h4, h5⟩, a, ea, hF, hB, ho, hn⟩ => ?_
    subst ea
    have hm : setO i d env1 (fun _ env' => Qd .nx env') Ed := hm
    unfold setO at hm
    cases q : env1[i]? with
    | none => rw [q] at hm; exact hm.elim
    | some s =>
      rw [q] at hm
      cases s with
      | io _ _ => exact hm.elim
      | _ => exact h1 _ _ F1 H1 hm Stp.refl (rel.setO hF hB ho hn)
end
end
end DL
namespace DLe
open PySem PySem.Spec PyProof.Rows L2
section
abbrev yu (a : Addr) : Obj := { cls := .type "enumerate", data := .fields #[.none, .bool false, .ref a, rawInt 0, .none, .none] }
theorem rS {v : Value} {o : Obj} {T : Heap → Prop} (B : Begins v o T) : Meets (Builtin.«enumerate.__new__» ⟨[.type "enumerate", v], []⟩) (fun _ R s => T s.heap ∧ R (.ok (.ret (.ref (s.heap.push o).objs.size))) { s with heap := (s.heap.push o).push (yu s.heap.objs.size) }) := .of_wp fun prog w A R s hT => by
    obtain ⟨hp, g, d, tk, os⟩ := s
    obtain ⟨hz, hR⟩ := hT
    have hsub := sub_enumerate
    have it1 : ∀ {A₁ : Around} {E₁ : Value → Shared → Prop} {Q₁ : Value → Shared → Prop}, Q₁ (.ref hp.objs.size) ⟨hp.push o, g, d, tk, os⟩ → wpAny (model prog w) A₁ (pyIter v) Q₁ E₁ ⟨hp, g, d, tk, os⟩ := fun q => B.iter prog w _ _ ⟨hp, g, d, tk, os⟩ _ hz q
    wp_walk using it1
    refine wpAny_stack_any fun stk => wpAny_pure ?_
    split
    · rename_i c _ _ _ _ _
      cases (c == Value.type "enumerate") <;> (wp_walk using it1; exact ⟨_, rfl, hR⟩)
    · wp_walk using it1
      exact ⟨_, rfl, hR⟩
theorem uD {prog : Program} {w : World} {A : Around} {E : Value → Shared → Prop} {s : Shared} {v : Value} {o : Obj} {T : Heap → Prop} {Q : Value → Shared → Prop} (B : Begins v o T) (hT : T s.heap)
    (hq : ∀ h1, IsEnum h1 (s.heap.objs.size + 1) s.heap.objs.size 0 .none → h1.get? s.heap.objs.size = some o → h1.objs.size = s.heap.objs.size + 2 → (∀ b u, s.heap.get? b = some u → h1.get? b = some u) → Q (.ref (s.heap.objs.size + 1)) { s with heap := h1 }) :
    wpAny (model prog w) A (call (.type "enumerate") [v]) Q E s := by
  refine callType_new F.called_enumerate (by decide) (F.typeCall_enumerate_1 _) (F.newCall_enumerate_1 _) (fun obj => F.args_object_init_2 obj _) F.entry_enumerate_new (rS B) ⟨hT, ?_⟩
  have sz : (s.heap.push o).objs.size = s.heap.objs.size + 1 := Heap.size_push ..
  show _ ∧ _
  rw [sz]
  have ie : IsEnum ((s.heap.push o).push (yu s.heap.objs.size)) (s.heap.objs.size + 1) s.heap.objs.size 0 .none := by
    have z := Heap.get?_push_size (s.heap.push o) (o := yu s.heap.objs.size) rfl
    rw [sz] at z
    exact z
  exact ⟨⟨_, ie, rfl⟩, hq _ ie (Heap.get?_push_of_some _ (Heap.get?_push_size _ B.free)) (by rw [Heap.size_push, sz]) fun b u x => Heap.get?_push_of_some _ (Heap.get?_push_of_some _ x)⟩
/-- the tuple at a, its items with their numbers in new pairs -/
def Itte (K : PySem.W.Frag) (a : Addr) : It where
  go := fun i H => ∃ (xs : List V) (x : V), SqT K H a xs ∧ xs[i]? = some x
  yld := fun i H v H' => ∃ T x, v = .ref T ∧ H T = none ∧ H' = upd H T (.tup [.int (i : Nat), x]) ∧ ∀ xs, SqT K H a xs → xs[i]? = some x
  stop := fun i H => ∃ xs : List V, SqT K H a xs ∧ xs.length ≤ i
theorem uR {P : Program} {w : World} {K : PySem.W.Frag} {es : List Expr} {k : Nat} {pos : Pos} (a e it : Addr) (ea : it ≠ a) (eb : e ≠ a) :
    Turn P w K (.Tuple es k pos) (Itte K a) [e, it] e (fun i h => (∃ old, IsEnum h e it ((i : Nat) : Int) old) ∧ h.IsTupleIter it a i ∧ e ≠ it) where
  mem := List.mem_cons_self
  obj := fun i h ⟨⟨old, ie⟩, ⟨o, ho, _, hd⟩, _⟩ b hb => by
    rcases List.mem_cons.mp hb with z | z
    · rw [z]; exact ⟨_, ie, fun v q => nomatch q⟩
    · rw [List.mem_singleton.mp z]; exact ⟨o, ho, fun v q => by rw [hd] at q; cases q⟩
  keep := fun i h h1 ⟨⟨old, ie⟩, ti, ne⟩ kk => ⟨⟨old, kk e (by simp) _ ie⟩, ti.at fun o q => kk it (by simp) o q, ne⟩
  item := by
    intro X eP ew eK calm i pins s σ H E I fp ⟨⟨old, ie⟩, ti, ne⟩ ⟨xs, x, sq, ex⟩
    subst eP ew eK
    obtain ⟨its, rv, tp, sz⟩ := I.tuple sq
    obtain ⟨u, eu, ru⟩ := rv.get ex
    have le : e < s.heap.objs.size := Heap.lt_size ie
    have li : it < s.heap.objs.size := by obtain ⟨_, q, _⟩ := ti; exact Heap.lt_size q
    have lt : i < its.toArray.size := by simpa using (List.getElem?_eq_some_iff.mp eu).1
    refine wpAny_pyNext_enum_itemD (Draws.tuple (A := X.A.in1) (I.ok.hd calm) it a ea.symm its.toArray) ie ⟨ti, tp⟩ lt ne (by simp [ne, eb]) fun y h1 tk py eo ⟨ti1, _⟩ eT zs kk => ?_
    have ey : y = u := Option.some.inj (py.symm.trans (by simpa using eu))
    subst ey
    refine ⟨_, rfl, wpAny_letOwnedTupleGo_enum (s := { s with heap := h1, toks := tk + 1 }) eo fun h2 ie2 sb => ?_⟩
    have eT2 : h2.get? s.heap.objs.size = some { cls := .type "tuple", data := .seq #[.int i tk, y] } := (sb.2 _ (Nat.ne_of_gt le)).trans eT
    have ok2 : ObjOk X.prog X.w (upd H s.heap.objs.size (.tup [.int (i : Nat), x])) h2 s.heap.objs.size (.tup [.int (i : Nat), x]) := ⟨by show 2 ≤ sizeLine; decide, [.int i tk, y], .cons ⟨_, rfl⟩ (.cons ru .nil), _, eT2, rfl, _, rfl⟩
    have J : Inv X pins σ (upd H s.heap.objs.size (.tup [.int (i : Nat), x])) { s with heap := h2, toks := tk + 1 } :=
      I.turnedNew (ch := [e, it]) (fun b ob nb q => (sb.2 b fun z => nb (by simp [z])).trans (kk b ob (fun z => nb (by simp [z])) (fun z => nb (by simp [z])) q)) fp (Nat.le_refl _) ok2
    refine ⟨.ref s.heap.objs.size, _, J, rfl, ⟨_, x, rfl, I.hok.fresh (Nat.le_refl _), rfl, fun ys hy => by rw [I.tuple_inj hy sq]; exact ex⟩, ⟨⟨y, ?_⟩, ti1.at fun o q => (sb.2 it (Ne.symm ne)).trans q, ne⟩, fun b hb => ?_⟩
    · rw [show ((i + 1 : Nat) : Int) = (i : Int) + 1 by omega]; exact ie2
    · have lb : b < s.heap.objs.size := by
        rcases List.mem_cons.mp hb with z | z
        · rw [z]; exact le
        · rw [List.mem_singleton.mp z]; exact li
      rw [upd_ne (Nat.ne_of_lt lb)]
      exact (fp b hb).1
  done := by
    intro X eP ew eK calm i pins s σ H E I fp ⟨⟨old, ie⟩, ti, ne⟩ ⟨xs, sq, ex⟩
    subst eP ew eK
    obtain ⟨its, rv, tp, sz⟩ := I.tuple sq
    obtain ⟨f0, f1, f2, f3, f4, f5⟩ := fp it (by simp)
    have hl := rv.length
    have stop : X.A.in1.handled = none := I.ok.hd calm
    refine (show wpAny _ _ _ _ _ _ from ?_)
    have D := Draws.tuple (prog := X.prog) (w := X.w) (A := X.A.in1) stop it a ea.symm its.toArray
    refine wpAny_pyNext_enum_endD (P := fun _ _ => True) (St := fun _ h => h.IsTupleIter it a i ∧ h.IsTuple a its.toArray) (n := 0) (fp := [it, a]) ⟨fun _ _ st => D.live i _ st, fun _ _ _ st k => D.frame i _ _ st k, fun _ _ _ _ z => absurd z (Nat.not_lt_zero _), fun s1 Q1 E1 st hE => ?_⟩ ie ⟨ti, tp⟩ fun h1 eb => ⟨rfl, I.turned (t' := s.toks) (fun b o hb q => eb b o hb q) f0 f1 f3 f4 f5⟩
    exact wpAny_nextOf_tuple_end stop st.1 st.2 (by simp; omega) hE
  self := fun A i s Q E ⟨⟨_, ie⟩, _⟩ q => wpAny_pyIter_enum ie q
def zD (K : PySem.W.Frag) (ta : TA) : TI := fun σ H R => ta σ H fun vs H1 => ∃ a xs, vs = [.ref a] ∧ SqT K H1 a xs ∧ R (Itte K a) H1
theorem pi_enT {X : Cx} {e : Expr} {ta : TA} {p pos tpos : Pos} {es : List Expr} {k : Nat} (hg : Gl X "enumerate") (hm : X.mg "enumerate" = none) (ha : PA X [e] ta) (hs : starEach [e] X.env = [(false, eval e X.env)] := by rfl) :
    PI X (.Tuple es k tpos) (.Call (.Name "enumerate" p) [e] [] pos) (zD X.K ta) := by
  refine ⟨fun pins s σ H R I h => Call_ (ld_blt I hg hm boot_enumerate (PyProof.Rows.callWith_type1 (thn (ha.run pos pins s σ H _ I h) fun us s1 ⟨vs, H1, I1, rs, a, xs, ev, sq, q⟩ => ?_) hs rfl))⟩
  subst ev
  cases rs with
  | cons ra rn =>
    cases rn
    cases ra
    obtain ⟨its, rv, tp, sz⟩ := I1.tuple sq
    have la : a < s1.heap.objs.size := by obtain ⟨o, ho, _⟩ := tp; exact Heap.lt_size ho
    refine uD (begins_tuple a its.toArray) tp fun h1 ie io _ kk => wpAny_pyIter_enum ie ?_
    have J : Inv X pins σ H1 { s1 with heap := h1 } := I1.kept (t' := s1.toks) kk
    refine ⟨s1.heap.objs.size + 1, [s1.heap.objs.size + 1, s1.heap.objs.size], _, _, H1, rfl, J, uR a (s1.heap.objs.size + 1) s1.heap.objs.size (Nat.ne_of_gt la) (Nat.ne_of_gt (Nat.lt_succ_of_lt la)), ⟨⟨.none, ie⟩, ⟨_, io, rfl, rfl⟩, Nat.succ_ne_self _⟩, fun b hb => ?_, q⟩
    have lb : s1.heap.objs.size ≤ b := by
      rcases List.mem_cons.mp hb with z | z
      · rw [z]; exact Nat.le_add_right _ _
      · rw [List.mem_singleton.mp z]; exact Nat.le_refl _
    exact I1.fpOk lb (I1.hok.fresh lb)
end
end DLe
namespace DL
open PySem PySem.Spec PyProof.Rows L2
section
variable [Tbs]
/-- a target that stores into the slots is alone -/
def xh (G : Gx) (is : List Nat) (k : D → M Unit) : TG := fun x σ H Q => ∃ (B F : Addr → Prop) (env : List Slot) (d : D) (Qd : List Slot → Prop), Rel G B F σ env H ∧ Rp G F H d x ∧ k d env (fun _ env' => Qd env') (fun _ _ => False) ∧
  ∀ env' σ', Qd env' → Rel G B F σ' env' H → σ'.length = σ.length → (∀ j, j ∉ is → σ'[j]? = σ[j]?) → Q σ' H
def bh : List Nat → List D → M Unit
  | [], [] => ret ()
  | i :: is, d :: ds => aq (setI i d) fun _ => bh is ds
  | _, _ => fail
def sT (G : Gx) (is : List Nat) : TGs := fun xs σ H Q => ∃ (B F : Addr → Prop) (env : List Slot) (ds : List D) (Qd : List Slot → Prop), Rel G B F σ env H ∧ RpL G F H ds xs ∧ bh is ds env (fun _ env' => Qd env') (fun _ _ => False) ∧
  ∀ env' σ', Qd env' → Rel G B F σ' env' H → σ'.length = σ.length → (∀ j, j ∉ is → σ'[j]? = σ[j]?) → Q σ' H
def aI (is : List Nat) (d : D) : M Unit := match d with
  | .tup ds => bh is ds
  | .pr ds => bh is ds
  | _ => fail
theorem il {i : Nat} {d : D} {env : List Slot} {Q : Unit → List Slot → Prop} {E : Exn → List Slot → Prop} (h : setI i d env Q E) : Q () (env.set i (.im d)) := by
  unfold setI at h
  cases q : env[i]? with
  | none => rw [q] at h; exact h.elim
  | some s =>
    rw [q] at h
    cases s with
    | io _ _ => exact h.elim
    | _ => exact h
theorem lR {X : Cx} {e : Expr} {t t' : TG} (h : PG X e t) (i : ∀ v σ H Q, t' v σ H Q → t v σ H Q) : PG X e t' := ⟨fun pins s σ H v u Q I r q => h.run pins s σ H v u Q I r (i v σ H Q q)⟩
theorem nP {X : Cx} {e : List Expr} {t t' : TGs} (h : PGs X e t) (i : ∀ v σ H Q, t' v σ H Q → t v σ H Q) : PGs X e t' := ⟨fun pins s σ H v u Q I r q => h.run pins s σ H v u Q I r (i v σ H Q q)⟩
section
variable {X : Cx} {C : Addr} {W : WX} {e : Expr} {es : List Expr} {st : Stmt} {sts : List Stmt} {m k : M Fl} {md : M D} {mt : M Bool} {pos : Pos} {is : List Nat}
theorem dZ {i : Nat} {x : Str} (hN : X.N.Nodup) (hi : X.N[i]? = some x) (hx : Loc X.env.scope x) (hf : X.fn x = true ∨ X.env.scope.names.lookup x = some .local := by first | exact .inl rfl | exact .inr rfl | assumption) : PG X (.Name x pos) (xh (gx X C) [i] (setI i)) :=
  lR (pg_name hN hi hx hf) fun v σ H Q ⟨B, F, env, d, Qd, rel, r, hm, hq⟩ => hq _ _ (il hm) (rel.setI r) (List.length_set ..) fun j hj => by
    rw [List.getElem?_set_ne fun z => hj (by simp [z])]
theorem uo : PGs X [] (sT (gx X C) []) := nP pgs_nil fun v σ H Q ⟨B, F, env, ds, Qd, rel, r, hm, hq⟩ => by
  cases ds with
  | nil => exact ⟨r, hq env σ hm rel rfl fun _ _ => rfl⟩
  | cons d ds => exact (show False from hm).elim
theorem lE {i : Nat} {x : Str} {p : Pos} (hN : X.N.Nodup) (hi : X.N[i]? = some x) (hx : Loc X.env.scope x) (h2 : PGs X es (sT (gx X C) is))
    (hs : (assignEach (.Name x p :: es) X.env).map (·.2) = assign (.Name x p) X.env :: (assignEach es X.env).map (·.2) := by rfl)
    (hf : X.fn x = true ∨ X.env.scope.names.lookup x = some .local := by first | exact .inl rfl | exact .inr rfl | assumption) : PGs X (.Name x p :: es) (sT (gx X C) (i :: is)) :=
  nP (pgs_cons (pg_name (i := i) hN hi hx hf) h2 hs) fun v σ H Q ⟨B, F, env, ds, Qd, rel, r, hm, hq⟩ => by
    cases ds with
    | nil => exact (show False from hm).elim
    | cons d ds =>
      obtain ⟨v0, rr, e0, rd, rs⟩ := r
      subst e0
      have hm : setI i d env (fun _ env' => bh is ds env' (fun _ env' => Qd env') (fun _ _ => False)) (fun _ _ => False) := hm
      refine ⟨v0, rr, rfl, B, F, _, ds, Qd, rel.setI rd, rs, il hm, fun env' σ' q rl hl ho => hq env' σ' q rl (hl.trans (List.length_set ..)) fun j hj => ?_⟩
      rw [ho j fun z => hj (List.mem_cons_of_mem _ z), List.getElem?_set_ne fun z => hj (by simp [z])]
theorem wZ {kk : Nat} {n : Nat} (hc : X.calm = true) (h : PGs X es (sT (gx X C) is)) (hl : is.length = n) (hn : (assignEach es X.env).length = n := by rfl) (hst : (assignEach es X.env).findIdx? (·.1) = none := by rfl) :
    PG X (.Tuple es kk pos) (xh (gx X C) is (aI is)) := lR (pg_tup hc h hn hst) fun v σ H Q ⟨B, F, env, d, Qd, rel, r, hm, hq⟩ => by
  have fin : ∀ (ds : List D), (∃ a vs, v = .ref a ∧ Rd H a (.tup vs) ∧ RpL (gx X C) F H ds vs) → bh is ds env (fun _ env' => Qd env') (fun _ _ => False) → gTup X.K n (sT (gx X C) is) v σ H Q := fun ds r hm => by
    obtain ⟨a, vs, e0, h1, h2⟩ := r
    have len : ∀ (is : List Nat) (ds : List D) (env : List Slot) (Q : Unit → List Slot → Prop), bh is ds env Q (fun _ _ => False) → is.length = ds.length := by
      intro is
      induction is with
      | nil =>
        intro ds env Q h
        cases ds with
        | nil => rfl
        | cons _ _ => exact (show False from h).elim
      | cons i is ih =>
        intro ds env Q h
        cases ds with
        | nil => exact (show False from h).elim
        | cons d ds => exact congrArg (· + 1) (ih ds _ _ (il (show setI i d env (fun _ env' => bh is ds env' Q (fun _ _ => False)) (fun _ _ => False) from h)))
    exact ⟨a, vs, e0, .inl h1, by rw [← h2.length, ← len is ds env _ hm, hl], B, F, env, ds, Qd, rel, h2, hm, hq⟩
  cases d with
  | tup ds => obtain ⟨a, vs, e0, h1, h2⟩ := r; exact fin ds ⟨a, vs, e0, h1.rd, h2⟩ hm
  | pr ds => exact fin ds r hm
  | _ => exact (show False from hm).elim
theorem eM {i : Nat} {d : D} {env : List Slot} {Q : Unit → List Slot → Prop} {E E' : Exn → List Slot → Prop} (h : setI i d env Q E) : setI i d env Q E' := h
theorem ku : ∀ {is : List Nat} {ds : List D} {env : List Slot} {Q : Unit → List Slot → Prop} {E E' : Exn → List Slot → Prop}, bh is ds env Q E → bh is ds env Q E'
  | [], [], _, _, _, _, h => h
  | [], _ :: _, _, _, _, _, h => h
  | _ :: _, [], _, _, _, _, h => h
  | i :: is, d :: ds, env, Q, E, E', h => by
    have h' : setI i d env (fun _ env' => bh is ds env' Q E) E := h
    have q := il h'
    show setI i d env (fun _ env' => bh is ds env' Q E') E'
    unfold setI at h' ⊢
    cases z : env[i]? with
    | none => rw [z] at h'; exact h'.elim
    | some s =>
      rw [z] at h'
      cases s with
      | io _ _ => exact h'.elim
      | _ => exact ku q
theorem lK {is : List Nat} (d : D) (env : List Slot) (Q : Unit → List Slot → Prop) (E : Exn → List Slot → Prop) (h : aI is d env Q E) : aI is d env Q (fun _ _ => False) := by
  cases d with
  | tup ds => exact ku (show bh is ds env Q E from h)
  | pr ds => exact ku (show bh is ds env Q E from h)
  | _ => exact (show False from h).elim
def RI (G : Gx) : (Addr → Prop) → (Addr → Prop) → List Slot → L2.St → Hp → List D → It → Prop := fun B F _ _ H ds J => ItOk G J ds B F H
abbrev tI (G : Gx) (W : WX) (m : M (List D)) : TI := Lift G W (RI G) m
theorem jU {B F : Addr → Prop} {H H' : Hp} (h : ∀ a o, H a = some o → H' a = some o) : Stp B F H F H' where
  fm := fun _ h => h
  fn := fun _ h => .inl h
  hk0 := fun a o _ e _ => h a o e
  tb := fun t => t.ext (fun _ z => z) h
  ht := fun a vs q => q.imp (h a _) fun ⟨o, q⟩ => ⟨o, h a _ q⟩
  fz := fun a o u e => h a _ e
def bD (d : D) : M (List D) := match d with
  | .tup ds => ret ds
  | .pr ds => ret ds
  | _ => fail
def bv (d : D) : M (List D) := match d with
  | .lst ds => ret ds
  | .scr ns => ret (ns.map .int)
  | _ => fail
def signs (s : Str) : List D := s.cps.toList.map fun c => .str ⟨#[c]⟩
def wX (d : D) : M (List D) := match d with
  | .str s => ret (signs s)
  | _ => fail
def numbered (ds : List D) : List D := ds.zipIdx.map fun p => .pr [.int (p.2 : Nat), p.1]
def bV (ds : List D) : M (List D) := match ds with
  | [.tup ds] => ret (numbered ds)
  | _ => fail
def eS (lo hi : Int) : List D := (List.range (hi - lo).toNat).map fun i => .int (lo + (i : Nat))
def cX (ds : List D) : M (List D) := match ds with
  | [.int j] => fV (-(2 ^ 62) ≤ j ∧ j < 2 ^ 62) (ret (eS 0 j))
  | _ => fail
theorem tX {G : Gx} {B F : Addr → Prop} {H : Hp} {a : Addr} {vs : List V} {ds : List D} (h1 : Rd H a (.tup vs)) (h2 : RpL G F H ds vs) {K : PySem.W.Frag} : ItOk G (Itt K a) ds B F H := fun F' H' s i => by
  have q1 : Rd H' a (.tup vs) := s.ht a vs h1
  have q2 : RpL G F' H' ds vs := RpL.mono s ds vs h2
  refine ⟨fun d hd => ?_, fun hl => ⟨vs, .inl q1, by rw [← q2.length]; exact hl⟩⟩
  obtain ⟨v, hv, rv⟩ := q2.get hd
  exact ⟨⟨vs, v, .inl q1, hv⟩, fun x H'' ⟨e, y⟩ => by
    subst e
    have z := y vs (.inl q1)
    rw [hv] at z
    cases z
    exact ⟨Stp.refl, fun _ _ h => h, rv⟩⟩
end
end
section
variable [Tbs]
section
variable {G : Gx} {B F : Addr → Prop} {H : Hp} {a : Addr} {vs : List V} {ds : List D} {K : PySem.W.Frag}
theorem xV (hF : F a) (h1 : H a = some (.lst vs)) (h2 : RpL G F H ds vs) : ItOk G (Itl K a) ds B F H := fun F' H' s i => by
  have q1 : H' a = some (.lst vs) := s.hk a _ (.inr hF) h1
  have q2 : RpL G F' H' ds vs := RpL.mono s ds vs h2
  refine ⟨fun d hd => ?_, fun hl => ⟨vs, SqL.of q1, by rw [← q2.length]; exact hl⟩⟩
  obtain ⟨v, hv, rv⟩ := q2.get hd
  exact ⟨⟨vs, v, SqL.of q1, hv⟩, fun x H'' ⟨e, y⟩ => by
    subst e
    have z := y vs (SqL.of q1)
    rw [hv] at z
    cases z
    exact ⟨Stp.refl, fun _ _ h => h, rv⟩⟩
theorem uZ {ns : List Int} {i : Nat} {d : D} (h : (ns.map D.int)[i]? = some d) : ∃ n, d = .int n ∧ (ns.map V.int)[i]? = some (.int n) := by
  rw [List.getElem?_map] at h
  cases e : ns[i]? with
  | none => rw [e] at h; cases h
  | some n =>
    rw [e] at h
    cases h
    exact ⟨n, rfl, by rw [List.getElem?_map, e]; rfl⟩
theorem sY {ns : List Int} (h : (F a ∧ Rd H a (.lst (ns.map V.int))) ∨ ∀ H', SqL G.K H' a (ns.map V.int)) {F' : Addr → Prop} {H' : Hp} (s : Stp B F H F' H') : SqL G.K H' a (ns.map V.int) := by
  rcases h with ⟨hF, h⟩ | h
  · exact .inl (h.imp (s.hk a _ (.inr hF)) fun ⟨o, q⟩ => ⟨o, s.hk a _ (.inr hF) q⟩)
  · exact h H'
theorem xT {ns : List Int} (h : (F a ∧ Rd H a (.lst (ns.map V.int))) ∨ ∀ H', SqL G.K H' a (ns.map V.int)) : ItOk G (Itl G.K a) (ns.map .int) B F H := fun F' H' s i => by
  have q1 := sY h s
  refine ⟨fun d hd => ?_, fun hl => ⟨_, q1, by rw [List.length_map] at hl ⊢; exact hl⟩⟩
  obtain ⟨n, e, hn⟩ := uZ hd
  subst e
  exact ⟨⟨_, _, q1, hn⟩, fun x H'' ⟨e, y⟩ => by
    subst e
    have z := y _ q1
    rw [hn] at z
    cases z
    exact ⟨Stp.refl, fun _ _ h => h, rfl⟩⟩
theorem rH {lo hi : Int} {i : Nat} {d : D} (h : (eS lo hi)[i]? = some d) : i < (hi - lo).toNat ∧ d = .int (lo + (i : Nat)) := by
  unfold eS at h
  rw [List.getElem?_map] at h
  cases e : (List.range (hi - lo).toNat)[i]? with
  | none => rw [e] at h; cases h
  | some n =>
    rw [e] at h
    obtain ⟨h1, h2⟩ := List.getElem?_eq_some_iff.mp e
    rw [List.length_range] at h1
    rw [List.getElem_range] at h2
    subst h2
    exact ⟨h1, (Option.some.inj h).symm⟩
theorem iJ {lo hi : Int} : (eS lo hi).length = (hi - lo).toNat := by unfold eS; rw [List.length_map, List.length_range]
theorem xU {lo hi : Int} : ItOk G (Itr lo (hi - lo).toNat) (eS lo hi) B F H := fun F' H' s i => by
  refine ⟨fun d hd => ?_, fun hl => by rw [iJ] at hl; exact hl⟩
  obtain ⟨h1, h2⟩ := rH hd
  subst h2
  exact ⟨h1, fun x H'' ⟨e, y⟩ => by subst e; subst y; exact ⟨Stp.refl, fun _ _ h => h, rfl⟩⟩
theorem nS {i : Nat} {d : D} (h : (numbered ds)[i]? = some d) : ∃ e, ds[i]? = some e ∧ d = .pr [.int (i : Nat), e] := by
  unfold numbered at h
  rw [List.getElem?_map, List.getElem?_zipIdx] at h
  cases e : ds[i]? with
  | none => rw [e] at h; cases h
  | some n =>
    rw [e] at h
    refine ⟨n, rfl, (Option.some.inj h).symm.trans ?_⟩
    simp
theorem lm : (numbered ds).length = ds.length := by unfold numbered; rw [List.length_map, List.length_zipIdx]
theorem mj {p : Addr} {o : HO} (hp : H p = none) : ∀ b u, H b = some u → upd H p o b = some u := fun b u e => by rw [upd_ne (ne_of_none e hp)]; exact e
theorem xX (h1 : Rd H a (.tup vs)) (h2 : RpL G F H ds vs) : ItOk G (DLe.Itte K a) (numbered ds) B F H := fun F' H' s i => by
  have q1 : Rd H' a (.tup vs) := s.ht a vs h1
  have q2 : RpL G F' H' ds vs := RpL.mono s ds vs h2
  refine ⟨fun d hd => ?_, fun hl => ⟨vs, .inl q1, by rw [lm] at hl; rw [← q2.length]; exact hl⟩⟩
  obtain ⟨e, he, ed⟩ := nS hd
  subst ed
  obtain ⟨v, hv, rv⟩ := q2.get he
  refine ⟨⟨vs, v, .inl q1, hv⟩, fun x H'' ⟨T, y, ex, hT, eH, hy⟩ => ?_⟩
  subst ex eH
  have z := hy vs (.inl q1)
  rw [hv] at z
  cases z
  have st : Stp B F' H' F' (upd H' T (.tup [.int (i : Nat), v])) := gC hT
  exact ⟨st, mj hT, T, _, rfl, .inl upd_same, _, _, rfl, rfl, _, _, rfl, Rp.mono st e v rv, rfl⟩
theorem signs_get {s : Str} {i : Nat} {d : D} (h : (signs s)[i]? = some d) : ∃ c, s.cps[i]? = some c ∧ d = .str ⟨#[c]⟩ := by
  unfold signs at h
  rw [List.getElem?_map] at h
  cases e : s.cps.toList[i]? with
  | none => rw [e] at h; cases h
  | some c =>
    rw [e] at h
    exact ⟨c, by simpa using e, (Option.some.inj h).symm⟩
theorem xS {s : Str} : ItOk G (Its s) (signs s) B F H := fun F' H' st i => by
  have w := walk_str (z := s)
  refine ⟨fun d hd => ?_, fun hl => ?_⟩
  · obtain ⟨c, hc, ed⟩ := signs_get hd
    subst ed
    have hi : i < s.cps.size := (Array.getElem?_eq_some_iff.mp hc).1
    refine ⟨w.goes i H' hi trivial, fun x H'' y => ?_⟩
    obtain ⟨e, c', hc', ex⟩ := w.yields i H' x H'' hi trivial y
    rw [hc] at hc'
    cases hc'
    subst e ex
    exact ⟨Stp.refl, fun _ _ h => h, rfl⟩
  · have hl' : s.cps.size ≤ i := by
      unfold signs at hl
      rw [List.length_map] at hl
      simpa using hl
    first | exact w.stops i H' hl' trivial | exact hl'
end
section
variable {X : Cx} {C : Addr} {W : WX} {e tg : Expr} {es : List Expr} {m k : M Fl} {md : M D} {ms : M (List D)} {mt : M Bool} {p pos tpos : Pos} {is : List Nat}
theorem qR (he : PE X e (tD (gx X C) W md)) : PI X tg e (tI (gx X C) W (aq md bD)) := mU (pi_tup he) fun σ H Q h => (dQ (Ra := RD (gx X C)) h).imp fun x H1 ⟨B, F, env, d, q, r⟩ => by
  cases d with
  | tup ds => obtain ⟨a, vs, e0, h1, h2⟩ := r; exact ⟨a, e0, ⟨vs, .inl h1.rd⟩, Pt.pure (c := ds) q (tX h1.rd h2)⟩
  | pr ds => obtain ⟨a, vs, e0, h1, h2⟩ := r; exact ⟨a, e0, ⟨vs, .inl h1⟩, Pt.pure (c := ds) q (tX h1 h2)⟩
  | _ => exact (Pt.no q).elim
theorem nq (he : PE X e (tD (gx X C) W md)) : PI X tg e (tI (gx X C) W (aq md bv)) := mU (pi_list he) fun σ H Q h => (dQ (Ra := RD (gx X C)) h).imp fun x H1 ⟨B, F, env, d, q, r⟩ => by
  cases d with
  | lst ds => obtain ⟨a, vs, e0, hF, h1, h2⟩ := r; exact ⟨a, e0, ⟨vs, SqL.of h1⟩, Pt.pure (c := ds) q (xV hF h1 h2)⟩
  | scr ns => obtain ⟨a, e0, h⟩ := r; exact ⟨a, e0, ⟨_, sY (B := B) h Stp.refl⟩, Pt.pure (c := ns.map D.int) q (xT h)⟩
  | _ => exact (Pt.no q).elim
theorem zh (he : PE X e (tD (gx X C) W md)) : PI X tg e (tI (gx X C) W (aq md wX)) := mU (pi_str he) fun σ H Q h => (dQ (Ra := RD (gx X C)) h).imp fun x H1 ⟨B, F, env, d, q, r⟩ => by
  cases d with
  | str s => exact ⟨s, r, Pt.pure (c := signs s) q xS⟩
  | _ => exact (Pt.no q).elim
theorem nY {a : Expr} (hg : Gl X "range") (hm : X.mg "range" = none) (ha : PA X [a] (oF (gx X C) W ms)) (hs : starEach [a] X.env = [(false, eval a X.env)] := by rfl) : PI X tg (.Call (.Name "range" p) [a] [] pos) (tI (gx X C) W (aq ms cX)) :=
  mU (pi_range1 hg hm ha hs) fun σ H Q h => (dQ (Ra := qw (gx X C)) h).imp fun xs H1 ⟨B, F, env, ds, q, r⟩ => by
    cases ds with
    | nil => exact (Pt.no q).elim
    | cons d ds => cases ds with
      | nil => cases d with
        | int j =>
          obtain ⟨v, r', e0, rv, rn⟩ := r
          cases (show _ = _ from rn)
          obtain ⟨⟨b1, b2⟩, q⟩ := Pt.asked q
          refine ⟨j, by rw [e0]; exact congrArg (fun z => [z]) rv, b1, b2, ?_⟩
          have z := Pt.pure (c := eS 0 j) q (b := Itr 0 (j - 0).toNat) xU
          rw [Int.sub_zero] at z
          exact z
        | _ => exact (Pt.no q).elim
      | cons _ _ => cases d <;> exact (Pt.no q).elim
theorem zj {kk : Nat} (hg : Gl X "enumerate") (hm : X.mg "enumerate" = none) (ha : PA X [e] (oF (gx X C) W ms)) (hs : starEach [e] X.env = [(false, eval e X.env)] := by rfl) : PI X (.Tuple es kk tpos) (.Call (.Name "enumerate" p) [e] [] pos) (tI (gx X C) W (aq ms bV)) :=
  mU (DLe.pi_enT hg hm ha hs) fun σ H Q h => (dQ (Ra := qw (gx X C)) h).imp fun xs H1 ⟨B, F, env, ds, q, r⟩ => by
    cases ds with
    | nil => exact (Pt.no q).elim
    | cons d ds => cases ds with
      | nil => cases d with
        | tup ds =>
          obtain ⟨v, r', e0, ⟨a, vs, ev, h1, h2⟩, rn⟩ := r
          cases (show _ = _ from rn)
          subst ev
          exact ⟨a, vs, e0, .inl h1.rd, Pt.pure (c := numbered ds) q (xX h1.rd h2)⟩
        | _ => exact (Pt.no q).elim
      | cons _ _ => cases d <;> exact (Pt.no q).elim
def m9 (again : M Fl) : Fl → M Fl
  | .nx => again
  | .ct => again
  | .bk => ret .nx
  | .rt r => ret (.rt r)
def forL (tg : D → M Unit) (body : M Fl) : List D → M Fl
  | [] => ret .nx
  | d :: ds => aq (tg d) fun _ => aq body (m9 (forL tg body ds))
def cU (items : M (List D)) (tg : D → M Unit) (body : M Fl) : M Fl := aq items (forL tg body)
theorem mR {iter : Expr} {body : List Stmt} {k : D → M Unit} (hp : PassesOwn (model X.prog X.w) X.A X.env X.xe) (hc : X.calm = true) (hi : PI X tg iter (tI (gx X C) W ms)) (hg : PG X tg (xh (gx X C) is k)) (hb : PSs X body (tS (gx X C) W m))
    (nox : ∀ d env Q E, k d env Q E → k d env Q (fun _ _ => False)) (hs : ∀ x, foldedSetIterable iter X.env x = pure x := by intro _; rfl) : PS X (.For tg iter body [] pos) (tS (gx X C) W (cU ms k m)) :=
  iO (ps_for hp hc hi hg hb hs) fun Z σ H ⟨B, F, env, h⟩ => (h.bind (Ra := RI (gx X C)) (as := []) (xs := [])).imp fun J H1 ⟨F1, env1, ds, ⟨Qd, Ed, rel, hm, h1, h2, h3, h4, h5⟩, it⟩ => by
    refine ⟨fun i m' σ' H' => m' = ds.length - i ∧ i ≤ ds.length ∧ ∃ F' env', Rel (gx X C) B F' σ' env' H' ∧ Stp B F1 H1 F' H' ∧ forL k m (ds.drop i) env' Qd Ed, ⟨_, rfl, Nat.zero_le _, F1, env1, rel, Stp.refl, hm⟩, ?_⟩
    rintro i m' σ2 H2 ⟨rfl, hi, F2, env2, rel2, st2, hm2⟩
    obtain ⟨go, stop⟩ := it F2 H2 st2 i
    by_cases hl : i < ds.length
    · refine .inr ⟨(go ds[i] (List.getElem?_eq_getElem hl)).1, fun σ' H' => i + 1 ≤ ds.length ∧ ∃ F' env', Rel (gx X C) B F' σ' env' H' ∧ Stp B F1 H1 F' H' ∧ forL k m (ds.drop (i + 1)) env' Qd Ed, fun σ' H' ⟨a, b⟩ => ⟨_, by omega, rfl, a, b⟩, fun x H3 y => ?_⟩
      obtain ⟨st3, kp, rx⟩ := (go ds[i] (List.getElem?_eq_getElem hl)).2 x H3 y
      have rel3 : Rel (gx X C) B F2 σ2 env2 H3 := rel2.step st3 (fun j a o => ⟨by
        obtain ⟨n, _, _⟩ := rel2.ownSome o
        cases e : H2 a with
        | none => exact absurd e n
        | some u => exact kp a u e, (rel2.ownSome o).2.1⟩) fun a z => st3.hs a (.inr z) (rel2.hF a z)
      have hm3 : forL k m (ds[i] :: ds.drop (i + 1)) env2 Qd Ed := by
        rw [← List.drop_eq_getElem_cons hl]; exact hm2
      refine ⟨B, F2, env2, ds[i], fun env' => m env' (fun f env'' => m9 (forL k m (ds.drop (i + 1))) f env'' Qd Ed) Ed, rel3, rx, nox _ _ _ _ hm3, fun env' σ' q rl _ _ => ?_⟩
      refine ⟨B, F2, env', fun f env'' => m9 (forL k m (ds.drop (i + 1))) f env'' Qd Ed, Ed, rl, q, ?_, ?_, ?_, ?_, ?_⟩
      · exact fun e s4 F4 H4 q4 st4 rl4 => ⟨hl, F4, e, rl4, (st2.trans st3).trans st4, q4⟩
      · exact fun e s4 F4 H4 q4 st4 rl4 => h1 e s4 F4 H4 q4 ((st2.trans st3).trans st4) rl4
      · exact fun e s4 F4 H4 q4 st4 rl4 => ⟨hl, F4, e, rl4, (st2.trans st3).trans st4, q4⟩
      · exact fun r e s4 F4 H4 v q4 st4 rl4 rr => h4 r e s4 F4 H4 v q4 ((st2.trans st3).trans st4) rl4 rr
      · exact fun x e s4 c d F4 H4 q4 st4 rl4 rr => h5 x e s4 c d F4 H4 q4 ((st2.trans st3).trans st4) rl4 rr
    · have e : i = ds.length := by omega
      subst e
      rw [List.drop_length] at hm2
      exact .inl ⟨stop (Nat.le_refl _), h1 env2 σ2 F2 H2 hm2 st2 rel2⟩
end
end
section
variable [Tbs]
theorem nD {σ : L2.St} {j : Nat} : ∀ {vs : List Nat}, j ∈ vs → j < σ.length → (wipe σ vs)[j]? = some none
  | [], h, _ => by cases h
  | v :: vs, h, l => by
    show ((wipe σ vs).set v none)[j]? = _
    by_cases e : v = j
    · subst e
      rw [List.getElem?_set_self (by rw [wipe_length]; exact l)]
    · rw [List.getElem?_set_ne e]
      exact nD ((List.mem_cons.mp h).elim (fun z => absurd z.symm e) id) l
theorem qx {σ σ' : L2.St} {vs : List Nat} (hl : σ'.length = σ.length) (h : ∀ j, j ∉ vs → σ'[j]? = σ[j]?) : wipe σ' vs = wipe σ vs := by
  refine List.ext_getElem? fun j => ?_
  by_cases hj : j ∈ vs
  · by_cases l : j < σ.length
    · rw [nD hj l, nD hj (by omega)]
    · rw [List.getElem?_eq_none (by rw [wipe_length]; omega), List.getElem?_eq_none (by rw [wipe_length]; omega)]
  · rw [wipe_out hj, wipe_out hj, h j hj]
theorem rA {σ : L2.St} {vs : List Nat} : wipe (wipe σ vs) vs = wipe σ vs := qx (wipe_length ..) fun j hj => wipe_out hj
section
variable {G : Gx} {B B' F F' F0 : Addr → Prop} {σ σ2 : L2.St} {H H' H0 : Hp} {env env0 : List Slot}
theorem Stp.less (s : Stp B' F H F' H') (h : ∀ a, B a → B' a) : Stp B F H F' H' := ⟨s.fm, fun a q => (s.fn a q).imp id fun n z => n (h a z), fun a o q => s.hk0 a o (q.imp (h a) id), s.ht, s.tb, s.fz⟩
/-- one more address that nobody owns -/
theorem Rel.more (rel : Rel G B F σ env H) {p : Addr} (hp : Nt H p) (hn : ∀ i, ¬ dM env σ i p) : Rel G (fun a => B a ∨ a = p) F σ env H := by
  refine ⟨rel.len, fun i s e => ?_, rel.ap, fun a h => h.elim (rel.hB a) fun z => by rw [z]; exact hp, rel.hF, rel.tb⟩
  have q := rel.sl i s e
  cases s with
  | no => trivial
  | im d => exact q
  | ow o => obtain ⟨a, h1, h2, h3, h4⟩ := q; exact ⟨a, h1, h2, fun z => z.elim h3 fun w => by subst w; exact hn i (.inl ⟨⟨_, e, rfl⟩, h1⟩), h4⟩
  | io a o => obtain ⟨h1, h2, h3, h4⟩ := q; exact ⟨h1, h2, fun z => z.elim h3 fun w => by subst w; exact hn i (.inl ⟨⟨_, e, rfl⟩, h1⟩), h4⟩
  | tr r ns => exact ⟨q.1, q.2.root, q.2.nd, fun p hp => ⟨(q.2.at_ p hp).1, fun z => z.elim (q.2.at_ p hp).2.1 fun w => hn i (.inr ⟨r, ns, e, w ▸ List.mem_map.mpr ⟨p, hp, rfl⟩⟩), (q.2.at_ p hp).2.2⟩⟩
theorem Rel.less (rel : Rel G B' F σ env H) (h : ∀ a, B a → B' a) : Rel G B F σ env H := by
  refine ⟨rel.len, fun i s e => ?_, rel.ap, fun a q => rel.hB a (h a q), rel.hF, rel.tb⟩
  have q := rel.sl i s e
  cases s with
  | no => trivial
  | im d => exact q
  | ow o => obtain ⟨a, h1, h2, h3, h4⟩ := q; exact ⟨a, h1, h2, fun z => h3 (h a z), h4⟩
  | io a o => obtain ⟨h1, h2, h3, h4⟩ := q; exact ⟨h1, h2, fun z => h3 (h a z), h4⟩
  | tr r ns => exact ⟨q.1, q.2.root, q.2.nd, fun p hp => ⟨(q.2.at_ p hp).1, fun z => (q.2.at_ p hp).2.1 (h _ z), (q.2.at_ p hp).2.2⟩⟩
end
def hZ (tg : D → M Unit) (vs : List Nat) (cond : M Bool) (elt : M D) : List D → List D → M (List D)
  | [], acc => ret acc
  | d :: ds, acc => fun env Q E => aq (tg d) (fun _ => aq cond fun c => if c = true then aq elt fun y => fV (acc.length < sizeLine) (hZ tg vs cond elt ds (acc ++ [y])) else hZ tg vs cond elt ds acc) (aX env vs) Q E
/-- [elt for tg in items if cond] -/
def gZ (items : M (List D)) (tg : D → M Unit) (vs : List Nat) (cond : M Bool) (elt : M D) : M O := fun env Q E =>
  items env (fun ds env1 => hZ tg vs cond elt ds [] env1 (fun acc env2 => Q (.lst acc) (aO env1 env2 vs)) fun _ _ => False) E
abbrev W0 : WX := fun _ _ _ _ => False
section
variable {X : Cx} {C : Addr} {W : WX} {tg iter elt : Expr} {ifs : List Expr} {is : List Nat} {scope : Scope} {own : List (Str × Nat)} {pos : Pos} {ms : M (List D)} {mt : M Bool} {md : M D}
theorem xD {X : Cx} {ifs : List Expr} {t t' : TT} (h : PTs X ifs t) (i : ∀ σ H Q, t' σ H Q → t σ H Q) : PTs X ifs t' := ⟨fun pins s σ H Q I q => h.run pins s σ H Q I (i σ H Q q)⟩
theorem jJ : PTs X [] (lh (gx X C) W (ret true)) := xD pts_nil fun σ H Q ⟨B, F, env, h⟩ => h.pure rfl
theorem zH {c : Expr} (h : PT X c (lh (gx X C) W mt)) : PTs X [c] (lh (gx X C) W mt) := pts_one h
/-- the reading of a comprehension -/
theorem mE {k : D → M Unit} {σ : L2.St} {H : Hp} {Q : V → Hp → Prop} (hsub : ∀ i ∈ is, i ∈ own.map (·.2)) (nox : ∀ d env Q E, k d env Q E → k d env Q (fun _ _ => False))
    (h : tO (gx X C) W (gZ ms k (own.map (·.2)) mt md) σ H Q) : tLc (tI (gx X C) W ms) (xh (gx X C) is k) (lh (gx X C) W0 mt) (tD (gx X C) W0 md) (own.map (·.2)) σ H Q := by
  generalize own.map (·.2) = vs at hsub h
  obtain ⟨B, F, env, Qd, Ed, rel, hm, hq, he⟩ := h
  refine ⟨B, F, env, _, Ed, rel, hm, fun ds env1 J F1 H1 hc st1 rel1 it D hD => ?_, fun x env' cls d F' H' q st rl r => he x env' cls d F' H' q st rl r⟩
  have nB : ¬ B D := rel1.notB hD
  have nF : ¬ F1 D := rel1.notF hD
  -- the invariant
  refine ⟨fun i m H2 => m = ds.length - i ∧ i ≤ ds.length ∧ ∃ F2 σ2 env2 accD acc, H2 D = some (.lst acc) ∧ RpL (gx X C) F2 H2 accD acc ∧ Rel (gx X C) (fun a => B a ∨ a = D) F2 σ2 env2 H2 ∧ wipe σ2 vs = wipe σ vs ∧ Stp B F1 H1 F2 H2 ∧ ¬ F2 D ∧
    hZ k vs mt md (ds.drop i) accD env2 (fun acc env2 => Qd (.lst acc) (aO env1 env2 vs)) (fun _ _ => False),
    ⟨_, rfl, Nat.zero_le _, F1, σ, env1, [], [], upd_same, rfl, (rel1.new hD).more (Nt.of upd_same) (fun i o => (rel1.ownSome o).1 hD), rfl, gC hD, nF, hc⟩, ?_⟩
  rintro i m H2 ⟨rfl, hi, F2, σ2, env2, accD, acc, eD, racc, rel2, hw, st2, nF2, hc2⟩
  have stB : ∀ {F3 H3}, Stp (fun a => B a ∨ a = D) F2 H2 F3 H3 → Stp B F2 H2 F3 H3 := fun s => s.less fun _ z => .inl z
  obtain ⟨go, stop⟩ := it F2 H2 st2 i
  by_cases hl : i < ds.length
  · obtain ⟨g1, g2⟩ := go ds[i] (List.getElem?_eq_getElem hl)
    refine .inr ⟨g1, fun H' => i + 1 ≤ ds.length ∧ ∃ F2 σ2 env2 accD acc, H' D = some (.lst acc) ∧ RpL (gx X C) F2 H' accD acc ∧ Rel (gx X C) (fun a => B a ∨ a = D) F2 σ2 env2 H' ∧ wipe σ2 vs = wipe σ vs ∧ Stp B F1 H1 F2 H' ∧ ¬ F2 D ∧
      hZ k vs mt md (ds.drop (i + 1)) accD env2 (fun acc env2 => Qd (.lst acc) (aO env1 env2 vs)) (fun _ _ => False), fun H' ⟨a, b⟩ => ⟨_, by omega, rfl, a, b⟩, fun x H3 y => ?_⟩
    obtain ⟨st3, kp, rx⟩ := g2 x H3 y
    have st3' : Stp (fun a => B a ∨ a = D) F2 H2 F2 H3 := jU kp
    have rel3 : Rel (gx X C) (fun a => B a ∨ a = D) F2 (wipe σ vs) (aX env2 vs) H3 := by
      rw [← hw]
      refine (rel2.step st3' (fun j a o => ⟨?_, (rel2.ownSome o).2.1⟩) fun a z => st3'.hs a (.inr z) (rel2.hF a z)).wipe vs
      obtain ⟨n, _, _⟩ := rel2.ownSome o
      cases e : H2 a with
      | none => exact absurd e n
      | some u => exact kp a u e
    have hc3 : hZ k vs mt md (ds[i] :: ds.drop (i + 1)) accD env2 (fun acc env2 => Qd (.lst acc) (aO env1 env2 vs)) (fun _ _ => False) := by
      rw [← List.drop_eq_getElem_cons hl]; exact hc2
    have racc3 : RpL (gx X C) F2 H3 accD acc := RpL.mono st3 _ _ racc
    refine ⟨fun a => B a ∨ a = D, F2, _, ds[i], _, rel3, rx, nox _ _ _ _ hc3, fun env4 σ4 q4 rel4 hl4 ho4 => ?_⟩
    have hw4 : wipe σ4 vs = wipe σ vs := (qx hl4 fun j hj => ho4 j fun z => hj (hsub j z)).trans rA
    refine ⟨hw4, fun a => B a ∨ a = D, F2, env4, _, _, rel4, q4, fun c env5 b F5 H5 q5 st5 rel5 rb => ?_, fun x env' cls d F' H' q st rl r => (show False from q).elim⟩
    cases (show c = b from rb)
    have hD5 : H5 D = some (.lst acc) := st5.hk D _ (.inl (.inr rfl)) (kp D _ eD)
    have nF5 : ¬ F5 D := fun z => (st5.fn D z).elim nF2 fun n => n (.inr rfl)
    have racc5 : RpL (gx X C) F5 H5 accD acc := RpL.mono st5 _ _ racc3
    have sAll : Stp B F1 H1 F5 H5 := st2.trans (st3.trans (st5.less fun _ z => .inl z))
    cases c with
    | false =>
      rw [if_neg Bool.false_ne_true] at q5 ⊢
      exact ⟨hl, F5, σ4, env5, accD, acc, hD5, racc5, rel5, hw4, sAll, nF5, q5⟩
    | true =>
      rw [if_pos rfl] at q5 ⊢
      refine ⟨fun a => B a ∨ a = D, F5, env5, _, _, rel5, q5, fun yd env6 yv F6 H6 q6 st6 rel6 ry => ?_, fun x env' cls d F' H' q st rl r => (show False from q).elim⟩
      obtain ⟨lz, q6⟩ := q6
      have hD6 : H6 D = some (.lst acc) := st6.hk D _ (.inl (.inr rfl)) hD5
      have nF6 : ¬ F6 D := fun z => (st6.fn D z).elim nF5 fun n => n (.inr rfl)
      have racc6 : RpL (gx X C) F6 H6 accD acc := RpL.mono st6 _ _ racc5
      have stw : Stp B F6 H6 F6 (upd H6 D (.lst (acc ++ [yv]))) := jr nF6 nB ⟨fun vs h => by rcases h with h | ⟨o, h⟩ <;> (rw [hD6] at h; cases h), fun o v z => by rw [hD6] at z; cases z⟩ (fun ps z => by rw [hD6] at z; cases z) fun q z => by rw [hD6] at z; have z2 : _ = HO.ext _ := Option.some.inj z; cases z2
      refine ⟨acc, hD6, by rw [← racc6.length]; exact lz, hl, F6, σ4, env6, accD ++ [yd], acc ++ [yv], upd_same, (RpL.mono stw _ _ racc6).snoc (Rp.mono stw _ _ ry), ?_, hw4, (sAll.trans (st6.less fun _ z => .inl z)).trans stw, nF6, q6⟩
      refine (Rel.more ((rel6.less fun _ z => .inl z).step stw (fun j a o => ⟨upd_ne fun z => by subst z; exact (rel6.ownSome o).2.2 (.inr rfl), (rel6.ownSome o).2.1⟩) fun a z => stw.hs a (.inr z) (rel6.hF a z)) (Nt.of upd_same) fun j o => (rel6.ownSome o).2.2 (.inr rfl))
  · have e : i = ds.length := by omega
    subst e
    rw [List.drop_length] at hc2
    refine .inl ⟨stop (Nat.le_refl _), ?_⟩
    have rel2' : Rel (gx X C) B F2 σ2 env2 H2 := rel2.less fun _ z => .inl z
    refine hq (.lst accD) (aO env1 env2 vs) (.ref D) F2 H2 hc2 (st1.trans st2) (rel1.back st2 rel2' hw) ⟨D, rfl, nF2, nB, ⟨acc, eD, racc⟩, fun j w => (rel2.ownSome (lV hw w)).2.2 (.inr rfl)⟩
theorem oU {k : D → M Unit} (hc : X.calm = true) (hN : X.N.Nodup) (hi : PI X tg iter (tI (gx X C) W ms)) (ok : BlkOk X.N X.env.scope scope own) (hsub : ∀ i ∈ is, i ∈ own.map (·.2)) (nox : ∀ d env Q E, k d env Q E → k d env Q (fun _ _ => False))
    (hg : ∀ (s : Shared) (H : Hp) (c : Addr) (cl : List (Str × Addr)) (fp : List Addr), PG (X.blk s H scope (compEnvC scope cl c X.env) fp) tg (xh (gx X C) is k)) (ht : ∀ (s : Shared) (H : Hp) (c : Addr) (cl : List (Str × Addr)) (fp : List Addr), PTs (X.blk s H scope (compEnvC scope cl c X.env) fp) ifs (lh (gx X C) W0 mt))
    (he : ∀ (s : Shared) (H : Hp) (c : Addr) (cl : List (Str × Addr)) (fp : List Addr), PE (X.blk s H scope (compEnvC scope cl c X.env) fp) elt (tD (gx X C) W0 md)) (hs : ∀ x, foldedSetIterable iter X.env x = pure x := by intro _; rfl) :
    PE X (.ListComp elt [⟨tg, iter, ifs, 0⟩] scope pos) (tO (gx X C) W (gZ ms k (own.map (·.2)) mt md)) := dN (pe_lc hc hN hi ok hg ht he hs) fun σ H Q h => mE hsub nox h
/-- an object that nobody owns is a datum from here on -/
def cF (m : M O) : M D := aq m fun o => match o with
  | .lst ds => ret (.lst ds)
  | _ => fail
theorem kY {e : Expr} {mo : M O} (h : PE X e (tO (gx X C) W mo)) : PE X e (tD (gx X C) W (cF mo)) := dN h fun σ H Q q => (dQ (Ra := RO (gx X C)) q).imp fun x H1 ⟨B, F, env, o, p, a, ea, hF, hB, ho, hn⟩ => by
  subst ea
  cases o with
  | lst ds =>
    obtain ⟨Qd, Ed, rel, hm, hq, he⟩ := p
    obtain ⟨vs, e1, r1⟩ := ho
    have st : Stp B F H1 (fun b => F b ∨ b = a) H1 := ⟨fun _ z => .inl z, fun b z => z.imp id fun w => by rw [w]; exact hB, fun b u z e _ => e, fun _ _ z => z, fun t => t.ext (fun _ z => .inl z) fun _ _ z => z, fun _ _ _ z => z⟩
    -- what is frozen now: kept by the old steps too
    have rel' : Rel (gx X C) B (fun b => F b ∨ b = a) σ env H1 := rel.step st (fun i b z => ⟨rfl, fun w => w.elim (rel.ownSome z).2.1 fun w => by subst w; exact hn i z⟩) fun b z => z.elim (rel.hF b) fun w => by rw [w]; exact Nt.of e1
    exact hq (.lst ds) env (.ref a) _ H1 hm st rel' ⟨a, vs, rfl, .inr rfl, e1, RpL.mono st ds vs r1⟩
  | _ => exact (Pt.no p).elim
end
end
section
variable [Tbs]
/-- the rule of a def by its body -/
theorem vV {P : Program} {w : World} {K : PySem.W.Frag} {mg : Str → Option Value} {base : Heap} {k : Nat} {f : Addr} {x qual : Str} {st : Stmt} {fd : FuncData} {N ps : List Str} {sp : Sp} (Fn : Fun K x qual st f fd) (S : FnScope N ps (defScope st)) (len : ∀ vs H Q E, sp vs H Q E → vs.length = ps.length)
    (body : ∀ (cdv : Value), cdv = fd.code → ∀ (A : Around) (outer : List Env) (s : Shared) (H : Hp) (vs : List V) (Q : VK) (E : XK), Room k (A.deeper (envOfC qual (defScope st) s.heap.objs.size f cdv)) → A.guards = some [] → sp vs H Q E →
      ∃ t, PSs (cxOf (DLz.CX P w) P w K mg base N qual (defScope st) f cdv A outer s H E) (defBody st) t ∧ t { nx := fun _ H' => Q .non H', rt := Q } (L2.start N vs) H) : FnG P w K mg base (k + 1) f fd ps sp := by
  obtain ⟨oc, od, kV, doc, pm, an, cdv, ct, osl, rfl, lk, hcd⟩ := Fn.ex
  constructor
  · exact len
  · intro A outer s H args us vs Q E hr hG e0 hb r hsp
    have KX : K.In s.heap := e0.mod.kin.keeps fun b o e => (e0.bs b o e).1
    have few : s.heap.NoLimit := e0.mod.nolimit.keeps fun b o e => (e0.bs b o e).1
    have kinds : ∀ y ∈ ps.zip us, (defScope st).names.lookup y.1 = some .local ∨ ((defScope st).names.lookup y.1 = some .cell ∧ ((cellsFrom (s.heap.objs.size + 1) (defScope st).names []).lookup y.1).isSome = true) := fun ⟨n, v⟩ hy =>
      (S.par n (List.of_mem_zip hy).1).imp id fun q => ⟨q, PySem.W.cellsFrom_some _ _ _ (.inl q)⟩
    refine codeAny_call_function hr.depth (KX _ _ lk) rfl S.co S.gen rfl (PySem.W.codeRec_of KX hcd) (hb _ _ _ _ (wpAny_newFunctionEnv_cells S.kind kinds fun env he s1 z => ?_))
    subst he
    obtain ⟨t, ht, hq⟩ := body cdv rfl A outer s H vs Q E (hr.deeper _) hG hsp
    have I := inv_start (CX := DLz.CX P w) (E := E) S hr.hd e0 (len _ _ _ _ hsp) r z
    refine ⟨few.keeps z.toInCall.keep, codeAny_func (wpAny_mono (ht.run [] s1 (L2.start N vs) H _ I hq) (fun fl s2 hs => ?_) fun e s2 hs => hs)⟩
    match fl, hs with
    | .ret u, ⟨v, σ2, H2, J, rv, q⟩ => exact ⟨v, H2, J.os, J.bare, J.base, J.hok, rv, q⟩
    | .next, ⟨σ2, H2, J, q⟩ => exact ⟨.non, H2, J.os, J.bare, J.base, J.hok, rfl, q⟩
    | .brk, ⟨_, _, _, q⟩ => exact q.elim
    | .cont, ⟨_, _, _, q⟩ => exact q.elim
theorem yj {P : Program} {w : World} {K : PySem.W.Frag} {mg : Str → Option Value} {base : Heap} {k : Nat} {f : Addr} {x qual : Str} {st : Stmt} {fd : FuncData} {N ps : List Str} {sp : Sp} (Fn : Fun K x qual st f fd) (S : FnScope N ps (defScope st)) (len : ∀ vs H Q E, sp vs H Q E → vs.length = ps.length)
    (body : ∀ (cdv : Value) (A : Around) (outer : List Env) (s : Shared) (H : Hp) (vs : List V) (Q : VK) (E : XK), Room k (A.deeper (envOfC qual (defScope st) s.heap.objs.size f cdv)) → A.guards = some [] → sp vs H Q E →
      ∃ t, PSs (cxOf (DLz.CX P w) P w K mg base N qual (defScope st) f cdv A outer s H E) (defBody st) t ∧ t { nx := fun _ H' => Q .non H', rt := Q } (L2.start N vs) H) : FnG P w K mg base (k + 1) f fd ps sp := vV Fn S len fun cdv _ => body cdv
def h8 (G : Gx) (n : Nat) (f : DF) : Sp := fun vs H Q E => vs.length = n ∧ ∃ (B F : Addr → Prop) (ss : List Slot) (Qd : Res → List Slot → Prop) (Ed : Exn → List Slot → Prop), Rel G B F (vs.map some) ss H ∧ f ss Qd Ed ∧
  (∀ r ss' v F' H', Qd r ss' → Stp B F H F' H' → Rel G B F' (vs.map some) ss' H' → yD G B F' ss' (vs.map some) H' r v → Q v H') ∧
  (∀ x ss' cls d F' H', Ed x ss' → Stp B F H F' H' → Rel G B F' (vs.map some) ss' H' → ExnR G F' H' x cls d → E cls d H')
/-- the parameters' slots behind the body -/
def cG : List Slot → List Slot → (List Slot → Prop) → Prop
  | [], _, k => k []
  | .io a _ :: as, .io b o :: es, k => a = b ∧ cG as es fun r => k (.io b o :: r)
  | .io _ _ :: as, .no :: es, k => cG as es fun r => k (.no :: r)
  | .io _ _ :: as, .ow _ :: es, k => cG as es fun r => k (.no :: r)
  | .io _ _ :: _, _, _ => False
  | .ow _ :: _, _, _ => False
  | .tr a _ :: as, .tr b ns :: es, k => a = b ∧ cG as es fun r => k (.tr b ns :: r)
  | .tr _ _ :: _, _, _ => False
  | s :: as, _ :: es, k => cG as es fun r => k (s :: r)
  | _ :: _, [], _ => False
def cz (len : Nat) (body : M Fl) : DF := fun ss Q E => body (ss ++ List.replicate (len - ss.length) .no) (fun f env' => match f with
  | .rt r => cG ss env' fun ss' => Q r ss'
  | .nx => cG ss env' fun ss' => Q (.d .non) ss'
  | _ => False) fun x env' => cG ss env' fun ss' => E x ss'
theorem pG {G : Gx} {B F F' : Addr → Prop} {H H' : Hp} (st : Stp B F H F' H') : ∀ {ss env' : List Slot} {σ σ' : L2.St} {k : List Slot → Prop}, (∀ (i : Nat) s, ss[i]? = some s → SlotR G B F H σ[i]? s) → σ.length = ss.length →
    (∀ (i : Nat) s, env'[i]? = some s → SlotR G B F' H' σ'[i]? s) → cG ss env' k → ∃ ss', k ss' ∧ ss'.length = ss.length ∧ (∀ (i : Nat) s, ss'[i]? = some s → SlotR G B F' H' σ[i]? s) ∧ (∀ (i : Nat) s, ss'[i]? = some s → s.has = true → env'[i]? = some s ∧ σ'[i]? = σ[i]?)
  | [], env', σ, σ', k, h1, hl, h2, h => ⟨[], h, rfl, fun i s e => by simp at e, fun i s e => by simp at e⟩
  | s0 :: ss, env', σ, σ', k, h1, hl, h2, h => by
    cases σ with
    | nil => simp at hl
    | cons x σ =>
      have h1' : ∀ (i : Nat) s, ss[i]? = some s → SlotR G B F H σ[i]? s := fun i s e => h1 (i + 1) s (by simpa using e)
      have hl' : σ.length = ss.length := by simpa using hl
      cases env' with
      | nil => cases s0 <;> exact (show False from h).elim
      | cons e0 es =>
        have h2' : ∀ (i : Nat) s, es[i]? = some s → SlotR G B F' H' (σ'.drop 1)[i]? s := fun i s e => by
          rw [List.getElem?_drop, Nat.add_comm]
          exact h2 (i + 1) s (by simpa using e)
        have wrap : ∀ {s1 : Slot}, cG ss es (fun r => k (s1 :: r)) → SlotR G B F' H' (some x) s1 → (s1.has = true → e0 = s1 ∧ σ'[0]? = some x) → ∃ ss', k ss' ∧ ss'.length = (s0 :: ss).length ∧ (∀ (i : Nat) s, ss'[i]? = some s → SlotR G B F' H' (x :: σ)[i]? s) ∧ (∀ (i : Nat) s, ss'[i]? = some s → s.has = true → (e0 :: es)[i]? = some s ∧ σ'[i]? = (x :: σ)[i]?) := fun {s1} hf hs ho => by
          obtain ⟨ss', k1, k2, k3, k4⟩ := pG st h1' hl' h2' hf
          refine ⟨s1 :: ss', k1, by simp [k2], fun i s e => ?_, fun i s e o => ?_⟩
          · cases i with
            | zero => simp at e; subst e; exact hs
            | succ i => exact k3 i s (by simpa using e)
          · cases i with
            | zero => simp at e; subst e; obtain ⟨z1, z2⟩ := ho o; exact ⟨by rw [z1]; rfl, z2⟩
            | succ i =>
              obtain ⟨z1, z2⟩ := k4 i s (by simpa using e) o
              refine ⟨by simpa using z1, ?_⟩
              rw [List.getElem?_drop, Nat.add_comm] at z2
              simpa using z2
        have q := h1 0 s0 rfl
        cases s0 with
        | no => exact wrap (s1 := .no) (by cases e0 <;> exact h) trivial (fun z => nomatch z)
        | im d => exact wrap (s1 := .im d) (by cases e0 <;> exact h) (by obtain ⟨v, e, r⟩ := q; exact ⟨v, e, Rp.mono st d v r⟩) (fun z => nomatch z)
        | ow o =>
          cases e0 <;> exact (show False from h).elim
        | tr a o =>
          cases e0 with
          | tr b o' =>
            obtain ⟨e, hf⟩ : a = b ∧ cG ss es (fun r => k (.tr b o' :: r)) := h
            subst e
            have q' := h2 0 _ rfl
            have z : some x = some (some (V.ref a)) := q.1
            exact wrap (s1 := .tr a o') hf ⟨z, q'.2⟩ fun _ => ⟨rfl, q'.1.trans z.symm⟩
          | _ => exact (show False from h).elim
        | io a o =>
          cases e0 with
          | io b o' =>
            obtain ⟨e, hf⟩ : a = b ∧ cG ss es (fun r => k (.io b o' :: r)) := h
            subst e
            have q' := h2 0 _ rfl
            have z : some x = some (some (V.ref a)) := q.1
            exact wrap (s1 := .io a o') hf ⟨z, q'.2⟩ fun _ => ⟨rfl, q'.1.trans z.symm⟩
          | no => exact wrap (s1 := .no) h trivial fun z => nomatch z
          | ow _ => exact wrap (s1 := .no) h trivial fun z => nomatch z
          | _ => exact (show False from h).elim
abbrev zL (E : XK) : WX := fun cls d _ H => E cls d H
/-- a def's body, entered as its promise says -/
theorem xr {G : Gx} {n : Nat} {N : List Str} {m : M Fl} {vs : List V} {H : Hp} {Q : VK} {E : XK} (hN : n ≤ N.length) (h : h8 G n (cz N.length m) vs H Q E) : tS G (zL E) m { nx := fun _ H' => Q .non H', rt := Q } (L2.start N vs) H := by
  obtain ⟨hl, B, F, ss, Qd, Ed, rel, hf, hq, he⟩ := h
  have lss : ss.length = vs.length := by rw [rel.len, List.length_map]
  have pre : ∀ i, i < vs.length → (L2.start N vs)[i]? = (vs.map some)[i]? := fun i h => by unfold L2.start; rw [List.getElem?_append_left (by simpa using h)]
  have pre2 : ∀ i, i < ss.length → (ss ++ List.replicate (N.length - ss.length) Slot.no)[i]? = ss[i]? := fun i h => by rw [List.getElem?_append_left h]
  have post2 : ∀ i s, ss.length ≤ i → (ss ++ List.replicate (N.length - ss.length) Slot.no)[i]? = some s → s = .no := fun i s h e => by
    rw [List.getElem?_append_right h, List.getElem?_replicate] at e
    split at e
    · exact (Option.some.inj e).symm
    · cases e
  have rel0 : Rel G B F (L2.start N vs) (ss ++ List.replicate (N.length - ss.length) Slot.no) H := by
    have own_lt : ∀ i a, dM (ss ++ List.replicate (N.length - ss.length) Slot.no) (L2.start N vs) i a → dM ss (vs.map some) i a := fun i a w => by
      obtain ⟨s, e, z⟩ := own_feet.mp w
      by_cases hi : i < ss.length
      · exact own_feet.mpr ⟨s, by rw [← pre2 i hi]; exact e, by rw [← pre i (by omega)]; exact z⟩
      · rw [post2 i s (by omega) e] at z; exact (j6 z).elim
    refine ⟨?_, fun i s e => ?_, fun i j a h1 h2 => rel.ap i j a (own_lt i a h1) (own_lt j a h2), rel.hB, rel.hF, rel.tb⟩
    · unfold L2.start
      rw [List.length_append, List.length_append, List.length_map, List.length_replicate, List.length_replicate, lss]
    · by_cases hi : i < ss.length
      · rw [pre i (by omega)]
        exact rel.sl i s (by rw [← pre2 i hi]; exact e)
      · rw [post2 i s (by omega) e]
        trivial
  have back : ∀ {env' : List Slot} {σ' : L2.St} {F' : Addr → Prop} {H' : Hp} {kk : List Slot → Prop}, Stp B F H F' H' → Rel G B F' σ' env' H' → cG ss env' kk → ∃ ss', kk ss' ∧ Rel G B F' (vs.map some) ss' H' ∧ (∀ (i : Nat) s, ss'[i]? = some s → s.has = true → env'[i]? = some s ∧ σ'[i]? = (vs.map some)[i]?) := fun {env' σ' F' H' kk} st rl hf => by
    obtain ⟨ss', k1, k2, k3, k4⟩ := pG st rel.sl (by rw [← rel.len]) rl.sl hf
    refine ⟨ss', k1, ⟨by rw [k2]; exact rel.len, k3, fun i j a w1 w2 => ?_, rl.hB, rl.hF, rl.tb⟩, k4⟩
    obtain ⟨s1, e1, z1⟩ := own_feet.mp w1
    obtain ⟨s2, e2, z2⟩ := own_feet.mp w2
    obtain ⟨a1, a2⟩ := k4 i s1 e1 (iS z1)
    obtain ⟨b1, b2⟩ := k4 j s2 e2 (iS z2)
    exact rl.ap i j a (own_feet.mpr ⟨s1, a1, a2 ▸ z1⟩) (own_feet.mpr ⟨s2, b1, b2 ▸ z2⟩)
  refine ⟨B, F, _, _, _, rel0, hf, fun env' σ' F' H' q st rl => ?_, fun env' σ' F' H' q st rl => q.elim, fun env' σ' F' H' q st rl => q.elim, fun r env' σ' F' H' v q st rl rr => ?_, fun x env' σ' cls d F' H' q st rl rx => ?_⟩
  · obtain ⟨ss', k1, k2, k3⟩ := back st rl q
    exact hq _ ss' .non F' H' k1 st k2 rfl
  · obtain ⟨ss', k1, k2, k3⟩ := back st rl q
    refine hq r ss' v F' H' k1 st k2 ?_
    cases r with
    | d d => exact rr
    | o o =>
      obtain ⟨a, ea, h1, h2, h3, h4⟩ := rr
      exact ⟨a, ea, h1, h2, h3, fun i b p e => h4.1 i b p (k3 i _ e rfl).1, fun i b ns e => h4.2 i b ns (k3 i _ e rfl).1⟩
    | t r0 ns =>
      obtain ⟨ea, t, h4⟩ := rr
      exact ⟨ea, t, fun a ha i b p e => h4 a ha i b p (k3 i _ e rfl).1⟩
  · obtain ⟨ss', k1, k2, k3⟩ := back st rl q
    exact he x ss' cls d F' H' k1 st k2 rx
/-- THE RULE for a def of the text -/
theorem lq {P : Program} {w : World} {K : PySem.W.Frag} {mg : Str → Option Value} {base : Heap} {k n : Nat} {f C : Addr} {x qual : Str} {st : Stmt} {fd : FuncData} {N ps : List Str} {m : M Fl} (Fn : Fun K x qual st f fd) (S : FnScope N ps (defScope st)) (hn : n = ps.length) (hN : n ≤ N.length)
    (body : ∀ (cdv : Value) (A : Around) (outer : List Env) (s : Shared) (H : Hp) (E : XK), Room k (A.deeper (envOfC qual (defScope st) s.heap.objs.size f cdv)) → A.guards = some [] →
      PSs (cxOf (DLz.CX P w) P w K mg base N qual (defScope st) f cdv A outer s H E) (defBody st) (tS ⟨C, mg, K, w, P⟩ (zL E) m)) : FnG P w K mg base (k + 1) f fd ps (h8 ⟨C, mg, K, w, P⟩ n (cz N.length m)) := by
  exact yj Fn S (fun vs H Q E h => h.1.trans hn) fun cdv A outer s H vs Q E hr hG h => ⟨_, body cdv A outer s H E hr hG, xr hN h⟩
inductive Ar where
  | d (d : D) | o (i : Nat)
def sM (G : Gx) : (Addr → Prop) → (Addr → Prop) → List Slot → L2.St → Hp → List Ar → List V → Prop
  | _, _, _, _, _, [], vs => vs = []
  | B, F, env, σ, H, .d d :: as, vs => ∃ v r, vs = v :: r ∧ Rp G F H d v ∧ sM G B F env σ H as r
  | B, F, env, σ, H, .o i :: as, vs => ∃ v r, vs = v :: r ∧ σ[i]? = some (some v) ∧ sM G B F env σ H as r
abbrev yE (G : Gx) (W : WX) (m : M (List Ar)) : TA := Lift G W (sM G) m
abbrev yL (G : Gx) (W : WX) (m : M Res) : TE := Lift G W (qt G) m
def ao (m : M D) (ms : M (List Ar)) : M (List Ar) := aq m fun d => aq ms fun as => ret (.d d :: as)
def aZ (i : Nat) (ms : M (List Ar)) : M (List Ar) := aq (getO i) fun _ => aq ms fun as => ret (.o i :: as)
theorem kE {i : Nat} {env : List Slot} {Q : O → List Slot → Prop} {E : Exn → List Slot → Prop} (h : getO i env Q E) : ∃ o, ((env[i]? = some (.ow o)) ∨ ∃ b, env[i]? = some (.io b o)) ∧ Q o env := by
  unfold getO at h
  cases q : env[i]? with
  | none => rw [q] at h; exact h.elim
  | some s =>
    rw [q] at h
    cases s with
    | ow o => exact ⟨o, .inl rfl, h⟩
    | io a o => exact ⟨o, .inr ⟨a, rfl⟩, h⟩
    | _ => exact h.elim
section
variable {X : Cx} {C : Addr} {W : WX} {e : Expr} {es : List Expr} {md : M D} {ms : M (List Ar)}
theorem cH : PA X [] (yE (gx X C) W (ret [])) := kN pa_nil fun σ H Q ⟨B, F, env, h⟩ => h.pure rfl
theorem dg (ha : PE X e (tD (gx X C) W md)) (hr : PA X es (yE (gx X C) W ms)) (hs : starEach (e :: es) X.env = (false, eval e X.env) :: starEach es X.env := by rfl) : PA X (e :: es) (yE (gx X C) W (ao md ms)) :=
  kN (pa_cons ha hr hs) fun σ H Q h => (dQ (Ra := RD (gx X C)) h).imp fun x H1 ⟨B, F, env, d, p, r⟩ =>
    (p.bind (Ra := sM (gx X C)) (as := [d]) (xs := [x]) ⟨x, [], rfl, r, rfl⟩).imp fun xs H2 ⟨F2, env2, as, p2, ⟨x', r', e, rd, _⟩, rs⟩ => by
      cases e
      exact Pt.pure (c := Ar.d d :: as) p2 ⟨x, xs, rfl, rd, rs⟩
theorem kJ {i : Nat} (ha : PE X e (tVar i)) (hr : PA X es (yE (gx X C) W ms)) (hs : starEach (e :: es) X.env = (false, eval e X.env) :: starEach es X.env := by rfl) : PA X (e :: es) (yE (gx X C) W (aZ i ms)) :=
  kN (pa_cons ha hr hs) fun σ H Q ⟨B, F, env, Qd, Ed, rel, hm, hq, he⟩ => by
    have hm : getO i env (fun _ env' => aq ms (fun as => ret (.o i :: as)) env' Qd Ed) Ed := hm
    obtain ⟨o, ho, hm⟩ := kE hm
    obtain ⟨a, ea, _⟩ := rel.owned ho
    refine ⟨.ref a, ea, ?_⟩
    have p : Pt (gx X C) W (sM (gx X C)) σ H Q (aq ms fun as => ret (.o i :: as)) B F env := ⟨Qd, Ed, rel, hm, hq, he⟩
    exact (p.bind (Ra := sM (gx X C)) (as := []) (xs := []) rfl).imp fun xs H2 ⟨F2, env2, as, p2, _, rs⟩ => Pt.pure (c := Ar.o i :: as) p2 ⟨.ref a, xs, rfl, ea, rs⟩
end
def cN : List Ar → Option (List D)
  | [] => some []
  | .d d :: r => (cN r).map (d :: ·)
  | .o _ :: _ => none
def split1 : List Ar → Option (List D × Nat × List D)
  | [] => none
  | .d d :: r => (split1 r).map fun p => (d :: p.1, p.2)
  | .o i :: r => (cN r).map fun ds => ([], i, ds)
def callD (f : DF) (ds : List D) : M Res := fun env Q E => f (ds.map .im) (fun r _ => Q r env) (fun x _ => E x env)
def cO (n i : Nat) (env ss : List Slot) (k : List Slot → Prop) : Prop := match ss[n]? with
  | some (.io _ o) => k (putS env i o)
  | _ => False
def call1 (f : DF) (l : List D) (i : Nat) (r : List D) : M Res := fun env Q E => match env[i]? with
  | some (.ow o) => ∀ a, f (l.map .im ++ .io a o :: r.map .im) (fun v ss => cO l.length i env ss (Q v)) (fun x ss => cO l.length i env ss (E x))
  | some (.io a o) => f (l.map .im ++ .io a o :: r.map .im) (fun v ss => cO l.length i env ss (Q v)) (fun x ss => cO l.length i env ss (E x))
  | _ => False
def callA (f : DF) (as : List Ar) : M Res := match cN as with
  | some ds => callD f ds
  | none => match split1 as with
    | some (l, i, r) => call1 f l i r
    | none => fail
theorem oy : ∀ {as : List Ar} {ds : List D}, cN as = some ds → as = ds.map .d
  | [], ds, h => by cases h; rfl
  | .d d :: r, ds, h => by
    cases e : cN r with
    | none => simp [cN, e] at h
    | some l => simp [cN, e] at h; subst h; rw [List.map_cons, ← oy e]
  | .o _ :: _, ds, h => by cases h
theorem mP : ∀ {as : List Ar} {l : List D} {i : Nat} {r : List D}, split1 as = some (l, i, r) → as = l.map .d ++ .o i :: r.map .d
  | [], _, _, _, h => by cases h
  | .d d :: as, l, i, r, h => by
    cases e : split1 as with
    | none => simp [split1, e] at h
    | some p =>
      simp [split1, e] at h
      obtain ⟨h1, h2⟩ := h
      subst h1
      obtain ⟨p1, p2, p3⟩ := p
      simp at h2
      obtain ⟨h2, h3⟩ := h2
      subst h2 h3
      rw [mP e]; rfl
  | .o j :: as, l, i, r, h => by
    cases e : cN as with
    | none => simp [split1, e] at h
    | some ds =>
      simp [split1, e] at h
      obtain ⟨h1, h2, h3⟩ := h
      subst h1 h2 h3
      rw [← oy e]; rfl
end
section
variable [Tbs]
section
variable {G : Gx} {W : WX} {B F : Addr → Prop} {σ : L2.St} {H : Hp} {env : List Slot}
theorem tF : ∀ {ds : List D} {vs : List V}, sM G B F env σ H (ds.map .d) vs → RpL G F H ds vs
  | [], _, h => h
  | d :: ds, _, ⟨v, r, e, h1, h2⟩ => ⟨v, r, e, h1, tF h2⟩
theorem mS : ∀ {l : List D} {i : Nat} {r : List D} {vs : List V}, sM G B F env σ H (l.map .d ++ .o i :: r.map .d) vs → ∃ vl v vr, vs = vl ++ v :: vr ∧ RpL G F H l vl ∧ σ[i]? = some (some v) ∧ RpL G F H r vr
  | [], i, r, _, ⟨v, vr, e, h1, h2⟩ => ⟨[], v, vr, e, rfl, h1, tF h2⟩
  | d :: l, i, r, _, ⟨v, rest, e, h1, h2⟩ => by
    obtain ⟨vl, w, vr, e2, a, b, c⟩ := mS h2
    subst e e2
    exact ⟨v :: vl, w, vr, rfl, ⟨v, vl, rfl, h1, a⟩, b, c⟩
theorem j3 {B' : Addr → Prop} {ds : List D} {vs : List V} (h : RpL G F H ds vs) {i : Nat} {s : Slot} (e : (ds.map Slot.im)[i]? = some s) : SlotR G B' F H (vs.map some)[i]? s ∧ s.has = false := by
  rw [List.getElem?_map] at e
  cases q : ds[i]? with
  | none => rw [q] at e; cases e
  | some d =>
    rw [q] at e
    cases e
    obtain ⟨v, hv, rv⟩ := h.get q
    exact ⟨⟨v, by rw [List.getElem?_map, hv]; rfl, rv⟩, rfl⟩
theorem u5 {B' : Addr → Prop} {ds : List D} {vs : List V} (h : RpL G F H ds vs) (hB : ∀ a, B' a → Nt H a) (hF : ∀ a, F a → Nt H a) (tb : TabF Tbs.T F H) : Rel G B' F (vs.map some) (ds.map .im) H :=
  ⟨by rw [List.length_map, List.length_map, h.length], fun i s e => (j3 h e).1, fun i j a w _ => by
    obtain ⟨s, e, o⟩ := own_feet.mp w
    rw [List.getElem?_map] at e
    cases q : ds[i]? with
    | none => rw [q] at e; cases e
    | some d => rw [q] at e; cases e; exact (jB o).elim, hB, hF, tb⟩
/-- the caller's slots behind a step of the callee's -/
theorem Rel.called {B' F' : Addr → Prop} {H' : Hp} (rel : Rel G B F σ env H) (st : Stp B' F H F' H') (hBB : ∀ a, B a → B' a) (ho : ∀ i a, dM env σ i a → B' a) (hF' : ∀ a, F' a → Nt H' a) : Stp B F H F' H' ∧ Rel G B F' σ env H' := by
  have st' : Stp B F H F' H' := st.less hBB
  refine ⟨st', rel.step st' (fun i a o => ?_) hF'⟩
  obtain ⟨n, nF, nB⟩ := rel.ownSome o
  refine ⟨?_, fun z => (st.fn a z).elim nF fun w => w (ho i a o)⟩
  cases e : H a with
  | none => exact absurd e n
  | some u => exact st.hk a u (.inl (ho i a o)) e fun ps z => rel.ownTab o ps (z ▸ e)
theorem kL {B' F' : Addr → Prop} {H' : Hp} {r : Res} {v : V} {ss : List Slot} {τ : L2.St} (hBB : ∀ a, B a → B' a) (hn : ∀ a, ¬ B' a → (∀ (i : Nat) b p, ss[i]? = some (.io b p) → b ≠ a) → ∀ i, ¬ dM env σ i a) (rr : yD G B' F' ss τ H' r v) : qt G B F' env σ H' r v := by
  cases r with
  | d d => exact rr
  | o o =>
    obtain ⟨a, ea, h1, h2, h3, h4⟩ := rr
    exact ⟨a, ea, h1, fun z => h2 (hBB a z), h3, hn a h2 h4.1⟩
  | t r0 ns =>
    obtain ⟨ea, t, h4⟩ := rr
    exact ⟨ea, ⟨t.root, t.nd, fun p hp => ⟨(t.at_ p hp).1, fun z => (t.at_ p hp).2.1 (hBB _ z), (t.at_ p hp).2.2⟩⟩, fun b hb => by
      obtain ⟨n, _, _, nB, _⟩ := t.of hb
      exact hn b nB (h4 b hb)⟩
/-- a call without an object of the caller's own -/
theorem Pt.callD {Q : V → Hp → Prop} {n : Nat} {f : DF} {ds : List D} {vs : List V} (h : Pt G W (qt G) σ H Q (callD f ds) B F env) (r : RpL G F H ds vs) (hl : vs.length = n) : h8 G n f vs H Q (WE W σ) := by
  obtain ⟨Qd, Ed, rel, hm, hq, he⟩ := h
  have hBB : ∀ a, B a → Nt H a := rel.hB
  have hoo : ∀ i a, dM env σ i a → Nt H a := fun i a o => ⟨(rel.ownSome o).1, rel.ownTab o⟩
  refine ⟨hl, fun a => Nt H a, F, ds.map .im, _, _, u5 r (fun _ h => h) rel.hF rel.tb, hm, fun rr ss' v F' H' q st rl rs => ?_, fun x ss' cls d F' H' q st rl rx => ?_⟩
  · obtain ⟨st', rel'⟩ := rel.called st hBB hoo rl.hF
    exact hq rr env v F' H' q st' rel' (kL hBB (fun a z _ i o => z (hoo i a o)) rs)
  · obtain ⟨st', rel'⟩ := rel.called st hBB hoo rl.hF
    exact he x env cls d F' H' q st' rel' rx
/-- the slots ahead of one, and behind -/
theorem vE {α : Type} {l r : List α} {x : α} {i : Nat} {y : α} (h : (l ++ x :: r)[i]? = some y) : (i < l.length ∧ l[i]? = some y) ∨ (i = l.length ∧ y = x) ∨ (l.length < i ∧ r[i - l.length - 1]? = some y) := by
  by_cases h1 : i < l.length
  · rw [List.getElem?_append_left h1] at h; exact .inl ⟨h1, h⟩
  · rw [List.getElem?_append_right (by omega)] at h
    by_cases h2 : i = l.length
    · subst h2
      simp at h
      exact .inr (.inl ⟨rfl, h.symm⟩)
    · refine .inr (.inr ⟨by omega, ?_⟩)
      obtain ⟨k, hk⟩ : ∃ k, i - l.length = k + 1 := ⟨i - l.length - 1, by omega⟩
      rw [hk] at h
      rw [hk]
      simpa using h
theorem ue {α : Type} {l r : List α} {x : α} : (l ++ x :: r)[l.length]? = some x := by simp
theorem rR {α : Type} {l r : List α} {x : α} {i : Nat} (h : l.length < i) : (l ++ x :: r)[i]? = r[i - l.length - 1]? := by
  rw [List.getElem?_append_right (by omega)]
  obtain ⟨k, hk⟩ : ∃ k, i - l.length = k + 1 := ⟨i - l.length - 1, by omega⟩
  rw [hk]
  simp
theorem mF {Q : V → Hp → Prop} {n : Nat} {f : DF} {l r : List D} {vl vr : List V} {i : Nat} {a : Addr} {o : O} {Qd : Res → List Slot → Prop} {Ed : Exn → List Slot → Prop} (rel : Rel G B F σ env H) (ho : OwnR env σ i a) (hw : OwAt G F H a o)
    (hm : f (l.map .im ++ .io a o :: r.map .im) (fun v ss => cO l.length i env ss (Qd v)) (fun x ss => cO l.length i env ss (Ed x)))
    (hq : ∀ rr env' v F' H', Qd rr env' → Stp B F H F' H' → Rel G B F' σ env' H' → qt G B F' env' σ H' rr v → Q v H') (he : ∀ x env' cls d F' H', Ed x env' → Stp B F H F' H' → Rel G B F' σ env' H' → ExnR G F' H' x cls d → W cls d σ H')
    (rl : RpL G F H l vl) (rr : RpL G F H r vr) (hn : (vl ++ V.ref a :: vr).length = n) : h8 G n f (vl ++ .ref a :: vr) H Q (WE W σ) := by
  obtain ⟨na, nF, nB⟩ := rel.ownSome (.inl ho)
  have hBB : ∀ b, B b → Nt H b ∧ b ≠ a := fun b h => ⟨rel.hB b h, fun z => nB (z ▸ h)⟩
  have ll : l.length = vl.length := rl.length
  have slots : ∀ (B' : Addr → Prop), ¬ B' a → ∀ j s, (l.map Slot.im ++ .io a o :: r.map .im)[j]? = some s → SlotR G B' F H ((vl ++ .ref a :: vr).map some)[j]? s ∧ (s.has = true → j = l.length) := fun B' nb j s e => by
    rw [List.map_append, List.map_cons]
    rcases vE e with ⟨h1, h2⟩ | ⟨h1, h2⟩ | ⟨h1, h2⟩
    · rw [List.length_map] at h1
      rw [List.getElem?_append_left (by rw [List.length_map]; omega)]
      obtain ⟨z1, z2⟩ := j3 (B' := B') rl h2
      exact ⟨z1, fun z => by rw [z2] at z; cases z⟩
    · rw [List.length_map] at h1
      subst h1 h2
      have z : (vl.map some ++ some (V.ref a) :: vr.map some)[l.length]? = some (some (V.ref a)) := by
        rw [ll, show vl.length = (vl.map some).length by rw [List.length_map]]
        exact ue
      rw [z]
      exact ⟨⟨rfl, nF, nb, hw⟩, fun _ => rfl⟩
    · rw [List.length_map] at h1 h2
      rw [rR (by rw [List.length_map]; omega), List.length_map, ← ll]
      obtain ⟨z1, z2⟩ := j3 (B' := B') rr h2
      exact ⟨z1, fun z => by rw [z2] at z; cases z⟩
  have nC : ¬ (fun b : Addr => Nt H b ∧ b ≠ a) a := fun z => z.2 rfl
  have relC : Rel G (fun b => Nt H b ∧ b ≠ a) F ((vl ++ .ref a :: vr).map some) (l.map .im ++ .io a o :: r.map .im) H :=
    ⟨by simp [ll, rr.length], fun j s e => (slots (fun b : Addr => Nt H b ∧ b ≠ a) nC j s e).1, fun j k b w1 w2 => by
      obtain ⟨s, e, w⟩ := own_feet.mp w1
      obtain ⟨s', e', w'⟩ := own_feet.mp w2
      exact ((slots (fun b : Addr => Nt H b ∧ b ≠ a) nC j s e).2 (iS w)).trans ((slots (fun b : Addr => Nt H b ∧ b ≠ a) nC k s' e').2 (iS w')).symm, fun b h => h.1, rel.hF, rel.tb⟩
  -- behind the call
  have after : ∀ {F' : Addr → Prop} {H' : Hp} {ss' : List Slot} {kk : List Slot → Prop}, cO l.length i env ss' kk → Stp (fun b => Nt H b ∧ b ≠ a) F H F' H' → Rel G (fun b => Nt H b ∧ b ≠ a) F' ((vl ++ .ref a :: vr).map some) ss' H' →
      ∃ o', kk (putS env i o') ∧ Stp B F H F' H' ∧ Rel G B F' σ (putS env i o') H' ∧ ss'[l.length]? = some (.io a o') := fun {F' H' ss' kk} h st rl' => by
    unfold cO at h
    cases e : ss'[l.length]? with
    | none => rw [e] at h; exact h.elim
    | some s =>
      rw [e] at h
      cases s with
      | io b o' =>
        obtain ⟨e1, e2, e3, e4⟩ := rl'.sl _ _ e
        have z : ((vl ++ V.ref a :: vr).map some)[l.length]? = some (some (V.ref a)) := by
          rw [List.map_append, List.map_cons, ll, show vl.length = (vl.map some).length by rw [List.length_map]]
          exact ue
        rw [z] at e1
        cases e1
        have st' : Stp B F H F' H' := st.less hBB
        refine ⟨o', h, st', ?_, rfl⟩
        -- all other owned objects stay, this one holds o'
        have oth : ∀ j b, dM env σ j b → j ≠ i → H' b = H b ∧ ¬ F' b := fun j b w ne => by
          obtain ⟨n1, n2, n3⟩ := rel.ownSome w
          have nb : Nt H b ∧ b ≠ a := ⟨⟨n1, rel.ownTab w⟩, fun z => ne (rel.ap j i a (z ▸ w) (.inl ho))⟩
          refine ⟨?_, fun z => (st.fn b z).elim n2 fun q => q nb⟩
          cases e : H b with
          | none => exact absurd e n1
          | some u => exact st.hk b u (.inl nb) e fun ps z => rel.ownTab w ps (z ▸ e)
        obtain ⟨⟨s0, q0, w0⟩, σ0⟩ := id ho
        have hlt : i < env.length := (List.getElem?_eq_some_iff.mp q0).1
        have fin : ∀ s1 : Slot, (∀ r ns, s1 ≠ .tr r ns) → SlotR G B F' H' σ[i]? s1 → Rel G B F' σ (env.set i s1) H' := fun s1 k1 r1 => by
          refine ⟨by rw [List.length_set]; exact rel.len, fun j t e' => ?_, fun j k b h1 h2 => ?_, fun b z => st.hs b (.inl (hBB b z)) (rel.hB b z), rl'.hF, rl'.tb⟩
          · by_cases hj : j = i
            · subst hj
              rw [List.getElem?_set_self hlt] at e'
              cases e'
              exact r1
            · rw [List.getElem?_set_ne (Ne.symm hj)] at e'
              have q := rel.sl j t e'
              cases t with
              | no => trivial
              | im d => obtain ⟨v, h1, h2⟩ := q; exact ⟨v, h1, Rp.mono st' d v h2⟩
              | ow p => obtain ⟨b, h1, h2, h3, h4⟩ := q; obtain ⟨x1, x2⟩ := oth j b (.inl ⟨⟨_, e', rfl⟩, h1⟩) hj; exact ⟨b, h1, x2, h3, OwAt.mono st' x1 h4⟩
              | io b p => obtain ⟨h1, h2, h3, h4⟩ := q; obtain ⟨x1, x2⟩ := oth j b (.inl ⟨⟨_, e', rfl⟩, h1⟩) hj; exact ⟨h1, x2, h3, OwAt.mono st' x1 h4⟩
              | tr r ns =>
                refine ⟨q.1, q.2.root, q.2.nd, fun p hp => ?_⟩
                obtain ⟨x1, x2⟩ := oth j p.1 (.inr ⟨r, ns, e', List.mem_map.mpr ⟨p, hp, rfl⟩⟩) hj
                exact ⟨x2, (q.2.at_ p hp).2.1, R1At.mono st' x1 (q.2.at_ p hp).2.2⟩
          · have back : ∀ m, dM (env.set i s1) σ m b → dM env σ m b := fun m w => lA (fun b h => .inl ⟨⟨s0, q0, w0⟩, (jA h k1).2⟩) w
            exact rel.ap j k b (back j h1) (back k h2)
        unfold putS
        rw [q0]
        cases s0 with
        | ow p => exact fin (.ow o') (fun _ _ z => nomatch z) ⟨a, σ0, e2, nB, e4⟩
        | io c p =>
          have z := (rel.sl i _ q0).1
          rw [σ0] at z
          cases z
          exact fin (.io a o') (fun _ _ z => nomatch z) ⟨σ0, e2, nB, e4⟩
        | no => cases w0
        | im d => cases w0
        | tr _ _ => cases w0
      | _ => exact h.elim
  refine ⟨hn, fun b => Nt H b ∧ b ≠ a, F, _, _, _, relC, hm, fun rr' ss' v F' H' q st rl' rs => ?_, fun x ss' cls d F' H' q st rl' rx => ?_⟩
  · obtain ⟨o', k1, st', rel', e'⟩ := after q st rl'
    refine hq rr' _ v F' H' k1 st' rel' (kL hBB (fun b nb hb j w => ?_) rs)
    have w' : dM env σ j b := vm w
    by_cases hj : j = i
    · subst hj
      have z : b = a := by
        obtain ⟨s, e, f⟩ := own_feet.mp w'
        obtain ⟨⟨s0, q0, w0⟩, σ0⟩ := id ho
        rw [q0] at e
        cases e
        rcases f with ⟨_, z1⟩ | ⟨_, _, q, _⟩
        · rw [σ0] at z1
          cases z1; rfl
        · subst q; cases w0
      exact hb _ a o' e' z.symm
    · exact nb ⟨⟨(rel.ownSome w').1, rel.ownTab w'⟩, fun z => hj (rel.ap j i a (z ▸ w') (.inl ho))⟩
  · obtain ⟨o', k1, st', rel', e'⟩ := after q st rl'
    exact he x _ cls d F' H' k1 st' rel' rx
theorem Pt.call1 {Q : V → Hp → Prop} {n : Nat} {f : DF} {l r : List D} {i : Nat} {vl vr : List V} {v : V} (h : Pt G W (qt G) σ H Q (call1 f l i r) B F env) (rl : RpL G F H l vl) (ev : σ[i]? = some (some v)) (rr : RpL G F H r vr) (hl : (vl ++ v :: vr).length = n) : h8 G n f (vl ++ v :: vr) H Q (WE W σ) := by
  obtain ⟨Qd, Ed, rel, hm, hq, he⟩ := h
  unfold DL.call1 at hm
  cases q : env[i]? with
  | none => rw [q] at hm; exact hm.elim
  | some s =>
    rw [q] at hm
    cases s with
    | ow o =>
      obtain ⟨a, e1, _, _, e4, e5⟩ := rel.owned (.inl q)
      rw [ev] at e1
      cases e1
      exact mF rel e5 e4 (hm a) hq he rl rr hl
    | io b o =>
      obtain ⟨a, e1, _, _, e4, e5⟩ := rel.owned (.inr ⟨b, q⟩)
      have z := (rel.sl i _ q).1
      rw [z] at e1
      cases e1
      rw [ev] at z
      cases z
      exact mF rel e5 e4 hm hq he rl rr hl
    | _ => exact hm.elim
theorem Pt.callA {Q : V → Hp → Prop} {n : Nat} {f : DF} {as : List Ar} {vs : List V} (h : Pt G W (qt G) σ H Q (callA f as) B F env) (r : sM G B F env σ H as vs) (hl : vs.length = n) : h8 G n f vs H Q (WE W σ) := by
  unfold DL.callA at h
  cases e : cN as with
  | some ds =>
    rw [e] at h
    rw [oy e] at r
    exact Pt.callD h (tF r) hl
  | none =>
    rw [e] at h
    cases e2 : split1 as with
    | none => rw [e2] at h; exact (Pt.no h).elim
    | some p =>
      obtain ⟨l, i, r'⟩ := p
      rw [e2] at h
      rw [mP e2] at r
      obtain ⟨vl, v, vr, ev, h1, h2, h3⟩ := mS r
      subst ev
      exact Pt.call1 h h1 h2 h3 hl
end
end
section
variable [Tbs]
section
variable {X : Cx} {C : Addr} {W : WX} {k n : Nat} {f : Addr} {fd : FuncData} {ps ks : List Str} {df : DF} {x : Str} {p pos : Pos} {e : Expr} {es : List Expr} {kws : List Keyword} {ma : M (List Ar)} {md : M D} {ms mk : M (List D)}
theorem s8 {pins : List (Addr × Obj)} {σ : L2.St} {H : Hp} {s : Shared} {Q : VK} {args : Args} {us : List Value} {vs : List V} {sp : Sp} (Fn : FnG X.prog X.w X.K X.mg X.base k f fd ps sp) (hr : Room k X.A) (hG : X.A.guards = some []) (tk : DLz.Takes X W) (I : Inv X pins σ H s)
    (hb : BindsTo s fd args (ps.zip us)) (r : Vals vs us) (h : sp vs H Q (WE W σ)) : codeAny (model X.prog X.w) X.A (.call (.ref f) args) (fun rr s' => match rr with
      | .ok (.ret u) => EP X pins σ Q u s'
      | .ok _ => False
      | .error ex => X.xe ex s') s := by
  refine codeAny_mono (Fn.run X.A X.stack s H args us vs Q (WE W σ) hr hG I.env0 hb r h) fun rr s' hq => ?_
  match rr, hq with
  | .error ex, hq => exact DLz.passAt tk σ pins H s ex s' I hq
  | .ok (.ret u), hq => exact I.after hq
  | .ok .next, hq => exact hq
  | .ok .brk, hq => exact hq
  | .ok .cont, hq => exact hq
theorem nO {G : Gx} {B F : Addr → Prop} {env : List Slot} {σ : L2.St} {H : Hp} : ∀ {as : List Ar} {vs : List V}, sM G B F env σ H as vs → vs.length = as.length
  | [], _, r => by rw [show _ = [] from r]; rfl
  | .d _ :: as, _, ⟨v, rr, ee, _, r2⟩ => by subst ee; simp [nO r2]
  | .o _ :: as, _, ⟨v, rr, ee, _, r2⟩ => by subst ee; simp [nO r2]
def callN (n : Nat) (df : DF) (as : List Ar) : M Res := fV (as.length = n) (callA df as)
theorem Pt.callN {G : Gx} {B F : Addr → Prop} {env : List Slot} {σ : L2.St} {H : Hp} {Q : V → Hp → Prop} {as : List Ar} {vs : List V} (h : Pt G W (qt G) σ H Q (DL.callN n df as) B F env) (r : sM G B F env σ H as vs) : vs.length = n ∧ h8 G n df vs H Q (WE W σ) := by
  obtain ⟨l, h⟩ := h.asked
  have lv := (nO r).trans l
  exact ⟨lv, h.callA r lv⟩
/-- f(e, ..) -/
theorem dO (Fn : FnG X.prog X.w X.K X.mg X.base k f fd ps (h8 (gx X C) n df)) (hr : Room k X.A) (hG : X.A.guards = some []) (tk : DLz.Takes X W) (hg : Gl X x) (hm : X.mg x = some (.ref f)) (hk : PySem.W.keepIn X.K (.ref f) = true) (hb : Binds X.K fd ps [])
    (hn : n = ps.length) (ha : PA X (e :: es) (yE (gx X C) W ma)) (hdb : (x == ("__debug__" : Str)) = false := by decide) (he : starEach (e :: es) X.env = (false, eval e X.env) :: starEach es X.env := by rfl) (hpl : (backTo pos (starEach es X.env)).any (·.1) = false := by rfl) :
    PE X (.Call (.Name x p) (e :: es) [] pos) (yL (gx X C) W (aq ma (callN n df))) := ⟨fun pins s σ H Q I h => by
  refine wpAny_Call_Name_kw (ld_glob I hg hm (PySem.W.callWith_K (h₀ := X.base) I.ok.mod.kin hk (thn (ha.run pos pins s σ H (fun vs H1 => vs.length = n ∧ h8 (gx X C) n df vs H1 Q (WE W σ)) I ?_) fun us s1 ⟨vs, H1, I1, r, l, q⟩ => ⟨I1.kIn, wpAny_call ?_⟩) he hpl) hdb)
  · exact (dQ (Ra := sM (gx X C)) h).imp fun vs H1 ⟨B, F, env, as, q, r⟩ => q.callN r
  · have hb' := hb s1 us I1.kIn (by rw [List.append_nil, ← r.length, l, hn])
    rw [List.append_nil] at hb'
    exact s8 Fn hr hG tk I1 hb' r q⟩
/-- the keywords' values -/
theorem ml : PK X [] (oF (gx X C) W (ret [])) := ⟨fun pos pins s σ H Q I ⟨B, F, env, h⟩ => pk_nil.run pos pins s σ H Q I (h.pure rfl)⟩
theorem i5 {nm : Option Str} {kpos : Pos} (ha : PE X e (tD (gx X C) W md)) (hr : PK X kws (oF (gx X C) W mk)) : PK X (⟨nm, e, kpos⟩ :: kws) (oF (gx X C) W (ak md mk)) := ⟨fun pos pins s σ H Q I h => (pk_cons ha hr).run pos pins s σ H Q I
  ((dQ (Ra := RD (gx X C)) h).imp fun x H1 ⟨B, F, env, d, p, r⟩ => (p.bind (Ra := qw (gx X C)) (as := [d]) (xs := [x]) ⟨x, [], rfl, r, rfl⟩).imp fun xs H2 ⟨F2, env2, ds, p2, ⟨x', r', e, rd, _⟩, rs⟩ => by
      cases e
      exact p2.pure ⟨x, xs, rfl, rd, rs⟩)⟩
/-- how written and named arguments come to the parameters: g -/
structure KwD (K : PySem.W.Frag) (fd : FuncData) (ps : List Str) (n : Nat) (ks : List Str) (gD : List D → List D → List D) (g : List Value → List Value → List Value) (gV : List V → List V → List V) : Prop where
  b : KBn K fd ps n ks g gV
  len : ∀ vs zs, vs.length = n → zs.length = ks.length → (gV vs zs).length = ps.length
  rel : ∀ {G : Gx} {F : Addr → Prop} {H : Hp} {ds es : List D} {vs zs : List V}, RpL G F H ds vs → RpL G F H es zs → RpL G F H (gD ds es) (gV vs zs)
def callK (n m : Nat) (gD : List D → List D → List D) (df : DF) (ds es : List D) : M Res := fV (ds.length = n ∧ es.length = m) (callD df (gD ds es))
variable {gD : List D → List D → List D} {g : List Value → List Value → List Value} {gV : List V → List V → List V} {j : Nat}
theorem Pt.callK {G : Gx} {B F : Addr → Prop} {env : List Slot} {σ : L2.St} {H : Hp} {Q : V → Hp → Prop} {ds es : List D} {vs zs : List V} (kd : KwD X.K fd ps j ks gD g gV) (hn : n = ps.length) (h : Pt G W (qt G) σ H Q (DL.callK j ks.length gD df ds es) B F env) (r1 : RpL G F H ds vs) (r2 : RpL G F H es zs) :
    vs.length = j ∧ zs.length = ks.length ∧ h8 G n df (gV vs zs) H Q (WE W σ) := by
  obtain ⟨⟨l1, l2⟩, h⟩ := h.asked
  have a1 := r1.length.symm.trans l1
  have a2 := r2.length.symm.trans l2
  exact ⟨a1, a2, h.callD (kd.rel r1 r2) ((kd.len vs zs a1 a2).trans hn.symm)⟩
/-- f(k = v, ..) -/
theorem rj (Fn : FnG X.prog X.w X.K X.mg X.base k f fd ps (h8 (gx X C) n df)) (hr : Room k X.A) (hG : X.A.guards = some []) (tk : DLz.Takes X W) (hg : Gl X x) (hm : X.mg x = some (.ref f)) (hk : PySem.W.keepIn X.K (.ref f) = true) (kd : KwD X.K fd ps 0 ks gD g gV)
    (hn : n = ps.length) (hkw : PK X kws (oF (gx X C) W mk)) (hall : (backToKw pos (keywordEach kws X.env)).all (·.1.isSome) = true := by rfl) (hks : (backToKw pos (keywordEach kws X.env)).filterMap (·.1) = ks := by rfl)
    (hdb : (x == ("__debug__" : Str)) = false := by decide) (hpl : ((backTo pos (starEach [] X.env)).any (·.1) || (backToKw pos (keywordEach kws X.env)).any (·.1.isNone)) = false := by rfl) :
    PE X (.Call (.Name x p) [] kws pos) (yL (gx X C) W (aq mk fun es => callK 0 ks.length gD df [] es)) := ⟨fun pins s σ H Q I h => by
  refine wpAny_Call_Name_kw (ld_glob I hg hm (PySem.W.callWith_KW0 (h₀ := X.base) I.ok.mod.kin hk hall (thn (hkw.run pos pins s σ H (fun zs H2 => zs.length = ks.length ∧ h8 (gx X C) n df (gV [] zs) H2 Q (WE W σ)) I ?_) fun ws s2 ⟨zs, H2, I2, rz, l2, q2⟩ => ⟨I2.kIn, wpAny_call ?_⟩) hpl) hdb)
  · exact (dQ (Ra := qw (gx X C)) h).imp fun zs H1 ⟨B, F, env, es, q, r⟩ => (q.callK (ds := []) (vs := []) kd hn rfl r).2
  · rw [hks]
    exact s8 Fn hr hG tk I2 (kd.b.to s2 [] ws I2.kIn rfl (rz.length.symm.trans l2)) (kd.b.rel .nil rz) q2⟩
/-- a def's answer as a datum, as an object -/
def bj : Res → M D
  | .d d => ret d
  | .o (.lst ds) => ret (.lst ds)
  | _ => fail
def du : Res → M O
  | .o o => ret o
  | _ => fail
theorem Pt.freeze {G : Gx} {B F : Addr → Prop} {σ : L2.St} {H : Hp} {env : List Slot} {Q : V → Hp → Prop} {ds : List D} {a : Addr} (p : Pt G W (RD G) σ H Q (ret (.lst ds)) B F env) (nB : ¬ B a) (ho : OwAt G F H a (.lst ds)) (hn : ∀ i, ¬ dM env σ i a) : Q (.ref a) H := by
  obtain ⟨Qd, Ed, rel, hm, hq, he⟩ := p
  obtain ⟨vs, e1, r1⟩ := ho
  have st : Stp B F H (fun b => F b ∨ b = a) H := ⟨fun _ z => .inl z, fun b z => z.imp id fun w => by rw [w]; exact nB, fun b u z e _ => e, fun _ _ z => z, fun t => t.ext (fun _ z => .inl z) fun _ _ z => z, fun _ _ _ z => z⟩
  have rel' : Rel G B (fun b => F b ∨ b = a) σ env H := rel.step st (fun i b z => ⟨rfl, fun w => w.elim (rel.ownSome z).2.1 fun w => by subst w; exact hn i z⟩) fun b z => z.elim (rel.hF b) fun w => by rw [w]; exact Nt.of e1
  exact hq (.lst ds) env (.ref a) _ H hm st rel' ⟨a, vs, rfl, .inr rfl, e1, RpL.mono st ds vs r1⟩
theorem dG {e : Expr} {mr : M Res} (h : PE X e (yL (gx X C) W mr)) : PE X e (tD (gx X C) W (aq mr bj)) := dN h fun σ H Q q => (dQ (Ra := qt (gx X C)) q).imp fun x H1 ⟨B, F, env, r, p, rr⟩ => by
  cases r with
  | d d => exact Pt.pure (c := d) p rr
  | o o =>
    cases o with
    | lst ds => obtain ⟨a, ea, nF, nB, ho, hn⟩ := rr; subst ea; exact Pt.freeze p nB ho hn
    | _ => exact (Pt.no p).elim
  | t _ _ => exact (Pt.no p).elim
theorem za {e : Expr} {mr : M Res} (h : PE X e (yL (gx X C) W mr)) : PE X e (tO (gx X C) W (aq mr du)) := dN h fun σ H Q q => (dQ (Ra := qt (gx X C)) q).imp fun x H1 ⟨B, F, env, r, p, rr⟩ => by
  cases r with
  | d d => exact (Pt.no p).elim
  | o o => exact Pt.pure (c := o) p rr
  | t _ _ => exact (Pt.no p).elim
structure FitsC (G : Gx) (W : WX) (r : List V → Hp → VK → Prop) (k : List D → M D) : Prop where
  go : ∀ {σ : L2.St} {H : Hp} {Q : V → Hp → Prop} {B F : Addr → Prop} {env : List Slot} {xs : List V} {ds : List D}, Pt G W (RD G) σ H Q (k ds) B F env → RpL G F H ds xs → r xs H Q
theorem gb {id : String} {r : List V → Hp → VK → Prop} {kk : List D → M D} (hc : CallR X (.builtin id) r) (hf : FitsC (gx X C) W r kk) (hg : Gl X x) (hm : X.mg x = none) (hv : bootBuiltins x = some (.builtin id)) (ha : PA X (e :: es) (oF (gx X C) W ms)) (hn : x ≠ "__name__" := by decide)
    (hdb : (x == ("__debug__" : Str)) = false := by decide) (he : starEach (e :: es) X.env = (false, eval e X.env) :: starEach es X.env := by rfl) (hpl : (backTo pos (starEach es X.env)).any (·.1) = false := by rfl) :
    PE X (.Call (.Name x p) (e :: es) [] pos) (tD (gx X C) W (aq ms kk)) := dN (pe_callB hc hg hm hv ha hn hdb he hpl) fun σ H Q h => (dQ (Ra := qw (gx X C)) h).imp fun xs H1 ⟨B, F, env, ds, q, r⟩ => hf.go q r
theorem gE {T : String} {r : List V → Hp → VK → Prop} {kk : List D → M D} (hc : CallR X (.type T) r) (hf : FitsC (gx X C) W r kk) (hg : Gl X x) (hm : X.mg x = none) (hv : bootBuiltins x = some (.type T)) (ha : PA X (e :: es) (oF (gx X C) W ms)) (hn : x ≠ "__name__" := by decide)
    (hdb : (x == ("__debug__" : Str)) = false := by decide) (he : starEach (e :: es) X.env = (false, eval e X.env) :: starEach es X.env := by rfl) (hpl : (backTo pos (starEach es X.env)).any (·.1) = false := by rfl) :
    PE X (.Call (.Name x p) (e :: es) [] pos) (tD (gx X C) W (aq ms kk)) := dN (pe_callTy hc hg hm hv ha hn hdb he hpl) fun σ H Q h => (dQ (Ra := qw (gx X C)) h).imp fun xs H1 ⟨B, F, env, ds, q, r⟩ => hf.go q r
def dX (k : D → M D) (ds : List D) : M D := match ds with
  | [d] => k d
  | _ => fail
def eY (k : D → D → M D) (ds : List D) : M D := match ds with
  | [d, e] => k d e
  | _ => fail
theorem iI {G : Gx} {r : List V → Hp → VK → Prop} {kk : D → M D} (h : ∀ {σ : L2.St} {H : Hp} {Q : V → Hp → Prop} {B F : Addr → Prop} {env : List Slot} {x : V} {d : D}, Pt G W (RD G) σ H Q (kk d) B F env → Rp G F H d x → r [x] H Q) : FitsC G W r (dX kk) := by
  refine ⟨fun {σ H Q B F env xs ds} p rr => ?_⟩
  match ds, p, rr with
  | [d], p, ⟨v, r', e, rv, rn⟩ => cases (show _ = _ from rn); subst e; exact h p rv
  | [], p, _ => exact (Pt.no p).elim
  | _ :: _ :: _, p, _ => exact (Pt.no p).elim
theorem uB {G : Gx} {r : List V → Hp → VK → Prop} {kk : D → D → M D} (h : ∀ {σ : L2.St} {H : Hp} {Q : V → Hp → Prop} {B F : Addr → Prop} {env : List Slot} {x y : V} {d e : D}, Pt G W (RD G) σ H Q (kk d e) B F env → Rp G F H d x → Rp G F H e y → r [x, y] H Q) : FitsC G W r (eY kk) := by
  refine ⟨fun {σ H Q B F env xs ds} p rr => ?_⟩
  match ds, p, rr with
  | [d, e], p, ⟨v, r', ee, rv, v2, r2, ee2, rv2, rn⟩ => cases (show _ = _ from rn); subst ee ee2; exact h p rv rv2
  | [], p, _ => exact (Pt.no p).elim
  | [_], p, _ => exact (Pt.no p).elim
  | _ :: _ :: _ :: _, p, _ => exact (Pt.no p).elim
def dc : D → M D
  | .tup ds => ret (.int ds.length)
  | .lst ds => ret (.int ds.length)
  | .scr ns => ret (.int ns.length)
  | .str s => fV (s.length ≤ sizeLine) (ret (.int s.length))
  | _ => fail
theorem j5 {G : Gx} : FitsC G W (fun xs H Q => ∃ x n, xs = [x] ∧ LenV G.K x H n ∧ Q (.int n) H) (dX dc) := iI fun {σ H Q B F env x d} p r => by
  cases d with
  | tup ds => obtain ⟨a, vs, e, h1, h2⟩ := r; subst e; exact ⟨_, ds.length, rfl, .inr ⟨vs, .inl h1.rd, h2.length⟩, p.pure (b := .int _) rfl⟩
  | lst ds => obtain ⟨a, vs, e, _, h1, h2⟩ := r; subst e; exact ⟨_, ds.length, rfl, .inl ⟨vs, SqL.of h1, h2.length⟩, p.pure (b := .int _) rfl⟩
  | scr ns => obtain ⟨a, e, h1⟩ := qF r; subst e; exact ⟨_, ns.length, rfl, .inl ⟨_, h1, by rw [List.length_map]⟩, p.pure (b := .int _) rfl⟩
  | str s => cases (show _ = _ from r); exact ⟨_, s.length, rfl, ⟨(Pt.asked p).1, rfl⟩, (Pt.asked p).2.pure (b := .int _) rfl⟩
  | _ => exact (Pt.no p).elim
def dB : D → M D
  | .int i => ret (.int (if i < 0 then -i else i))
  | _ => fail
theorem uA {G : Gx} : FitsC G W (fun xs H Q => ∃ i, xs = [.int i] ∧ Q (.int (if i < 0 then -i else i)) H) (dX dB) := iI fun {σ H Q B F env x d} p r => by
  cases d with
  | int i => cases (show _ = _ from r); exact ⟨i, rfl, p.pure (b := .int _) rfl⟩
  | _ => exact (Pt.no p).elim
def intD : D → M D
  | .int i => ret (.int i)
  | .bl k => ret (.int (if k then 1 else 0))
  | _ => fail
theorem pD {G : Gx} : FitsC G W (fun xs H Q => (∃ i, xs = [.int i] ∧ Q (.int i) H) ∨ ∃ k, xs = [.bl k] ∧ Q (.int (if k then 1 else 0)) H) (dX intD) := iI fun {σ H Q B F env x d} p r => by
  cases d with
  | int i => cases (show _ = _ from r); exact .inl ⟨i, rfl, p.pure (b := .int _) rfl⟩
  | bl k => cases (show _ = _ from r); exact .inr ⟨k, rfl, p.pure (b := .int _) rfl⟩
  | _ => exact (Pt.no p).elim
def bU : D → D → M D
  | .int i, .int j => ret (.int (if j > i then j else i))
  | _, _ => fail
def bT : D → D → M D
  | .int i, .int j => ret (.int (if j < i then j else i))
  | _, _ => fail
theorem si {G : Gx} : FitsC G W (fun xs H Q => ∃ i j, xs = [.int i, .int j] ∧ Q (.int (if j > i then j else i)) H) (eY bU) := uB fun {σ H Q B F env x y d e} p r r' => by
  cases d <;> cases e <;> first | exact (Pt.no p).elim | (cases (show _ = _ from r); cases (show _ = _ from r'); exact ⟨_, _, rfl, Pt.pure p (b := .int _) rfl⟩)
theorem rZ {G : Gx} : FitsC G W (fun xs H Q => ∃ i j, xs = [.int i, .int j] ∧ Q (.int (if j < i then j else i)) H) (eY bT) := uB fun {σ H Q B F env x y d e} p r r' => by
  cases d <;> cases e <;> first | exact (Pt.no p).elim | (cases (show _ = _ from r); cases (show _ = _ from r'); exact ⟨_, _, rfl, Pt.pure p (b := .int _) rfl⟩)
def dz : D → D → M D
  | .int i, .int j => fV (0 < j ∧ j < 1073741824) (ret (.pr [.int (i / j), .int (i % j)]))
  | _, _ => fail
theorem pE {G : Gx} : FitsC G W (fun xs H Q => ∃ i j, xs = [.int i, .int j] ∧ CDiv i j ∧ ∀ p, H p = none → Q (.ref p) (upd H p (.tup [.int (i / j), .int (i % j)]))) (eY dz) := uB fun {σ H Q B F env x y d e} p r r' => by
  cases d <;> cases e <;> first
    | exact (Pt.no p).elim
    | (cases (show _ = _ from r); cases (show _ = _ from r'); exact ⟨_, _, rfl, (Pt.asked p).1, fun q hq => (Pt.asked p).2.pr ⟨_, _, rfl, rfl, _, _, rfl, rfl, rfl⟩ hq⟩)
/-- tuple(x) -/
def de : D → M D
  | .tup ds => ret (.tup ds)
  | .lst ds => ret (.tup ds)
  | _ => fail
theorem jQ {G : Gx} : FitsC G W (DLt.fOf G.K) (dX de) := iI fun {σ H Q B F env x d} p r => by
  cases d with
  | tup ds => obtain ⟨a, vs, e, h1, h2⟩ := id r; subst e; exact ⟨a, vs, rfl, .inr ⟨.inl h1.rd, Pt.pure (c := D.tup ds) p r⟩⟩
  | lst ds => obtain ⟨a, vs, e, _, h1, h2⟩ := r; subst e; exact ⟨a, vs, rfl, .inl ⟨SqL.of h1, Pt.tup p h2⟩⟩
  | _ => exact (Pt.no p).elim
theorem uN : ∀ {bs : List Bool} {ds : List D}, ds = bs.map .bl → ∀ {G : Gx} {F : Addr → Prop} {H : Hp} {vs : List V}, RpL G F H ds vs → vs = bs.map .bl
  | [], _, rfl, _, _, _, _, r => r
  | b :: bs, _, rfl, G, F, H, _, ⟨v, r', e, rv, rn⟩ => by subst e; rw [show v = V.bl b from rv, uN rfl rn]; rfl
def boolsOf : List D → Option (List Bool)
  | [] => some []
  | .bl b :: ds => (boolsOf ds).map (b :: ·)
  | _ => none
theorem mH : ∀ {ds : List D} {bs : List Bool}, boolsOf ds = some bs → ds = bs.map .bl
  | [], bs, h => by cases h; rfl
  | .bl b :: ds, bs, h => by
    cases e : boolsOf ds with
    | none => simp [boolsOf, e] at h
    | some l => simp [boolsOf, e] at h; subst h; rw [List.map_cons, ← mH e]
  | .non :: _, _, h => by cases h
  | .int _ :: _, _, h => by cases h
  | .str _ :: _, _, h => by cases h
  | .byt _ :: _, _, h => by cases h
  | .tup _ :: _, _, h => by cases h
  | .pr _ :: _, _, h => by cases h
  | .lst _ :: _, _, h => by cases h
  | .hall _ _ :: _, _, h => by cases h
  | .scr _ :: _, _, h => by cases h
  | .emp :: _, _, h => by cases h
  | .exn _ _ _ :: _, _, h => by cases h
def ou : D → M D
  | .lst ds => match boolsOf ds with
    | some bs => ret (.bl (bs.all id))
    | none => fail
  | _ => fail
theorem pF {G : Gx} : FitsC G W (rAll G.K) (dX ou) := iI fun {σ H Q B F env x d} p r => by
  cases d with
  | lst ds =>
    obtain ⟨a, vs, e, _, h1, h2⟩ := r
    subst e
    cases q : boolsOf ds with
    | none => exact (Pt.no (by simpa only [ou, q] using p)).elim
    | some bs =>
      have p' : Pt G W (RD G) σ H Q (ret (.bl (bs.all id))) B F env := by simpa only [ou, q] using p
      exact ⟨a, bs, rfl, SqL.of (by rw [h1, uN (mH q) h2]), p'.pure (b := .bl _) rfl⟩
  | _ => exact (Pt.no p).elim
end
end
section
variable [Tbs]
/-- the own list in slot i -/
def fE : O → M (List D)
  | .lst ds => ret ds
  | _ => fail
def olist (i : Nat) : M (List D) := aq (getO i) fE
def fC (ds : List D) : D → M D
  | .int k => match atI ds k with
    | some d => ret d
    | none => fail
  | _ => fail
section
variable {G : Gx} {W : WX} {B F : Addr → Prop} {σ : L2.St} {H : Hp} {env : List Slot} {α β γ δ : Type}
variable {R : (Addr → Prop) → (Addr → Prop) → List Slot → L2.St → Hp → γ → δ → Prop} {Q : δ → Hp → Prop} {i : Nat} {a : Addr} {o o' : O}
theorem Pt.getO {k : O → M γ} (h : Pt G W R σ H Q (aq (DL.getO i) k) B F env) : ∃ a o, σ[i]? = some (some (.ref a)) ∧ OwAt G F H a o ∧ OwnR env σ i a ∧ Pt G W R σ H Q (k o) B F env := by
  obtain ⟨Qd, Ed, rel, hm, hq, he⟩ := h
  obtain ⟨o, ho, hm⟩ := kE (Q := fun o env' => k o env' Qd Ed) (E := Ed) hm
  obtain ⟨a, e1, _, _, e2, e3⟩ := rel.owned ho
  exact ⟨a, o, e1, e2, e3, Qd, Ed, rel, hm, hq, he⟩
theorem Pt.olist {k : List D → M γ} (h : Pt G W R σ H Q (aq (DL.olist i) k) B F env) : ∃ a ds vs, σ[i]? = some (some (.ref a)) ∧ H a = some (.lst vs) ∧ RpL G F H ds vs ∧ OwnR env σ i a ∧ Pt G W R σ H Q (k ds) B F env := by
  have h : Pt G W R σ H Q (aq (DL.getO i) fun o => aq (fE o) k) B F env := h
  obtain ⟨a, o, e1, e2, e3, p⟩ := h.getO
  cases o with
  | lst ds => obtain ⟨vs, h1, h2⟩ := e2; exact ⟨a, ds, vs, e1, h1, h2, e3, p⟩
  | _ => exact (Pt.unknown p).elim
theorem mT {env : List Slot} {Q : Unit → List Slot → Prop} {E : Exn → List Slot → Prop} (h : putO i o env Q E) : Q () (putS env i o) := by
  unfold putO at h
  unfold putS
  cases q : env[i]? with
  | none => rw [q] at h; exact h.elim
  | some s => rw [q] at h; cases s <;> first | exact h | exact h.elim
theorem Pt.putO {k : Unit → M γ} {u : HO} (h : Pt G W R σ H Q (aq (DL.putO i o') k) B F env) (own : OwnR env σ i a) (hw : OwAt G F H a o) (hu : OwAt G F (upd H a u) a o') : Pt G W R σ (upd H a u) Q (k ()) B F (putS env i o') := by
  obtain ⟨Qd, Ed, rel, hm, hq, he⟩ := h
  obtain ⟨st, rel'⟩ := rel.put own hw hu
  exact ⟨Qd, Ed, rel', mT (Q := fun _ env' => k () env' Qd Ed) hm, fun x env' b F' H' q s2 => hq x env' b F' H' q (st.trans s2), fun x env' c d F' H' q s2 => he x env' c d F' H' q (st.trans s2)⟩
theorem qJ {ds : List D} {vs : List V} (rel : Rel G B F σ env H) (own : OwnR env σ i a) (hw : OwAt G F H a o) (r : RpL G F H ds vs) : OwAt G F (upd H a (.lst vs)) a (.lst ds) := by
  obtain ⟨_, nF, nB⟩ := rel.ownSome (.inl own)
  exact ⟨vs, upd_same, RpL.mono (jr (B := B) (u := .lst vs) nF nB hw.notup hw.noTab hw.noCode) ds vs r⟩
theorem Pt.putL {k : Unit → M γ} {ds ds' : List D} {vs vs' : List V} (h : Pt G W R σ H Q (aq (DL.putO i (.lst ds')) k) B F env) (own : OwnR env σ i a) (hv : H a = some (.lst vs)) (rv : RpL G F H ds vs) (r : RpL G F H ds' vs') :
    Pt G W R σ (upd H a (.lst vs')) Q (k ()) B F (putS env i (.lst ds')) := h.putO (o := .lst ds) own ⟨vs, hv, rv⟩ (qJ (o := .lst ds) h.rel own ⟨vs, hv, rv⟩ r)
theorem Pt.keepL {m : M γ} {ds : List D} {vs vs' : List V} {d : D} {v : V} (h : Pt G W R σ H Q m B F env) (own : OwnR env σ i a) (hv : H a = some (.lst vs)) (rv : RpL G F H ds vs) (r : Rp G F H d v) : Rp G F (upd H a (.lst vs')) d v :=
  Rp.mono (jr (B := B) (h.rel.ownSome (.inl own)).2.1 (h.rel.ownSome (.inl own)).2.2 (OwAt.notup (o := .lst ds) ⟨vs, hv, rv⟩) (OwAt.noTab (o := .lst ds) ⟨vs, hv, rv⟩) (OwAt.noCode (o := .lst ds) ⟨vs, hv, rv⟩)) d v r
end
section
variable {X : Cx} {C : Addr} {W : WX} {a b c : Expr} {es : List Expr} {ma mb mc : M D} {ms : M (List D)} {pos apos cpos p : Pos} {i : Nat}
/-- own[b] -/
def cR (i : Nat) (mb : M D) : M D := aq (getO i) fun _ => aq mb fun k => aq (olist i) fun ds => fC ds k
theorem nr (ha : PE X a (tVar i)) (hb : PE X b (tD (gx X C) W mb)) (hs : PlainIx b := by exact fun _ _ => rfl) : PE X (.Subscript a b pos) (tD (gx X C) W (cR i mb)) :=
  dN (pe_ix ix_seq ha hb hs) fun σ H Q ⟨B, F, env, h⟩ => by
    obtain ⟨q, _, e1, _, e3, h⟩ := h.getO
    refine ⟨_, e1, (h.bind (Ra := RD (gx X C)) (as := []) (xs := []) rfl).imp fun y H2 ⟨F2, env2, d, p2, _, r2⟩ => ?_⟩
    obtain ⟨q', ds, vs, e1', hv, rv, _, p3⟩ := p2.olist
    rw [e1] at e1'
    cases e1'
    cases d with
    | int k =>
      cases z : atI ds k with
      | none => simp only [fC, z] at p3; exact (Pt.no p3).elim
      | some d =>
        simp only [fC, z] at p3
        obtain ⟨v, hv', rv'⟩ := rv.at z
        exact .inl ⟨q, vs, k, v, rfl, r2, SqL.of hv, hv', p3.pure rv'⟩
    | _ => exact (Pt.no p3).elim
/-- len(own) -/
def bF (i : Nat) : M D := aq (olist i) fun ds => ret (.int ds.length)
theorem yo (hg : Gl X "len") (hm : X.mg "len" = none) (ha : PE X a (tVar i)) (na : starEach [a] X.env = (false, eval a X.env) :: starEach [] X.env := by rfl) (hpl : (backTo pos (starEach [] X.env)).any (·.1) = false := by rfl) :
    PE X (.Call (.Name "len" p) [a] [] pos) (tD (gx X C) W (bF i)) :=
  dN (pe_callB call_len hg hm boot_len (pa_cons ha pa_nil na) (by decide) (by decide) na hpl) fun σ H Q ⟨B, F, env, h⟩ => by
    obtain ⟨q, ds, vs, e1, hv, rv, _, p3⟩ := h.olist
    exact ⟨_, e1, _, ds.length, rfl, .inl ⟨vs, SqL.of hv, rv.length⟩, p3.pure (b := .int _) rfl⟩
def dj (neg : Bool) (ma : M D) (i : Nat) : M D := aq (getO i) fun _ => aq ma fun x => aq (olist i) fun ds => fV (gj x = true ∧ ds.all gj = true) (ret (.bl (if neg then !ds.any fun d => eqv d x else ds.any fun d => eqv d x)))
theorem rQ {neg : Bool} {σ : L2.St} {H : Hp} {Q : V → Hp → Prop} (h : Lift (gx X C) W (RD (gx X C)) (dj neg ma i) σ H Q) : tD (gx X C) W ma σ H fun x H1 => tVar i σ H1 fun y H2 => rIn X.K neg x y H2 Q := by
  obtain ⟨B, F, env, h⟩ := h
  obtain ⟨q, _, e1, _, e3, h⟩ := Pt.getO h
  refine (h.bind (Ra := RD (gx X C)) (as := []) (xs := []) rfl).imp fun y H2 ⟨F2, env2, d, p2, _, r2⟩ => ?_
  obtain ⟨q', ds, vs, e1', hv, rv, _, p3⟩ := p2.olist
  obtain ⟨⟨g1, g2⟩, p3⟩ := p3.asked
  refine ⟨_, e1', q', vs, rfl, .inl (SqL.of hv), jy r2 g1, iR rv g2, ?_⟩
  cases neg with
  | true => rw [if_pos rfl] at p3 ⊢; exact p3.pure (b := .bl _) (by rw [i6 r2 g1 rv g2]; rfl)
  | false => rw [if_neg Bool.false_ne_true] at p3 ⊢; exact p3.pure (b := .bl _) (by rw [i6 r2 g1 rv g2]; rfl)
/-- a datum that is a bool, as a test -/
theorem rm {ma : M D} {σ : L2.St} {H : Hp} {Q : Bool → Hp → Prop} (h : Lift (gx X C) W RB (aq ma dP) σ H Q) : Lift (gx X C) W (RD (gx X C)) ma σ H fun z H' => ∃ c, z = .bl c ∧ Q c H' := by
  obtain ⟨B, F, env, h⟩ := h
  exact ⟨B, F, env, h.asb⟩
theorem yJ (ha : PE X a (tD (gx X C) W ma)) (hb : PE X b (tVar i)) (hm : behindInMarks .In b = false) : PT X (.Compare a [.In] [b] pos) (lh (gx X C) W (aq (dj false ma i) dP)) :=
  oP (pt_cmpR op_in_seq ha hb hm) fun σ H Q h => rQ (rm h)
def bR (i : Nat) (mb : M D) : M D := aq (olist i) fun _ => aq mb fun d => aq (olist i) fun ds => fV (ds.length < sizeLine) (aq (putO i (.lst (ds ++ [d]))) fun _ => ret .non)
theorem qm (ha : PE X a (tVar i)) (hb : PE X b (tD (gx X C) W mb)) (hbase : attributeBase a "append" X.env (eval a X.env) = eval a X.env := by rfl)
    (hfew : ((backTo cpos (starEach [b] X.env)).all (fun x => !x.1) && (backToKw cpos (keywordEach [] X.env)).all (fun x => x.1.isSome)
      && decide ([b].length + ([] : List Keyword).length + (if ([] : List Keyword).isEmpty then 0 else 1) < 30)) = true := by rfl)
    (hline : (apos.endLine == cpos.line) = true := by rfl) (hs : starEach [b] X.env = (false, eval b X.env) :: starEach [] X.env := by rfl) (hpl : (backTo cpos (starEach [] X.env)).any (·.1) = false := by rfl) :
    PE X (.Call (.Attribute a "append" apos) [b] [] cpos) (tD (gx X C) W (bR i mb)) :=
  dN (pe_bm F.plainAttrs_list F.slot_list_append F.type_list_append mt_append ha (pa_cons hb pa_nil hs) hbase hfew hline hs hpl) fun σ H Q ⟨B, F, env, h⟩ => by
    obtain ⟨q, _, vs0, e1, hv0, _, _, h⟩ := Pt.olist h
    refine ⟨_, e1, .inl ⟨rfl, vs0, SqL.of hv0⟩, (h.bind (Ra := RD (gx X C)) (as := []) (xs := []) rfl).imp fun y H2 ⟨F2, env2, d, p2, _, r2⟩ => ?_⟩
    obtain ⟨q', ds, vs, e1', hv, rv, own, p3⟩ := p2.olist
    rw [e1] at e1'; cases e1'
    obtain ⟨sz, p3⟩ := p3.asked
    refine ⟨q, vs, y, rfl, rfl, hv, by rw [← rv.length]; exact sz, ?_⟩
    exact (p3.putL own hv rv (rv.snoc r2)).pure (b := .non) rfl
def ck (i : Nat) (mb : M D) : M D := aq (olist i) fun _ => aq mb fun d => aq (olist i) fun ds => fV (ds.length ≤ sizeLine) <| match d with
  | .int k => match ixN ds.length k with
    | some j => match ds[j]? with
      | some d => aq (putO i (.lst (ds.eraseIdx j))) fun _ => ret d
      | none => fail
    | none => fail
  | _ => fail
theorem yn (ha : PE X a (tVar i)) (hb : PE X b (tD (gx X C) W mb)) (hbase : attributeBase a "pop" X.env (eval a X.env) = eval a X.env := by rfl)
    (hfew : ((backTo cpos (starEach [b] X.env)).all (fun x => !x.1) && (backToKw cpos (keywordEach [] X.env)).all (fun x => x.1.isSome)
      && decide ([b].length + ([] : List Keyword).length + (if ([] : List Keyword).isEmpty then 0 else 1) < 30)) = true := by rfl)
    (hline : (apos.endLine == cpos.line) = true := by rfl) (hs : starEach [b] X.env = (false, eval b X.env) :: starEach [] X.env := by rfl) (hpl : (backTo cpos (starEach [] X.env)).any (·.1) = false := by rfl) :
    PE X (.Call (.Attribute a "pop" apos) [b] [] cpos) (tD (gx X C) W (ck i mb)) :=
  dN (pe_bm F.plainAttrs_list F.slot_list_pop F.type_list_pop mt_popAt ha (pa_cons hb pa_nil hs) hbase hfew hline hs hpl) fun σ H Q ⟨B, F, env, h⟩ => by
    obtain ⟨q, _, vs0, e1, hv0, _, _, h⟩ := Pt.olist h
    refine ⟨_, e1, .inl ⟨rfl, vs0, SqL.of hv0⟩, (h.bind (Ra := RD (gx X C)) (as := []) (xs := []) rfl).imp fun y H2 ⟨F2, env2, d, p2, _, r2⟩ => ?_⟩
    obtain ⟨q', ds, vs, e1', hv, rv, own, p3⟩ := p2.olist
    rw [e1] at e1'; cases e1'
    obtain ⟨lz, p3⟩ := p3.asked
    cases d with
    | int k =>
      cases z : ixN ds.length k with
      | none => simp only [z] at p3; exact (Pt.no p3).elim
      | some j =>
        cases z2 : ds[j]? with
        | none => simp only [z, z2] at p3; exact (Pt.no p3).elim
        | some d =>
          simp only [z, z2] at p3
          obtain ⟨v, hv', rv'⟩ := rv.get z2
          rw [rv.length] at z
          obtain ⟨s1, s2, s3, s4⟩ := ixN_seq z
          have big := line63
          have sz : vs.length < 2 ^ 63 := by rw [← rv.length]; omega
          refine ⟨q, vs, k, j, v, rfl, by rw [show y = V.int k from r2], hv, by omega, by omega, s1, hv', ?_⟩
          exact (p3.putL own hv rv (rv.eraseIdx j)).pure (p3.keepL own hv rv rv')
    | _ => exact (Pt.no p3).elim
/-- ints alone -/
def intsOf : List D → Option (List Int)
  | [] => some []
  | .int i :: r => (intsOf r).map (i :: ·)
  | _ => none
theorem jx : ∀ {ds : List D} {ns : List Int}, intsOf ds = some ns → ds = ns.map .int
  | [], _, h => by cases h; rfl
  | d :: ds, ns, h => by
    cases d with
    | int k =>
      cases e : intsOf ds with
      | none => simp [intsOf, e] at h
      | some l => simp [intsOf, e] at h; subst h; rw [List.map_cons, ← jx e]
    | _ => cases h
theorem iB : ∀ ns : List Int, intsOf (ns.map .int) = some ns
  | [] => rfl
  | k :: ns => by rw [List.map_cons]; show (intsOf (ns.map .int)).map (k :: ·) = _; rw [iB ns]; rfl
theorem kR : ∀ {ns : List Int} {k : Int} {m : Nat}, m < ns.idxOf k → ns[m]? ≠ some k
  | [], k, m, h => by simp
  | n :: ns, k, m, h => by
    rw [List.idxOf_cons] at h
    by_cases e : n = k
    · subst e; simp at h
    · rw [show (n == k) = false from beq_eq_false_iff_ne.mpr e] at h
      cases m with
      | zero => simpa using e
      | succ m => rw [List.getElem?_cons_succ]; exact kR (by simpa using h)
def cj (i : Nat) (mb : M D) : M D := aq (olist i) fun _ => aq mb fun d => aq (olist i) fun ds => match intsOf ds, d with
  | some ns, .int k => fV (k ∈ ns) (aq (putO i (.lst ((ns.erase k).map .int))) fun _ => ret .non)
  | _, _ => fail
theorem ym (ha : PE X a (tVar i)) (hb : PE X b (tD (gx X C) W mb)) (hbase : attributeBase a "remove" X.env (eval a X.env) = eval a X.env := by rfl)
    (hfew : ((backTo cpos (starEach [b] X.env)).all (fun x => !x.1) && (backToKw cpos (keywordEach [] X.env)).all (fun x => x.1.isSome)
      && decide ([b].length + ([] : List Keyword).length + (if ([] : List Keyword).isEmpty then 0 else 1) < 30)) = true := by rfl)
    (hline : (apos.endLine == cpos.line) = true := by rfl) (hs : starEach [b] X.env = (false, eval b X.env) :: starEach [] X.env := by rfl) (hpl : (backTo cpos (starEach [] X.env)).any (·.1) = false := by rfl) :
    PE X (.Call (.Attribute a "remove" apos) [b] [] cpos) (tD (gx X C) W (cj i mb)) :=
  dN (pe_bm F.plainAttrs_list F.slot_list_remove F.type_list_remove mt_remove ha (pa_cons hb pa_nil hs) hbase hfew hline hs hpl) fun σ H Q ⟨B, F, env, h⟩ => by
    obtain ⟨q, _, vs0, e1, hv0, _, _, h⟩ := Pt.olist h
    refine ⟨_, e1, .inl ⟨rfl, vs0, SqL.of hv0⟩, (h.bind (Ra := RD (gx X C)) (as := []) (xs := []) rfl).imp fun y H2 ⟨F2, env2, d, p2, _, r2⟩ => ?_⟩
    obtain ⟨q', ds, vs, e1', hv, rv, own, p3⟩ := p2.olist
    rw [e1] at e1'; cases e1'
    cases z : intsOf ds with
    | none => simp only [z] at p3; exact (Pt.no p3).elim
    | some ns =>
      cases d with
      | int k =>
        simp only [z] at p3
        obtain ⟨kin, p3⟩ := p3.asked
        have eds := jx z
        subst eds
        have evs := RpL.ints.mp rv
        subst evs
        have hj : ns[ns.idxOf k]? = some k := by
          rw [List.getElem?_eq_getElem (List.idxOf_lt_length_of_mem kin), List.getElem_idxOf]
        refine ⟨q, ns, k, ns.idxOf k, rfl, by rw [show y = V.int k from r2], hv, hj, fun m hm e => ?_, ?_⟩
        · exact kR hm e
        · rw [← List.erase_eq_eraseIdx_of_idxOf rfl]
          exact (p3.putL own hv rv (RpL.ints.mpr rfl)).pure (b := .non) rfl
      | _ => simp only [z] at p3; exact (Pt.no p3).elim
end
end
section
variable [Tbs]
/-- a target that stores into slots and own objects -/
def wJ (G : Gx) (k : D → M Unit) : TG := fun x σ H Q => ∃ (B F : Addr → Prop) (env : List Slot) (d : D) (Qd : List Slot → Prop), Rel G B F σ env H ∧ Rp G F H d x ∧ k d env (fun _ env' => Qd env') (fun _ _ => False) ∧
  ∀ env' σ' F' H', Qd env' → Stp B F H F' H' → Rel G B F' σ' env' H' → Q σ' H'
def bf : List (D → M Unit) → List D → M Unit
  | [], [] => ret ()
  | k :: ks, d :: ds => aq (k d) fun _ => bf ks ds
  | _, _ => fail
def nI (G : Gx) (ks : List (D → M Unit)) : TGs := fun xs σ H Q => ∃ (B F : Addr → Prop) (env : List Slot) (ds : List D) (Qd : List Slot → Prop), Rel G B F σ env H ∧ RpL G F H ds xs ∧ bf ks ds env (fun _ env' => Qd env') (fun _ _ => False) ∧
  ∀ env' σ' F' H', Qd env' → Stp B F H F' H' → Rel G B F' σ' env' H' → Q σ' H'
def bB (ks : List (D → M Unit)) (d : D) : M Unit := match d with
  | .tup ds => fV (ds.length = ks.length) (bf ks ds)
  | .pr ds => fV (ds.length = ks.length) (bf ks ds)
  | _ => fail
/-- own[b] = -/
def bC (i : Nat) (mb : M D) (v : D) : M Unit := aq (getO i) fun _ => aq mb fun d => aq (olist i) fun ds => match d with
  | .int k => match ixN ds.length k with
    | some j => putO i (.lst (ds.set j v))
    | none => fail
  | _ => fail
def RU : (Addr → Prop) → (Addr → Prop) → List Slot → L2.St → Hp → Unit → Unit → Prop := fun _ _ _ _ _ _ _ => True
section
variable {X : Cx} {C : Addr} {W : WX} {e b a : Expr} {es : List Expr} {md mb : M D} {pos p : Pos} {is : List Nat} {k : D → M Unit} {ks : List (D → M Unit)} {i : Nat}
theorem qU {tg : Expr} (h : PG X tg (xh (gx X C) is k)) : PG X tg (wJ (gx X C) k) := lR h fun v σ H Q ⟨B, F, env, d, Qd, rel, r, hm, hq⟩ => ⟨B, F, env, d, Qd, rel, r, hm, fun env' σ' q rl _ _ => hq env' σ' F H q Stp.refl rl⟩
theorem qh (ha : PE X a (tVar i)) (hb : PE X b (tD (gx X C) W mb))
    (hs : ∀ v, assign (.Subscript a b pos) X.env v = (do
      let ov ← holding [v] (eval a X.env)
      let iv ← holding [v, ov] (eval b X.env)
      standAt pos
      holding [v, ov, iv] (setItem ov iv v)
      release [v, ov, iv] []) := by intro _; rfl) : PG X (.Subscript a b pos) (wJ (gx X C) (bC i mb)) :=
  lR (pg_sub ha hb set_list hs) fun x σ H Q ⟨B, F, env, d, Qd, rel, r, hm, hq⟩ => by
    have h : Pt (gx X C) W RU σ H (fun _ H' => Q σ H') (bC i mb d) B F env := ⟨fun _ env' => Qd env', fun _ _ => False, rel, hm, fun _ env' _ F' H' q st rl _ => hq env' σ F' H' q st rl, fun _ _ _ _ _ _ z => z.elim⟩
    obtain ⟨q, _, e1, _, e3, h⟩ := Pt.getO h
    refine ⟨_, e1, (h.bind (Ra := RD (gx X C)) (as := [d]) (xs := [x]) ⟨x, [], rfl, r, rfl⟩).imp fun y H2 ⟨F2, env2, kd, p2, ⟨x', r', ex, rd, _⟩, r2⟩ => ?_⟩
    cases ex
    obtain ⟨q', ds, vs, e1', hv, rv, own, p3⟩ := p2.olist
    rw [e1] at e1'; cases e1'
    cases kd with
    | int k =>
      cases z : ixN ds.length k with
      | none => simp only [z] at p3; exact (Pt.no p3).elim
      | some j =>
        simp only [z] at p3
        refine ⟨q, vs, k, j, rfl, r2, hv, by rw [← rv.length]; exact z, ?_⟩
        have p3 : Pt (gx X C) W RU σ H2 (fun _ H' => Q σ H') (aq (putO i (.lst (ds.set j d))) fun u => ret u) B F2 env2 := p3
        exact (p3.putL own hv rv (rv.set j rd)).pure (b := ()) trivial
    | _ => exact (Pt.no p3).elim
theorem my : PGs X [] (nI (gx X C) []) := nP pgs_nil fun v σ H Q ⟨B, F, env, ds, Qd, rel, r, hm, hq⟩ => by
  cases ds with
  | nil => exact ⟨r, hq env σ F H hm Stp.refl rel⟩
  | cons d ds => exact (show False from hm).elim
theorem gh {tg : Expr} (h1 : PG X tg (wJ (gx X C) k)) (h2 : PGs X es (nI (gx X C) ks)) (hs : (assignEach (tg :: es) X.env).map (·.2) = assign tg X.env :: (assignEach es X.env).map (·.2) := by rfl) : PGs X (tg :: es) (nI (gx X C) (k :: ks)) :=
  nP (pgs_cons h1 h2 hs) fun v σ H Q ⟨B, F, env, ds, Qd, rel, r, hm, hq⟩ => by
    cases ds with
    | nil => exact (show False from hm).elim
    | cons d ds =>
      obtain ⟨v0, rr, e0, rd, rs⟩ := r
      subst e0
      refine ⟨v0, rr, rfl, B, F, env, d, fun env' => bf ks ds env' (fun _ env' => Qd env') (fun _ _ => False), rel, rd, hm, fun env' σ' F' H' q st rl => ?_⟩
      exact ⟨B, F', env', ds, Qd, rl, RpL.mono st ds rr rs, q, fun env2 σ2 F2 H2 q2 st2 rl2 => hq env2 σ2 F2 H2 q2 (st.trans st2) rl2⟩
theorem nZ {kk n : Nat} (hc : X.calm = true) (h : PGs X es (nI (gx X C) ks)) (hl : ks.length = n) (hn : (assignEach es X.env).length = n := by rfl) (hst : (assignEach es X.env).findIdx? (·.1) = none := by rfl) :
    PG X (.Tuple es kk pos) (wJ (gx X C) (bB ks)) := lR (pg_tup hc h hn hst) fun v σ H Q ⟨B, F, env, d, Qd, rel, r, hm, hq⟩ => by
  cases d with
  | tup ds =>
    obtain ⟨a, vs, e0, h1, h2⟩ := r
    obtain ⟨l, hm⟩ : ds.length = ks.length ∧ bf ks ds env (fun _ env' => Qd env') (fun _ _ => False) := hm
    exact ⟨a, vs, e0, .inl h1.rd, by rw [← h2.length, l, hl], B, F, env, ds, Qd, rel, h2, hm, hq⟩
  | pr ds =>
    obtain ⟨a, vs, e0, h1, h2⟩ := r
    obtain ⟨l, hm⟩ : ds.length = ks.length ∧ bf ks ds env (fun _ env' => Qd env') (fun _ _ => False) := hm
    exact ⟨a, vs, e0, .inl h1, by rw [← h2.length, l, hl], B, F, env, ds, Qd, rel, h2, hm, hq⟩
  | _ => exact (show False from hm).elim
/-- target = datum -/
def cM (md : M D) (k : D → M Unit) : M Fl := fun env Q E => md env (fun d env1 => k d env1 (fun _ env2 => Q .nx env2) (fun _ _ => False)) E
theorem jh {tg : Expr} (he : PE X e (tD (gx X C) W md)) (hg : PG X tg (wJ (gx X C) k)) (hs : swapsWithSole [tg] e pos.line X.env = pure false := by rfl) (hw : swappedStores [tg] e X.env = pure none := by rfl)
    (h1 : (assignEach [tg] X.env).map (·.2) = [assign tg X.env] := by rfl) : PS X (.Assign [tg] e pos) (tS (gx X C) W (cM md k)) :=
  iO (ps_asg he hg hs hw h1) fun Z σ H ⟨B, F, env, Qd, Ed, rel, hm, z1, z2, z3, z4, z5⟩ => by
    refine ⟨B, F, env, _, Ed, rel, hm, fun d env1 x F1 H1 hk st1 rel1 r => ?_, fun x env' cls d F' H' q st rl r => z5 x env' σ cls d F' H' q st rl r⟩
    exact ⟨B, F1, env1, d, fun env2 => Qd .nx env2, rel1, r, hk, fun env2 σ2 F2 H2 q2 st2 rl2 => z1 env2 σ2 F2 H2 q2 (st1.trans st2) rl2⟩
end
inductive Vl where
  | d (d : D) | o (o : O) | t (r : Addr) (ns : List (Addr × R1))
def RVs (G : Gx) (B F : Addr → Prop) (env : List Slot) (σ : L2.St) (H : Hp) : List Vl → List V → List Addr → Prop
  | [], vs, as => vs = [] ∧ as = []
  | .d d :: r, vs, as => ∃ v vr, vs = v :: vr ∧ Rp G F H d v ∧ RVs G B F env σ H r vr as
  | .o o :: r, vs, as => ∃ a vr ar, vs = .ref a :: vr ∧ as = a :: ar ∧ ¬ F a ∧ ¬ B a ∧ OwAt G F H a o ∧ (∀ i, ¬ dM env σ i a) ∧ a ∉ ar ∧ RVs G B F env σ H r vr ar
  | .t a ns :: r, vs, as => ∃ vr ar, vs = .ref a :: vr ∧ as = ns.map (·.1) ++ ar ∧ Tree G B F H a ns ∧ (∀ b ∈ ns.map (·.1), ∀ i, ¬ dM env σ i b) ∧ (∀ b ∈ ns.map (·.1), b ∉ ar) ∧ RVs G B F env σ H r vr ar
def zI (G : Gx) : (Addr → Prop) → (Addr → Prop) → List Slot → L2.St → Hp → List Vl → List V → Prop := fun B F env σ H vl vs => ∃ as, RVs G B F env σ H vl vs as
abbrev wI (G : Gx) (W : WX) (m : M (List Vl)) : TA := Lift G W (zI G) m
def vD (m : M D) (ms : M (List Vl)) : M (List Vl) := aq m fun d => aq ms fun vs => ret (.d d :: vs)
def vO (m : M O) (ms : M (List Vl)) : M (List Vl) := aq m fun o => aq ms fun vs => ret (.o o :: vs)
section
variable {X : Cx} {C : Addr} {W : WX} {e b a : Expr} {es : List Expr} {md : M D} {mo : M O} {ms : M (List Vl)} {pos p : Pos}
theorem mN : PA X [] (wI (gx X C) W (ret [])) := kN pa_nil fun σ H Q ⟨B, F, env, h⟩ => h.pure ⟨[], rfl, rfl⟩
theorem sH (ha : PE X e (tD (gx X C) W md)) (hr : PA X es (wI (gx X C) W ms)) (hs : starEach (e :: es) X.env = (false, eval e X.env) :: starEach es X.env := by rfl) : PA X (e :: es) (wI (gx X C) W (vD md ms)) :=
  kN (pa_cons ha hr hs) fun σ H Q h => (dQ (Ra := RD (gx X C)) h).imp fun x H1 ⟨B, F, env, d, p, r⟩ =>
    (p.bind (Ra := zI (gx X C)) (as := [d]) (xs := [x]) ⟨x, [], rfl, r, rfl⟩).imp fun xs H2 ⟨F2, env2, as, p2, ⟨x', r', e, rd, _⟩, ⟨ad, rs⟩⟩ => by
      cases e
      exact Pt.pure (c := Vl.d d :: as) p2 ⟨ad, x, xs, rfl, rd, rs⟩
theorem zJ (ha : PE X e (tO (gx X C) W mo)) (hr : PA X es (wI (gx X C) W ms)) (hs : starEach (e :: es) X.env = (false, eval e X.env) :: starEach es X.env := by rfl) : PA X (e :: es) (wI (gx X C) W (vO mo ms)) :=
  kN (pa_cons ha hr hs) fun σ H Q h => (dQ (Ra := RO (gx X C)) h).imp fun x H1 ⟨B, F, env, o, ⟨Qd, Ed, rel, hm, hq, he⟩, a, ea, nF, nB, ho, hn⟩ => by
    subst ea
    have rel2 : Rel (gx X C) (fun b => B b ∨ b = a) F σ env H1 := rel.more ⟨ho.some, ho.noTab⟩ hn
    refine ⟨fun b => B b ∨ b = a, F, env, fun vs env' => Qd (.o o :: vs) env', Ed, rel2, hm, fun vs env' xs F' H' q st rl ⟨as, rs⟩ => ?_, fun x env' cls d F' H' q st rl r => he x env' cls d F' H' q (st.less fun _ z => .inl z) (rl.less fun _ z => .inl z) r⟩
    have st' : Stp B F H1 F' H' := st.less fun _ z => .inl z
    have keep : H' a = H1 a := by
      cases e : H1 a with
      | none => exact absurd e ho.some
      | some u => exact st.hk a u (.inl (.inr rfl)) e fun ps z => ho.noTab ps (z ▸ e)
    have notin : ∀ {vl : List Vl} {xs : List V} {as : List Addr}, RVs (gx X C) (fun b => B b ∨ b = a) F' env' σ H' vl xs as → RVs (gx X C) B F' env' σ H' vl xs as ∧ a ∉ as := by
      intro vl
      induction vl with
      | nil => rintro xs as ⟨e1, e2⟩; subst e1 e2; exact ⟨⟨rfl, rfl⟩, by simp⟩
      | cons v vl ih =>
        cases v with
        | d d => rintro xs as ⟨v, vr, e1, r1, r2⟩; obtain ⟨z1, z2⟩ := ih r2; exact ⟨⟨v, vr, e1, r1, z1⟩, z2⟩
        | o o' =>
          rintro xs as ⟨b, vr, ar, e1, e2, f1, f2, f3, f4, f5, r2⟩
          obtain ⟨z1, z2⟩ := ih r2
          refine ⟨⟨b, vr, ar, e1, e2, f1, fun z => f2 (.inl z), f3, f4, f5, z1⟩, ?_⟩
          subst e2
          exact fun z => (List.mem_cons.mp z).elim (fun w => f2 (.inr w.symm)) z2
        | t b ns =>
          rintro xs as ⟨vr, ar, e1, e2, f1, f2, f3, r2⟩
          obtain ⟨z1, z2⟩ := ih r2
          refine ⟨⟨vr, ar, e1, e2, ⟨f1.root, f1.nd, fun p hp => ⟨(f1.at_ p hp).1, fun z => (f1.at_ p hp).2.1 (.inl z), (f1.at_ p hp).2.2⟩⟩, f2, f3, z1⟩, ?_⟩
          subst e2
          exact fun z => (List.mem_append.mp z).elim (fun w => by obtain ⟨p, hp, e⟩ := List.mem_map.mp w; exact (f1.at_ p hp).2.1 (.inr e)) z2
    obtain ⟨rs', na⟩ := notin rs
    refine hq (.o o :: vs) env' (.ref a :: xs) F' H' q st' (rl.less fun _ z => .inl z) ⟨a :: as, a, xs, as, rfl, rfl, fun z => (st.fn a z).elim nF fun n => n (.inr rfl), nB, OwAt.mono st' keep ho, fun i w => (rl.ownSome w).2.2 (.inr rfl), na, rs'⟩
def dC (i : Nat) : Vl → M Unit
  | .d d => setI i d
  | .o o => setO i o
  | .t r ns => fun env Q _ => match env[i]? with
    | some (.io _ _) => False
    | some _ => Q () (env.set i (.tr r ns))
    | none => False
def bu : List Nat → List Vl → M Unit
  | [], [] => ret ()
  | i :: is, v :: vs => aq (dC i v) fun _ => bu is vs
  | _, _ => fail
def pN : L2.St → List Nat → List V → L2.St
  | σ, i :: is, v :: vs => pN (σ.set i (some v)) is vs
  | σ, _, _ => σ
theorem rF {i : Nat} {o : O} {env : List Slot} {Q : Unit → List Slot → Prop} {E : Exn → List Slot → Prop} (h : setO i o env Q E) : Q () (env.set i (.ow o)) := by
  unfold setO at h
  cases q : env[i]? with
  | none => rw [q] at h; exact h.elim
  | some s =>
    rw [q] at h
    cases s with
    | io _ _ => exact h.elim
    | _ => exact h
theorem RVs.move {G : Gx} {B F : Addr → Prop} {env env' : List Slot} {σ σ' : L2.St} {H : Hp} : ∀ {vl : List Vl} {vs : List V} {as : List Addr}, (∀ i a, a ∈ as → dM env' σ' i a → ∃ j, dM env σ j a) → RVs G B F env σ H vl vs as → RVs G B F env' σ' H vl vs as
  | [], _, _, _, h => h
  | .d d :: r, _, _, f, ⟨v, vr, e, r1, r2⟩ => ⟨v, vr, e, r1, RVs.move f r2⟩
  | .o o :: r, _, _, f, ⟨a, vr, ar, e1, e2, f1, f2, f3, f4, f5, r2⟩ => by
    subst e2
    exact ⟨a, vr, ar, e1, rfl, f1, f2, f3, fun i w => (f i a (by simp) w).elim fun j z => f4 j z, f5, RVs.move (fun i b hb => f i b (List.mem_cons_of_mem _ hb)) r2⟩
  | .t r ns :: _, _, _, f, ⟨vr, ar, e1, e2, f1, f2, f3, r2⟩ => by
    subst e2
    exact ⟨vr, ar, e1, rfl, f1, fun b hb i w => (f i b (List.mem_append_left _ hb) w).elim fun j z => f2 b hb j z, f3, RVs.move (fun i b hb => f i b (List.mem_append_right _ hb)) r2⟩
theorem Rel.setT {G : Gx} {B F : Addr → Prop} {σ : L2.St} {H : Hp} {env : List Slot} (rel : Rel G B F σ env H) {i : Nat} {r : Addr} {ns : List (Addr × R1)} (t : Tree G B F H r ns) (hn : ∀ b ∈ ns.map (·.1), ∀ j, ¬ dM env σ j b) : Rel G B F (σ.set i (some (.ref r))) (env.set i (.tr r ns)) H := by
  refine ⟨by rw [List.length_set, List.length_set]; exact rel.len, fun j s e => ?_, fun j k b h1 h2 => ?_, rel.hB, rel.hF, rel.tb⟩
  · by_cases hj : j = i
    · subst hj
      have hlt : j < env.length := by
        have := (List.getElem?_eq_some_iff.mp e).1
        rw [List.length_set] at this; exact this
      rw [List.getElem?_set_self hlt] at e
      cases e
      rw [List.getElem?_set_self (by rw [← rel.len]; exact hlt)]
      exact ⟨rfl, t⟩
    · rw [List.getElem?_set_ne (Ne.symm hj)] at e ⊢
      exact rel.sl j s e
  · have inT : ∀ {x : Option (Option V)} {c : Addr}, (Slot.tr r ns).feet x c → c ∈ ns.map (·.1) := fun h => by
      rcases h with ⟨k, _⟩ | ⟨_, _, q, m⟩
      · cases k
      · cases q; exact m
    rcases eL rel.len h1 with ⟨e1, z⟩ | ⟨n1, h1⟩
    · rcases eL rel.len h2 with ⟨e2, z'⟩ | ⟨_, h2⟩
      · rw [e1, e2]
      · exact (hn b (inT z) k h2).elim
    · rcases eL rel.len h2 with ⟨_, z⟩ | ⟨_, h2⟩
      · exact (hn b (inT z) j h1).elim
      · exact rel.ap j k b h1 h2
theorem ju {G : Gx} {B F : Addr → Prop} {H : Hp} : ∀ {is : List Nat} {vl : List Vl} {vs : List V} {as : List Addr} {env : List Slot} {σ : L2.St} {Q : Unit → List Slot → Prop} {E : Exn → List Slot → Prop}, Rel G B F σ env H → RVs G B F env σ H vl vs as → bu is vl env Q E →
    ∃ env', Q () env' ∧ Rel G B F (pN σ is vs) env' H ∧ is.length = vs.length
  | [], [], _, _, env, σ, Q, E, rel, ⟨e, _⟩, h => by subst e; exact ⟨env, h, rel, rfl⟩
  | [], _ :: _, _, _, _, _, _, _, _, _, h => (show False from h).elim
  | _ :: _, [], _, _, _, _, _, _, _, _, h => (show False from h).elim
  | i :: is, .d d :: vl, _, as, env, σ, Q, E, rel, ⟨v, vr, e, r1, r2⟩, h => by
    subst e
    have h : setI i d env (fun _ env' => bu is vl env' Q E) E := h
    have rel' := rel.setI (i := i) r1
    obtain ⟨env', q, rl, l⟩ := ju rel' (r2.move fun j a _ w => (eL rel.len w).elim (fun z => (jB z.2).elim) fun z => ⟨j, z.2⟩) (il h)
    exact ⟨env', q, rl, by rw [List.length_cons, List.length_cons, l]⟩
  | i :: is, .o o :: vl, _, _, env, σ, Q, E, rel, ⟨a, vr, ar, e1, e2, f1, f2, f3, f4, f5, r2⟩, h => by
    subst e1 e2
    have h : setO i o env (fun _ env' => bu is vl env' Q E) E := h
    have rel' := rel.setO (i := i) f1 f2 f3 f4
    obtain ⟨env', q, rl, l⟩ := ju rel' (r2.move fun j b hb w => (eL rel.len w).elim (fun z => by cases mB z.2 rfl; exact (f5 hb).elim) fun z => ⟨j, z.2⟩) (rF h)
    exact ⟨env', q, rl, by rw [List.length_cons, List.length_cons, l]⟩
  | i :: is, .t r ns :: vl, _, _, env, σ, Q, E, rel, ⟨vr, ar, e1, e2, f1, f2, f3, r2⟩, h => by
    subst e1 e2
    have h : (match env[i]? with
      | some (.io _ _) => False
      | some _ => bu is vl (env.set i (.tr r ns)) Q E
      | none => False) := h
    have h2 : bu is vl (env.set i (.tr r ns)) Q E := by
      cases q : env[i]? with
      | none => rw [q] at h; exact h.elim
      | some s =>
        rw [q] at h
        cases s with
        | io _ _ => exact h.elim
        | _ => exact h
    have rel' := rel.setT (i := i) f1 f2
    obtain ⟨env', q, rl, l⟩ := ju rel' (r2.move fun j b hb w => (eL rel.len w).elim (fun z => by
      rcases z.2 with ⟨k, _⟩ | ⟨_, _, e, m⟩
      · cases k
      · cases e; exact (f3 b m hb).elim) fun z => ⟨j, z.2⟩) h2
    exact ⟨env', q, rl, by rw [List.length_cons, List.length_cons, l]⟩
def cL (is : List Nat) (ms : M (List Vl)) : M Fl := aq ms fun vs => aq (bu is vs) fun _ => ret .nx
theorem mV {is : List Nat} {Z : Ends} {σ : L2.St} {H : Hp} (h : tS (gx X C) W (cL is ms) Z σ H) : wI (gx X C) W ms σ H fun vs H1 => is.length = vs.length ∧ Z.nx (pN σ is vs) H1 := by
  obtain ⟨B, F, env, h⟩ := h
  have h : Ps (gx X C) W (aq ms fun vs => aq (bu is vs) fun _ => ret .nx) Z σ H B F env := h
  refine (h.bind (Ra := zI (gx X C)) (as := []) (xs := [])).imp fun y H1 ⟨F1, env1, vl, ⟨Qd, Ed, rel, hm, h1, h2, h3, h4, h5⟩, as, rs⟩ => ?_
  obtain ⟨env', q, rl, l⟩ := ju rel rs (show bu is vl env1 (fun _ env' => Qd .nx env') Ed from hm)
  exact ⟨l, h1 env' _ F1 H1 q Stp.refl rl⟩
theorem nK {i j : Nat} {x y : Str} {px py pt : Pos} {kt k2 pt2} (hc : X.calm = true) (hN : X.N.Nodup) (hi : X.N[i]? = some x) (hj : X.N[j]? = some y) (hij : i ≠ j)
    (hx : X.env.scope.names.lookup x = some .local) (hy : X.env.scope.names.lookup y = some .local) (ha : PA X [a, b] (wI (gx X C) W ms))
    (hw : swappedStores [.Tuple [.Name x px, .Name y py] kt pt] (.Tuple [a, b] k2 pt2) X.env = pure (some [x, y]) := by rfl)
    (hs : swapsWithSole [.Tuple [.Name x px, .Name y py] kt pt] (.Tuple [a, b] k2 pt2) pos.line X.env = pure false := by rfl) :
    PS X (.Assign [.Tuple [.Name x px, .Name y py] kt pt] (.Tuple [a, b] k2 pt2) pos) (tS (gx X C) W (cL [i, j] ms)) :=
  iO (ps_par hc hN hi hj hij hx hy ha hw hs) fun Z σ H h => (mV h).imp fun vs H1 ⟨l, q⟩ => by
    match vs, l, q with
    | [v, w], _, q => exact ⟨v, w, rfl, q⟩
    | [], l, _ => cases l
    | [_], l, _ => cases l
    | _ :: _ :: _ :: _, l, _ => simp at l
theorem s6 {i j l : Nat} {x y z : Str} {c : Expr} {px py pz pt : Pos} {kt k2 pt2} (hc : X.calm = true) (hN : X.N.Nodup) (hi : X.N[i]? = some x) (hj : X.N[j]? = some y) (hl : X.N[l]? = some z) (hij : i ≠ j) (hil : i ≠ l) (hjl : j ≠ l)
    (hx : X.env.scope.names.lookup x = some .local) (hy : X.env.scope.names.lookup y = some .local) (hz : X.env.scope.names.lookup z = some .local) (ha : PA X [a, b, c] (wI (gx X C) W ms))
    (hw : swappedStores [.Tuple [.Name x px, .Name y py, .Name z pz] kt pt] (.Tuple [a, b, c] k2 pt2) X.env = pure (some [x, y, z]) := by rfl)
    (hs : swapsWithSole [.Tuple [.Name x px, .Name y py, .Name z pz] kt pt] (.Tuple [a, b, c] k2 pt2) pos.line X.env = pure false := by rfl) :
    PS X (.Assign [.Tuple [.Name x px, .Name y py, .Name z pz] kt pt] (.Tuple [a, b, c] k2 pt2) pos) (tS (gx X C) W (cL [i, j, l] ms)) :=
  iO (ps_par3 hc hN hi hj hl hij hil hjl hx hy hz ha hw hs) fun Z σ H h => (mV h).imp fun vs H1 ⟨l, q⟩ => by
    match vs, l, q with
    | [u, v, w], _, q => exact ⟨u, v, w, rfl, q⟩
    | [], l, _ => cases l
    | [_], l, _ => cases l
    | [_, _], l, _ => cases l
    | _ :: _ :: _ :: _ :: _, l, _ => simp at l
end
end
section
variable [Tbs]
def fH : O → M ((Int → Bool) × Nat)
  | .set S n => ret (S, n)
  | _ => fail
def oset (i : Nat) : M ((Int → Bool) × Nat) := aq (getO i) fH
def wA (S : Int → Bool) (k : Int) : Int → Bool := fun j => S j || decide (j = k)
section
variable {G : Gx} {W : WX} {B F : Addr → Prop} {σ : L2.St} {H : Hp} {env : List Slot} {α β γ δ : Type}
variable {R : (Addr → Prop) → (Addr → Prop) → List Slot → L2.St → Hp → γ → δ → Prop} {Q : δ → Hp → Prop} {i : Nat} {a : Addr} {o o' : O}
theorem Pt.oset {k : (Int → Bool) × Nat → M γ} (h : Pt G W R σ H Q (aq (DL.oset i) k) B F env) : ∃ a S n, σ[i]? = some (some (.ref a)) ∧ H a = some (SetO G.w a S n) ∧ OwnR env σ i a ∧ Pt G W R σ H Q (k (S, n)) B F env := by
  have h : Pt G W R σ H Q (aq (DL.getO i) fun o => aq (fH o) k) B F env := h
  obtain ⟨a, o, e1, e2, e3, p⟩ := h.getO
  cases o with
  | set S n => exact ⟨a, S, n, e1, e2, e3, p⟩
  | _ => exact (Pt.unknown p).elim
end
section
variable {X : Cx} {C : Addr} {W : WX} {a b c e : Expr} {es : List Expr} {ma mb mc : M D} {pos apos cpos p : Pos} {i : Nat}
/-- set() -/
theorem x4 (hg : Gl X "set") (hm : X.mg "set" = none) : PE X (.Call (.Name "set" p) [] [] pos) (tO (gx X C) W (ret (.set (fun _ => false) 0))) :=
  dN (pe_callTy0 cr_set0 hg hm boot_set) fun σ H Q ⟨B, F, env, Qd, Ed, rel, hm, hq, he⟩ => by
    refine ⟨rfl, fun q hn => ?_⟩
    exact hq _ env _ F _ hm (gC hn) (rel.new hn) ⟨q, rfl, rel.notF hn, rel.notB hn, upd_same, fun i w => (rel.ownSome w).1 hn⟩
/-- own.add(k) -/
def bS (i : Nat) (mb : M D) : M D := aq (oset i) fun _ => aq mb fun d => aq (oset i) fun s => match d with
  | .int k => fV (s.2 + 1 < scanBound) (aq (putO i (.set (wA s.1 k) (if s.1 k = true then s.2 else s.2 + 1))) fun _ => ret .non)
  | _ => fail
theorem yp (ha : PE X a (tVar i)) (hb : PE X b (tD (gx X C) W mb)) (hbase : attributeBase a "add" X.env (eval a X.env) = eval a X.env := by rfl)
    (hfew : ((backTo cpos (starEach [b] X.env)).all (fun x => !x.1) && (backToKw cpos (keywordEach [] X.env)).all (fun x => x.1.isSome)
      && decide ([b].length + ([] : List Keyword).length + (if ([] : List Keyword).isEmpty then 0 else 1) < 30)) = true := by rfl)
    (hline : (apos.endLine == cpos.line) = true := by rfl) (hs : starEach [b] X.env = (false, eval b X.env) :: starEach [] X.env := by rfl) (hpl : (backTo cpos (starEach [] X.env)).any (·.1) = false := by rfl) :
    PE X (.Call (.Attribute a "add" apos) [b] [] cpos) (tD (gx X C) W (bS i mb)) :=
  dN (pe_sadd ha (pa_cons hb pa_nil hs) hbase hfew hline hs hpl) fun σ H Q ⟨B, F, env, h⟩ => by
    obtain ⟨q, S0, n0, e1, hv0, _, h⟩ := Pt.oset h
    refine ⟨_, e1, ⟨q, S0, n0, rfl, hv0⟩, (h.bind (Ra := RD (gx X C)) (as := []) (xs := []) rfl).imp fun y H2 ⟨F2, env2, d, p2, _, r2⟩ => ?_⟩
    obtain ⟨q', S, n, e1', hv, own, p3⟩ := p2.oset
    rw [e1] at e1'; cases e1'
    cases d with
    | int k =>
      obtain ⟨sz, p3⟩ := Pt.asked p3
      refine ⟨q, k, S, n, rfl, by rw [show y = V.int k from r2], hv, sz, ?_⟩
      exact (Pt.putO (o := .set S n) p3 own hv upd_same).pure (b := .non) rfl
    | _ => exact (Pt.no p3).elim
/-- k in own -/
def bJ (neg : Bool) (ma : M D) (i : Nat) : M D := aq (getO i) fun _ => aq ma fun x => aq (oset i) fun s => match x with
  | .int k => ret (.bl (if neg then !s.1 k else s.1 k))
  | _ => fail
theorem p5 {neg : Bool} {σ : L2.St} {H : Hp} {Q : V → Hp → Prop} (h : Lift (gx X C) W (RD (gx X C)) (bJ neg ma i) σ H Q) : tD (gx X C) W ma σ H fun x H1 => tVar i σ H1 fun y H2 => ∃ k a S n, x = V.int k ∧ y = V.ref a ∧ H2 a = some (SetO X.w a S n) ∧ Q (.bl (if neg then !S k else S k)) H2 := by
  obtain ⟨B, F, env, h⟩ := h
  obtain ⟨q, _, e1, _, e3, h⟩ := Pt.getO h
  refine (h.bind (Ra := RD (gx X C)) (as := []) (xs := []) rfl).imp fun y H2 ⟨F2, env2, d, p2, _, r2⟩ => ?_
  obtain ⟨q', S, n, e1', hv, own, p3⟩ := p2.oset
  refine ⟨_, e1', ?_⟩
  cases d with
  | int k => exact ⟨k, q', S, n, r2, rfl, hv, Pt.pure p3 (b := .bl _) rfl⟩
  | _ => exact (Pt.no p3).elim
theorem xg (ha : PE X a (tD (gx X C) W ma)) (hb : PE X b (tVar i)) (hm : behindInMarks .In b = false) : PT X (.Compare a [.In] [b] pos) (lh (gx X C) W (aq (bJ false ma i) dP)) :=
  oP (pt_cmpR or_sin ha hb hm) fun σ H Q h => p5 (rm h)
end
end
section
variable [Tbs]
inductive CT where
  | int | bool | tuple | str | list | bytes | hall
inductive TK where
  | non | bl | int | str | byt | tup | lst | dict | hall
def CT.u (C : Addr) : CT → Value
  | .int => .type "int" | .bool => .type "bool" | .tuple => .type "tuple" | .str => .type "str" | .list => .type "list" | .bytes => .type "bytes" | .hall => .ref C
def CT.v (C : Addr) : CT → V
  | .int => .ty "int" | .bool => .ty "bool" | .tuple => .ty "tuple" | .str => .ty "str" | .list => .ty "list" | .bytes => .ty "bytes" | .hall => .ref C
def TK.u (C : Addr) : TK → Value
  | .non => .type "NoneType" | .bl => .type "bool" | .int => .type "int" | .str => .type "str" | .byt => .type "bytes" | .tup => .type "tuple" | .lst => .type "list" | .dict => .type "dict" | .hall => .ref C
def CT.is : CT → TK → Bool
  | .int, .int => true | .int, .bl => true | .bool, .bl => true | .tuple, .tup => true | .str, .str => true | .list, .lst => true | .bytes, .byt => true | .hall, .hall => true
  | _, _ => false
def D.kind : D → Option TK
  | .non => some .non | .bl _ => some .bl | .int _ => some .int | .str _ => some .str | .byt _ => some .byt | .tup _ => some .tup | .pr _ => some .tup | .lst _ => some .lst | .hall _ _ => some .hall | .scr _ => none | .emp => some .dict | .exn _ _ _ => none | .dct _ _ => none | .fn _ => none | .dcn _ _ => none
/-- what the class Hall is, in the written part -/
structure HallK (K : PySem.W.Frag) (C : Addr) : Prop where
  cls : Cls K C
  ha : PySem.W.findIn K (.ref C) "__class__" = some (some (.builtin "object.__class__"))
  hn : PySem.W.specialIn K (.builtin "object.__class__") "__get__" = some (some (.builtin "getset_descriptor.__get__"))
  htk : PySem.W.takesIn K (.builtin "object.__class__") = some true
  hm : PySem.W.mroIn K C (.type "object") = some true
  one : ∀ c t, PySem.W.kitOne K (TK.u C t) (CT.u C c) = some (CT.is c t)
  ng : NoAttr K C "guests"
  ns : NoAttr K C "spare"
theorem CT.clsV {C : Addr} (c : CT) : ClsV (c.v C) (c.u C) := by
  cases c
  case hall => exact .own C
  all_goals exact .ty _
def cE (c : CT) (d : D) : M D := match d.kind with
  | some t => ret (.bl (c.is t))
  | none => fail
section
variable {X : Cx} {C : Addr} {W : WX} {a b c e : Expr} {es : List Expr} {ma mb mc md : M D} {pos apos cpos p : Pos} {i : Nat}
theorem xf {F : Addr → Prop} {H : Hp} {d : D} {v : V} {t : TK} (hk : HallK X.K C) (r : Rp (gx X C) F H d v) (h : d.kind = some t) : TyX X.K H v (t.u C) := by
  cases d with
  | non => cases h; cases (show _ = _ from r); exact .base .non
  | bl _ => cases h; cases (show _ = _ from r); exact .base (.bl _)
  | int _ => cases h; cases (show _ = _ from r); exact .base (.int _)
  | str _ => cases h; cases (show _ = _ from r); exact .base (.str _)
  | byt _ => cases h; cases (show _ = _ from r); exact .byt _
  | tup _ => cases h; obtain ⟨q, vs, e, ⟨_, ob, h1, _⟩, _⟩ := r; subst e; exact .fTuple h1
  | pr _ =>
    cases h
    obtain ⟨q, vs, e, h1, _⟩ := r
    subst e
    rcases h1 with h1 | ⟨ob, h1⟩
    · exact .base (.tup h1)
    · exact .fTuple h1
  | lst _ => cases h; obtain ⟨q, vs, e, _, h1, _⟩ := r; subst e; exact .base (.lst h1)
  | hall g s => cases h; obtain ⟨q, dx, e, _, h1⟩ := r; subst e; exact .base (.ins h1 hk.cls hk.ha hk.hn hk.htk hk.hm)
  | scr _ => cases h
  | emp => cases h; obtain ⟨q, e, _, h1⟩ := r; subst e; exact .base (.dK h1)
  | exn _ _ _ => cases h
  | dct _ _ => cases h
  | fn _ => cases h
  | dcn _ _ => cases h
theorem ka {ct : CT} (hk : HallK X.K C) (hg : Gl X "isinstance") (hm : X.mg "isinstance" = none) (ha : PE X a (tD (gx X C) W ma)) (hc : PE X c (tC (ct.v C)))
    (h1 : starEach [a, c] X.env = (false, eval a X.env) :: starEach [c] X.env := by rfl) (h2 : starEach [c] X.env = (false, eval c X.env) :: starEach [] X.env := by rfl) (hpl : (backTo pos (starEach [c] X.env)).any (·.1) = false := by rfl) :
    PE X (.Call (.Name "isinstance" p) [a, c] [] pos) (tD (gx X C) W (aq ma (cE ct))) :=
  dN (pe_callB call_isi hg hm boot_isinstance (pa_cons ha (pa_cons hc pa_nil h2) h1) (by decide) (by decide) h1 hpl) fun σ H Q h => (dQ (Ra := RD (gx X C)) h).imp fun x H1 ⟨B, F, env, d, q, r⟩ => by
    cases k : d.kind with
    | none => simp only [cE, k] at q; exact (Pt.no q).elim
    | some t =>
      simp only [cE, k] at q
      exact ⟨x, ct.v C, t.u C, ct.u C, ct.is t, rfl, ct.clsV, xf hk r k, hk.one ct t, q.pure (b := .bl _) rfl⟩
def e6 : D → M D
  | .hall g _ => ret (.int g)
  | _ => fail
def e9 : D → M D
  | .hall _ s => ret (.int s)
  | _ => fail
theorem sA (hk : HallK X.K C) (he : PE X e (tD (gx X C) W md)) (hb : attributeBase e "guests" X.env (eval e X.env) = eval e X.env := by rfl) : PE X (.Attribute e "guests" pos) (tD (gx X C) W (aq md e6)) :=
  dN (pe_fld he hb) fun σ H Q h => (dQ (Ra := RD (gx X C)) h).imp fun x H1 ⟨B, F, env, d, q, r⟩ => by
    cases d with
    | hall g s => obtain ⟨a, dx, ex, hF, h1⟩ := r; exact ⟨a, C, dx, _, .int g, ex, h1, hk.cls, hk.ng, rfl, Pt.pure (c := D.int g) q rfl⟩
    | _ => exact (Pt.no q).elim
theorem uF (hk : HallK X.K C) (he : PE X e (tD (gx X C) W md)) (hb : attributeBase e "spare" X.env (eval e X.env) = eval e X.env := by rfl) : PE X (.Attribute e "spare" pos) (tD (gx X C) W (aq md e9)) :=
  dN (pe_fld he hb) fun σ H Q h => (dQ (Ra := RD (gx X C)) h).imp fun x H1 ⟨B, F, env, d, q, r⟩ => by
    cases d with
    | hall g s => obtain ⟨a, dx, ex, hF, h1⟩ := r; exact ⟨a, C, dx, _, .int s, ex, h1, hk.cls, hk.ns, rfl, Pt.pure (c := D.int s) q rfl⟩
    | _ => exact (Pt.no q).elim
/-- hall.m() -/
def aJ (df : DF) : D → M Res
  | .hall g s => callD df [.hall g s]
  | _ => fail
variable {k n : Nat} {f : Addr} {fd : FuncData} {ps ks : List Str} {df : DF} {x m : Str} {kws : List Keyword} {ms mk : M (List D)} {o : Expr}
theorem zw {pl : Sem Bool} (hk : HallK X.K C) (Fn : FnG X.prog X.w X.K X.mg X.base k f fd ps (h8 (gx X C) 1 df)) (hr : Room k X.A) (hG : X.A.guards = some []) (tk : DLz.Takes X W) (hm : Meth X.K C m f) (hb : Binds X.K fd ps []) (hn : 1 = ps.length) (he : PE X o (tD (gx X C) W md))
    (hne : ([("guests", ()), ("spare", ())] : List (Str × Unit)).lookup m = none)
    (ht : eval (.Call (.Attribute o m apos) [] [] pos) X.env = (do
      let ov ← eval o X.env
      standAt apos.atName
      let (f, first) ← holding [ov] (getMethod ov m pl)
      callWith pos f first (backTo pos (starEach [] X.env)) (backToKw pos (keywordEach [] X.env))) := by rfl) :
    PE X (.Call (.Attribute o m apos) [] [] pos) (yL (gx X C) W (aq md (aJ df))) := ⟨fun pins s σ H Q I h => by
  refine PySem.W.methodCall_KW (pl := pl) (thn (he.run pins s σ H _ I (dQ (Ra := RD (gx X C)) h)) fun u s1 ⟨x, H1, I1, rx, B, F, env, d, q, r⟩ => ?_) ht
  cases d with
  | hall g s =>
    obtain ⟨a, dx, ex, hF, h1⟩ := id r
    subst ex
    obtain rfl : u = Value.ref a := rx
    have noatt : ([("guests", V.int g), ("spare", V.int s)] : List (Str × V)).lookup m = none := by
      simp only [List.lookup] at hne ⊢
      split <;> rename_i e1 <;> simp only [e1] at hne
      · cases hne
      · split <;> rename_i e2 <;> simp only [e2] at hne
        · cases hne
        · rfl
    refine getmeth_ok I1 h1 hk.cls hm noatt ?_
    have hb' := hb s1 [.ref a] I1.kIn (by rw [List.append_nil]; exact hn)
    rw [List.append_nil] at hb'
    refine PySem.W.callWith_K0 (first := [.ref a]) I1.kIn hm.kp (wpAny_call (s8 (vs := [.ref a]) Fn hr hG tk I1 hb' (.cons rfl .nil) (Pt.callD q ⟨_, [], rfl, r, rfl⟩ rfl)))
  | _ => exact (Pt.no q).elim⟩
def bx (f : Str) (v : D) : List (Str × D) → List (Str × D)
  | [] => [(f, v)]
  | (g, x) :: r => if g = f then (g, v) :: r else (g, x) :: bx f v r
theorem FsR.put {G : Gx} {F : Addr → Prop} {H : Hp} {f : Str} {d : D} {v : V} (rv : Rp G F H d v) : ∀ {fs : List (Str × D)} {l : List (Str × V)}, FsR G F H fs l → FsR G F H (bx f d fs) (putF f v l)
  | [], _, h => by cases (show _ = _ from h); exact ⟨v, [], rfl, rv, rfl⟩
  | (g, x) :: r, _, ⟨w, l', e, h1, h2⟩ => by
    subst e
    show FsR G F H (if g = f then (g, d) :: r else (g, x) :: bx f d r) (if g = f then (g, v) :: l' else (g, w) :: putF f v l')
    by_cases z : g = f
    · rw [if_pos z, if_pos z]; exact ⟨v, l', rfl, rv, h2⟩
    · rw [if_neg z, if_neg z]; exact ⟨w, _, rfl, h1, FsR.put rv h2⟩
theorem FsR.look {G : Gx} {F : Addr → Prop} {H : Hp} {f : Str} : ∀ {fs : List (Str × D)} {l : List (Str × V)} {d : D}, FsR G F H fs l → fs.lookup f = some d → ∃ v, l.lookup f = some v ∧ Rp G F H d v
  | [], _, _, h, e => by cases e
  | (g, x) :: r, _, d, ⟨w, l', ee, h1, h2⟩, e => by
    subst ee
    simp only [List.lookup] at e ⊢
    cases z : f == g with
    | true => simp only [z] at e ⊢; cases e; exact ⟨w, rfl, h1⟩
    | false => simp only [z] at e ⊢; exact FsR.look h2 e
def fJ (C : Addr) : O → M (List (Str × D))
  | .ins cl fs => fV (cl = C) (ret fs)
  | _ => fail
def oins (C : Addr) (i : Nat) : M (List (Str × D)) := aq (getO i) (fJ C)
theorem Pt.oins {G : Gx} {B F : Addr → Prop} {σ : L2.St} {H : Hp} {env : List Slot} {γ δ : Type} {R : (Addr → Prop) → (Addr → Prop) → List Slot → L2.St → Hp → γ → δ → Prop} {Q : δ → Hp → Prop} {k : List (Str × D) → M γ} {C : Addr}
    (h : Pt G W R σ H Q (aq (DL.oins C i) k) B F env) : ∃ a dx fs l, σ[i]? = some (some (.ref a)) ∧ H a = some (.ins C dx l) ∧ FsR G F H fs l ∧ OwnR env σ i a ∧ Pt G W R σ H Q (k fs) B F env := by
  have h : Pt G W R σ H Q (aq (DL.getO i) fun o => aq (fJ C o) k) B F env := h
  obtain ⟨a, o, e1, e2, e3, p⟩ := h.getO
  cases o with
  | ins cl fs =>
    have p : Pt G W R σ H Q (fV (cl = C) (k fs)) B F env := p
    obtain ⟨ec, p'⟩ := p.asked
    subst ec
    obtain ⟨dx, l, h1, h2⟩ := e2
    exact ⟨a, dx, fs, l, e1, h1, h2, e3, p'⟩
  | _ => exact (Pt.unknown p).elim
/-- own.f = value -/
def bL (C : Addr) (i : Nat) (f : Str) (md : M D) : M Fl := aq md fun d => aq (oins C i) fun fs => fV (fs.length < 1000) (aq (putO i (.ins C (bx f d fs))) fun _ => ret .nx)
theorem s7 {C' : Addr} {f : Str} {pos' : Pos} {value : Expr} (cl : Cls X.K C') (na : NoAttr X.K C' f) (ho : PE X o (tVar i)) (hv : PE X value (tD (gx X C) W md)) (hs : swapsWith value (some (.Attribute o f pos')) pos.line X.env = pure false := by rfl) :
    PS X (.Assign [.Attribute o f pos'] value pos) (tS (gx X C) W (bL C' i f md)) :=
  iO (ps_fld ho hv hs) fun Z σ H ⟨B, F, env, h⟩ => by
    have h : Ps (gx X C) W (aq md fun d => aq (oins C' i) fun fs => fV (fs.length < 1000) (aq (putO i (.ins C' (bx f d fs))) fun _ => ret .nx)) Z σ H B F env := h
    refine (h.bind (Ra := RD (gx X C)) (as := []) (xs := [])).imp fun y H1 ⟨F1, env1, d, ⟨Qd, Ed, rel, hm, z1, z2, z3, z4, z5⟩, r⟩ => ?_
    have p : Pt (gx X C) W RU σ H1 (fun _ H' => Z.nx σ H') (aq (oins C' i) fun fs => fV (fs.length < 1000) (aq (putO i (.ins C' (bx f d fs))) fun _ => ret ())) B F1 env1 :=
      ⟨fun _ env' => Qd .nx env', Ed, rel, hm, fun _ env' _ F' H' q st rl _ => z1 env' σ F' H' q st rl, fun x env' cls d F' H' q st rl r => z5 x env' σ cls d F' H' q st rl r⟩
    obtain ⟨a, dx, fs, l, e1, hv, rf, own, p2⟩ := p.oins
    obtain ⟨sz, p2⟩ := p2.asked
    refine ⟨_, e1, a, C', dx, l, rfl, hv, cl, na, by rw [← rf.len]; exact sz, ?_⟩
    obtain ⟨_, nF, nB⟩ := rel.ownSome (.inl own)
    have hw : OwAt (gx X C) F1 H1 a (.ins C' fs) := ⟨dx, l, hv, rf⟩
    refine (p2.putO (u := .ins C' dx (putF f y l)) own hw ⟨dx, _, upd_same, ?_⟩).pure (b := ()) trivial
    exact FsR.mono (jr (B := B) nF nB hw.notup hw.noTab hw.noCode) _ _ (rf.put r)
end
end
section
variable [Tbs]
/-- how written and named values come to the parameters behind self -/
structure KwM (K : PySem.W.Frag) (fd : FuncData) (ps : List Str) (n : Nat) (ks : List Str) (gD : List D → List D → List D) (g : List Value → List Value → List Value) (gV gT : List V → List V → List V) : Prop where
  b : KBn K fd ps (n + 1) ks g gV
  hd : ∀ v vs zs, gV (v :: vs) zs = v :: gT vs zs
  len : ∀ vs zs, vs.length = n → zs.length = ks.length → (gT vs zs).length + 1 = ps.length
  rel : ∀ {G : Gx} {F : Addr → Prop} {H : Hp} {ds es : List D} {vs zs : List V}, RpL G F H ds vs → RpL G F H es zs → RpL G F H (gD ds es) (gT vs zs)
def fc (C : Addr) (n m : Nat) (gD : List D → List D → List D) (df : DF) (ds es : List D) : M O := fun env Q E => ds.length = n ∧ es.length = m ∧ ∀ a, df (.io a (.ins C []) :: (gD ds es).map .im)
  (fun (r : Res) (ss : List Slot) => match r with
    | .d .non => (match ss[0]? with
      | some (Slot.io _ o) => Q o env
      | _ => False)
    | _ => False) (fun x _ => E x env)
section
variable {X : Cx} {C C' : Addr} {W : WX} {a b c e : Expr} {es : List Expr} {ms mz : M (List D)} {pos apos cpos p : Pos} {i : Nat}
variable {k n j : Nat} {f : Addr} {fd : FuncData} {ps ks : List Str} {df : DF} {x : Str} {kws : List Keyword}
variable {gD : List D → List D → List D} {g : List Value → List Value → List Value} {gV gT : List V → List V → List V}
theorem pq {A : Around} {us : List Value} {kw : List (Str × Value)} (h : A.guards = some []) : (A.under (.builtin "type.__call__" ⟨.ref C :: us, kw⟩)).guards = some [] := by
  simp [Around.under, pushGuards, Code.guards, Code.isGuard, guardIds, h]
theorem Pt.mk {B F : Addr → Prop} {env : List Slot} {σ : L2.St} {H : Hp} {Q : V → Hp → Prop} {ds es : List D} {vs zs : List V} (kd : KwM X.K fd ps j ks gD g gV gT) (hn : n = ps.length) (h : Pt (gx X C) W (RO (gx X C)) σ H Q (fc C' j ks.length gD df ds es) B F env) (r1 : RpL (gx X C) F H ds vs) (r2 : RpL (gx X C) F H es zs) :
    vs.length = j ∧ zs.length = ks.length ∧ ∀ x dx, H x = none → H dx = none → dx ≠ x → h8 (gx X C) n df (gV (.ref x :: vs) zs) (upd (upd H dx (.own x)) x (.ins C' dx [])) (fun v H2 => v = .non ∧ Q (.ref x) H2) (WE W σ) := by
  obtain ⟨Qd, Ed, rel, ⟨l1, l2, hm⟩, hq, he⟩ := h
  have a1 := r1.length.symm.trans l1
  have a2 := r2.length.symm.trans l2
  refine ⟨a1, a2, fun x dx nx nd ne => ?_⟩
  rw [kd.hd]
  have nx2 : upd H dx (.own x) x = none := by rw [upd_ne (Ne.symm ne)]; exact nx
  have kp : ∀ b o, H b = some o → upd (upd H dx (.own x)) x (.ins C' dx []) b = some o := fun b o q => by
    rw [upd_ne (ne_of_none q nx), upd_ne (ne_of_none q nd)]; exact q
  have st0 : Stp B F H F (upd (upd H dx (.own x)) x (.ins C' dx [])) := jU kp
  have rr := RpL.mono st0 _ _ (kd.rel (G := gx X C) r1 r2)
  have lt := kd.len vs zs a1 a2
  have lr := rr.length
  -- the callee: it owns x alone
  have nB : ∀ b, Nt H b → b ≠ x := fun b h z => h.1 (z ▸ nx)
  have own0 : ∀ i s, (Slot.io x (.ins C' []) :: (gD ds es).map .im)[i]? = some s → s.has = true → i = 0 := fun i s e w => by
    cases i with
    | zero => rfl
    | succ i => rw [(j3 (B' := B) rr (by simpa using e)).2] at w; cases w
  have relC : Rel (gx X C) (fun b => Nt H b) F ((V.ref x :: gT vs zs).map some) (Slot.io x (.ins C' []) :: (gD ds es).map .im) (upd (upd H dx (.own x)) x (.ins C' dx [])) := by
    refine ⟨by simp [lr], fun i s e => ?_, fun i l b w1 w2 => by
      obtain ⟨s, e, w⟩ := own_feet.mp w1
      obtain ⟨s', e', w'⟩ := own_feet.mp w2
      exact (own0 i s e (iS w)).trans (own0 l s' e' (iS w')).symm, fun b h => h.keep kp, fun b h => (rel.hF b h).keep kp, st0.tb rel.tb⟩
    · cases i with
      | zero =>
        cases (Option.some.inj e)
        exact ⟨rfl, fun z => (rel.hF x z).1 nx, fun z => z.1 nx, dx, [], upd_same, rfl⟩
      | succ i => exact (j3 rr (by simpa using e)).1
  refine ⟨by rw [List.length_cons, lt, hn], fun b => Nt H b, F, _, _, _, relC, hm x, fun r ss' v F' H' q st rl rs => ?_, fun ex ss' cls d F' H' q st rl rx => ?_⟩
  · have hoo : ∀ i a, dM env σ i a → Nt H a := fun i a o => ⟨(rel.ownSome o).1, rel.ownTab o⟩
    have st' : Stp (fun b => Nt H b) F H F' H' := ((jU kp).trans st)
    obtain ⟨st2, rel2⟩ := rel.called st' rel.hB hoo rl.hF
    cases r with
    | o _ => exact (show False from q).elim
    | t _ _ => exact (show False from q).elim
    | d d => cases d with
      | non =>
        refine ⟨rs, ?_⟩
        cases z : ss'[0]? with
        | none => simp only [z] at q
        | some s0 =>
          simp only [z] at q
          cases s0 with
          | io b o =>
            obtain ⟨e1, e2, e3, e4⟩ := rl.sl 0 _ z
            cases (show some (some (V.ref x)) = some (some (V.ref b)) from e1)
            exact hq o env (.ref x) F' H' q st2 rel2 ⟨x, rfl, e2, fun w => (rel.hB x w).1 nx, e4, fun i w => (rel.ownSome w).1 nx⟩
          | _ => exact q.elim
      | _ => exact (show False from q).elim
  · have hoo : ∀ i a, dM env σ i a → Nt H a := fun i a o => ⟨(rel.ownSome o).1, rel.ownTab o⟩
    have st' : Stp (fun b => Nt H b) F H F' H' := ((jU kp).trans st)
    obtain ⟨st2, rel2⟩ := rel.called st' rel.hB hoo rl.hF
    exact he ex env cls d F' H' q st2 rel2 rx
theorem xw {pins : List (Addr × Obj)} {σ : L2.St} {H : Hp} {s : Shared} {Q : VK} {us ws : List Value} {vs zs : List V} {sp : Sp} (Mk : Mk X.K C' f) (Fn : FnG X.prog X.w X.K X.mg X.base k f fd ps sp) (hr : Room (k + 1) X.A) (hG : X.A.guards = some []) (hb : KBn X.K fd ps (j + 1) ks g gV) (tk : DLz.Takes X W)
    (I : Inv X pins σ H s) (r : Vals vs us) (rz : Vals zs ws) (l1 : vs.length = j) (l2 : zs.length = ks.length)
    (h : ∀ x dx, H x = none → H dx = none → dx ≠ x → sp (gV (.ref x :: vs) zs) (upd (upd H dx (.own x)) x (.ins C' dx [])) (fun v H2 => v = .non ∧ Q (.ref x) H2) (WE W σ)) :
    wpAny (model X.prog X.w) X.A (call (.ref C') us (ks.zip ws)) (EP X pins σ Q) X.xe s := by
  have wish := h (s.heap.objs.size + 1) s.heap.objs.size (I.hok.fresh (Nat.le_succ _)) (I.hok.fresh (Nat.le_refl _)) (Nat.ne_of_lt (Nat.lt_succ_self _))
  have J := Inv.made (C := C') I
  have rs : Vals (V.ref (s.heap.objs.size + 1) :: vs) (Value.ref (s.heap.objs.size + 1) :: us) := .cons rfl r
  have ln : (Value.ref (s.heap.objs.size + 1) :: us).length = j + 1 := by rw [List.length_cons, ← r.length, l1]
  refine wpAny_call (make_map (f := f) I.kIn Mk.makes Mk.init (beq_iff_eq.mp Mk.fn) (codeAny_mono (Fn.run _ X.stack _ _ ⟨Value.ref (s.heap.objs.size + 1) :: us, ks.zip ws⟩ (g (Value.ref (s.heap.objs.size + 1) :: us) ws) _ _ (WE W σ) (hr.make C' us (ks.zip ws)) (pq hG)
    (J.env0.make C' us (ks.zip ws)) (hb.to _ (Value.ref (s.heap.objs.size + 1) :: us) ws J.kIn ln (rz.length.symm.trans l2)) (hb.rel rs rz) wish) fun rr s' q => ?_))
  match rr, q with
  | .error ex, q => exact DLz.passAt tk σ pins _ _ ex s' J q
  | .ok (.ret u), q =>
    obtain ⟨v, H', J', rv, ev, q'⟩ := J.after q
    subst ev
    exact ⟨rv, ⟨V.ref (s.heap.objs.size + 1), H', J', rfl, q'⟩⟩
  | .ok .next, q => exact (show False from q).elim
  | .ok .brk, q => exact (show False from q).elim
  | .ok .cont, q => exact (show False from q).elim
/-- C(e, .., k = v, ..) -/
theorem uM (Mk : Mk X.K C' f) (Fn : FnG X.prog X.w X.K X.mg X.base k f fd ps (h8 (gx X C) n df)) (hr : Room (k + 1) X.A) (hG : X.A.guards = some []) (tk : DLz.Takes X W) (hg : Gl X x) (hm : X.mg x = some (.ref C')) (kd : KwM X.K fd ps j ks gD g gV gT) (hn : n = ps.length)
    (ha : PA X (e :: es) (oF (gx X C) W ms)) (hkw : PK X kws (oF (gx X C) W mz)) (hall : (backToKw pos (keywordEach kws X.env)).all (·.1.isSome) = true := by rfl) (hks : (backToKw pos (keywordEach kws X.env)).filterMap (·.1) = ks := by rfl)
    (hdb : (x == ("__debug__" : Str)) = false := by decide) (he : starEach (e :: es) X.env = (false, eval e X.env) :: starEach es X.env := by rfl)
    (hpl : ((backTo pos (starEach (e :: es) X.env)).any (·.1) || (backToKw pos (keywordEach kws X.env)).any (·.1.isNone)) = false := by rfl) :
    PE X (.Call (.Name x p) (e :: es) kws pos) (tO (gx X C) W (aq ms fun ds => aq mz fun es => fc C' j ks.length gD df ds es)) := ⟨fun pins s σ H Q I h => by
  refine wpAny_Call_Name_kw (ld_glob I hg hm (PySem.W.callWith_KW (h₀ := X.base) I.ok.mod.kin Mk.kp hall (thn (ha.run pos pins s σ H (fun vs H1 => Lift (gx X C) W (qw (gx X C)) mz σ H1 fun zs H2 => vs.length = j ∧ zs.length = ks.length ∧
    ∀ x dx, H2 x = none → H2 dx = none → dx ≠ x → h8 (gx X C) n df (gV (.ref x :: vs) zs) (upd (upd H2 dx (.own x)) x (.ins C' dx [])) (fun v H3 => v = .non ∧ Q (.ref x) H3) (WE W σ)) I ?_) fun us s1 ⟨vs, H1, I1, r, q⟩ =>
    thn (hkw.run pos pins s1 σ H1 _ I1 q) fun ws s2 ⟨zs, H2, I2, rz, l1, l2, q2⟩ => ⟨I2.kIn, ?_⟩) hpl he) hdb)
  · exact (dQ (Ra := qw (gx X C)) h).imp fun vs H1 ⟨B, F, env, ds, q, r⟩ => (q.bind (Ra := qw (gx X C)) (as := ds) (xs := vs) r).imp fun zs H2 ⟨F2, env2, es, q2, r1, r2⟩ => q2.mk kd hn r1 r2
  · rw [hks]
    exact xw Mk Fn hr hG kd.b tk I2 r rz l1 l2 q2⟩
/-- a Hall that nobody writes any more -/
def aK : O → Option (Addr × Str × Int × Str × Int)
  | .ins cl [(f1, .int g), (f2, .int s)] => some (cl, f1, g, f2, s)
  | _ => none
theorem rV {o : O} {cl : Addr} {f1 f2 : Str} {g s : Int} (h : aK o = some (cl, f1, g, f2, s)) : o = .ins cl [(f1, .int g), (f2, .int s)] := by
  unfold aK at h
  split at h
  · cases h; rfl
  · cases h
def bA (C : Addr) (o : O) : M D := match aK o with
  | some (cl, f1, g, f2, s) => fV (cl = C ∧ f1 = "guests" ∧ f2 = "spare") (ret (.hall g s))
  | none => fail
theorem qo {mo : M O} (h : PE X e (tO (gx X C) W mo)) : PE X e (tD (gx X C) W (aq mo (bA C))) := dN h fun σ H Q q => (dQ (Ra := RO (gx X C)) q).imp fun x H1 ⟨B, F, env, o, p, a, ea, nF, nB, ho, hn⟩ => by
  subst ea
  cases z : aK o with
  | none => simp only [bA, z] at p; exact (Pt.no p).elim
  | some t =>
    obtain ⟨cl, f1, g, f2, s⟩ := t
    simp only [bA, z] at p
    have eo := rV z
    subst eo
    obtain ⟨⟨e1, e2, e3⟩, Qd, Ed, rel, hm, hq, he⟩ := Pt.asked p
    obtain ⟨dx, l, h1, v1, l1, el1, r1, v2, l2, el2, r2, el3⟩ := ho
    subst e1 e2 e3
    cases (show _ = _ from el3)
    cases (show _ = _ from r1)
    cases (show _ = _ from r2)
    subst el2
    subst el1
    have st : Stp B F H1 (fun b => F b ∨ b = a) H1 := ⟨fun _ z => .inl z, fun b z => z.imp id fun w => by rw [w]; exact nB, fun b u z e _ => e, fun _ _ z => z, fun t => t.ext (fun _ z => .inl z) fun _ _ z => z, fun _ _ _ z => z⟩
    have rel' : Rel (gx X cl) B (fun b => F b ∨ b = a) σ env H1 := rel.step st (fun i b z => ⟨rfl, fun w => w.elim (rel.ownSome z).2.1 fun w => by subst w; exact hn i z⟩) fun b z => z.elim (rel.hF b) fun w => by rw [w]; exact Nt.of h1
    exact hq (.hall g s) env (.ref a) _ H1 hm st rel' ⟨a, dx, rfl, .inr rfl, h1⟩
end
end
section
variable [Tbs]
/-- fit to be shown -/
def oH (d : PyData) : Bool := d.showable && !d.hasDict && decide (d.depth ≤ 64) && d.leavesShort 13 && decide (d.bulk ≤ 2 ^ 20)
def wN (K : PySem.W.Frag) : List V → Hp → VK → Prop := fun xs H Q => ∃ p d, xs = [.ref p] ∧ Dp K H (.ref p) d ∧ oH d = true ∧ Q (.str d.shown) H
def rh : D → Bool
  | .tup _ => true
  | .lst _ => true
  | _ => false
def oM (d : D) : M D := fV (rh d = true ∧ ig d = true ∧ oH (py d) = true) (ret (.str (py d).shown))
section
variable {X : Cx} {C : Addr} {W : WX} {a : Expr} {ma : M D} {pos p : Pos}
theorem kH (hG : X.A.guards = some []) (hu : X.A.units + 100 < cLine) : CallR X (.builtin "repr") (wN X.K) := by
  rintro pins s σ H xs us Q J r ⟨a, d, ex, dp, ok, q⟩
  subst ex
  obtain ⟨u, eu, ru⟩ := vals1 r
  subst eu
  obtain ⟨as, rd⟩ := Dp.reads J d (.ref a) u dp ru
  cases ru
  simp only [oH, Bool.and_eq_true, Bool.not_eq_true', decide_eq_true_eq] at ok
  obtain ⟨⟨⟨⟨o1, o2⟩, o3⟩, o4⟩, o5⟩ := ok
  exact repr_of_reads' rd o1 (PyData.noDict_hsm o2) hG (by omega) (fun b o e => e) (fun h' u tk kp => ⟨.str d.shown, H, J.kept kp, ⟨u, rfl⟩, q⟩) (PyData.shown_fits_bulk (B := 13) (by decide) (by decide) o4 o5)
theorem kG {G : Gx} : FitsC G W (wN G.K) (dX oM) := iI fun {σ H Q B F env x d} p r => by
  obtain ⟨⟨c1, c2, c3⟩, p⟩ := Pt.asked p
  have dp := Rp.dp r c2
  cases d with
  | tup ds => obtain ⟨a, vs, e, h1, h2⟩ := r; subst e; exact ⟨a, _, rfl, dp, c3, p.pure (b := .str _) rfl⟩
  | lst ds => obtain ⟨a, vs, e, h1, h2⟩ := r; subst e; exact ⟨a, _, rfl, dp, c3, p.pure (b := .str _) rfl⟩
  | _ => cases c1
end
end
section
theorem kZ {k : Nat} (h : k ≤ 200) : Room k callerA := by
  have q : Room 200 callerA := ⟨rfl, by decide, by decide⟩
  exact q.mono h
/-- an empty table of code objects -/
abbrev yI : Obj := { cls := .none, data := .fields #[] }
/-- the tables at a heap's start: (code object, table, the lambdas' name) -/
structure TabsIn (K : PySem.W.Frag) (cs : List (Addr × Addr × Str)) (h : Heap) : Prop where
  tab : ∀ p ∈ cs, h.get? p.2.1 = some yI
  out : ∀ p ∈ cs, K.lookup p.2.1 = none
  code : ∀ p ∈ cs, PySem.W.CodeHd h p.1 p.2.1
/-- a law's def from a heap that holds the script -/
theorem pe {P : Program} {w : World} {K : PySem.W.Frag} {mg mb : Str → Option Value} {k : Nat} {fa a : Addr} {fd : FuncData} {x : Str} {sp : Sp} {t : Shared} {us : List Value} {cs : List (Addr × Addr × Str)} (kin : K.In t.heap) (gl : t.heap.Ns mainGlobals mg) (bl : t.heap.Ns builtinsNs mb) (bb : ∀ x : Str, x ≠ "__name__" → mb x = bootBuiltins x) (nl : t.heap.NoLimit)
    (ng : t.gens = #[]) (tabs : TabsIn K cs t.heap) (bmod : ∃ (bm : Addr) (ob : Obj), mg "__builtins__" = some (.ref bm) ∧ bm ≠ builtinsNs ∧ t.heap.get? bm = some ob ∧ ob.cls = .type "module" ∧ ob.dict = some builtinsNs ∧ ob.data = .plain)
    (scr : t.heap.get? a = some { cls := .type "list", data := .seq us.toArray }) (rk : Room k callerA) (gu : callerA.guards = some [])
    (F : ∀ base : Heap, K.In base → base.Ns mainGlobals mg → (∀ p ∈ cs, LamX.TabB base mg p.1 p.2.1) → FnG P w K mg base k fa fd [x] sp) (bt : ∀ (s : Shared) (u : Value), BindsTo s fd ⟨[u], []⟩ [(x, u)])
    (H : Hp) (ok : HOk P w H t.heap) (alone : ∀ b, H b ≠ none → (b = a ∧ K.lookup a = none ∧ ∃ o xs, H b = some (.frz o (.lst xs))) ∨ ((∃ p ∈ cs, b = p.2.1) ∧ H b = some (.tbl #[]))) (wish : sp [.ref a] H (fun v _ => v = .bl true) fun _ _ _ => False) :
    codeAny (model P w) callerA (.call (.ref fa) ⟨[.ref a], []⟩) (fun r t' => r = .ok (.ret (.bool true)) ∧ OldK t.heap t'.heap ∧ t'.os = t.os ∧ AllBare t'.gens) t := by
  have free : ∀ {b : Addr} {o : Obj}, t.heap.get? b = some o → (∀ vs n, o.data ≠ .seq vs n) → o.data ≠ .fields #[] → H b = none := fun {b o} e n1 n2 => by
    cases z : H b with
    | none => rfl
    | some u =>
      rcases alone b (by rw [z]; exact fun y => nomatch y) with ⟨eb, _⟩ | ⟨⟨p, hp, eb⟩, _⟩
      · subst eb; rw [scr] at e; cases e; exact (n1 _ _ rfl).elim
      · subst eb; rw [tabs.tab p hp] at e; cases e; exact (n2 rfl).elim
  have dic : ∀ {b : Addr} {m : Str → Option Value}, t.heap.Ns b m → (hidT t.heap H).Ns b m := fun {b m} ⟨o, es, ep, e, d, r⟩ => ⟨o, es, ep, hidT_get e (free e (fun vs n z => by rw [d] at z; cases z) fun z => by rw [d] at z; cases z), d, r⟩
  have kb : K.In (hidT t.heap H) := fun b o e => hidT_get (kin b o e) (by
    cases z : H b with
    | none => rfl
    | some u =>
      rcases alone b (by rw [z]; exact fun y => nomatch y) with ⟨e1, e2, _⟩ | ⟨⟨p, hp, eb⟩, _⟩
      · subst e1; rw [e2] at e; cases e
      · subst eb; rw [tabs.out p hp] at e; cases e)
  have md : Mod K mg (hidT t.heap H) := ⟨kb, dic gl, ⟨mb, dic bl, bb⟩, let ⟨mc, h1, h2⟩ := nl; ⟨mc, dic h1, h2⟩⟩
  have env0 : Env0 P w K mg (hidT t.heap H) callerA [] t H := ⟨rfl, md, fun b o e => of_hidT e, Nat.le_of_eq (hidT_size _ _), trivial, fun b z => (List.not_mem_nil z).elim, ok, .of_eq ng⟩
  have tb : ∀ p ∈ cs, LamX.TabB (hidT t.heap H) mg p.1 p.2.1 := fun p hp => by
    have e0 := tabs.tab p hp
    obtain ⟨o, us, file, tf, flags, tg, inF, text, tt, c1, c2, c3, c4, c5⟩ := tabs.code p hp
    obtain ⟨bm, ob, b1, b2, b3, b4, b5, b6⟩ := bmod
    obtain ⟨om, em, pm, m1, m2, _⟩ := id gl
    refine ⟨⟨o, us, file, tf, flags, tg, inF, text, tt, hidT_get c1 (free c1 (fun vs n z => ?_) fun z => ?_), c2, c3, c4, c5⟩, ⟨bm, ob, b1, b2, fun q => ?_, fun q => ?_, hidT_get b3 (free b3 (fun vs n z => ?_) fun z => ?_), b4, b5, b6⟩, fun q => ?_⟩
    · rw [c3] at z; cases z
    · rw [c3] at z; cases z; simp at c4
    · rw [q, m1] at b3; cases b3; rw [m2] at b6; cases b6
    · rw [q, e0] at b3; cases b3; cases b6
    · rw [b6] at z; cases z
    · rw [b6] at z; cases z
    · rw [q, e0] at m1; cases m1; cases m2
  refine codeAny_mono ((F _ kb (dic gl) tb).run callerA [] t H ⟨[.ref a], []⟩ [.ref a] [.ref a] _ _ rk gu env0 (bt t (.ref a)) (.cons rfl .nil) wish) fun r t' q => ?_
  match r, q with
  | .error e, q =>
    obtain ⟨_, _, _, _, _, _, ⟨_, _, _, no⟩, _⟩ := q
    exact (show False from no).elim
  | .ok (.ret u), ⟨v, H', os, bare, un, ok', rv, ev⟩ =>
    have ev : v = .bl true := ev
    subst ev
    cases (show u = Value.bool true from rv)
    have grown : ∀ p ∈ cs, H p.2.1 = some (.tbl #[]) → ∃ more : Array Value, t'.heap.get? p.2.1 = some { cls := .none, data := .fields more } := fun p hp z => by
      obtain ⟨more, z2⟩ := un.tbls p.2.1 #[] z
      exact ⟨_, ok' p.2.1 _ z2⟩
    have stays : ∀ b o, t.heap.get? b = some o → t'.heap.get? b = some o ∨ ∃ p ∈ cs, b = p.2.1 ∧ H b = some (.tbl #[]) := fun b o e => by
      cases z : H b with
      | none => exact .inl (un.keep b o e z (fun y => (List.not_mem_nil y).elim) (by simp))
      | some u =>
        rcases alone b (by rw [z]; exact fun y => nomatch y) with ⟨_, _, ob, xs, z2⟩ | ⟨⟨p, hp, eb⟩, z2⟩
        · have e1 := (ok b _ z2).1
          rw [e] at e1
          cases e1
          exact .inl (ok' b _ (un.frzs b _ _ z2)).1
        · exact .inr ⟨p, hp, eb, z ▸ z2⟩
    refine ⟨rfl, ⟨fun b o e => ?_, fun b o e => ?_⟩, os, bare⟩
    · rcases stays b o e with h | ⟨p, hp, eb, z⟩
      · exact .inl h
      · subst eb
        obtain ⟨more, hm⟩ := grown p hp z
        have e0 := tabs.tab p hp
        rw [e0] at e; cases e
        exact .inr (.inl ⟨((tabs.code p hp).tab e0).isCodeTable, rfl, #[], more, rfl, by rw [Array.empty_append]; exact hm⟩)
    · rcases stays b o e with h | ⟨p, hp, eb, z⟩
      · exact ⟨o, h⟩
      · subst eb
        obtain ⟨more, hm⟩ := grown p hp z
        exact ⟨_, hm⟩
  | .ok .next, q => exact (show False from q).elim
  | .ok .brk, q => exact (show False from q).elim
  | .ok .cont, q => exact (show False from q).elim
/-- the tables by the defs' names -/
def mI (q : Program) (K : PySem.W.Frag) (cs : List (Addr × Addr × Str)) (xs : List Str) : Prop := ∀ p ∈ cs, K.lookup p.2.1 = none ∧ ∃ x ∈ xs, ((recsOf q).any fun e => e.name == x) = true ∧ PySem.W.tabIn K x = some (p.1, p.2.1)
end
section
variable [Tbs]
theorem iX {k : Nat} {A : Around} (hr : Room k A) : A.units + 100 < cLine := by have := hr.un; omega
structure Df (K : PySem.W.Frag) (mg : Str → Option Value) (x qual : Str) (st : Stmt) (ps : List Str) (f : Addr) (fd : FuncData) : Prop where
  fn : Fun K x qual st f fd
  mg : mg x = some (.ref f)
  kp : PySem.W.keepIn K (.ref f) = true
  bi : Binds K fd ps []
structure Dm (K : PySem.W.Frag) (C : Addr) (x qual : Str) (st : Stmt) (ps : List Str) (f : Addr) (fd : FuncData) : Prop where
  fn : Fun K x qual st f fd
  me : Meth K C x f
  bi : Binds K fd ps []
/-- the items at the places idx of us ++ ws -/
def pick {α : Type} (idx : List Nat) (us ws : List α) : List α := idx.filterMap fun i => (us ++ ws)[i]?
theorem ji {α : Type} {us ws : List α} : ∀ {idx : List Nat}, (∀ i ∈ idx, i < us.length + ws.length) → (pick idx us ws).length = idx.length
  | [], _ => rfl
  | i :: idx, h => by
    have hi : i < (us ++ ws).length := by rw [List.length_append]; exact h i (by simp)
    unfold pick
    rw [List.filterMap_cons, List.getElem?_eq_getElem hi]
    show (_ :: _ : List α).length = _
    rw [List.length_cons, List.length_cons]
    exact congrArg (· + 1) (ji fun j hj => h j (List.mem_cons_of_mem _ hj))
theorem jv {vs zs : List V} {us ws : List Value} (r : Vals vs us) (q : Vals zs ws) : ∀ idx : List Nat, Vals (pick idx vs zs) (pick idx us ws)
  | [] => .nil
  | i :: idx => by
    have rq := r.append q
    unfold pick
    rw [List.filterMap_cons, List.filterMap_cons]
    cases e : (vs ++ zs)[i]? with
    | none =>
      have : (us ++ ws)[i]? = none := by
        rw [List.getElem?_eq_none_iff] at e ⊢
        rw [← rq.length]; exact e
      rw [this]
      exact jv r q idx
    | some v =>
      obtain ⟨u, hu, ru⟩ := rq.get e
      rw [hu]
      exact .cons ru (jv r q idx)
theorem jY {G : Gx} {F : Addr → Prop} {H : Hp} {ds es : List D} {vs zs : List V} (r : RpL G F H ds vs) (q : RpL G F H es zs) : ∀ idx : List Nat, RpL G F H (pick idx ds es) (pick idx vs zs)
  | [] => rfl
  | i :: idx => by
    have rq := r.append q
    unfold pick
    rw [List.filterMap_cons, List.filterMap_cons]
    cases e : (ds ++ es)[i]? with
    | none =>
      have : (vs ++ zs)[i]? = none := by
        rw [List.getElem?_eq_none_iff] at e ⊢
        rw [← rq.length]; exact e
      rw [this]
      exact jY r q idx
    | some d =>
      obtain ⟨v, hv, rv⟩ := rq.get e
      rw [hv]
      exact ⟨v, _, rfl, rv, jY r q idx⟩
/-- named arguments, all given -/
theorem nX {K : PySem.W.Frag} {x qual : Str} {st : Stmt} {f : Addr} {fd : FuncData} {ps ks : List Str} {n : Nat} (idx : List Nat) (F : Fun K x qual st f fd) (hi : ∀ i ∈ idx, i < n + ks.length) (hl : idx.length = ps.length)
    (h : ∀ (kV doc pm : Value) (an : Option Addr) (cdv ct : Value) (us ws : List Value), us.length = n → ws.length = ks.length → bindArgs (PySem.W.fnOf x qual (defArgs st) (defBody st) (defScope st) .none kV doc pm an cdv ct) ⟨us, ks.zip ws⟩ = pure (ps.zip (pick idx us ws))) :
    KwD K fd ps n ks (pick idx) (pick idx) (pick idx) := by
  obtain ⟨oc, od, kV, doc, pm, an, cdv, ct, osl, rfl, lk, hcd⟩ := F.ex
  refine ⟨⟨fun s us ws X l1 l2 => .of_eq (h kV doc pm an cdv ct us ws l1 l2), fun r q => jv r q idx⟩, fun vs zs l1 l2 => ?_, fun r q => jY r q idx⟩
  rw [ji fun i hm => by rw [l1, l2]; exact hi i hm, hl]
theorem rJ {α : Type} (v : α) (us ws : List α) : ∀ idx : List Nat, pick (0 :: idx.map (· + 1)) (v :: us) ws = v :: pick idx us ws := fun idx => by
  unfold pick
  rw [List.filterMap_cons]
  show v :: _ = _
  rw [List.filterMap_map]
  rfl
theorem ya {K : PySem.W.Frag} {x qual : Str} {st : Stmt} {f : Addr} {fd : FuncData} {ps ks : List Str} {n : Nat} (idx : List Nat) (F : Fun K x qual st f fd) (hi : ∀ i ∈ idx, i < n + ks.length) (hl : idx.length + 1 = ps.length)
    (h : ∀ (kV doc pm : Value) (an : Option Addr) (cdv ct : Value) (us ws : List Value), us.length = n + 1 → ws.length = ks.length → bindArgs (PySem.W.fnOf x qual (defArgs st) (defBody st) (defScope st) .none kV doc pm an cdv ct) ⟨us, ks.zip ws⟩ = pure (ps.zip (pick (0 :: idx.map (· + 1)) us ws))) :
    KwM K fd ps n ks (pick idx) (pick (0 :: idx.map (· + 1))) (pick (0 :: idx.map (· + 1))) (pick idx) := by
  obtain ⟨oc, od, kV, doc, pm, an, cdv, ct, osl, rfl, lk, hcd⟩ := F.ex
  refine ⟨⟨fun s us ws X l1 l2 => .of_eq (h kV doc pm an cdv ct us ws l1 l2), fun r q => jv r q _⟩, fun v vs zs => rJ v vs zs idx, fun vs zs l1 l2 => ?_, fun r q => jY r q idx⟩
  rw [ji fun i hm => by rw [l1, l2]; exact hi i hm, hl]
section
variable {X : Cx} {C : Addr} {W : WX} {a b c e : Expr} {es : List Expr} {ma mb mc md : M D} {ms : M (List D)} {pos apos cpos p p2 : Pos} {i : Nat}
/-- -a -/
def cS : D → M D
  | .int i => ret (.int (-i))
  | _ => fail
theorem nu (ha : PE X a (tD (gx X C) W ma)) : PE X (.UnaryOp .USub a pos) (tD (gx X C) W (aq ma cS)) := dN (pe_un un_neg ha) fun σ H Q h => (dQ (Ra := RD (gx X C)) h).imp fun x H1 ⟨B, F, env, d, p, r⟩ => by
  cases d with
  | int i => exact ⟨i, r, Pt.pure p (b := .int _) rfl⟩
  | _ => exact (Pt.no p).elim
/-- tuple(range(a)), list(range(a)) -/
def kq (j : Int) : Prop := -(2 ^ 62) ≤ j ∧ j ≤ 16777216
theorem td {G : Gx} {F : Addr → Prop} {H : Hp} (lo hi : Int) : RpL G F H (eS lo hi) (rgV lo hi) := by
  have e : eS lo hi = ((List.range (hi - lo).toNat).map fun i => lo + ((i : Nat) : Int)).map D.int := by unfold eS; rw [List.map_map]; rfl
  rw [e]
  refine RpL.ints.mpr ?_
  unfold rgV
  rw [List.map_map]; rfl
def cY (ma : M D) : M D := aq ma fun d => match d with
  | .int j => fV (kq j) (ret (.tup (eS 0 j)))
  | _ => fail
theorem lP {j : Int} (h : kq j) : RgOk 0 j := by
  obtain ⟨h1, h2⟩ := h
  exact ⟨by decide, by decide, h1, by omega, by omega⟩
theorem w4 (calm : X.calm = true) (hg : Gl X "tuple") (hm : X.mg "tuple" = none) (hg2 : Gl X "range") (hm2 : X.mg "range" = none) (ha : PE X a (tD (gx X C) W ma)) (na : starEach [a] X.env = (false, eval a X.env) :: starEach [] X.env := by rfl)
    (na2 : starEach [.Call (.Name "range" p2) [a] [] apos] X.env = (false, eval (.Call (.Name "range" p2) [a] [] apos) X.env) :: starEach [] X.env := by rfl) : PE X (.Call (.Name "tuple" p) [.Call (.Name "range" p2) [a] [] apos] [] pos) (tD (gx X C) W (cY ma)) :=
  dN (DLt.pf_tupRg calm hg hm (prg_1 hg2 hm2 ha na) na2) fun σ H Q h => (dQ (Ra := RD (gx X C)) h).imp fun x H1 ⟨B, F, env, d, p, r⟩ => by
    cases d with
    | int j => exact ⟨j, r, lP (Pt.asked p).1, (Pt.asked p).2.tup (td 0 j)⟩
    | _ => exact (Pt.no p).elim
def dy (ma : M D) : M O := aq ma fun d => match d with
  | .int j => fV (kq j) (ret (.lst (eS 0 j)))
  | _ => fail
theorem zb (calm : X.calm = true) (hg : Gl X "list") (hm : X.mg "list" = none) (hg2 : Gl X "range") (hm2 : X.mg "range" = none) (ha : PE X a (tD (gx X C) W ma)) (na : starEach [a] X.env = (false, eval a X.env) :: starEach [] X.env := by rfl)
    (na2 : starEach [.Call (.Name "range" p2) [a] [] apos] X.env = (false, eval (.Call (.Name "range" p2) [a] [] apos) X.env) :: starEach [] X.env := by rfl) : PE X (.Call (.Name "list" p) [.Call (.Name "range" p2) [a] [] apos] [] pos) (tO (gx X C) W (dy ma)) :=
  dN (pe_listRg calm hg hm (prg_1 hg2 hm2 ha na) na2) fun σ H Q h => (dQ (Ra := RD (gx X C)) h).imp fun x H1 ⟨B, F, env, d, p, r⟩ => by
    cases d with
    | int j => exact ⟨j, r, lP (Pt.asked p).1, fun q hq => (Pt.asked p).2.olst (td 0 j) hq⟩
    | _ => exact (Pt.no p).elim
/-- a global constant, a built-in type -/
theorem mC {x : Str} {d : D} {v : V} (hg : Gl X x) (h : ∃ u, X.mg x = some u ∧ RelV v u) (r : ∀ F H, Rp (gx X C) F H d v) (hd : (x == ("__debug__" : Str)) = false := by decide) : PE X (.Name x pos) (tD (gx X C) W (ret d)) := by
  obtain ⟨u, h1, h2⟩ := h
  exact yq (x := x) (pe_glob hg h1 h2 hd) r
/-- name = [.. for ..], never written: a datum -/
theorem lN {tg iter elt : Expr} {ifs : List Expr} {is : List Nat} {scope : Scope} {own : List (Str × Nat)} {mt : M Bool} {y : Str} {py spos : Pos} {k : D → M Unit} (hc : X.calm = true) (hN : X.N.Nodup) (hy : X.N[i]? = some y) (hyl : X.env.scope.names.lookup y = some .local) (hsw : swapsWith (.ListComp elt [⟨tg, iter, ifs, 0⟩] scope pos) (some (.Name y py)) spos.line X.env = pure true)
    (hi : PI X tg iter (tI (gx X C) W ms)) (ok : BlkOk X.N X.env.scope scope own) (hsub : ∀ i ∈ is, i ∈ own.map (·.2)) (nox : ∀ d env Q E, k d env Q E → k d env Q (fun _ _ => False))
    (hg : ∀ (s : Shared) (H : Hp) (c : Addr) (cl : List (Str × Addr)) (fp : List Addr), PG (X.blk s H scope (compEnvC scope cl c X.env) fp) tg (xh (gx X C) is k)) (ht : ∀ (s : Shared) (H : Hp) (c : Addr) (cl : List (Str × Addr)) (fp : List Addr), PTs (X.blk s H scope (compEnvC scope cl c X.env) fp) ifs (lh (gx X C) W0 mt))
    (he : ∀ (s : Shared) (H : Hp) (c : Addr) (cl : List (Str × Addr)) (fp : List Addr), PE (X.blk s H scope (compEnvC scope cl c X.env) fp) elt (tD (gx X C) W0 md)) (hs : ∀ x, foldedSetIterable iter X.env x = pure x := by intro _; rfl) :
    PS X (.Assign [.Name y py] (.ListComp elt [⟨tg, iter, ifs, 0⟩] scope pos) spos) (tS (gx X C) W (aN (aq (cF (gZ ms k (own.map (·.2)) mt md)) (setI i)))) :=
  iO (ps_setLc hc hN hy hyl hsw hi ok hg ht he hs) fun Z σ H ⟨B, F, env, h⟩ => by
    refine mE hsub nox ?_
    have h : Ps (gx X C) W (aq (gZ ms k (own.map (·.2)) mt md) fun o => aq ((fun o => match o with | .lst ds => ret (D.lst ds) | _ => fail : O → M D) o) fun d => aq (setI i d) fun _ => ret .nx) Z σ H B F env := h
    refine (h.bind (Ra := RO (gx X C)) (as := []) (xs := [])).imp fun y H1 ⟨F1, env1, o, ⟨Qd, Ed, rel, hm, h1, h2, h3, h4, h5⟩, a, ea, hF, hB, ho, hn⟩ => ?_
    subst ea
    cases o with
    | lst ds =>
      have hm : setI i (.lst ds) env1 (fun _ env' => Qd .nx env') Ed := hm
      obtain ⟨vs, e1, r1⟩ := ho
      have st : Stp B F1 H1 (fun b => F1 b ∨ b = a) H1 := ⟨fun _ z => .inl z, fun b z => z.imp id fun w => by rw [w]; exact hB, fun b u z e _ => e, fun _ _ z => z, fun t => t.ext (fun _ z => .inl z) fun _ _ z => z, fun _ _ _ z => z⟩
      have rel' : Rel (gx X C) B (fun b => F1 b ∨ b = a) σ env1 H1 := rel.step st (fun i b z => ⟨rfl, fun w => w.elim (rel.ownSome z).2.1 fun w => by subst w; exact hn i z⟩) fun b z => z.elim (rel.hF b) fun w => by rw [w]; exact Nt.of e1
      exact h1 _ _ _ H1 (il hm) st (rel'.setI (d := .lst ds) ⟨a, vs, rfl, .inr rfl, e1, RpL.mono st ds vs r1⟩)
    | _ => exact (show False from hm).elim
end
end
section
variable [Tbs]
def putD (kvs : List (Key × D)) (k : Key) (v : D) : List (Key × D) :=
  if (kvs.any fun kv => decide (kv.1 = k)) = true then kvs.map (fun kv => if kv.1 = k then (kv.1, v) else kv) else kvs ++ [(k, v)]
section
variable {G : Gx} {W : WX} {B F : Addr → Prop} {σ : L2.St} {H : Hp} {env : List Slot} {α β γ δ : Type}
variable {R : (Addr → Prop) → (Addr → Prop) → List Slot → L2.St → Hp → γ → δ → Prop} {Q : δ → Hp → Prop} {i : Nat} {a : Addr} {o o' : O}
theorem KvR.append : ∀ {kvs ks : List (Key × D)} {l m : List (Key × V)}, KvR G F H kvs l → KvR G F H ks m → KvR G F H (kvs ++ ks) (l ++ m)
  | [], _, _, _, h, h' => by cases (show _ = _ from h); exact h'
  | (k, d) :: r, _, _, _, ⟨v, l', e, h1, h2⟩, h' => by subst e; exact ⟨v, _, rfl, h1, KvR.append h2 h'⟩
theorem KvR.setAt : ∀ {kvs : List (Key × D)} {l : List (Key × V)} {k : Key} {d : D} {v : V}, KvR G F H kvs l → Rp G F H d v → KvR G F H (kvs.map fun kv => if kv.1 = k then (kv.1, d) else kv) (l.map fun kv => if kv.1 = k then (kv.1, v) else kv)
  | [], _, _, _, _, h, _ => by cases (show _ = _ from h); exact rfl
  | (k', d') :: r, _, k, d, v, ⟨v', l', e, h1, h2⟩, q => by
    subst e
    rw [List.map_cons, List.map_cons]
    by_cases z : k' = k
    · rw [if_pos z, if_pos z]; exact ⟨v, _, rfl, q, KvR.setAt h2 q⟩
    · rw [if_neg z, if_neg z]; exact ⟨v', _, rfl, h1, KvR.setAt h2 q⟩
theorem KvR.put {kvs : List (Key × D)} {l : List (Key × V)} {k : Key} {d : D} {v : V} (h : KvR G F H kvs l) (q : Rp G F H d v) : KvR G F H (putD kvs k d) (putK l k v) := by
  unfold putD putK
  rw [h.any k]
  split
  · exact h.setAt q
  · exact h.append ⟨v, [], rfl, q, rfl⟩
end
end
section
end
section
end
section
variable [Tbs]
section
variable {X : Cx} {C : Addr} {W : WX} {a b c e : Expr} {es : List Expr} {ma mb mc : M D} {ms : M (List D)} {pos apos cpos p : Pos} {i : Nat}
/-- tuple(own), also of one that is a datum by now -/
def bH (i : Nat) : M D := fun env Q _ => match env[i]? with
  | some (.ow (.lst ds)) => Q (.tup ds) env
  | some (.io _ (.lst ds)) => Q (.tup ds) env
  | some (.im (.lst ds)) => Q (.tup ds) env
  | some (.im (.tup ds)) => Q (.tup ds) env
  | _ => False
theorem we (hg : Gl X "tuple") (hm : X.mg "tuple" = none) (ha : PE X a (tVar i)) (na : starEach [a] X.env = (false, eval a X.env) :: starEach [] X.env := by rfl) (hpl : (backTo pos (starEach [] X.env)).any (·.1) = false := by rfl) :
    PE X (.Call (.Name "tuple" p) [a] [] pos) (tD (gx X C) W (bH i)) :=
  dN (pe_callTy DLt.call_tupF hg hm boot_tuple (pa_cons ha pa_nil na) (by decide) (by decide) na hpl) fun σ H Q ⟨B, F, env, Qd, Ed, rel, hm, hq, he⟩ => by
    unfold bH at hm
    cases q : env[i]? with
    | none => rw [q] at hm; exact hm.elim
    | some s =>
      rw [q] at hm
      have mk : ∀ {ds : List D} {vs : List V}, Qd (.tup ds) env → RpL (gx X C) F H ds vs → DLt.NewT vs H Q := fun {ds vs} h r =>
        Pt.tup (G := gx X C) (W := W) (σ := σ) (B := B) (F := F) (env := env) ⟨Qd, Ed, rel, h, hq, he⟩ r
      cases s with
      | no => exact hm.elim
      | tr _ _ => exact hm.elim
      | ow o => cases o with
        | lst ds =>
          obtain ⟨a, e1, _, _, vs, hv, rv⟩ := rel.sl i _ q
          exact ⟨_, e1, a, vs, rfl, .inl ⟨SqL.of hv, mk hm rv⟩⟩
        | _ => exact hm.elim
      | io a o => cases o with
        | lst ds =>
          obtain ⟨e1, _, _, vs, hv, rv⟩ := rel.sl i _ q
          exact ⟨_, e1, a, vs, rfl, .inl ⟨SqL.of hv, mk hm rv⟩⟩
        | _ => exact hm.elim
      | im d => cases d with
        | lst ds =>
          obtain ⟨v, e1, a, vs, ev, _, hv, rv⟩ := rel.sl i _ q
          subst ev
          exact ⟨_, e1, a, vs, rfl, .inl ⟨SqL.of hv, mk hm rv⟩⟩
        | tup ds =>
          obtain ⟨v, e1, a, vs, ev, hv, rv⟩ := rel.sl i _ q
          subst ev
          exact ⟨_, e1, a, vs, rfl, .inr ⟨.inl hv.rd, hq (.tup ds) env _ F H hm Stp.refl rel ⟨a, vs, rfl, hv, rv⟩⟩⟩
        | _ => exact hm.elim
end
end
section
end
section
end
section
end
section
end
section
end
section
end
section
end
section
end
section
variable [Tbs]
/-- the built-in at an own exception class's end -/
inductive Bt where
  | ve | le | ae
section
variable {X : Cx} {C C0 fI : Addr} {b : Bt} {f x : Str} {e : Expr} {te : TE} {k : Nat} {fd : FuncData} {ps : List Str} {p pos pos2 : Pos} {W : WX} {m : M D}
def one (k : V → Hp → Prop) (vs : List V) (H : Hp) : Prop := match vs with
  | [y] => k y H
  | _ => False
end
end
section
variable [Tbs]
abbrev WN : WX := fun _ _ _ _ => False
end
section
variable [Tbs]
theorem nH {X : Cx} : DLz.Takes X WN := fun _ _ x => by
  obtain ⟨_, _, _, _, _, _, _, _, _, ⟨_, _, _, no⟩, _⟩ := x
  exact no.elim
theorem RoomX.deeper {k : Nat} {A : Around} (r : RoomX (k + 1) A) (env : Env) : RoomX k (A.deeper env) :=
  ⟨by have := r.dp; show A.depth + 1 + 3 * k + 5 < _; omega, by have := r.un; show A.units + 3 + 16 * k + 200 < _; omega⟩
end
section
end
section
end
section
end
section
end
section
end
section
variable [Tbs]
end
section
variable [Tbs]
section
variable {G : Gx} {W : WX} {B F : Addr → Prop} {σ : L2.St} {H : Hp} {env : List Slot}
theorem qK {x : Option V} {o : O} {i : Nat} {a : Addr} (l : env.length = σ.length) (h : dM (env ++ [.ow o]) (σ ++ [x]) i a) : dM env σ i a ∨ (i = env.length ∧ x = some (.ref a)) := by
  obtain ⟨t, e, z⟩ := own_feet.mp h
  by_cases hi : i < env.length
  · rw [List.getElem?_append_left hi] at e
    rw [List.getElem?_append_left (by omega)] at z
    exact .inl (own_feet.mpr ⟨t, e, z⟩)
  · have := (List.getElem?_eq_some_iff.mp e).1
    rw [List.length_append, List.length_cons, List.length_nil] at this
    have ei : i = env.length := by omega
    subst ei
    have et : t = .ow o := by simpa using e.symm
    subst et
    have z := (jA z fun _ _ z => nomatch z).2
    rw [l] at z
    refine .inr ⟨rfl, ?_⟩
    simpa using z
theorem Rel.push (rel : Rel G B F σ env H) {a : Addr} {o : O} (hw : OwAt G F H a o) (nF : ¬ F a) (nB : ¬ B a) (no : ∀ i, ¬ dM env σ i a) : Rel G B F (σ ++ [some (.ref a)]) (env ++ [.ow o]) H := by
  refine ⟨by rw [List.length_append, List.length_append, rel.len]; rfl, fun i s e => ?_, fun i j b h1 h2 => ?_, rel.hB, rel.hF, rel.tb⟩
  · by_cases hi : i < env.length
    · rw [List.getElem?_append_left hi] at e
      rw [List.getElem?_append_left (by rw [← rel.len]; exact hi)]
      exact rel.sl i s e
    · have := (List.getElem?_eq_some_iff.mp e).1
      rw [List.length_append, List.length_cons, List.length_nil] at this
      have ei : i = env.length := by omega
      subst ei
      simp at e
      subst e
      exact ⟨a, by rw [rel.len]; simp, nF, nB, hw⟩
  · rcases qK rel.len h1 with h1 | ⟨e1, z1⟩ <;> rcases qK rel.len h2 with h2 | ⟨e2, z2⟩
    · exact rel.ap i j b h1 h2
    · cases z2; exact absurd h1 (no i)
    · cases z1; exact absurd h2 (no j)
    · rw [e1, e2]
end
section
variable {X : Cx} {C : Addr} {W : WX} {e o : Expr} {es : List Expr} {p pos apos : Pos} {k n : Nat} {f : Addr} {fd : FuncData} {ps : List Str} {df : DF} {x : Str} {mo : M O} {ma mb md : M D}
def xq (a b : D) : M D := match a, b with
  | .str s, .str t => fV ((t.length == 0) = false ∧ s.length + 2 ≤ sizeLine) (ret (.lst ((Txt.split s t).map .str)))
  | _, _ => fail
def xp (ma mb : M D) : M D := aq ma fun a => match a with
  | .str _ => aq mb (xq a)
  | _ => fail
theorem lO {G : Gx} {F : Addr → Prop} {H : Hp} : ∀ l : List Str, RpL G F H (l.map D.str) (l.map V.str)
  | [] => rfl
  | y :: l => ⟨_, _, rfl, rfl, lO l⟩
theorem wc (ha : PE X o (tD (gx X C) W ma)) (hb : PE X e (tD (gx X C) W mb)) (hs : starEach [e] X.env = [(false, eval e X.env)] := by rfl) (hbase : attributeBase o "split" X.env (eval o X.env) = eval o X.env := by rfl) (hline : (apos.endLine == pos.line) = true := by rfl) :
    PE X (.Call (.Attribute o "split" apos) [e] [] pos) (tD (gx X C) W (xp ma mb)) :=
  dN (pe_split ha hb hs hbase hline) fun σ H Q ⟨B, F, env, h⟩ => (h.bind (Ra := RD (gx X C)) (as := []) (xs := []) rfl).imp fun v H1 ⟨F1, env1, d, h, _, rd⟩ => by
    cases d with
    | str s =>
      cases (show _ = _ from rd)
      refine ⟨⟨s, rfl⟩, (h.bind (Ra := RD (gx X C)) (as := []) (xs := []) rfl).imp fun v2 H2 ⟨F2, env2, d2, h, _, rd2⟩ => ?_⟩
      cases d2 with
      | str t =>
        cases (show _ = _ from rd2)
        obtain ⟨⟨h1, h2⟩, h⟩ := Pt.asked h
        exact ⟨s, t, rfl, rfl, h1, h2, fun p hp => Pt.lst h (lO _) hp⟩
      | _ => exact (Pt.no h).elim
    | _ => exact (Pt.no h).elim
def vW : D → M D
  | .int i => fV (i.natAbs.log2 < 1920) (ret (.str (toString i : String)))
  | .str y => fV (y.length ≤ sizeLine) (ret (.str y))
  | _ => fail
theorem w9 (he : PE X e (tD (gx X C) W ma)) : PE X (.FormattedValue e (-1) none pos) (tD (gx X C) W (aq ma vW)) :=
  dN (pe_fmt he) fun σ H Q h => (dQ (Ra := RD (gx X C)) h).imp fun v H1 ⟨B, F, env, d, h, rd⟩ => by
    cases d with
    | int i => cases (show _ = _ from rd); obtain ⟨h1, h⟩ := Pt.asked h; exact .inr ⟨i, rfl, h1, h.pure (b := .str _) rfl⟩
    | str y => cases (show _ = _ from rd); obtain ⟨h1, h⟩ := Pt.asked h; exact .inl ⟨y, rfl, h1, h.pure (b := .str _) rfl⟩
    | _ => exact (Pt.no h).elim
def bN (acc : Str) (k : Str → M D) (d : D) : M D := match d with
  | .str y => fV ((acc ++ y).length ≤ sizeLine) (k (acc ++ y))
  | _ => fail
def joinM : List (M D) → Str → M D
  | [], acc => ret (.str acc)
  | m :: ms, acc => aq m (bN acc (joinM ms))
theorem uj {G : Gx} : ∀ (ms : List (M D)) (acc : Str) {σ : L2.St} {H : Hp} {B F : Addr → Prop} {env : List Slot} {Q : V → Hp → Prop}, Pt G W (RD G) σ H Q (joinM ms acc) B F env → tJs (ms.map (tD G W)) acc σ H (fun out H1 => Q (.str out) H1)
  | [], acc, _, _, _, _, _, _, h => h.pure (b := .str _) rfl
  | m :: ms, acc, σ, H, B, F, env, Q, h => (h.bind (Ra := RD G) (as := []) (xs := []) rfl).imp fun v H1 ⟨F1, env1, d, h, _, rd⟩ => by
    cases d with
    | str y =>
      cases (show _ = _ from rd)
      obtain ⟨h1, h⟩ := Pt.asked h
      exact ⟨y, rfl, h1, uj ms _ h⟩
    | _ => exact (Pt.no h).elim
theorem uG {v1 v2 : Expr} {rest : List Expr} {ms : List (M D)} (h : PJ X (v1 :: v2 :: rest) (ms.map (tD (gx X C) W))) : PE X (.JoinedStr (v1 :: v2 :: rest) pos) (tD (gx X C) W (joinM ms Str.empty)) :=
  dN (pe_joined h) fun σ H Q ⟨B, F, env, h⟩ => uj ms _ h
theorem jX {m : M D} {ms : List (M D)} (h : PE X e (tD (gx X C) W m)) (r : PJ X es (ms.map (tD (gx X C) W))) : PJ X (e :: es) ((m :: ms).map (tD (gx X C) W)) := .cons h r
theorem tL : PJ X [] (([] : List (M D)).map (tD (gx X C) W)) := .nil
def strR : Res → M D
  | .d (.str s) => ret (.str s)
  | _ => fail
theorem Pt.strR {G : Gx} {B F : Addr → Prop} {σ : L2.St} {H : Hp} {env : List Slot} {Q : V → Hp → Prop} {r : Res} {v : V} (q : Pt G W (RD G) σ H Q (DL.strR r) B F env) (rr : qt G B F env σ H r v) : ∃ y, v = .str y ∧ Q (.str y) H := by
  cases r with
  | d d =>
    cases d with
    | str y => exact ⟨y, rr, Pt.pure q (b := .str y) rfl⟩
    | _ => exact (Pt.no q).elim
  | o o => exact (Pt.no q).elim
  | t _ _ => exact (Pt.no q).elim
end
end
section
variable [Tbs]
end
section
variable [Tbs]
section
variable {G : Gx} {W : WX} {B F : Addr → Prop} {σ : L2.St} {H : Hp} {env : List Slot} {α β : Type}
theorem Ps.bindP {ma : M α} {k : α → M Fl} {Ra : (Addr → Prop) → (Addr → Prop) → List Slot → L2.St → Hp → α → β → Prop} {Z : Ends} (h : Ps G W (aq ma k) Z σ H B F env) :
    Pt G W Ra σ H (fun y H' => ∃ F' env' b, Ps G W (k b) Z σ H' B F' env' ∧ Ra B F' env' σ H' b y) ma B F env := by
  obtain ⟨Qd, Ed, rel, hm, h1, h2, h3, h4, h5⟩ := h
  exact ⟨fun a env' => k a env' Qd Ed, Ed, rel, hm, fun a env' b F' H' hk st rl hr => ⟨F', env', a, ⟨Qd, Ed, rl, hk, fun e s f h' q s2 => h1 e s f h' q (st.trans s2), fun e s f h' q s2 => h2 e s f h' q (st.trans s2), fun e s f h' q s2 => h3 e s f h' q (st.trans s2),
    fun r e s f h' v q s2 => h4 r e s f h' v q (st.trans s2), fun x e s cls d f h' q s2 => h5 x e s cls d f h' q (st.trans s2)⟩, hr⟩, fun x env' cls d F' H' q st rl r => h5 x env' σ cls d F' H' q st rl r⟩
end
end
section
end
section
variable [Tbs]
def oA (d : D) : M D := match d with
  | .int i => fV (i.natAbs.log2 < 1920) (ret (.str (toString i : String)))
  | .str s => ret (.str s)
  | d => fV (rh d = true ∧ ig d = true ∧ oH (py d) = true) (ret (.str (py d).shown))
def yT (K : PySem.W.Frag) : List V → Hp → VK → Prop := fun xs H Q => (∃ a, xs = [.str a] ∧ Q (.str a) H) ∨ (∃ i, xs = [.int i] ∧ i.natAbs.log2 < 1920 ∧ Q (.str (toString i)) H) ∨ ∃ p d, xs = [.ref p] ∧ Dp K H (.ref p) d ∧ oH d = true ∧ Q (.str d.shown) H
section
variable {X : Cx} {W : WX}
theorem jE (hG : X.A.guards = some []) (hu : X.A.units + 100 < cLine) : CallR X (.type "str") (yT X.K) := by
  rintro pins s σ H xs us Q J r (⟨a, ex, q⟩ | ⟨i, ex, hz, q⟩ | ⟨p, d, ex, dp, ok, q⟩)
  · exact SkE.call_str_str _ _ _ _ _ _ _ J r ⟨a, ex, q⟩
  · exact call_str_int _ _ _ _ _ _ _ J r ⟨i, ex, hz, q⟩
  · subst ex
    obtain ⟨u, eu, ru⟩ := vals1 r
    subst eu
    obtain ⟨as, rd⟩ := Dp.reads J d (.ref p) u dp ru
    cases ru
    simp only [oH, Bool.and_eq_true, Bool.not_eq_true', decide_eq_true_eq] at ok
    obtain ⟨⟨⟨⟨o1, o2⟩, o3⟩, o4⟩, o5⟩ := ok
    exact str_of_reads rd o1 (PyData.noDict_hsm o2) hG (by omega) (fun b o e => e) (fun h' u tk kp => ⟨.str d.shown, H, J.kept kp, ⟨u, rfl⟩, q⟩) (PyData.shown_fits_bulk (B := 13) (by decide) (by decide) o4 o5)
theorem jz {G : Gx} : FitsC G W (yT G.K) (dX oA) := iI fun {σ H Q B F env x d} p r => by
  cases d with
  | int i => cases (show _ = _ from r); obtain ⟨hz, p⟩ := Pt.asked p; exact .inr (.inl ⟨i, rfl, hz, p.pure (b := .str _) rfl⟩)
  | str y => cases (show _ = _ from r); exact .inl ⟨y, rfl, Pt.pure p (b := .str _) rfl⟩
  | tup ds =>
    obtain ⟨⟨c1, c2, c3⟩, p⟩ := Pt.asked p
    have dp := Rp.dp r c2
    obtain ⟨a, vs, e, _⟩ := r
    subst e
    exact .inr (.inr ⟨a, _, rfl, dp, c3, p.pure (b := .str _) rfl⟩)
  | lst ds =>
    obtain ⟨⟨c1, c2, c3⟩, p⟩ := Pt.asked p
    have dp := Rp.dp r c2
    obtain ⟨a, vs, e, _⟩ := r
    subst e
    exact .inr (.inr ⟨a, _, rfl, dp, c3, p.pure (b := .str _) rfl⟩)
  | _ => obtain ⟨⟨c1, _⟩, _⟩ := Pt.asked p; cases c1
end
end
section
end
section
variable [Tbs]
section
variable {P : Program} {w : World} {A : Around} {R : Value → Shared → Prop}
theorem yw {i l : Addr} {xs : Array Value} (apart : l ≠ i) (m : Nat) : ∀ (k : Nat) (z : Shared) (Z : List Value → Shared → Prop), z.heap.IsListIter i l k → z.heap.IsList l xs → k + m ≤ xs.size →
    (∀ g, g.IsListIter i l (k + m) → Heap.SameBut i z.heap g → Z ((xs.toList.drop k).take m) { z with heap := g }) → wpAny (model P w) A (draw (.ref i) m) Z R z := by
  induction m with
  | zero =>
    intro k z Z a _ _ go
    show wpAny _ _ (pure []) Z R z
    refine wpAny_pure ?_
    have := go z.heap a (Heap.SameBut.refl ..)
    simpa using this
  | succ m ih =>
    intro k z Z a b le go
    have kx : k < xs.size := by omega
    show wpAny _ _ (pyNext (.ref i) >>= _) Z R z
    refine wpAny_bind (wpAny_pyNext_list_item a b (x := xs[k]) (by simp [kx]) fun g1 a1 s1 => ?_)
    refine wpAny_bind (wpAny_holding (ih (k + 1) _ _ a1 (b.extBut s1.extBut apart) (by omega) fun g2 a2 s2 => wpAny_pure ?_))
    have q := go g2 (by rw [show k + (m + 1) = k + 1 + m by omega]; exact a2) (s1.trans s2)
    rw [show xs.toList.drop k = xs[k] :: xs.toList.drop (k + 1) by simp [List.drop_eq_getElem_cons, kx]] at q
    exact q
end
end
section
variable [Tbs]
section
variable {X : Cx} {C : Addr} {pins : List (Addr × Obj)} {σ : L2.St} {H : Hp} {s : Shared} {B F : Addr → Prop} {env : List Slot} {A : Around} {E : Value → Shared → Prop} {Q : Str → Shared → Prop} {u : Value} {v : V} {base : Nat}
theorem ly : ∀ {xs : List Str} {us : List Value}, Vals (xs.map V.str) us → ∃ l : List (Str × Tok), us = strValues l ∧ l.map (·.1) = xs
  | [], _, r => by cases r; exact ⟨[], rfl, rfl⟩
  | x :: xs, _, r => by
    cases r with
    | cons r1 r2 =>
      obtain ⟨l, e1, e2⟩ := ly (xs := xs) r2
      obtain ⟨t, e⟩ := r1
      exact ⟨(x, t) :: l, by rw [e, e1]; rfl, by rw [List.map_cons, e2]⟩
theorem ug {a : Addr} {vs : List V} (I : Inv X pins σ H s) (e : H a = some (.lst vs)) : vs.length ≤ sizeLine ∧ ∃ (us : List Value) (n : Nat), Vals vs us ∧ s.heap.get? a = some { cls := .type "list", data := .seq us.toArray n } := by
  obtain ⟨z, us, n, r, q⟩ := I.hok a _ e
  exact ⟨z, us, n, r, q⟩
end
end
section
end
end DL
namespace HE
open PySem PySem.Spec PyProof.Rows L2
section
/-- what the class of Halls must have -/
structure EqF (K : PySem.W.Frag) (C f : Addr) : Prop where
  eq : PySem.W.findIn K (.ref C) "__eq__" = some (some (.ref f))
  ne : PySem.W.findIn K (.ref C) "__ne__" = some (some (.builtin "object.__ne__"))
  fn : PySem.W.isFn K (.ref f) = true
  hm : PySem.W.mroIn K C (.type "object") = some true
  n0 : PySem.W.mroIn K C (.type "NoneType") = some false
  n1 : PySem.W.mroIn K C (.type "bool") = some false
  n2 : PySem.W.mroIn K C (.type "int") = some false
  n3 : PySem.W.mroIn K C (.type "str") = some false
  n4 : PySem.W.mroIn K C (.type "tuple") = some false
  n5 : PySem.W.mroIn K C (.type "list") = some false
  n6 : PySem.W.mroIn K C (.type "dict") = some false
section
variable {prog : Program} {w : World} {A : Around} {E : Value → Shared → Prop} {s : Shared} {x dx C f : Addr} {K : PySem.W.Frag} {od : Option Obj}
theorem yf (b : Int) (u : Tok) {Q : Fin → Shared → Prop} (hx : s.heap.get? x = some (PySem.W.instObj C dx)) (h : Q (.done (.ret .notImplemented)) s) : wpAny (model prog w) A (Builtin.«int.__eq__» ⟨[.int b u, .ref x], []⟩) Q E s := by
  obtain ⟨hp, g, d, tk, os⟩ := s
  unfold PySem.W.instObj at hx
  wp_walk using wpAny_loadPart' hx, wpAny_load hx
  exact h
theorem wx (b : Bool) {Q : Fin → Shared → Prop} (hx : s.heap.get? x = some (PySem.W.instObj C dx)) (h : Q (.done (.ret .notImplemented)) s) : wpAny (model prog w) A (Builtin.«int.__eq__» ⟨[.bool b, .ref x], []⟩) Q E s := by
  obtain ⟨hp, g, d, tk, os⟩ := s
  unfold PySem.W.instObj at hx
  wp_walk using wpAny_loadPart' hx, wpAny_load hx
  exact h
theorem xm (b : Str) (u : Tok) {Q : Fin → Shared → Prop} (hx : s.heap.get? x = some (PySem.W.instObj C dx)) (h : Q (.done (.ret .notImplemented)) s) : wpAny (model prog w) A (Builtin.«str.__eq__» ⟨[.str b u, .ref x], []⟩) Q E s := by
  obtain ⟨hp, g, d, tk, os⟩ := s
  unfold PySem.W.instObj at hx
  wp_walk using wpAny_loadPart' hx, wpAny_load hx
  exact h
theorem vz {Q : Fin → Shared → Prop} (h : Q (.done (.ret .notImplemented)) s) : wpAny (model prog w) A (Builtin.«NoneType.__eq__» ⟨[.none, .ref x], []⟩) Q E s := by
  obtain ⟨hp, g, d, tk, os⟩ := s
  wp_walk
  exact h
theorem list_eq (l : Addr) {ol : Obj} {Q : Fin → Shared → Prop} (hx : s.heap.get? x = some (PySem.W.instObj C dx)) (hl : s.heap.get? l = some ol)
    (f1 : ∀ {A' : Around} {Q : Bool → Shared → Prop}, Q false s → wpAny (model prog w) A' (isSubtype (.ref C) (.type "list")) Q E s) (h : Q (.done (.ret .notImplemented)) s) : wpAny (model prog w) A (Builtin.«list.__eq__» ⟨[.ref l, .ref x], []⟩) Q E s := by
  obtain ⟨hp, g, d, tk, os⟩ := s
  unfold PySem.W.instObj at hx
  wp_walk using wpAny_loadPart' hl, wpAny_loadPart' hx, wpAny_load hx, f1
  exact h
theorem sP (l : Addr) {ol : Obj} {Q : Fin → Shared → Prop} (hx : s.heap.get? x = some (PySem.W.instObj C dx)) (hl : s.heap.get? l = some ol)
    (f1 : ∀ {A' : Around} {Q : Bool → Shared → Prop}, Q false s → wpAny (model prog w) A' (isSubtype (.ref C) (.type "tuple")) Q E s) (h : Q (.done (.ret .notImplemented)) s) : wpAny (model prog w) A (Builtin.«tuple.__eq__» ⟨[.ref l, .ref x], []⟩) Q E s := by
  obtain ⟨hp, g, d, tk, os⟩ := s
  unfold PySem.W.instObj at hx
  wp_walk using wpAny_loadPart' hl, wpAny_loadPart' hx, wpAny_load hx, f1
  exact h
theorem wk (l : Addr) {ol : Obj} {Q : Fin → Shared → Prop} (hx : s.heap.get? x = some (PySem.W.instObj C dx)) (hl : s.heap.get? l = some ol)
    (f1 : ∀ {A' : Around} {Q : Bool → Shared → Prop}, Q false s → wpAny (model prog w) A' (isSubtype (.ref C) (.type "dict")) Q E s) (h : Q (.done (.ret .notImplemented)) s) : wpAny (model prog w) A (Builtin.«dict.__eq__» ⟨[.ref l, .ref x], []⟩) Q E s := by
  obtain ⟨hp, g, d, tk, os⟩ := s
  unfold PySem.W.instObj at hx
  wp_walk using wpAny_loadPart' hl, wpAny_loadPart' hx, wpAny_load hx, f1
  exact h
theorem ye (b : Int) (u : Tok) {Q : Fin → Shared → Prop} (hx : s.heap.get? x = some (PySem.W.instObj C dx)) (h : Q (.done (.ret .notImplemented)) s) : wpAny (model prog w) A (Builtin.«int.__ne__» ⟨[.int b u, .ref x], []⟩) Q E s := by
  obtain ⟨hp, g, d, tk, os⟩ := s
  unfold PySem.W.instObj at hx
  wp_walk using wpAny_loadPart' hx, wpAny_load hx
  exact h
theorem ww (b : Bool) {Q : Fin → Shared → Prop} (hx : s.heap.get? x = some (PySem.W.instObj C dx)) (h : Q (.done (.ret .notImplemented)) s) : wpAny (model prog w) A (Builtin.«int.__ne__» ⟨[.bool b, .ref x], []⟩) Q E s := by
  obtain ⟨hp, g, d, tk, os⟩ := s
  unfold PySem.W.instObj at hx
  wp_walk using wpAny_loadPart' hx, wpAny_load hx
  exact h
theorem xl (b : Str) (u : Tok) {Q : Fin → Shared → Prop} (hx : s.heap.get? x = some (PySem.W.instObj C dx)) (h : Q (.done (.ret .notImplemented)) s) : wpAny (model prog w) A (Builtin.«str.__ne__» ⟨[.str b u, .ref x], []⟩) Q E s := by
  obtain ⟨hp, g, d, tk, os⟩ := s
  unfold PySem.W.instObj at hx
  wp_walk using wpAny_loadPart' hx, wpAny_load hx
  exact h
theorem none_ne {Q : Fin → Shared → Prop} (h : Q (.done (.ret .notImplemented)) s) : wpAny (model prog w) A (Builtin.«NoneType.__ne__» ⟨[.none, .ref x], []⟩) Q E s := by
  obtain ⟨hp, g, d, tk, os⟩ := s
  wp_walk
  exact h
theorem vJ (l : Addr) {ol : Obj} {Q : Fin → Shared → Prop} (hx : s.heap.get? x = some (PySem.W.instObj C dx)) (hl : s.heap.get? l = some ol)
    (f1 : ∀ {A' : Around} {Q : Bool → Shared → Prop}, Q false s → wpAny (model prog w) A' (isSubtype (.ref C) (.type "list")) Q E s) (h : Q (.done (.ret .notImplemented)) s) : wpAny (model prog w) A (Builtin.«list.__ne__» ⟨[.ref l, .ref x], []⟩) Q E s := by
  obtain ⟨hp, g, d, tk, os⟩ := s
  unfold PySem.W.instObj at hx
  wp_walk using wpAny_loadPart' hl, wpAny_loadPart' hx, wpAny_load hx, f1
  exact h
theorem sO (l : Addr) {ol : Obj} {Q : Fin → Shared → Prop} (hx : s.heap.get? x = some (PySem.W.instObj C dx)) (hl : s.heap.get? l = some ol)
    (f1 : ∀ {A' : Around} {Q : Bool → Shared → Prop}, Q false s → wpAny (model prog w) A' (isSubtype (.ref C) (.type "tuple")) Q E s) (h : Q (.done (.ret .notImplemented)) s) : wpAny (model prog w) A (Builtin.«tuple.__ne__» ⟨[.ref l, .ref x], []⟩) Q E s := by
  obtain ⟨hp, g, d, tk, os⟩ := s
  unfold PySem.W.instObj at hx
  wp_walk using wpAny_loadPart' hl, wpAny_loadPart' hx, wpAny_load hx, f1
  exact h
theorem wj (l : Addr) {ol : Obj} {Q : Fin → Shared → Prop} (hx : s.heap.get? x = some (PySem.W.instObj C dx)) (hl : s.heap.get? l = some ol)
    (f1 : ∀ {A' : Around} {Q : Bool → Shared → Prop}, Q false s → wpAny (model prog w) A' (isSubtype (.ref C) (.type "dict")) Q E s) (h : Q (.done (.ret .notImplemented)) s) : wpAny (model prog w) A (Builtin.«dict.__ne__» ⟨[.ref l, .ref x], []⟩) Q E s := by
  obtain ⟨hp, g, d, tk, os⟩ := s
  unfold PySem.W.instObj at hx
  wp_walk using wpAny_loadPart' hl, wpAny_loadPart' hx, wpAny_load hx, f1
  exact h
end
end
section
section
variable {M : Model} {A : Around} {E : Value → Shared → Prop} {s : Shared} {x C f : Addr} {K : PySem.W.Frag} {od : Option Obj} {ox : Obj} {b : Value}
theorem qZ (F : EqF K C f) (X : K.In s.heap) (I : PySem.W.InstAt s.heap x ox C od) {Q : Option Value → Shared → Prop} (h : wpAny M A (call (.ref f) [.ref x, b]) (fun v => Q (some v)) E s) : wpAny M A (callSpecialIfBound? (.ref x) "__eq__" [b]) Q E s := by
  simp only [callSpecialIfBound?, bindSpecialIfBound?]
  refine wpAny_holding (wpAny_bind (wpAny_bind (wpAny_bind (I.type.here ((PySem.W.looks_findIn X F.eq).here ?_)))))
  refine wpAny_bind (wpAny_askSetting (wpAny_ite ?_))
  have fin : wpAny M A (call (.ref f) ([.ref x] ++ [b]) >>= fun v => pure (some v)) Q E s := wpAny_bind (wpAny_mono h (fun v s' h' => wpAny_pure h') fun _ _ h' => h')
  split
  · exact wpAny_bind ((PySem.W.bind_fn X _ (beq_iff_eq.mp F.fn)).here (wpAny_pure (by exact fin)))
  · exact wpAny_tryCatch (wpAny_bind ((PySem.W.bind_fn X _ (beq_iff_eq.mp F.fn)).here (wpAny_pure (by exact fin))))
theorem vB (F : EqF K C f) (X : K.In s.heap) (I : PySem.W.InstAt s.heap x ox C od) {Q : Option Value → Shared → Prop} (h : wpAny M A (call (.builtin "object.__ne__") [.ref x, b]) (fun v => Q (some v)) E s) : wpAny M A (callSpecialIfBound? (.ref x) "__ne__" [b]) Q E s := by
  simp only [callSpecialIfBound?, bindSpecialIfBound?]
  refine wpAny_holding (wpAny_bind (wpAny_bind (wpAny_bind (I.type.here ((PySem.W.looks_findIn X F.ne).here ?_)))))
  refine wpAny_bind (wpAny_askSetting (wpAny_ite ?_))
  have fin : wpAny M A (call (.builtin "object.__ne__") ([.ref x] ++ [b]) >>= fun v => pure (some v)) Q E s := wpAny_bind (wpAny_mono h (fun v s' h' => wpAny_pure h') fun _ _ h' => h')
  split
  · exact wpAny_bind (wpAny_of_eq (PySem.F.cmp_object.ne.bind _) (wpAny_pure (by exact fin)))
  · exact wpAny_tryCatch (wpAny_bind (wpAny_of_eq (PySem.F.cmp_object.ne.bind _) (wpAny_pure (by exact fin))))
end
section
variable {prog : Program} {w : World} {A : Around} {E : Value → Shared → Prop} {s : Shared} {x C f : Addr} {K : PySem.W.Frag} {od : Option Obj} {ox : Obj} {b : Value}
theorem y9 (F : EqF K C f) (X : K.In s.heap) (I : PySem.W.InstAt s.heap x ox C od) (hu : A.units < cLine) {Q : PySem.Fin → Shared → Prop}
    (h : wpAny (model prog w) A (call (.ref f) [.ref x, b]) (fun v s' => ∃ c, v = .bool c ∧ Q (.done (.ret (.bool (!c)))) s') E s) : wpAny (model prog w) A (Builtin.«object.__ne__» ⟨[.ref x, b], []⟩) Q E s := by
  unfold Builtin.«object.__ne__»
  repeat (first
    | with_reducible refine wpAny_cRoomFor hu ?_
    | (refine wpAny_bind (m := callSpecialIfBound? (.ref x) (Str.ofString "__eq__") [b])
        (qZ F X I (wpAny_mono h (fun r s' hr => by
          obtain ⟨c, rfl, hq⟩ := hr
          repeat (first | exact hq | exact wpAny_pure hq | exact wpAny_truthy_bool hq | (refine wpAny_bind (m := truthy (.bool _)) (wpAny_truthy_bool ?_)) | wp_step)) fun _ _ e => e)))
    | wp_step)
theorem wH (F : EqF K C f) (X : K.In s.heap) (I : PySem.W.InstAt s.heap x ox C od) {Q : Option Value → Shared → Prop}
    (h : wpAny (model prog w) A (call (.ref f) [.ref x, b]) (fun v s' => ∃ c, v = .bool c ∧ Q (some (.bool c)) s') E s) : wpAny (model prog w) A (tryCompare (.ref x) "__eq__" b) Q E s := by
  unfold tryCompare
  refine wpAny_bind (qZ F X I (wpAny_mono h (fun v s' hv => ?_) fun _ _ e => e))
  obtain ⟨c, rfl, hq⟩ := hv
  exact wpAny_pure hq
theorem wG (F : EqF K C f) (X : K.In s.heap) (I : PySem.W.InstAt s.heap x ox C od) (hu : A.units + 1 < cLine) {Q : Option Value → Shared → Prop}
    (h : wpAny (model prog w) A.in1 (call (.ref f) [.ref x, b]) (fun v s' => ∃ c, v = .bool c ∧ Q (some (.bool (!c))) s') E s) : wpAny (model prog w) A (tryCompare (.ref x) "__ne__" b) Q E s := by
  unfold tryCompare
  refine wpAny_bind (vB F X I (wpAny_call (codeAny_call_builtin PySem.F.cmp_object.ne.plain PySem.F.cmpEntry_ne
    (PySem.W.check_slot PySem.F.cmpKind_ne PySem.F.cmpSplit_ne (I.type.andThen (PySem.W.looks_mroIn X F.hm)) (PySem.F.cmpArgs_ne _ _) (y9 (A := A.in1) F X I hu (wpAny_mono h (fun v s' hv => ?_) fun _ _ e => e))))))
  obtain ⟨c, rfl, hq⟩ := hv
  first | exact ⟨c, rfl, wpAny_pure hq⟩ | exact ⟨c, rfl, wpAny_pure (wpAny_pure hq)⟩ | exact ⟨c, rfl, hq⟩
/-- the Hall is on the left -/
theorem vL (F : EqF K C f) (X : K.In s.heap) (I : PySem.W.InstAt s.heap x ox C od) (hu : A.units + 1 < cLine) {ty : Value} (hty : PySem.W.Looks (model prog w) s.heap (typeOf b) ty) (hs : ty = .ref C ∨ PySem.W.subIn K ty (.ref C) = some false) {Q : Value → Shared → Prop}
    (h : wpAny (model prog w) A (call (.ref f) [.ref x, b]) (fun v s' => ∃ c, v = .bool c ∧ Q (.bool c) s') E s) : wpAny (model prog w) A (compareOp .Eq (.ref x) b) Q E s := by
  have one : wpAny (model prog w) A (tryCompare (.ref x) "__eq__" b) (fun r s' => ∃ c, r = some (.bool c) ∧ Q (.bool c) s') E s := wH F X I (wpAny_mono h (fun v s' ⟨c, e, q⟩ => ⟨c, e, c, rfl, q⟩) fun _ _ e => e)
  unfold compareOp
  simp only [richCompare, cmpInfo_Eq, oneThing_ref]
  refine wpAny_holding (wpAny_bind (wpAny_cRoomFor (Nat.lt_of_succ_lt hu) ?_))
  refine wpAny_bind (I.type.here ?_)
  refine wpAny_bind (hty.here ?_)
  have fin : wpAny (model prog w) A (do
      if let some v ← tryCompare (.ref x) "__eq__" b then return v
      if !false then
        if let some v ← tryCompare b "__eq__" (.ref x) then return v
      rule "compare.eq-identity"; return .bool (← isSame (.ref x) b)) Q E s := by
    refine wpAny_bind (wpAny_mono one (fun r s1 z => ?_) fun _ _ e => e)
    obtain ⟨c, rfl, q⟩ := z
    exact wpAny_pure q
  rcases hs with e | e
  · subst e
    rw [show (Value.ref C != Value.ref C) = false from by simp]
    simp only [Bool.false_eq_true, if_false]
    refine wpAny_bind (wpAny_pure ?_)
    simp only [Bool.false_eq_true, if_false]
    exact fin
  · split
    · refine wpAny_bind ((PySem.W.looks_subIn X e).here ?_)
      simp only [Bool.false_eq_true, if_false]
      exact fin
    · refine wpAny_bind (wpAny_pure ?_)
      simp only [Bool.false_eq_true, if_false]
      exact fin
end
end
section
section
variable {prog : Program} {w : World} {A : Around} {E : Value → Shared → Prop} {s : Shared} {x C f : Addr} {K : PySem.W.Frag} {od : Option Obj} {ox : Obj} {b : Value}
theorem vK (F : EqF K C f) (X : K.In s.heap) (I : PySem.W.InstAt s.heap x ox C od) (hu : A.units + 1 < cLine) {ty : Value} (hty : PySem.W.Looks (model prog w) s.heap (typeOf b) ty) (hs : ty = .ref C ∨ PySem.W.subIn K ty (.ref C) = some false) {Q : Value → Shared → Prop}
    (h : wpAny (model prog w) A.in1 (call (.ref f) [.ref x, b]) (fun v s' => ∃ c, v = .bool c ∧ Q (.bool (!c)) s') E s) : wpAny (model prog w) A (compareOp .NotEq (.ref x) b) Q E s := by
  have one : wpAny (model prog w) A (tryCompare (.ref x) "__ne__" b) (fun r s' => ∃ c, r = some (.bool c) ∧ Q (.bool c) s') E s := wG F X I hu (wpAny_mono h (fun v s' ⟨c, e, q⟩ => ⟨c, e, _, rfl, q⟩) fun _ _ e => e)
  unfold compareOp
  simp only [richCompare, cmpInfo_NotEq, oneThing_ref]
  refine wpAny_holding (wpAny_bind (wpAny_cRoomFor (Nat.lt_of_succ_lt hu) ?_))
  refine wpAny_bind (I.type.here ?_)
  refine wpAny_bind (hty.here ?_)
  have fin : wpAny (model prog w) A (do
      if let some v ← tryCompare (.ref x) "__ne__" b then return v
      if !false then
        if let some v ← tryCompare b "__ne__" (.ref x) then return v
      rule "compare.ne-identity"; return .bool (!(← isSame (.ref x) b))) Q E s := by
    refine wpAny_bind (wpAny_mono one (fun r s1 z => ?_) fun _ _ e => e)
    obtain ⟨c, rfl, q⟩ := z
    exact wpAny_pure q
  rcases hs with e | e
  · subst e
    rw [show (Value.ref C != Value.ref C) = false from by simp]
    simp only [Bool.false_eq_true, if_false]
    refine wpAny_bind (wpAny_pure ?_)
    simp only [Bool.false_eq_true, if_false]
    exact fin
  · split
    · refine wpAny_bind ((PySem.W.looks_subIn X e).here ?_)
      simp only [Bool.false_eq_true, if_false]
      exact fin
    · refine wpAny_bind (wpAny_pure ?_)
      simp only [Bool.false_eq_true, if_false]
      exact fin
/-- the Hall is on the right, something of a built-in kind on the left -/
theorem tc (F : EqF K C f) (X : K.In s.heap) (I : PySem.W.InstAt s.heap x ox C od) (hu : A.units + 1 < cLine) {T : String} (hT : s.TypeIs b T) (hn : PySem.W.mroIn K C (.type T) = some false)
    (hc : ∀ {Q : Option Value → Shared → Prop}, Q none s → wpAny (model prog w) A (tryCompare b "__eq__" (.ref x)) Q E s) {Q : Value → Shared → Prop}
    (h : wpAny (model prog w) A (call (.ref f) [.ref x, b]) (fun v s' => ∃ c, v = .bool c ∧ Q (.bool c) s') E s) : wpAny (model prog w) A (compareOp .Eq b (.ref x)) Q E s := by
  have one : wpAny (model prog w) A (tryCompare (.ref x) "__eq__" b) (fun r s' => ∃ c, r = some (.bool c) ∧ Q (.bool c) s') E s := wH F X I (wpAny_mono h (fun v s' ⟨c, e, q⟩ => ⟨c, e, c, rfl, q⟩) fun _ _ e => e)
  unfold compareOp
  simp only [richCompare, cmpInfo_Eq, hT.oneThing_none]
  refine wpAny_holding (wpAny_bind (wpAny_cRoomFor (Nat.lt_of_succ_lt hu) ?_))
  refine wpAny_bind (wpAny_typeOf hT ?_)
  refine wpAny_bind (I.type.here ?_)
  rw [show (Value.type T != Value.ref C) = true from by simp]
  simp only [if_true]
  refine wpAny_bind ((PySem.W.looks_subIn X (t := .ref C) hn).here ?_)
  simp only [Bool.false_eq_true, if_false, Bool.not_false, if_true]
  refine wpAny_bind (m := tryCompare b _ (.ref x)) (hc ?_)
  refine wpAny_bind (m := tryCompare (.ref x) _ b) (wpAny_mono one (fun r s1 z => ?_) fun _ _ e => e)
  obtain ⟨c, rfl, q⟩ := z
  exact wpAny_pure q
theorem s9 (F : EqF K C f) (X : K.In s.heap) (I : PySem.W.InstAt s.heap x ox C od) (hu : A.units + 1 < cLine) {T : String} (hT : s.TypeIs b T) (hn : PySem.W.mroIn K C (.type T) = some false)
    (hc : ∀ {Q : Option Value → Shared → Prop}, Q none s → wpAny (model prog w) A (tryCompare b "__ne__" (.ref x)) Q E s) {Q : Value → Shared → Prop}
    (h : wpAny (model prog w) A.in1 (call (.ref f) [.ref x, b]) (fun v s' => ∃ c, v = .bool c ∧ Q (.bool (!c)) s') E s) : wpAny (model prog w) A (compareOp .NotEq b (.ref x)) Q E s := by
  have one : wpAny (model prog w) A (tryCompare (.ref x) "__ne__" b) (fun r s' => ∃ c, r = some (.bool c) ∧ Q (.bool c) s') E s := wG F X I hu (wpAny_mono h (fun v s' ⟨c, e, q⟩ => ⟨c, e, _, rfl, q⟩) fun _ _ e => e)
  unfold compareOp
  simp only [richCompare, cmpInfo_NotEq, hT.oneThing_none]
  refine wpAny_holding (wpAny_bind (wpAny_cRoomFor (Nat.lt_of_succ_lt hu) ?_))
  refine wpAny_bind (wpAny_typeOf hT ?_)
  refine wpAny_bind (I.type.here ?_)
  rw [show (Value.type T != Value.ref C) = true from by simp]
  simp only [if_true]
  refine wpAny_bind ((PySem.W.looks_subIn X (t := .ref C) hn).here ?_)
  simp only [Bool.false_eq_true, if_false, Bool.not_false, if_true]
  refine wpAny_bind (m := tryCompare b _ (.ref x)) (hc ?_)
  refine wpAny_bind (m := tryCompare (.ref x) _ b) (wpAny_mono one (fun r s1 z => ?_) fun _ _ e => e)
  obtain ⟨c, rfl, q⟩ := z
  exact wpAny_pure q
/-- what is of a built-in kind leaves it to the Hall -/
structure Leaves (prog : Program) (w : World) (A : Around) (E : Value → Shared → Prop) (s : Shared) (b : Value) (x : Addr) (T : String) : Prop where
  ty : s.TypeIs b T
  eq : ∀ {Q : Option Value → Shared → Prop}, Q none s → wpAny (model prog w) A (tryCompare b "__eq__" (.ref x)) Q E s
  ne : ∀ {Q : Option Value → Shared → Prop}, Q none s → wpAny (model prog w) A (tryCompare b "__ne__" (.ref x)) Q E s
variable {dx : Addr}
theorem qf (i : Int) (t : Tok) (hx : s.heap.get? x = some (PySem.W.instObj C dx)) : Leaves prog w A E s (.int i t) x "int" :=
  ⟨rfl, fun q => wpAny_tryCompare_declines rfl PySem.F.slot_int_eq (wpAny_call_entry PySem.F.slot_int_eq rfl PySem.F.entry_int_eq (yf i t hx ⟨_, rfl, rfl, q⟩) (PySem.F.args_int_eq_2 _ _)),
    fun q => wpAny_tryCompare_declines rfl PySem.F.slot_int_ne (wpAny_call_entry PySem.F.slot_int_ne rfl PySem.F.entry_int_ne (ye i t hx ⟨_, rfl, rfl, q⟩) (PySem.F.args_int_ne_2 _ _))⟩
theorem o9 (i : Bool) (hx : s.heap.get? x = some (PySem.W.instObj C dx)) : Leaves prog w A E s (.bool i) x "bool" :=
  ⟨rfl, fun q => wpAny_tryCompare_declines rfl PySem.F.slot_bool_eq (wpAny_call_entry PySem.F.slot_bool_eq rfl PySem.F.entry_int_eq (wx i hx ⟨_, rfl, rfl, q⟩) (PySem.F.args_int_eq_2 _ _)),
    fun q => wpAny_tryCompare_declines rfl PySem.F.slot_bool_ne (wpAny_call_entry PySem.F.slot_bool_ne rfl PySem.F.entry_int_ne (ww i hx ⟨_, rfl, rfl, q⟩) (PySem.F.args_int_ne_2 _ _))⟩
theorem qe (i : Str) (t : Tok) (hx : s.heap.get? x = some (PySem.W.instObj C dx)) : Leaves prog w A E s (.str i t) x "str" :=
  ⟨rfl, fun q => wpAny_tryCompare_declines rfl PySem.F.slot_str_eq (wpAny_call_entry PySem.F.slot_str_eq rfl PySem.F.entry_str_eq (xm i t hx ⟨_, rfl, rfl, q⟩) (PySem.F.args_str_eq_2 _ _)),
    fun q => wpAny_tryCompare_declines rfl PySem.F.slot_str_ne (wpAny_call_entry PySem.F.slot_str_ne rfl PySem.F.entry_str_ne (xl i t hx ⟨_, rfl, rfl, q⟩) (PySem.F.args_str_ne_2 _ _))⟩
theorem oY : Leaves prog w A E s .none x "NoneType" :=
  ⟨rfl, fun q => wpAny_tryCompare_declines rfl PySem.F.slot_NoneType_eq (wpAny_call_entry PySem.F.slot_NoneType_eq rfl PySem.F.entry_NoneType_eq (vz ⟨_, rfl, rfl, q⟩) (PySem.F.args_NoneType_eq_2 _ _)),
    fun q => wpAny_tryCompare_declines rfl PySem.F.slot_NoneType_ne (wpAny_call_entry PySem.F.slot_NoneType_ne rfl PySem.F.entry_NoneType_ne (none_ne ⟨_, rfl, rfl, q⟩) (PySem.F.args_NoneType_ne_2 _ _))⟩
theorem oZ {l : Addr} {ol : Obj} (F : EqF K C f) (X : K.In s.heap) (hx : s.heap.get? x = some (PySem.W.instObj C dx)) (hl : s.heap.get? l = some ol) (hc : ol.cls = .type "list") : Leaves prog w A E s (.ref l) x "list" :=
  have f1 : ∀ {A' : Around} {Q : Bool → Shared → Prop}, Q false s → wpAny (model prog w) A' (isSubtype (.ref C) (.type "list")) Q E s := fun q => (PySem.W.looks_subIn X (t := .ref C) F.n5).here q
  ⟨⟨_, hl, hc⟩, fun q => wpAny_tryCompare_declines ⟨_, hl, hc⟩ PySem.F.slot_list_eq (wpAny_call_entry PySem.F.slot_list_eq ⟨_, hl, hc⟩ PySem.F.entry_list_eq (list_eq l hx hl f1 ⟨_, rfl, rfl, q⟩) (PySem.F.args_list_eq_2 _ _)),
    fun q => wpAny_tryCompare_declines ⟨_, hl, hc⟩ PySem.F.slot_list_ne (wpAny_call_entry PySem.F.slot_list_ne ⟨_, hl, hc⟩ PySem.F.entry_list_ne (vJ l hx hl f1 ⟨_, rfl, rfl, q⟩) (PySem.F.args_list_ne_2 _ _))⟩
theorem nW {l : Addr} {ol : Obj} (F : EqF K C f) (X : K.In s.heap) (hx : s.heap.get? x = some (PySem.W.instObj C dx)) (hl : s.heap.get? l = some ol) (hc : ol.cls = .type "tuple") : Leaves prog w A E s (.ref l) x "tuple" :=
  have f1 : ∀ {A' : Around} {Q : Bool → Shared → Prop}, Q false s → wpAny (model prog w) A' (isSubtype (.ref C) (.type "tuple")) Q E s := fun q => (PySem.W.looks_subIn X (t := .ref C) F.n4).here q
  ⟨⟨_, hl, hc⟩, fun q => wpAny_tryCompare_declines ⟨_, hl, hc⟩ PySem.F.slot_tuple_eq (wpAny_call_entry PySem.F.slot_tuple_eq ⟨_, hl, hc⟩ PySem.F.entry_tuple_eq (sP l hx hl f1 ⟨_, rfl, rfl, q⟩) (PySem.F.args_tuple_eq_2 _ _)),
    fun q => wpAny_tryCompare_declines ⟨_, hl, hc⟩ PySem.F.slot_tuple_ne (wpAny_call_entry PySem.F.slot_tuple_ne ⟨_, hl, hc⟩ PySem.F.entry_tuple_ne (sO l hx hl f1 ⟨_, rfl, rfl, q⟩) (PySem.F.args_tuple_ne_2 _ _))⟩
theorem o8 {l : Addr} {ol : Obj} (F : EqF K C f) (X : K.In s.heap) (hx : s.heap.get? x = some (PySem.W.instObj C dx)) (hl : s.heap.get? l = some ol) (hc : ol.cls = .type "dict") : Leaves prog w A E s (.ref l) x "dict" :=
  have f1 : ∀ {A' : Around} {Q : Bool → Shared → Prop}, Q false s → wpAny (model prog w) A' (isSubtype (.ref C) (.type "dict")) Q E s := fun q => (PySem.W.looks_subIn X (t := .ref C) F.n6).here q
  ⟨⟨_, hl, hc⟩, fun q => wpAny_tryCompare_declines ⟨_, hl, hc⟩ PySem.F.slot_dict_eq (wpAny_call_entry PySem.F.slot_dict_eq ⟨_, hl, hc⟩ PySem.F.entry_dict_eq (wk l hx hl f1 ⟨_, rfl, rfl, q⟩) (PySem.F.args_dict_eq_2 _ _)),
    fun q => wpAny_tryCompare_declines ⟨_, hl, hc⟩ PySem.F.slot_dict_ne (wpAny_call_entry PySem.F.slot_dict_ne ⟨_, hl, hc⟩ PySem.F.entry_dict_ne (wj l hx hl f1 ⟨_, rfl, rfl, q⟩) (PySem.F.args_dict_ne_2 _ _))⟩
end
end
end HE
namespace DL
open PySem PySem.Spec PyProof.Rows L2 HE
section
variable [Tbs]
def boolR (neg : Bool) : Res → M D
  | .d (.bl c) => ret (.bl (if neg = true then !c else c))
  | _ => fail
theorem Pt.boolR {W : WX} {neg : Bool} {G : Gx} {B F : Addr → Prop} {σ : L2.St} {H : Hp} {env : List Slot} {Q : V → Hp → Prop} {r : Res} {v : V} (q : Pt G W (RD G) σ H Q (DL.boolR neg r) B F env) (rr : qt G B F env σ H r v) : ∃ c, v = .bl c ∧ Q (.bl (if neg = true then !c else c)) H := by
  cases r with
  | d d =>
    cases d with
    | bl y => exact ⟨y, rr, Pt.pure q (b := .bl _) rfl⟩
    | _ => exact (Pt.no q).elim
  | o o => exact (Pt.no q).elim
  | t _ _ => exact (Pt.no q).elim
section
variable {X : Cx} {C : Addr} {W : WX} {pins : List (Addr × Obj)} {σ : L2.St} {H : Hp} {s : Shared} {B F : Addr → Prop} {env : List Slot} {A : Around} {Q : V → Hp → Prop} {k : Nat} {f : Addr} {fd : FuncData} {ps : List Str} {df : DF} {neg : Bool} {d1 d2 : D} {v1 v2 : V} {u1 u2 : Value}
theorem pJ (Fn : FnG X.prog X.w X.K X.mg X.base k f fd ps (h8 (gx X C) 2 df)) (hb : Binds X.K fd ps []) (hn : 2 = ps.length) (hr : Room k A) (hG : A.guards = some []) (e0 : Env0 X.prog X.w X.K X.mg X.base A X.stack s H) (tk : DLz.Takes X W) (I : Inv X pins σ H s)
    (q : Pt (gx X C) W (RD (gx X C)) σ H Q (aq (callD df [d1, d2]) (boolR neg)) B F env) (p1 : Rp (gx X C) F H d1 v1) (p2 : Rp (gx X C) F H d2 v2) (e1 : RelV v1 u1) (e2 : RelV v2 u2) :
    wpAny (model X.prog X.w) A (call (.ref f) [u1, u2]) (fun v s' => ∃ c, v = .bool c ∧ EP X pins σ Q (.bool (if neg = true then !c else c)) s') X.xe s := by
  have hb' := hb s [u1, u2] I.kIn (by rw [List.append_nil]; exact hn)
  rw [List.append_nil] at hb'
  have pc := (q.bindP (Ra := qt (gx X C)) (as := []) (xs := []) rfl).imp fun v H2 ⟨F2, env2, r2, p2, _, rr2⟩ => Pt.boolR p2 rr2
  refine wpAny_call (codeAny_mono (Fn.run A X.stack s H ⟨[u1, u2], []⟩ [u1, u2] [v1, v2] _ (WE W σ) hr hG e0 hb' (.cons e1 (.cons e2 .nil)) (Pt.callD (vs := [v1, v2]) pc ⟨_, _, rfl, p1, _, [], rfl, p2, rfl⟩ rfl)) fun rr s' hq => ?_)
  match rr, hq with
  | .error ex, hq => exact DLz.passAt tk σ pins H s ex s' I hq
  | .ok (.ret w), hq =>
    obtain ⟨v, H2, I2, rv, c, ev, qq⟩ := I.after hq
    subst ev
    obtain rfl : w = Value.bool c := rv
    exact ⟨c, rfl, .bl _, H2, I2, rfl, qq⟩
  | .ok .next, hq => exact hq.elim
  | .ok .brk, hq => exact hq.elim
  | .ok .cont, hq => exact hq.elim
/-- of what kinds a Hall is compared with -/
def jL : D → Bool
  | .non => true | .bl _ => true | .int _ => true | .str _ => true | .tup _ => true | .lst _ => true | .emp => true
  | _ => false
theorem jK {K : PySem.W.Frag} {T : String} (h : fastBuiltinMro T = some [.type T, .type "object"] ∨ fastBuiltinMro T = some [.type T, .type "int", .type "object"]) : PySem.W.subIn K (.type T) (.ref C) = some false := by
  show (fastBuiltinMro T).map (·.contains (.ref C)) = some false
  rcases h with e | e <;> rw [e] <;> first | rfl | simp
theorem yP (Fq : EqF X.K C f) {x dx : Addr} {A : Around} {E : Value → Shared → Prop} (I : Inv X pins σ H s) (hx : s.heap.get? x = some (PySem.W.instObj C dx)) {d : D} {v : V} {u : Value} (ok : jL d = true) (r : Rp (gx X C) F H d v) (ru : RelV v u) :
    ∃ T, Leaves X.prog X.w A E s u x T ∧ PySem.W.mroIn X.K C (.type T) = some false ∧ PySem.W.subIn X.K (.type T) (.ref C) = some false ∧ PySem.W.Looks (model X.prog X.w) s.heap (typeOf u) (.type T) := by
  have at_ : ∀ {l : Addr} {ol : Obj} {T : String}, s.heap.get? l = some ol → ol.cls = .type T → PySem.W.Looks (model X.prog X.w) s.heap (typeOf (.ref l)) (.type T) := fun hl hc A Q E s k q => wpAny_typeOf_ref (k _ _ hl) (by rw [hc]; exact q)
  cases d with
  | non =>
    obtain rfl : v = .non := r
    obtain rfl : u = Value.none := ru
    exact ⟨"NoneType", oY, Fq.n0, jK (.inl (by decide +kernel)), fun A Q E s k q => wpAny_typeOf (show s.TypeIs .none "NoneType" from rfl) q⟩
  | bl b =>
    obtain rfl : v = .bl b := r
    obtain rfl : u = Value.bool b := ru
    exact ⟨"bool", o9 b hx, Fq.n1, jK (.inr (by decide +kernel)), fun A Q E s k q => wpAny_typeOf (show s.TypeIs (.bool b) "bool" from rfl) q⟩
  | int i =>
    obtain rfl : v = .int i := r
    obtain ⟨t, rfl⟩ := ru
    exact ⟨"int", qf i t hx, Fq.n2, jK (.inl (by decide +kernel)), fun A Q E s k q => wpAny_typeOf (show s.TypeIs (.int i t) "int" from rfl) q⟩
  | str i =>
    obtain rfl : v = .str i := r
    obtain ⟨t, rfl⟩ := ru
    exact ⟨"str", qe i t hx, Fq.n3, jK (.inl (by decide +kernel)), fun A Q E s k q => wpAny_typeOf (show s.TypeIs (.str i t) "str" from rfl) q⟩
  | tup ds =>
    obtain ⟨l, vs, e, hT, _⟩ := r
    subst e
    obtain rfl : u = Value.ref l := ru
    obtain ⟨its, _, ⟨ol, hl, hc, _⟩, _⟩ := I.tuple (show SqT X.K H l vs from .inl hT.rd)
    exact ⟨"tuple", nW Fq I.kIn hx hl hc, Fq.n4, jK (.inl (by decide +kernel)), at_ hl hc⟩
  | lst ds =>
    obtain ⟨l, vs, e, _, hl, _⟩ := r
    subst e
    obtain rfl : u = Value.ref l := ru
    obtain ⟨_, us, n, _, la⟩ := ug I hl
    exact ⟨"list", oZ Fq I.kIn hx la rfl, Fq.n5, jK (.inl (by decide +kernel)), at_ la rfl⟩
  | emp =>
    obtain ⟨l, e, _, hl⟩ := r
    subst e
    obtain rfl : u = Value.ref l := ru
    obtain ⟨_, _, _, _, ol, _, _, la, hc, _⟩ := dk_of I.hok hl
    exact ⟨"dict", o8 Fq I.kIn hx la hc.1, Fq.n6, jK (.inl (by decide +kernel)), at_ la hc.1⟩
  | _ => cases ok
/-- == and != where a Hall may be -/
def pj (df : DF) (neg : Bool) (x y : D) : M D := match x, y with
  | .hall g sp, .hall g' sp' => aq (callD df [.hall g sp, .hall g' sp']) (boolR neg)
  | .hall g sp, y => fV (jL y = true) (aq (callD df [.hall g sp, y]) (boolR neg))
  | x, .hall g sp => fV (jL x = true) (aq (callD df [.hall g sp, x]) (boolR neg))
  | _, _ => fail
def sC (neg : Bool) : CmpOp := if neg = true then .NotEq else .Eq
theorem vP (Fn : FnG X.prog X.w X.K X.mg X.base k f fd ps (h8 (gx X C) 2 df)) (Fq : EqF X.K C f) (hb : Binds X.K fd ps []) (hn : 2 = ps.length) (hr : Room (k + 1) X.A) (hG : X.A.guards = some []) (tk : DLz.Takes X W) (I : Inv X pins σ H s)
    (q : Pt (gx X C) W (RD (gx X C)) σ H Q (pj df neg d1 d2) B F env) (p1 : Rp (gx X C) F H d1 v1) (p2 : Rp (gx X C) F H d2 v2) (e1 : RelV v1 u1) (e2 : RelV v2 u2) :
    wpAny (model X.prog X.w) X.A (compareOp (sC neg) u1 u2) (EP X pins σ Q) X.xe s := by
  have hu : X.A.units + 1 < cLine := by have := hr.un; omega
  have e0 : Env0 X.prog X.w X.K X.mg X.base X.A X.stack s H := I.env0
  have e0' : Env0 X.prog X.w X.K X.mg X.base X.A.in1 X.stack s H := let e := I.env0; ⟨e.frames, e.mod, e.bs, e.bsz, e.funs, e.frf, e.hok, e.bare⟩
  -- the call that settles it
  have run : ∀ {a b : D} {va vb : V} {ua ub : Value}, Pt (gx X C) W (RD (gx X C)) σ H Q (aq (callD df [a, b]) (boolR neg)) B F env → Rp (gx X C) F H a va → Rp (gx X C) F H b vb → RelV va ua → RelV vb ub →
      wpAny (model X.prog X.w) X.A (call (.ref f) [ua, ub]) (fun v s' => ∃ c, v = .bool c ∧ EP X pins σ Q (.bool (if neg = true then !c else c)) s') X.xe s ∧ wpAny (model X.prog X.w) X.A.in1 (call (.ref f) [ua, ub]) (fun v s' => ∃ c, v = .bool c ∧ EP X pins σ Q (.bool (if neg = true then !c else c)) s') X.xe s :=
    fun q ra rb ea eb => ⟨pJ Fn hb hn (hr.mono (by omega)) hG e0 tk I q ra rb ea eb, pJ Fn hb hn (hr.mono (by omega)).in1 hG e0' tk I q ra rb ea eb⟩
  have left : ∀ {g sp : Int} {b : D} {va vb : V} {ua ub : Value} {ty : Value}, PySem.W.Looks (model X.prog X.w) s.heap (typeOf ub) ty → (ty = .ref C ∨ PySem.W.subIn X.K ty (.ref C) = some false) → Pt (gx X C) W (RD (gx X C)) σ H Q (aq (callD df [.hall g sp, b]) (boolR neg)) B F env → Rp (gx X C) F H (.hall g sp) va → Rp (gx X C) F H b vb → RelV va ua → RelV vb ub →
      wpAny (model X.prog X.w) X.A (compareOp (sC neg) ua ub) (EP X pins σ Q) X.xe s := by
    intro g sp b va vb ua ub ty hty hs q ra rb ea eb
    obtain ⟨r1, r2⟩ := run q ra rb ea eb
    obtain ⟨a, dx, ev, hF, h1⟩ := id ra
    subst ev
    obtain rfl : ua = Value.ref a := ea
    obtain ⟨mA, O, _⟩ := ins_get I.hok h1
    obtain ⟨od, J, _⟩ := O.look
    cases neg with
    | false => exact vL Fq I.kIn J hu hty hs r1
    | true => exact vK Fq I.kIn J hu hty hs r2
  have right : ∀ {g sp : Int} {b : D} {va vb : V} {ua ub : Value}, jL b = true → Pt (gx X C) W (RD (gx X C)) σ H Q (aq (callD df [.hall g sp, b]) (boolR neg)) B F env → Rp (gx X C) F H (.hall g sp) va → Rp (gx X C) F H b vb → RelV va ua → RelV vb ub →
      wpAny (model X.prog X.w) X.A (compareOp (sC neg) ub ua) (EP X pins σ Q) X.xe s := by
    intro g sp b va vb ua ub ok q ra rb ea eb
    obtain ⟨r1, r2⟩ := run q ra rb ea eb
    obtain ⟨a, dx, ev, hF, h1⟩ := id ra
    subst ev
    obtain rfl : ua = Value.ref a := ea
    obtain ⟨mA, O, _⟩ := ins_get I.hok h1
    obtain ⟨od, J, _⟩ := O.look
    obtain ⟨T, L, m, _, _⟩ := yP (A := X.A) (E := X.xe) Fq I O.obj ok rb eb
    cases neg with
    | false => exact tc Fq I.kIn J hu L.ty m L.eq r1
    | true => exact s9 Fq I.kIn J hu L.ty m L.ne r2
  have leftS : ∀ {g sp : Int} {b : D} {va vb : V} {ua ub : Value}, jL b = true → Pt (gx X C) W (RD (gx X C)) σ H Q (aq (callD df [.hall g sp, b]) (boolR neg)) B F env → Rp (gx X C) F H (.hall g sp) va → Rp (gx X C) F H b vb → RelV va ua → RelV vb ub →
      wpAny (model X.prog X.w) X.A (compareOp (sC neg) ua ub) (EP X pins σ Q) X.xe s := by
    intro g sp b va vb ua ub ok q ra rb ea eb
    obtain ⟨a, dx, ev, hF, h1⟩ := id ra
    subst ev
    obtain ⟨mA, O, _⟩ := ins_get I.hok h1
    obtain ⟨T, L, m, sb, ty⟩ := yP (A := X.A) (E := X.xe) Fq I O.obj ok rb eb
    exact left ty (.inr sb) q ra rb ea eb
  by_cases h1 : ∃ g sp, d1 = .hall g sp
  · obtain ⟨g, sp, e⟩ := h1
    subst e
    by_cases h2 : ∃ g' sp', d2 = .hall g' sp'
    · obtain ⟨g', sp', e⟩ := h2
      subst e
      have q : Pt (gx X C) W (RD (gx X C)) σ H Q (aq (callD df [.hall g sp, .hall g' sp']) (boolR neg)) B F env := q
      obtain ⟨a, dx, ev, hF, hh⟩ := id p2
      subst ev
      obtain rfl : u2 = Value.ref a := e2
      obtain ⟨mA, O, _⟩ := ins_get I.hok hh
      obtain ⟨od, J, _⟩ := O.look
      exact left J.type (.inl rfl) q p1 p2 e1 rfl
    · have e : pj df neg (.hall g sp) d2 = fV (jL d2 = true) (aq (callD df [.hall g sp, d2]) (boolR neg)) := by
        cases d2 with
        | hall g' sp' => exact absurd ⟨g', sp', rfl⟩ h2
        | _ => rfl
      rw [e] at q
      obtain ⟨ok, q⟩ := q.asked
      exact leftS ok q p1 p2 e1 e2
  · by_cases h2 : ∃ g' sp', d2 = .hall g' sp'
    · obtain ⟨g', sp', e⟩ := h2
      subst e
      have e : pj df neg d1 (.hall g' sp') = fV (jL d1 = true) (aq (callD df [.hall g' sp', d1]) (boolR neg)) := by
        cases d1 with
        | hall g sp => exact absurd ⟨g, sp, rfl⟩ h1
        | _ => rfl
      rw [e] at q
      obtain ⟨ok, q⟩ := q.asked
      exact right ok q p2 p1 e2 e1
    · have e : pj df neg d1 d2 = fail := by
        cases d1 with
        | hall g sp => exact absurd ⟨g, sp, rfl⟩ h1
        | _ =>
          cases d2 with
          | hall g sp => exact absurd ⟨g, sp, rfl⟩ h2
          | _ => rfl
      rw [e] at q
      exact (Pt.no q).elim
variable {a b : Expr} {ma mb : M D} {pos : Pos}
theorem yK (Fn : FnG X.prog X.w X.K X.mg X.base k f fd ps (h8 (gx X C) 2 df)) (Fq : EqF X.K C f) (hb : Binds X.K fd ps []) (hn : 2 = ps.length) (hr : Room (k + 1) X.A) (hG : X.A.guards = some []) (tk : DLz.Takes X W) (neg : Bool) (ha : PE X a (tD (gx X C) W ma)) (hbb : PE X b (tD (gx X C) W mb)) (hm : behindInMarks (sC neg) b = false) :
    PT X (.Compare a [sC neg] [b] pos) (lh (gx X C) W (cA ma mb fun x y => aq (pj df neg x y) dP)) := by
  refine ⟨fun pins s σ H Q I h => ?_⟩
  refine wpAny_isTrue_Compare1 (thn (ha.run pins s σ H _ I (dQ (Ra := RD (gx X C)) h)) fun v s1 ⟨x, H1, I1, r1, B, F, env, d1, pt, rd⟩ => thn (hbb.run pins s1 σ H1 _ I1 (pt.bind (Ra := RD (gx X C)) (as := [d1]) (xs := [x]) ⟨_, [], rfl, rd, rfl⟩)) fun u s2 ⟨y, H2, I2, r2, F2, env2, d2, pt2, ⟨x', r', e', rd', _⟩, rd2⟩ => ?_) hm
  cases e'
  refine thn (vP (Q := fun v H' => ∃ c, v = .bl c ∧ Q c H') Fn Fq hb hn hr hG tk I2 pt2.asb rd' rd2 r1 r2) fun c s3 ⟨z, H3, I3, r3, cc, e, q3⟩ => ?_
  subst e
  cases r3
  exact wpAny_truthy_bool ⟨H3, I3, q3⟩
end
end
end DL
namespace HE
open PySem PySem.Spec PyProof.Rows L2
section
section
variable {prog : Program} {w : World} {A : Around} {E : Value → Shared → Prop} {s : Shared} {l x y : Addr} {n : Nat} {items : Array Value} {dd : Option Addr} {sl : Array (Option Value)}
/-- an object of a list of one -/
def one (items : Array Value) (n : Nat) (dd : Option Addr) (sl : Array (Option Value)) : Obj := { cls := .type "list", dict := dd, data := .seq items n, slots := sl }
end
end
section
end
end HE
namespace DL
open PySem PySem.Spec PyProof.Rows L2 HE
section
end
end DL
namespace DL
open PySem PySem.Spec PyProof.Rows L2
section
end
section
end
section
end
section
end
section
theorem vy {n : Nat} {chk : List (PySem.W.Frag → Bool)} {fn : List He.FnD} {g : Addr → Option Obj} {s : Shared} (h : ∀ a, g a = s.heap.get? a) : xZ n chk fn g = (wY n chk fn).obs s := by
  have e : g = s.heap.get? := funext h
  rw [e] <;> rfl
section
variable {chk : List (PySem.W.Frag → Bool)} {fn : List He.FnD} {K : PySem.W.Frag}
theorem SaysK.fact (c : SaysK chk fn K) (i : Nat) {f : PySem.W.Frag → Bool} (h : chk[i]? = some f := by rfl) : f K = true := by
  have c1 := (He.ba (show ((chk.all fun f => f K) && fn.all fun d => (He.Fa.code d.at_ d.qual).ok K) = true from congrArg (fun z : wC => z.1) c)).1
  exact List.all_eq_true.mp c1 f (List.mem_of_getElem? h)
theorem SaysK.def_ (c : SaysK chk fn K) (i : Nat) {d : He.FnD} (h : fn[i]? = some d := by rfl) :
    ∃ oc od osl kV doc pm an cdv ct, K.lookup (He.fAd K d.at_) = some ⟨oc, od, .func (PySem.W.fnOf d.name d.qual d.params d.body d.scope .none kV doc pm an cdv ct), osl⟩ ∧ PySem.W.codeIn K cdv d.qual = true := by
  have c2 := (He.ba (show ((chk.all fun f => f K) && fn.all fun d => (He.Fa.code d.at_ d.qual).ok K) = true from congrArg (fun z : wC => z.1) c)).2
  have e : fn.map (fun d => He.fnObs K d.at_) = fn.map He.FnD.val := congrArg (fun z : wC => z.2) c
  have e2 : (fn.map fun d => He.fnObs K d.at_)[i]? = (fn.map He.FnD.val)[i]? := by rw [e]
  rw [List.getElem?_map, List.getElem?_map, h] at e2
  exact He.fn_ok (Option.some.inj e2) (List.all_eq_true.mp c2 d (List.mem_of_getElem? h))
end
theorem lD {K : PySem.W.Frag} {x : Str} {i : Int} (h : rT K x i = true) : ∃ t, PySem.W.nsIn K mainGlobals x = some (some (.int i t)) := by
  unfold rT at h
  split at h
  · rename_i j t e
    have ej : j = i := of_decide_eq_true h
    subst ej
    exact ⟨t, e⟩
  · cases h
/-- THE END: the law by its own plain law -/
theorem uP {ι : Type} {l : PySem.W.OpenLaw} {n k : Nat} {q : Program} {loose : List Str} {XP : (Str → Option Value) → Heap → Prop} {YP : World → Heap → Prop} {d : DefRec} {x : Str} {xs : List Str} (df : Addr → ι → DF) (hn : l.most = some n) (hn2 : n ≤ 1000) (hdf : d.params.defaults = []) (hk : k ≤ 200) (gu : callerA.guards = some [])
    (F : ∀ (w : World) (mg : Str → Option Value) (fa : Addr) (h : Heap), YP w h → h.Ns mainGlobals mg → mg d.name = some (.ref fa) →
      ∃ (K : PySem.W.Frag) (cs : List (Addr × Addr × Str)) (C : Addr) (jj : ι) (fd : FuncData), K.In h ∧ mI q K cs xs ∧ (∀ (s : Shared) (u : Value), BindsTo s fd ⟨[u], []⟩ [(x, u)]) ∧ ∀ base : Heap, K.In base → base.Ns mainGlobals mg → (∀ p ∈ cs, LamX.TabB base mg p.1 p.2.1) →
        FnG l.prog w K mg base k fa fd [x] (@h8 ⟨cs.map (·.2)⟩ ⟨C, mg, K, w, l.prog⟩ 1 (df C jj)))
    (law : ∀ (C : Addr) (jj : ι) (ns : List Int), ns.length ≤ n → df C jj [.im (.scr ns)] (fun r _ => r = .d (.bl true)) (fun _ _ => False)) : PySem.W.WalkO q loose XP YP l.row.toRowW d [] (fun f vs => PySem.call f vs) := by
  refine Att.attach_call hn hdf fun w s₀ t mg mb fa o pm cd doc a us ns G Y ho hd hcd hmg scr isn len ng => ?_
  obtain ⟨K, cs, C, jj, fd, kin, TB, bt, Fd⟩ := F w mg fa _ Y G.T.g hmg
  have tabs : TabsIn K cs t.heap := by
    have at_ : ∀ p ∈ cs, PySem.W.CodeHd t.heap p.1 p.2.1 ∧ t.heap.get? p.2.1 = some yI := fun p hp => by
      obtain ⟨_, y, _, hr, ht⟩ := TB p hp
      obtain ⟨d', hd', hn'⟩ := List.any_eq_true.mp hr
      cases e : (recsOf q).find? (fun e => e.name == y) with
      | none => exact absurd hn' (by simpa using List.find?_eq_none.mp e d' hd')
      | some d2 => exact PySem.W.tab_of G.T kin e ht
    exact ⟨fun p hp => (at_ p hp).2, fun p hp => (TB p hp).1, fun p hp => (at_ p hp).1⟩
  have rv := vals_ints isn
  have notA : ∀ p ∈ cs, p.2.1 ≠ a := fun p hp z => by
    have e := tabs.tab p hp
    rw [z, scr] at e
    cases e
  have wish : ∀ H : Hp, (∀ p ∈ cs, H p.2.1 = some (.tbl #[])) → (∀ H', SqL K H' a (ns.map V.int)) ∨ (Nt H a ∧ Rd H a (.lst (ns.map V.int))) → @h8 ⟨cs.map (·.2)⟩ ⟨C, mg, K, w, l.prog⟩ 1 (df C jj) [.ref a] H (fun v _ => v = .bl true) fun _ _ _ => False := fun H ht hs => by
    letI : Tbs := ⟨cs.map (·.2)⟩
    refine ⟨rfl, fun _ => False, fun b => b = a ∧ Nt H b, [.im (.scr ns)], _, _, ⟨rfl, fun i s e => ?_, fun i j b w1 _ => ?_, fun b z => z.elim, fun b z => z.2, fun p hp => ?_⟩, law C jj ns len, fun r ss' v F' H' e st rl rr => ?_, fun _ _ _ _ _ _ z => z.elim⟩
    · cases i with
      | zero => cases (Option.some.inj e); exact ⟨.ref a, rfl, a, rfl, hs.elim .inr fun q => .inl ⟨⟨rfl, q.1⟩, q.2⟩⟩
      | succ i => cases e
    · obtain ⟨s, e, w⟩ := own_feet.mp w1
      cases i with
      | zero => cases (Option.some.inj e); exact (jB w).elim
      | succ i => cases e
    · obtain ⟨p0, hp0, e⟩ := List.mem_map.mp hp
      subst e
      exact ⟨#[], ht p0 hp0, True.intro, fun pos cv hc => by
        have z : codeAmong pos [] = some cv := hc
        simp [codeAmong] at z⟩
    · subst e
      exact rr
  have small : ns.length ≤ sizeLine := Nat.le_trans len (Nat.le_trans hn2 (by rw [sizeLine_eq]; decide))
  cases z : K.lookup a with
  | some u =>
    have e := kin a u z
    rw [scr] at e
    cases e
    refine pe (cs := cs) kin G.T.g G.T.b G.T.builtins G.T.nolimit ng tabs G.T.bmain scr (kZ hk) gu Fd bt (fun b => if ∃ p ∈ cs, b = p.2.1 then some (.tbl #[]) else none) (fun b u e => ?_) (fun b e => ?_) (wish _ (fun p hp => if_pos ⟨p, hp, rfl⟩) (.inl fun H' => .inr ⟨_, us.toArray, _, z, rfl, rfl, rfl, by rw [List.size_toArray, isn.length]; exact small, by simpa using rv⟩))
    · by_cases hb : ∃ p ∈ cs, b = p.2.1
      · cases (if_pos hb).symm.trans e
        obtain ⟨p, hp, eb⟩ := hb
        subst eb
        exact tabs.tab p hp
      · cases (if_neg hb).symm.trans e
    · by_cases hb : ∃ p ∈ cs, b = p.2.1
      · exact .inr ⟨hb, if_pos hb⟩
      · exact (e (if_neg hb)).elim
  | none =>
    refine pe (cs := cs) kin G.T.g G.T.b G.T.builtins G.T.nolimit ng tabs G.T.bmain scr (kZ hk) gu Fd bt (fun b => if b = a then some (.frz { cls := .type "list", data := .seq us.toArray } (.lst (ns.map V.int))) else if ∃ p ∈ cs, b = p.2.1 then some (.tbl #[]) else none) (fun b u e => ?_) (fun b e => ?_)
      (wish _ (fun p hp => (if_neg (notA p hp)).trans (if_pos ⟨p, hp, rfl⟩)) (.inr ⟨Nt.of (if_pos rfl), .inr ⟨_, if_pos rfl⟩⟩))
    · by_cases eb : b = a
      · subst eb
        cases (if_pos rfl).symm.trans e
        exact ⟨scr, by rw [List.length_map]; exact small, us, _, rv, scr⟩
      · have e := (if_neg eb).symm.trans e
        by_cases hb : ∃ p ∈ cs, b = p.2.1
        · cases (if_pos hb).symm.trans e
          obtain ⟨p, hp, e0⟩ := hb
          subst e0
          exact tabs.tab p hp
        · cases (if_neg hb).symm.trans e
    · by_cases eb : b = a
      · exact .inl ⟨eb, eb ▸ z, _, _, if_pos eb⟩
      · by_cases hb : ∃ p ∈ cs, b = p.2.1
        · exact .inr ⟨hb, (if_neg eb).trans (if_pos hb)⟩
        · exact (e ((if_neg eb).trans (if_neg hb))).elim
/-- THE END: the law by its own plain law -/
theorem uQ {l : PySem.W.OpenLaw} {n k : Nat} {q : Program} {loose : List Str} {XP : (Str → Option Value) → Heap → Prop} {YP : World → Heap → Prop} {d : DefRec} {x : Str} {xs : List Str} (df : Addr → DF) (hn : l.most = some n) (hn2 : n ≤ 1000) (hdf : d.params.defaults = []) (hk : k ≤ 200) (gu : callerA.guards = some [])
    (F : ∀ (w : World) (mg : Str → Option Value) (fa : Addr) (h : Heap), YP w h → h.Ns mainGlobals mg → mg d.name = some (.ref fa) →
      ∃ (K : PySem.W.Frag) (cs : List (Addr × Addr × Str)) (C : Addr) (fd : FuncData), K.In h ∧ mI q K cs xs ∧ (∀ (s : Shared) (u : Value), BindsTo s fd ⟨[u], []⟩ [(x, u)]) ∧ ∀ base : Heap, K.In base → base.Ns mainGlobals mg → (∀ p ∈ cs, LamX.TabB base mg p.1 p.2.1) →
        FnG l.prog w K mg base k fa fd [x] (@h8 ⟨cs.map (·.2)⟩ ⟨C, mg, K, w, l.prog⟩ 1 (df C)))
    (law : ∀ (C : Addr) (ns : List Int), ns.length ≤ n → df C [.im (.scr ns)] (fun r _ => r = .d (.bl true)) (fun _ _ => False)) : PySem.W.WalkO q loose XP YP l.row.toRowW d [] (fun f vs => PySem.call f vs) :=
  uP (ι := Unit) (fun C _ => df C) hn hn2 hdf hk gu (fun w mg fa h Y G hm => let ⟨K, cs, C, fd, z⟩ := F w mg fa h Y G hm; ⟨K, cs, C, (), fd, z⟩) fun C _ ns h => law C ns h
end
section
end
section
variable [Tbs]
section
variable {X : Cx} {C : Addr} {W : WX} {n i j : Nat} {x : Str} {p pos : Pos} {e : Expr} {es : List Expr} {kws : List Keyword} {ms mk : M (List D)}
/-- one of these defs -/
def fnOf (tab : List (Str × DF)) : D → Option DF
  | .fn x => (tab.find? fun q => q.1 == x).map (·.2)
  | _ => none
variable {ks : List Str} {gD : List D → List D → List D}
end
end
section
variable [Tbs]
mutual
theorem KeyR.is {P : Program} {w : World} {F : Addr → Prop} {H : Hp} {h : Heap} (ok : HOk P w H h) : ∀ {k : NestedKey} {v : V} {u : Value}, KeyR F H k v → RelV v u → NestedIs h k u
  | .none, _, _, e, r => by cases (show _ = _ from e); cases (show _ = _ from r); exact .none
  | .num _, _, _, e, r => by cases (show _ = _ from e); obtain ⟨t, e⟩ := (show ∃ t, _ = Value.int _ t from r); subst e; exact .int _ t
  | .text _, _, _, e, r => by cases (show _ = _ from e); obtain ⟨t, e⟩ := (show ∃ t, _ = Value.str _ t from r); subst e; exact .text _ t
  | .tup ks, _, _, ⟨a, vs, e, ⟨_, ob, h1, _⟩, h2⟩, r => by
    subst e
    cases (show _ = Value.ref a from r)
    obtain ⟨hg, _, its, rv, o, g1, g2, n, g3⟩ := ok a _ h1
    exact .tup g1 g2 g3 (by simpa using KeyRL.is ok h2 rv)
theorem KeyRL.is {P : Program} {w : World} {F : Addr → Prop} {H : Hp} {h : Heap} (ok : HOk P w H h) : ∀ {ks : List NestedKey} {vs : List V} {us : List Value}, KeyRL F H ks vs → Vals vs us → NestedAll h ks us
  | [], _, _, e, r => by cases (show _ = _ from e); cases r; exact .nil
  | k :: ks, _, _, ⟨v, l, e, h1, h2⟩, r => by
    subst e
    cases r with
    | cons r1 r2 => exact .cons (KeyR.is ok h1 r1) (KeyRL.is ok h2 r2)
end
def qH (l : List (NestedKey × Addr × V)) (k : NestedKey) (b : Addr) (v : V) : List (NestedKey × Addr × V) :=
  if (l.any fun p => decide (p.1 = k)) = true then l.map (fun p => if p.1 = k then (p.1, p.2.1, v) else p) else l ++ [(k, b, v)]
def putN (kvs : List (NestedKey × D)) (k : NestedKey) (d : D) : List (NestedKey × D) :=
  if (kvs.any fun p => decide (p.1 = k)) = true then kvs.map (fun p => if p.1 = k then (p.1, d) else p) else kvs ++ [(k, d)]
theorem mM (k : NestedKey) : ∀ l : List (NestedKey × Addr × V), (l.any fun p => decide (p.1 = k)) = (gY l k).isSome
  | [] => rfl
  | p :: r => by
    by_cases e : p.1 = k
    · simp [gY, List.find?_cons, List.any_cons, e]
    · have ih := mM k r
      simp only [gY] at ih
      simp [gY, List.find?_cons, List.any_cons, e, ih]
theorem NPs.repl {l : List (NestedKey × Addr × V)} {xs : List (NestedKey × Addr × Value)} (r : Paired NP l xs) (k : NestedKey) {y : V} {u : Value} (ry : RelV y u) :
    Paired NP (l.map fun p => if p.1 = k then (p.1, p.2.1, y) else p) (xs.map (putAt k u)) := by
  induction r with
  | nil => exact .nil
  | @cons p q ps qs h t ih =>
    rw [List.map_cons, List.map_cons]
    refine .cons ?_ ih
    obtain ⟨h1, h2, h3⟩ := h
    unfold putAt
    by_cases e : p.1 = k
    · rw [if_pos e, if_pos (h1.symm.trans e)]; exact ⟨h1, h2, ry⟩
    · rw [if_neg e, if_neg (fun z => e (h1.trans z))]; exact ⟨h1, h2, h3⟩
theorem NPs.put {l : List (NestedKey × Addr × V)} {xs : List (NestedKey × Addr × Value)} (r : Paired NP l xs) (k : NestedKey) {b : Addr} {y : V} {u : Value} (ry : RelV y u) :
    Paired NP (qH l k b y) (storedH xs k b u) := by
  have e : (l.any fun p => decide (p.1 = k)) = (atKey xs k).isSome := by
    rw [mM, (NPs.val r k).isSome_eq, Option.isSome_map]
  unfold qH storedH
  rw [e]
  by_cases q : (atKey xs k).isSome = true
  · rw [if_pos q, if_pos q]; exact NPs.repl r k ry
  · rw [if_neg q, if_neg q]; exact Paired.snoc r ⟨rfl, rfl, ry⟩
section
variable {P : Program} {w : World} {F : Addr → Prop} {H : Hp} {h : Heap} {a : Addr} {o : Obj} {l : List (NestedKey × Addr × V)}
theorem x9 (ok : HOk P w H h) (e : H a = some (yF a o)) : h.get? a = some o := (ok a _ e).1
theorem ze (ok : HOk P w H h) (e : H a = some (yF a o)) (n : NdIs w a o l) (kr : KysR F H l) : ∃ xs, Paired NP l xs ∧ h.DictOfH (nestedKind P w) a xs := by
  obtain ⟨xs, es, ep, pr, hx, hd, he, hn⟩ := n.what
  refine ⟨xs, pr, o, es, ep, x9 ok e, hx, hd, he, fun x hx => ?_, hn⟩
  have all : ∀ {l : List (NestedKey × Addr × V)} {m : List (NestedKey × Addr × Value)}, Paired NP l m → KysR F H l → ∀ x ∈ m, (nestedKind P w).is h x.1 x.2.1 := by
    intro l m q
    induction q with
    | nil => intro _ x hx; exact nomatch hx
    | @cons p q ps qs hq t ih =>
      intro kr x hx
      rcases List.mem_cons.mp hx with e | hx
      · subst e
        obtain ⟨k1, k2⟩ := kr p (List.mem_cons_self ..)
        rw [hq.1, hq.2.1] at k2
        rw [hq.1] at k1
        exact ⟨KeyR.is ok k2 rfl, k1⟩
      · exact ih (fun p hp => kr p (List.mem_cons_of_mem _ hp)) x hx
  exact all pr kr x hx
end
/-- what the dict at a holds at the key y -/
def NGet (w : World) (H : Hp) (a : Addr) (y : V) (r : Option V) : Prop := ∃ o l F k b, H a = some (yF a o) ∧ NdIs w a o l ∧ KysR F H l ∧ y = .ref b ∧ k.depth ≤ 8 ∧ KeyR F H k y ∧ r = gY l k
section
variable {X : Cx} {pins : List (Addr × Obj)} {σ : L2.St} {H : Hp} {s : Shared} {a : Addr} {y v d : V} {u r : Value} {o : Option V} {A : Around} {E : Value → Shared → Prop}
theorem NGet.typeIs (I : Inv X pins σ H s) (g : NGet X.w H a y o) : s.TypeIs (.ref a) "dict" := by
  obtain ⟨ob, l, F, k, b, e, n, kr, _⟩ := g
  obtain ⟨xs, _, dd⟩ := ze I.hok e n kr
  exact dd.typeIs
end
section
variable {G : Gx} {W : WX} {B F : Addr → Prop} {σ : L2.St} {H : Hp} {env : List Slot} {α β γ δ : Type}
variable {R : (Addr → Prop) → (Addr → Prop) → List Slot → L2.St → Hp → γ → δ → Prop} {Q : δ → Hp → Prop} {i : Nat} {a : Addr} {o o' : O}
theorem KnR.append : ∀ {kvs ks : List (NestedKey × D)} {l m : List (NestedKey × Addr × V)}, KnR G F H kvs l → KnR G F H ks m → KnR G F H (kvs ++ ks) (l ++ m)
  | [], _, _, _, h, h' => by cases (show _ = _ from h); exact h'
  | (k, d) :: r, _, _, _, ⟨b, v, l', e, dp, hk, h1, h2⟩, h' => by subst e; exact ⟨b, v, _, rfl, dp, hk, h1, KnR.append h2 h'⟩
theorem KnR.setAt : ∀ {kvs : List (NestedKey × D)} {l : List (NestedKey × Addr × V)} {k : NestedKey} {d : D} {v : V}, KnR G F H kvs l → Rp G F H d v → KnR G F H (kvs.map fun p => if p.1 = k then (p.1, d) else p) (l.map fun p => if p.1 = k then (p.1, p.2.1, v) else p)
  | [], _, _, _, _, h, _ => by cases (show _ = _ from h); exact rfl
  | (k', d') :: r, _, k, d, v, ⟨b, v', l', e, dp, hk, h1, h2⟩, q => by
    subst e
    rw [List.map_cons, List.map_cons]
    by_cases z : k' = k
    · rw [if_pos z, if_pos z]; exact ⟨b, v, _, rfl, dp, hk, q, KnR.setAt h2 q⟩
    · rw [if_neg z, if_neg z]; exact ⟨b, v', _, rfl, dp, hk, h1, KnR.setAt h2 q⟩
theorem KnR.put {kvs : List (NestedKey × D)} {l : List (NestedKey × Addr × V)} {k : NestedKey} {b : Addr} {d : D} {v : V} (h : KnR G F H kvs l) (dp : k.depth ≤ 8) (hk : KeyR F H k (.ref b)) (q : Rp G F H d v) : KnR G F H (putN kvs k d) (qH l k b v) := by
  unfold putN qH
  rw [h.any k]
  split
  · exact h.setAt q
  · exact h.append ⟨b, v, [], rfl, dp, hk, q, rfl⟩
theorem KnR.isSome {kvs : List (NestedKey × D)} {l : List (NestedKey × Addr × V)} (k : NestedKey) (h : KnR G F H kvs l) : (gY l k).isSome = (valN kvs k).isSome := by
  have z := h.val k
  cases w : valN kvs k with
  | none => simp only [w] at z; rw [z]; rfl
  | some d => simp only [w] at z; obtain ⟨v, hv', _⟩ := z; rw [hv']; rfl
end
end
section
end
section
end
section
variable [Tbs]
section
variable {G : Gx} {B F : Addr → Prop} {σ : L2.St} {H : Hp} {env : List Slot}
theorem R1At.notup0 {a : Addr} : ∀ {r : R1}, R1At G F H a r → ∀ vs, ¬ Rd H a (.tup vs)
  | .lst ds, ⟨us, h1, _⟩, vs, h => by rcases h with h | ⟨o, h⟩ <;> (rw [h1] at h; cases h)
  | .ins C fs, ⟨dx, us, h1, _⟩, vs, h => by rcases h with h | ⟨o, h⟩ <;> (rw [h1] at h; cases h)
theorem R1At.nofrz {a : Addr} : ∀ {r : R1}, R1At G F H a r → ∀ ob v, H a ≠ Option.some (HO.frz ob v)
  | .lst _, ⟨us, h1, _⟩, ob, v => by rw [h1]; exact fun z => nomatch z
  | .ins _ _, ⟨_, us, h1, _⟩, ob, v => by rw [h1]; exact fun z => by have h2 := Option.some.inj z; cases h2
theorem R1At.notup {a : Addr} {r : R1} (h : R1At G F H a r) : (∀ vs, ¬ Rd H a (.tup vs)) ∧ ∀ ob v, H a ≠ Option.some (HO.frz ob v) := ⟨h.notup0, h.nofrz⟩
/-- a slot stands over a step that leaves what it owns as it is -/
theorem SlotR.keep {F' : Addr → Prop} {H' : Hp} {x : Option (Option V)} {s : Slot} (st : Stp B F H F' H') (h : SlotR G B F H x s) (k : ∀ b, s.feet x b → H' b = H b ∧ ¬ F' b) : SlotR G B F' H' x s := by
  cases s with
  | no => trivial
  | im d => obtain ⟨v, h1, h2⟩ := h; exact ⟨v, h1, Rp.mono st d v h2⟩
  | ow o =>
    obtain ⟨a, h1, h2, h3, h4⟩ := h
    obtain ⟨e1, e2⟩ := k a (.inl ⟨rfl, h1⟩)
    exact ⟨a, h1, e2, h3, OwAt.mono st e1 h4⟩
  | io a o =>
    obtain ⟨h1, h2, h3, h4⟩ := h
    obtain ⟨e1, e2⟩ := k a (.inl ⟨rfl, h1⟩)
    exact ⟨h1, e2, h3, OwAt.mono st e1 h4⟩
  | tr r ns =>
    obtain ⟨h1, t⟩ := h
    refine ⟨h1, t.root, t.nd, fun p hp => ?_⟩
    obtain ⟨e1, e2⟩ := k p.1 (.inr ⟨r, ns, rfl, List.mem_map.mpr ⟨p, hp, rfl⟩⟩)
    exact ⟨e2, (t.at_ p hp).2.1, R1At.mono st e1 (t.at_ p hp).2.2⟩
end
section
variable {G : Gx} {W : WX} {B F : Addr → Prop} {σ : L2.St} {H : Hp} {env : List Slot} {α β γ δ : Type}
variable {R : (Addr → Prop) → (Addr → Prop) → List Slot → L2.St → Hp → γ → δ → Prop} {Q : δ → Hp → Prop} {i : Nat}
theorem ErL.get : ∀ {xs : List E1} {vs : List V}, ErL G F H xs vs → ∀ {j : Nat} {e : E1}, xs[j]? = some e → ∃ v, vs[j]? = some v ∧ Er G F H e v
  | [], _, _, j, e, h => by simp at h
  | x :: xs, _, ⟨v, l', q, h1, h2⟩, j, e, h => by
    subst q
    cases j with
    | zero => simp at h; subst h; exact ⟨v, rfl, h1⟩
    | succ j => exact ErL.get h2 (by simpa using h)
theorem ErL.snoc : ∀ {xs : List E1} {vs : List V} {e : E1} {v : V}, ErL G F H xs vs → Er G F H e v → ErL G F H (xs ++ [e]) (vs ++ [v])
  | [], _, e, v, h, r => by cases (show _ = _ from h); exact ⟨v, [], rfl, r, rfl⟩
  | x :: xs, _, e, v, ⟨w, l', q, h1, h2⟩, r => by subst q; exact ⟨w, _, rfl, h1, ErL.snoc h2 r⟩
end
section
variable {X : Cx} {C : Addr} {W : WX} {a b c : Expr} {es : List Expr} {ma mb mc : M D} {mk : M Addr} {ms : M (List D)} {pos apos cpos p : Pos} {i : Nat}
theorem ErL.at {G : Gx} {F : Addr → Prop} {H : Hp} {xs : List E1} {vs : List V} {k : Int} {e : E1} (h : ErL G F H xs vs) (q : atI xs k = some e) : ∃ v, atI vs k = some v ∧ Er G F H e v := by
  unfold atI at q ⊢
  rw [← h.length]
  cases w : ixN xs.length k with
  | none => rw [w] at q; cases q
  | some j => rw [w] at q; exact h.get (j := j) q
end
def setT (i : Nat) (t : Addr × List (Addr × R1)) : M Unit := fun env Q _ => match env[i]? with
  | some (.io _ _) => False
  | some _ => Q () (env.set i (.tr t.1 t.2))
  | none => False
end
section
end
section
variable [Tbs]
def cP : D → M D
  | .lst ds => match intsOf ds with
    | some ns => ret (.int ns.sum)
    | none => fail
  | _ => fail
theorem pB {G : Gx} {W : WX} : FitsC G W (rSum G.K) (dX cP) := iI fun {σ H Q B F env x d} p r => by
  cases d with
  | lst ds =>
    cases z : intsOf ds with
    | none => simp only [cP, z] at p; exact (Pt.no p).elim
    | some ns =>
      simp only [cP, z] at p
      have e := jx z
      subst e
      obtain ⟨a, vs, e, _, h1, h2⟩ := r
      subst e
      have evs := RpL.ints.mp h2
      subst evs
      exact ⟨a, ns, rfl, SqL.of h1, p.pure rfl⟩
  | _ => exact (Pt.no p).elim
end
section
end
section
end
section
variable [Tbs]
section
variable {P : Program} {w : World} {A : Around} {R : Value → Shared → Prop}
theorem uS {I t : Addr} {items : Array Value} (hh : A.handled = none) (apart : t ≠ I) (k : Nat) (kl : k ≤ items.size) :
    WalksS P w A I [I, t] [I] Eq (items.size - k) (fun i v => items[k + i]? = some v) (fun i s => IsTupIter s.heap I t (k + i) ∧ IsTup s.heap t items) where
  sub := fun b hb => by rw [List.mem_singleton.mp hb]; exact List.mem_cons_self
  grefl := fun _ => rfl
  gtrans := fun _ _ _ h1 h2 => h1.trans h2
  frame := fun i s h' tk st _ hk => by
    obtain ⟨⟨o, h1, h2, h3⟩, ⟨u, g1, g2⟩⟩ := st
    exact ⟨⟨o, hk I (by simp) _ h1, h2, h3⟩, ⟨u, hk t (by simp) _ g1, g2⟩⟩
  item := fun i s Q E hi st hQ => by
    have hx : items[k + i]? = some items[k + i] := by simp [show k + i < items.size by omega]
    exact next_tuple_item st.1 st.2 hx fun h' a sb => hQ _ _ hx ⟨by rw [← Nat.add_assoc]; exact a, st.2.extBut sb.extBut apart⟩ ⟨fun b o hb e => (sb.2 b (fun z => hb (by simp [z]))).trans e, rfl, rfl, rfl, Nat.le_refl _⟩
  done := fun s Q E st hQ => by
    have hx : items[k + (items.size - k)]? = none := by simp; omega
    exact next_tuple_end hh st.1 st.2 hx fun h' sb => hQ _ ⟨fun b o hb e => sb b o (fun z => hb (by simp [z])) e, rfl, rfl, rfl, Nat.le_refl _⟩
  self := fun i s Q E st h => by
    obtain ⟨o, h1, h2, h3⟩ := st.1
    exact wpAny_pyIter_slot (T := "tuple_iterator") ⟨o, h1, h2⟩ PySem.F.slot_tuple_iterator_iter (wpAny_call_entry PySem.F.slot_tuple_iterator_iter ⟨o, h1, h2⟩ PySem.F.entry_tuple_iterator_iter (wpAny_pure ⟨_, rfl, "tuple_iterator", _, ⟨o, h1, h2⟩, PySem.F.slot_tuple_iterator_next.lookup, h⟩) (PySem.F.args_tuple_iterator_iter_1 _))
theorem vG {I l : Addr} {items : Array Value} (hh : A.handled = none) (apart : l ≠ I) (k : Nat) (kl : k ≤ items.size) :
    WalksS P w A I [I, l] [I] Eq (items.size - k) (fun i v => items[k + i]? = some v) (fun i s => s.heap.IsListIter I l (k + i) ∧ s.heap.IsList l items) where
  sub := fun b hb => by rw [List.mem_singleton.mp hb]; exact List.mem_cons_self
  grefl := fun _ => rfl
  gtrans := fun _ _ _ h1 h2 => h1.trans h2
  frame := fun i s h' tk st _ hk => by
    obtain ⟨⟨o, h1, h2, h3⟩, ⟨u, g1, g2⟩⟩ := st
    exact ⟨⟨o, hk I (by simp) _ h1, h2, h3⟩, ⟨u, hk l (by simp) _ g1, g2⟩⟩
  item := fun i s Q E hi st hQ => by
    have hx : items[k + i]? = some items[k + i] := by simp [show k + i < items.size by omega]
    exact wpAny_pyNext_list_item st.1 st.2 hx fun h' a sb => hQ _ _ hx ⟨by rw [← Nat.add_assoc]; exact a, st.2.extBut sb.extBut apart⟩ ⟨fun b o hb e => (sb.2 b (fun z => hb (by simp [z]))).trans e, rfl, rfl, rfl, Nat.le_refl _⟩
  done := fun s Q E st hQ => by
    have hx : items[k + (items.size - k)]? = none := by simp; omega
    exact wpAny_pyNext_list_end hh st.1 st.2 hx fun h' sb => hQ _ ⟨fun b o hb e => sb b o (fun z => hb (by simp [z])) e, rfl, rfl, rfl, Nat.le_refl _⟩
  self := fun i s Q E st h => wpAny_pyIter_listiter st.1 h
theorem mw {items acc : Array Value} {k : Nat} (kl : k ≤ items.size) (h : ItemsOf (fun i v => items[k + i]? = some v) acc (items.size - k)) : acc.toList = items.toList.drop k := by
  obtain ⟨hs, hi⟩ := h
  refine List.ext_getElem? fun j => ?_
  rw [List.getElem?_drop]
  by_cases hj : j < acc.size
  · have := hi j acc[j] (by simp [hj])
    rw [Array.getElem?_toList, Array.getElem?_toList, this]
    simp [hj]
  · rw [Array.getElem?_toList, Array.getElem?_toList]
    rw [Array.getElem?_eq_none (by omega), Array.getElem?_eq_none (by omega)]
/-- the items ahead, the rest as a new list -/
theorem yM {z : Shared} {t : Addr} {items : Array Value} {Z : List Value → Shared → Prop} {k : Nat} (hh : A.handled = none) (b : IsTup z.heap t items) (kl : k ≤ items.size) (sz : items.size ≤ sizeLine)
    (go : ∀ (h' : Heap) (tk : Nat), (∀ c o, z.heap.get? c = some o → h'.get? c = some o) → Z (items.toList.take k ++ [.ref h'.objs.size]) { z with heap := h'.push { cls := .type "list", data := .seq (items.toList.drop k).toArray }, toks := tk }) :
    wpAny (model P w) A (unpackItems (.ref t) (k + 1) (some k)) Z R z := by
  have apart : t ≠ z.heap.objs.size := by obtain ⟨o, ho, _⟩ := b; exact Nat.ne_of_lt (Heap.lt_size ho)
  unfold unpackItems notIterableAtAll
  refine wpAny_bind (wpAny_bind (wpAny_specialOf b.typeIs slot_tuple_iter.lookup (wpAny_pure ?_)))
  simp only [Bool.false_eq_true, if_false]
  refine wpAny_bind (wpAny_holding (iter_tuple b ?_))
  refine wpAny_bind (wpAny_holding (draw_tuple apart k 0 _ _ ⟨_, Heap.get?_push_size _ rfl, rfl, rfl⟩ (b.push _) (by omega) fun g1 a1 s1 => ?_))
  have ln : ((items.toList.drop 0).take k).length = k := by simp; omega
  rw [if_neg (by rw [ln]; omega)]
  have b1 := (b.push { cls := .type "tuple_iterator", data := .fields #[.ref t, .int 0 0] }).extBut s1.extBut apart
  refine wpAny_bind (wpAny_holding (wpAny_collect_iter (T := "tuple_iterator") (.inr (.inr (.inr rfl))) (uS (A := A.in1) (I := z.heap.objs.size) (t := t) (items := items) hh apart k kl) (fun i s st => ?_) ⟨by rw [Nat.zero_add] at a1; exact a1, b1⟩ (fun c hc => ?_) (by simp) (fun s' acc mv it => ?_) (by omega)))
  · obtain ⟨o, h1, h2, _⟩ := st.1; exact ⟨o, h1, h2⟩
  · rcases List.mem_cons.mp hc with e | e
    · subst e; obtain ⟨o, h1, _⟩ := a1; exact Heap.lt_size h1
    · rw [List.mem_singleton.mp e]; obtain ⟨o, h1, _⟩ := b1; exact Heap.lt_size h1
  have ea := mw kl it
  rw [show k + 1 - 1 - k = 0 by omega, if_neg (by omega)]
  obtain ⟨h', gs', dr', tk', os'⟩ := s'
  obtain ⟨m1, m2, m3, m4, m5⟩ := mv
  simp only at m2 m3 m4
  rw [show acc.toList.length - 0 = acc.toList.length from rfl, List.take_length, List.drop_length, ea]
  refine wpAny_bind (wpAny_newObj_type (wpAny_pure ?_) ?_)
  · subst m2 m3 m4
    rw [List.append_nil, List.drop_zero]
    refine go h' tk' (fun c o e => ?_)
    have h1 : c ≠ z.heap.objs.size := Nat.ne_of_lt (Heap.lt_size e)
    exact m1 c o (by simp [h1]) ((s1.2 c h1).trans (Heap.get?_push_of_some _ e))
  · show (items.toList.drop k).toArray.size ≤ _
    simp
    omega
/-- the items ahead, the rest as a new list -/
theorem yN {z : Shared} {t : Addr} {items : Array Value} {Z : List Value → Shared → Prop} {k : Nat} (hh : A.handled = none) (b : z.heap.IsList t items) (kl : k ≤ items.size) (sz : items.size ≤ sizeLine)
    (go : ∀ (h' : Heap) (tk : Nat), (∀ c o, z.heap.get? c = some o → h'.get? c = some o) → Z (items.toList.take k ++ [.ref h'.objs.size]) { z with heap := h'.push { cls := .type "list", data := .seq (items.toList.drop k).toArray }, toks := tk }) :
    wpAny (model P w) A (unpackItems (.ref t) (k + 1) (some k)) Z R z := by
  have apart : t ≠ z.heap.objs.size := by obtain ⟨o, ho, _⟩ := b; exact Nat.ne_of_lt (Heap.lt_size ho)
  unfold unpackItems notIterableAtAll
  refine wpAny_bind (wpAny_bind (wpAny_specialOf b.typeIs slot_list_iter.lookup (wpAny_pure ?_)))
  simp only [Bool.false_eq_true, if_false]
  refine wpAny_bind (wpAny_holding (wpAny_pyIter_list b ?_))
  refine wpAny_bind (wpAny_holding (yw apart k 0 _ _ ⟨_, Heap.get?_push_size _ rfl, rfl, rfl⟩ (b.push _) (by omega) fun g1 a1 s1 => ?_))
  have ln : ((items.toList.drop 0).take k).length = k := by simp; omega
  rw [if_neg (by rw [ln]; omega)]
  have b1 := (b.push { cls := .type "list_iterator", data := .fields #[.ref t, .int 0 0] }).extBut s1.extBut apart
  refine wpAny_bind (wpAny_holding (wpAny_collect_iter (T := "list_iterator") (.inr (.inr (.inl rfl))) (vG (A := A.in1) (I := z.heap.objs.size) (l := t) (items := items) hh apart k kl) (fun i s st => ?_) ⟨by rw [Nat.zero_add] at a1; exact a1, b1⟩ (fun c hc => ?_) (by simp) (fun s' acc mv it => ?_) (by omega)))
  · obtain ⟨o, h1, h2, _⟩ := st.1; exact ⟨o, h1, h2⟩
  · rcases List.mem_cons.mp hc with e | e
    · subst e; obtain ⟨o, h1, _⟩ := a1; exact Heap.lt_size h1
    · rw [List.mem_singleton.mp e]; obtain ⟨o, h1, _⟩ := b1; exact Heap.lt_size h1
  have ea := mw kl it
  rw [show k + 1 - 1 - k = 0 by omega, if_neg (by omega)]
  obtain ⟨h', gs', dr', tk', os'⟩ := s'
  obtain ⟨m1, m2, m3, m4, m5⟩ := mv
  simp only at m2 m3 m4
  rw [show acc.toList.length - 0 = acc.toList.length from rfl, List.take_length, List.drop_length, ea]
  refine wpAny_bind (wpAny_newObj_type (wpAny_pure ?_) ?_)
  · subst m2 m3 m4
    rw [List.append_nil, List.drop_zero]
    refine go h' tk' (fun c o e => ?_)
    have h1 : c ≠ z.heap.objs.size := Nat.ne_of_lt (Heap.lt_size e)
    exact m1 c o (by simp [h1]) ((s1.2 c h1).trans (Heap.get?_push_of_some _ e))
  · show (items.toList.drop k).toArray.size ≤ _
    simp
    omega
end
def zm (K : PySem.W.Frag) (k : Nat) (t : TGs) : TG := fun v σ H Q => ∃ a xs, v = .ref a ∧ (SqT K H a xs ∨ SqL K H a xs) ∧ k ≤ xs.length ∧ ∀ l, H l = none → t (xs.take k ++ [.ref l]) σ (upd H l (.lst (xs.drop k))) Q
section
variable {X : Cx} {C : Addr} {es : List Expr} {t : TGs} {ks : List (D → M Unit)} {pos : Pos}
theorem vg {kk k : Nat} (hc : X.calm = true) (h : PGs X es t) (hn : (assignEach es X.env).length = k + 1 := by rfl) (hst : (assignEach es X.env).findIdx? (·.1) = some k := by rfl) : PG X (.Tuple es kk pos) (zm X.K k t) := by
  refine ⟨fun pins s σ H v u Q I r hw => ?_⟩
  obtain ⟨a, xs, e1, hq, hl, hw⟩ := hw
  subst e1
  cases r
  rw [PyProof.Rows.assign_Tuple]
  refine wpAny_bind (wpAny_standAt ?_)
  unfold unpack
  rw [hn, hst]
  have fin : ∀ (its : List Value), Vals xs its → xs.length ≤ sizeLine → ∀ (h' : Heap) (tk : Nat), (∀ c o, s.heap.get? c = some o → h'.get? c = some o) →
      wpAny (model X.prog X.w) X.A (assignInOrder ((assignEach es X.env).map (·.2)) (its.toArray.toList.take k ++ [.ref h'.objs.size])) (fun _ s' => ∃ σ' H', Inv X pins σ' H' s' ∧ Q σ' H') X.xe { s with heap := h'.push { cls := .type "list", data := .seq (its.toArray.toList.drop k).toArray }, toks := tk } := fun its rv sz h' tk hk => by
    have I1 : Inv X pins σ H { s with heap := h', toks := tk } := I.kept hk
    have hp := I1.hok.fresh (Nat.le_refl _)
    have I2 : Inv X pins σ (upd H h'.objs.size (.lst (xs.drop k))) { s with heap := h'.push { cls := .type "list", data := .seq (its.toArray.toList.drop k).toArray }, toks := tk } :=
      I1.laid (t' := tk) (fun b u q => Heap.get?_push_of_some _ q) (Nat.le_refl _) ⟨by rw [List.length_drop]; omega, its.drop k, _, rv.drop k, Heap.get?_push_size _ rfl⟩
    exact h.run pins _ σ _ _ _ Q I2 ((rv.take k).append (.cons (show RelV (V.ref h'.objs.size) (Value.ref h'.objs.size) from rfl) .nil)) (hw _ hp)
  rcases hq with hq | hq
  · obtain ⟨its, rv, pl, hz⟩ := I.tuple hq
    refine wpAny_bind (wpAny_holding (yM (I.ok.hd hc) pl (by rw [List.size_toArray, ← rv.length]; exact hl) (by rw [List.size_toArray, ← rv.length]; exact hz) fun h' tk hk => fin its rv hz h' tk hk))
  · obtain ⟨its, rv, pl, hz⟩ := I.list hq
    refine wpAny_bind (wpAny_holding (yN (I.ok.hd hc) pl.isList (by rw [List.size_toArray, ← rv.length]; exact hl) (by rw [List.size_toArray, ← rv.length]; exact hz) fun h' tk hk => fin its rv hz h' tk hk))
/-- the first ones, the rest as a list -/
def aB (k : Nat) (ks : List (D → M Unit)) (d : D) : M Unit := match d with
  | .tup ds => fV (k ≤ ds.length) (bf ks (ds.take k ++ [D.lst (ds.drop k)]))
  | .lst ds => fV (k ≤ ds.length) (bf ks (ds.take k ++ [D.lst (ds.drop k)]))
  | _ => fail
theorem yh {kk k : Nat} (hc : X.calm = true) (h : PGs X es (nI (gx X C) ks)) (hn : (assignEach es X.env).length = k + 1 := by rfl) (hst : (assignEach es X.env).findIdx? (·.1) = some k := by rfl) :
    PG X (.Tuple es kk pos) (wJ (gx X C) (aB k ks)) := lR (vg hc h hn hst) fun v σ H Q ⟨B, F, env, d, Qd, rel, r, hm, hq⟩ => by
  have fin : ∀ (ds : List D) (vs : List V), RpL (gx X C) F H ds vs → k ≤ ds.length → bf ks (ds.take k ++ [D.lst (ds.drop k)]) env (fun _ env' => Qd env') (fun _ _ => False) → ∀ l, H l = none → nI (gx X C) ks (vs.take k ++ [.ref l]) σ (upd H l (.lst (vs.drop k))) Q := fun ds vs h2 _ hm l hl => by
    have st : Stp B F H (fun a => F a ∨ a = l) (upd H l (.lst (vs.drop k))) := hU hl (rel.notB hl)
    have z := RpL.mono st ds vs h2
    exact ⟨B, _, env, _, Qd, rel.newF hl, (z.take k).append (es := [D.lst (ds.drop k)]) ⟨.ref l, [], rfl, ⟨l, _, rfl, .inr rfl, upd_same, z.drop k⟩, rfl⟩, hm, fun env' σ' F' H' q st' rl => hq env' σ' F' H' q (st.trans st') rl⟩
  cases d with
  | tup ds =>
    obtain ⟨a, vs, e0, h1, h2⟩ := r
    obtain ⟨l, hm⟩ : k ≤ ds.length ∧ bf ks (ds.take k ++ [D.lst (ds.drop k)]) env (fun _ env' => Qd env') (fun _ _ => False) := hm
    exact ⟨a, vs, e0, .inl (.inl h1.rd), by rw [← h2.length]; exact l, fin ds vs h2 l hm⟩
  | lst ds =>
    obtain ⟨a, vs, e0, hF, h1, h2⟩ := r
    obtain ⟨l, hm⟩ : k ≤ ds.length ∧ bf ks (ds.take k ++ [D.lst (ds.drop k)]) env (fun _ env' => Qd env') (fun _ _ => False) := hm
    exact ⟨a, vs, e0, .inr (SqL.of h1), by rw [← h2.length]; exact l, fin ds vs h2 l hm⟩
  | _ => exact (show False from hm).elim
theorem qT {x : Str} {q : Pos} {k : D → M Unit} {p : Pos} (h1 : PG X (.Name x q) (wJ (gx X C) k)) : PGs X [.Starred (.Name x q) p] (nI (gx X C) [k]) :=
  ⟨fun pins s σ H vs us Q I r h => (gh h1 my : PGs X [.Name x q] (nI (gx X C) [k])).run pins s σ H vs us Q I r h⟩
end
def paired (xs ys : List D) : List D := (xs.zip ys).map fun p => .pr [p.1, p.2]
def bP (ds : List D) : M (List D) := match ds with
  | [.lst xs, .lst ys] => ret (paired xs ys)
  | [.tup xs, .tup ys] => ret (paired xs ys)
  | _ => fail
theorem paired_get {xs ys : List D} {i : Nat} {d : D} (h : (paired xs ys)[i]? = some d) : ∃ x y, xs[i]? = some x ∧ ys[i]? = some y ∧ d = .pr [x, y] := by
  unfold paired at h
  rw [List.getElem?_map] at h
  obtain ⟨p, hp, e⟩ := Option.map_eq_some_iff.mp h
  obtain ⟨h1, h2⟩ := List.getElem?_zip_eq_some.mp hp
  exact ⟨_, _, h1, h2, e.symm⟩
theorem jG {xs ys : List D} : (paired xs ys).length = min xs.length ys.length := by unfold paired; rw [List.length_map, List.length_zip]
section
variable {G : Gx} {B F : Addr → Prop} {H : Hp} {a b : Addr} {vs us : List V} {xs ys : List D} {K : PySem.W.Frag}
theorem vt (hF : F a) (h1 : H a = some (.lst vs)) (h2 : RpL G F H xs vs) (hG : F b) (g1 : H b = some (.lst us)) (g2 : RpL G F H ys us) : ItOk G (Itz K a b) (paired xs ys) B F H := fun F' H' s i => by
  have q1 : H' a = some (.lst vs) := s.hk a _ (.inr hF) h1
  have q2 : RpL G F' H' xs vs := RpL.mono s xs vs h2
  have p1 : H' b = some (.lst us) := s.hk b _ (.inr hG) g1
  have p2 : RpL G F' H' ys us := RpL.mono s ys us g2
  refine ⟨fun d hd => ?_, fun hl => ⟨vs, us, SqL.of q1, SqL.of p1, by rw [jG] at hl; rw [← q2.length, ← p2.length]; omega⟩⟩
  obtain ⟨x, y, hx, hy, ed⟩ := paired_get hd
  subst ed
  obtain ⟨v, hv, rv⟩ := q2.get hx
  obtain ⟨u, hu, ru⟩ := p2.get hy
  refine ⟨⟨vs, us, v, u, SqL.of q1, SqL.of p1, hv, hu⟩, fun z H'' ⟨T, v', u', ex, hT, eH, hy1, hy2⟩ => ?_⟩
  subst ex eH
  have z1 := hy1 vs (SqL.of q1)
  have z2 := hy2 us (SqL.of p1)
  rw [hv] at z1
  rw [hu] at z2
  cases z1
  cases z2
  have st : Stp B F' H' F' (upd H' T (.tup [v, u])) := gC hT
  exact ⟨st, mj hT, T, _, rfl, .inl upd_same, _, _, rfl, Rp.mono st x v rv, _, _, rfl, Rp.mono st y u ru, rfl⟩
theorem vq (h1 : Rd H a (.tup vs)) (h2 : RpL G F H xs vs) (g1 : Rd H b (.tup us)) (g2 : RpL G F H ys us) : ItOk G (RZ.ItzT K a b) (paired xs ys) B F H := fun F' H' s i => by
  have q1 : Rd H' a (.tup vs) := s.ht a vs h1
  have q2 : RpL G F' H' xs vs := RpL.mono s xs vs h2
  have p1 : Rd H' b (.tup us) := s.ht b us g1
  have p2 : RpL G F' H' ys us := RpL.mono s ys us g2
  refine ⟨fun d hd => ?_, fun hl => ⟨vs, us, .inl q1, .inl p1, by rw [jG] at hl; rw [← q2.length, ← p2.length]; omega⟩⟩
  obtain ⟨x, y, hx, hy, ed⟩ := paired_get hd
  subst ed
  obtain ⟨v, hv, rv⟩ := q2.get hx
  obtain ⟨u, hu, ru⟩ := p2.get hy
  refine ⟨⟨vs, us, v, u, .inl q1, .inl p1, hv, hu⟩, fun z H'' ⟨T, v', u', ex, hT, eH, hy1, hy2⟩ => ?_⟩
  subst ex eH
  have z1 := hy1 vs (.inl q1)
  have z2 := hy2 us (.inl p1)
  rw [hv] at z1
  rw [hu] at z2
  cases z1
  cases z2
  have st : Stp B F' H' F' (upd H' T (.tup [v, u])) := gC hT
  exact ⟨st, mj hT, T, _, rfl, .inl upd_same, _, _, rfl, Rp.mono st x v rv, _, _, rfl, Rp.mono st y u ru, rfl⟩
end
section
variable {X : Cx} {C : Addr} {W : WX} {e e2 : Expr} {es : List Expr} {ms : M (List D)} {pos tpos p : Pos}
theorem zg {kk : Nat} (hg : Gl X "zip") (hm : X.mg "zip" = none) (ha : PA X [e, e2] (oF (gx X C) W ms)) (hs : starEach [e, e2] X.env = (false, eval e X.env) :: starEach [e2] X.env := by rfl) (hpl : (backTo pos (starEach [e2] X.env)).any (·.1) = false := by rfl) :
    PI X (.Tuple es kk tpos) (.Call (.Name "zip" p) [e, e2] [] pos) (tI (gx X C) W (aq ms bP)) :=
  mU (RZ.pi_zipA hg hm ha hs hpl) fun σ H Q h => (dQ (Ra := qw (gx X C)) h).imp fun xs H1 ⟨B, F, env, ds, q, r⟩ => by
    cases ds with
    | nil => exact (Pt.no q).elim
    | cons d ds => cases ds with
      | nil => cases d <;> exact (Pt.no q).elim
      | cons d' ds => cases ds with
        | cons d'' ds => cases d <;> cases d' <;> exact (Pt.no q).elim
        | nil => cases d with
          | lst xs => cases d' with
            | lst ys =>
              obtain ⟨v, r', e0, ⟨a, vs, ev, hF, h1, h2⟩, v2, r2, e3, ⟨b, us, eu, hG, g1, g2⟩, rn⟩ := r
              cases (show _ = _ from rn)
              subst ev eu e3
              exact ⟨a, b, vs, us, e0, .inl ⟨SqL.of h1, SqL.of g1, Pt.pure (c := paired xs ys) q (vt hF h1 h2 hG g1 g2)⟩⟩
            | _ => exact (Pt.no q).elim
          | tup xs => cases d' with
            | tup ys =>
              obtain ⟨v, r', e0, ⟨a, vs, ev, h1, h2⟩, v2, r2, e3, ⟨b, us, eu, g1, g2⟩, rn⟩ := r
              cases (show _ = _ from rn)
              subst ev eu e3
              exact ⟨a, b, vs, us, e0, .inr ⟨.inl h1.rd, .inl g1.rd, Pt.pure (c := paired xs ys) q (vq h1.rd h2 g1.rd g2)⟩⟩
            | _ => exact (Pt.no q).elim
          | _ => exact (Pt.no q).elim
end
end
section
variable [Tbs]
/-- an argument: a datum, what the slot i owns, what stands in the slot i and is not looked at -/
inductive Ax where
  | d (d : D) | o (i : Nat) | n (i : Nat)
/-- the callee's slots -/
def bW (ad : Nat → Addr) (env : List Slot) : Ax → Slot
  | .d d => .im d
  | .n _ => .no
  | .o i => match env[i]? with
    | some (.ow o) => .io (ad i) o
    | some (.io a o) => .io a o
    | some (.tr a ns) => .tr a ns
    | _ => .no
def bQ : List Ax → List Nat
  | [] => []
  | .o i :: r => i :: bQ r
  | _ :: r => bQ r
def dD (env : List Slot) (i : Nat) (s : Slot) : Option (List Slot) := match env[i]?, s with
  | some (.ow _), .io _ o => some (env.set i (.ow o))
  | some (.io c _), .io _ o => some (env.set i (.io c o))
  | some (.tr _ _), .tr a ns => some (env.set i (.tr a ns))
  | some (.ow _), .no => some (env.set i .no)
  | some (.io _ _), .no => some (env.set i .no)
  | _, _ => none
def bO : List Ax → List Slot → List Slot → (List Slot → Prop) → Prop
  | [], _, env, k => k env
  | .o i :: as, s :: ss, env, k => match dD env i s with
    | some e => bO as ss e k
    | none => False
  | .d _ :: as, _ :: ss, env, k => bO as ss env k
  | .n _ :: as, _ :: ss, env, k => bO as ss env k
  | _ :: _, [], _, _ => False
theorem ErF.look {G : Gx} {F : Addr → Prop} {H : Hp} {f : Str} : ∀ {fs : List (Str × E1)} {l : List (Str × V)}, ErF G F H fs l → match fs.lookup f with
    | some e => ∃ v, l.lookup f = some v ∧ Er G F H e v
    | none => l.lookup f = none
  | [], _, h => by cases (show _ = _ from h); rfl
  | (g, x) :: r, _, ⟨w, l', ee, h1, h2⟩ => by
    subst ee
    have ih := ErF.look (f := f) h2
    simp only [List.lookup]
    cases z : f == g with
    | true => exact ⟨w, rfl, h1⟩
    | false => exact ih
def tH (f : Str) (v : E1) : List (Str × E1) → List (Str × E1)
  | [] => [(f, v)]
  | (g, x) :: r => if g = f then (g, v) :: r else (g, x) :: tH f v r
theorem ErF.put {G : Gx} {F : Addr → Prop} {H : Hp} {f : Str} {d : E1} {v : V} (rv : Er G F H d v) : ∀ {fs : List (Str × E1)} {l : List (Str × V)}, ErF G F H fs l → ErF G F H (tH f d fs) (putF f v l)
  | [], _, h => by cases (show _ = _ from h); exact ⟨v, [], rfl, rv, rfl⟩
  | (g, x) :: r, _, ⟨w, l', e, h1, h2⟩ => by
    subst e
    show ErF G F H (if g = f then (g, d) :: r else (g, x) :: tH f d r) (if g = f then (g, v) :: l' else (g, w) :: putF f v l')
    by_cases z : g = f
    · rw [if_pos z, if_pos z]; exact ⟨v, l', rfl, rv, h2⟩
    · rw [if_neg z, if_neg z]; exact ⟨w, _, rfl, h1, ErF.put rv h2⟩
end
section
end
section
variable [Tbs]
section
variable {X : Cx} {C C' : Addr} {W : WX} {a b c e o : Expr} {es : List Expr} {ma mb md : M D} {mk : M Addr} {ms : M (List D)} {pos pos2 lpos apos cpos p p2 : Pos} {k n i : Nat} {f : Addr} {fd : FuncData} {ps : List Str} {df : DF} {x m : Str}
def xt (a b : D) : M D := match a, b with
  | .str s, .str z => (match s.cps.toList with
    | [c] => ret (.bl (decide (c ∈ z.cps.toList)))
    | _ => fail)
  | _, _ => fail
theorem one_sign {s : Str} {c : Nat} (h : s.cps.toList = [c]) : s = ⟨#[c]⟩ := by
  obtain ⟨l⟩ := s
  have : l = #[c] := by rw [← Array.toArray_toList (xs := l)]; rw [show l.toList = [c] from h]
  rw [this]
theorem ut {G : Gx} {W : WX} : Fits G W (fun x y H Q => ∃ (c : Nat) (z : Str), x = .str ⟨#[c]⟩ ∧ y = .str z ∧ Q (.bl (decide (c ∈ z.cps.toList))) H) xt := by
  intro σ H Q B F env x y a b h ra rb
  cases a with
  | str s => cases b with
    | str z =>
      have h : Pt G W (RD G) σ H Q (match s.cps.toList with
        | [c] => ret (.bl (decide (c ∈ z.cps.toList)))
        | _ => fail) B F env := h
      match q : s.cps.toList with
      | [c] =>
        rw [q] at h
        have es := one_sign q
        subst es
        cases (show x = _ from ra)
        cases (show y = _ from rb)
        exact ⟨c, z, rfl, rfl, h.pure (b := .bl _) rfl⟩
      | [] => rw [q] at h; exact h.no.elim
      | _ :: _ :: _ => rw [q] at h; exact h.no.elim
    | _ => exact h.no.elim
  | _ => exact h.no.elim
def strsOf : List D → Option (List Str)
  | [] => some []
  | .str y :: r => (strsOf r).map (y :: ·)
  | _ => none
theorem qD : ∀ {ds : List D} {ys : List Str}, strsOf ds = some ys → ds = ys.map D.str
  | [], _, h => by cases h; rfl
  | .str y :: r, _, h => by
    obtain ⟨l, hl, e⟩ := Option.map_eq_some_iff.mp (show (strsOf r).map (y :: ·) = _ from h)
    subst e
    rw [List.map_cons, ← qD hl]
  | .non :: _, _, h => by cases h
  | .bl _ :: _, _, h => by cases h
  | .int _ :: _, _, h => by cases h
  | .byt _ :: _, _, h => by cases h
  | .tup _ :: _, _, h => by cases h
  | .pr _ :: _, _, h => by cases h
  | .lst _ :: _, _, h => by cases h
  | .hall _ _ :: _, _, h => by cases h
  | .scr _ :: _, _, h => by cases h
  | .emp :: _, _, h => by cases h
  | .exn _ _ _ :: _, _, h => by cases h
  | .dct _ _ :: _, _, h => by cases h
  | .fn _ :: _, _, h => by cases h
  | .dcn _ _ :: _, _, h => by cases h
theorem kK {G : Gx} {F : Addr → Prop} {H : Hp} : ∀ {ys : List Str} {vs : List V}, RpL G F H (ys.map D.str) vs → vs = ys.map V.str
  | [], _, h => h
  | y :: ys, _, ⟨v, r, e, h1, h2⟩ => by subst e; cases (show v = _ from h1); rw [kK h2]; rfl
def uk (a b : D) : M D := match a, b with
  | .str s, .lst ds => (match strsOf ds with
    | some ys => fV ((ys.map (·.length)).sum + ys.length * s.length ≤ 16777216) (ret (.str (Txt.join s ys)))
    | none => fail)
  | _, _ => fail
def mm (ma mb : M D) : M D := aq ma fun a => match a with
  | .str _ => aq mb (uk a)
  | _ => fail
theorem uE (ha : PE X o (tD (gx X C) W ma)) (hb : PE X e (tD (gx X C) W mb)) (hs : starEach [e] X.env = [(false, eval e X.env)] := by rfl) (hbase : attributeBase o "join" X.env (eval o X.env) = eval o X.env := by rfl) (hline : (apos.endLine == pos.line) = true := by rfl) :
    PE X (.Call (.Attribute o "join" apos) [e] [] pos) (tD (gx X C) W (mm ma mb)) :=
  dN (pe_join ha hb hs hbase hline) fun σ H Q ⟨B, F, env, h⟩ => (h.bind (Ra := RD (gx X C)) (as := []) (xs := []) rfl).imp fun v H1 ⟨F1, env1, d, h, _, rd⟩ => by
    cases d with
    | str s =>
      cases (show _ = _ from rd)
      refine ⟨⟨s, rfl⟩, (h.bind (Ra := RD (gx X C)) (as := []) (xs := []) rfl).imp fun v2 H2 ⟨F2, env2, d2, h, _, rd2⟩ => ?_⟩
      cases d2 with
      | lst ds =>
        obtain ⟨q, vs, e2, hF, h1, h2⟩ := rd2
        subst e2
        have h : Pt (gx X C) W (RD (gx X C)) σ H2 Q (match strsOf ds with
          | some ys => fV ((ys.map (·.length)).sum + ys.length * s.length ≤ 16777216) (ret (.str (Txt.join s ys)))
          | none => fail) B F2 env2 := h
        cases z : strsOf ds with
        | none => rw [z] at h; exact h.no.elim
        | some ys =>
          rw [z] at h
          obtain ⟨sz, hh⟩ := h.asked
          have e3 := qD z
          subst e3
          have e4 := kK h2
          subst e4
          exact ⟨s, q, ys, rfl, rfl, .inl (SqL.of h1), sz, hh.pure (b := V.str (Txt.join s ys)) rfl⟩
      | _ => exact (Pt.no h).elim
    | _ => exact (Pt.no h).elim
theorem yr (hk : HallK X.K C) (hfm : PySem.W.findIn X.K (.ref C) "__format__" = some (some (.builtin "object.__format__"))) (Fn : FnG X.prog X.w X.K X.mg X.base k f fd ps (h8 (gx X C) 1 df)) (hr : Room (k + 2) X.A) (hG : X.A.guards = some []) (tk : DLz.Takes X W) (hm : Meth X.K C "__str__" f) (hb : Binds X.K fd ps []) (hn : 1 = ps.length)
    (he : PE X o (tD (gx X C) W md)) : PE X (.FormattedValue o (-1) none pos) (tD (gx X C) W (aq (aq md (aJ df)) strR)) := by
  refine ⟨fun pins s σ H Q I h => ?_⟩
  refine wpAny_FormattedValue_plain (thn (he.run pins s σ H _ I (dQ (Ra := RD (gx X C)) h)) fun u s1 ⟨v, H1, I1, ru, B, F, env, d, q, rd⟩ => ?_)
  cases d with
  | hall g sp =>
    obtain ⟨a, dx, ea, hF, h1⟩ := id rd
    subst ea
    obtain rfl : u = Value.ref a := ru
    obtain ⟨mA, O, _⟩ := ins_get I1.hok h1
    obtain ⟨od, J, _⟩ := O.look
    have q : Pt (gx X C) W (RD (gx X C)) σ H1 Q (aq (callD df [.hall g sp]) strR) B F env := q
    have I2 : Inv X pins σ H1 { s1 with toks := s1.toks + 1 } := I1.tok _
    refine PySem.W.kfo_fieldS (by have := hr.un; show X.A.units + 1 < _; omega) I1.kIn J hfm hk.hm hm.at_ hm.fn ?_
    have hb' := hb { s1 with toks := s1.toks + 1 } [.ref a] I2.kIn (by rw [List.append_nil]; exact hn)
    rw [List.append_nil] at hb'
    have pc := (q.bindP (Ra := qt (gx X C)) (as := []) (xs := []) rfl).imp fun v H2 ⟨F2, env2, r2, p2, _, rr2⟩ => p2.strR rr2
    have e1 : Env0 X.prog X.w X.K X.mg X.base X.A.in1 X.stack { s1 with toks := s1.toks + 1 } H1 := let e := I2.env0; ⟨e.frames, e.mod, e.bs, e.bsz, e.funs, e.frf, e.hok, e.bare⟩
    refine wpAny_call (codeAny_mono (Fn.run X.A.in1 X.stack { s1 with toks := s1.toks + 1 } H1 ⟨[.ref a], []⟩ [.ref a] [.ref a] _ (WE W σ) (hr.mono (Nat.le_succ _)).in1 hG e1 hb' (.cons rfl .nil) (Pt.callD (vs := [.ref a]) pc ⟨_, [], rfl, rd, rfl⟩ rfl)) fun rr s' hq => ?_)
    match rr, hq with
    | .error ex, hq => exact DLz.passAt tk σ pins H1 _ ex s' I2 hq
    | .ok (.ret w), hq =>
      obtain ⟨v, H2, I3, rv, y, ev, qq⟩ := I2.after hq
      subst ev
      obtain ⟨t, rfl⟩ := rv
      exact ⟨.str y, H2, I3, ⟨t, rfl⟩, qq⟩
    | .ok .next, hq => exact (show False from hq).elim
    | .ok .brk, hq => exact (show False from hq).elim
    | .ok .cont, hq => exact (show False from hq).elim
  | _ => exact (Pt.unknown (k := strR) q).elim
end
end
section
variable [Tbs]
section
variable {chk : List (PySem.W.Frag → Bool)} {fn : List He.FnD} {ts : List sG} {K : PySem.W.Frag} {w : World}
theorem SaysKT.tab (c : SaysKT chk fn ts w K) (i : Nat) {t : sG} (h : ts[i]? = some t := by rfl) : He.dicW K (tabAt K t.1) = some (He.keysIn w.params t.2) := by
  have e : ts.map (fun t => He.dicW K (tabAt K t.1)) = ts.map fun t => some (He.keysIn w.params t.2) := congrArg (fun z : wB => z.2) c
  have e2 : (ts.map fun t => He.dicW K (tabAt K t.1))[i]? = (ts.map fun t => some (He.keysIn w.params t.2))[i]? := by rw [e]
  rw [List.getElem?_map, List.getElem?_map, h] at e2
  exact Option.some.inj e2
end
end
section
end
section
theorem uU {K : PySem.W.Frag} {x y : Str} (h : xn K x y = true) : ∃ t, PySem.W.nsIn K mainGlobals x = some (some (.str y t)) := by
  unfold xn at h
  split at h
  · rename_i z t e
    have ej : z = y := of_decide_eq_true h
    subst ej
    exact ⟨t, e⟩
  · cases h
end
section
end
section
end
section
variable [Tbs]
/-- [elt for tg in items], the element may raise -/
def yA (items : M (List D)) (tg : D → M Unit) (vs : List Nat) (elt : M D) : M O := fun env Q E =>
  items env (fun ds env1 => hZ tg vs (ret true) elt ds [] env1 (fun acc env2 => Q (.lst acc) (aO env1 env2 vs)) fun x env2 => E x (aO env1 env2 vs)) E
theorem am (items : M (List D)) (tg : D → M Unit) (vs : List Nat) (elt : M D) (env : List Slot) (Q : O → List Slot → Prop) (E : Exn → List Slot → Prop) : yA items tg vs elt env Q E = items env (fun ds env1 => hZ tg vs (ret true) elt ds [] env1 (fun acc env2 => Q (.lst acc) (aO env1 env2 vs)) fun x env2 => E x (aO env1 env2 vs)) E := rfl
end
section
end
section
variable [Tbs]
theorem HdA.fresh {A : Around} {H : Hp} {p : Addr} {o : HO} (h : HdA A H) (hp : H p = none) : HdA A (upd H p o) := by
  have kp : ∀ b o' , H b = some o' → upd H p o b = some o' := fun b o' e => by rw [upd_ne (ne_of_none e hp)]; exact e
  obtain ⟨a, cls, d, hh, oe, vs, c, e, e1, e2, e3, e4, ch⟩ := h
  exact ⟨a, cls, d, hh, oe, vs, c, kp _ _ e, e1, e2, e3, e4, ch.mono fun b o' u e => kp _ _ e⟩
theorem HdA.make {A : Around} {H : Hp} (h : HdA A H) (C : Addr) (us : List Value) (kw : List (Str × Value)) : HdA (A.under (.builtin "type.__call__" ⟨.ref C :: us, kw⟩)) H := h
theorem RoomX.make {k : Nat} {A : Around} (r : RoomX (k + 1) A) (C : Addr) (us : List Value) (kw : List (Str × Value)) : RoomX k (A.under (.builtin "type.__call__" ⟨.ref C :: us, kw⟩)) := by
  have q := Room.make (k := k) (A := { A with handled := none }) ⟨rfl, r.dp, r.un⟩ C us kw
  exact ⟨q.dp, q.un⟩
end
section
end
section
end
section
end
section
end
section
end
section
end
section
variable [Tbs]
end
section
end
end DL
namespace HE
open PySem PySem.SeqAt
section
open MeetsSeq MeetsSeq2 MeetsSeq3 SeqRoads2
end
end HE
namespace DL
open PySem PySem.Spec PyProof.Rows L2 HE
section
end
end DL
namespace DL
open PySem PySem.Spec PyProof.Rows L2
section
end
section
end
section
end
section
end
section
end
section
end
section
end
section
end
section
end
section
end
section
variable [Tbs]
section
variable {prog : Program} {w : World} {A : Around} {R : Result → Shared → Prop} {s : Shared} {kx vx ta ia tb ib : Expr} {fa fb : List Expr} {sc : Scope} {pos : Pos} {it acc : Value} {D : Addr} {env : Env}
abbrev zy (kx vx ta ia tb ib : Expr) (fa fb : List Expr) (sc : Scope) (pos : Pos) : Expr := .DictComp kx vx [⟨ta, ia, fa, 0⟩, ⟨tb, ib, fb, 0⟩] sc pos
end
end
section
end
section
end
section
end
section
end
section
end
section
end
section
end
section
end
section
variable [Tbs]
end
section
end
section
end
section
variable [Tbs]
def b7 (i : Nat) (d y : D) : M Fl := match d, y with
  | .int a, .int b => fV (CMul a b) (aq (setI i (.int (a * b))) fun _ => ret .nx)
  | _, _ => fail
end
section
end
section
end
section
end
section
variable [Tbs]
theorem Ps.getO {G : Gx} {W : WX} {B F : Addr → Prop} {σ : L2.St} {H : Hp} {env : List Slot} {Z : Ends} {i : Nat} {k : O → M Fl} (h : Ps G W (aq (DL.getO i) k) Z σ H B F env) : ∃ a o, σ[i]? = some (some (.ref a)) ∧ OwAt G F H a o ∧ OwnR env σ i a ∧ Ps G W (k o) Z σ H B F env := by
  obtain ⟨Qd, Ed, rel, hm, h1, h2, h3, h4, h5⟩ := h
  obtain ⟨o, ho, hm⟩ := kE (Q := fun o env' => k o env' Qd Ed) (E := Ed) hm
  obtain ⟨a, e1, _, _, e2, e3⟩ := rel.owned ho
  exact ⟨a, o, e1, e2, e3, Qd, Ed, rel, hm, h1, h2, h3, h4, h5⟩
theorem Ps.unknown {G : Gx} {W : WX} {B F : Addr → Prop} {σ : L2.St} {H : Hp} {env : List Slot} {Z : Ends} (h : Ps G W (DL.fail : M Fl) Z σ H B F env) : False := by
  obtain ⟨Qd, Ed, rel, hm, _⟩ := h
  exact hm
theorem Ps.asked {G : Gx} {W : WX} {B F : Addr → Prop} {σ : L2.St} {H : Hp} {env : List Slot} {Z : Ends} {P : Prop} {m : M Fl} (h : Ps G W (DL.fV P m) Z σ H B F env) : P ∧ Ps G W m Z σ H B F env := by
  obtain ⟨Qd, Ed, rel, hm, h⟩ := h
  exact ⟨hm.1, Qd, Ed, rel, hm.2, h⟩
theorem Ps.olist {G : Gx} {W : WX} {B F : Addr → Prop} {σ : L2.St} {H : Hp} {env : List Slot} {Z : Ends} {i : Nat} {k : List D → M Fl} (h : Ps G W (aq (DL.olist i) k) Z σ H B F env) : ∃ a ds vs, σ[i]? = some (some (.ref a)) ∧ H a = some (.lst vs) ∧ RpL G F H ds vs ∧ OwnR env σ i a ∧ Ps G W (k ds) Z σ H B F env := by
  have h : Ps G W (aq (DL.getO i) fun o => aq (fE o) k) Z σ H B F env := h
  obtain ⟨a, o, e1, e2, e3, p⟩ := h.getO
  cases o with
  | lst ds => obtain ⟨vs, h1, h2⟩ := e2; exact ⟨a, ds, vs, e1, h1, h2, e3, p⟩
  | _ => exact (Ps.unknown (show Ps G W (DL.fail : M Fl) Z σ H B F env from p)).elim
theorem Ps.putL {G : Gx} {W : WX} {B F : Addr → Prop} {σ : L2.St} {H : Hp} {env : List Slot} {Z : Ends} {i : Nat} {a : Addr} {ds ds' : List D} {vs vs' : List V} (h : Ps G W (aq (DL.putO i (.lst ds')) fun _ => ret .nx) Z σ H B F env) (own : OwnR env σ i a) (hv : H a = some (.lst vs)) (rv : RpL G F H ds vs) (r : RpL G F H ds' vs') : Z.nx σ (upd H a (.lst vs')) := by
  obtain ⟨Qd, Ed, rel, hm, h1, _⟩ := h
  have hw : OwAt G F H a (.lst ds) := ⟨vs, hv, rv⟩
  obtain ⟨st, rel'⟩ := rel.put own hw (qJ (o := .lst ds) rel own hw r)
  exact h1 _ _ F _ (mT (Q := fun _ env' => Qd .nx env') hm) st rel'
end
section
end
section
end
section
end
section
end
section
end
section
variable [Tbs]
def yz (p : Ky × List (List D)) : D := match p.1 with
  | .k l => .dct l (p.2.map .lst)
  | .n l => .dcn l (p.2.map .lst)
section
variable {w : World} {G : Gx} {W : WX} {B B' F F' : Addr → Prop} {H H' : Hp} {σ : L2.St} {env : List Slot} {d : Addr} {bs : List Addr} {ks : Ky} {dss : List (List D)}
theorem RegD.nt (r : RegD w F H d bs ks) : Nt H d := by
  cases ks with
  | k l => exact Nt.of r.2
  | n l => obtain ⟨o, m, e, _⟩ := r; exact Nt.of e
theorem Reg.nt (r : Reg w G B F H d bs ks dss) : ∀ a ∈ d :: bs, Nt H a := fun a h => by
  rcases List.mem_cons.mp h with e | h
  · subst e; exact r.dict.nt
  · obtain ⟨n, hn, e⟩ := List.mem_iff_getElem.mp h
    obtain ⟨vs, h1, _⟩ := r.kids n a (by rw [List.getElem?_eq_getElem hn, e])
    exact Nt.of h1
theorem Stp.lessG {B1 B2 : Addr → Prop} (s : Stp B1 F H F' H') (h : ∀ a, B2 a → B1 a) : Stp B2 F H F' H' := ⟨s.fm, fun a z => (s.fn a z).imp id fun q z => q (h a z), fun a o z => s.hk0 a o (z.imp (h a) id), s.ht, s.tb, s.fz⟩
theorem Rel.reB {B1 B2 : Addr → Prop} (rel : Rel G B1 F σ env H) (h : ∀ a, B2 a → Nt H a) (ho : ∀ i a, dM env σ i a → ¬ B2 a) : Rel G B2 F σ env H := by
  refine ⟨rel.len, fun i s e => ?_, rel.ap, h, rel.hF, rel.tb⟩
  have q := rel.sl i s e
  cases s with
  | no => trivial
  | im d => exact q
  | ow o =>
    obtain ⟨a, h1, h2, h3, h4⟩ := q
    exact ⟨a, h1, h2, ho i a (.inl ⟨⟨_, e, rfl⟩, h1⟩), h4⟩
  | io a o =>
    obtain ⟨h1, h2, h3, h4⟩ := q
    exact ⟨h1, h2, ho i a (.inl ⟨⟨_, e, rfl⟩, h1⟩), h4⟩
  | tr r ns =>
    obtain ⟨h1, t⟩ := q
    exact ⟨h1, t.root, t.nd, fun p hp => ⟨(t.at_ p hp).1, ho i p.1 (.inr ⟨r, ns, e, List.mem_map.mpr ⟨p, hp, rfl⟩⟩), (t.at_ p hp).2.2⟩⟩
theorem Rel.lessG {B1 B2 : Addr → Prop} (rel : Rel G B1 F σ env H) (h : ∀ a, B2 a → B1 a) : Rel G B2 F σ env H := rel.reB (fun a z => rel.hB a (h a z)) fun i a o z => (rel.ownSome o).2.2 (h a z)
theorem wi {a : Addr} {l : List (Key × V)} (e1 : H a = some (.dK l)) : ((∀ vs, ¬ Rd H a (.tup vs)) ∧ ∀ o v, H a ≠ some (.frz o v)) ∧ (∀ ps, H a ≠ some (.tbl ps)) ∧ ∀ q, H a ≠ some (LamX.CodeO a q) :=
  ⟨⟨fun vs z => (by rcases z with z | ⟨o, z⟩ <;> (rw [e1] at z; cases z)), fun o v z => (by rw [e1] at z; cases z)⟩, fun ps z => (by rw [e1] at z; cases z), fun q z => (by rw [e1] at z; cases z)⟩
theorem qQ : ∀ {bs : List Addr} {dss : List (List D)}, bs.length = dss.length → (∀ (n : Nat) b, bs[n]? = some b → F b ∧ ∃ vs, H b = some (.lst vs) ∧ RpL G F H (dss.getD n []) vs) → RpL G F H (dss.map .lst) (bs.map .ref)
  | [], [], _, _ => rfl
  | [], _ :: _, h, _ => nomatch h
  | _ :: _, [], h, _ => nomatch h
  | b :: bs, ds :: dss, h, k => by
    obtain ⟨hF, vs, h1, h2⟩ := k 0 b rfl
    exact ⟨.ref b, bs.map .ref, rfl, ⟨b, vs, rfl, hF, h1, h2⟩, qQ (by simpa using h) fun n c e => k (n + 1) c e⟩
end
section
variable {w : World} {G : Gx} {B F : Addr → Prop} {H : Hp} {σ : L2.St} {env : List Slot} {d : Addr} {bs : List Addr} {ks : Ky} {dss : List (List D)} {i : Nat}
/-- the dict and its lists are data from here on -/
theorem Reg.done (hw : w = G.w) (r : Reg w G B F H d bs ks dss) (rel : Rel G (BR B d bs) F σ env H) (hσ : σ[i]? = some (some (.ref d))) {P : Hp → Prop}
    (h : ∀ F' H', Stp B F H F' H' → Rel G B F' σ (env.set i (.im (yz (ks, dss)))) H' → P H') : P H ∨ ∃ d u, H d = some u ∧ Mut (some u) ∧ ∀ od, P (upd H d (.frz od u)) := by
  have s2 : ∀ H' : Hp, Stp B F H' (fun a => F a ∨ a ∈ d :: bs) H' := fun H' => ⟨fun _ z => .inl z, fun a z => z.imp id fun z => (r.fr a z).2, fun _ _ _ e _ => e, fun _ _ z => z, fun t => t.ext (fun _ z => .inl z) fun _ _ z => z, fun _ _ _ z => z⟩
  have r1 : Rel G B F σ env H := rel.lessG fun _ => .inl
  have own : ∀ i a, dM env σ i a → a ∉ d :: bs := fun i a h z => (rel.ownSome h).2.2 (.inr z)
  have fin : ∀ (H' : Hp), Stp B F H F H' → (∀ a, a ≠ d → H' a = H a) → Nt H' d → Rp G (fun a => F a ∨ a ∈ d :: bs) H' (yz (ks, dss)) (.ref d) → Stp B F H (fun a => F a ∨ a ∈ d :: bs) H' ∧ Rel G B (fun a => F a ∨ a ∈ d :: bs) σ (env.set i (.im (yz (ks, dss)))) H' := fun H' st e nt rp => by
    refine ⟨st.trans (s2 H'), ?_⟩
    have rl : Rel G B (fun a => F a ∨ a ∈ d :: bs) σ env H' := r1.step (st.trans (s2 H')) (fun j a o => ⟨e a fun z => own j a o (by rw [z]; exact List.mem_cons_self ..), fun z => z.elim (r1.ownSome o).2.1 (own j a o)⟩) fun a z => z.elim (fun z => st.hs a (.inr z) (r1.hF a z)) fun z => by
      by_cases q : a = d
      · rw [q]; exact nt
      · have n := r.nt a z
        unfold Nt at n ⊢
        rw [e a q]; exact n
    have q := rl.setI (i := i) rp
    rwa [show σ.set i (some (.ref d)) = σ from by
      obtain ⟨l, e⟩ := List.getElem?_eq_some_iff.mp hσ
      rw [← e]; exact List.set_getElem_self l] at q
  have kd : ∀ (H' : Hp), Stp B F H F H' → (∀ a, a ≠ d → H' a = H a) → RpL G (fun a => F a ∨ a ∈ d :: bs) H' (dss.map .lst) (bs.map .ref) := fun H' st e => qQ r.len fun n b eb => by
    have mb := List.mem_of_getElem? eb
    obtain ⟨vs, h1, h2⟩ := r.kids n b eb
    exact ⟨.inr (List.mem_cons_of_mem _ mb), vs, by rw [e b fun z => (List.nodup_cons.mp r.nd).1 (z ▸ mb)]; exact h1, RpL.mono (st.trans (s2 H')) _ _ h2⟩
  have q := r.dict
  cases ks with
  | k l =>
    right
    obtain ⟨n, e1⟩ := q
    obtain ⟨s1, sb, sc⟩ := wi e1
    obtain ⟨nF, nB⟩ := r.fr d (List.mem_cons_self ..)
    refine ⟨d, _, e1, trivial, fun od => ?_⟩
    have st : Stp B F H F (upd H d (.frz od (.dK (l.zip (bs.map .ref))))) := jr nF nB s1 sb sc
    obtain ⟨f1, f2⟩ := fin _ st (fun a z => upd_ne z) (Nt.of upd_same (by intro _ z; cases z)) ⟨d, bs.map .ref, rfl, .inr (List.mem_cons_self ..), by rw [List.length_map]; exact n.symm, ⟨od, upd_same⟩, kd _ st fun a z => upd_ne z⟩
    exact h _ _ f1 f2
  | n l =>
    left
    obtain ⟨o, m, e, n, kr, em, ev⟩ := q
    obtain ⟨f1, f2⟩ := fin H Stp.refl (fun _ _ => rfl) (Nt.of e) ⟨d, o, m, rfl, .inr (List.mem_cons_self ..), e, by rw [← hw]; exact n, em, kr.mono (s2 H), by rw [ev]; exact kd H Stp.refl fun _ _ => rfl⟩
    exact h _ _ f1 f2
end
end
section
variable [Tbs]
abbrev bI (b : Array UInt8) : List Int := PySem.W.KBw.bInts b
def sU (ma mb : M D) : M D := aq ma fun a => aq mb fun b => match a, b with
  | .int i, .int j => fV (RgOk i j) (ret (.tup (eS i j)))
  | _, _ => fail
section
variable {X : Cx} {C : Addr} {W : WX} {a b o e : Expr} {ma mb : M D} {p p2 apos pos : Pos}
theorem yl (calm : X.calm = true) (hg : Gl X "tuple") (hm : X.mg "tuple" = none) (hg2 : Gl X "range") (hm2 : X.mg "range" = none) (ha : PE X a (tD (gx X C) W ma)) (hb : PE X b (tD (gx X C) W mb)) (na : starEach [a, b] X.env = (false, eval a X.env) :: starEach [b] X.env := by rfl)
    (nb : starEach [b] X.env = (false, eval b X.env) :: starEach [] X.env := by rfl) (hp : (backTo apos (starEach [b] X.env)).any (·.1) = false := by rfl)
    (na2 : starEach [.Call (.Name "range" p2) [a, b] [] apos] X.env = (false, eval (.Call (.Name "range" p2) [a, b] [] apos) X.env) :: starEach [] X.env := by rfl) : PE X (.Call (.Name "tuple" p) [.Call (.Name "range" p2) [a, b] [] apos] [] pos) (tD (gx X C) W (sU ma mb)) :=
  dN (DLt.pf_tupRg calm hg hm (prg_2 hg2 hm2 ha hb na nb hp) na2) fun σ H Q h => (lZ (k := fun a b => match a, b with
    | .int i, .int j => fV (RgOk i j) (ret (D.tup (eS i j)))
    | _, _ => fail) h).imp fun x H1 h1 => h1.imp fun y H2 ⟨B, F, env, d, e, q, r1, r2⟩ => by
    cases d with
    | int i =>
      cases e with
      | int j => exact ⟨i, j, r1, r2, (Pt.asked q).1, (Pt.asked q).2.tup (td i j)⟩
      | _ => exact (Pt.no q).elim
    | _ => exact (Pt.no q).elim
def tJ (a b : D) : M D := match a, b with
  | .str s, .str t => fV ((t.length == 0) = false ∧ s.length ≤ sizeLine) (ret (.pr [.str (Txt.partition s t).1, .str (Txt.partition s t).2.1, .str (Txt.partition s t).2.2]))
  | _, _ => fail
def vd (ma mb : M D) : M D := aq ma fun a => match a with
  | .str _ => aq mb (tJ a)
  | _ => fail
theorem kW (ha : PE X o (tD (gx X C) W ma)) (hb : PE X e (tD (gx X C) W mb)) (hs : starEach [e] X.env = [(false, eval e X.env)] := by rfl) (hbase : attributeBase o "partition" X.env (eval o X.env) = eval o X.env := by rfl) (hline : (apos.endLine == pos.line) = true := by rfl) :
    PE X (.Call (.Attribute o "partition" apos) [e] [] pos) (tD (gx X C) W (vd ma mb)) :=
  dN (pe_partition ha hb hs hbase hline) fun σ H Q ⟨B, F, env, h⟩ => (h.bind (Ra := RD (gx X C)) (as := []) (xs := []) rfl).imp fun v H1 ⟨F1, env1, d, h, _, rd⟩ => by
    cases d with
    | str s =>
      cases (show _ = _ from rd)
      refine ⟨⟨s, rfl⟩, (h.bind (Ra := RD (gx X C)) (as := []) (xs := []) rfl).imp fun v2 H2 ⟨F2, env2, d2, h, _, rd2⟩ => ?_⟩
      cases d2 with
      | str t =>
        cases (show _ = _ from rd2)
        obtain ⟨⟨h1, h2⟩, h⟩ := Pt.asked h
        exact ⟨s, t, rfl, rfl, h1, h2, fun q hq => Pt.pr h (lO [(Txt.partition s t).1, (Txt.partition s t).2.1, (Txt.partition s t).2.2]) hq⟩
      | _ => exact (Pt.no h).elim
    | _ => exact (Pt.no h).elim
end
def nk : D → M D
  | .str s => match PySem.intText? s with
    | some n => fV (s.length ≤ 640) (ret (.int n))
    | none => fail
  | _ => fail
theorem sr {G : Gx} {W : WX} : FitsC G W (fun xs H Q => ∃ a n, xs = [.str a] ∧ PySem.intText? a = some n ∧ a.length ≤ 640 ∧ Q (.int n) H) (dX nk) := iI fun {σ H Q B F env x d} p r => by
  cases d with
  | str s =>
    cases (show _ = _ from r)
    cases z : PySem.intText? s with
    | none => simp only [nk, z] at p; exact (Pt.no p).elim
    | some n =>
      simp only [nk, z] at p
      exact ⟨s, n, rfl, z, (Pt.asked p).1, (Pt.asked p).2.pure (b := .int _) rfl⟩
  | _ => exact (Pt.no p).elim
def nz : D → M D
  | .lst ds => match intsOf ds with
    | some ns => fV (B8 ns) (ret (.byt (byteArr ns)))
    | none => fail
  | _ => fail
theorem sx {G : Gx} {W : WX} : FitsC G W (fun xs H Q => ∃ p ns, xs = [.ref p] ∧ SqL G.K H p (ns.map V.int) ∧ B8 ns ∧ Q (.byt (byteArr ns)) H) (dX nz) := iI fun {σ H Q B F env x d} p r => by
  cases d with
  | lst ds =>
    cases z : intsOf ds with
    | none => simp only [nz, z] at p; exact (Pt.no p).elim
    | some ns =>
      simp only [nz, z] at p
      have e := jx z
      subst e
      obtain ⟨a, vs, e, hF, h1, h2⟩ := r
      subst e
      have evs := RpL.ints.mp h2
      subst evs
      exact ⟨a, ns, rfl, SqL.of h1, (Pt.asked p).1, (Pt.asked p).2.pure (b := .byt _) rfl⟩
  | _ => exact (Pt.no p).elim
def nV : D → M D
  | .byt b => fV (b.size ≤ sizeLine) (ret (.lst ((bI b).map .int)))
  | _ => fail
theorem uJ {X : Cx} (hc : X.calm = true) : CallR X (.type "list") (r1 kLstB) := call_r1 (rl_listB hc)
theorem qj {G : Gx} {W : WX} : FitsC G W (r1 kLstB) (dX nV) := iI fun {σ H Q B F env x d} p r => by
  cases d with
  | byt b =>
    cases (show _ = _ from r)
    exact ⟨b, rfl, (Pt.asked p).1, fun q hq => Pt.lst (Pt.asked p).2 (RpL.ints.mpr rfl) hq⟩
  | _ => exact (Pt.no p).elim
def qP : D → M D
  | .byt b => fV (b.size ≤ 16777216) (ret (.int ((bI b).length : Nat)))
  | _ => fail
theorem wt {X : Cx} : CallR X (.builtin "len") (fun xs H Q => ∃ b, xs = [.byt b] ∧ b.size ≤ 16777216 ∧ Q (.int ((bI b).length : Nat)) H) := by
  intro pins s σ H xs us Q I r h
  obtain ⟨b, rfl, hz, q⟩ := h
  obtain ⟨u, rfl, t, rfl⟩ := vals1 r
  exact PySem.W.KBw.len_K rfl (by rw [PySem.W.KBw.ints_length]; omega) ⟨.int _, H, (I.tok _).tok _, ⟨_, rfl⟩, q⟩
theorem sj {G : Gx} {W : WX} : FitsC G W (fun xs H Q => ∃ b, xs = [.byt b] ∧ b.size ≤ 16777216 ∧ Q (.int ((bI b).length : Nat)) H) (dX qP) := iI fun {σ H Q B F env x d} p r => by
  cases d with
  | byt b => cases (show _ = _ from r); exact ⟨b, rfl, (Pt.asked p).1, (Pt.asked p).2.pure (b := .int _) rfl⟩
  | _ => exact (Pt.no p).elim
theorem sV {prog : Program} {w : World} {A : Around} {E : Value → Shared → Prop} {s : Shared} {b : Array UInt8} {t : Tok} {Q : Value → Shared → Prop} (hh : A.handled = none) (hz : b.size ≤ 16777216)
    (h : ∀ h' tk t', (∀ a o, s.heap.get? a = some o → h'.get? a = some o) → Q (.int (bI b).sum t') { s with heap := h', toks := tk }) : wpAny (model prog w) A (call (.builtin "sum") [.bytes b t]) Q E s := by
  have hin : ∀ k ∈ bI b, 0 ≤ k ∧ k < 256 := fun k hk => PySem.W.KBw.ints_in hk
  refine call_sum_walk (PySem.W.KBw.pyIter_bytes ?_)
  refine ⟨s.heap.objs.size, [s.heap.objs.size], [s.heap.objs.size], b.size, _, _, fun j => (bI b).getD j 0, rfl, PySem.W.KBw.walks (A := A.in1) hh s.heap.objs.size b t, ⟨_, Heap.get?_push_size _ rfl, rfl, rfl⟩, ?_, ?_, ?_, ?_⟩
  · intro a ha
    rw [List.mem_singleton.mp ha]
    exact Heap.lt_size (Heap.get?_push_size _ rfl)
  · rintro i v ⟨c, u, hc, rfl⟩
    have e := PySem.W.KBw.ints_get hc
    refine ⟨u, ?_⟩
    show Value.int (c.toNat : Int) u = Value.int ((bI b).getD i 0) u
    rw [List.getD_eq_getElem?_getD, e]
    rfl
  · intro j hj
    have hj' : j + 1 ≤ (bI b).length := by rw [PySem.W.KBw.ints_length]; exact hj
    have h1 := PySem.W.KBw.getD_in (ks := bI b) (j := j) hin
    have h2 := PySem.W.KBmo.pre_take (bI b) (j + 1) hj'
    have h3 := PySem.W.KBmo.sum_bound (ks := (bI b).take (j + 1)) fun k hk => hin k (List.mem_of_mem_take hk)
    have h4 : ((bI b).take (j + 1)).length ≤ (bI b).length := by rw [List.length_take]; exact Nat.min_le_right _ _
    have h5 : (bI b).length = b.size := PySem.W.KBw.ints_length b
    unfold InLong
    rw [h2]
    refine ⟨⟨?_, ?_⟩, ?_, ?_⟩ <;> (try dsimp only) <;> omega
  · intro h' tk t' hk'
    have e : preSum (fun j => (bI b).getD j 0) b.size = (bI b).sum := by
      rw [← PySem.W.KBw.ints_length b, PySem.W.KBmo.pre_take _ _ (Nat.le_refl _), List.take_length]
    rw [e]
    have keep : ∀ a o, s.heap.get? a = some o → h'.get? a = some o := fun a o ha => hk' a o (fun hm => absurd (Heap.lt_size ha) (by rw [List.mem_singleton.mp hm]; exact Nat.lt_irrefl _)) (Heap.get?_push_of_some _ ha)
    exact h h' tk t' keep
def wL : List V → Hp → VK → Prop := fun xs H Q => ∃ b, xs = [.byt b] ∧ b.size ≤ 16777216 ∧ Q (.int (bI b).sum) H
theorem wq {X : Cx} (hc : X.calm = true) : CallR X (.builtin "sum") wL := by
  intro pins s σ H xs us Q I r h
  obtain ⟨b, rfl, hz, q⟩ := h
  obtain ⟨u, rfl, t, rfl⟩ := vals1 r
  exact sV (I.ok.hd hc) hz fun h' tk t' hk => ⟨.int _, H, I.kept hk, ⟨_, rfl⟩, q⟩
def qC : D → M D
  | .byt b => fV (b.size ≤ 16777216) (ret (.int (bI b).sum))
  | _ => fail
theorem rX {G : Gx} {W : WX} : FitsC G W wL (dX qC) := iI fun {σ H Q B F env x d} p r => by
  cases d with
  | byt b => cases (show _ = _ from r); exact ⟨b, rfl, (Pt.asked p).1, (Pt.asked p).2.pure (b := .int _) rfl⟩
  | _ => exact (Pt.no p).elim
theorem rD : PySem.Slot "bytes" "__repr__" "bytes.__repr__" :=
  .of (owner := "bytes") (n := "__repr__") (by rw [typeLookup_type, builtinLookup_eq_fast]; kernel_rfl) (by decide +kernel) (by decide +kernel) (by decide +kernel)
    (by first | exact .inl (by decide +kernel) | exact .inr (by decide +kernel)) (by rw [isSubtype_type]; kernel_rfl)
theorem qk : entryFor table "bytes.__repr__" = some Builtin.«bytes.__repr__» := entryFor_of_tree (by kernel_rfl)
theorem sE (a : Value) : argsOk "bytes.__repr__" ⟨[a], []⟩ := by unfold argsOk; kernel_rfl
theorem qg (b : Array UInt8) (t : Tok) (hz : b.size ≤ 1000) : Gives (Builtin.«bytes.__repr__» ⟨[.bytes b t], []⟩) (.str (Builtin.Bytes.literal b)) := by
  have e : Builtin.Bytes.tooLong (4 * b.size + 3 + 0) = false := by
    unfold Builtin.Bytes.tooLong
    simp only [decide_eq_false_iff_not]
    rw [sizeLine_eq]
    omega
  unfold Builtin.«bytes.__repr__»
  show Gives (do let x ← Builtin.Bytes.literalAsked b; retStr x) _
  unfold Builtin.Bytes.literalAsked
  rw [e]
  exact .of_eq rfl
end
section
variable [Tbs]
section
variable {P : Program} {w : World} {A : Around} {R : Value → Shared → Prop} {b : Array UInt8} {t : Tok}
theorem uc : typeLookup (.type "bytes_iterator") "__len__" = pure none := by rw [typeLookup_type, builtinLookup_eq_fast]; kernel_rfl
theorem vN : typeLookup (.type "bytes_iterator") "__length_hint__" = pure (some (.builtin "bytes_iterator.__length_hint__")) := by rw [typeLookup_type, builtinLookup_eq_fast]; kernel_rfl
theorem uL {E : Value → Shared → Prop} {s : Shared} {I : Addr} {fp wr : List Addr} {G : Array GenState → Array GenState → Prop} {n : Nat} {Z : Nat → Value → Prop} {St : Nat → Shared → Prop} {Q : List Value → Shared → Prop}
    (W : WalksS P w A.in1 I fp wr G n Z St) (hT : ∀ i s, St i s → s.TypeIs (.ref I) "bytes_iterator") (hst : St 0 s) (hfp : ∀ b ∈ fp, b < s.heap.objs.size) (hI : I ∈ fp)
    (hQ : ∀ s' acc, Moved wr G s s' → ItemsOf Z acc n → Q acc.toList s') (hn : n ≤ sizeLine) : wpAny (model P w) A (collect (.ref I)) Q E s := by
  have hSf : s.heap.objs.size ∉ fp := fun hm => Nat.lt_irrefl _ (hfp _ hm)
  have hSI : s.heap.objs.size ≠ I := fun e => hSf (e ▸ hI)
  unfold collect
  refine wpAny_bind (wpAny_runValue (codeAny_builtin PySem.F.entry_proto_collect ?_))
  rw [Around.under_plainId PySem.F.plain_proto_collect _]
  show wpAny _ A.in1 (newList [] >>= fun l => again (.builtin "list.__iadd__" ⟨[l, .ref I], []⟩)) _ _ s
  refine wpAny_bind (wpAny_newObj_type ?_)
  refine wpAny_pure ⟨plainId_quiet PySem.F.plain_list_iadd _, codeAny_builtin PySem.F.entry_list_iadd ?_⟩
  rw [Around.under_plainId PySem.F.plain_list_iadd _]
  have hst₁ := W.frame 0 s (s.heap.push { cls := .type "list", data := .seq ([] : List Value).toArray }) s.toks hst (Nat.le_refl _) fun b _ o e => Heap.get?_push_of_some _ e
  have hS₁ : (s.heap.push { cls := .type "list", data := .seq ([] : List Value).toArray }).get? s.heap.objs.size = some { cls := .type "list", data := .seq ([] : List Value).toArray } := Heap.get?_push_size _ rfl
  have h1 : Builtin.List.listSameRef (.ref s.heap.objs.size) (.ref I) = false := by simp [Builtin.List.listSameRef, hSI]
  show wpAny _ A.in1 (Builtin.List.listExtendWith (.ref s.heap.objs.size) (.ref I) (.ref s.heap.objs.size)) _ _ _
  unfold Builtin.List.listExtendWith
  refine wpAny_bind (wpAny_typeOf (hT 0 _ hst₁) ?_)
  rw [if_neg (by rw [h1]; decide)]
  refine wpAny_bind (W.self 0 _ _ _ hst₁ ?_)
  refine wpAny_bind (wpAny_holding ?_)
  unfold Builtin.List.listLengthHint
  refine wpAny_bind (wpAny_specialOf (hT 0 _ hst₁) uc ?_)
  show wpAny _ A.in1 (specialOf (Value.ref I) (Str.ofString "__length_hint__") >>= _) _ _ _
  refine wpAny_bind (wpAny_specialOf (hT 0 _ hst₁) vN ?_)
  (generalize hid : ("bytes_iterator.__length_hint__" : String) = id0; (fail_if_success (clear hid id0)); wp_delta; rw [show splitId id0 = some ("bytes_iterator", "__length_hint__") from by subst hid; decide +kernel]; subst hid)
  refine wpAny_bind (wpAny_isInstance (b := true) (hT 0 _ hst₁) (by rw [isSubtype_type]; kernel_rfl) ?_)
  refine wpAny_pure ?_
  rw [if_neg (by decide)]
  refine wpAny_pure ⟨plainId_quiet PySem.F.plain_extend_loop _, codeAny_extend_loopS W hn _ hSf _ n 0 _ _ _ rfl (Nat.zero_le _) hst₁ hS₁ (ItemsOf.nil Z) fun s' acc' c' hm hS' hacc => ?_⟩
  show wpAny _ A (load s.heap.objs.size >>= _) _ _ s'
  refine wpAny_bind (wpAny_load hS' ?_)
  exact wpAny_pure (hQ s' acc' (Moved.drop_new (o := { cls := .type "list", data := .seq ([] : List Value).toArray }) (tk := s.toks) hm (Nat.le_refl _)) hacc)
theorem wu {I : Addr} (hh : A.handled = none) (k : Nat) (kl : k ≤ b.size) :
    Walks P w A I [I] [I] (b.size - k) (fun i v => ∃ c u, b[k + i]? = some c ∧ v = .int (c.toNat : Int) u) (fun i h => PySem.W.KBw.IsBytesIter h I b t (k + i)) where
  sub := fun _ hb => hb
  frame := fun _ _ _ st hk => let ⟨o, ho, r⟩ := st; ⟨o, hk I (by simp) o ho, r⟩
  item := fun i s Q E hi st hQ => by
    refine PySem.W.KBw.next_item st (c := b[k + i]) (by simp [show k + i < b.size by omega]) fun h' hit' hs' => ?_
    exact hQ _ h' (s.toks + 1) ⟨_, _, by simp [show k + i < b.size by omega], rfl⟩ (by rw [← Nat.add_assoc]; exact hit') fun b o hb e => hs'.extBut b o (fun h => hb (by simp [h])) e
  done := fun s Q E st hQ => PySem.W.KBw.next_end hh st (by simp; omega) fun h' he' => hQ h' s.toks fun b o hb e => he' b o (fun h => hb (by simp [h])) e
  self := fun _ _ _ _ st hQ => PySem.W.KBw.pyIter_self st hQ
theorem wy {i : Nat} (h : i < b.size) : (bI b).drop i = (b[i].toNat : Int) :: (bI b).drop (i + 1) := by
  have e : (bI b).length = b.size := PySem.W.KBw.ints_length b
  rw [List.drop_eq_getElem_cons (by omega)]
  congr 1
  have g := PySem.W.KBw.ints_get (b := b) (i := i) (c := b[i]) (by simp [h])
  obtain ⟨_, e2⟩ := List.getElem?_eq_some_iff.mp g
  exact e2
theorem yx {I : Addr} (m : Nat) : ∀ (k : Nat) (z : Shared) (Z : List Value → Shared → Prop), PySem.W.KBw.IsBytesIter z.heap I b t k → k + m ≤ b.size →
    (∀ g tk us, PySem.W.KBw.IsBytesIter g I b t (k + m) → Heap.SameBut I z.heap g → Vals ((((bI b).drop k).take m).map V.int) us → Z us { z with heap := g, toks := tk }) → wpAny (model P w) A (draw (.ref I) m) Z R z := by
  induction m with
  | zero =>
    intro k z Z a _ go
    show wpAny _ _ (pure []) Z R z
    refine wpAny_pure ?_
    exact go z.heap z.toks [] a (Heap.SameBut.refl ..) .nil
  | succ m ih =>
    intro k z Z a le go
    have kx : k < b.size := by omega
    show wpAny _ _ (pyNext (.ref I) >>= _) Z R z
    refine wpAny_bind (PySem.W.KBw.next_item a (c := b[k]) (by simp [kx]) fun g1 a1 s1 => ?_)
    refine wpAny_bind (wpAny_holding (ih (k + 1) _ _ a1 (by omega) fun g2 tk us a2 s2 r2 => wpAny_pure ?_))
    refine go g2 tk _ (by rw [show k + (m + 1) = k + 1 + m by omega]; exact a2) (s1.trans s2) ?_
    rw [wy kx, List.take_succ_cons, List.map_cons]
    exact .cons ⟨_, rfl⟩ r2
theorem yR {acc : Array Value} {k : Nat} (kl : k ≤ b.size) (h : ItemsOf (fun i v => ∃ c u, b[k + i]? = some c ∧ v = Value.int (c.toNat : Int) u) acc (b.size - k)) : Vals (((bI b).drop k).map V.int) acc.toList := by
  obtain ⟨hs, hi⟩ := h
  have e : (bI b).length = b.size := PySem.W.KBw.ints_length b
  refine vals_of_idx _ _ (by rw [List.length_map, List.length_drop, Array.length_toList, hs, e]) fun j u hj => ?_
  obtain ⟨c, u', hc, rfl⟩ := hi j u (by rw [← Array.getElem?_toList]; exact hj)
  refine ⟨.int (c.toNat : Int), ?_, ⟨_, rfl⟩⟩
  rw [List.getElem?_map, List.getElem?_drop, PySem.W.KBw.ints_get hc]
  rfl
theorem yO {z : Shared} {Z : List Value → Shared → Prop} {k : Nat} (hh : A.handled = none) (kl : k ≤ b.size) (sz : b.size ≤ sizeLine)
    (go : ∀ (h' : Heap) (tk : Nat) (us rs : List Value), (∀ c o, z.heap.get? c = some o → h'.get? c = some o) → Vals (((bI b).take k).map V.int) us → Vals (((bI b).drop k).map V.int) rs → Z (us ++ [.ref h'.objs.size]) { z with heap := h'.push { cls := .type "list", data := .seq rs.toArray }, toks := tk }) :
    wpAny (model P w) A (unpackItems (.bytes b t) (k + 1) (some k)) Z R z := by
  unfold unpackItems notIterableAtAll
  refine wpAny_bind (wpAny_bind (wpAny_specialOf (PySem.W.typeIs_bytes z b t) PySem.W.FB.slot_bytes_iter.lookup (wpAny_pure ?_)))
  simp only [Bool.false_eq_true, if_false]
  refine wpAny_bind (wpAny_holding (PySem.W.KBw.pyIter_bytes ?_))
  refine wpAny_bind (wpAny_holding (yx k 0 _ _ ⟨_, Heap.get?_push_size _ rfl, rfl, rfl⟩ (by omega) fun g1 tk1 us a1 s1 r1 => ?_))
  have lb : (bI b).length = b.size := PySem.W.KBw.ints_length b
  have ln : us.length = k := by
    rw [← r1.length, List.length_map, List.drop_zero, List.length_take, lb]; omega
  rw [if_neg (by rw [ln]; omega)]
  rw [Nat.zero_add] at a1
  refine wpAny_bind (wpAny_holding (uL (wu (A := A.in1) (I := z.heap.objs.size) (b := b) (t := t) hh k kl).toS (fun i s st => ?_) a1 (fun c hc => ?_) (by simp) (fun s' acc mv it => ?_) (by omega)))
  · exact PySem.W.KBw.iter_typeIs st
  · rw [List.mem_singleton.mp hc]; obtain ⟨o, h1, _⟩ := a1; exact Heap.lt_size h1
  have ea := yR kl it
  have la : acc.toList.length = b.size - k := by rw [Array.length_toList]; exact it.1
  rw [show k + 1 - 1 - k = 0 by omega, if_neg (by omega)]
  obtain ⟨h', gs', dr', tk', os'⟩ := s'
  obtain ⟨m1, m2, m3, m4, m5⟩ := mv
  simp only at m2 m3 m4
  rw [show acc.toList.length - 0 = acc.toList.length from rfl, List.take_length, List.drop_length]
  refine wpAny_bind (wpAny_newObj_type (wpAny_pure ?_) ?_)
  · subst m2 m3 m4
    rw [List.append_nil]
    rw [List.drop_zero] at r1
    refine go h' tk' us acc.toList (fun c o e => ?_) r1 ea
    have h1 : c ≠ z.heap.objs.size := Nat.ne_of_lt (Heap.lt_size e)
    exact m1 c o (by simp [h1]) ((s1.2 c h1).trans (Heap.get?_push_of_some _ e))
  · show acc.toList.toArray.size ≤ _
    rw [List.size_toArray, la]
    omega
end
end
section
variable [Tbs]
def yV : R2 := fun x y H Q => ∃ (b : Array UInt8) (i : Int), x = .byt b ∧ y = .int i ∧ b.size ≤ 16777216 ∧ -(b.size : Int) ≤ i ∧ i < (b.size : Int) ∧ Q (.int ((bI b).getD (if i < 0 then i + (b.size : Int) else i).toNat 0)) H
theorem yc {X : Cx} : IxR X yV := by
  intro value slice pins s σ H x y v u Q I rx ry h hs
  obtain ⟨b, i, rfl, rfl, hz, h0, h1, q⟩ := h
  obtain ⟨t, rfl⟩ := rx
  obtain ⟨t', rfl⟩ := ry
  have lb : (bI b).length = b.size := PySem.W.KBw.ints_length b
  have hj : (if i < 0 then i + (b.size : Int) else i).toNat < b.size := by split <;> omega
  have hq : seqIndex? i b.size = some (if i < 0 then i + (b.size : Int) else i).toNat := by
    unfold seqIndex?
    by_cases c : i < 0
    · have h2 : 0 ≤ i + (b.size : Int) := by omega
      have h3 : i + (b.size : Int) < b.size := by omega
      simp [c, h2, h3]
    · simp [c, h1]
  generalize (if i < 0 then i + (b.size : Int) else i).toNat = j at *
  have e : ((b.toList.getD j 0).toNat : Int) = (bI b).getD j 0 := by
    have := PySem.W.KBw.getD_ints b.toList j
    rw [this]; rfl
  refine tail_any (PySem.W.typeIs_bytes s b t) PySem.W.FB.slot_bytes_getitem.lookup (getItem_gives (PySem.W.typeIs_bytes s _ t) (by decide) PySem.W.FB.slot_bytes_getitem PySem.W.FB.entry_bytes_getitem (PySem.W.FB.args_bytes_getitem_2 _ _) (PySem.W.gives_bytes_getitem _ i t t' (b.toList.getD j 0) ?_ ?_) ?_) hs
  · simp only [Builtin.Bytes.fitsIndex, Bool.and_eq_true, decide_eq_true_eq]; omega
  · rw [hq]; simp [hj]
  · rw [e]
    exact ⟨.int _, H, I.kept fun _ _ e => e, ⟨_, rfl⟩, q⟩
def ph (a b : D) : M D := match a, b with
  | .byt x, .int i => fV (x.size ≤ 16777216 ∧ -(x.size : Int) ≤ i ∧ i < (x.size : Int)) (ret (.int ((bI x).getD (if i < 0 then i + (x.size : Int) else i).toNat 0)))
  | _, _ => fail
section
variable {G : Gx} {W : WX}
theorem uy : Fits G W yV ph := by
  intro σ H Q B F env x y a b p ra rb
  cases a with
  | byt z =>
    cases b with
    | int i =>
      cases (show x = _ from ra)
      cases (show y = _ from rb)
      obtain ⟨⟨h1, h2, h3⟩, p⟩ := Pt.asked p
      exact ⟨z, i, rfl, rfl, h1, h2, h3, p.pure (b := .int _) rfl⟩
    | _ => exact (Pt.no p).elim
  | _ => exact (Pt.no p).elim
def vC (a b : D) : M D := match a, b with
  | .byt x, .byt y => ret (.bl (!(x.toList == y.toList)))
  | _, _ => fail
theorem pC : Fits G W rNe vC := by
  intro σ H Q B F env x y a b p ra rb
  cases a with
  | byt z =>
    cases b with
    | byt z2 =>
      cases (show x = _ from ra)
      cases (show y = _ from rb)
      exact ⟨rfl, by rw [dec_byt]; exact Pt.pure p (b := .bl _) rfl⟩
    | _ => exact (Pt.no p).elim
  | _ => exact (Pt.no p).elim
end
section
variable {X : Cx} {C : Addr} {W : WX} {a b : Expr} {ma mb : M D} {pos : Pos}
theorem w7 (ha : PE X a (tD (gx X C) W ma)) (hb : PE X b (tD (gx X C) W mb)) (hs : PlainIx b := by exact fun _ _ => rfl) : PE X (.Subscript a b pos) (tD (gx X C) W (cA ma mb ph)) :=
  dN (pe_ix yc ha hb hs) fun σ H Q h => (lZ h).imp fun x H1 h1 => h1.imp fun y H2 ⟨B, F, env, d, e, p, r1, r2⟩ => uy p r1 r2
def pQ (d : D) (lo hi : Option Int) : M D := match d with
  | .byt b => fV (b.size ≤ 16777216) (ret (.byt (PySem.W.KBy.picked b lo hi)))
  | _ => fail
theorem w5 {lo hi : Option Expr} {mlo mhi : M (Option Int)} {p2 : Pos} (ha : PE X a (tD (gx X C) W ma)) (hl : PO X lo (tQ (gx X C) W mlo)) (hh : PO X hi (tQ (gx X C) W mhi)) :
    PE X (.Subscript a (.Slice lo hi none p2) pos) (tD (gx X C) W (aq ma fun d => aq mlo fun l => aq mhi fun h => pQ d l h)) :=
  dN (pe_slice (r := rSlB) sl_byt ha hl hh) fun σ H Q h => (dQ (Ra := RD (gx X C)) h).imp fun x H1 ⟨B, F, env, d, p, r⟩ =>
    (p.bind (Ra := RQ) (as := [d]) (xs := [x]) ⟨x, [], rfl, r, rfl⟩).imp fun l H2 ⟨F2, env2, l', p2, rd, e⟩ => by
      cases (show l' = l from e)
      refine (p2.bind (Ra := RQ) (as := [d]) (xs := [x]) rd).imp fun u H3 ⟨F3, env3, u', p3, ⟨x', r', e', rd, _⟩, e⟩ => ?_
      cases (show u' = u from e)
      cases e'
      cases d with
      | byt s => exact ⟨s, rd, (Pt.asked p3).1, (Pt.asked p3).2.pure (b := .byt _) rfl⟩
      | _ => exact (Pt.no p3).elim
end
theorem pA (g : UInt8 → Array Nat) (hg : ∀ c, (g c).size ≤ 4) : ∀ (l : List UInt8) (acc : Array Nat), ∃ r : List Nat, (l.foldl (fun acc c => acc ++ g c) acc).toList = acc.toList ++ r ∧ r.length ≤ 4 * l.length
  | [], acc => ⟨[], by simp, by simp⟩
  | c :: l, acc => by
    obtain ⟨r, e, h⟩ := pA g hg l (acc ++ g c)
    refine ⟨(g c).toList ++ r, by rw [List.foldl_cons, e, Array.toList_append, List.append_assoc], ?_⟩
    have := hg c
    rw [List.length_append, Array.length_toList, List.length_cons]
    omega
theorem oX (b : Array UInt8) : ∃ (q : Nat) (r : List Nat), (q = 34 ∨ q = 39) ∧ (Builtin.Bytes.literal b).cps.toList = 98 :: q :: r ∧ r.length ≤ 4 * b.size + 1 := by
  unfold Builtin.Bytes.literal
  have hq : (if b.contains 39 && !b.contains 34 then (34 : Nat) else 39) = 34 ∨ (if b.contains 39 && !b.contains 34 then (34 : Nat) else 39) = 39 := by split <;> simp
  simp only
  generalize (if b.contains 39 && !b.contains 34 then (34 : Nat) else 39) = q at *
  rw [← Array.foldl_toList]
  obtain ⟨r, e, h⟩ := pA (fun c : UInt8 => if (c.toNat == (if false then 39 else q) || c.toNat == 92) = true then #[92, c.toNat] else if (c.toNat == 9) = true then #[92, 116] else if (c.toNat == 10) = true then #[92, 110] else if (c.toNat == 13) = true then #[92, 114] else if (decide (c.toNat < 32) || decide (c.toNat ≥ 127)) = true then #[92, 120, (if c.toNat / 16 < 10 then 48 + c.toNat / 16 else 87 + c.toNat / 16), (if c.toNat % 16 < 10 then 48 + c.toNat % 16 else 87 + c.toNat % 16)] else #[c.toNat]) (fun c => by repeat' split <;> try simp) b.toList #[98, q]
  refine ⟨q, r ++ [q], hq, ?_, ?_⟩
  · rw [Array.toList_push]
    refine (congrArg (· ++ [q]) e).trans ?_
    simp
  · rw [List.length_append, List.length_singleton]
    have hl : b.toList.length = b.size := Array.length_toList
    rw [hl] at h
    omega
theorem qN (b : Array UInt8) : (Builtin.Bytes.literal b).length ≤ 4 * b.size + 3 := by
  obtain ⟨q, r, _, e, h⟩ := oX b
  have : (Builtin.Bytes.literal b).cps.toList.length = (Builtin.Bytes.literal b).length := by simp [Str.length]
  rw [← this, e, List.length_cons, List.length_cons]
  omega
theorem uI {X : Cx} : CallR X (.builtin "repr") (fun xs H Q => ∃ b, xs = [.byt b] ∧ b.size ≤ 1000 ∧ Q (.str (Builtin.Bytes.literal b)) H) := by
  intro pins s σ H xs us Q I r h
  obtain ⟨b, rfl, hz, q⟩ := h
  obtain ⟨u, rfl, t, rfl⟩ := vals1 r
  have := qN b
  exact PySem.call_repr_gives (PySem.W.typeIs_bytes s b t) rD qk (sE _) (qg b t hz) ⟨.str _, H, I.tok _, ⟨_, rfl⟩, q⟩ (hx := by rw [sizeLine_eq]; omega)
def pV : D → M D
  | .byt b => fV (b.size ≤ 1000) (ret (.str (Builtin.Bytes.literal b)))
  | _ => fail
theorem qi {G : Gx} {W : WX} : FitsC G W (fun xs H Q => ∃ b, xs = [.byt b] ∧ b.size ≤ 1000 ∧ Q (.str (Builtin.Bytes.literal b)) H) (dX pV) := iI fun {σ H Q B F env x d} p r => by
  cases d with
  | byt b => cases (show _ = _ from r); exact ⟨b, rfl, (Pt.asked p).1, (Pt.asked p).2.pure (b := .str _) rfl⟩
  | _ => exact (Pt.no p).elim
def yi (k : Nat) (t : TGs) : TG := fun v σ H Q => ∃ b : Array UInt8, v = .byt b ∧ k ≤ b.size ∧ b.size ≤ sizeLine ∧ ∀ l, H l = none → t (((bI b).take k).map V.int ++ [.ref l]) σ (upd H l (.lst (((bI b).drop k).map V.int))) Q
section
variable {X : Cx} {C : Addr} {es : List Expr} {t : TGs} {ks : List (D → M Unit)} {pos : Pos}
theorem tM {kk k : Nat} (hc : X.calm = true) (h : PGs X es t) (hn : (assignEach es X.env).length = k + 1 := by rfl) (hst : (assignEach es X.env).findIdx? (·.1) = some k := by rfl) : PG X (.Tuple es kk pos) (yi k t) := by
  refine ⟨fun pins s σ H v u Q I r hw => ?_⟩
  obtain ⟨b, e1, hl, hz, hw⟩ := hw
  subst e1
  obtain ⟨t0, rfl⟩ := r
  rw [PyProof.Rows.assign_Tuple]
  refine wpAny_bind (wpAny_standAt ?_)
  unfold unpack
  rw [hn, hst]
  refine wpAny_bind (wpAny_holding (yO (I.ok.hd hc) hl hz fun h' tk us rs hk r1 r2 => ?_))
  have lb : (bI b).length = b.size := PySem.W.KBw.ints_length b
  have I1 : Inv X pins σ H { s with heap := h', toks := tk } := I.kept hk
  have hp := I1.hok.fresh (Nat.le_refl _)
  have I2 : Inv X pins σ (upd H h'.objs.size (.lst (((bI b).drop k).map V.int))) { s with heap := h'.push { cls := .type "list", data := .seq rs.toArray }, toks := tk } :=
    I1.laid (t' := tk) (fun b u q => Heap.get?_push_of_some _ q) (Nat.le_refl _) ⟨by rw [List.length_map, List.length_drop]; omega, rs, _, r2, Heap.get?_push_size _ rfl⟩
  exact h.run pins _ σ _ _ _ Q I2 (r1.append (.cons (show RelV (V.ref h'.objs.size) (Value.ref h'.objs.size) from rfl) .nil)) (hw _ hp)
def jV (k : Nat) (ks : List (D → M Unit)) (d : D) : M Unit := match d with
  | .byt b => fV (k ≤ b.size ∧ b.size ≤ 16777216) (bf ks (((bI b).take k).map D.int ++ [D.lst (((bI b).drop k).map D.int)]))
  | _ => fail
theorem vR {kk k : Nat} (hc : X.calm = true) (h : PGs X es (nI (gx X C) ks)) (hn : (assignEach es X.env).length = k + 1 := by rfl) (hst : (assignEach es X.env).findIdx? (·.1) = some k := by rfl) :
    PG X (.Tuple es kk pos) (wJ (gx X C) (jV k ks)) := lR (tM hc h hn hst) fun v σ H Q ⟨B, F, env, d, Qd, rel, r, hm, hq⟩ => by
  cases d with
  | byt b =>
    cases (show v = _ from r)
    obtain ⟨⟨h1, h2⟩, hm⟩ : (k ≤ b.size ∧ b.size ≤ 16777216) ∧ bf ks (((bI b).take k).map D.int ++ [D.lst (((bI b).drop k).map D.int)]) env (fun _ env' => Qd env') (fun _ _ => False) := hm
    refine ⟨b, rfl, h1, by rw [sizeLine_eq]; omega, fun l hl => ?_⟩
    have st : Stp B F H (fun a => F a ∨ a = l) (upd H l (.lst (((bI b).drop k).map V.int))) := hU hl (rel.notB hl)
    exact ⟨B, _, env, _, Qd, rel.newF hl, (RpL.ints.mpr rfl).append (es := [D.lst (((bI b).drop k).map D.int)]) ⟨.ref l, [], rfl, ⟨l, _, rfl, .inr rfl, upd_same, RpL.ints.mpr rfl⟩, rfl⟩, hm, fun env' σ' F' H' q st' rl => hq env' σ' F' H' q (st.trans st') rl⟩
  | _ => exact (show False from hm).elim
end
end
end DL
namespace DLP
open PySem PySem.Spec PyProof.Rows L2 DL
section
def jF (C : Addr) : M Fl := aN (aq (cA (cA (cA (ai 2) (ret (.int 38011)) cK) (ai 3) cy) (ret (.int 2147483423)) cJ) (setI 2))
def nU (C : Addr) : M Fl := bc (dY (cA (ai 1) (aq (ak (ai 0) (ret [])) (dX dc)) fun x y => aq (fh x y) dP) (aq (cA (ai 0) (ai 1) jI) fun d => ret (.rt (.d d))) (ret .nx)) (bc (aN (aq (cA (cA (ret (.int 70003)) (cA (cA (cA (ai 1) (ai 1) cK) (cA (ret (.int 7)) (ai 1) cK) cy) (ret (.int 5)) cy) cK) (ret (.int 2147483423)) cJ) (setI 2))) (bc (cU (aq (aq (ai 0) fun d => aq (ret none) fun l => aq (bz (ret (.int 3))) fun h => fj d l h) bv) (setI 3) (jF C)) (aq (ai 2) fun d => ret (.rt (.d d)))))
def j7 (C : Addr) : DF := cz 4 (nU C)
def lC (C : Addr) : M Fl := bc (aN (aq (ret (.int 0)) (setI 1))) (bc (dY (eG (cA (ai 0) (ret (.int 0)) fun x y => aq (fh x y) dP) (cA (ai 0) (cA (ret (.int 10)) (ret (.int 18)) di) fun x y => aq (fF x y) dP)) (aN (aq (aq (ak (ai 0) (ret [])) (dX dB)) (setI 1))) (ret .nx)) (aq (bK (ak (cA (ai 0) (ret (.int 2147483423)) cJ) (ak (ai 1) (ak (ret (.int 0)) (ret []))))) fun d => ret (.rt (.o d))))
def i9 (C : Addr) : DF := cz 2 (lC C)
def m8 (C : Addr) : M Fl := aq (dh (aq (ai 1) (cE .hall)) (cA (cI (ak (aq (ai 0) e6) (ak (aq (ai 0) e9) (ret [])))) (cI (ak (aq (ai 1) e6) (ak (aq (ai 1) e9) (ret [])))) lu)) fun d => ret (.rt (.d d))
def hH (C : Addr) : DF := cz 2 (m8 C)
def lX (C : Addr) : M Fl := aq (dh (aq (ai 0) (cE .int)) (dh (dw (aq (ai 0) (cE .bool))) (fG fB fB (ai 1) (ai 0) (ai 2)))) fun d => ret (.rt (.d d))
def e7 (C : Addr) : DF := cz 3 (lX C)
def kQ (C : Addr) : M Fl := bc (dY (notB (aq (aq (aq (ao (ai 1) (ao (ret (.int 1)) (ao (ret (.int 24)) (ret [])))) (callN 3 (e7 C))) bj) cB)) fail (ret .nx)) (bc (dY (notB (aq (aq (aq (ao (ai 2) (ao (ret (.int 0)) (ao (ret (.int 6)) (ret [])))) (callN 3 (e7 C))) bj) cB)) fail (ret .nx)) (bc (bL C 0 "guests" (ai 1)) (bL C 0 "spare" (ai 2))))
def gF (C : Addr) : DF := cz 3 (kQ C)
def mG (C : Addr) : M O := gZ (aq (ai 2) bD) (setI 4) (([("_law_part", 4)] : List (Str × Nat)).map (·.2)) (ret true) (dY (cA (ai 4) (ret .non) fun x y => aq (aH x y) dP) (ret (.int 0)) (cA (ai 4) (ret (.int 1)) cy))
def uf (C : Addr) : M Fl := bc (aN (aq (cA (lstM (ak (ret (.int 87)) (ak (ai 0) (ak (ai 1) (ret []))))) (cF (mG C)) cy) (setI 3))) (aq (cA (ai 3) (lstM (ak (cA (aq (ak (ai 3) (ret [])) (dX cP)) (ret (.int 251)) cJ) (ret []))) cy) fun d => ret (.rt (.d d)))
def n9 (C : Addr) : DF := cz 5 (uf C)
def kI (C : Addr) : M O := gZ (aq (ai 2) bD) (setI 3) (([("_law_part", 3)] : List (Str × Nat)).map (·.2)) (ret true) (dY (cA (ai 3) (ret .non) fun x y => aq (aH x y) dP) (ret (.str " -")) (cA (ret (.str " ")) (aq (ak (ai 3) (ret [])) (dX oA)) cy))
def qM (C : Addr) : M Fl := aq (cA (cA (cA (cA (aq (ak (ai 0) (ret [])) (dX oA)) (ret (.str "+")) cy) (aq (ak (ai 1) (ret [])) (dX oA)) cy) (ret (.str ":")) cy) (mm (ret (.str "")) (cF (kI C))) cy) fun d => ret (.rt (.d d))
def lF (C : Addr) : DF := cz 4 (qM C)
def mZ (C : Addr) : M Fl := bc (dY (notB (aq (aq (ai 0) (cE .hall)) cB)) fail (ret .nx)) (aq (ai 0) fun d => ret (.rt (.d d)))
def iu (C : Addr) : DF := cz 1 (mZ C)
def j2 (C : Addr) : M Fl := aq (cA (aq (ai 0) e6) (aq (ai 0) e9) cy) fun d => ret (.rt (.d d))
def ii (C : Addr) : DF := cz 1 (j2 C)
def mY (C : Addr) : M Fl := aq (aq (aq (ao (ai 1) (ao (ret (.int 0)) (ao (cA (aq (aq (ai 0) (aJ (ii C))) bj) (ret (.int 1)) cW) (ret [])))) (callN 3 (e7 C))) bj) fun d => ret (.rt (.d d))
def jC (C : Addr) : DF := cz 2 (mY C)
def eJ (C : Addr) : M Fl := dY (cA (ai 4) (ret .non) fun x y => aq (aC x y) dP) (bc (dY (eG (notB (aq (aq (aq (ao (ai 0) (ao (ai 4) (ret []))) (callN 2 (jC C))) bj) cB)) (aq (bJ false (ai 4) 2) dP)) (aq (ai 3) fun d => ret (.rt (.d d))) (ret .nx)) (aN (bS 2 (ai 4)))) (ret .nx)
def kP (C : Addr) : M Fl := bc (dY (eG (notB (aq (aq (ai 1) (cE .tuple)) cB)) (cA (aq (ak (ai 1) (ret [])) (dX dc)) (aq (ai 0) e6) fun x y => aq (ki x y) dP)) (aq (ret .non) fun d => ret (.rt (.d d))) (ret .nx)) (bc (aN (aq (ret (.set (fun _ => false) 0)) (setO 2))) (bc (cU (aq (ak (ai 1) (ret [])) bV) (aI [3, 4]) (eJ C)) (aq (aq (ret (.int 1)) cS) fun d => ret (.rt (.d d)))))
def hX (C : Addr) : DF := cz 5 (kP C)
def oV (C : Addr) : M Fl := bc (aN (aq (aq (aq (ao (ai 0) (ao (ai 1) (ret []))) (callN 2 (hX C))) bj) (setI 2))) (bc (dY (cA (ai 2) (aq (ret (.int 1)) cS) fun x y => aq (ki x y) dP) fail (ret .nx)) (aq (ai 1) fun d => ret (.rt (.d d))))
def jm (C : Addr) : DF := cz 3 (oV C)
def gX (C : Addr) : M O := gZ (aq (ai 1) bD) (setI 3) (([("seat", 3)] : List (Str × Nat)).map (·.2)) (ret true) (dY (cA (ai 3) (ret .non) fun x y => aq (aH x y) dP) (ret (.int 0)) (cA (ai 3) (ret (.int 1)) cy))
def jd (C : Addr) : M Fl := bc (aN (aq (aq (ao (aq (aq (ao (ai 0) (ret [])) (callN 1 (iu C))) bj) (ao (ai 1) (ret []))) (callN 2 (jm C))) bj)) (bc (aN (aq (cA (lstM (ak (ret (.int 87)) (ak (aq (ai 0) e6) (ak (aq (ai 0) e9) (ret []))))) (cF (gX C)) cy) (setI 2))) (aq (aq (ak (cA (ai 2) (lstM (ak (cA (aq (ak (ai 2) (ret [])) (dX cP)) (ret (.int 251)) cJ) (ret []))) cy) (ret [])) (dX nz)) fun d => ret (.rt (.d d))))
def eV (C : Addr) : DF := cz 4 (jd C)
def jH (C : Addr) : M Fl := aq (cA (aq (aq (ao (aq (aq (ao (ai 0) (ret [])) (callN 1 (iu C))) bj) (ao (ai 1) (ret []))) (callN 2 (hX C))) bj) (aq (ret (.int 1)) cS) lu) fun d => ret (.rt (.d d))
def gB (C : Addr) : DF := cz 2 (jH C)
def iL (C : Addr) : M O := gZ (aq (ai 0) wX) (setI 1) (([("sign", 1)] : List (Str × Nat)).map (·.2)) (ret true) (cA (ai 1) (ret (.str "0123456789")) xt)
def iH (C : Addr) : M Fl := bc (dY (eG (cA (ai 0) (ret (.str "")) fun x y => aq (lu x y) dP) (eG (notB (aq (aq (ak (cF (iL C)) (ret [])) (dX ou)) cB)) (cV (cA (cA (ai 0) (ret (.int 0)) jI) (ret (.str "0")) fun x y => aq (lu x y) dP) (cA (ai 0) (ret (.str "0")) fun x y => aq (ki x y) dP)))) (aq (ret .non) fun d => ret (.rt (.d d))) (ret .nx)) (aq (aq (ak (ai 0) (ret [])) (dX nk)) fun d => ret (.rt (.d d)))
def eI (C : Addr) : DF := cz 2 (iH C)
def gW (C : Addr) : M O := gZ (aq (ai 10) bv) (setI 15) (([("word", 15)] : List (Str × Nat)).map (·.2)) (ret true) (aq (aq (ao (ai 15) (ret [])) (callN 1 (eI C))) bj)
def gU (C : Addr) : M O := gZ (aq (ak (ai 10) (ak (ai 11) (ret []))) bP) (aI [15, 16]) (([("word", 15), ("seat", 16)] : List (Str × Nat)).map (·.2)) (cV (cA (ai 16) (ret .non) fun x y => aq (aH x y) dP) (cA (ai 15) (ret (.str "-")) fun x y => aq (ki x y) dP)) (ai 15)
def jc (C : Addr) : M Fl := bc (dY (notB (aq (aq (ai 0) (cE .str)) cB)) fail (ret .nx)) (bc (cM (vd (ai 0) (ret (.str ":"))) (bB [setI 1, setI 2, setI 3])) (bc (cM (vd (ai 1) (ret (.str "+"))) (bB [setI 4, setI 5, setI 6])) (bc (cL [7, 8] (vD (aq (aq (ao (ai 4) (ret [])) (callN 1 (eI C))) bj) (vD (aq (aq (ao (ai 6) (ret [])) (callN 1 (eI C))) bj) (ret [])))) (bc (cM (xp (ai 3) (ret (.str " "))) (aB 1 [setI 9, setI 10])) (bc (aN (aq (cF (gW C)) (setI 11))) (bc (aN (aq (cF (gU C)) (setI 12))) (bc (dY (eG (cA (ret (.str "")) (cI (ak (ai 2) (ak (ai 5) (ret [])))) fun x y => aq (zC x y) dP) (eG (cA (ai 7) (ret .non) fun x y => aq (aH x y) dP) (eG (cA (ai 8) (ret .non) fun x y => aq (aH x y) dP) (eG (cA (ai 9) (ret (.str "")) fun x y => aq (ki x y) dP) (cA (ai 12) (lstM (ret [])) fun x y => aq (ki x y) dP))))) fail (ret .nx)) (bc (dY (eG (notB (aq (aq (aq (ao (ai 7) (ao (ret (.int 1)) (ao (ret (.int 24)) (ret [])))) (callN 3 (e7 C))) bj) cB)) (notB (aq (aq (aq (ao (ai 8) (ao (ret (.int 0)) (ao (ret (.int 6)) (ret [])))) (callN 3 (e7 C))) bj) cB))) fail (ret .nx)) (bc (cL [13, 14] (vD (aq (aq (ak (ai 7) (ret [])) fun ds => aq (ak (ai 8) (ret [])) fun es => fc C 1 1 (pick [0, 1]) (gF C) ds es) (bA C)) (vD (aq (ak (ai 11) (ret [])) (dX de)) (ret [])))) (bc (dY (notB (aq (aq (aq (ao (ai 13) (ao (ai 14) (ret []))) (callN 2 (gB C))) bj) cB)) fail (ret .nx)) (aq (cI (ak (ai 13) (ak (ai 14) (ret [])))) fun d => ret (.rt (.d d)))))))))))))
def fY (C : Addr) : DF := cz 17 (jc C)
def lY (C : Addr) : M Fl := aq (joinM [(aq (aq (ai 0) e6) vW), (ret (.str "+")), (aq (aq (ai 0) e9) vW)] Str.empty) fun d => ret (.rt (.d d))
def ja (C : Addr) : DF := cz 1 (lY C)
def gR (C : Addr) : M O := gZ (aq (ai 1) bD) (setI 3) (([("seat", 3)] : List (Str × Nat)).map (·.2)) (ret true) (dY (cA (ai 3) (ret .non) fun x y => aq (aH x y) dP) (ret (.str "-")) (aq (ak (ai 3) (ret [])) (dX oA)))
def jb (C : Addr) : M Fl := bc (aN (aq (aq (ao (aq (aq (ao (ai 0) (ret [])) (callN 1 (iu C))) bj) (ao (ai 1) (ret []))) (callN 2 (jm C))) bj)) (bc (aN (aq (cF (gR C)) (setI 2))) (aq (cA (joinM [(aq (aq (ai 0) (aJ (ja C))) strR), (ret (.str ": "))] Str.empty) (mm (ret (.str " ")) (ai 2)) cy) fun d => ret (.rt (.d d))))
def eU (C : Addr) : DF := cz 4 (jb C)
def gz (C : Addr) : M O := gZ (aq (ai 3) bv) (setI 6) (([("part", 6)] : List (Str × Nat)).map (·.2)) (ret true) (dY (cA (ai 6) (ret (.int 0)) fun x y => aq (lu x y) dP) (ret .non) (cA (ai 6) (ret (.int 1)) cW))
def iG (C : Addr) : M Fl := bc (dY (eG (notB (aq (aq (ai 0) (cE .bytes)) cB)) (eG (cA (aq (ak (ai 0) (ret [])) (dX qP)) (ret (.int 5)) fun x y => aq (fh x y) dP) (eG (cA (cA (ai 0) (ret (.int 0)) ph) (ret (.int 87)) fun x y => aq (ki x y) dP) (cA (cA (ai 0) (aq (ret (.int 1)) cS) ph) (cA (aq (ak (aq (ai 0) fun d => aq (ret none) fun l => aq (bz (aq (ret (.int 1)) cS)) fun h => pQ d l h) (ret [])) (dX qC)) (ret (.int 251)) cJ) fun x y => aq (ki x y) dP)))) fail (ret .nx)) (bc (cM (aq (ai 0) fun d => aq (bz (ret (.int 1))) fun l => aq (bz (aq (ret (.int 1)) cS)) fun h => pQ d l h) (jV 2 [setI 1, setI 2, setI 3])) (bc (dY (eG (notB (aq (aq (aq (ao (ai 1) (ao (ret (.int 1)) (ao (ret (.int 24)) (ret [])))) (callN 3 (e7 C))) bj) cB)) (notB (aq (aq (aq (ao (ai 2) (ao (ret (.int 0)) (ao (ret (.int 6)) (ret [])))) (callN 3 (e7 C))) bj) cB))) fail (ret .nx)) (bc (cL [4, 5] (vD (aq (aq (ak (ai 1) (ret [])) fun ds => aq (ak (ai 2) (ret [])) fun es => fc C 1 1 (pick [0, 1]) (gF C) ds es) (bA C)) (vD (aq (ak (cF (gz C)) (ret [])) (dX de)) (ret [])))) (bc (dY (notB (aq (aq (aq (ao (ai 4) (ao (ai 5) (ret []))) (callN 2 (gB C))) bj) cB)) fail (ret .nx)) (aq (cI (ak (ai 4) (ak (ai 5) (ret [])))) fun d => ret (.rt (.d d)))))))
def eW (C : Addr) : DF := cz 7 (iG C)
def jS (C : Addr) : M Fl := bc (dY (eG (notB (aq (aq (ai 8) (cE .tuple)) cB)) (eG (cA (aq (ak (ai 8) (ret [])) (dX dc)) (ret (.int 2)) fun x y => aq (ki x y) dP) (eG (notB (aq (aq (cA (ai 8) (ret (.int 0)) jI) (cE .hall)) cB)) (cA (cA (ai 8) (ret (.int 0)) jI) (ai 3) fun x y => aq (pj (hH C) true x y) dP)))) (aq (ret (.bl false)) fun d => ret (.rt (.d d))) (ret .nx)) (dY (cA (aq (ak (cA (ai 8) (ret (.int 1)) jI) (ret [])) (dX oM)) (ai 5) fun x y => aq (ki x y) dP) (aq (ret (.bl false)) fun d => ret (.rt (.d d))) (ret .nx))
def oW (C : Addr) : M Fl := bc (cL [3, 4, 5] (vD (aq (aq (ak (ai 0) (ret [])) fun ds => aq (ak (ai 1) (ret [])) fun es => fc C 1 1 (pick [0, 1]) (gF C) ds es) (bA C)) (vD (aq (aq (ao (ai 0) (ao (ai 1) (ao (ai 2) (ret [])))) (callN 3 (lF C))) bj) (vD (aq (ak (ai 2) (ret [])) (dX oM)) (ret []))))) (bc (dY (cA (lstM (ak (aq (aq (ao (ai 3) (ao (ai 2) (ret []))) (callN 2 (eU C))) bj) (ak (aq (aq (ak (ai 2) (ak (ai 3) (ret []))) fun es => callK 0 2 (pick [1, 0]) (eU C) [] es) bj) (ak (aq (aq (ao (ai 3) (ao (ai 2) (ret []))) (callN 2 (eU C))) bj) (ret []))))) (cA (lstM (ak (ai 4) (ret []))) (ret (.int 3)) cK) fun x y => aq (ki x y) dP) (aq (ret (.bl false)) fun d => ret (.rt (.d d))) (ret .nx)) (bc (aN (aq (aq (aq (ao (ai 3) (ao (ai 2) (ret []))) (callN 2 (eV C))) bj) (setI 6))) (bc (dY (eG (cA (aq (aq (ak (ai 6) (ret [])) (dX pV)) fun d => aq (ret none) fun l => aq (bz (ret (.int 2))) fun h => fj d l h) (lstM (ak (ret (.str "b'")) (ak (ret (.str "b\"")) (ret [])))) fun x y => aq (x5 x y) dP) (cA (aq (ak (ai 6) (ret [])) (dX nV)) (aq (aq (ao (ai 0) (ao (ai 1) (ao (ai 2) (ret [])))) (callN 3 (n9 C))) bj) fun x y => aq (ki x y) dP)) (aq (ret (.bl false)) fun d => ret (.rt (.d d))) (ret .nx)) (bc (dY (eG (cA (aq (aq (ak (ai 2) (ak (ai 3) (ret []))) fun es => callK 0 2 (pick [1, 0]) (eV C) [] es) bj) (ai 6) fun x y => aq (vC x y) dP) (cA (aq (aq (ao (ai 3) (ao (ai 2) (ret []))) (callN 2 (eV C))) bj) (ai 6) fun x y => aq (vC x y) dP)) (aq (ret (.bl false)) fun d => ret (.rt (.d d))) (ret .nx)) (bc (aN (aq (lstM (ak (aq (aq (ao (ai 4) (ret [])) (callN 1 (fY C))) bj) (ak (aq (aq (ak (ai 4) (ret [])) fun es => callK 0 1 (pick [0]) (fY C) [] es) bj) (ak (aq (aq (ao (ai 6) (ret [])) (callN 1 (eW C))) bj) (ak (aq (aq (ak (ai 6) (ret [])) fun es => callK 0 1 (pick [0]) (eW C) [] es) bj) (ret [])))))) (setI 7))) (bc (cU (aq (ai 7) bv) (setI 8) (jS C)) (aq (cA (aq (ak (ai 2) (ret [])) (dX oM)) (ai 5) lu) fun d => ret (.rt (.d d)))))))))
def iE (C : Addr) : DF := cz 9 (oW C)
def nT (C : Addr) : M Fl := bc (cM (cA (cR 0 (ret (.int 2))) (ret (.int 1)) cy) (bC 0 (ret (.int 2)))) (bc (aN (aq (cR 0 (ret (.int 0))) (setI 2))) (bc (cM (cA (aq (ak (cA (cA (ai 2) (cA (cA (aq (ak (ai 2) (ret [])) (dX intD)) (ret (.int 45013)) cJ) (ret (.int 32017)) cy) cK) (cA (ret (.int 90023)) (cR 0 (ret (.int 2))) cK) cy) (ret [])) (dX intD)) (ret (.int 2147483423)) cJ) (bC 0 (ret (.int 0)))) (bc (dY (cA (cR 0 (ret (.int 1))) (ret (.int 0)) fun x y => aq (fD x y) dP) (bc (cM (aq (ak (cR 0 (ret (.int 1))) (ak (ai 1) (ret []))) (eY dz)) (bB [bC 0 (ret (.int 1)), setI 3])) (aq (ai 3) fun d => ret (.rt (.d d)))) (ret .nx)) (aq (cA (cA (cR 0 (ret (.int 0))) (ret (.int 64)) bM) (ai 1) cJ) fun d => ret (.rt (.d d))))))
def eX (C : Addr) : DF := cz 4 (nT C)
def jl (C : Addr) : M Fl := bc (cL [2, 3] (vD (cA (ret (.int 1)) (aq (aq (aZ 0 (ao (ai 1) (ret []))) (callN 2 (eX C))) bj) cy) (vD (aq (aq (aZ 0 (ao (ret (.int 3)) (ret []))) (callN 2 (eX C))) bj) (ret [])))) (bc (dY (cA (aq (aq (aZ 0 (ao (ret (.int 8)) (ret []))) (callN 2 (eX C))) bj) (ret (.int 5)) fun x y => aq (lu x y) dP) (aN (aq (cA (ret (.int 1)) (aq (aq (aZ 0 (ao (ret (.int 24)) (ret []))) (callN 2 (eX C))) bj) cy) (setI 2))) (ret .nx)) (bc (dY (cA (aq (aq (aZ 0 (ao (ret (.int 8)) (ret []))) (callN 2 (eX C))) bj) (ret (.int 5)) fun x y => aq (lu x y) dP) (aN (aq (aq (aq (aZ 0 (ao (ret (.int 7)) (ret []))) (callN 2 (eX C))) bj) (setI 3))) (ret .nx)) (aq (cI (ak (ai 2) (ak (ai 3) (ret [])))) fun d => ret (.rt (.d d)))))
def iD (C : Addr) : DF := cz 4 (jl C)
def fU (C : Addr) : M Fl := dY (cV (cA (aq (aq (aZ 0 (ao (cA (lstM (ak (ret (.int 4)) (ak (ret (.int 9)) (ak (ret (.int 2)) (ak (ret (.int 6)) (ret [])))))) (ai 5) jI) (ret []))) (callN 2 (eX C))) bj) (ret (.int 0)) fun x y => aq (lu x y) dP) (cA (ai 5) (ret (.int 1)) fun x y => aq (ki x y) dP)) (aN (bR 4 (ret .non))) (dY (cV (cA (ai 5) (ret (.int 3)) fun x y => aq (lu x y) dP) (cV (aq (dj false (ai 6) 3) dP) (cA (aq (aq (aZ 0 (ao (ret (.int 3)) (ret []))) (callN 2 (eX C))) bj) (ret (.int 0)) fun x y => aq (fD x y) dP))) (bc (aN (cj 3 (ai 6))) (aN (bR 4 (ai 6)))) (aN (bR 4 (ck 3 (aq (aq (aZ 0 (ao (bF 3) (ret []))) (callN 2 (eX C))) bj)))))
def m7 (C : Addr) : M Fl := bc (cL [3, 4, 5] (vO (dy (cA (ai 1) (ai 2) cy)) (vO (bK (ret [])) (vD (aq (aq (aZ 0 (ao (ret (.int 4)) (ret []))) (callN 2 (eX C))) bj) (ret []))))) (bc (cU (aq (ak (ai 1) (ret [])) cX) (setI 6) (fU C)) (aq (bH 4) fun d => ret (.rt (.d d))))
def iw (C : Addr) : DF := cz 7 (m7 C)
def jp (C : Addr) : M O := gZ (aq (ak (ai 1) (ret [])) cX) (setI 5) (([("_law_person", 5)] : List (Str × Nat)).map (·.2)) (ret true) (cA (cA (cA (ai 1) (ai 2) cy) (ret (.int 1)) cW) (ai 5) cW)
def jo (C : Addr) : M O := gZ (aq (ak (ret (.int 4)) (ret [])) cX) (setI 4) (([("_law_turn", 4)] : List (Str × Nat)).map (·.2)) (ret true) (aq (aq (aZ 0 (ao (ai 1) (ao (ai 2) (ret [])))) (callN 3 (iw C))) bj)
def m6 (C : Addr) : M Fl := bc (aN (aq (lstM (ak (cY (ai 1)) (ak (cA (cI (ak (ret .non) (ret []))) (ai 1) cK) (ak (aq (ak (cF (jp C)) (ret [])) (dX de)) (ret []))))) (setI 3))) (aq (cA (ai 3) (cF (jo C)) cy) fun d => ret (.rt (.d d)))
def iT (C : Addr) : DF := cz 6 (m6 C)
def ot (C : Addr) : M Fl := bc (dY (notB (aq (aq (aq (ao (cA (ai 1) (ret (.int 0)) jI) (ao (cA (ai 1) (ret (.int 1)) jI) (ao (cY (cA (ai 1) (ret (.int 0)) jI)) (ret [])))) (callN 3 (iE C))) bj) cB)) (aq (ret (.bl false)) fun d => ret (.rt (.d d))) (ret .nx)) (dY (notB (aq (aq (aq (ao (cA (ai 1) (ret (.int 0)) jI) (ao (cA (ai 1) (ret (.int 1)) jI) (ao (sU (cA (ai 1) (ret (.int 1)) jI) (cA (cA (ai 1) (ret (.int 0)) jI) (cA (ai 1) (ret (.int 1)) jI) cy)) (ret [])))) (callN 3 (iE C))) bj) cB)) (aq (ret (.bl false)) fun d => ret (.rt (.d d))) (ret .nx))
def og (C : Addr) : M O := gZ (aq (aq (aq (aZ 3 (ao (ai 4) (ao (ai 5) (ret [])))) (callN 3 (iT C))) bj) bv) (setI 6) (([("_law_stand", 6)] : List (Str × Nat)).map (·.2)) (ret true) (aq (aq (ao (ai 4) (ao (ai 5) (ao (ai 6) (ret [])))) (callN 3 (iE C))) bj)
def oq (C : Addr) : M Fl := bc (aN (aq (aq (aq (ao (aq (aq (ao (ai 0) (ao (ai 2) (ret []))) (callN 2 (j7 C))) bj) (ret [])) (callN 1 (i9 C))) du) (setO 3))) (bc (cM (aq (aq (aZ 3 (ao (ret (.int 7)) (ret []))) (callN 2 (iD C))) bj) (bB [setI 4, setI 5])) (dY (notB (aq (aq (ak (cF (og C)) (ret [])) (dX ou)) cB)) (aq (ret (.bl false)) fun d => ret (.rt (.d d))) (ret .nx)))
def wW (C : Addr) : M Fl := bc (cU (aq (lstM (ak (cI (ak (ret (.int 1)) (ak (ret (.int 0)) (ret [])))) (ak (cI (ak (ret (.int 1)) (ak (ret (.int 6)) (ret [])))) (ak (cI (ak (ret (.int 24)) (ak (ret (.int 0)) (ret [])))) (ak (cI (ak (ret (.int 24)) (ak (ret (.int 6)) (ret [])))) (ret [])))))) bv) (setI 1) (ot C)) (bc (cU (aq (ak (aq (ak (ret (.int 2)) (ak (aq (ak (aq (ak (ai 0) (ret [])) (dX dc)) (ak (ret (.int 8)) (ret []))) (eY bT)) (ret []))) (eY bU)) (ret [])) cX) (setI 2) (oq C)) (aq (ret (.bl true)) fun d => ret (.rt (.d d))))
def kU (C : Addr) : DF := cz 7 (wW C)
theorem sc_Lcell : FnScope ["_law_script", "_law_k", "_law_state", "_law_cell_here"] ["_law_script", "_law_k"] (defScope eR) := ⟨rfl, rfl, rfl, by decide +kernel, rfl, by decide +kernel, by decide +kernel⟩
theorem sc_Lpool : FnScope ["_law_cell_here", "_law_digits"] ["_law_cell_here"] (defScope fX) := ⟨rfl, rfl, rfl, by decide +kernel, rfl, by decide +kernel, by decide +kernel⟩
theorem pT : FnScope ["self", "other"] ["self", "other"] (defScope eC) := ⟨rfl, rfl, rfl, by decide +kernel, rfl, by decide +kernel, by decide +kernel⟩
theorem oJ : FnScope ["thing", "least", "most"] ["thing", "least", "most"] (defScope dR) := ⟨rfl, rfl, rfl, by decide +kernel, rfl, by decide +kernel, by decide +kernel⟩
theorem nJ : FnScope ["self", "guests", "spare"] ["self", "guests", "spare"] (defScope dJ) := ⟨rfl, rfl, rfl, by decide +kernel, rfl, by decide +kernel, by decide +kernel⟩
theorem sc_Lrow : FnScope ["_law_heads", "_law_more", "_law_stand", "_law_row_here", "_law_part"] ["_law_heads", "_law_more", "_law_stand"] (defScope gv) := ⟨rfl, rfl, rfl, by decide +kernel, rfl, by decide +kernel, by decide +kernel⟩
theorem sc_Ltext : FnScope ["_law_heads", "_law_more", "_law_stand", "_law_part"] ["_law_heads", "_law_more", "_law_stand"] (defScope fg) := ⟨rfl, rfl, rfl, by decide +kernel, rfl, by decide +kernel, by decide +kernel⟩
theorem pS : FnScope ["hall"] ["hall"] (defScope ez) := ⟨rfl, rfl, rfl, by decide +kernel, rfl, by decide +kernel, by decide +kernel⟩
theorem mJ : FnScope ["self"] ["self"] (defScope dE) := ⟨rfl, rfl, rfl, by decide +kernel, rfl, by decide +kernel, by decide +kernel⟩
theorem pR : FnScope ["hall", "thing"] ["hall", "thing"] (defScope eh) := ⟨rfl, rfl, rfl, by decide +kernel, rfl, by decide +kernel, by decide +kernel⟩
theorem sc_first_odd : FnScope ["hall", "thing", "taken", "guest", "seat"] ["hall", "thing"] (defScope dI) := ⟨rfl, rfl, rfl, by decide +kernel, rfl, by decide +kernel, by decide +kernel⟩
theorem sc_seated : FnScope ["hall", "standing", "odd"] ["hall", "standing"] (defScope eN) := ⟨rfl, rfl, rfl, by decide +kernel, rfl, by decide +kernel, by decide +kernel⟩
theorem sc_pack_standing : FnScope ["hall", "standing", "data", "seat"] ["hall", "standing"] (defScope cw) := ⟨rfl, rfl, rfl, by decide +kernel, rfl, by decide +kernel, by decide +kernel⟩
theorem lM : FnScope ["hall", "thing"] ["hall", "thing"] (defScope cQ) := ⟨rfl, rfl, rfl, by decide +kernel, rfl, by decide +kernel, by decide +kernel⟩
theorem sc_number_in : FnScope ["word", "sign"] ["word"] (defScope dF) := ⟨rfl, rfl, rfl, by decide +kernel, rfl, by decide +kernel, by decide +kernel⟩
theorem sc_read_standing : FnScope ["text", "head", "colon", "tail", "first", "plus", "second", "guests", "spare", "blank", "words", "seats", "odd", "hall", "standing", "word", "seat"] ["text"] (defScope cq) := ⟨rfl, rfl, rfl, by decide +kernel, rfl, by decide +kernel, by decide +kernel⟩
theorem oK : FnScope ["self"] ["self"] (defScope dU) := ⟨rfl, rfl, rfl, by decide +kernel, rfl, by decide +kernel, by decide +kernel⟩
theorem sc_show_standing : FnScope ["hall", "standing", "words", "seat"] ["hall", "standing"] (defScope cu) := ⟨rfl, rfl, rfl, by decide +kernel, rfl, by decide +kernel, by decide +kernel⟩
theorem sc_unpack_standing : FnScope ["data", "guests", "spare", "parts", "hall", "standing", "part"] ["data"] (defScope bE) := ⟨rfl, rfl, rfl, by decide +kernel, rfl, by decide +kernel, by decide +kernel⟩
theorem sc_Lright : FnScope ["_law_heads", "_law_more", "_law_stand", "_law_inn", "_law_row_here", "_law_shown", "_law_packed", "_law_told", "_law_pair"] ["_law_heads", "_law_more", "_law_stand"] (defScope eQ) := ⟨rfl, rfl, rfl, by decide +kernel, rfl, by decide +kernel, by decide +kernel⟩
theorem sc_Ltake : FnScope ["_law_pool_here", "_law_wide", "_law_state", "_law_digit"] ["_law_pool_here", "_law_wide"] (defScope fW) := ⟨rfl, rfl, rfl, by decide +kernel, rfl, by decide +kernel, by decide +kernel⟩
theorem sc_Lsizes : FnScope ["_law_pool_here", "_law_upto", "_law_heads", "_law_more"] ["_law_pool_here", "_law_upto"] (defScope eO) := ⟨rfl, rfl, rfl, by decide +kernel, rfl, by decide +kernel, by decide +kernel⟩
theorem sc_Lseated : FnScope ["_law_pool_here", "_law_heads", "_law_more", "_law_left", "_law_found", "_law_mode", "_law_person"] ["_law_pool_here", "_law_heads", "_law_more"] (defScope eB) := ⟨rfl, rfl, rfl, by decide +kernel, rfl, by decide +kernel, by decide +kernel⟩
theorem sc_Lstands : FnScope ["_law_pool_here", "_law_heads", "_law_more", "_law_found", "_law_turn", "_law_person"] ["_law_pool_here", "_law_heads", "_law_more"] (defScope dW) := ⟨rfl, rfl, rfl, by decide +kernel, rfl, by decide +kernel, by decide +kernel⟩
theorem sc_law : FnScope ["_law_script", "_law_sizes_here", "_law_k", "_law_pool_here", "_law_heads", "_law_more", "_law_stand"] ["_law_script"] (defScope gN) := ⟨rfl, rfl, rfl, by decide +kernel, rfl, by decide +kernel, by decide +kernel⟩
end
end DLP
set_option maxHeartbeats 0
namespace DLP
open PySem PySem.Spec PyProof.Rows L2 DL
section
theorem x3 (s : PySem.W.SharedT) : zB s = hkH.obs s.abs := vy (HandSHeadRun.getT_eq s)
end
end DLP
set_option maxHeartbeats 4000000
namespace DL
open PySem PySem.Spec PyProof.Rows L2
section
section
variable {α β : Type} {env : List DL.Slot} {E : Exn → List DL.Slot → Prop}
theorem aL (m : M α) (k : α → M β) (Q : β → List DL.Slot → Prop) : aq m k env Q E = m env (fun a env' => k a env' Q E) E := rfl
theorem aP (a : α) (Q : α → List DL.Slot → Prop) : DL.ret a env Q E = Q a env := rfl
theorem aM (p : Prop) (m : M α) (Q : α → List DL.Slot → Prop) : fV p m env Q E = (p ∧ m env Q E) := rfl
theorem aE (Q : α → List DL.Slot → Prop) : (fail : M α) env Q E = False := rfl
theorem aS (c : Prop) [Decidable c] (m n : M α) (Q : α → List DL.Slot → Prop) : (if c then m else n) env Q E = if c then m env Q E else n env Q E := by split <;> rfl
end
theorem ac {α : Type} (a : α) (l : List α) : (a :: l)[0]? = some a := rfl
theorem aa {α : Type} (a : α) (l : List α) (n : Nat) : (a :: l)[n + 1]? = l[n]? := rfl
theorem aD {α : Type} (idx : List Nat) (us ws : List α) : pick idx us ws = idx.filterMap fun i => (us ++ ws)[i]? := rfl
theorem cg {α : Type} (x y z : α) : atI [x, y, z] 0 = some x := rfl
theorem b9 {α : Type} (x y z : α) : atI [x, y, z] 1 = some y := rfl
theorem b8 {α : Type} (x y z : α) : atI [x, y, z] 2 = some z := rfl
theorem bZ : ixN 3 0 = some 0 := rfl
theorem bY : ixN 3 1 = some 1 := rfl
theorem bX : ixN 3 2 = some 2 := rfl
theorem km {e : List DL.Slot} : ∀ {vs : List Nat}, (aX e vs).length = e.length
  | [] => rfl
  | v :: vs => by show ((aX e vs).set v _).length = _; rw [List.length_set, km]
theorem kj {e : List DL.Slot} {j : Nat} : ∀ {vs : List Nat}, j ∉ vs → (aX e vs)[j]? = e[j]?
  | [], _ => rfl
  | v :: vs, h => by
    show ((aX e vs).set v _)[j]? = _
    rw [List.getElem?_set_ne fun z => h (by simp [z]), kj fun z => h (List.mem_cons_of_mem _ z)]
theorem qp {e0 e e' : List DL.Slot} {vs : List Nat} (h : aX e vs = aX e' vs) : aO e0 e vs = aO e0 e' vs := by
  have hl : e.length = e'.length := by have := congrArg List.length h; rwa [km, km] at this
  refine List.ext_getElem? fun j => ?_
  by_cases hj : j ∈ vs
  · by_cases hl' : j < e.length
    · have a : j < (aO e0 e vs).length := by rw [iy]; exact hl'
      have b : j < (aO e0 e' vs).length := by rw [iy]; omega
      rw [List.getElem?_eq_getElem a, List.getElem?_eq_getElem b]
      rw [jq hj (List.getElem?_eq_getElem a), jq hj (List.getElem?_eq_getElem b)]
    · rw [List.getElem?_eq_none (by rw [iy]; omega), List.getElem?_eq_none (by rw [iy]; omega)]
  · rw [iW hj, iW hj, ← kj hj, h, kj hj]
theorem az (tg : D → M Unit) (m : M Fl) (env : List DL.Slot) (Q E) : forL tg m [] env Q E = Q .nx env := rfl
theorem aj (tg : D → M Unit) (m : M Fl) (d : D) (ds : List D) (env : List DL.Slot) (Q E) : forL tg m (d :: ds) env Q E = tg d env (fun _ e1 => m e1 (fun f e2 => m9 (forL tg m ds) f e2 Q E) E) E := rfl
theorem au (a : M Fl) (env : List DL.Slot) (Q E) : m9 a .nx env Q E = a env Q E := rfl
theorem ay (a : M Fl) (r : Res) (env : List DL.Slot) (Q E) : m9 a (.rt r) env Q E = Q (.rt r) env := rfl
section
variable {env : List DL.Slot} {Q : D → List DL.Slot → Prop} {E : Exn → List DL.Slot → Prop}
theorem aW (a b : Int) : lu (.int a) (.int b) env Q E = Q (.bl (a == b)) env := by show ((_ ∧ _) ∧ _) = _; simp only [show gq (.int a) = true from rfl, show gq (.int b) = true from rfl, true_and]; rfl
theorem aU (b : Int) : lu .non (.int b) env Q E = Q (.bl false) env := by show ((_ ∧ _) ∧ _) = _; simp only [show gq .non = true from rfl, show gq (.int b) = true from rfl, true_and]; rfl
theorem aV (a : Int) : lu (.int a) .non env Q E = Q (.bl false) env := by show ((_ ∧ _) ∧ _) = _; simp only [show gq .non = true from rfl, show gq (.int a) = true from rfl, true_and]; rfl
theorem aT (a b : Str) : lu (.str a) (.str b) env Q E = Q (.bl (a == b)) env := rfl
theorem aR (a b : Int) : ki (.int a) (.int b) env Q E = Q (.bl (!(a == b))) env := by show ((_ ∧ _) ∧ _) = _; simp only [show gq (.int a) = true from rfl, show gq (.int b) = true from rfl, true_and]; rfl
theorem aQ (a b : Str) : ki (.str a) (.str b) env Q E = Q (.bl (!(a == b))) env := rfl
end
theorem fA : (0 ≤ sizeLine) = True := eq_true (by rw [sizeLine_eq]; decide)
theorem fy : (1 ≤ sizeLine) = True := eq_true (by rw [sizeLine_eq]; decide)
theorem fx : (2 ≤ sizeLine) = True := eq_true (by rw [sizeLine_eq]; decide)
theorem fw : (3 ≤ sizeLine) = True := eq_true (by rw [sizeLine_eq]; decide)
theorem fv : (4 ≤ sizeLine) = True := eq_true (by rw [sizeLine_eq]; decide)
theorem fu : (5 ≤ sizeLine) = True := eq_true (by rw [sizeLine_eq]; decide)
theorem ft : (6 ≤ sizeLine) = True := eq_true (by rw [sizeLine_eq]; decide)
theorem fo : (7 ≤ sizeLine) = True := eq_true (by rw [sizeLine_eq]; decide)
theorem fk : (8 ≤ sizeLine) = True := eq_true (by rw [sizeLine_eq]; decide)
theorem aF (tg : D → M Unit) (vs : List Nat) (cond : M Bool) (elt : M D) (acc : List D) (env : List DL.Slot) (Q E) : hZ tg vs cond elt [] acc env Q E = Q acc env := rfl
theorem aA (tg : D → M Unit) (vs : List Nat) (cond : M Bool) (elt : M D) (d : D) (ds acc : List D) (env : List DL.Slot) (Q E) : hZ tg vs cond elt (d :: ds) acc env Q E = tg d (aX env vs) (fun _ e => cond e (fun c e2 => if c = true then elt e2 (fun y e3 => acc.length < sizeLine ∧ hZ tg vs cond elt ds (acc ++ [y]) e3 Q E) E else hZ tg vs cond elt ds acc e2 Q E) E) E := by
  show tg d (aX env vs) (fun _ e => cond e (fun c e2 => (if c = true then aq elt fun y => fV (acc.length < sizeLine) (hZ tg vs cond elt ds (acc ++ [y])) else hZ tg vs cond elt ds acc) e2 Q E) E) E = _
  congr 1
  funext _ e
  congr 1
  funext c e2
  cases c <;> rfl
theorem aw (items : M (List D)) (tg : D → M Unit) (vs : List Nat) (cond : M Bool) (elt : M D) (env : List DL.Slot) (Q E) : gZ items tg vs cond elt env Q E = items env (fun ds env1 => hZ tg vs cond elt ds [] env1 (fun acc env2 => Q (.lst acc) (aO env1 env2 vs)) fun _ _ => False) E := rfl
theorem fS : (0 < sizeLine) = True := eq_true (by rw [sizeLine_eq]; decide)
theorem fR : (1 < sizeLine) = True := eq_true (by rw [sizeLine_eq]; decide)
theorem fQ : (2 < sizeLine) = True := eq_true (by rw [sizeLine_eq]; decide)
theorem fP : (3 < sizeLine) = True := eq_true (by rw [sizeLine_eq]; decide)
theorem fO : (4 < sizeLine) = True := eq_true (by rw [sizeLine_eq]; decide)
theorem fN : (5 < sizeLine) = True := eq_true (by rw [sizeLine_eq]; decide)
theorem fM : (6 < sizeLine) = True := eq_true (by rw [sizeLine_eq]; decide)
theorem fL : (7 < sizeLine) = True := eq_true (by rw [sizeLine_eq]; decide)
theorem fK : (8 < sizeLine) = True := eq_true (by rw [sizeLine_eq]; decide)
end
section
mutual
theorem wK : ∀ d : D, uO d = true → ig d = true ∧ (py d).showable = true ∧ (py d).hasDict = false ∧ (py d).leavesShort 13 = true
  | .non, _ => ⟨rfl, rfl, rfl, rfl⟩
  | .bl _, _ => ⟨rfl, rfl, rfl, rfl⟩
  | .int i, h => by
    have q : -1000000000 < i ∧ i < 1000000000 := by simpa [uO] using h
    refine ⟨rfl, ?_, rfl, ?_⟩
    · show decide (i.natAbs.log2 < 1920) = true
      refine decide_eq_true ?_
      have a : i.natAbs < 2 ^ 30 := by omega
      have := Nat.log2_lt (n := i.natAbs) (k := 30)
      by_cases z : i.natAbs = 0
      · rw [z]; decide
      · have := (Nat.log2_lt z).mpr a; omega
    · show decide ((PyData.shown (.int i)).length ≤ 13) = true
      exact decide_eq_true (PyData.shown_int_le2 (by omega) (by omega))
  | .str _, e => by cases e
  | .byt _, e => by cases e
  | .hall _ _, e => by cases e
  | .scr _, e => by cases e
  | .pr _, e => by cases e
  | .tup ds, h => pP ds (by simpa [uO] using h)
  | .lst ds, h => pP ds (by simpa [uO] using h)
theorem pP : ∀ ds : List D, uV ds = true → iN ds = true ∧ PyData.showableAll (jW ds) = true ∧ PyData.hasDictAll (jW ds) = false ∧ PyData.leavesShortAll 13 (jW ds) = true
  | [], _ => ⟨rfl, rfl, rfl, rfl⟩
  | d :: ds, h => by
    have q : uO d = true ∧ uV ds = true := by simpa [uV] using h
    obtain ⟨a1, a2, a3, a4⟩ := wK d q.1
    obtain ⟨b1, b2, b3, b4⟩ := pP ds q.2
    refine ⟨?_, ?_, ?_, ?_⟩
    · show (ig d && iN ds) = true; rw [a1, b1]; rfl
    · show ((py d).showable && PyData.showableAll (jW ds)) = true; rw [a2, b2]; rfl
    · show ((py d).hasDict || PyData.hasDictAll (jW ds)) = false; rw [a3, b3]; rfl
    · show ((py d).leavesShort 13 && PyData.leavesShortAll 13 (jW ds)) = true; rw [a4, b4]; rfl
end
def tm (d : D) : Bool := rh d && uO d && decide ((py d).depth ≤ 64) && decide ((py d).bulk ≤ 1000000)
def lJ (d : D) : Str := (py d).shown
theorem oL {d : D} (h : tm d = true) (env : List DL.Slot) (Q E) : oM d env Q E = Q (.str (lJ d)) env := by
  simp only [tm, Bool.and_eq_true, decide_eq_true_eq] at h
  obtain ⟨⟨⟨h1, h2⟩, h3⟩, h4⟩ := h
  obtain ⟨a1, a2, a3, a4⟩ := wK d h2
  have s : oH (py d) = true := by
    unfold oH
    rw [a2, a3, a4, decide_eq_true h3, decide_eq_true (show (py d).bulk ≤ 2 ^ 20 by omega)]
    rfl
  show ((_ ∧ _ ∧ _) ∧ _) = _
  simp only [h1, a1, s, true_and]
  rfl
theorem Row.rep {d : D} {n b : Nat} (h : Row d n b) (c : rh d = true) (h1 : n ≤ 64) (h2 : b ≤ 1000000) : tm d = true := by
  unfold tm
  rw [c, h.sm, decide_eq_true (Nat.le_trans h.dp h1), decide_eq_true (Nat.le_trans h.bk h2)]; rfl
end
section
/-- m at env tells a and leaves env' -/
abbrev Runs {α : Type} (m : M α) (env : List DL.Slot) (a : α) (env' : List DL.Slot) : Prop := ∀ Q E, m env Q E = Q a env'
theorem qW {tg : D → M Unit} {body : M Fl} {Q : Fl → List DL.Slot → Prop} {E : Exn → List DL.Slot → Prop} {R : Prop} (I : Nat → List DL.Slot → Prop) :
    ∀ (ds pre : List D) (env : List DL.Slot), I pre.length env → (∀ i d env, (pre ++ ds)[i]? = some d → I i env → ∃ e1 e2, Runs (tg d) env () e1 ∧ Runs body e1 .nx e2 ∧ I (i + 1) e2) →
      (∀ env, I (pre ++ ds).length env → Q .nx env = R) → forL tg body ds env Q E = R
  | [], pre, env, h0, _, hq => hq env (by simpa using h0)
  | d :: ds, pre, env, h0, turn, hq => by
    obtain ⟨e1, e2, r1, r2, i2⟩ := turn pre.length d env (by simp) h0
    rw [aj, r1, r2, au]
    exact qW I ds (pre ++ [d]) e2 (by simpa using i2) (by simpa using turn) (by simpa using hq)
/-- .. from the start -/
theorem vS {tg : D → M Unit} {body : M Fl} {ds : List D} {env : List DL.Slot} {Q : Fl → List DL.Slot → Prop} {E : Exn → List DL.Slot → Prop} {R : Prop} (I : Nat → List DL.Slot → Prop) (h0 : I 0 env)
    (turn : ∀ i d env, ds[i]? = some d → I i env → ∃ e1 e2, Runs (tg d) env () e1 ∧ Runs body e1 .nx e2 ∧ I (i + 1) e2) (hq : ∀ env, I ds.length env → Q .nx env = R) : forL tg body ds env Q E = R :=
  qW I ds [] env h0 turn hq
/-- the same where nothing is changed: what each item gives -/
theorem gr {items : M (List D)} {tg : D → M Unit} {vs : List Nat} {cond : M Bool} {elt : M D} {env : List DL.Slot} {α : Type} (l : List α) (c : α → D) (P : α → Bool) (f : α → D) (hi : Runs items env (l.map c) env) (hl : l.length ≤ 1000000) (hb : aO env env vs = env)
    (turn : ∀ a ∈ l, ∃ e1, aX e1 vs = aX env vs ∧ Runs (tg (c a)) (aX env vs) () e1 ∧ Runs cond e1 (P a) e1 ∧ (P a = true → Runs elt e1 (f a) e1)) : Runs (gZ items tg vs cond elt) env (.lst ((l.filter P).map f)) env := by
  intro Q E
  rw [aw, hi]
  have key : ∀ (l : List α) (acc : List D) (e : List DL.Slot), aX e vs = aX env vs → acc.length + l.length ≤ 1000000 → (∀ a ∈ l, ∃ e1, aX e1 vs = aX env vs ∧ Runs (tg (c a)) (aX env vs) () e1 ∧ Runs cond e1 (P a) e1 ∧ (P a = true → Runs elt e1 (f a) e1)) →
      hZ tg vs cond elt (l.map c) acc e (fun acc env2 => Q (.lst acc) (aO env env2 vs)) (fun _ _ => False) = Q (.lst (acc ++ (l.filter P).map f)) env := by
    intro l
    induction l with
    | nil =>
      intro acc e he _ _
      show Q (.lst acc) (aO env e vs) = _
      rw [qp he, hb]; simp
    | cons a l ih =>
      intro acc e he hz ht
      obtain ⟨e1, w1, r1, r2, r3⟩ := ht a (by simp)
      rw [List.length_cons] at hz
      rw [List.map_cons, aA, he, r1, r2]
      cases p : P a with
      | false =>
        rw [if_neg Bool.false_ne_true, ih acc e1 w1 (by omega) fun b hb => ht b (List.mem_cons_of_mem _ hb), List.filter_cons, p, if_neg Bool.false_ne_true]
      | true =>
        have sz : acc.length < sizeLine := by rw [sizeLine_eq]; omega
        rw [if_pos rfl, r3 p, show (acc.length < sizeLine) = True from eq_true sz, true_and, ih (acc ++ [f a]) e1 w1 (by rw [List.length_append]; simp; omega) fun b hb => ht b (List.mem_cons_of_mem _ hb), List.filter_cons, p, if_pos rfl]
        simp
  rw [key l [] env rfl (by simpa using hl) turn, List.nil_append]
theorem jD {ι : Type} {tg : D → M Unit} {vs : List Nat} {cond : M Bool} {elt : M D} (I : Nat → List D → (ι → List DL.Slot) → Prop) : ∀ (ds pre acc : List D) (env : ι → List DL.Slot), I pre.length acc env →
    (∀ i d acc env, (pre ++ ds)[i]? = some d → I i acc env → ∃ (e1 : ι → List DL.Slot) (c : Bool) (e2 : ι → List DL.Slot), (∀ x, Runs (tg d) (aX (env x) vs) () (e1 x)) ∧ (∀ x, Runs cond (e1 x) c (e2 x)) ∧ (c = false → I (i + 1) acc e2) ∧ (c = true → ∃ (y : D) (e3 : ι → List DL.Slot), (∀ x, Runs elt (e2 x) y (e3 x)) ∧ acc.length < sizeLine ∧ I (i + 1) (acc ++ [y]) e3)) →
    ∃ (acc' : List D) (env' : ι → List DL.Slot), I (pre ++ ds).length acc' env' ∧ ∀ x Q E, hZ tg vs cond elt ds acc (env x) Q E = Q acc' (env' x)
  | [], pre, acc, env, h0, _ => ⟨acc, env, by simpa using h0, fun x Q E => rfl⟩
  | d :: ds, pre, acc, env, h0, turn => by
    obtain ⟨e1, c, e2, r1, r2, hf, ht⟩ := turn pre.length d acc env (by simp) h0
    cases c with
    | false =>
      obtain ⟨acc', env', i', run⟩ := jD I ds (pre ++ [d]) acc e2 (by simpa using hf rfl) (by simpa using turn)
      refine ⟨acc', env', by simpa using i', fun x Q E => ?_⟩
      rw [aA, r1, r2, if_neg Bool.false_ne_true, run]
    | true =>
      obtain ⟨y, e3, r3, lz, i3⟩ := ht rfl
      obtain ⟨acc', env', i', run⟩ := jD I ds (pre ++ [d]) (acc ++ [y]) e3 (by simpa using i3) (by simpa using turn)
      refine ⟨acc', env', by simpa using i', fun x Q E => ?_⟩
      rw [aA, r1, r2, if_pos rfl, r3, show (acc.length < sizeLine) = True from eq_true lz, true_and, run]
theorem uK {ι : Type} {items : M (List D)} {tg : D → M Unit} {vs : List Nat} {cond : M Bool} {elt : M D} {env : ι → List DL.Slot} (ds : List D) (hi : ∀ x, Runs items (env x) ds (env x)) (I : Nat → List D → (ι → List DL.Slot) → Prop) (h0 : I 0 [] env)
    (turn : ∀ i d acc env, ds[i]? = some d → I i acc env → ∃ (e1 : ι → List DL.Slot) (c : Bool) (e2 : ι → List DL.Slot), (∀ x, Runs (tg d) (aX (env x) vs) () (e1 x)) ∧ (∀ x, Runs cond (e1 x) c (e2 x)) ∧ (c = false → I (i + 1) acc e2) ∧ (c = true → ∃ (y : D) (e3 : ι → List DL.Slot), (∀ x, Runs elt (e2 x) y (e3 x)) ∧ acc.length < sizeLine ∧ I (i + 1) (acc ++ [y]) e3)) :
    ∃ (acc' : List D) (env' : ι → List DL.Slot), I ds.length acc' env' ∧ ∀ x Q E, gZ items tg vs cond elt (env x) Q E = Q (.lst acc') (aO (env x) (env' x) vs) := by
  obtain ⟨acc', env', i', run⟩ := jD I ds [] [] env h0 turn
  exact ⟨acc', env', i', fun x Q E => by rw [aw, hi, run]⟩
end
section
theorem wb {a b : D} (h : ∀ s, a ≠ .str s) (ha : gq a = true) (hb : gq b = true) (env : List DL.Slot) (Q E) : lu a b env Q E = Q (.bl (eqv a b)) env := by
  have e : lu a b = fV (gq a = true ∧ gq b = true) (DL.ret (.bl (eqv a b))) := by
    unfold lu
    split
    · exact absurd rfl (h _)
    · rfl
  rw [e, aM, ha, hb]
  simp only [true_and]
  rfl
theorem qL {a b : D} (h : ∀ s, a ≠ .str s) (ha : gq a = true) (hb : gq b = true) (env : List DL.Slot) (Q E) : ki a b env Q E = Q (.bl (!eqv a b)) env := by
  have e : ki a b = fV (gq a = true ∧ gq b = true) (DL.ret (.bl (!eqv a b))) := by
    unfold ki
    split
    · exact absurd rfl (h _)
    · rfl
  rw [e, aM, ha, hb]
  simp only [true_and]
  rfl
end
section
end
end DL
namespace MW
def nums (n : Int) : List Int := (List.range n.toNat).map fun i => ((i : Nat) : Int)
theorem hV (n : Int) : (nums n).length = n.toNat := by unfold nums; rw [List.length_map, List.length_range]
theorem nums_mem {n i : Int} : i ∈ nums n ↔ 0 ≤ i ∧ i < n := by
  unfold nums
  rw [List.mem_map]
  constructor
  · rintro ⟨k, hk, rfl⟩; rw [List.mem_range] at hk; omega
  · intro h; exact ⟨i.toNat, by rw [List.mem_range]; omega, by omega⟩
theorem lW (n : Int) : (nums n).Nodup := by
  unfold nums
  rw [List.nodup_iff_pairwise_ne, List.pairwise_map]
  exact List.Pairwise.imp (fun {a b} h e => h (by omega)) (List.nodup_iff_pairwise_ne.mp List.nodup_range)
theorem t9 {n : Int} {i : Nat} (h : i < n.toNat) : (nums n)[i]? = some (i : Int) := by
  unfold nums
  rw [List.getElem?_map, List.getElem?_range h]; rfl
/-- the seats of those who are in are seats, each once -/
structure Stand (g s : Int) (st : Sd) : Prop where
  len : (st.length : Int) = g
  hg : 1 ≤ g ∧ g ≤ 24
  hs : 0 ≤ s ∧ s ≤ 6
  bd : ∀ i, some i ∈ st → 0 ≤ i ∧ i < g + s
  nd : st.Pairwise fun o p => o = none ∨ o ≠ p
section
variable {g s : Int} {st : Sd}
theorem seat_get {i v : Int} : gk st i = some v ↔ 0 ≤ i ∧ st[i.toNat]? = some (some v) := by
  unfold gk
  by_cases h : 0 ≤ i
  · rw [if_pos h]
    cases e : st[i.toNat]? with
    | none => simp
    | some o => cases o <;> simp [h]
  · rw [if_neg h]; simp [h]
theorem lL {k : Nat} {o : Option Int} (h : st[k]? = some o) : gk st (k : Int) = o := by
  unfold gk
  rw [if_pos (by omega), Int.toNat_natCast, h]; rfl
theorem uX {i v : Int} (h : gk st i = some v) : 0 ≤ i ∧ i < st.length := by
  obtain ⟨h1, h2⟩ := seat_get.mp h
  have := (List.getElem?_eq_some_iff.mp h2).1
  omega
theorem Stand.bound (S : Stand g s st) {i v : Int} (h : gk st i = some v) : (0 ≤ i ∧ i < g) ∧ 0 ≤ v ∧ v < g + s := by
  have a := uX h
  have b := S.bd v (List.mem_of_getElem? (seat_get.mp h).2)
  have := S.len
  omega
theorem Stand.uniq (S : Stand g s st) {i j v : Int} (h1 : gk st i = some v) (h2 : gk st j = some v) : i = j := by
  obtain ⟨a1, b1⟩ := seat_get.mp h1
  obtain ⟨a2, b2⟩ := seat_get.mp h2
  obtain ⟨li, ei⟩ := List.getElem?_eq_some_iff.mp b1
  obtain ⟨lj, ej⟩ := List.getElem?_eq_some_iff.mp b2
  have pw := List.pairwise_iff_getElem.mp S.nd
  rcases Nat.lt_trichotomy i.toNat j.toNat with z | z | z
  · have := pw _ _ li lj z
    rw [ei, ej] at this
    rcases this with y | y
    · cases y
    · exact (y rfl).elim
  · omega
  · have := pw _ _ lj li z
    rw [ei, ej] at this
    rcases this with y | y
    · cases y
    · exact (y rfl).elim
def it (st : Sd) : Nat → Int → Option Int
  | 0, x => some x
  | n + 1, x => (hold st x).bind (it st n)
def put (st : Sd) (i : Int) (o : Option Int) : Sd := st.set i.toNat o
theorem vc {i : Int} {o : Option Int} : (put st i o).length = st.length := List.length_set ..
theorem oI {i j : Int} {o : Option Int} (hi : 0 ≤ i ∧ i < st.length) : gk (put st i o) j = if j = i then o else gk st j := by
  unfold gk put
  by_cases hj : 0 ≤ j
  · rw [if_pos hj]
    by_cases e : j = i
    · subst e
      rw [if_pos rfl, List.getElem?_set_self (by omega)]; rfl
    · rw [if_neg e, if_pos hj, List.getElem?_set_ne (by omega)]
  · rw [if_neg hj, if_neg hj, if_neg (by omega)]
theorem sW {g s : Int} {st : Sd} (len : (st.length : Int) = g) (hg : 1 ≤ g ∧ g ≤ 24) (hs : 0 ≤ s ∧ s ≤ 6) (bd : ∀ i v, gk st i = some v → 0 ≤ v ∧ v < g + s) (un : ∀ i j v, gk st i = some v → gk st j = some v → i = j) : Stand g s st := by
  refine ⟨len, hg, hs, fun v hv => ?_, ?_⟩
  · obtain ⟨k, hk⟩ := List.mem_iff_getElem?.mp hv
    exact bd k v (lL hk)
  · rw [List.pairwise_iff_getElem]
    intro i j hi hj l
    cases e : st[i] with
    | none => exact .inl rfl
    | some v =>
      refine .inr fun z => ?_
      have := un i j v (lL (by rw [List.getElem?_eq_getElem hi, e])) (lL (by rw [List.getElem?_eq_getElem hj, ← z]))
      omega
theorem Stand.put (S : Stand g s st) {i : Int} {o : Option Int} (hi : 0 ≤ i ∧ i < g) (hb : ∀ e, o = some e → 0 ≤ e ∧ e < g + s) (hn : ∀ e j, o = some e → gk st j = some e → j = i) : Stand g s (put st i o) := by
  have hi' : 0 ≤ i ∧ i < st.length := by have := S.len; omega
  refine sW (by rw [vc]; exact S.len) S.hg S.hs (fun j v h => ?_) fun j k v h1 h2 => ?_
  · rw [oI hi'] at h
    split at h
    · exact hb v h
    · exact (S.bound h).2
  · rw [oI hi'] at h1 h2
    split at h1
    · rename_i e1
      split at h2
      · rename_i e2; rw [e1, e2]
      · rename_i e2; exact absurd (hn v k h1 h2) e2
    · rename_i e1
      split at h2
      · exact absurd (hn v j h2 h1) e1
      · exact S.uniq h1 h2
end
end MW
namespace DLP
open PySem PySem.Spec PyProof.Rows L2 DL
section
structure Tx (K : PySem.W.Frag) (mg : Str → Option Value) (C : Addr) (a : Nat → Addr) (d : Nat → FuncData) : Prop where
  hall : HallK K C
  hfm : PySem.W.findIn K (.ref C) "__format__" = some (some (.builtin "object.__format__"))
  eqf : HE.EqF K C (a 2)
  hbl : PySem.W.findIn K (.ref C) "__bool__" = some none
  u_Lcell : Df K mg "_law_cell" "_law_cell" eR ["_law_script", "_law_k"] (a 0) (d 0)
  u_Lpool : Df K mg "_law_pool" "_law_pool" fX ["_law_cell_here"] (a 1) (d 1)
  u_Hall_eq : Dm K C "__eq__" "Hall.__eq__" eC ["self", "other"] (a 2) (d 2)
  u_is_whole : Df K mg "is_whole" "is_whole" dR ["thing", "least", "most"] (a 3) (d 3)
  u_Hall_init : Fun K "__init__" "Hall.__init__" dJ (a 4) (d 4)
  mkC : Mk K C (a 4)
  u_Lrow : Df K mg "_law_row" "_law_row" gv ["_law_heads", "_law_more", "_law_stand"] (a 5) (d 5)
  u_Ltext : Df K mg "_law_text" "_law_text" fg ["_law_heads", "_law_more", "_law_stand"] (a 6) (d 6)
  u_hall_of : Df K mg "hall_of" "hall_of" ez ["hall"] (a 7) (d 7)
  u_Hall_seats : Dm K C "seats" "Hall.seats" dE ["self"] (a 8) (d 8)
  u_is_seat : Df K mg "is_seat" "is_seat" eh ["hall", "thing"] (a 9) (d 9)
  u_first_odd : Df K mg "first_odd" "first_odd" dI ["hall", "thing"] (a 10) (d 10)
  u_seated : Df K mg "seated" "seated" eN ["hall", "standing"] (a 11) (d 11)
  u_pack_standing : Df K mg "pack_standing" "pack_standing" cw ["hall", "standing"] (a 12) (d 12)
  u_is_standing : Df K mg "is_standing" "is_standing" cQ ["hall", "thing"] (a 13) (d 13)
  u_number_in : Df K mg "number_in" "number_in" dF ["word"] (a 14) (d 14)
  u_read_standing : Df K mg "read_standing" "read_standing" cq ["text"] (a 15) (d 15)
  u_Hall_str : Dm K C "__str__" "Hall.__str__" dU ["self"] (a 16) (d 16)
  u_show_standing : Df K mg "show_standing" "show_standing" cu ["hall", "standing"] (a 17) (d 17)
  u_unpack_standing : Df K mg "unpack_standing" "unpack_standing" bE ["data"] (a 18) (d 18)
  u_Lright : Df K mg "_law_right" "_law_right" eQ ["_law_heads", "_law_more", "_law_stand"] (a 19) (d 19)
  u_Ltake : Df K mg "_law_take" "_law_take" fW ["_law_pool_here", "_law_wide"] (a 20) (d 20)
  u_Lsizes : Df K mg "_law_sizes" "_law_sizes" eO ["_law_pool_here", "_law_upto"] (a 21) (d 21)
  u_Lseated : Df K mg "_law_seated" "_law_seated" eB ["_law_pool_here", "_law_heads", "_law_more"] (a 22) (d 22)
  u_Lstands : Df K mg "_law_stands" "_law_stands" dW ["_law_pool_here", "_law_heads", "_law_more"] (a 23) (d 23)
  u_law : Df K mg "law" "law" gN ["_law_script"] (a 24) (d 24)
  g_Hall : mg "Hall" = some (.ref C)
  b_abs : mg "abs" = none
  b_all : mg "all" = none
  b_bool : mg "bool" = none
  b_bytes : mg "bytes" = none
  b_divmod : mg "divmod" = none
  b_enumerate : mg "enumerate" = none
  b_int : mg "int" = none
  b_isinstance : mg "isinstance" = none
  b_len : mg "len" = none
  b_list : mg "list" = none
  b_max : mg "max" = none
  b_min : mg "min" = none
  b_range : mg "range" = none
  b_repr : mg "repr" = none
  b_set : mg "set" = none
  b_str : mg "str" = none
  b_sum : mg "sum" = none
  b_tuple : mg "tuple" = none
  b_zip : mg "zip" = none
  c_FIGURES : ∃ u, mg "FIGURES" = some u ∧ RelV (.str "0123456789") u
  c_MARK : ∃ u, mg "MARK" = some u ∧ RelV (.int 87) u
  c_MOST : ∃ u, mg "MOST" = some u ∧ RelV (.int 24) u
  c_ROUND : ∃ u, mg "ROUND" = some u ∧ RelV (.int 251) u
  c_SPARE : ∃ u, mg "SPARE" = some u ∧ RelV (.int 6) u
section
variable [Tbs]
variable {P : Program} {w : World} {K : PySem.W.Frag} {mg : Str → Option Value} {base : Heap} {C : Addr} {a : Nat → Addr} {d : Nat → FuncData}
theorem gO (T : Tx K mg C a d) : KwD K (d 17) ["hall", "standing"] 0 ["standing", "hall"] (pick [1, 0]) (pick [1, 0]) (pick [1, 0]) := nX [1, 0] T.u_show_standing.fn (by decide) rfl fun _ _ _ _ _ _ us ws h1 h2 => match us, ws, h1, h2 with | [], [_, _], _, _ => rfl
theorem gQ (T : Tx K mg C a d) : KwD K (d 12) ["hall", "standing"] 0 ["standing", "hall"] (pick [1, 0]) (pick [1, 0]) (pick [1, 0]) := nX [1, 0] T.u_pack_standing.fn (by decide) rfl fun _ _ _ _ _ _ us ws h1 h2 => match us, ws, h1, h2 with | [], [_, _], _, _ => rfl
theorem iF (T : Tx K mg C a d) : KwD K (d 18) ["data"] 0 ["data"] (pick [0]) (pick [0]) (pick [0]) := nX [0] T.u_unpack_standing.fn (by decide) rfl fun _ _ _ _ _ _ us ws h1 h2 => match us, ws, h1, h2 with | [], [_], _, _ => rfl
theorem iQ (T : Tx K mg C a d) : KwD K (d 15) ["text"] 0 ["text"] (pick [0]) (pick [0]) (pick [0]) := nX [0] T.u_read_standing.fn (by decide) rfl fun _ _ _ _ _ _ us ws h1 h2 => match us, ws, h1, h2 with | [], [_], _, _ => rfl
theorem jP (T : Tx K mg C a d) : KwM K (d 4) ["self", "guests", "spare"] 1 ["spare"] (pick [0, 1]) (pick [0, 1, 2]) (pick [0, 1, 2]) (pick [0, 1]) := ya [0, 1] T.u_Hall_init (by decide) rfl fun _ _ _ _ _ _ us ws h1 h2 => match us, ws, h1, h2 with | [_, _], [_], _, _ => rfl
theorem t5 (T : Tx K mg C a d) : FnG P w K mg base 1 (a 0) (d 0) ["_law_script", "_law_k"] (h8 ⟨C, mg, K, w, P⟩ 2 (j7 C)) :=
  lq T.u_Lcell.fn sc_Lcell rfl (by decide) fun cdv A outer s H E hr hG => bG (s_if (d8 op_lt n8 (ah (pv 1)) (gb call_len j5 rfl T.b_len boot_len (aG (ah (pv 0)) cC)) rfl) (cD (s_ret (j9 (ah (pv 0)) (ah (pv 1))))) e8) (bG (iM sc_Lcell.nd rfl (Or.inl rfl) (j8 (kX aY (fZ (fZ (kX (ah (pv 1)) (ah (pv 1))) (kX aY (ah (pv 1)))) aY)) aY)) (bG (mR (passes_of rfl) rfl (nq (zo (ah (pv 0)) pY (lT aY))) (dZ sc_Lcell.nd rfl (Or.inl rfl)) (cD (iM sc_Lcell.nd rfl (Or.inl rfl) (j8 (fZ (kX (ah (pv 2)) aY) (ah (pv 3))) aY))) (fun _ _ _ _ h => eM h)) (cD (s_ret (ah (pv 2))))))
theorem tZ (T : Tx K mg C a d) : FnG P w K mg base 1 (a 1) (d 1) ["_law_cell_here"] (h8 ⟨C, mg, K, w, P⟩ 1 (i9 C)) :=
  lq T.u_Lpool.fn sc_Lpool rfl (by decide) fun cdv A outer s H E hr hG => bG (iM sc_Lpool.nd rfl (Or.inl rfl) aY) (bG (s_if (PW.pt (w_or (d8 op_lt n8 (ah (pv 0)) aY rfl) (jf (d8 op_ge vZ (ah (pv 0)) (zp aY aY) rfl)))) (cD (iM sc_Lpool.nd rfl (Or.inl rfl) (gb call_abs uA rfl T.b_abs boot_abs (aG (ah (pv 0)) cC)))) e8) (cD (xu (wV (aG (j8 (ah (pv 0)) aY) (aG (ah (pv 1)) (aG aY cC)))))))
theorem qb (T : Tx K mg C a d) : FnG P w K mg base 1 (a 2) (d 2) ["self", "other"] (h8 ⟨C, mg, K, w, P⟩ 2 (hH C)) :=
  lq T.u_Hall_eq.fn pT rfl (by decide) fun cdv A outer s H E hr hG => cD (s_ret (uH (ka (ct := .hall) T.hall rfl T.b_isinstance (ah (pv 1)) (pe_glob rfl T.g_Hall rfl)) (w6 (q9 (iK hr.units) hO (jn (aG (sA T.hall (ah (pv 0))) (aG (uF T.hall (ah (pv 0))) cC))) (jn (aG (sA T.hall (ah (pv 1))) (aG (uF T.hall (ah (pv 1))) cC))) rfl))))
theorem gm (T : Tx K mg C a d) : FnG P w K mg base 1 (a 3) (d 3) ["thing", "least", "most"] (h8 ⟨C, mg, K, w, P⟩ 3 (e7 C)) :=
  lq T.u_is_whole.fn oJ rfl (by decide) fun cdv A outer s H E hr hG => cD (s_ret (uH (ka (ct := .int) T.hall rfl T.b_isinstance (ah (pv 0)) (pe_bltn rfl T.b_int boot_int rfl)) (uH (zq (ka (ct := .bool) T.hall rfl T.b_isinstance (ah (pv 0)) (pe_bltn rfl T.b_bool boot_bool rfl))) (w6 (wg op_le op_le qX qX (ah (pv 1)) (ah (pv 0)) (ah (pv 2)))))))
theorem iZ (T : Tx K mg C a d) : FnG P w K mg base 2 (a 4) (d 4) ["self", "guests", "spare"] (h8 ⟨C, mg, K, w, P⟩ 3 (gF C)) :=
  lq T.u_Hall_init nJ rfl (by decide) fun cdv A outer s H E hr hG => bG (s_if (gK (gJ (dG (dO (gm T) (hr.mono (by decide)) hG (DLz.takes_of rfl rfl rfl rfl) rfl T.u_is_whole.mg T.u_is_whole.kp T.u_is_whole.bi rfl (dg (ah (pv 1)) (dg aY (dg (mC rfl T.c_MOST (fun _ _ => rfl)) cH))))))) (cD gM) e8) (bG (s_if (gK (gJ (dG (dO (gm T) (hr.mono (by decide)) hG (DLz.takes_of rfl rfl rfl rfl) rfl T.u_is_whole.mg T.u_is_whole.kp T.u_is_whole.bi rfl (dg (ah (pv 2)) (dg aY (dg (mC rfl T.c_SPARE (fun _ _ => rfl)) cH))))))) (cD gM) e8) (bG (s7 T.hall.cls T.hall.ng (pv 0) (ah (pv 1))) (cD (s7 T.hall.cls T.hall.ns (pv 0) (ah (pv 2))))))
theorem vw (T : Tx K mg C a d) : FnG P w K mg base 1 (a 5) (d 5) ["_law_heads", "_law_more", "_law_stand"] (h8 ⟨C, mg, K, w, P⟩ 3 (n9 C)) :=
  lq T.u_Lrow.fn sc_Lrow rfl (by decide) fun cdv A outer s H E hr hG => bG (iM sc_Lrow.nd rfl (Or.inl rfl) (fZ (je (aG aY (aG (ah (pv 0)) (aG (ah (pv 1)) cC)))) (kY (oU (own := [("_law_part", 4)]) rfl sc_Lrow.nd (qR (ah (pv 2))) (blkOk_by (own := [("_law_part", 4)]) (N := ["_law_heads", "_law_more", "_law_stand", "_law_row_here", "_law_part"]) (sc := (defScope gv)) (by first | decide +kernel | kernel_rfl)) (by decide) (fun _ _ _ _ h => eM h) (fun _ _ _ _ _ => dZ sc_Lrow.nd rfl (Or.inl rfl)) (fun _ _ _ _ _ => jJ) (fun _ _ _ _ _ => pH (d8 op_isN iC (ah (pv 4)) iV rfl) aY (fZ (ah (pv 4)) aY)))))) (cD (s_ret (fZ (ah (pv 3)) (je (aG (j8 (gb (cr_sum rfl) pB rfl T.b_sum (by decide +kernel) (aG (ah (pv 3)) cC)) aY) cC)))))
theorem tY (T : Tx K mg C a d) : FnG P w K mg base 1 (a 6) (d 6) ["_law_heads", "_law_more", "_law_stand"] (h8 ⟨C, mg, K, w, P⟩ 3 (lF C)) :=
  lq T.u_Ltext.fn sc_Ltext rfl (by decide) fun cdv A outer s H E hr hG => cD (s_ret (fZ (fZ (fZ (fZ (gE (jE hG (iX hr)) jz rfl T.b_str PyProof.Rows.Boot.str (aG (ah (pv 0)) cC)) gG) (gE (jE hG (iX hr)) jz rfl T.b_str PyProof.Rows.Boot.str (aG (ah (pv 1)) cC))) gG) (uE gG (kY (oU (own := [("_law_part", 3)]) rfl sc_Ltext.nd (qR (ah (pv 2))) (blkOk_by (own := [("_law_part", 3)]) (N := ["_law_heads", "_law_more", "_law_stand", "_law_part"]) (sc := (defScope fg)) (by first | decide +kernel | kernel_rfl)) (by decide) (fun _ _ _ _ h => eM h) (fun _ _ _ _ _ => dZ sc_Ltext.nd rfl (Or.inl rfl)) (fun _ _ _ _ _ => jJ) (fun _ _ _ _ _ => pH (d8 op_isN iC (ah (pv 3)) iV rfl) gG (fZ gG (gE (jE hG (iX hr)) jz rfl T.b_str PyProof.Rows.Boot.str (aG (ah (pv 3)) cC)))))))))
theorem jO (T : Tx K mg C a d) : FnG P w K mg base 1 (a 7) (d 7) ["hall"] (h8 ⟨C, mg, K, w, P⟩ 1 (iu C)) :=
  lq T.u_hall_of.fn pS rfl (by decide) fun cdv A outer s H E hr hG => bG (s_if (gK (gJ (ka (ct := .hall) T.hall rfl T.b_isinstance (ah (pv 0)) (pe_glob rfl T.g_Hall rfl)))) (cD gM) e8) (cD (s_ret (ah (pv 0))))
theorem mK (T : Tx K mg C a d) : FnG P w K mg base 1 (a 8) (d 8) ["self"] (h8 ⟨C, mg, K, w, P⟩ 1 (ii C)) :=
  lq T.u_Hall_seats.fn mJ rfl (by decide) fun cdv A outer s H E hr hG => cD (s_ret (fZ (sA T.hall (ah (pv 0))) (uF T.hall (ah (pv 0)))))
theorem p6 (T : Tx K mg C a d) : FnG P w K mg base 2 (a 9) (d 9) ["hall", "thing"] (h8 ⟨C, mg, K, w, P⟩ 2 (jC C)) :=
  lq T.u_is_seat.fn pR rfl (by decide) fun cdv A outer s H E hr hG => cD (s_ret (dG (dO (gm T) (hr.mono (by decide)) hG (DLz.takes_of rfl rfl rfl rfl) rfl T.u_is_whole.mg T.u_is_whole.kp T.u_is_whole.bi rfl (dg (ah (pv 1)) (dg aY (dg (q8 (dG (zw T.hall (mK T) (hr.mono (by decide)) hG (DLz.takes_of rfl rfl rfl rfl) T.u_Hall_seats.me T.u_Hall_seats.bi rfl (ah (pv 0)) (by decide +kernel))) aY) cH))))))
theorem j1 (T : Tx K mg C a d) : FnG P w K mg base 3 (a 10) (d 10) ["hall", "thing"] (h8 ⟨C, mg, K, w, P⟩ 2 (hX C)) :=
  lq T.u_first_odd.fn sc_first_odd rfl (by decide) fun cdv A outer s H E hr hG => bG (s_if (PW.pt (w_or (gK (gJ (ka (ct := .tuple) T.hall rfl T.b_isinstance (ah (pv 1)) (pe_bltn rfl T.b_tuple boot_tuple rfl)))) (jf (d8 (g6 hr.units) gp (gb call_len j5 rfl T.b_len boot_len (aG (ah (pv 1)) cC)) (sA T.hall (ah (pv 0))) rfl)))) (cD (s_ret iV)) e8) (bG (sZ sc_first_odd.nd rfl (Or.inl rfl) (x4 rfl T.b_set)) (bG (mR (passes_of rfl) rfl (zj rfl T.b_enumerate (aG (ah (pv 1)) cC)) (wZ rfl (lE sc_first_odd.nd rfl (Or.inl rfl) (lE sc_first_odd.nd rfl (Or.inl rfl) uo)) rfl) (cD (s_if (d8 op_notN rY (ah (pv 4)) iV rfl) (bG (s_if (PW.pt (w_or (gK (gJ (dG (dO (p6 T) (hr.mono (by decide)) hG (DLz.takes_of rfl rfl rfl rfl) rfl T.u_is_seat.mg T.u_is_seat.kp T.u_is_seat.bi rfl (dg (ah (pv 0)) (dg (ah (pv 4)) cH)))))) (jf (xg (ah (pv 4)) (pv 2) rfl)))) (cD (s_ret (ah (pv 3)))) e8) (cD (jM (yp (pv 2) (ah (pv 4)))))) e8)) lK) (cD (s_ret (nu aY)))))
theorem mW (T : Tx K mg C a d) : FnG P w K mg base 4 (a 11) (d 11) ["hall", "standing"] (h8 ⟨C, mg, K, w, P⟩ 2 (jm C)) :=
  lq T.u_seated.fn sc_seated rfl (by decide) fun cdv A outer s H E hr hG => bG (iM sc_seated.nd rfl (Or.inl rfl) (dG (dO (j1 T) (hr.mono (by decide)) hG (DLz.takes_of rfl rfl rfl rfl) rfl T.u_first_odd.mg T.u_first_odd.kp T.u_first_odd.bi rfl (dg (ah (pv 0)) (dg (ah (pv 1)) cH))))) (bG (s_if (d8 (g6 hr.units) gp (ah (pv 2)) (nu aY) rfl) (cD gM) e8) (cD (s_ret (ah (pv 1)))))
theorem g8 (T : Tx K mg C a d) : FnG P w K mg base 5 (a 12) (d 12) ["hall", "standing"] (h8 ⟨C, mg, K, w, P⟩ 2 (eV C)) :=
  lq T.u_pack_standing.fn sc_pack_standing rfl (by decide) fun cdv A outer s H E hr hG => bG (jM (dG (dO (mW T) (hr.mono (by decide)) hG (DLz.takes_of rfl rfl rfl rfl) rfl T.u_seated.mg T.u_seated.kp T.u_seated.bi rfl (dg (dG (dO (jO T) (hr.mono (by decide)) hG (DLz.takes_of rfl rfl rfl rfl) rfl T.u_hall_of.mg T.u_hall_of.kp T.u_hall_of.bi rfl (dg (ah (pv 0)) cH))) (dg (ah (pv 1)) cH))))) (bG (iM sc_pack_standing.nd rfl (Or.inl rfl) (fZ (je (aG (mC rfl T.c_MARK (fun _ _ => rfl)) (aG (sA T.hall (ah (pv 0))) (aG (uF T.hall (ah (pv 0))) cC)))) (kY (oU (own := [("seat", 3)]) rfl sc_pack_standing.nd (qR (ah (pv 1))) (blkOk_by (own := [("seat", 3)]) (N := ["hall", "standing", "data", "seat"]) (sc := (defScope cw)) (by first | decide +kernel | kernel_rfl)) (by decide) (fun _ _ _ _ h => eM h) (fun _ _ _ _ _ => dZ sc_pack_standing.nd rfl (Or.inl rfl)) (fun _ _ _ _ _ => jJ) (fun _ _ _ _ _ => pH (d8 op_isN iC (ah (pv 3)) iV rfl) aY (fZ (ah (pv 3)) aY)))))) (cD (s_ret (gE (call_bytes_list rfl) sx rfl T.b_bytes (by decide +kernel) (aG (fZ (ah (pv 2)) (je (aG (j8 (gb (cr_sum rfl) pB rfl T.b_sum (by decide +kernel) (aG (ah (pv 2)) cC)) (mC rfl T.c_ROUND (fun _ _ => rfl))) cC))) cC)))))
theorem jk (T : Tx K mg C a d) : FnG P w K mg base 4 (a 13) (d 13) ["hall", "thing"] (h8 ⟨C, mg, K, w, P⟩ 2 (gB C)) :=
  lq T.u_is_standing.fn lM rfl (by decide) fun cdv A outer s H E hr hG => cD (s_ret (q9 (iK hr.units) hO (dG (dO (j1 T) (hr.mono (by decide)) hG (DLz.takes_of rfl rfl rfl rfl) rfl T.u_first_odd.mg T.u_first_odd.kp T.u_first_odd.bi rfl (dg (dG (dO (jO T) (hr.mono (by decide)) hG (DLz.takes_of rfl rfl rfl rfl) rfl T.u_hall_of.mg T.u_hall_of.kp T.u_hall_of.bi rfl (dg (ah (pv 0)) cH))) (dg (ah (pv 1)) cH)))) (nu aY) rfl))
theorem iY (T : Tx K mg C a d) : FnG P w K mg base 1 (a 14) (d 14) ["word"] (h8 ⟨C, mg, K, w, P⟩ 1 (eI C)) :=
  lq T.u_number_in.fn sc_number_in rfl (by decide) fun cdv A outer s H E hr hG => bG (s_if (PW.pt (w_or (d8 (iK hr.units) hO (ah (pv 0)) gG rfl) (w_or (gK (gJ (gb (cr_all rfl) pF rfl T.b_all boot_all (aG (kY (oU (own := [("sign", 1)]) rfl sc_number_in.nd (zh (ah (pv 0))) (blkOk_by (own := [("sign", 1)]) (N := ["word", "sign"]) (sc := (defScope dF)) (by first | decide +kernel | kernel_rfl)) (by decide) (fun _ _ _ _ h => eM h) (fun _ _ _ _ _ => dZ sc_number_in.nd rfl (Or.inl rfl)) (fun _ _ _ _ _ => jJ) (fun _ _ _ _ _ => q9 op_in_sign ut (ah (pv 1)) (mC rfl T.c_FIGURES (fun _ _ => rfl)) rfl))) cC)))) (jf (PW.pt (w_and (d8 (iK hr.units) hO (j9 (ah (pv 0)) aY) gG rfl) (nE (d8 (g6 hr.units) gp (ah (pv 0)) gG rfl)))))))) (cD (s_ret iV)) e8) (cD (s_ret (gE call_int_str sr rfl T.b_int boot_int (aG (ah (pv 0)) cC))))
theorem iP (T : Tx K mg C a d) : FnG P w K mg base 5 (a 15) (d 15) ["text"] (h8 ⟨C, mg, K, w, P⟩ 1 (fY C)) :=
  lq T.u_read_standing.fn sc_read_standing rfl (by decide) fun cdv A outer s H E hr hG => bG (s_if (gK (gJ (ka (ct := .str) T.hall rfl T.b_isinstance (ah (pv 0)) (pe_bltn rfl T.b_str boot_str rfl)))) (cD gM) e8) (bG (jh (kW (ah (pv 0)) gG) (nZ rfl (gh (qU (dZ sc_read_standing.nd rfl (Or.inl rfl))) (gh (qU (dZ sc_read_standing.nd rfl (Or.inl rfl))) (gh (qU (dZ sc_read_standing.nd rfl (Or.inl rfl))) my))) rfl)) (bG (jh (kW (ah (pv 1)) gG) (nZ rfl (gh (qU (dZ sc_read_standing.nd rfl (Or.inl rfl))) (gh (qU (dZ sc_read_standing.nd rfl (Or.inl rfl))) (gh (qU (dZ sc_read_standing.nd rfl (Or.inl rfl))) my))) rfl)) (bG (nK rfl sc_read_standing.nd rfl rfl (by decide) rfl rfl (sH (dG (dO (iY T) (hr.mono (by decide)) hG (DLz.takes_of rfl rfl rfl rfl) rfl T.u_number_in.mg T.u_number_in.kp T.u_number_in.bi rfl (dg (ah (pv 4)) cH))) (sH (dG (dO (iY T) (hr.mono (by decide)) hG (DLz.takes_of rfl rfl rfl rfl) rfl T.u_number_in.mg T.u_number_in.kp T.u_number_in.bi rfl (dg (ah (pv 6)) cH))) mN))) (bG (jh (wc (ah (pv 3)) gG) (yh (k := 1) rfl (gh (qU (dZ sc_read_standing.nd rfl (Or.inl rfl))) (qT (qU (dZ sc_read_standing.nd rfl (Or.inl rfl))))))) (bG (lN (own := [("word", 15)]) (i := 11) rfl sc_read_standing.nd rfl rfl (sw_true rfl rfl rfl (by decide +kernel)) (nq (ah (pv 10))) (blkOk_by (own := [("word", 15)]) (N := ["text", "head", "colon", "tail", "first", "plus", "second", "guests", "spare", "blank", "words", "seats", "odd", "hall", "standing", "word", "seat"]) (sc := (defScope cq)) (by first | decide +kernel | kernel_rfl)) (by decide) (fun _ _ _ _ h => eM h) (fun _ _ _ _ _ => dZ sc_read_standing.nd rfl (Or.inl rfl)) (fun _ _ _ _ _ => jJ) (fun _ _ _ _ _ => dG (dO (iY T) (hr.mono (by decide)) hG nH rfl T.u_number_in.mg T.u_number_in.kp T.u_number_in.bi rfl (dg (ah (pv 15)) cH)))) (bG (lN (own := [("word", 15), ("seat", 16)]) (i := 12) rfl sc_read_standing.nd rfl rfl (sw_true rfl rfl rfl (by decide +kernel)) (zg rfl T.b_zip (aG (ah (pv 10)) (aG (ah (pv 11)) cC))) (blkOk_by (own := [("word", 15), ("seat", 16)]) (N := ["text", "head", "colon", "tail", "first", "plus", "second", "guests", "spare", "blank", "words", "seats", "odd", "hall", "standing", "word", "seat"]) (sc := (defScope cq)) (by first | decide +kernel | kernel_rfl)) (by decide) lK (fun _ _ _ _ _ => wZ rfl (lE sc_read_standing.nd rfl (Or.inl rfl) (lE sc_read_standing.nd rfl (Or.inl rfl) uo)) rfl) (fun _ _ _ _ _ => zH (PW.pt (w_and (d8 op_isN iC (ah (pv 16)) iV rfl) (nE (d8 (g6 hr.units) gp (ah (pv 15)) gG rfl))))) (fun _ _ _ _ _ => ah (pv 15))) (bG (s_if (PW.pt (w_or (d8 op_in_seq vY gG (jn (aG (ah (pv 2)) (aG (ah (pv 5)) cC))) rfl) (w_or (d8 op_isN iC (ah (pv 7)) iV rfl) (w_or (d8 op_isN iC (ah (pv 8)) iV rfl) (w_or (d8 (g6 hr.units) gp (ah (pv 9)) gG rfl) (jf (d8 (g6 hr.units) gp (ah (pv 12)) (je cC) rfl))))))) (cD gM) e8) (bG (s_if (PW.pt (w_or (gK (gJ (dG (dO (gm T) (hr.mono (by decide)) hG (DLz.takes_of rfl rfl rfl rfl) rfl T.u_is_whole.mg T.u_is_whole.kp T.u_is_whole.bi rfl (dg (ah (pv 7)) (dg aY (dg (mC rfl T.c_MOST (fun _ _ => rfl)) cH))))))) (jf (gK (gJ (dG (dO (gm T) (hr.mono (by decide)) hG (DLz.takes_of rfl rfl rfl rfl) rfl T.u_is_whole.mg T.u_is_whole.kp T.u_is_whole.bi rfl (dg (ah (pv 8)) (dg aY (dg (mC rfl T.c_SPARE (fun _ _ => rfl)) cH)))))))))) (cD gM) e8) (bG (nK rfl sc_read_standing.nd rfl rfl (by decide) rfl rfl (sH (qo (uM (ks := ["spare"]) T.mkC (iZ T) (hr.mono (by decide)) hG (DLz.takes_of rfl rfl rfl rfl) rfl T.g_Hall (jP T) rfl (aG (ah (pv 7)) cC) (i5 (ah (pv 8)) ml))) (sH (gE DLt.call_tupF jQ rfl T.b_tuple boot_tuple (aG (ah (pv 11)) cC)) mN))) (bG (s_if (gK (gJ (dG (dO (jk T) (hr.mono (by decide)) hG (DLz.takes_of rfl rfl rfl rfl) rfl T.u_is_standing.mg T.u_is_standing.kp T.u_is_standing.bi rfl (dg (ah (pv 13)) (dg (ah (pv 14)) cH)))))) (cD gM) e8) (cD (s_ret (jn (aG (ah (pv 13)) (aG (ah (pv 14)) cC)))))))))))))))
theorem oR (T : Tx K mg C a d) : FnG P w K mg base 1 (a 16) (d 16) ["self"] (h8 ⟨C, mg, K, w, P⟩ 1 (ja C)) :=
  lq T.u_Hall_str.fn oK rfl (by decide) fun cdv A outer s H E hr hG => cD (s_ret (uG (jX (w9 (sA T.hall (ah (pv 0)))) (jX gG (jX (w9 (uF T.hall (ah (pv 0)))) tL)))))
theorem g7 (T : Tx K mg C a d) : FnG P w K mg base 5 (a 17) (d 17) ["hall", "standing"] (h8 ⟨C, mg, K, w, P⟩ 2 (eU C)) :=
  lq T.u_show_standing.fn sc_show_standing rfl (by decide) fun cdv A outer s H E hr hG => bG (jM (dG (dO (mW T) (hr.mono (by decide)) hG (DLz.takes_of rfl rfl rfl rfl) rfl T.u_seated.mg T.u_seated.kp T.u_seated.bi rfl (dg (dG (dO (jO T) (hr.mono (by decide)) hG (DLz.takes_of rfl rfl rfl rfl) rfl T.u_hall_of.mg T.u_hall_of.kp T.u_hall_of.bi rfl (dg (ah (pv 0)) cH))) (dg (ah (pv 1)) cH))))) (bG (lN (own := [("seat", 3)]) (i := 2) rfl sc_show_standing.nd rfl rfl (sw_true rfl rfl rfl (by decide +kernel)) (qR (ah (pv 1))) (blkOk_by (own := [("seat", 3)]) (N := ["hall", "standing", "words", "seat"]) (sc := (defScope cu)) (by first | decide +kernel | kernel_rfl)) (by decide) (fun _ _ _ _ h => eM h) (fun _ _ _ _ _ => dZ sc_show_standing.nd rfl (Or.inl rfl)) (fun _ _ _ _ _ => jJ) (fun _ _ _ _ _ => pH (d8 op_isN iC (ah (pv 3)) iV rfl) gG (gE (jE hG (iX hr)) jz rfl T.b_str PyProof.Rows.Boot.str (aG (ah (pv 3)) cC)))) (cD (s_ret (fZ (uG (jX (yr T.hall T.hfm (oR T) (hr.mono (by decide)) hG (DLz.takes_of rfl rfl rfl rfl) T.u_Hall_str.me T.u_Hall_str.bi rfl (ah (pv 0))) (jX gG tL))) (uE gG (ah (pv 2)))))))
theorem iz (T : Tx K mg C a d) : FnG P w K mg base 5 (a 18) (d 18) ["data"] (h8 ⟨C, mg, K, w, P⟩ 1 (eW C)) :=
  lq T.u_unpack_standing.fn sc_unpack_standing rfl (by decide) fun cdv A outer s H E hr hG => bG (s_if (PW.pt (w_or (gK (gJ (ka (ct := .bytes) T.hall rfl T.b_isinstance (ah (pv 0)) (pe_bltn rfl T.b_bytes boot_bytes rfl)))) (w_or (d8 op_lt n8 (gb wt sj rfl T.b_len boot_len (aG (ah (pv 0)) cC)) aY rfl) (w_or (d8 (g6 hr.units) gp (w7 (ah (pv 0)) aY) (mC rfl T.c_MARK (fun _ _ => rfl)) rfl) (jf (d8 (g6 hr.units) gp (w7 (ah (pv 0)) (nu aY)) (j8 (gb (wq rfl) rX rfl T.b_sum (by decide +kernel) (aG (w5 (ah (pv 0)) pY (lT (nu aY))) cC)) (mC rfl T.c_ROUND (fun _ _ => rfl))) rfl)))))) (cD gM) e8) (bG (jh (w5 (ah (pv 0)) (lT aY) (lT (nu aY))) (vR (k := 2) rfl (gh (qU (dZ sc_unpack_standing.nd rfl (Or.inl rfl))) (gh (qU (dZ sc_unpack_standing.nd rfl (Or.inl rfl))) (qT (qU (dZ sc_unpack_standing.nd rfl (Or.inl rfl)))))))) (bG (s_if (PW.pt (w_or (gK (gJ (dG (dO (gm T) (hr.mono (by decide)) hG (DLz.takes_of rfl rfl rfl rfl) rfl T.u_is_whole.mg T.u_is_whole.kp T.u_is_whole.bi rfl (dg (ah (pv 1)) (dg aY (dg (mC rfl T.c_MOST (fun _ _ => rfl)) cH))))))) (jf (gK (gJ (dG (dO (gm T) (hr.mono (by decide)) hG (DLz.takes_of rfl rfl rfl rfl) rfl T.u_is_whole.mg T.u_is_whole.kp T.u_is_whole.bi rfl (dg (ah (pv 2)) (dg aY (dg (mC rfl T.c_SPARE (fun _ _ => rfl)) cH)))))))))) (cD gM) e8) (bG (nK rfl sc_unpack_standing.nd rfl rfl (by decide) rfl rfl (sH (qo (uM (ks := ["spare"]) T.mkC (iZ T) (hr.mono (by decide)) hG (DLz.takes_of rfl rfl rfl rfl) rfl T.g_Hall (jP T) rfl (aG (ah (pv 1)) cC) (i5 (ah (pv 2)) ml))) (sH (gE DLt.call_tupF jQ rfl T.b_tuple boot_tuple (aG (kY (oU (own := [("part", 6)]) rfl sc_unpack_standing.nd (nq (ah (pv 3))) (blkOk_by (own := [("part", 6)]) (N := ["data", "guests", "spare", "parts", "hall", "standing", "part"]) (sc := (defScope bE)) (by first | decide +kernel | kernel_rfl)) (by decide) (fun _ _ _ _ h => eM h) (fun _ _ _ _ _ => dZ sc_unpack_standing.nd rfl (Or.inl rfl)) (fun _ _ _ _ _ => jJ) (fun _ _ _ _ _ => pH (d8 (iK hr.units) hO (ah (pv 6)) aY rfl) iV (q8 (ah (pv 6)) aY)))) cC)) mN))) (bG (s_if (gK (gJ (dG (dO (jk T) (hr.mono (by decide)) hG (DLz.takes_of rfl rfl rfl rfl) rfl T.u_is_standing.mg T.u_is_standing.kp T.u_is_standing.bi rfl (dg (ah (pv 4)) (dg (ah (pv 5)) cH)))))) (cD gM) e8) (cD (s_ret (jn (aG (ah (pv 4)) (aG (ah (pv 5)) cC)))))))))
theorem kA (T : Tx K mg C a d) : FnG P w K mg base 6 (a 19) (d 19) ["_law_heads", "_law_more", "_law_stand"] (h8 ⟨C, mg, K, w, P⟩ 3 (iE C)) :=
  lq T.u_Lright.fn sc_Lright rfl (by decide) fun cdv A outer s H E hr hG => bG (s6 rfl sc_Lright.nd rfl rfl rfl (by decide) (by decide) (by decide) rfl rfl rfl (sH (qo (uM (ks := ["spare"]) T.mkC (iZ T) (hr.mono (by decide)) hG (DLz.takes_of rfl rfl rfl rfl) rfl T.g_Hall (jP T) rfl (aG (ah (pv 0)) cC) (i5 (ah (pv 1)) ml))) (sH (dG (dO (tY T) (hr.mono (by decide)) hG (DLz.takes_of rfl rfl rfl rfl) rfl T.u_Ltext.mg T.u_Ltext.kp T.u_Ltext.bi rfl (dg (ah (pv 0)) (dg (ah (pv 1)) (dg (ah (pv 2)) cH))))) (sH (gb (kH hG (iX hr)) kG rfl T.b_repr boot_repr (aG (ah (pv 2)) cC)) mN)))) (bG (s_if (d8 (g6 hr.units) gp (je (aG (dG (dO (g7 T) (hr.mono (by decide)) hG (DLz.takes_of rfl rfl rfl rfl) rfl T.u_show_standing.mg T.u_show_standing.kp T.u_show_standing.bi rfl (dg (ah (pv 3)) (dg (ah (pv 2)) cH)))) (aG (dG (rj (ks := ["standing", "hall"]) (g7 T) (hr.mono (by decide)) hG (DLz.takes_of rfl rfl rfl rfl) rfl T.u_show_standing.mg T.u_show_standing.kp (gO T) rfl (i5 (ah (pv 2)) (i5 (ah (pv 3)) ml)))) (aG (dG (dO (g7 T) (hr.mono (by decide)) hG (DLz.takes_of rfl rfl rfl rfl) rfl T.u_show_standing.mg T.u_show_standing.kp T.u_show_standing.bi rfl (dg (ah (pv 3)) (dg (ah (pv 2)) cH)))) cC)))) (kX (je (aG (ah (pv 4)) cC)) aY) rfl) (cD (s_ret oa)) e8) (bG (iM sc_Lright.nd rfl (Or.inl rfl) (dG (dO (g8 T) (hr.mono (by decide)) hG (DLz.takes_of rfl rfl rfl rfl) rfl T.u_pack_standing.mg T.u_pack_standing.kp T.u_pack_standing.bi rfl (dg (ah (pv 3)) (dg (ah (pv 2)) cH))))) (bG (s_if (PW.pt (w_or (d8 op_notIn_seq uv (zo (gb uI qi rfl T.b_repr boot_repr (aG (ah (pv 6)) cC)) pY (lT aY)) (je (aG gG (aG gG cC))) rfl) (jf (d8 (g6 hr.units) gp (gE (uJ rfl) qj rfl T.b_list boot_list (aG (ah (pv 6)) cC)) (dG (dO (vw T) (hr.mono (by decide)) hG (DLz.takes_of rfl rfl rfl rfl) rfl T.u_Lrow.mg T.u_Lrow.kp T.u_Lrow.bi rfl (dg (ah (pv 0)) (dg (ah (pv 1)) (dg (ah (pv 2)) cH))))) rfl)))) (cD (s_ret oa)) e8) (bG (s_if (PW.pt (w_or (d8 op_ne pC (dG (rj (ks := ["standing", "hall"]) (g8 T) (hr.mono (by decide)) hG (DLz.takes_of rfl rfl rfl rfl) rfl T.u_pack_standing.mg T.u_pack_standing.kp (gQ T) rfl (i5 (ah (pv 2)) (i5 (ah (pv 3)) ml)))) (ah (pv 6)) rfl) (jf (d8 op_ne pC (dG (dO (g8 T) (hr.mono (by decide)) hG (DLz.takes_of rfl rfl rfl rfl) rfl T.u_pack_standing.mg T.u_pack_standing.kp T.u_pack_standing.bi rfl (dg (ah (pv 3)) (dg (ah (pv 2)) cH)))) (ah (pv 6)) rfl)))) (cD (s_ret oa)) e8) (bG (iM sc_Lright.nd rfl (Or.inl rfl) (je (aG (dG (dO (iP T) (hr.mono (by decide)) hG (DLz.takes_of rfl rfl rfl rfl) rfl T.u_read_standing.mg T.u_read_standing.kp T.u_read_standing.bi rfl (dg (ah (pv 4)) cH))) (aG (dG (rj (ks := ["text"]) (iP T) (hr.mono (by decide)) hG (DLz.takes_of rfl rfl rfl rfl) rfl T.u_read_standing.mg T.u_read_standing.kp (iQ T) rfl (i5 (ah (pv 4)) ml))) (aG (dG (dO (iz T) (hr.mono (by decide)) hG (DLz.takes_of rfl rfl rfl rfl) rfl T.u_unpack_standing.mg T.u_unpack_standing.kp T.u_unpack_standing.bi rfl (dg (ah (pv 6)) cH))) (aG (dG (rj (ks := ["data"]) (iz T) (hr.mono (by decide)) hG (DLz.takes_of rfl rfl rfl rfl) rfl T.u_unpack_standing.mg T.u_unpack_standing.kp (iF T) rfl (i5 (ah (pv 6)) ml))) cC)))))) (bG (mR (passes_of rfl) rfl (nq (ah (pv 7))) (dZ sc_Lright.nd rfl (Or.inl rfl)) (bG (s_if (PW.pt (w_or (gK (gJ (ka (ct := .tuple) T.hall rfl T.b_isinstance (ah (pv 8)) (pe_bltn rfl T.b_tuple boot_tuple rfl)))) (w_or (d8 (g6 hr.units) gp (gb call_len j5 rfl T.b_len boot_len (aG (ah (pv 8)) cC)) aY rfl) (w_or (gK (gJ (ka (ct := .hall) T.hall rfl T.b_isinstance (j9 (ah (pv 8)) aY) (pe_glob rfl T.g_Hall rfl)))) (jf (yK (qb T) T.eqf T.u_Hall_eq.bi rfl (hr.mono (by decide)) hG (DLz.takes_of rfl rfl rfl rfl) true (j9 (ah (pv 8)) aY) (ah (pv 3)) rfl)))))) (cD (s_ret oa)) e8) (cD (s_if (d8 (g6 hr.units) gp (gb (kH hG (iX hr)) kG rfl T.b_repr boot_repr (aG (j9 (ah (pv 8)) aY) cC)) (ah (pv 5)) rfl) (cD (s_ret oa)) e8))) (fun _ _ _ _ h => eM h)) (cD (s_ret (q9 (iK hr.units) hO (gb (kH hG (iX hr)) kG rfl T.b_repr boot_repr (aG (ah (pv 2)) cC)) (ah (pv 5)) rfl)))))))))
theorem gA (T : Tx K mg C a d) : FnG P w K mg base 1 (a 20) (d 20) ["_law_pool_here", "_law_wide"] (h8 ⟨C, mg, K, w, P⟩ 2 (eX C)) :=
  lq T.u_Ltake.fn sc_Ltake rfl (by decide) fun cdv A outer s H E hr hG => bG (jh (fZ (nr (pv 0) aY) aY) (qh (W := W0) (pv 0) aY)) (bG (iM sc_Ltake.nd rfl (Or.inl rfl) (nr (pv 0) aY)) (bG (jh (j8 (gE call_int1 pD rfl T.b_int boot_int (aG (fZ (kX (ah (pv 2)) (fZ (j8 (gE call_int1 pD rfl T.b_int boot_int (aG (ah (pv 2)) cC)) aY) aY)) (kX aY (nr (pv 0) aY))) cC)) aY) (qh (W := W0) (pv 0) aY)) (bG (s_if (d8 op_gt qY (nr (pv 0) aY) aY rfl) (bG (jh (gb call_divmod pE rfl T.b_divmod boot_divmod (aG (nr (pv 0) aY) (aG (ah (pv 1)) cC))) (nZ rfl (gh (qh (W := W0) (pv 0) aY) (gh (qU (dZ sc_Ltake.nd rfl (Or.inl rfl))) my)) rfl)) (cD (s_ret (ah (pv 3))))) e8) (cD (s_ret (j8 (yt (nr (pv 0) aY) aY) (ah (pv 1))))))))
theorem rP (T : Tx K mg C a d) : FnG P w K mg base 2 (a 21) (d 21) ["_law_pool_here", "_law_upto"] (h8 ⟨C, mg, K, w, P⟩ 2 (iD C)) :=
  lq T.u_Lsizes.fn sc_Lsizes rfl (by decide) fun cdv A outer s H E hr hG => bG (nK rfl sc_Lsizes.nd rfl rfl (by decide) rfl rfl (sH (fZ aY (dG (dO (gA T) (hr.mono (by decide)) hG (DLz.takes_of rfl rfl rfl rfl) rfl T.u_Ltake.mg T.u_Ltake.kp T.u_Ltake.bi rfl (kJ (pv 0) (dg (ah (pv 1)) cH))))) (sH (dG (dO (gA T) (hr.mono (by decide)) hG (DLz.takes_of rfl rfl rfl rfl) rfl T.u_Ltake.mg T.u_Ltake.kp T.u_Ltake.bi rfl (kJ (pv 0) (dg aY cH)))) mN))) (bG (s_if (d8 (iK hr.units) hO (dG (dO (gA T) (hr.mono (by decide)) hG (DLz.takes_of rfl rfl rfl rfl) rfl T.u_Ltake.mg T.u_Ltake.kp T.u_Ltake.bi rfl (kJ (pv 0) (dg aY cH)))) aY rfl) (cD (iM sc_Lsizes.nd rfl (Or.inl rfl) (fZ aY (dG (dO (gA T) (hr.mono (by decide)) hG (DLz.takes_of rfl rfl rfl rfl) rfl T.u_Ltake.mg T.u_Ltake.kp T.u_Ltake.bi rfl (kJ (pv 0) (dg aY cH))))))) e8) (bG (s_if (d8 (iK hr.units) hO (dG (dO (gA T) (hr.mono (by decide)) hG (DLz.takes_of rfl rfl rfl rfl) rfl T.u_Ltake.mg T.u_Ltake.kp T.u_Ltake.bi rfl (kJ (pv 0) (dg aY cH)))) aY rfl) (cD (iM sc_Lsizes.nd rfl (Or.inl rfl) (dG (dO (gA T) (hr.mono (by decide)) hG (DLz.takes_of rfl rfl rfl rfl) rfl T.u_Ltake.mg T.u_Ltake.kp T.u_Ltake.bi rfl (kJ (pv 0) (dg aY cH)))))) e8) (cD (s_ret (jn (aG (ah (pv 2)) (aG (ah (pv 3)) cC)))))))
theorem p8 (T : Tx K mg C a d) : FnG P w K mg base 2 (a 22) (d 22) ["_law_pool_here", "_law_heads", "_law_more"] (h8 ⟨C, mg, K, w, P⟩ 3 (iw C)) :=
  lq T.u_Lseated.fn sc_Lseated rfl (by decide) fun cdv A outer s H E hr hG => bG (s6 rfl sc_Lseated.nd rfl rfl rfl (by decide) (by decide) (by decide) rfl rfl rfl (zJ (zb rfl rfl T.b_list rfl T.b_range (fZ (ah (pv 1)) (ah (pv 2)))) (zJ (wV cC) (sH (dG (dO (gA T) (hr.mono (by decide)) hG (DLz.takes_of rfl rfl rfl rfl) rfl T.u_Ltake.mg T.u_Ltake.kp T.u_Ltake.bi rfl (kJ (pv 0) (dg aY cH)))) mN)))) (bG (mR (passes_of rfl) rfl (nY rfl T.b_range (aG (ah (pv 1)) cC)) (dZ sc_Lseated.nd rfl (Or.inl rfl)) (cD (s_if (PW.pt (w_and (d8 (iK hr.units) hO (dG (dO (gA T) (hr.mono (by decide)) hG (DLz.takes_of rfl rfl rfl rfl) rfl T.u_Ltake.mg T.u_Ltake.kp T.u_Ltake.bi rfl (kJ (pv 0) (dg (j9 (je (aG aY (aG aY (aG aY (aG aY cC))))) (ah (pv 5))) cH)))) aY rfl) (nE (d8 (g6 hr.units) gp (ah (pv 5)) aY rfl)))) (cD (jM (qm (pv 4) iV))) (cD (s_if (PW.pt (w_and (d8 (iK hr.units) hO (ah (pv 5)) aY rfl) (w_and (yJ (ah (pv 6)) (pv 3) rfl) (nE (d8 op_gt qY (dG (dO (gA T) (hr.mono (by decide)) hG (DLz.takes_of rfl rfl rfl rfl) rfl T.u_Ltake.mg T.u_Ltake.kp T.u_Ltake.bi rfl (kJ (pv 0) (dg aY cH)))) aY rfl))))) (bG (jM (ym (pv 3) (ah (pv 6)))) (cD (jM (qm (pv 4) (ah (pv 6)))))) (cD (jM (qm (pv 4) (yn (pv 3) (dG (dO (gA T) (hr.mono (by decide)) hG (DLz.takes_of rfl rfl rfl rfl) rfl T.u_Ltake.mg T.u_Ltake.kp T.u_Ltake.bi rfl (kJ (pv 0) (dg (yo rfl T.b_len (pv 3)) cH)))))))))))) (fun _ _ _ _ h => eM h)) (cD (s_ret (we rfl T.b_tuple (pv 4)))))
theorem p7 (T : Tx K mg C a d) : FnG P w K mg base 3 (a 23) (d 23) ["_law_pool_here", "_law_heads", "_law_more"] (h8 ⟨C, mg, K, w, P⟩ 3 (iT C)) :=
  lq T.u_Lstands.fn sc_Lstands rfl (by decide) fun cdv A outer s H E hr hG => bG (iM sc_Lstands.nd rfl (Or.inl rfl) (je (aG (w4 rfl rfl T.b_tuple rfl T.b_range (ah (pv 1))) (aG (kX (jn (aG iV cC)) (ah (pv 1))) (aG (gE DLt.call_tupF jQ rfl T.b_tuple boot_tuple (aG (kY (oU (own := [("_law_person", 5)]) rfl sc_Lstands.nd (nY rfl T.b_range (aG (ah (pv 1)) cC)) (blkOk_by (own := [("_law_person", 5)]) (N := ["_law_pool_here", "_law_heads", "_law_more", "_law_found", "_law_turn", "_law_person"]) (sc := (defScope dW)) (by first | decide +kernel | kernel_rfl)) (by decide) (fun _ _ _ _ h => eM h) (fun _ _ _ _ _ => dZ sc_Lstands.nd rfl (Or.inl rfl)) (fun _ _ _ _ _ => jJ) (fun _ _ _ _ _ => q8 (q8 (fZ (ah (pv 1)) (ah (pv 2))) aY) (ah (pv 5))))) cC)) cC))))) (cD (s_ret (fZ (ah (pv 3)) (kY (oU (own := [("_law_turn", 4)]) rfl sc_Lstands.nd (nY rfl T.b_range (aG aY cC)) (blkOk_by (own := [("_law_turn", 4)]) (N := ["_law_pool_here", "_law_heads", "_law_more", "_law_found", "_law_turn", "_law_person"]) (sc := (defScope dW)) (by first | decide +kernel | kernel_rfl)) (by decide) (fun _ _ _ _ h => eM h) (fun _ _ _ _ _ => dZ sc_Lstands.nd rfl (Or.inl rfl)) (fun _ _ _ _ _ => jJ) (fun _ _ _ _ _ => dG (dO (p8 T) (hr.mono (by decide)) hG nH rfl T.u_Lseated.mg T.u_Lseated.kp T.u_Lseated.bi rfl (kJ (pv 0) (dg (ah (pv 1)) (dg (ah (pv 2)) cH))))))))))
theorem xW (T : Tx K mg C a d) : FnG P w K mg base 7 (a 24) (d 24) ["_law_script"] (h8 ⟨C, mg, K, w, P⟩ 1 (kU C)) :=
  lq T.u_law.fn sc_law rfl (by decide) fun cdv A outer s H E hr hG => bG (mR (passes_of rfl) rfl (nq (je (aG (jn (aG aY (aG aY cC))) (aG (jn (aG aY (aG aY cC))) (aG (jn (aG aY (aG aY cC))) (aG (jn (aG aY (aG aY cC))) cC)))))) (dZ sc_law.nd rfl (Or.inl rfl)) (bG (s_if (gK (gJ (dG (dO (kA T) (hr.mono (by decide)) hG (DLz.takes_of rfl rfl rfl rfl) rfl T.u_Lright.mg T.u_Lright.kp T.u_Lright.bi rfl (dg (j9 (ah (pv 1)) aY) (dg (j9 (ah (pv 1)) aY) (dg (w4 rfl rfl T.b_tuple rfl T.b_range (j9 (ah (pv 1)) aY)) cH))))))) (cD (s_ret oa)) e8) (cD (s_if (gK (gJ (dG (dO (kA T) (hr.mono (by decide)) hG (DLz.takes_of rfl rfl rfl rfl) rfl T.u_Lright.mg T.u_Lright.kp T.u_Lright.bi rfl (dg (j9 (ah (pv 1)) aY) (dg (j9 (ah (pv 1)) aY) (dg (yl rfl rfl T.b_tuple rfl T.b_range (j9 (ah (pv 1)) aY) (fZ (j9 (ah (pv 1)) aY) (j9 (ah (pv 1)) aY))) cH))))))) (cD (s_ret oa)) e8))) (fun _ _ _ _ h => eM h)) (bG (mR (passes_of rfl) rfl (nY rfl T.b_range (aG (gb (call_max2 rfl) si rfl T.b_max boot_max (aG aY (aG (gb (call_min2 rfl) rZ rfl T.b_min boot_min (aG (gb call_len j5 rfl T.b_len boot_len (aG (ah (pv 0)) cC)) (aG aY cC))) cC))) cC)) (dZ sc_law.nd rfl (Or.inl rfl)) (bG (sZ sc_law.nd rfl (Or.inl rfl) (za (dO (tZ T) (hr.mono (by decide)) hG (DLz.takes_of rfl rfl rfl rfl) rfl T.u_Lpool.mg T.u_Lpool.kp T.u_Lpool.bi rfl (dg (dG (dO (t5 T) (hr.mono (by decide)) hG (DLz.takes_of rfl rfl rfl rfl) rfl T.u_Lcell.mg T.u_Lcell.kp T.u_Lcell.bi rfl (dg (ah (pv 0)) (dg (ah (pv 2)) cH)))) cH)))) (bG (jh (dG (dO (rP T) (hr.mono (by decide)) hG (DLz.takes_of rfl rfl rfl rfl) rfl T.u_Lsizes.mg T.u_Lsizes.kp T.u_Lsizes.bi rfl (kJ (pv 3) (dg aY cH)))) (nZ rfl (gh (qU (dZ sc_law.nd rfl (Or.inr rfl))) (gh (qU (dZ sc_law.nd rfl (Or.inr rfl))) my)) rfl)) (cD (s_if (gK (gJ (gb (cr_all rfl) pF rfl T.b_all boot_all (aG (kY (oU (own := [("_law_stand", 6)]) rfl sc_law.nd (nq (dG (dO (p7 T) (hr.mono (by decide)) hG (DLz.takes_of rfl rfl rfl rfl) rfl T.u_Lstands.mg T.u_Lstands.kp T.u_Lstands.bi rfl (kJ (pv 3) (dg (ah (pv 4)) (dg (ah (pv 5)) cH)))))) (blkOk_by (own := [("_law_stand", 6)]) (N := ["_law_script", "_law_sizes_here", "_law_k", "_law_pool_here", "_law_heads", "_law_more", "_law_stand"]) (sc := (defScope gN)) (by first | decide +kernel | kernel_rfl)) (by decide) (fun _ _ _ _ h => eM h) (fun _ _ _ _ _ => dZ sc_law.nd rfl (Or.inl rfl)) (fun _ _ _ _ _ => jJ) (fun _ _ _ _ _ => dG (dO (kA T) (hr.mono (by decide)) hG nH rfl T.u_Lright.mg T.u_Lright.kp T.u_Lright.bi rfl (dg (ah (pv 4)) (dg (ah (pv 5)) (dg (ah (pv 6)) cH))))))) cC)))) (cD (s_ret oa)) e8)))) (fun _ _ _ _ h => eM h)) (cD (s_ret oa)))
end
theorem yC {qq : Program} {l : PySem.W.OpenLaw} {w : World} {K : PySem.W.Frag} {h : Heap} {mg : Str → Option Value} {fa C : Addr} (X : K.In h) (G : h.Ns mainGlobals mg) (hfa : mg "law" = some (.ref fa))
    {f0 f1 f2 f3 f4 f5 f6 f7 f8 f9 f10 f11 f12 f13 f14 f15 f16 f17 f18 f19 f20 f21 f22 f23 f24 : Addr} {od0 an0 od1 an1 od2 an2 od3 an3 od4 an4 od5 an5 od6 an6 od7 an7 od8 an8 od9 an9 od10 an10 od11 an11 od12 an12 od13 an13 od14 an14 od15 an15 od16 an16 od17 an17 od18 an18 od19 an19 od20 an20 od21 an21 od22 an22 od23 an23 od24 an24 : Option Addr} {fA fy fx fw fv fu ft fo fk sl9 sl10 sl11 sl12 sl13 sl14 sl15 sl16 sl17 sl18 sl19 sl20 sl21 sl22 sl23 sl24 : Array (Option Value)} {oc0 kV0 dc0 pm0 cd0 ct0 oc1 kV1 dc1 pm1 cd1 ct1 oc2 kV2 zy pm2 cd2 ct2 oc3 kV3 dc3 pm3 cd3 ct3 oc4 kV4 dc4 pm4 cd4 ct4 oc5 kV5 dc5 pm5 cd5 ct5 oc6 kV6 dc6 pm6 cd6 ct6 oc7 kV7 dc7 pm7 cd7 ct7 oc8 kV8 dc8 pm8 cd8 ct8 oc9 kV9 dc9 pm9 cd9 ct9 oc10 kV10 dc10 pm10 cd10 ct10 oc11 kV11 dc11 pm11 cd11 ct11 oc12 kV12 dc12 pm12 cd12 ct12 oc13 kV13 dc13 pm13 cd13 ct13 oc14 kV14 dc14 pm14 cd14 ct14 oc15 kV15 dc15 pm15 cd15 ct15 oc16 kV16 dc16 pm16 cd16 ct16 oc17 kV17 dc17 pm17 cd17 ct17 oc18 kV18 dc18 pm18 cd18 ct18 oc19 kV19 dc19 pm19 cd19 ct19 oc20 kV20 dc20 pm20 cd20 ct20 oc21 kV21 dc21 pm21 cd21 ct21 oc22 kV22 dc22 pm22 cd22 ct22 oc23 kV23 dc23 pm23 cd23 ct23 oc24 kV24 dc24 pm24 cd24 ct24 : Value}
    (l0 : K.lookup f0 = some ⟨oc0, od0, .func (PySem.W.fnOf "_law_cell" "_law_cell" (defArgs eR) (defBody eR) (defScope eR) .none kV0 dc0 pm0 an0 cd0 ct0), fA⟩) (c0 : PySem.W.codeIn K cd0 "_law_cell" = true) (k0 : PySem.W.keepIn K (.ref f0) = true)
    (a0 : PySem.W.nsIn K mainGlobals "_law_cell" = some (some (.ref f0)))
    (l1 : K.lookup f1 = some ⟨oc1, od1, .func (PySem.W.fnOf "_law_pool" "_law_pool" (defArgs fX) (defBody fX) (defScope fX) .none kV1 dc1 pm1 an1 cd1 ct1), fy⟩) (c1 : PySem.W.codeIn K cd1 "_law_pool" = true) (k1 : PySem.W.keepIn K (.ref f1) = true)
    (a1 : PySem.W.nsIn K mainGlobals "_law_pool" = some (some (.ref f1)))
    (l2 : K.lookup f2 = some ⟨oc2, od2, .func (PySem.W.fnOf "__eq__" "Hall.__eq__" (defArgs eC) (defBody eC) (defScope eC) .none kV2 zy pm2 an2 cd2 ct2), fx⟩) (c2 : PySem.W.codeIn K cd2 "Hall.__eq__" = true) (k2 : PySem.W.keepIn K (.ref f2) = true)
    (a2 : PySem.W.findIn K (.ref C) "__eq__" = some (some (.ref f2))) (i2 : PySem.W.isFn K (.ref f2) = true)
    (l3 : K.lookup f3 = some ⟨oc3, od3, .func (PySem.W.fnOf "is_whole" "is_whole" (defArgs dR) (defBody dR) (defScope dR) .none kV3 dc3 pm3 an3 cd3 ct3), fw⟩) (c3 : PySem.W.codeIn K cd3 "is_whole" = true) (k3 : PySem.W.keepIn K (.ref f3) = true)
    (a3 : PySem.W.nsIn K mainGlobals "is_whole" = some (some (.ref f3)))
    (l4 : K.lookup f4 = some ⟨oc4, od4, .func (PySem.W.fnOf "__init__" "Hall.__init__" (defArgs dJ) (defBody dJ) (defScope dJ) .none kV4 dc4 pm4 an4 cd4 ct4), fv⟩) (c4 : PySem.W.codeIn K cd4 "Hall.__init__" = true) (k4 : PySem.W.keepIn K (.ref f4) = true)
    (a4 : PySem.W.findIn K (.ref C) "__init__" = some (some (.ref f4))) (i4 : PySem.W.isFn K (.ref f4) = true)
    (l5 : K.lookup f5 = some ⟨oc5, od5, .func (PySem.W.fnOf "_law_row" "_law_row" (defArgs gv) (defBody gv) (defScope gv) .none kV5 dc5 pm5 an5 cd5 ct5), fu⟩) (c5 : PySem.W.codeIn K cd5 "_law_row" = true) (k5 : PySem.W.keepIn K (.ref f5) = true)
    (a5 : PySem.W.nsIn K mainGlobals "_law_row" = some (some (.ref f5)))
    (l6 : K.lookup f6 = some ⟨oc6, od6, .func (PySem.W.fnOf "_law_text" "_law_text" (defArgs fg) (defBody fg) (defScope fg) .none kV6 dc6 pm6 an6 cd6 ct6), ft⟩) (c6 : PySem.W.codeIn K cd6 "_law_text" = true) (k6 : PySem.W.keepIn K (.ref f6) = true)
    (a6 : PySem.W.nsIn K mainGlobals "_law_text" = some (some (.ref f6)))
    (l7 : K.lookup f7 = some ⟨oc7, od7, .func (PySem.W.fnOf "hall_of" "hall_of" (defArgs ez) (defBody ez) (defScope ez) .none kV7 dc7 pm7 an7 cd7 ct7), fo⟩) (c7 : PySem.W.codeIn K cd7 "hall_of" = true) (k7 : PySem.W.keepIn K (.ref f7) = true)
    (a7 : PySem.W.nsIn K mainGlobals "hall_of" = some (some (.ref f7)))
    (l8 : K.lookup f8 = some ⟨oc8, od8, .func (PySem.W.fnOf "seats" "Hall.seats" (defArgs dE) (defBody dE) (defScope dE) .none kV8 dc8 pm8 an8 cd8 ct8), fk⟩) (c8 : PySem.W.codeIn K cd8 "Hall.seats" = true) (k8 : PySem.W.keepIn K (.ref f8) = true)
    (a8 : PySem.W.findIn K (.ref C) "seats" = some (some (.ref f8))) (i8 : PySem.W.isFn K (.ref f8) = true)
    (l9 : K.lookup f9 = some ⟨oc9, od9, .func (PySem.W.fnOf "is_seat" "is_seat" (defArgs eh) (defBody eh) (defScope eh) .none kV9 dc9 pm9 an9 cd9 ct9), sl9⟩) (c9 : PySem.W.codeIn K cd9 "is_seat" = true) (k9 : PySem.W.keepIn K (.ref f9) = true)
    (a9 : PySem.W.nsIn K mainGlobals "is_seat" = some (some (.ref f9)))
    (l10 : K.lookup f10 = some ⟨oc10, od10, .func (PySem.W.fnOf "first_odd" "first_odd" (defArgs dI) (defBody dI) (defScope dI) .none kV10 dc10 pm10 an10 cd10 ct10), sl10⟩) (c10 : PySem.W.codeIn K cd10 "first_odd" = true) (k10 : PySem.W.keepIn K (.ref f10) = true)
    (a10 : PySem.W.nsIn K mainGlobals "first_odd" = some (some (.ref f10)))
    (l11 : K.lookup f11 = some ⟨oc11, od11, .func (PySem.W.fnOf "seated" "seated" (defArgs eN) (defBody eN) (defScope eN) .none kV11 dc11 pm11 an11 cd11 ct11), sl11⟩) (c11 : PySem.W.codeIn K cd11 "seated" = true) (k11 : PySem.W.keepIn K (.ref f11) = true)
    (a11 : PySem.W.nsIn K mainGlobals "seated" = some (some (.ref f11)))
    (l12 : K.lookup f12 = some ⟨oc12, od12, .func (PySem.W.fnOf "pack_standing" "pack_standing" (defArgs cw) (defBody cw) (defScope cw) .none kV12 dc12 pm12 an12 cd12 ct12), sl12⟩) (c12 : PySem.W.codeIn K cd12 "pack_standing" = true) (k12 : PySem.W.keepIn K (.ref f12) = true)
    (a12 : PySem.W.nsIn K mainGlobals "pack_standing" = some (some (.ref f12)))
    (l13 : K.lookup f13 = some ⟨oc13, od13, .func (PySem.W.fnOf "is_standing" "is_standing" (defArgs cQ) (defBody cQ) (defScope cQ) .none kV13 dc13 pm13 an13 cd13 ct13), sl13⟩) (c13 : PySem.W.codeIn K cd13 "is_standing" = true) (k13 : PySem.W.keepIn K (.ref f13) = true)
    (a13 : PySem.W.nsIn K mainGlobals "is_standing" = some (some (.ref f13)))
    (l14 : K.lookup f14 = some ⟨oc14, od14, .func (PySem.W.fnOf "number_in" "number_in" (defArgs dF) (defBody dF) (defScope dF) .none kV14 dc14 pm14 an14 cd14 ct14), sl14⟩) (c14 : PySem.W.codeIn K cd14 "number_in" = true) (k14 : PySem.W.keepIn K (.ref f14) = true)
    (a14 : PySem.W.nsIn K mainGlobals "number_in" = some (some (.ref f14)))
    (l15 : K.lookup f15 = some ⟨oc15, od15, .func (PySem.W.fnOf "read_standing" "read_standing" (defArgs cq) (defBody cq) (defScope cq) .none kV15 dc15 pm15 an15 cd15 ct15), sl15⟩) (c15 : PySem.W.codeIn K cd15 "read_standing" = true) (k15 : PySem.W.keepIn K (.ref f15) = true)
    (a15 : PySem.W.nsIn K mainGlobals "read_standing" = some (some (.ref f15)))
    (l16 : K.lookup f16 = some ⟨oc16, od16, .func (PySem.W.fnOf "__str__" "Hall.__str__" (defArgs dU) (defBody dU) (defScope dU) .none kV16 dc16 pm16 an16 cd16 ct16), sl16⟩) (c16 : PySem.W.codeIn K cd16 "Hall.__str__" = true) (k16 : PySem.W.keepIn K (.ref f16) = true)
    (a16 : PySem.W.findIn K (.ref C) "__str__" = some (some (.ref f16))) (i16 : PySem.W.isFn K (.ref f16) = true)
    (l17 : K.lookup f17 = some ⟨oc17, od17, .func (PySem.W.fnOf "show_standing" "show_standing" (defArgs cu) (defBody cu) (defScope cu) .none kV17 dc17 pm17 an17 cd17 ct17), sl17⟩) (c17 : PySem.W.codeIn K cd17 "show_standing" = true) (k17 : PySem.W.keepIn K (.ref f17) = true)
    (a17 : PySem.W.nsIn K mainGlobals "show_standing" = some (some (.ref f17)))
    (l18 : K.lookup f18 = some ⟨oc18, od18, .func (PySem.W.fnOf "unpack_standing" "unpack_standing" (defArgs bE) (defBody bE) (defScope bE) .none kV18 dc18 pm18 an18 cd18 ct18), sl18⟩) (c18 : PySem.W.codeIn K cd18 "unpack_standing" = true) (k18 : PySem.W.keepIn K (.ref f18) = true)
    (a18 : PySem.W.nsIn K mainGlobals "unpack_standing" = some (some (.ref f18)))
    (l19 : K.lookup f19 = some ⟨oc19, od19, .func (PySem.W.fnOf "_law_right" "_law_right" (defArgs eQ) (defBody eQ) (defScope eQ) .none kV19 dc19 pm19 an19 cd19 ct19), sl19⟩) (c19 : PySem.W.codeIn K cd19 "_law_right" = true) (k19 : PySem.W.keepIn K (.ref f19) = true)
    (a19 : PySem.W.nsIn K mainGlobals "_law_right" = some (some (.ref f19)))
    (l20 : K.lookup f20 = some ⟨oc20, od20, .func (PySem.W.fnOf "_law_take" "_law_take" (defArgs fW) (defBody fW) (defScope fW) .none kV20 dc20 pm20 an20 cd20 ct20), sl20⟩) (c20 : PySem.W.codeIn K cd20 "_law_take" = true) (k20 : PySem.W.keepIn K (.ref f20) = true)
    (a20 : PySem.W.nsIn K mainGlobals "_law_take" = some (some (.ref f20)))
    (l21 : K.lookup f21 = some ⟨oc21, od21, .func (PySem.W.fnOf "_law_sizes" "_law_sizes" (defArgs eO) (defBody eO) (defScope eO) .none kV21 dc21 pm21 an21 cd21 ct21), sl21⟩) (c21 : PySem.W.codeIn K cd21 "_law_sizes" = true) (k21 : PySem.W.keepIn K (.ref f21) = true)
    (a21 : PySem.W.nsIn K mainGlobals "_law_sizes" = some (some (.ref f21)))
    (l22 : K.lookup f22 = some ⟨oc22, od22, .func (PySem.W.fnOf "_law_seated" "_law_seated" (defArgs eB) (defBody eB) (defScope eB) .none kV22 dc22 pm22 an22 cd22 ct22), sl22⟩) (c22 : PySem.W.codeIn K cd22 "_law_seated" = true) (k22 : PySem.W.keepIn K (.ref f22) = true)
    (a22 : PySem.W.nsIn K mainGlobals "_law_seated" = some (some (.ref f22)))
    (l23 : K.lookup f23 = some ⟨oc23, od23, .func (PySem.W.fnOf "_law_stands" "_law_stands" (defArgs dW) (defBody dW) (defScope dW) .none kV23 dc23 pm23 an23 cd23 ct23), sl23⟩) (c23 : PySem.W.codeIn K cd23 "_law_stands" = true) (k23 : PySem.W.keepIn K (.ref f23) = true)
    (a23 : PySem.W.nsIn K mainGlobals "_law_stands" = some (some (.ref f23)))
    (l24 : K.lookup f24 = some ⟨oc24, od24, .func (PySem.W.fnOf "law" "law" (defArgs gN) (defBody gN) (defScope gN) .none kV24 dc24 pm24 an24 cd24 ct24), sl24⟩) (c24 : PySem.W.codeIn K cd24 "law" = true) (k24 : PySem.W.keepIn K (.ref f24) = true)
    (a24 : PySem.W.nsIn K mainGlobals "law" = some (some (.ref f24)))
    (gH : PySem.W.nsIn K mainGlobals "Hall" = some (some (.ref C)))
    (pg : PySem.W.plainGet K C Str.empty = true)
    (hd : PySem.W.hasDictIn K C = true)
    (po : PySem.W.plainOver K C = true)
    (sa : PySem.W.findIn K (.ref C) "__setattr__" = some (some (.builtin "object.__setattr__")))
    (hca : PySem.W.findIn K (.ref C) "__class__" = some (some (.builtin "object.__class__")))
    (hcn : PySem.W.specialIn K (.builtin "object.__class__") "__get__" = some (some (.builtin "getset_descriptor.__get__")))
    (hct : PySem.W.takesIn K (.builtin "object.__class__") = some true)
    (hcm : PySem.W.mroIn K C (.type "object") = some true)
    (ng : PySem.W.findIn K (.ref C) "guests" = some none)
    (ns : PySem.W.findIn K (.ref C) "spare" = some none)
    (mkC : PySem.W.makesIn K C = true)
    (kpC : PySem.W.keepIn K (.ref C) = true)
    (fmt : PySem.W.findIn K (.ref C) "__format__" = some (some (.builtin "object.__format__")))
    (en : PySem.W.findIn K (.ref C) "__ne__" = some (some (.builtin "object.__ne__")))
    (eb : PySem.W.findIn K (.ref C) "__bool__" = some none)
    (mn0 : PySem.W.mroIn K C (.type "NoneType") = some false)
    (mn1 : PySem.W.mroIn K C (.type "bool") = some false)
    (mn2 : PySem.W.mroIn K C (.type "int") = some false)
    (mn3 : PySem.W.mroIn K C (.type "str") = some false)
    (mn4 : PySem.W.mroIn K C (.type "tuple") = some false)
    (mn5 : PySem.W.mroIn K C (.type "list") = some false)
    (mn6 : PySem.W.mroIn K C (.type "dict") = some false)
    (o0 : PySem.W.kitOne K (.type "NoneType") (.ref C) = some false)
    (o1 : PySem.W.kitOne K (.type "bool") (.ref C) = some false)
    (o2 : PySem.W.kitOne K (.type "int") (.ref C) = some false)
    (o3 : PySem.W.kitOne K (.type "str") (.ref C) = some false)
    (o4 : PySem.W.kitOne K (.type "bytes") (.ref C) = some false)
    (o5 : PySem.W.kitOne K (.type "tuple") (.ref C) = some false)
    (o6 : PySem.W.kitOne K (.type "list") (.ref C) = some false)
    (o7 : PySem.W.kitOne K (.type "dict") (.ref C) = some false)
    (oh : PySem.W.kitOne K (.ref C) (.ref C) = some true)
    (r0 : PySem.W.kitOne K (.ref C) (.type "int") = some false)
    (r1 : PySem.W.kitOne K (.ref C) (.type "bool") = some false)
    (r2 : PySem.W.kitOne K (.ref C) (.type "tuple") = some false)
    (r3 : PySem.W.kitOne K (.ref C) (.type "str") = some false)
    (r4 : PySem.W.kitOne K (.ref C) (.type "list") = some false)
    (r5 : PySem.W.kitOne K (.ref C) (.type "bytes") = some false)
    (z_abs : PySem.W.nsIn K mainGlobals "abs" = some none)
    (z_all : PySem.W.nsIn K mainGlobals "all" = some none)
    (z_bool : PySem.W.nsIn K mainGlobals "bool" = some none)
    (z_bytes : PySem.W.nsIn K mainGlobals "bytes" = some none)
    (z_divmod : PySem.W.nsIn K mainGlobals "divmod" = some none)
    (z_enumerate : PySem.W.nsIn K mainGlobals "enumerate" = some none)
    (z_int : PySem.W.nsIn K mainGlobals "int" = some none)
    (z_isinstance : PySem.W.nsIn K mainGlobals "isinstance" = some none)
    (z_len : PySem.W.nsIn K mainGlobals "len" = some none)
    (z_list : PySem.W.nsIn K mainGlobals "list" = some none)
    (z_max : PySem.W.nsIn K mainGlobals "max" = some none)
    (z_min : PySem.W.nsIn K mainGlobals "min" = some none)
    (z_range : PySem.W.nsIn K mainGlobals "range" = some none)
    (z_repr : PySem.W.nsIn K mainGlobals "repr" = some none)
    (z_set : PySem.W.nsIn K mainGlobals "set" = some none)
    (z_str : PySem.W.nsIn K mainGlobals "str" = some none)
    (z_sum : PySem.W.nsIn K mainGlobals "sum" = some none)
    (z_tuple : PySem.W.nsIn K mainGlobals "tuple" = some none)
    (z_zip : PySem.W.nsIn K mainGlobals "zip" = some none)
    {t_FIGURES : Tok} (v_FIGURES : PySem.W.nsIn K mainGlobals "FIGURES" = some (some (.str "0123456789" t_FIGURES)))
    {t_MARK : Tok} (v_MARK : PySem.W.nsIn K mainGlobals "MARK" = some (some (.int 87 t_MARK)))
    {t_MOST : Tok} (v_MOST : PySem.W.nsIn K mainGlobals "MOST" = some (some (.int 24 t_MOST)))
    {t_ROUND : Tok} (v_ROUND : PySem.W.nsIn K mainGlobals "ROUND" = some (some (.int 251 t_ROUND)))
    {t_SPARE : Tok} (v_SPARE : PySem.W.nsIn K mainGlobals "SPARE" = some (some (.int 6 t_SPARE)))
    : ∃ (cs : List (Addr × Addr × Str)) (C : Addr) (fd : FuncData), mI qq K cs [] ∧ (∀ (s : Shared) (v : Value), BindsTo s fd ⟨[v], []⟩ [("_law_script", v)]) ∧ ∀ base : Heap, K.In base → base.Ns mainGlobals mg → (∀ p ∈ cs, LamX.TabB base mg p.1 p.2.1) → FnG l.prog w K mg base 7 fa fd ["_law_script"] (@h8 ⟨cs.map (·.2)⟩ ⟨C, mg, K, w, l.prog⟩ 1 (kU C)) := by
  have e := hfa.symm.trans (PySem.W.mg_of X G a24)
  cases e
  have F0 := fun_mk (st := eR) l0 c0 k0
  have F1 := fun_mk (st := fX) l1 c1 k1
  have F2 := fun_mk (st := eC) l2 c2 k2
  have F3 := fun_mk (st := dR) l3 c3 k3
  have F4 := fun_mk (st := dJ) l4 c4 k4
  have F5 := fun_mk (st := gv) l5 c5 k5
  have F6 := fun_mk (st := fg) l6 c6 k6
  have F7 := fun_mk (st := ez) l7 c7 k7
  have F8 := fun_mk (st := dE) l8 c8 k8
  have F9 := fun_mk (st := eh) l9 c9 k9
  have F10 := fun_mk (st := dI) l10 c10 k10
  have F11 := fun_mk (st := eN) l11 c11 k11
  have F12 := fun_mk (st := cw) l12 c12 k12
  have F13 := fun_mk (st := cQ) l13 c13 k13
  have F14 := fun_mk (st := dF) l14 c14 k14
  have F15 := fun_mk (st := cq) l15 c15 k15
  have F16 := fun_mk (st := dU) l16 c16 k16
  have F17 := fun_mk (st := cu) l17 c17 k17
  have F18 := fun_mk (st := bE) l18 c18 k18
  have F19 := fun_mk (st := eQ) l19 c19 k19
  have F20 := fun_mk (st := fW) l20 c20 k20
  have F21 := fun_mk (st := eO) l21 c21 k21
  have F22 := fun_mk (st := eB) l22 c22 k22
  have F23 := fun_mk (st := dW) l23 c23 k23
  have F24 := fun_mk (st := gN) l24 c24 k24
  have B0 := F0.binds (ps := ["_law_script", "_law_k"]) fun _ _ _ _ _ _ us hl => match us, hl with | [_, _], _ => rfl
  have B1 := F1.binds (ps := ["_law_cell_here"]) fun _ _ _ _ _ _ us hl => match us, hl with | [_], _ => rfl
  have B2 := F2.binds (ps := ["self", "other"]) fun _ _ _ _ _ _ us hl => match us, hl with | [_, _], _ => rfl
  have B3 := F3.binds (ps := ["thing", "least", "most"]) fun _ _ _ _ _ _ us hl => match us, hl with | [_, _, _], _ => rfl
  have B5 := F5.binds (ps := ["_law_heads", "_law_more", "_law_stand"]) fun _ _ _ _ _ _ us hl => match us, hl with | [_, _, _], _ => rfl
  have B6 := F6.binds (ps := ["_law_heads", "_law_more", "_law_stand"]) fun _ _ _ _ _ _ us hl => match us, hl with | [_, _, _], _ => rfl
  have B7 := F7.binds (ps := ["hall"]) fun _ _ _ _ _ _ us hl => match us, hl with | [_], _ => rfl
  have B8 := F8.binds (ps := ["self"]) fun _ _ _ _ _ _ us hl => match us, hl with | [_], _ => rfl
  have B9 := F9.binds (ps := ["hall", "thing"]) fun _ _ _ _ _ _ us hl => match us, hl with | [_, _], _ => rfl
  have B10 := F10.binds (ps := ["hall", "thing"]) fun _ _ _ _ _ _ us hl => match us, hl with | [_, _], _ => rfl
  have B11 := F11.binds (ps := ["hall", "standing"]) fun _ _ _ _ _ _ us hl => match us, hl with | [_, _], _ => rfl
  have B12 := F12.binds (ps := ["hall", "standing"]) fun _ _ _ _ _ _ us hl => match us, hl with | [_, _], _ => rfl
  have B13 := F13.binds (ps := ["hall", "thing"]) fun _ _ _ _ _ _ us hl => match us, hl with | [_, _], _ => rfl
  have B14 := F14.binds (ps := ["word"]) fun _ _ _ _ _ _ us hl => match us, hl with | [_], _ => rfl
  have B15 := F15.binds (ps := ["text"]) fun _ _ _ _ _ _ us hl => match us, hl with | [_], _ => rfl
  have B16 := F16.binds (ps := ["self"]) fun _ _ _ _ _ _ us hl => match us, hl with | [_], _ => rfl
  have B17 := F17.binds (ps := ["hall", "standing"]) fun _ _ _ _ _ _ us hl => match us, hl with | [_, _], _ => rfl
  have B18 := F18.binds (ps := ["data"]) fun _ _ _ _ _ _ us hl => match us, hl with | [_], _ => rfl
  have B19 := F19.binds (ps := ["_law_heads", "_law_more", "_law_stand"]) fun _ _ _ _ _ _ us hl => match us, hl with | [_, _, _], _ => rfl
  have B20 := F20.binds (ps := ["_law_pool_here", "_law_wide"]) fun _ _ _ _ _ _ us hl => match us, hl with | [_, _], _ => rfl
  have B21 := F21.binds (ps := ["_law_pool_here", "_law_upto"]) fun _ _ _ _ _ _ us hl => match us, hl with | [_, _], _ => rfl
  have B22 := F22.binds (ps := ["_law_pool_here", "_law_heads", "_law_more"]) fun _ _ _ _ _ _ us hl => match us, hl with | [_, _, _], _ => rfl
  have B23 := F23.binds (ps := ["_law_pool_here", "_law_heads", "_law_more"]) fun _ _ _ _ _ _ us hl => match us, hl with | [_, _, _], _ => rfl
  have B24 := F24.binds (ps := ["_law_script"]) fun _ _ _ _ _ _ us hl => match us, hl with | [_], _ => rfl
  have hall : HallK K C := ⟨⟨pg, hd, po, sa⟩, hca, hcn, hct, hcm, fun c t => by cases c <;> cases t <;> first | exact kit_ty (by decide +kernel) | assumption, ng, ns⟩
  letI : Tbs := ⟨([] : List (Addr × Addr × Str)).map (·.2)⟩
  have T : Tx K mg C (fun i => [f0, f1, f2, f3, f4, f5, f6, f7, f8, f9, f10, f11, f12, f13, f14, f15, f16, f17, f18, f19, f20, f21, f22, f23, fa].getD i 0) (fun i => [PySem.W.fnOf "_law_cell" "_law_cell" (defArgs eR) (defBody eR) (defScope eR) .none kV0 dc0 pm0 an0 cd0 ct0, PySem.W.fnOf "_law_pool" "_law_pool" (defArgs fX) (defBody fX) (defScope fX) .none kV1 dc1 pm1 an1 cd1 ct1, PySem.W.fnOf "__eq__" "Hall.__eq__" (defArgs eC) (defBody eC) (defScope eC) .none kV2 zy pm2 an2 cd2 ct2, PySem.W.fnOf "is_whole" "is_whole" (defArgs dR) (defBody dR) (defScope dR) .none kV3 dc3 pm3 an3 cd3 ct3, PySem.W.fnOf "__init__" "Hall.__init__" (defArgs dJ) (defBody dJ) (defScope dJ) .none kV4 dc4 pm4 an4 cd4 ct4, PySem.W.fnOf "_law_row" "_law_row" (defArgs gv) (defBody gv) (defScope gv) .none kV5 dc5 pm5 an5 cd5 ct5, PySem.W.fnOf "_law_text" "_law_text" (defArgs fg) (defBody fg) (defScope fg) .none kV6 dc6 pm6 an6 cd6 ct6, PySem.W.fnOf "hall_of" "hall_of" (defArgs ez) (defBody ez) (defScope ez) .none kV7 dc7 pm7 an7 cd7 ct7, PySem.W.fnOf "seats" "Hall.seats" (defArgs dE) (defBody dE) (defScope dE) .none kV8 dc8 pm8 an8 cd8 ct8, PySem.W.fnOf "is_seat" "is_seat" (defArgs eh) (defBody eh) (defScope eh) .none kV9 dc9 pm9 an9 cd9 ct9, PySem.W.fnOf "first_odd" "first_odd" (defArgs dI) (defBody dI) (defScope dI) .none kV10 dc10 pm10 an10 cd10 ct10, PySem.W.fnOf "seated" "seated" (defArgs eN) (defBody eN) (defScope eN) .none kV11 dc11 pm11 an11 cd11 ct11, PySem.W.fnOf "pack_standing" "pack_standing" (defArgs cw) (defBody cw) (defScope cw) .none kV12 dc12 pm12 an12 cd12 ct12, PySem.W.fnOf "is_standing" "is_standing" (defArgs cQ) (defBody cQ) (defScope cQ) .none kV13 dc13 pm13 an13 cd13 ct13, PySem.W.fnOf "number_in" "number_in" (defArgs dF) (defBody dF) (defScope dF) .none kV14 dc14 pm14 an14 cd14 ct14, PySem.W.fnOf "read_standing" "read_standing" (defArgs cq) (defBody cq) (defScope cq) .none kV15 dc15 pm15 an15 cd15 ct15, PySem.W.fnOf "__str__" "Hall.__str__" (defArgs dU) (defBody dU) (defScope dU) .none kV16 dc16 pm16 an16 cd16 ct16, PySem.W.fnOf "show_standing" "show_standing" (defArgs cu) (defBody cu) (defScope cu) .none kV17 dc17 pm17 an17 cd17 ct17, PySem.W.fnOf "unpack_standing" "unpack_standing" (defArgs bE) (defBody bE) (defScope bE) .none kV18 dc18 pm18 an18 cd18 ct18, PySem.W.fnOf "_law_right" "_law_right" (defArgs eQ) (defBody eQ) (defScope eQ) .none kV19 dc19 pm19 an19 cd19 ct19, PySem.W.fnOf "_law_take" "_law_take" (defArgs fW) (defBody fW) (defScope fW) .none kV20 dc20 pm20 an20 cd20 ct20, PySem.W.fnOf "_law_sizes" "_law_sizes" (defArgs eO) (defBody eO) (defScope eO) .none kV21 dc21 pm21 an21 cd21 ct21, PySem.W.fnOf "_law_seated" "_law_seated" (defArgs eB) (defBody eB) (defScope eB) .none kV22 dc22 pm22 an22 cd22 ct22, PySem.W.fnOf "_law_stands" "_law_stands" (defArgs dW) (defBody dW) (defScope dW) .none kV23 dc23 pm23 an23 cd23 ct23, PySem.W.fnOf "law" "law" (defArgs gN) (defBody gN) (defScope gN) .none kV24 dc24 pm24 an24 cd24 ct24].getD i (PySem.W.fnOf "_law_cell" "_law_cell" (defArgs eR) (defBody eR) (defScope eR) .none kV0 dc0 pm0 an0 cd0 ct0)) := by
    exact ⟨hall, fmt, ⟨a2, en, i2, hcm, mn0, mn1, mn2, mn3, mn4, mn5, mn6⟩, eb, ⟨F0, PySem.W.mg_of X G a0, k0, B0⟩, ⟨F1, PySem.W.mg_of X G a1, k1, B1⟩, ⟨F2, ⟨a2, i2, k2⟩, B2⟩, ⟨F3, PySem.W.mg_of X G a3, k3, B3⟩, F4, ⟨mkC, a4, i4, kpC⟩, ⟨F5, PySem.W.mg_of X G a5, k5, B5⟩, ⟨F6, PySem.W.mg_of X G a6, k6, B6⟩, ⟨F7, PySem.W.mg_of X G a7, k7, B7⟩, ⟨F8, ⟨a8, i8, k8⟩, B8⟩, ⟨F9, PySem.W.mg_of X G a9, k9, B9⟩, ⟨F10, PySem.W.mg_of X G a10, k10, B10⟩, ⟨F11, PySem.W.mg_of X G a11, k11, B11⟩, ⟨F12, PySem.W.mg_of X G a12, k12, B12⟩, ⟨F13, PySem.W.mg_of X G a13, k13, B13⟩, ⟨F14, PySem.W.mg_of X G a14, k14, B14⟩, ⟨F15, PySem.W.mg_of X G a15, k15, B15⟩, ⟨F16, ⟨a16, i16, k16⟩, B16⟩, ⟨F17, PySem.W.mg_of X G a17, k17, B17⟩, ⟨F18, PySem.W.mg_of X G a18, k18, B18⟩, ⟨F19, PySem.W.mg_of X G a19, k19, B19⟩, ⟨F20, PySem.W.mg_of X G a20, k20, B20⟩, ⟨F21, PySem.W.mg_of X G a21, k21, B21⟩, ⟨F22, PySem.W.mg_of X G a22, k22, B22⟩, ⟨F23, PySem.W.mg_of X G a23, k23, B23⟩, ⟨F24, PySem.W.mg_of X G a24, k24, B24⟩, PySem.W.mg_of X G gH, PySem.W.mg_none_of X G z_abs, PySem.W.mg_none_of X G z_all, PySem.W.mg_none_of X G z_bool, PySem.W.mg_none_of X G z_bytes, PySem.W.mg_none_of X G z_divmod, PySem.W.mg_none_of X G z_enumerate, PySem.W.mg_none_of X G z_int, PySem.W.mg_none_of X G z_isinstance, PySem.W.mg_none_of X G z_len, PySem.W.mg_none_of X G z_list, PySem.W.mg_none_of X G z_max, PySem.W.mg_none_of X G z_min, PySem.W.mg_none_of X G z_range, PySem.W.mg_none_of X G z_repr, PySem.W.mg_none_of X G z_set, PySem.W.mg_none_of X G z_str, PySem.W.mg_none_of X G z_sum, PySem.W.mg_none_of X G z_tuple, PySem.W.mg_none_of X G z_zip, ⟨_, PySem.W.mg_of X G v_FIGURES, ⟨_, rfl⟩⟩, ⟨_, PySem.W.mg_of X G v_MARK, ⟨_, rfl⟩⟩, ⟨_, PySem.W.mg_of X G v_MOST, ⟨_, rfl⟩⟩, ⟨_, PySem.W.mg_of X G v_ROUND, ⟨_, rfl⟩⟩, ⟨_, PySem.W.mg_of X G v_SPARE, ⟨_, rfl⟩⟩⟩
  exact ⟨[], C, PySem.W.fnOf "law" "law" (defArgs gN) (defBody gN) (defScope gN) .none kV24 dc24 pm24 an24 cd24 ct24, fun p hp => by simp at hp, fun s v => .of_eq rfl, fun base _ _ TB => xW T⟩
end
end DLP
namespace DLP
open PySem PySem.Spec PyProof.Rows L2 DL MW
section
theorem uW {env : List DL.Slot} {i : Nat} {d : D} {v : DL.Slot} (h : env[i]? = some v) (hv : ∀ x o, v ≠ .io x o) : Runs (setI i d) env () (env.set i (.im d)) := fun Q E => by
  unfold setI
  rw [h]
  cases v with
  | io x o => exact (hv x o rfl).elim
  | _ => rfl
theorem jN (n : Int) : eS 0 n = (nums n).map .int := by
  unfold eS nums
  rw [List.map_map, Int.sub_zero]
  refine List.map_congr_left fun i _ => ?_
  show D.int (0 + _) = D.int _
  rw [Int.zero_add]
theorem jw (C : Addr) (i a b : Int) (Q E) : e7 C [.im (.int i), .im (.int a), .im (.int b)] Q E = Q (.d (.bl (decide (a ≤ i) && decide (i ≤ b)))) [.im (.int i), .im (.int a), .im (.int b)] := by
  simp only [↓e7, ↓lX, ↓aL, ↓aP, ↓aM, ↓aE, ↓aS, ↓ai, ↓getO, ↓putO, ↓setI, ↓setO, ac, aa, List.set_cons_zero, List.set_cons_succ, ↓bc, ↓dq, ↓aN, ↓dY, ↓cV, ↓eG, ↓notB, ↓dh, ↓dw, ↓dP, ↓cA, ↓fG, ↓ak, ↓ao, ↓aZ, ↓cI, ↓lstM, ↓bK, ↓cF, ↓bj, ↓du, ↓callN, ↓callA, ↓cN, ↓split1, ↓callD, ↓call1, ↓callK, ↓cO, ↓putS, ↓cG, ↓cz, ↓dX, ↓eY, ↓cB, ↓cE, D.kind, CT.is, ↓fh, ↓fB, ↓fD, ↓fF, ↓cy, ↓cW, ↓cK, ↓cJ, ↓bM, ↓di, ↓aH, ↓aC, ↓cS, ↓dc, ↓dB, ↓DL.intD, ↓bU, ↓bT, ↓dz, ↓de, ↓e6, ↓e9, ↓aJ, ↓cR, ↓olist, ↓fE, ↓fC, ↓bF, ↓bR, ↓bC, ↓ck, ↓cj, ↓dj, ↓oset, ↓fH, ↓bS, ↓bJ, ↓cY, ↓dy, ↓cM, ↓bB, ↓bf, ↓aI, ↓bh, ↓cL, ↓bu, ↓dC, ↓vD, ↓vO, ↓oins, ↓fJ, ↓bL, bx, ↓bA, aK, ↓fc, ↓DL.cU, ↓cX, ↓bv, ↓bD, ↓bV, ↓bz, ↓fj, Option.map, List.map_cons, List.map_nil, List.cons_append, List.nil_append, List.length_cons, List.length_nil, List.replicate, Nat.reduceAdd, Nat.reduceSub, Nat.sub_self, Bool.not_true, Bool.not_false, ↓if_true, ↓if_false, ↓ite_true, ↓ite_false, true_and, and_true, Bool.true_eq_false, Bool.false_eq_true, reduceIte, aD, cg, b9, b8, bZ, bY, bX, ↓aW, ↓aU, ↓aV, ↓aT, ↓aR, ↓aQ, aO, cZ, ↓au, ↓ay, ↓az, ↓aj, fA, fy, fx, fw, fv, fu, ft, fo, fk, forall_const, fS, fR, fQ, fP, fO, fN, fM, fL, fK, aX, ↓aF, ↓aA, ↓aw, List.filterMap_cons, List.filterMap_nil, ↓bH, ↓cP, b7, bQ, bW, bO, dD, ↓strR, ↓joinM, ↓bN, ↓aB, ↓bP, List.nodup_cons, List.nodup_nil, List.not_mem_nil, not_false_eq_true, ↓am]
  by_cases h1 : a ≤ i
  · simp only [decide_eq_true h1, ↓aL, ↓aP, ↓aM, ↓aE, ↓aS, ↓ai, ↓getO, ↓putO, ↓setI, ↓setO, ac, aa, List.set_cons_zero, List.set_cons_succ, ↓bc, ↓dq, ↓aN, ↓dY, ↓cV, ↓eG, ↓notB, ↓dh, ↓dw, ↓dP, ↓cA, ↓fG, ↓ak, ↓ao, ↓aZ, ↓cI, ↓lstM, ↓bK, ↓cF, ↓bj, ↓du, ↓callN, ↓callA, ↓cN, ↓split1, ↓callD, ↓call1, ↓callK, ↓cO, ↓putS, ↓cG, ↓cz, ↓dX, ↓eY, ↓cB, ↓cE, D.kind, CT.is, ↓fh, ↓fB, ↓fD, ↓fF, ↓cy, ↓cW, ↓cK, ↓cJ, ↓bM, ↓di, ↓aH, ↓aC, ↓cS, ↓dc, ↓dB, ↓DL.intD, ↓bU, ↓bT, ↓dz, ↓de, ↓e6, ↓e9, ↓aJ, ↓cR, ↓olist, ↓fE, ↓fC, ↓bF, ↓bR, ↓bC, ↓ck, ↓cj, ↓dj, ↓oset, ↓fH, ↓bS, ↓bJ, ↓cY, ↓dy, ↓cM, ↓bB, ↓bf, ↓aI, ↓bh, ↓cL, ↓bu, ↓dC, ↓vD, ↓vO, ↓oins, ↓fJ, ↓bL, bx, ↓bA, aK, ↓fc, ↓DL.cU, ↓cX, ↓bv, ↓bD, ↓bV, ↓bz, ↓fj, Option.map, List.map_cons, List.map_nil, List.cons_append, List.nil_append, List.length_cons, List.length_nil, List.replicate, Nat.reduceAdd, Nat.reduceSub, Nat.sub_self, Bool.not_true, Bool.not_false, ↓if_true, ↓if_false, ↓ite_true, ↓ite_false, true_and, and_true, Bool.true_eq_false, Bool.false_eq_true, reduceIte, aD, cg, b9, b8, bZ, bY, bX, ↓aW, ↓aU, ↓aV, ↓aT, ↓aR, ↓aQ, aO, cZ, ↓au, ↓ay, ↓az, ↓aj, fA, fy, fx, fw, fv, fu, ft, fo, fk, forall_const, fS, fR, fQ, fP, fO, fN, fM, fL, fK, aX, ↓aF, ↓aA, ↓aw, List.filterMap_cons, List.filterMap_nil, ↓bH, ↓cP, b7, bQ, bW, bO, dD, ↓strR, ↓joinM, ↓bN, ↓aB, ↓bP, List.nodup_cons, List.nodup_nil, List.not_mem_nil, not_false_eq_true, ↓am, Bool.true_and]
  · simp only [decide_eq_false h1, ↓aL, ↓aP, ↓aM, ↓aE, ↓aS, ↓ai, ↓getO, ↓putO, ↓setI, ↓setO, ac, aa, List.set_cons_zero, List.set_cons_succ, ↓bc, ↓dq, ↓aN, ↓dY, ↓cV, ↓eG, ↓notB, ↓dh, ↓dw, ↓dP, ↓cA, ↓fG, ↓ak, ↓ao, ↓aZ, ↓cI, ↓lstM, ↓bK, ↓cF, ↓bj, ↓du, ↓callN, ↓callA, ↓cN, ↓split1, ↓callD, ↓call1, ↓callK, ↓cO, ↓putS, ↓cG, ↓cz, ↓dX, ↓eY, ↓cB, ↓cE, D.kind, CT.is, ↓fh, ↓fB, ↓fD, ↓fF, ↓cy, ↓cW, ↓cK, ↓cJ, ↓bM, ↓di, ↓aH, ↓aC, ↓cS, ↓dc, ↓dB, ↓DL.intD, ↓bU, ↓bT, ↓dz, ↓de, ↓e6, ↓e9, ↓aJ, ↓cR, ↓olist, ↓fE, ↓fC, ↓bF, ↓bR, ↓bC, ↓ck, ↓cj, ↓dj, ↓oset, ↓fH, ↓bS, ↓bJ, ↓cY, ↓dy, ↓cM, ↓bB, ↓bf, ↓aI, ↓bh, ↓cL, ↓bu, ↓dC, ↓vD, ↓vO, ↓oins, ↓fJ, ↓bL, bx, ↓bA, aK, ↓fc, ↓DL.cU, ↓cX, ↓bv, ↓bD, ↓bV, ↓bz, ↓fj, Option.map, List.map_cons, List.map_nil, List.cons_append, List.nil_append, List.length_cons, List.length_nil, List.replicate, Nat.reduceAdd, Nat.reduceSub, Nat.sub_self, Bool.not_true, Bool.not_false, ↓if_true, ↓if_false, ↓ite_true, ↓ite_false, true_and, and_true, Bool.true_eq_false, Bool.false_eq_true, reduceIte, aD, cg, b9, b8, bZ, bY, bX, ↓aW, ↓aU, ↓aV, ↓aT, ↓aR, ↓aQ, aO, cZ, ↓au, ↓ay, ↓az, ↓aj, fA, fy, fx, fw, fv, fu, ft, fo, fk, forall_const, fS, fR, fQ, fP, fO, fN, fM, fL, fK, aX, ↓aF, ↓aA, ↓aw, List.filterMap_cons, List.filterMap_nil, ↓bH, ↓cP, b7, bQ, bW, bO, dD, ↓strR, ↓joinM, ↓bN, ↓aB, ↓bP, List.nodup_cons, List.nodup_nil, List.not_mem_nil, not_false_eq_true, ↓am, Bool.false_and]
theorem zk : ¬ (("guests" : Str) = "spare") := by decide +kernel
theorem pZ (C : Addr) (x : Addr) (g s : Int) (hg : 1 ≤ g ∧ g ≤ 24) (hs : 0 ≤ s ∧ s ≤ 6) (Q E) : gF C [.io x (.ins C []), .im (.int g), .im (.int s)] Q E = Q (.d .non) [.io x (.ins C [("guests", .int g), ("spare", .int s)]), .im (.int g), .im (.int s)] := by
  have e1 : (decide ((1:Int) ≤ g) && decide (g ≤ 24)) = true := by simp [hg]
  have e2 : (decide ((0:Int) ≤ s) && decide (s ≤ 6)) = true := by simp [hs]
  have z1 : (0 : Nat) < 1000 := by decide
  have z2 : (1 : Nat) < 1000 := by decide
  simp only [↓gF, ↓kQ, ↓jw, e1, e2, zk, z1, z2, ↓aL, ↓aP, ↓aM, ↓aE, ↓aS, ↓ai, ↓getO, ↓putO, ↓setI, ↓setO, ac, aa, List.set_cons_zero, List.set_cons_succ, ↓bc, ↓dq, ↓aN, ↓dY, ↓cV, ↓eG, ↓notB, ↓dh, ↓dw, ↓dP, ↓cA, ↓fG, ↓ak, ↓ao, ↓aZ, ↓cI, ↓lstM, ↓bK, ↓cF, ↓bj, ↓du, ↓callN, ↓callA, ↓cN, ↓split1, ↓callD, ↓call1, ↓callK, ↓cO, ↓putS, ↓cG, ↓cz, ↓dX, ↓eY, ↓cB, ↓cE, D.kind, CT.is, ↓fh, ↓fB, ↓fD, ↓fF, ↓cy, ↓cW, ↓cK, ↓cJ, ↓bM, ↓di, ↓aH, ↓aC, ↓cS, ↓dc, ↓dB, ↓DL.intD, ↓bU, ↓bT, ↓dz, ↓de, ↓e6, ↓e9, ↓aJ, ↓cR, ↓olist, ↓fE, ↓fC, ↓bF, ↓bR, ↓bC, ↓ck, ↓cj, ↓dj, ↓oset, ↓fH, ↓bS, ↓bJ, ↓cY, ↓dy, ↓cM, ↓bB, ↓bf, ↓aI, ↓bh, ↓cL, ↓bu, ↓dC, ↓vD, ↓vO, ↓oins, ↓fJ, ↓bL, bx, ↓bA, aK, ↓fc, ↓DL.cU, ↓cX, ↓bv, ↓bD, ↓bV, ↓bz, ↓fj, Option.map, List.map_cons, List.map_nil, List.cons_append, List.nil_append, List.length_cons, List.length_nil, List.replicate, Nat.reduceAdd, Nat.reduceSub, Nat.sub_self, Bool.not_true, Bool.not_false, ↓if_true, ↓if_false, ↓ite_true, ↓ite_false, true_and, and_true, Bool.true_eq_false, Bool.false_eq_true, reduceIte, aD, cg, b9, b8, bZ, bY, bX, ↓aW, ↓aU, ↓aV, ↓aT, ↓aR, ↓aQ, aO, cZ, ↓au, ↓ay, ↓az, ↓aj, fA, fy, fx, fw, fv, fu, ft, fo, fk, forall_const, fS, fR, fQ, fP, fO, fN, fM, fL, fK, aX, ↓aF, ↓aA, ↓aw, List.filterMap_cons, List.filterMap_nil, ↓bH, ↓cP, b7, bQ, bW, bO, dD, ↓strR, ↓joinM, ↓bN, ↓aB, ↓bP, List.nodup_cons, List.nodup_nil, List.not_mem_nil, not_false_eq_true, ↓am]
theorem vi (C : Addr) (g s : Int) (Q E) : ii C [.im (.hall g s)] Q E = Q (.d (.int (g + s))) [.im (.hall g s)] := by
  simp only [↓ii, ↓j2, ↓aL, ↓aP, ↓aM, ↓aE, ↓aS, ↓ai, ↓getO, ↓putO, ↓setI, ↓setO, ac, aa, List.set_cons_zero, List.set_cons_succ, ↓bc, ↓dq, ↓aN, ↓dY, ↓cV, ↓eG, ↓notB, ↓dh, ↓dw, ↓dP, ↓cA, ↓fG, ↓ak, ↓ao, ↓aZ, ↓cI, ↓lstM, ↓bK, ↓cF, ↓bj, ↓du, ↓callN, ↓callA, ↓cN, ↓split1, ↓callD, ↓call1, ↓callK, ↓cO, ↓putS, ↓cG, ↓cz, ↓dX, ↓eY, ↓cB, ↓cE, D.kind, CT.is, ↓fh, ↓fB, ↓fD, ↓fF, ↓cy, ↓cW, ↓cK, ↓cJ, ↓bM, ↓di, ↓aH, ↓aC, ↓cS, ↓dc, ↓dB, ↓DL.intD, ↓bU, ↓bT, ↓dz, ↓de, ↓e6, ↓e9, ↓aJ, ↓cR, ↓olist, ↓fE, ↓fC, ↓bF, ↓bR, ↓bC, ↓ck, ↓cj, ↓dj, ↓oset, ↓fH, ↓bS, ↓bJ, ↓cY, ↓dy, ↓cM, ↓bB, ↓bf, ↓aI, ↓bh, ↓cL, ↓bu, ↓dC, ↓vD, ↓vO, ↓oins, ↓fJ, ↓bL, bx, ↓bA, aK, ↓fc, ↓DL.cU, ↓cX, ↓bv, ↓bD, ↓bV, ↓bz, ↓fj, Option.map, List.map_cons, List.map_nil, List.cons_append, List.nil_append, List.length_cons, List.length_nil, List.replicate, Nat.reduceAdd, Nat.reduceSub, Nat.sub_self, Bool.not_true, Bool.not_false, ↓if_true, ↓if_false, ↓ite_true, ↓ite_false, true_and, and_true, Bool.true_eq_false, Bool.false_eq_true, reduceIte, aD, cg, b9, b8, bZ, bY, bX, ↓aW, ↓aU, ↓aV, ↓aT, ↓aR, ↓aQ, aO, cZ, ↓au, ↓ay, ↓az, ↓aj, fA, fy, fx, fw, fv, fu, ft, fo, fk, forall_const, fS, fR, fQ, fP, fO, fN, fM, fL, fK, aX, ↓aF, ↓aA, ↓aw, List.filterMap_cons, List.filterMap_nil, ↓bH, ↓cP, b7, bQ, bW, bO, dD, ↓strR, ↓joinM, ↓bN, ↓aB, ↓bP, List.nodup_cons, List.nodup_nil, List.not_mem_nil, not_false_eq_true, ↓am]
theorem ky (C : Addr) (g s : Int) (Q E) : iu C [.im (.hall g s)] Q E = Q (.d (.hall g s)) [.im (.hall g s)] := by
  simp only [↓iu, ↓mZ, ↓aL, ↓aP, ↓aM, ↓aE, ↓aS, ↓ai, ↓getO, ↓putO, ↓setI, ↓setO, ac, aa, List.set_cons_zero, List.set_cons_succ, ↓bc, ↓dq, ↓aN, ↓dY, ↓cV, ↓eG, ↓notB, ↓dh, ↓dw, ↓dP, ↓cA, ↓fG, ↓ak, ↓ao, ↓aZ, ↓cI, ↓lstM, ↓bK, ↓cF, ↓bj, ↓du, ↓callN, ↓callA, ↓cN, ↓split1, ↓callD, ↓call1, ↓callK, ↓cO, ↓putS, ↓cG, ↓cz, ↓dX, ↓eY, ↓cB, ↓cE, D.kind, CT.is, ↓fh, ↓fB, ↓fD, ↓fF, ↓cy, ↓cW, ↓cK, ↓cJ, ↓bM, ↓di, ↓aH, ↓aC, ↓cS, ↓dc, ↓dB, ↓DL.intD, ↓bU, ↓bT, ↓dz, ↓de, ↓e6, ↓e9, ↓aJ, ↓cR, ↓olist, ↓fE, ↓fC, ↓bF, ↓bR, ↓bC, ↓ck, ↓cj, ↓dj, ↓oset, ↓fH, ↓bS, ↓bJ, ↓cY, ↓dy, ↓cM, ↓bB, ↓bf, ↓aI, ↓bh, ↓cL, ↓bu, ↓dC, ↓vD, ↓vO, ↓oins, ↓fJ, ↓bL, bx, ↓bA, aK, ↓fc, ↓DL.cU, ↓cX, ↓bv, ↓bD, ↓bV, ↓bz, ↓fj, Option.map, List.map_cons, List.map_nil, List.cons_append, List.nil_append, List.length_cons, List.length_nil, List.replicate, Nat.reduceAdd, Nat.reduceSub, Nat.sub_self, Bool.not_true, Bool.not_false, ↓if_true, ↓if_false, ↓ite_true, ↓ite_false, true_and, and_true, Bool.true_eq_false, Bool.false_eq_true, reduceIte, aD, cg, b9, b8, bZ, bY, bX, ↓aW, ↓aU, ↓aV, ↓aT, ↓aR, ↓aQ, aO, cZ, ↓au, ↓ay, ↓az, ↓aj, fA, fy, fx, fw, fv, fu, ft, fo, fk, forall_const, fS, fR, fQ, fP, fO, fN, fM, fL, fK, aX, ↓aF, ↓aA, ↓aw, List.filterMap_cons, List.filterMap_nil, ↓bH, ↓cP, b7, bQ, bW, bO, dD, ↓strR, ↓joinM, ↓bN, ↓aB, ↓bP, List.nodup_cons, List.nodup_nil, List.not_mem_nil, not_false_eq_true, ↓am]
theorem rN (C : Addr) (g s i : Int) (Q E) : jC C [.im (.hall g s), .im (.int i)] Q E = Q (.d (.bl (decide (0 ≤ i) && decide (i ≤ g + s - 1)))) [.im (.hall g s), .im (.int i)] := by
  simp only [↓jC, ↓mY, ↓vi, ↓jw, ↓aL, ↓aP, ↓aM, ↓aE, ↓aS, ↓ai, ↓getO, ↓putO, ↓setI, ↓setO, ac, aa, List.set_cons_zero, List.set_cons_succ, ↓bc, ↓dq, ↓aN, ↓dY, ↓cV, ↓eG, ↓notB, ↓dh, ↓dw, ↓dP, ↓cA, ↓fG, ↓ak, ↓ao, ↓aZ, ↓cI, ↓lstM, ↓bK, ↓cF, ↓bj, ↓du, ↓callN, ↓callA, ↓cN, ↓split1, ↓callD, ↓call1, ↓callK, ↓cO, ↓putS, ↓cG, ↓cz, ↓dX, ↓eY, ↓cB, ↓cE, D.kind, CT.is, ↓fh, ↓fB, ↓fD, ↓fF, ↓cy, ↓cW, ↓cK, ↓cJ, ↓bM, ↓di, ↓aH, ↓aC, ↓cS, ↓dc, ↓dB, ↓DL.intD, ↓bU, ↓bT, ↓dz, ↓de, ↓e6, ↓e9, ↓aJ, ↓cR, ↓olist, ↓fE, ↓fC, ↓bF, ↓bR, ↓bC, ↓ck, ↓cj, ↓dj, ↓oset, ↓fH, ↓bS, ↓bJ, ↓cY, ↓dy, ↓cM, ↓bB, ↓bf, ↓aI, ↓bh, ↓cL, ↓bu, ↓dC, ↓vD, ↓vO, ↓oins, ↓fJ, ↓bL, bx, ↓bA, aK, ↓fc, ↓DL.cU, ↓cX, ↓bv, ↓bD, ↓bV, ↓bz, ↓fj, Option.map, List.map_cons, List.map_nil, List.cons_append, List.nil_append, List.length_cons, List.length_nil, List.replicate, Nat.reduceAdd, Nat.reduceSub, Nat.sub_self, Bool.not_true, Bool.not_false, ↓if_true, ↓if_false, ↓ite_true, ↓ite_false, true_and, and_true, Bool.true_eq_false, Bool.false_eq_true, reduceIte, aD, cg, b9, b8, bZ, bY, bX, ↓aW, ↓aU, ↓aV, ↓aT, ↓aR, ↓aQ, aO, cZ, ↓au, ↓ay, ↓az, ↓aj, fA, fy, fx, fw, fv, fu, ft, fo, fk, forall_const, fS, fR, fQ, fP, fO, fN, fM, fL, fK, aX, ↓aF, ↓aA, ↓aw, List.filterMap_cons, List.filterMap_nil, ↓bH, ↓cP, b7, bQ, bW, bO, dD, ↓strR, ↓joinM, ↓bN, ↓aB, ↓bP, List.nodup_cons, List.nodup_nil, List.not_mem_nil, not_false_eq_true, ↓am]
def oD : Option Int → D
  | none => .non
  | some i => .int i
def eE (st : Sd) : D := .tup (st.map oD)
theorem vU (C : Addr) (g s : Int) (tp : D) (k : Int) (S : Int → Bool) (n : Nat) (Q E) : eJ C [.im (.hall g s), .im tp, .ow (.set S n), .im (.int k), .im .non] Q E = Q .nx [.im (.hall g s), .im tp, .ow (.set S n), .im (.int k), .im .non] := by
  simp only [↓eJ, ↓aL, ↓aP, ↓aM, ↓aE, ↓aS, ↓ai, ↓getO, ↓putO, ↓setI, ↓setO, ac, aa, List.set_cons_zero, List.set_cons_succ, ↓bc, ↓dq, ↓aN, ↓dY, ↓cV, ↓eG, ↓notB, ↓dh, ↓dw, ↓dP, ↓cA, ↓fG, ↓ak, ↓ao, ↓aZ, ↓cI, ↓lstM, ↓bK, ↓cF, ↓bj, ↓du, ↓callN, ↓callA, ↓cN, ↓split1, ↓callD, ↓call1, ↓callK, ↓cO, ↓putS, ↓cG, ↓cz, ↓dX, ↓eY, ↓cB, ↓cE, D.kind, CT.is, ↓fh, ↓fB, ↓fD, ↓fF, ↓cy, ↓cW, ↓cK, ↓cJ, ↓bM, ↓di, ↓aH, ↓aC, ↓cS, ↓dc, ↓dB, ↓DL.intD, ↓bU, ↓bT, ↓dz, ↓de, ↓e6, ↓e9, ↓aJ, ↓cR, ↓olist, ↓fE, ↓fC, ↓bF, ↓bR, ↓bC, ↓ck, ↓cj, ↓dj, ↓oset, ↓fH, ↓bS, ↓bJ, ↓cY, ↓dy, ↓cM, ↓bB, ↓bf, ↓aI, ↓bh, ↓cL, ↓bu, ↓dC, ↓vD, ↓vO, ↓oins, ↓fJ, ↓bL, bx, ↓bA, aK, ↓fc, ↓DL.cU, ↓cX, ↓bv, ↓bD, ↓bV, ↓bz, ↓fj, Option.map, List.map_cons, List.map_nil, List.cons_append, List.nil_append, List.length_cons, List.length_nil, List.replicate, Nat.reduceAdd, Nat.reduceSub, Nat.sub_self, Bool.not_true, Bool.not_false, ↓if_true, ↓if_false, ↓ite_true, ↓ite_false, true_and, and_true, Bool.true_eq_false, Bool.false_eq_true, reduceIte, aD, cg, b9, b8, bZ, bY, bX, ↓aW, ↓aU, ↓aV, ↓aT, ↓aR, ↓aQ, aO, cZ, ↓au, ↓ay, ↓az, ↓aj, fA, fy, fx, fw, fv, fu, ft, fo, fk, forall_const, fS, fR, fQ, fP, fO, fN, fM, fL, fK, aX, ↓aF, ↓aA, ↓aw, List.filterMap_cons, List.filterMap_nil, ↓bH, ↓cP, b7, bQ, bW, bO, dD, ↓strR, ↓joinM, ↓bN, ↓aB, ↓bP, List.nodup_cons, List.nodup_nil, List.not_mem_nil, not_false_eq_true, ↓am]
theorem vT (C : Addr) (g s : Int) (tp : D) (k i : Int) (S : Int → Bool) (n : Nat) (h1 : 0 ≤ i ∧ i < g + s) (h2 : S i = false) (h3 : n + 1 < scanBound) (Q E) : eJ C [.im (.hall g s), .im tp, .ow (.set S n), .im (.int k), .im (.int i)] Q E = Q .nx [.im (.hall g s), .im tp, .ow (.set (wA S i) (n + 1)), .im (.int k), .im (.int i)] := by
  have e1 : (decide ((0:Int) ≤ i) && decide (i ≤ g + s - 1)) = true := by simp; omega
  simp only [↓eJ, ↓rN, e1, h2, h3, ↓aL, ↓aP, ↓aM, ↓aE, ↓aS, ↓ai, ↓getO, ↓putO, ↓setI, ↓setO, ac, aa, List.set_cons_zero, List.set_cons_succ, ↓bc, ↓dq, ↓aN, ↓dY, ↓cV, ↓eG, ↓notB, ↓dh, ↓dw, ↓dP, ↓cA, ↓fG, ↓ak, ↓ao, ↓aZ, ↓cI, ↓lstM, ↓bK, ↓cF, ↓bj, ↓du, ↓callN, ↓callA, ↓cN, ↓split1, ↓callD, ↓call1, ↓callK, ↓cO, ↓putS, ↓cG, ↓cz, ↓dX, ↓eY, ↓cB, ↓cE, D.kind, CT.is, ↓fh, ↓fB, ↓fD, ↓fF, ↓cy, ↓cW, ↓cK, ↓cJ, ↓bM, ↓di, ↓aH, ↓aC, ↓cS, ↓dc, ↓dB, ↓DL.intD, ↓bU, ↓bT, ↓dz, ↓de, ↓e6, ↓e9, ↓aJ, ↓cR, ↓olist, ↓fE, ↓fC, ↓bF, ↓bR, ↓bC, ↓ck, ↓cj, ↓dj, ↓oset, ↓fH, ↓bS, ↓bJ, ↓cY, ↓dy, ↓cM, ↓bB, ↓bf, ↓aI, ↓bh, ↓cL, ↓bu, ↓dC, ↓vD, ↓vO, ↓oins, ↓fJ, ↓bL, bx, ↓bA, aK, ↓fc, ↓DL.cU, ↓cX, ↓bv, ↓bD, ↓bV, ↓bz, ↓fj, Option.map, List.map_cons, List.map_nil, List.cons_append, List.nil_append, List.length_cons, List.length_nil, List.replicate, Nat.reduceAdd, Nat.reduceSub, Nat.sub_self, Bool.not_true, Bool.not_false, ↓if_true, ↓if_false, ↓ite_true, ↓ite_false, true_and, and_true, Bool.true_eq_false, Bool.false_eq_true, reduceIte, aD, cg, b9, b8, bZ, bY, bX, ↓aW, ↓aU, ↓aV, ↓aT, ↓aR, ↓aQ, aO, cZ, ↓au, ↓ay, ↓az, ↓aj, fA, fy, fx, fw, fv, fu, ft, fo, fk, forall_const, fS, fR, fQ, fP, fO, fN, fM, fL, fK, aX, ↓aF, ↓aA, ↓aw, List.filterMap_cons, List.filterMap_nil, ↓bH, ↓cP, b7, bQ, bW, bO, dD, ↓strR, ↓joinM, ↓bN, ↓aB, ↓bP, List.nodup_cons, List.nodup_nil, List.not_mem_nil, not_false_eq_true, ↓am]
theorem rE (a b : D) (x0 x1 x2 v3 v4 : DL.Slot) (h3 : ∀ c o, v3 ≠ .io c o) (h4 : ∀ c o, v4 ≠ .io c o) (Q E) : aI [3, 4] (.pr [a, b]) [x0, x1, x2, v3, v4] Q E = Q () [x0, x1, x2, .im a, .im b] := by
  cases v3 with
  | io c o => exact (h3 c o rfl).elim
  | _ =>
    cases v4 with
    | io c o => exact (h4 c o rfl).elim
    | _ => simp only [↓aL, ↓aP, ↓aM, ↓aE, ↓aS, ↓ai, ↓getO, ↓putO, ↓setI, ↓setO, ac, aa, List.set_cons_zero, List.set_cons_succ, ↓bc, ↓dq, ↓aN, ↓dY, ↓cV, ↓eG, ↓notB, ↓dh, ↓dw, ↓dP, ↓cA, ↓fG, ↓ak, ↓ao, ↓aZ, ↓cI, ↓lstM, ↓bK, ↓cF, ↓bj, ↓du, ↓callN, ↓callA, ↓cN, ↓split1, ↓callD, ↓call1, ↓callK, ↓cO, ↓putS, ↓cG, ↓cz, ↓dX, ↓eY, ↓cB, ↓cE, D.kind, CT.is, ↓fh, ↓fB, ↓fD, ↓fF, ↓cy, ↓cW, ↓cK, ↓cJ, ↓bM, ↓di, ↓aH, ↓aC, ↓cS, ↓dc, ↓dB, ↓DL.intD, ↓bU, ↓bT, ↓dz, ↓de, ↓e6, ↓e9, ↓aJ, ↓cR, ↓olist, ↓fE, ↓fC, ↓bF, ↓bR, ↓bC, ↓ck, ↓cj, ↓dj, ↓oset, ↓fH, ↓bS, ↓bJ, ↓cY, ↓dy, ↓cM, ↓bB, ↓bf, ↓aI, ↓bh, ↓cL, ↓bu, ↓dC, ↓vD, ↓vO, ↓oins, ↓fJ, ↓bL, bx, ↓bA, aK, ↓fc, ↓DL.cU, ↓cX, ↓bv, ↓bD, ↓bV, ↓bz, ↓fj, Option.map, List.map_cons, List.map_nil, List.cons_append, List.nil_append, List.length_cons, List.length_nil, List.replicate, Nat.reduceAdd, Nat.reduceSub, Nat.sub_self, Bool.not_true, Bool.not_false, ↓if_true, ↓if_false, ↓ite_true, ↓ite_false, true_and, and_true, Bool.true_eq_false, Bool.false_eq_true, reduceIte, aD, cg, b9, b8, bZ, bY, bX, ↓aW, ↓aU, ↓aV, ↓aT, ↓aR, ↓aQ, aO, cZ, ↓au, ↓ay, ↓az, ↓aj, fA, fy, fx, fw, fv, fu, ft, fo, fk, forall_const, fS, fR, fQ, fP, fO, fN, fM, fL, fK, aX, ↓aF, ↓aA, ↓aw, List.filterMap_cons, List.filterMap_nil, ↓bH, ↓cP, b7, bQ, bW, bO, dD, ↓strR, ↓joinM, ↓bN, ↓aB, ↓bP, List.nodup_cons, List.nodup_nil, List.not_mem_nil, not_false_eq_true, ↓am]
theorem t6 (C : Addr) (g s : Int) (tp : D) (Q E) (R : Prop) : ∀ (st : List (Option Int)) (k : Nat) (S : Int → Bool) (n : Nat) (v3 v4 : DL.Slot), (∀ i, some i ∈ st → 0 ≤ i ∧ i < g + s) → (st.Pairwise fun o p => o = none ∨ o ≠ p) → (∀ i, some i ∈ st → S i = false) → n + st.length < 1000 →
    (∀ c o, v3 ≠ .io c o) → (∀ c o, v4 ≠ .io c o) → (∀ S n v3 v4, (∀ c o, v3 ≠ .io c o) → (∀ c o, v4 ≠ .io c o) → Q .nx [.im (.hall g s), .im tp, .ow (.set S n), v3, v4] = R) →
    forL (aI [3, 4]) (eJ C) (((st.map oD).zipIdx k).map fun p => .pr [.int (p.2 : Nat), p.1]) [.im (.hall g s), .im tp, .ow (.set S n), v3, v4] Q E = R := by
  intro st
  induction st with
  | nil => intro k S n v3 v4 _ _ _ _ h5 h6 hQ; exact hQ S n v3 v4 h5 h6
  | cons o st ih =>
    intro k S n v3 v4 h1 h2 h3 h4 h5 h6 hQ
    rw [List.map_cons, List.zipIdx_cons, List.map_cons, aj, rE _ _ _ _ _ _ _ h5 h6]
    rw [List.pairwise_cons] at h2
    rw [List.length_cons] at h4
    have tl : ∀ i, some i ∈ st → 0 ≤ i ∧ i < g + s := fun i hi => h1 i (List.mem_cons_of_mem _ hi)
    cases o with
    | none =>
      show eJ C [.im (.hall g s), .im tp, .ow (.set S n), .im (.int (k : Nat)), .im .non] _ E = R
      rw [vU, au]
      exact ih (k + 1) S n _ _ tl h2.2 (fun i hi => h3 i (List.mem_cons_of_mem _ hi)) (by omega) (fun _ _ => nofun) (fun _ _ => nofun) hQ
    | some i =>
      show eJ C [.im (.hall g s), .im tp, .ow (.set S n), .im (.int (k : Nat)), .im (.int i)] _ E = R
      rw [vT C g s tp k i S n (h1 i (by simp)) (h3 i (by simp)) (by unfold scanBound; omega), au]
      refine ih (k + 1) (wA S i) (n + 1) _ _ tl h2.2 (fun j hj => ?_) (by omega) (fun _ _ => nofun) (fun _ _ => nofun) hQ
      have ne : i ≠ j := fun z => (h2.1 (some j) hj).elim (fun w => by cases w) fun w => w (by rw [z])
      have := h3 j (List.mem_cons_of_mem _ hj)
      simp [wA, this, Ne.symm ne]
theorem kO (C : Addr) (g s : Int) (st : Sd) (h : Stand g s st) (Q E) : hX C [.im (.hall g s), .im (eE st)] Q E = Q (.d (.int (-1))) [.im (.hall g s), .im (eE st)] := by
  have l0 : (((st.map oD).length : Nat) : Int) = g := by rw [List.length_map]; exact h.len
  have l1 : (g == g) = true := by simp
  simp only [↓hX, ↓kP, eE, l0, l1, ↓aL, ↓aP, ↓aM, ↓aE, ↓aS, ↓ai, ↓getO, ↓putO, ↓setI, ↓setO, ac, aa, List.set_cons_zero, List.set_cons_succ, ↓bc, ↓dq, ↓aN, ↓dY, ↓cV, ↓eG, ↓notB, ↓dh, ↓dw, ↓dP, ↓cA, ↓fG, ↓ak, ↓ao, ↓aZ, ↓cI, ↓lstM, ↓bK, ↓cF, ↓bj, ↓du, ↓callN, ↓callA, ↓cN, ↓split1, ↓callD, ↓call1, ↓callK, ↓cO, ↓putS, ↓cG, ↓cz, ↓dX, ↓eY, ↓cB, ↓cE, D.kind, CT.is, ↓fh, ↓fB, ↓fD, ↓fF, ↓cy, ↓cW, ↓cK, ↓cJ, ↓bM, ↓di, ↓aH, ↓aC, ↓cS, ↓dc, ↓dB, ↓DL.intD, ↓bU, ↓bT, ↓dz, ↓de, ↓e6, ↓e9, ↓aJ, ↓cR, ↓olist, ↓fE, ↓fC, ↓bF, ↓bR, ↓bC, ↓ck, ↓cj, ↓dj, ↓oset, ↓fH, ↓bS, ↓bJ, ↓cY, ↓dy, ↓cM, ↓bB, ↓bf, ↓aI, ↓bh, ↓cL, ↓bu, ↓dC, ↓vD, ↓vO, ↓oins, ↓fJ, ↓bL, bx, ↓bA, aK, ↓fc, ↓DL.cU, ↓cX, ↓bv, ↓bD, ↓bV, ↓bz, ↓fj, Option.map, List.map_cons, List.map_nil, List.cons_append, List.nil_append, List.length_cons, List.length_nil, List.replicate, Nat.reduceAdd, Nat.reduceSub, Nat.sub_self, Bool.not_true, Bool.not_false, ↓if_true, ↓if_false, ↓ite_true, ↓ite_false, true_and, and_true, Bool.true_eq_false, Bool.false_eq_true, reduceIte, aD, cg, b9, b8, bZ, bY, bX, ↓aW, ↓aU, ↓aV, ↓aT, ↓aR, ↓aQ, aO, cZ, ↓au, ↓ay, ↓az, ↓aj, fA, fy, fx, fw, fv, fu, ft, fo, fk, forall_const, fS, fR, fQ, fP, fO, fN, fM, fL, fK, aX, ↓aF, ↓aA, ↓aw, List.filterMap_cons, List.filterMap_nil, ↓bH, ↓cP, b7, bQ, bW, bO, dD, ↓strR, ↓joinM, ↓bN, ↓aB, ↓bP, List.nodup_cons, List.nodup_nil, List.not_mem_nil, not_false_eq_true, ↓am]
  refine t6 C g s (.tup (st.map oD)) _ _ _ st 0 (fun _ => false) 0 .no .no h.bd h.nd (fun _ _ => rfl) (by have := h.len; have := h.hg; omega) nofun nofun fun S n v3 v4 _ _ => ?_
  simp only [↓aL, ↓aP, ↓aM, ↓aE, ↓aS, ↓ai, ↓getO, ↓putO, ↓setI, ↓setO, ac, aa, List.set_cons_zero, List.set_cons_succ, ↓bc, ↓dq, ↓aN, ↓dY, ↓cV, ↓eG, ↓notB, ↓dh, ↓dw, ↓dP, ↓cA, ↓fG, ↓ak, ↓ao, ↓aZ, ↓cI, ↓lstM, ↓bK, ↓cF, ↓bj, ↓du, ↓callN, ↓callA, ↓cN, ↓split1, ↓callD, ↓call1, ↓callK, ↓cO, ↓putS, ↓cG, ↓cz, ↓dX, ↓eY, ↓cB, ↓cE, D.kind, CT.is, ↓fh, ↓fB, ↓fD, ↓fF, ↓cy, ↓cW, ↓cK, ↓cJ, ↓bM, ↓di, ↓aH, ↓aC, ↓cS, ↓dc, ↓dB, ↓DL.intD, ↓bU, ↓bT, ↓dz, ↓de, ↓e6, ↓e9, ↓aJ, ↓cR, ↓olist, ↓fE, ↓fC, ↓bF, ↓bR, ↓bC, ↓ck, ↓cj, ↓dj, ↓oset, ↓fH, ↓bS, ↓bJ, ↓cY, ↓dy, ↓cM, ↓bB, ↓bf, ↓aI, ↓bh, ↓cL, ↓bu, ↓dC, ↓vD, ↓vO, ↓oins, ↓fJ, ↓bL, bx, ↓bA, aK, ↓fc, ↓DL.cU, ↓cX, ↓bv, ↓bD, ↓bV, ↓bz, ↓fj, Option.map, List.map_cons, List.map_nil, List.cons_append, List.nil_append, List.length_cons, List.length_nil, List.replicate, Nat.reduceAdd, Nat.reduceSub, Nat.sub_self, Bool.not_true, Bool.not_false, ↓if_true, ↓if_false, ↓ite_true, ↓ite_false, true_and, and_true, Bool.true_eq_false, Bool.false_eq_true, reduceIte, aD, cg, b9, b8, bZ, bY, bX, ↓aW, ↓aU, ↓aV, ↓aT, ↓aR, ↓aQ, aO, cZ, ↓au, ↓ay, ↓az, ↓aj, fA, fy, fx, fw, fv, fu, ft, fo, fk, forall_const, fS, fR, fQ, fP, fO, fN, fM, fL, fK, aX, ↓aF, ↓aA, ↓aw, List.filterMap_cons, List.filterMap_nil, ↓bH, ↓cP, b7, bQ, bW, bO, dD, ↓strR, ↓joinM, ↓bN, ↓aB, ↓bP, List.nodup_cons, List.nodup_nil, List.not_mem_nil, not_false_eq_true, ↓am]
theorem oQ (C : Addr) (g s : Int) (st : Sd) (h : Stand g s st) (Q E) : jm C [.im (.hall g s), .im (eE st)] Q E = Q (.d (eE st)) [.im (.hall g s), .im (eE st)] := by
  have l1 : ((-1 : Int) == -1) = true := by decide
  simp only [↓jm, ↓oV, ↓kO C g s st h, l1, ↓aL, ↓aP, ↓aM, ↓aE, ↓aS, ↓ai, ↓getO, ↓putO, ↓setI, ↓setO, ac, aa, List.set_cons_zero, List.set_cons_succ, ↓bc, ↓dq, ↓aN, ↓dY, ↓cV, ↓eG, ↓notB, ↓dh, ↓dw, ↓dP, ↓cA, ↓fG, ↓ak, ↓ao, ↓aZ, ↓cI, ↓lstM, ↓bK, ↓cF, ↓bj, ↓du, ↓callN, ↓callA, ↓cN, ↓split1, ↓callD, ↓call1, ↓callK, ↓cO, ↓putS, ↓cG, ↓cz, ↓dX, ↓eY, ↓cB, ↓cE, D.kind, CT.is, ↓fh, ↓fB, ↓fD, ↓fF, ↓cy, ↓cW, ↓cK, ↓cJ, ↓bM, ↓di, ↓aH, ↓aC, ↓cS, ↓dc, ↓dB, ↓DL.intD, ↓bU, ↓bT, ↓dz, ↓de, ↓e6, ↓e9, ↓aJ, ↓cR, ↓olist, ↓fE, ↓fC, ↓bF, ↓bR, ↓bC, ↓ck, ↓cj, ↓dj, ↓oset, ↓fH, ↓bS, ↓bJ, ↓cY, ↓dy, ↓cM, ↓bB, ↓bf, ↓aI, ↓bh, ↓cL, ↓bu, ↓dC, ↓vD, ↓vO, ↓oins, ↓fJ, ↓bL, bx, ↓bA, aK, ↓fc, ↓DL.cU, ↓cX, ↓bv, ↓bD, ↓bV, ↓bz, ↓fj, Option.map, List.map_cons, List.map_nil, List.cons_append, List.nil_append, List.length_cons, List.length_nil, List.replicate, Nat.reduceAdd, Nat.reduceSub, Nat.sub_self, Bool.not_true, Bool.not_false, ↓if_true, ↓if_false, ↓ite_true, ↓ite_false, true_and, and_true, Bool.true_eq_false, Bool.false_eq_true, reduceIte, aD, cg, b9, b8, bZ, bY, bX, ↓aW, ↓aU, ↓aV, ↓aT, ↓aR, ↓aQ, aO, cZ, ↓au, ↓ay, ↓az, ↓aj, fA, fy, fx, fw, fv, fu, ft, fo, fk, forall_const, fS, fR, fQ, fP, fO, fN, fM, fL, fK, aX, ↓aF, ↓aA, ↓aw, List.filterMap_cons, List.filterMap_nil, ↓bH, ↓cP, b7, bQ, bW, bO, dD, ↓strR, ↓joinM, ↓bN, ↓aB, ↓bP, List.nodup_cons, List.nodup_nil, List.not_mem_nil, not_false_eq_true, ↓am]
def oE (a b c : Int) : Int := (a * (a % 45013 + 32017) + 90023 * (c + 1)) % 2147483423
def lI (a b c wide : Int) : Int := if 0 < b then b % wide else oE a b c / 64 % wide
def qA (b wide : Int) : Int := if 0 < b then b / wide else b
theorem xG (C : Addr) (x : Addr) (a b c wide : Int) (h1 : 0 < wide) (h2 : wide < 1073741824) (Q E) : eX C [.io x (.lst [.int a, .int b, .int c]), .im (.int wide)] Q E = Q (.d (.int (lI a b c wide))) [.io x (.lst [.int (oE a b c), .int (qA b wide), .int (c + 1)]), .im (.int wide)] := by
  have c1 : CMul a (a % 45013 + 32017) := .inr ⟨by omega, by omega⟩
  have c2 : CMul 90023 (c + 1) := .inl ⟨by decide, by decide⟩
  have d1 : (0 : Int) < 45013 := by decide
  have d2 : (0 : Int) < 2147483423 := by decide
  have d3 : (0 : Int) < 64 := by decide
  have d4 : (64 : Int) < 1073741824 := by decide
  by_cases hb : 0 < b
  · simp only [↓eX, ↓nT, lI, qA, oE, decide_eq_true hb, if_pos hb, c1, c2, d1, d2, h1, h2, ↓aL, ↓aP, ↓aM, ↓aE, ↓aS, ↓ai, ↓getO, ↓putO, ↓setI, ↓setO, ac, aa, List.set_cons_zero, List.set_cons_succ, ↓bc, ↓dq, ↓aN, ↓dY, ↓cV, ↓eG, ↓notB, ↓dh, ↓dw, ↓dP, ↓cA, ↓fG, ↓ak, ↓ao, ↓aZ, ↓cI, ↓lstM, ↓bK, ↓cF, ↓bj, ↓du, ↓callN, ↓callA, ↓cN, ↓split1, ↓callD, ↓call1, ↓callK, ↓cO, ↓putS, ↓cG, ↓cz, ↓dX, ↓eY, ↓cB, ↓cE, D.kind, CT.is, ↓fh, ↓fB, ↓fD, ↓fF, ↓cy, ↓cW, ↓cK, ↓cJ, ↓bM, ↓di, ↓aH, ↓aC, ↓cS, ↓dc, ↓dB, ↓DL.intD, ↓bU, ↓bT, ↓dz, ↓de, ↓e6, ↓e9, ↓aJ, ↓cR, ↓olist, ↓fE, ↓fC, ↓bF, ↓bR, ↓bC, ↓ck, ↓cj, ↓dj, ↓oset, ↓fH, ↓bS, ↓bJ, ↓cY, ↓dy, ↓cM, ↓bB, ↓bf, ↓aI, ↓bh, ↓cL, ↓bu, ↓dC, ↓vD, ↓vO, ↓oins, ↓fJ, ↓bL, bx, ↓bA, aK, ↓fc, ↓DL.cU, ↓cX, ↓bv, ↓bD, ↓bV, ↓bz, ↓fj, Option.map, List.map_cons, List.map_nil, List.cons_append, List.nil_append, List.length_cons, List.length_nil, List.replicate, Nat.reduceAdd, Nat.reduceSub, Nat.sub_self, Bool.not_true, Bool.not_false, ↓if_true, ↓if_false, ↓ite_true, ↓ite_false, true_and, and_true, Bool.true_eq_false, Bool.false_eq_true, reduceIte, aD, cg, b9, b8, bZ, bY, bX, ↓aW, ↓aU, ↓aV, ↓aT, ↓aR, ↓aQ, aO, cZ, ↓au, ↓ay, ↓az, ↓aj, fA, fy, fx, fw, fv, fu, ft, fo, fk, forall_const, fS, fR, fQ, fP, fO, fN, fM, fL, fK, aX, ↓aF, ↓aA, ↓aw, List.filterMap_cons, List.filterMap_nil, ↓bH, ↓cP, b7, bQ, bW, bO, dD, ↓strR, ↓joinM, ↓bN, ↓aB, ↓bP, List.nodup_cons, List.nodup_nil, List.not_mem_nil, not_false_eq_true, ↓am]
  · simp only [↓eX, ↓nT, lI, qA, oE, decide_eq_false hb, if_neg hb, c1, c2, d1, d2, d3, d4, h1, h2, ↓aL, ↓aP, ↓aM, ↓aE, ↓aS, ↓ai, ↓getO, ↓putO, ↓setI, ↓setO, ac, aa, List.set_cons_zero, List.set_cons_succ, ↓bc, ↓dq, ↓aN, ↓dY, ↓cV, ↓eG, ↓notB, ↓dh, ↓dw, ↓dP, ↓cA, ↓fG, ↓ak, ↓ao, ↓aZ, ↓cI, ↓lstM, ↓bK, ↓cF, ↓bj, ↓du, ↓callN, ↓callA, ↓cN, ↓split1, ↓callD, ↓call1, ↓callK, ↓cO, ↓putS, ↓cG, ↓cz, ↓dX, ↓eY, ↓cB, ↓cE, D.kind, CT.is, ↓fh, ↓fB, ↓fD, ↓fF, ↓cy, ↓cW, ↓cK, ↓cJ, ↓bM, ↓di, ↓aH, ↓aC, ↓cS, ↓dc, ↓dB, ↓DL.intD, ↓bU, ↓bT, ↓dz, ↓de, ↓e6, ↓e9, ↓aJ, ↓cR, ↓olist, ↓fE, ↓fC, ↓bF, ↓bR, ↓bC, ↓ck, ↓cj, ↓dj, ↓oset, ↓fH, ↓bS, ↓bJ, ↓cY, ↓dy, ↓cM, ↓bB, ↓bf, ↓aI, ↓bh, ↓cL, ↓bu, ↓dC, ↓vD, ↓vO, ↓oins, ↓fJ, ↓bL, bx, ↓bA, aK, ↓fc, ↓DL.cU, ↓cX, ↓bv, ↓bD, ↓bV, ↓bz, ↓fj, Option.map, List.map_cons, List.map_nil, List.cons_append, List.nil_append, List.length_cons, List.length_nil, List.replicate, Nat.reduceAdd, Nat.reduceSub, Nat.sub_self, Bool.not_true, Bool.not_false, ↓if_true, ↓if_false, ↓ite_true, ↓ite_false, true_and, and_true, Bool.true_eq_false, Bool.false_eq_true, reduceIte, aD, cg, b9, b8, bZ, bY, bX, ↓aW, ↓aU, ↓aV, ↓aT, ↓aR, ↓aQ, aO, cZ, ↓au, ↓ay, ↓az, ↓aj, fA, fy, fx, fw, fv, fu, ft, fo, fk, forall_const, fS, fR, fQ, fP, fO, fN, fM, fL, fK, aX, ↓aF, ↓aA, ↓aw, List.filterMap_cons, List.filterMap_nil, ↓bH, ↓cP, b7, bQ, bW, bO, dD, ↓strR, ↓joinM, ↓bN, ↓aB, ↓bP, List.nodup_cons, List.nodup_nil, List.not_mem_nil, not_false_eq_true, ↓am]
def zd (a c : Int) : Int := (a * 38011 + c) % 2147483423
theorem sD (C : Addr) (ns : List Int) (k : Int) (Q E) (R : Prop) : ∀ (l : List Int) (a : Int) (v : DL.Slot), (∀ x o, v ≠ .io x o) → (∀ v, (∀ x o, v ≠ .io x o) → Q .nx [.im (.scr ns), .im (.int k), .im (.int (l.foldl zd a)), v] = R) →
    forL (setI 3) (jF C) (l.map .int) [.im (.scr ns), .im (.int k), .im (.int a), v] Q E = R := by
  intro l
  induction l with
  | nil => intro a v h hQ; exact hQ v h
  | cons n l ih =>
    intro a v h hQ
    have st : ∀ Q E, setI 3 (.int n) [.im (.scr ns), .im (.int k), .im (.int a), v] Q E = Q () [.im (.scr ns), .im (.int k), .im (.int a), .im (.int n)] := fun Q E => by
      cases v with
      | io x o => exact (h x o rfl).elim
      | _ => rfl
    have tn : ∀ Q E, jF C [.im (.scr ns), .im (.int k), .im (.int a), .im (.int n)] Q E = Q .nx [.im (.scr ns), .im (.int k), .im (.int (zd a n)), .im (.int n)] := fun Q E => by
      have c1 : CMul a 38011 := .inr ⟨by decide, by decide⟩
      have d2 : (0 : Int) < 2147483423 := by decide
      simp only [↓jF, zd, c1, d2, ↓aL, ↓aP, ↓aM, ↓aE, ↓aS, ↓ai, ↓getO, ↓putO, ↓setI, ↓setO, ac, aa, List.set_cons_zero, List.set_cons_succ, ↓bc, ↓dq, ↓aN, ↓dY, ↓cV, ↓eG, ↓notB, ↓dh, ↓dw, ↓dP, ↓cA, ↓fG, ↓ak, ↓ao, ↓aZ, ↓cI, ↓lstM, ↓bK, ↓cF, ↓bj, ↓du, ↓callN, ↓callA, ↓cN, ↓split1, ↓callD, ↓call1, ↓callK, ↓cO, ↓putS, ↓cG, ↓cz, ↓dX, ↓eY, ↓cB, ↓cE, D.kind, CT.is, ↓fh, ↓fB, ↓fD, ↓fF, ↓cy, ↓cW, ↓cK, ↓cJ, ↓bM, ↓di, ↓aH, ↓aC, ↓cS, ↓dc, ↓dB, ↓DL.intD, ↓bU, ↓bT, ↓dz, ↓de, ↓e6, ↓e9, ↓aJ, ↓cR, ↓olist, ↓fE, ↓fC, ↓bF, ↓bR, ↓bC, ↓ck, ↓cj, ↓dj, ↓oset, ↓fH, ↓bS, ↓bJ, ↓cY, ↓dy, ↓cM, ↓bB, ↓bf, ↓aI, ↓bh, ↓cL, ↓bu, ↓dC, ↓vD, ↓vO, ↓oins, ↓fJ, ↓bL, bx, ↓bA, aK, ↓fc, ↓DL.cU, ↓cX, ↓bv, ↓bD, ↓bV, ↓bz, ↓fj, Option.map, List.map_cons, List.map_nil, List.cons_append, List.nil_append, List.length_cons, List.length_nil, List.replicate, Nat.reduceAdd, Nat.reduceSub, Nat.sub_self, Bool.not_true, Bool.not_false, ↓if_true, ↓if_false, ↓ite_true, ↓ite_false, true_and, and_true, Bool.true_eq_false, Bool.false_eq_true, reduceIte, aD, cg, b9, b8, bZ, bY, bX, ↓aW, ↓aU, ↓aV, ↓aT, ↓aR, ↓aQ, aO, cZ, ↓au, ↓ay, ↓az, ↓aj, fA, fy, fx, fw, fv, fu, ft, fo, fk, forall_const, fS, fR, fQ, fP, fO, fN, fM, fL, fK, aX, ↓aF, ↓aA, ↓aw, List.filterMap_cons, List.filterMap_nil, ↓bH, ↓cP, b7, bQ, bW, bO, dD, ↓strR, ↓joinM, ↓bN, ↓aB, ↓bP, List.nodup_cons, List.nodup_nil, List.not_mem_nil, not_false_eq_true, ↓am]
    rw [List.map_cons, aj, st, tn, au]
    exact ih (zd a n) _ nofun hQ
def kh (ns : List Int) (k : Int) : Int := if k < ns.length then (atI ns k).getD 0 else (kg ns none (some 3)).foldl zd (70003 * (k * k + 7 * k + 5) % 2147483423)
theorem xR (C : Addr) (ns : List Int) (k : Int) (hk : 0 ≤ k ∧ k < 1000) (Q E) : j7 C [.im (.scr ns), .im (.int k)] Q E = Q (.d (.int (kh ns k))) [.im (.scr ns), .im (.int k)] := by
  by_cases h : k < ns.length
  · have e : ∃ d, atI ns k = some d := by
      have e1 : ixN ns.length k = some k.toNat := by unfold ixN; rw [if_pos hk.1, if_pos h]
      have l : k.toNat < ns.length := by omega
      exact ⟨ns[k.toNat], by unfold atI; rw [e1]; exact List.getElem?_eq_getElem l⟩
    obtain ⟨d, e⟩ := e
    simp only [↓j7, ↓nU, decide_eq_true h, kh, if_pos h, jI, e, Option.getD_some, ↓aL, ↓aP, ↓aM, ↓aE, ↓aS, ↓ai, ↓getO, ↓putO, ↓setI, ↓setO, ac, aa, List.set_cons_zero, List.set_cons_succ, ↓bc, ↓dq, ↓aN, ↓dY, ↓cV, ↓eG, ↓notB, ↓dh, ↓dw, ↓dP, ↓cA, ↓fG, ↓ak, ↓ao, ↓aZ, ↓cI, ↓lstM, ↓bK, ↓cF, ↓bj, ↓du, ↓callN, ↓callA, ↓cN, ↓split1, ↓callD, ↓call1, ↓callK, ↓cO, ↓putS, ↓cG, ↓cz, ↓dX, ↓eY, ↓cB, ↓cE, D.kind, CT.is, ↓fh, ↓fB, ↓fD, ↓fF, ↓cy, ↓cW, ↓cK, ↓cJ, ↓bM, ↓di, ↓aH, ↓aC, ↓cS, ↓dc, ↓dB, ↓DL.intD, ↓bU, ↓bT, ↓dz, ↓de, ↓e6, ↓e9, ↓aJ, ↓cR, ↓olist, ↓fE, ↓fC, ↓bF, ↓bR, ↓bC, ↓ck, ↓cj, ↓dj, ↓oset, ↓fH, ↓bS, ↓bJ, ↓cY, ↓dy, ↓cM, ↓bB, ↓bf, ↓aI, ↓bh, ↓cL, ↓bu, ↓dC, ↓vD, ↓vO, ↓oins, ↓fJ, ↓bL, bx, ↓bA, aK, ↓fc, ↓DL.cU, ↓cX, ↓bv, ↓bD, ↓bV, ↓bz, ↓fj, Option.map, List.map_cons, List.map_nil, List.cons_append, List.nil_append, List.length_cons, List.length_nil, List.replicate, Nat.reduceAdd, Nat.reduceSub, Nat.sub_self, Bool.not_true, Bool.not_false, ↓if_true, ↓if_false, ↓ite_true, ↓ite_false, true_and, and_true, Bool.true_eq_false, Bool.false_eq_true, reduceIte, aD, cg, b9, b8, bZ, bY, bX, ↓aW, ↓aU, ↓aV, ↓aT, ↓aR, ↓aQ, aO, cZ, ↓au, ↓ay, ↓az, ↓aj, fA, fy, fx, fw, fv, fu, ft, fo, fk, forall_const, fS, fR, fQ, fP, fO, fN, fM, fL, fK, aX, ↓aF, ↓aA, ↓aw, List.filterMap_cons, List.filterMap_nil, ↓bH, ↓cP, b7, bQ, bW, bO, dD, ↓strR, ↓joinM, ↓bN, ↓aB, ↓bP, List.nodup_cons, List.nodup_nil, List.not_mem_nil, not_false_eq_true, ↓am]
  · have c1 : CMul k k := .inl ⟨by omega, by omega⟩
    have c2 : CMul 7 k := .inl ⟨by decide, by decide⟩
    have c3 : CMul 70003 (k * k + 7 * k + 5) := .inl ⟨by decide, by decide⟩
    have d2 : (0 : Int) < 2147483423 := by decide
    simp only [↓j7, ↓nU, decide_eq_false h, kh, if_neg h, c1, c2, c3, d2, ↓aL, ↓aP, ↓aM, ↓aE, ↓aS, ↓ai, ↓getO, ↓putO, ↓setI, ↓setO, ac, aa, List.set_cons_zero, List.set_cons_succ, ↓bc, ↓dq, ↓aN, ↓dY, ↓cV, ↓eG, ↓notB, ↓dh, ↓dw, ↓dP, ↓cA, ↓fG, ↓ak, ↓ao, ↓aZ, ↓cI, ↓lstM, ↓bK, ↓cF, ↓bj, ↓du, ↓callN, ↓callA, ↓cN, ↓split1, ↓callD, ↓call1, ↓callK, ↓cO, ↓putS, ↓cG, ↓cz, ↓dX, ↓eY, ↓cB, ↓cE, D.kind, CT.is, ↓fh, ↓fB, ↓fD, ↓fF, ↓cy, ↓cW, ↓cK, ↓cJ, ↓bM, ↓di, ↓aH, ↓aC, ↓cS, ↓dc, ↓dB, ↓DL.intD, ↓bU, ↓bT, ↓dz, ↓de, ↓e6, ↓e9, ↓aJ, ↓cR, ↓olist, ↓fE, ↓fC, ↓bF, ↓bR, ↓bC, ↓ck, ↓cj, ↓dj, ↓oset, ↓fH, ↓bS, ↓bJ, ↓cY, ↓dy, ↓cM, ↓bB, ↓bf, ↓aI, ↓bh, ↓cL, ↓bu, ↓dC, ↓vD, ↓vO, ↓oins, ↓fJ, ↓bL, bx, ↓bA, aK, ↓fc, ↓DL.cU, ↓cX, ↓bv, ↓bD, ↓bV, ↓bz, ↓fj, Option.map, List.map_cons, List.map_nil, List.cons_append, List.nil_append, List.length_cons, List.length_nil, List.replicate, Nat.reduceAdd, Nat.reduceSub, Nat.sub_self, Bool.not_true, Bool.not_false, ↓if_true, ↓if_false, ↓ite_true, ↓ite_false, true_and, and_true, Bool.true_eq_false, Bool.false_eq_true, reduceIte, aD, cg, b9, b8, bZ, bY, bX, ↓aW, ↓aU, ↓aV, ↓aT, ↓aR, ↓aQ, aO, cZ, ↓au, ↓ay, ↓az, ↓aj, fA, fy, fx, fw, fv, fu, ft, fo, fk, forall_const, fS, fR, fQ, fP, fO, fN, fM, fL, fK, aX, ↓aF, ↓aA, ↓aw, List.filterMap_cons, List.filterMap_nil, ↓bH, ↓cP, b7, bQ, bW, bO, dD, ↓strR, ↓joinM, ↓bN, ↓aB, ↓bP, List.nodup_cons, List.nodup_nil, List.not_mem_nil, not_false_eq_true, ↓am]
    refine sD C ns k _ _ _ (kg ns none (some 3)) _ .no nofun fun v _ => ?_
    simp only [↓aL, ↓aP, ↓aM, ↓aE, ↓aS, ↓ai, ↓getO, ↓putO, ↓setI, ↓setO, ac, aa, List.set_cons_zero, List.set_cons_succ, ↓bc, ↓dq, ↓aN, ↓dY, ↓cV, ↓eG, ↓notB, ↓dh, ↓dw, ↓dP, ↓cA, ↓fG, ↓ak, ↓ao, ↓aZ, ↓cI, ↓lstM, ↓bK, ↓cF, ↓bj, ↓du, ↓callN, ↓callA, ↓cN, ↓split1, ↓callD, ↓call1, ↓callK, ↓cO, ↓putS, ↓cG, ↓cz, ↓dX, ↓eY, ↓cB, ↓cE, D.kind, CT.is, ↓fh, ↓fB, ↓fD, ↓fF, ↓cy, ↓cW, ↓cK, ↓cJ, ↓bM, ↓di, ↓aH, ↓aC, ↓cS, ↓dc, ↓dB, ↓DL.intD, ↓bU, ↓bT, ↓dz, ↓de, ↓e6, ↓e9, ↓aJ, ↓cR, ↓olist, ↓fE, ↓fC, ↓bF, ↓bR, ↓bC, ↓ck, ↓cj, ↓dj, ↓oset, ↓fH, ↓bS, ↓bJ, ↓cY, ↓dy, ↓cM, ↓bB, ↓bf, ↓aI, ↓bh, ↓cL, ↓bu, ↓dC, ↓vD, ↓vO, ↓oins, ↓fJ, ↓bL, bx, ↓bA, aK, ↓fc, ↓DL.cU, ↓cX, ↓bv, ↓bD, ↓bV, ↓bz, ↓fj, Option.map, List.map_cons, List.map_nil, List.cons_append, List.nil_append, List.length_cons, List.length_nil, List.replicate, Nat.reduceAdd, Nat.reduceSub, Nat.sub_self, Bool.not_true, Bool.not_false, ↓if_true, ↓if_false, ↓ite_true, ↓ite_false, true_and, and_true, Bool.true_eq_false, Bool.false_eq_true, reduceIte, aD, cg, b9, b8, bZ, bY, bX, ↓aW, ↓aU, ↓aV, ↓aT, ↓aR, ↓aQ, aO, cZ, ↓au, ↓ay, ↓az, ↓aj, fA, fy, fx, fw, fv, fu, ft, fo, fk, forall_const, fS, fR, fQ, fP, fO, fN, fM, fL, fK, aX, ↓aF, ↓aA, ↓aw, List.filterMap_cons, List.filterMap_nil, ↓bH, ↓cP, b7, bQ, bW, bO, dD, ↓strR, ↓joinM, ↓bN, ↓aB, ↓bP, List.nodup_cons, List.nodup_nil, List.not_mem_nil, not_false_eq_true, ↓am]
def kM (c : Int) : Int := if c < 0 ∨ c ≥ 10 ^ 18 then (if c < 0 then -c else c) else 0
theorem xK (C : Addr) (c : Int) (Q E) : i9 C [.im (.int c)] Q E = Q (.o (.lst [.int (c % 2147483423), .int (kM c), .int 0])) [.im (.int c)] := by
  have d2 : (0 : Int) < 2147483423 := by decide
  have d3 : (0 : Int) ≤ 18 := by decide
  have d4 : (18 : Int) ≤ 1000000 := by decide
  have d5 : (10 : Int).natAbs < 2 ^ 64 := by decide
  have d6 : (18 : Int).toNat = 18 := rfl
  by_cases h1 : c < 0
  · have e : kM c = -c := by unfold kM; rw [if_pos (.inl h1), if_pos h1]
    simp only [↓i9, ↓lC, decide_eq_true h1, e, if_pos h1, d2, ↓aL, ↓aP, ↓aM, ↓aE, ↓aS, ↓ai, ↓getO, ↓putO, ↓setI, ↓setO, ac, aa, List.set_cons_zero, List.set_cons_succ, ↓bc, ↓dq, ↓aN, ↓dY, ↓cV, ↓eG, ↓notB, ↓dh, ↓dw, ↓dP, ↓cA, ↓fG, ↓ak, ↓ao, ↓aZ, ↓cI, ↓lstM, ↓bK, ↓cF, ↓bj, ↓du, ↓callN, ↓callA, ↓cN, ↓split1, ↓callD, ↓call1, ↓callK, ↓cO, ↓putS, ↓cG, ↓cz, ↓dX, ↓eY, ↓cB, ↓cE, D.kind, CT.is, ↓fh, ↓fB, ↓fD, ↓fF, ↓cy, ↓cW, ↓cK, ↓cJ, ↓bM, ↓di, ↓aH, ↓aC, ↓cS, ↓dc, ↓dB, ↓DL.intD, ↓bU, ↓bT, ↓dz, ↓de, ↓e6, ↓e9, ↓aJ, ↓cR, ↓olist, ↓fE, ↓fC, ↓bF, ↓bR, ↓bC, ↓ck, ↓cj, ↓dj, ↓oset, ↓fH, ↓bS, ↓bJ, ↓cY, ↓dy, ↓cM, ↓bB, ↓bf, ↓aI, ↓bh, ↓cL, ↓bu, ↓dC, ↓vD, ↓vO, ↓oins, ↓fJ, ↓bL, bx, ↓bA, aK, ↓fc, ↓DL.cU, ↓cX, ↓bv, ↓bD, ↓bV, ↓bz, ↓fj, Option.map, List.map_cons, List.map_nil, List.cons_append, List.nil_append, List.length_cons, List.length_nil, List.replicate, Nat.reduceAdd, Nat.reduceSub, Nat.sub_self, Bool.not_true, Bool.not_false, ↓if_true, ↓if_false, ↓ite_true, ↓ite_false, true_and, and_true, Bool.true_eq_false, Bool.false_eq_true, reduceIte, aD, cg, b9, b8, bZ, bY, bX, ↓aW, ↓aU, ↓aV, ↓aT, ↓aR, ↓aQ, aO, cZ, ↓au, ↓ay, ↓az, ↓aj, fA, fy, fx, fw, fv, fu, ft, fo, fk, forall_const, fS, fR, fQ, fP, fO, fN, fM, fL, fK, aX, ↓aF, ↓aA, ↓aw, List.filterMap_cons, List.filterMap_nil, ↓bH, ↓cP, b7, bQ, bW, bO, dD, ↓strR, ↓joinM, ↓bN, ↓aB, ↓bP, List.nodup_cons, List.nodup_nil, List.not_mem_nil, not_false_eq_true, ↓am]
  · by_cases h2 : (10 : Int) ^ 18 ≤ c
    · have e : kM c = c := by unfold kM; rw [if_pos (.inr h2), if_neg h1]
      simp only [↓i9, ↓lC, decide_eq_false h1, d3, d4, d5, d6, decide_eq_true h2, e, if_neg h1, d2, ↓aL, ↓aP, ↓aM, ↓aE, ↓aS, ↓ai, ↓getO, ↓putO, ↓setI, ↓setO, ac, aa, List.set_cons_zero, List.set_cons_succ, ↓bc, ↓dq, ↓aN, ↓dY, ↓cV, ↓eG, ↓notB, ↓dh, ↓dw, ↓dP, ↓cA, ↓fG, ↓ak, ↓ao, ↓aZ, ↓cI, ↓lstM, ↓bK, ↓cF, ↓bj, ↓du, ↓callN, ↓callA, ↓cN, ↓split1, ↓callD, ↓call1, ↓callK, ↓cO, ↓putS, ↓cG, ↓cz, ↓dX, ↓eY, ↓cB, ↓cE, D.kind, CT.is, ↓fh, ↓fB, ↓fD, ↓fF, ↓cy, ↓cW, ↓cK, ↓cJ, ↓bM, ↓di, ↓aH, ↓aC, ↓cS, ↓dc, ↓dB, ↓DL.intD, ↓bU, ↓bT, ↓dz, ↓de, ↓e6, ↓e9, ↓aJ, ↓cR, ↓olist, ↓fE, ↓fC, ↓bF, ↓bR, ↓bC, ↓ck, ↓cj, ↓dj, ↓oset, ↓fH, ↓bS, ↓bJ, ↓cY, ↓dy, ↓cM, ↓bB, ↓bf, ↓aI, ↓bh, ↓cL, ↓bu, ↓dC, ↓vD, ↓vO, ↓oins, ↓fJ, ↓bL, bx, ↓bA, aK, ↓fc, ↓DL.cU, ↓cX, ↓bv, ↓bD, ↓bV, ↓bz, ↓fj, Option.map, List.map_cons, List.map_nil, List.cons_append, List.nil_append, List.length_cons, List.length_nil, List.replicate, Nat.reduceAdd, Nat.reduceSub, Nat.sub_self, Bool.not_true, Bool.not_false, ↓if_true, ↓if_false, ↓ite_true, ↓ite_false, true_and, and_true, Bool.true_eq_false, Bool.false_eq_true, reduceIte, aD, cg, b9, b8, bZ, bY, bX, ↓aW, ↓aU, ↓aV, ↓aT, ↓aR, ↓aQ, aO, cZ, ↓au, ↓ay, ↓az, ↓aj, fA, fy, fx, fw, fv, fu, ft, fo, fk, forall_const, fS, fR, fQ, fP, fO, fN, fM, fL, fK, aX, ↓aF, ↓aA, ↓aw, List.filterMap_cons, List.filterMap_nil, ↓bH, ↓cP, b7, bQ, bW, bO, dD, ↓strR, ↓joinM, ↓bN, ↓aB, ↓bP, List.nodup_cons, List.nodup_nil, List.not_mem_nil, not_false_eq_true, ↓am]
    · have e : kM c = 0 := by unfold kM; rw [if_neg fun z => z.elim h1 h2]
      simp only [↓i9, ↓lC, decide_eq_false h1, d3, d4, d5, d6, decide_eq_false h2, e, d2, ↓aL, ↓aP, ↓aM, ↓aE, ↓aS, ↓ai, ↓getO, ↓putO, ↓setI, ↓setO, ac, aa, List.set_cons_zero, List.set_cons_succ, ↓bc, ↓dq, ↓aN, ↓dY, ↓cV, ↓eG, ↓notB, ↓dh, ↓dw, ↓dP, ↓cA, ↓fG, ↓ak, ↓ao, ↓aZ, ↓cI, ↓lstM, ↓bK, ↓cF, ↓bj, ↓du, ↓callN, ↓callA, ↓cN, ↓split1, ↓callD, ↓call1, ↓callK, ↓cO, ↓putS, ↓cG, ↓cz, ↓dX, ↓eY, ↓cB, ↓cE, D.kind, CT.is, ↓fh, ↓fB, ↓fD, ↓fF, ↓cy, ↓cW, ↓cK, ↓cJ, ↓bM, ↓di, ↓aH, ↓aC, ↓cS, ↓dc, ↓dB, ↓DL.intD, ↓bU, ↓bT, ↓dz, ↓de, ↓e6, ↓e9, ↓aJ, ↓cR, ↓olist, ↓fE, ↓fC, ↓bF, ↓bR, ↓bC, ↓ck, ↓cj, ↓dj, ↓oset, ↓fH, ↓bS, ↓bJ, ↓cY, ↓dy, ↓cM, ↓bB, ↓bf, ↓aI, ↓bh, ↓cL, ↓bu, ↓dC, ↓vD, ↓vO, ↓oins, ↓fJ, ↓bL, bx, ↓bA, aK, ↓fc, ↓DL.cU, ↓cX, ↓bv, ↓bD, ↓bV, ↓bz, ↓fj, Option.map, List.map_cons, List.map_nil, List.cons_append, List.nil_append, List.length_cons, List.length_nil, List.replicate, Nat.reduceAdd, Nat.reduceSub, Nat.sub_self, Bool.not_true, Bool.not_false, ↓if_true, ↓if_false, ↓ite_true, ↓ite_false, true_and, and_true, Bool.true_eq_false, Bool.false_eq_true, reduceIte, aD, cg, b9, b8, bZ, bY, bX, ↓aW, ↓aU, ↓aV, ↓aT, ↓aR, ↓aQ, aO, cZ, ↓au, ↓ay, ↓az, ↓aj, fA, fy, fx, fw, fv, fu, ft, fo, fk, forall_const, fS, fR, fQ, fP, fO, fN, fM, fL, fK, aX, ↓aF, ↓aA, ↓aw, List.filterMap_cons, List.filterMap_nil, ↓bH, ↓cP, b7, bQ, bW, bO, dD, ↓strR, ↓joinM, ↓bN, ↓aB, ↓bP, List.nodup_cons, List.nodup_nil, List.not_mem_nil, not_false_eq_true, ↓am]
theorem sS (a b c wide : Int) (h : 0 < wide) : 0 ≤ lI a b c wide ∧ lI a b c wide < wide := by
  unfold lI
  split
  · exact ⟨Int.emod_nonneg _ (by omega), Int.emod_lt_of_pos _ h⟩
  · exact ⟨Int.emod_nonneg _ (by omega), Int.emod_lt_of_pos _ h⟩
def Pl.st (p : Pl) (wide : Int) : Pl := ⟨oE p.a p.b p.c, qA p.b wide, p.c + 1⟩
def Pl.dr (p : Pl) (wide : Int) : Int := lI p.a p.b p.c wide
theorem Pl.bd (p : Pl) {wide : Int} (h : 0 < wide) : 0 ≤ p.dr wide ∧ p.dr wide < wide := sS _ _ _ _ h
theorem nQ (C : Addr) (x : Addr) (p : Pl) (wide : Int) (h1 : 0 < wide) (h2 : wide < 1073741824) (Q E) : eX C [.io x p.o, .im (.int wide)] Q E = Q (.d (.int (p.dr wide))) [.io x (p.st wide).o, .im (.int wide)] := xG C x _ _ _ wide h1 h2 Q E
def qB (u : Int) (p : Pl) : Int × Pl := if (((p.st u).st 3).dr 8 == 5) = true then (1 + (((p.st u).st 3).st 8).dr 24, (((p.st u).st 3).st 8).st 24) else (1 + p.dr u, ((p.st u).st 3).st 8)
def sJ (u : Int) (p : Pl) : Int × Pl := if ((qB u p).2.dr 8 == 5) = true then (((qB u p).2.st 8).dr 7, ((qB u p).2.st 8).st 7) else ((p.st u).dr 3, (qB u p).2.st 8)
theorem xj {u : Int} (hu : 1 ≤ u ∧ u ≤ 24) (p : Pl) : 1 ≤ (qB u p).1 ∧ (qB u p).1 ≤ 24 := by
  unfold qB
  split
  · have := (((p.st u).st 3).st 8).bd (wide := 24) (by decide); exact ⟨by show 1 ≤ 1 + _; omega, by show 1 + _ ≤ 24; omega⟩
  · have := p.bd (wide := u) (by omega); exact ⟨by show 1 ≤ 1 + _; omega, by show 1 + _ ≤ 24; omega⟩
theorem xi (u : Int) (p : Pl) : 0 ≤ (sJ u p).1 ∧ (sJ u p).1 ≤ 6 := by
  unfold sJ
  split
  · have := ((qB u p).2.st 8).bd (wide := 7) (by decide); exact ⟨this.1, by have := this.2; show _ ≤ _; omega⟩
  · have := (p.st u).bd (wide := 3) (by decide); exact ⟨this.1, by have := this.2; show _ ≤ _; omega⟩
theorem vh (C : Addr) (x : Addr) {u : Int} (hu : 1 ≤ u ∧ u ≤ 24) (p : Pl) (Q E) : iD C [.io x p.o, .im (.int u)] Q E = Q (.d (.tup [.int (qB u p).1, .int (sJ u p).1])) [.io x (sJ u p).2.o, .im (.int u)] := by
  have tu := fun (x : Addr) (p : Pl) => nQ C x p u (by omega) (by omega)
  have t7 := fun (x : Addr) (p : Pl) => nQ C x p 7 (by decide) (by decide)
  have t3 := fun (x : Addr) (p : Pl) => nQ C x p 3 (by decide) (by decide)
  have t8 := fun (x : Addr) (p : Pl) => nQ C x p 8 (by decide) (by decide)
  have t24 := fun (x : Addr) (p : Pl) => nQ C x p 24 (by decide) (by decide)
  cases h1 : ((p.st u).st 3).dr 8 == 5 with
  | true =>
    have eA : qB u p = (1 + (((p.st u).st 3).st 8).dr 24, (((p.st u).st 3).st 8).st 24) := by unfold qB; rw [h1, if_pos rfl]
    cases h2 : ((((p.st u).st 3).st 8).st 24).dr 8 == 5 with
    | true => simp only [↓iD, ↓jl, ↓tu, ↓t7, ↓t3, ↓t8, ↓t24, h1, h2, eA, sJ, ↓aL, ↓aP, ↓aM, ↓aE, ↓aS, ↓ai, ↓getO, ↓putO, ↓setI, ↓setO, ac, aa, List.set_cons_zero, List.set_cons_succ, ↓bc, ↓dq, ↓aN, ↓dY, ↓cV, ↓eG, ↓notB, ↓dh, ↓dw, ↓dP, ↓cA, ↓fG, ↓ak, ↓ao, ↓aZ, ↓cI, ↓lstM, ↓bK, ↓cF, ↓bj, ↓du, ↓callN, ↓callA, ↓cN, ↓split1, ↓callD, ↓call1, ↓callK, ↓cO, ↓putS, ↓cG, ↓cz, ↓dX, ↓eY, ↓cB, ↓cE, D.kind, CT.is, ↓fh, ↓fB, ↓fD, ↓fF, ↓cy, ↓cW, ↓cK, ↓cJ, ↓bM, ↓di, ↓aH, ↓aC, ↓cS, ↓dc, ↓dB, ↓DL.intD, ↓bU, ↓bT, ↓dz, ↓de, ↓e6, ↓e9, ↓aJ, ↓cR, ↓olist, ↓fE, ↓fC, ↓bF, ↓bR, ↓bC, ↓ck, ↓cj, ↓dj, ↓oset, ↓fH, ↓bS, ↓bJ, ↓cY, ↓dy, ↓cM, ↓bB, ↓bf, ↓aI, ↓bh, ↓cL, ↓bu, ↓dC, ↓vD, ↓vO, ↓oins, ↓fJ, ↓bL, bx, ↓bA, aK, ↓fc, ↓DL.cU, ↓cX, ↓bv, ↓bD, ↓bV, ↓bz, ↓fj, Option.map, List.map_cons, List.map_nil, List.cons_append, List.nil_append, List.length_cons, List.length_nil, List.replicate, Nat.reduceAdd, Nat.reduceSub, Nat.sub_self, Bool.not_true, Bool.not_false, ↓if_true, ↓if_false, ↓ite_true, ↓ite_false, true_and, and_true, Bool.true_eq_false, Bool.false_eq_true, reduceIte, aD, cg, b9, b8, bZ, bY, bX, ↓aW, ↓aU, ↓aV, ↓aT, ↓aR, ↓aQ, aO, cZ, ↓au, ↓ay, ↓az, ↓aj, fA, fy, fx, fw, fv, fu, ft, fo, fk, forall_const, fS, fR, fQ, fP, fO, fN, fM, fL, fK, aX, ↓aF, ↓aA, ↓aw, List.filterMap_cons, List.filterMap_nil, ↓bH, ↓cP, b7, bQ, bW, bO, dD, ↓strR, ↓joinM, ↓bN, ↓aB, ↓bP, List.nodup_cons, List.nodup_nil, List.not_mem_nil, not_false_eq_true, ↓am]
    | false => simp only [↓iD, ↓jl, ↓tu, ↓t7, ↓t3, ↓t8, ↓t24, h1, h2, eA, sJ, ↓aL, ↓aP, ↓aM, ↓aE, ↓aS, ↓ai, ↓getO, ↓putO, ↓setI, ↓setO, ac, aa, List.set_cons_zero, List.set_cons_succ, ↓bc, ↓dq, ↓aN, ↓dY, ↓cV, ↓eG, ↓notB, ↓dh, ↓dw, ↓dP, ↓cA, ↓fG, ↓ak, ↓ao, ↓aZ, ↓cI, ↓lstM, ↓bK, ↓cF, ↓bj, ↓du, ↓callN, ↓callA, ↓cN, ↓split1, ↓callD, ↓call1, ↓callK, ↓cO, ↓putS, ↓cG, ↓cz, ↓dX, ↓eY, ↓cB, ↓cE, D.kind, CT.is, ↓fh, ↓fB, ↓fD, ↓fF, ↓cy, ↓cW, ↓cK, ↓cJ, ↓bM, ↓di, ↓aH, ↓aC, ↓cS, ↓dc, ↓dB, ↓DL.intD, ↓bU, ↓bT, ↓dz, ↓de, ↓e6, ↓e9, ↓aJ, ↓cR, ↓olist, ↓fE, ↓fC, ↓bF, ↓bR, ↓bC, ↓ck, ↓cj, ↓dj, ↓oset, ↓fH, ↓bS, ↓bJ, ↓cY, ↓dy, ↓cM, ↓bB, ↓bf, ↓aI, ↓bh, ↓cL, ↓bu, ↓dC, ↓vD, ↓vO, ↓oins, ↓fJ, ↓bL, bx, ↓bA, aK, ↓fc, ↓DL.cU, ↓cX, ↓bv, ↓bD, ↓bV, ↓bz, ↓fj, Option.map, List.map_cons, List.map_nil, List.cons_append, List.nil_append, List.length_cons, List.length_nil, List.replicate, Nat.reduceAdd, Nat.reduceSub, Nat.sub_self, Bool.not_true, Bool.not_false, ↓if_true, ↓if_false, ↓ite_true, ↓ite_false, true_and, and_true, Bool.true_eq_false, Bool.false_eq_true, reduceIte, aD, cg, b9, b8, bZ, bY, bX, ↓aW, ↓aU, ↓aV, ↓aT, ↓aR, ↓aQ, aO, cZ, ↓au, ↓ay, ↓az, ↓aj, fA, fy, fx, fw, fv, fu, ft, fo, fk, forall_const, fS, fR, fQ, fP, fO, fN, fM, fL, fK, aX, ↓aF, ↓aA, ↓aw, List.filterMap_cons, List.filterMap_nil, ↓bH, ↓cP, b7, bQ, bW, bO, dD, ↓strR, ↓joinM, ↓bN, ↓aB, ↓bP, List.nodup_cons, List.nodup_nil, List.not_mem_nil, not_false_eq_true, ↓am]
  | false =>
    have eA : qB u p = (1 + p.dr u, ((p.st u).st 3).st 8) := by unfold qB; rw [h1, if_neg Bool.false_ne_true]
    cases h2 : (((p.st u).st 3).st 8).dr 8 == 5 with
    | true => simp only [↓iD, ↓jl, ↓tu, ↓t7, ↓t3, ↓t8, ↓t24, h1, h2, eA, sJ, ↓aL, ↓aP, ↓aM, ↓aE, ↓aS, ↓ai, ↓getO, ↓putO, ↓setI, ↓setO, ac, aa, List.set_cons_zero, List.set_cons_succ, ↓bc, ↓dq, ↓aN, ↓dY, ↓cV, ↓eG, ↓notB, ↓dh, ↓dw, ↓dP, ↓cA, ↓fG, ↓ak, ↓ao, ↓aZ, ↓cI, ↓lstM, ↓bK, ↓cF, ↓bj, ↓du, ↓callN, ↓callA, ↓cN, ↓split1, ↓callD, ↓call1, ↓callK, ↓cO, ↓putS, ↓cG, ↓cz, ↓dX, ↓eY, ↓cB, ↓cE, D.kind, CT.is, ↓fh, ↓fB, ↓fD, ↓fF, ↓cy, ↓cW, ↓cK, ↓cJ, ↓bM, ↓di, ↓aH, ↓aC, ↓cS, ↓dc, ↓dB, ↓DL.intD, ↓bU, ↓bT, ↓dz, ↓de, ↓e6, ↓e9, ↓aJ, ↓cR, ↓olist, ↓fE, ↓fC, ↓bF, ↓bR, ↓bC, ↓ck, ↓cj, ↓dj, ↓oset, ↓fH, ↓bS, ↓bJ, ↓cY, ↓dy, ↓cM, ↓bB, ↓bf, ↓aI, ↓bh, ↓cL, ↓bu, ↓dC, ↓vD, ↓vO, ↓oins, ↓fJ, ↓bL, bx, ↓bA, aK, ↓fc, ↓DL.cU, ↓cX, ↓bv, ↓bD, ↓bV, ↓bz, ↓fj, Option.map, List.map_cons, List.map_nil, List.cons_append, List.nil_append, List.length_cons, List.length_nil, List.replicate, Nat.reduceAdd, Nat.reduceSub, Nat.sub_self, Bool.not_true, Bool.not_false, ↓if_true, ↓if_false, ↓ite_true, ↓ite_false, true_and, and_true, Bool.true_eq_false, Bool.false_eq_true, reduceIte, aD, cg, b9, b8, bZ, bY, bX, ↓aW, ↓aU, ↓aV, ↓aT, ↓aR, ↓aQ, aO, cZ, ↓au, ↓ay, ↓az, ↓aj, fA, fy, fx, fw, fv, fu, ft, fo, fk, forall_const, fS, fR, fQ, fP, fO, fN, fM, fL, fK, aX, ↓aF, ↓aA, ↓aw, List.filterMap_cons, List.filterMap_nil, ↓bH, ↓cP, b7, bQ, bW, bO, dD, ↓strR, ↓joinM, ↓bN, ↓aB, ↓bP, List.nodup_cons, List.nodup_nil, List.not_mem_nil, not_false_eq_true, ↓am]
    | false => simp only [↓iD, ↓jl, ↓tu, ↓t7, ↓t3, ↓t8, ↓t24, h1, h2, eA, sJ, ↓aL, ↓aP, ↓aM, ↓aE, ↓aS, ↓ai, ↓getO, ↓putO, ↓setI, ↓setO, ac, aa, List.set_cons_zero, List.set_cons_succ, ↓bc, ↓dq, ↓aN, ↓dY, ↓cV, ↓eG, ↓notB, ↓dh, ↓dw, ↓dP, ↓cA, ↓fG, ↓ak, ↓ao, ↓aZ, ↓cI, ↓lstM, ↓bK, ↓cF, ↓bj, ↓du, ↓callN, ↓callA, ↓cN, ↓split1, ↓callD, ↓call1, ↓callK, ↓cO, ↓putS, ↓cG, ↓cz, ↓dX, ↓eY, ↓cB, ↓cE, D.kind, CT.is, ↓fh, ↓fB, ↓fD, ↓fF, ↓cy, ↓cW, ↓cK, ↓cJ, ↓bM, ↓di, ↓aH, ↓aC, ↓cS, ↓dc, ↓dB, ↓DL.intD, ↓bU, ↓bT, ↓dz, ↓de, ↓e6, ↓e9, ↓aJ, ↓cR, ↓olist, ↓fE, ↓fC, ↓bF, ↓bR, ↓bC, ↓ck, ↓cj, ↓dj, ↓oset, ↓fH, ↓bS, ↓bJ, ↓cY, ↓dy, ↓cM, ↓bB, ↓bf, ↓aI, ↓bh, ↓cL, ↓bu, ↓dC, ↓vD, ↓vO, ↓oins, ↓fJ, ↓bL, bx, ↓bA, aK, ↓fc, ↓DL.cU, ↓cX, ↓bv, ↓bD, ↓bV, ↓bz, ↓fj, Option.map, List.map_cons, List.map_nil, List.cons_append, List.nil_append, List.length_cons, List.length_nil, List.replicate, Nat.reduceAdd, Nat.reduceSub, Nat.sub_self, Bool.not_true, Bool.not_false, ↓if_true, ↓if_false, ↓ite_true, ↓ite_false, true_and, and_true, Bool.true_eq_false, Bool.false_eq_true, reduceIte, aD, cg, b9, b8, bZ, bY, bX, ↓aW, ↓aU, ↓aV, ↓aT, ↓aR, ↓aQ, aO, cZ, ↓au, ↓ay, ↓az, ↓aj, fA, fy, fx, fw, fv, fu, ft, fo, fk, forall_const, fS, fR, fQ, fP, fO, fN, fM, fL, fK, aX, ↓aF, ↓aA, ↓aw, List.filterMap_cons, List.filterMap_nil, ↓bH, ↓cP, b7, bQ, bW, bO, dD, ↓strR, ↓joinM, ↓bN, ↓aB, ↓bP, List.nodup_cons, List.nodup_nil, List.not_mem_nil, not_false_eq_true, ↓am]
end
section
def wM (m : Int) : Int := if m = 0 then 4 else if m = 1 then 9 else if m = 2 then 2 else 6
theorem wD (m : Int) : 0 < wM m ∧ wM m < 1073741824 := by
  unfold wM
  split
  · decide
  · split
    · decide
    · split <;> decide
theorem vM {m : Int} (h : 0 ≤ m ∧ m < 4) (env : List DL.Slot) (Q E) : jI (.lst [.int 4, .int 9, .int 2, .int 6]) (.int m) env Q E = Q (.int (wM m)) env := by
  have : m = 0 ∨ m = 1 ∨ m = 2 ∨ m = 3 := by omega
  rcases this with e | e | e | e <;> subst e <;> rfl
theorem kF (l : List Int) : (l.map D.int).all gj = true := by rw [List.all_map, List.all_eq_true]; exact fun _ _ => rfl
theorem any_ints (l : List Int) (k : Int) : (l.map D.int).any (fun d => eqv d (.int k)) = decide (k ∈ l) := by
  rw [List.any_map, Bool.eq_iff_iff, List.any_eq_true, decide_eq_true_iff]
  constructor
  · rintro ⟨a, ha, e⟩
    have e : (a == k) = true := e
    rw [beq_iff_eq] at e; exact e ▸ ha
  · intro h; exact ⟨k, h, beq_self_eq_true k⟩
theorem yk (l : List Int) (j : Nat) : (l.map D.int).eraseIdx j = (l.eraseIdx j).map D.int := by
  induction l generalizing j with
  | nil => rfl
  | cons a l ih => cases j with
    | zero => rfl
    | succ j => simp [ih]
theorem sX (f : List (Option Int)) (o : Option Int) : f.map oD ++ [oD o] = (f ++ [o]).map oD := by simp
def iU (x : Addr) (p : Pl) (g s : Int) (l : List Int) (f : List (Option Int)) (m : Int) (v : DL.Slot) : List DL.Slot := [.io x p.o, .im (.int g), .im (.int s), .ow (.lst (l.map .int)), .ow (.lst (f.map oD)), .im (.int m), v]
theorem lQ {l : List Int} (nd : l.Nodup) {j : Nat} {v : Int} (h : l[j]? = some v) : Step l (l.eraseIdx j) (some v) := by
  have hj := (List.getElem?_eq_some_iff.mp h).1
  have e := (List.getElem?_eq_some_iff.mp h).2
  refine ⟨nd.sublist (List.eraseIdx_sublist l j), fun i hi => (List.eraseIdx_sublist l j).subset hi, ?_, (List.eraseIdx_sublist l j).length_le, fun i hi => ?_⟩
  · rw [List.length_eraseIdx_of_lt hj]; omega
  · cases hi
    refine ⟨e ▸ List.getElem_mem hj, ?_⟩
    intro z
    obtain ⟨i, ni, hi⟩ := List.mem_eraseIdx_iff_getElem?.mp z
    exact ni ((List.getElem?_inj (List.getElem?_eq_some_iff.mp hi).1 nd).mp (hi.trans h.symm))
theorem tA {l : List Int} (nd : l.Nodup) {k : Int} (h : k ∈ l) : Step l (l.erase k) (some k) :=
  ⟨nd.erase k, fun i hi => List.mem_of_mem_erase hi, by rw [List.length_erase_of_mem h]; omega, List.length_erase_le, fun i hi => by cases hi; exact ⟨h, List.Nodup.not_mem_erase nd⟩⟩
theorem vf (C : Addr) (p : Pl) (g s m k : Int) (l : List Int) (f : List (Option Int)) (hl : 0 < l.length) (hz : l.length ≤ 100) (hf : f.length ≤ 100) : ∃ (v : Int) (j : Nat), l[j]? = some v ∧
    ∀ (x : Addr) Q E, bR 4 (ck 3 (aq (aq (aZ 0 (ao (bF 3) (DL.ret []))) (callN 2 (eX C))) bj)) (iU x p g s l f m (.im (.int k))) Q E = Q .non (iU x (p.st l.length) g s (l.eraseIdx j) (f ++ [some v]) m (.im (.int k))) := by
  have b := p.bd (wide := (l.length : Int)) (by omega)
  have t := fun (x : Addr) (p : Pl) => nQ C x p (l.length : Int) (by omega) (by omega)
  have hj : (p.dr l.length).toNat < l.length := by omega
  refine ⟨l[(p.dr l.length).toNat], (p.dr l.length).toNat, List.getElem?_eq_getElem hj, fun x Q E => ?_⟩
  have e1 : ixN (l.map D.int).length (p.dr l.length) = some (p.dr l.length).toNat := by unfold ixN; rw [List.length_map, if_pos b.1, if_pos b.2]
  have e2 : (l.map D.int)[(p.dr l.length).toNat]? = some (.int l[(p.dr l.length).toNat]) := by rw [List.getElem?_map, List.getElem?_eq_getElem hj]; rfl
  have z1 : (l.map D.int).length ≤ sizeLine := by rw [List.length_map, sizeLine_eq]; omega
  have z2 : (f.map oD).length < sizeLine := by rw [List.length_map, sizeLine_eq]; omega
  have z3 : (((l.map D.int).length : Nat) : Int) = l.length := by rw [List.length_map]
  simp only [iU, z3, ↓t, e1, e2, z1, z2, yk, ↓aL, ↓aP, ↓aM, ↓aE, ↓aS, ↓ai, ↓getO, ↓putO, ↓setI, ↓setO, ac, aa, List.set_cons_zero, List.set_cons_succ, ↓bc, ↓dq, ↓aN, ↓dY, ↓cV, ↓eG, ↓notB, ↓dh, ↓dw, ↓dP, ↓cA, ↓fG, ↓ak, ↓ao, ↓aZ, ↓cI, ↓lstM, ↓bK, ↓cF, ↓bj, ↓du, ↓callN, ↓callA, ↓cN, ↓split1, ↓callD, ↓call1, ↓callK, ↓cO, ↓putS, ↓cG, ↓cz, ↓dX, ↓eY, ↓cB, ↓cE, D.kind, CT.is, ↓fh, ↓fB, ↓fD, ↓fF, ↓cy, ↓cW, ↓cK, ↓cJ, ↓bM, ↓di, ↓aH, ↓aC, ↓cS, ↓dc, ↓dB, ↓DL.intD, ↓bU, ↓bT, ↓dz, ↓de, ↓e6, ↓e9, ↓aJ, ↓cR, ↓olist, ↓fE, ↓fC, ↓bF, ↓bR, ↓bC, ↓ck, ↓cj, ↓dj, ↓oset, ↓fH, ↓bS, ↓bJ, ↓cY, ↓dy, ↓cM, ↓bB, ↓bf, ↓aI, ↓bh, ↓cL, ↓bu, ↓dC, ↓vD, ↓vO, ↓oins, ↓fJ, ↓bL, bx, ↓bA, aK, ↓fc, ↓DL.cU, ↓cX, ↓bv, ↓bD, ↓bV, ↓bz, ↓fj, Option.map, List.map_cons, List.map_nil, List.cons_append, List.nil_append, List.length_cons, List.length_nil, List.replicate, Nat.reduceAdd, Nat.reduceSub, Nat.sub_self, Bool.not_true, Bool.not_false, ↓if_true, ↓if_false, ↓ite_true, ↓ite_false, true_and, and_true, Bool.true_eq_false, Bool.false_eq_true, reduceIte, aD, cg, b9, b8, bZ, bY, bX, ↓aW, ↓aU, ↓aV, ↓aT, ↓aR, ↓aQ, aO, cZ, ↓au, ↓ay, ↓az, ↓aj, fA, fy, fx, fw, fv, fu, ft, fo, fk, forall_const, fS, fR, fQ, fP, fO, fN, fM, fL, fK, aX, ↓aF, ↓aA, ↓aw, List.filterMap_cons, List.filterMap_nil, ↓bH, ↓cP, b7, bQ, bW, bO, dD, ↓strR, ↓joinM, ↓bN, ↓aB, ↓bP, List.nodup_cons, List.nodup_nil, List.not_mem_nil, not_false_eq_true, ↓am]
  simp
  rfl
theorem sN (C : Addr) (p : Pl) (g s m k : Int) (l : List Int) (f : List (Option Int)) (nd : l.Nodup) (hl : 0 < l.length) (hz : l.length ≤ 100) (hf : f.length ≤ 100) (hm : 0 ≤ m ∧ m < 4) : ∃ (p' : Pl) (l' : List Int) (o : Option Int), Step l l' o ∧
    ∀ (x : Addr) (Q E), fU C (iU x p g s l f m (.im (.int k))) Q E = Q .nx (iU x p' g s l' (f ++ [o]) m (.im (.int k))) := by
  have tw := fun (x : Addr) (p : Pl) => nQ C x p (wM m) (wD m).1 (wD m).2
  have t3 := fun (x : Addr) (p : Pl) => nQ C x p 3 (by decide) (by decide)
  have zf : (f.map oD).length < sizeLine := by rw [List.length_map, sizeLine_eq]; omega
  have ixm := fun (env : List DL.Slot) Q E => vM hm env Q E
  have a1 : ∀ (x : Addr) (p : Pl) (l : List Int) (Q E), bR 4 (DL.ret .non) [.io x p.o, .im (.int g), .im (.int s), .ow (.lst (l.map .int)), .ow (.lst (f.map oD)), .im (.int m), .im (.int k)] Q E = Q .non [.io x p.o, .im (.int g), .im (.int s), .ow (.lst (l.map .int)), .ow (.lst ((f ++ [none]).map oD)), .im (.int m), .im (.int k)] := fun x p l Q E => by
    simp only [zf, ← sX, oD, ↓aL, ↓aP, ↓aM, ↓aE, ↓aS, ↓ai, ↓getO, ↓putO, ↓setI, ↓setO, ac, aa, List.set_cons_zero, List.set_cons_succ, ↓bc, ↓dq, ↓aN, ↓dY, ↓cV, ↓eG, ↓notB, ↓dh, ↓dw, ↓dP, ↓cA, ↓fG, ↓ak, ↓ao, ↓aZ, ↓cI, ↓lstM, ↓bK, ↓cF, ↓bj, ↓du, ↓callN, ↓callA, ↓cN, ↓split1, ↓callD, ↓call1, ↓callK, ↓cO, ↓putS, ↓cG, ↓cz, ↓dX, ↓eY, ↓cB, ↓cE, D.kind, CT.is, ↓fh, ↓fB, ↓fD, ↓fF, ↓cy, ↓cW, ↓cK, ↓cJ, ↓bM, ↓di, ↓aH, ↓aC, ↓cS, ↓dc, ↓dB, ↓DL.intD, ↓bU, ↓bT, ↓dz, ↓de, ↓e6, ↓e9, ↓aJ, ↓cR, ↓olist, ↓fE, ↓fC, ↓bF, ↓bR, ↓bC, ↓ck, ↓cj, ↓dj, ↓oset, ↓fH, ↓bS, ↓bJ, ↓cY, ↓dy, ↓cM, ↓bB, ↓bf, ↓aI, ↓bh, ↓cL, ↓bu, ↓dC, ↓vD, ↓vO, ↓oins, ↓fJ, ↓bL, bx, ↓bA, aK, ↓fc, ↓DL.cU, ↓cX, ↓bv, ↓bD, ↓bV, ↓bz, ↓fj, Option.map, List.map_cons, List.map_nil, List.cons_append, List.nil_append, List.length_cons, List.length_nil, List.replicate, Nat.reduceAdd, Nat.reduceSub, Nat.sub_self, Bool.not_true, Bool.not_false, ↓if_true, ↓if_false, ↓ite_true, ↓ite_false, true_and, and_true, Bool.true_eq_false, Bool.false_eq_true, reduceIte, aD, cg, b9, b8, bZ, bY, bX, ↓aW, ↓aU, ↓aV, ↓aT, ↓aR, ↓aQ, aO, cZ, ↓au, ↓ay, ↓az, ↓aj, fA, fy, fx, fw, fv, fu, ft, fo, fk, forall_const, fS, fR, fQ, fP, fO, fN, fM, fL, fK, aX, ↓aF, ↓aA, ↓aw, List.filterMap_cons, List.filterMap_nil, ↓bH, ↓cP, b7, bQ, bW, bO, dD, ↓strR, ↓joinM, ↓bN, ↓aB, ↓bP, List.nodup_cons, List.nodup_nil, List.not_mem_nil, not_false_eq_true, ↓am]
  have a2 : ∀ (x : Addr) (p : Pl) (l : List Int) (Q E), bR 4 (ai 6) [.io x p.o, .im (.int g), .im (.int s), .ow (.lst (l.map .int)), .ow (.lst (f.map oD)), .im (.int m), .im (.int k)] Q E = Q .non [.io x p.o, .im (.int g), .im (.int s), .ow (.lst (l.map .int)), .ow (.lst ((f ++ [some k]).map oD)), .im (.int m), .im (.int k)] := fun x p l Q E => by
    simp only [zf, ← sX, oD, ↓aL, ↓aP, ↓aM, ↓aE, ↓aS, ↓ai, ↓getO, ↓putO, ↓setI, ↓setO, ac, aa, List.set_cons_zero, List.set_cons_succ, ↓bc, ↓dq, ↓aN, ↓dY, ↓cV, ↓eG, ↓notB, ↓dh, ↓dw, ↓dP, ↓cA, ↓fG, ↓ak, ↓ao, ↓aZ, ↓cI, ↓lstM, ↓bK, ↓cF, ↓bj, ↓du, ↓callN, ↓callA, ↓cN, ↓split1, ↓callD, ↓call1, ↓callK, ↓cO, ↓putS, ↓cG, ↓cz, ↓dX, ↓eY, ↓cB, ↓cE, D.kind, CT.is, ↓fh, ↓fB, ↓fD, ↓fF, ↓cy, ↓cW, ↓cK, ↓cJ, ↓bM, ↓di, ↓aH, ↓aC, ↓cS, ↓dc, ↓dB, ↓DL.intD, ↓bU, ↓bT, ↓dz, ↓de, ↓e6, ↓e9, ↓aJ, ↓cR, ↓olist, ↓fE, ↓fC, ↓bF, ↓bR, ↓bC, ↓ck, ↓cj, ↓dj, ↓oset, ↓fH, ↓bS, ↓bJ, ↓cY, ↓dy, ↓cM, ↓bB, ↓bf, ↓aI, ↓bh, ↓cL, ↓bu, ↓dC, ↓vD, ↓vO, ↓oins, ↓fJ, ↓bL, bx, ↓bA, aK, ↓fc, ↓DL.cU, ↓cX, ↓bv, ↓bD, ↓bV, ↓bz, ↓fj, Option.map, List.map_cons, List.map_nil, List.cons_append, List.nil_append, List.length_cons, List.length_nil, List.replicate, Nat.reduceAdd, Nat.reduceSub, Nat.sub_self, Bool.not_true, Bool.not_false, ↓if_true, ↓if_false, ↓ite_true, ↓ite_false, true_and, and_true, Bool.true_eq_false, Bool.false_eq_true, reduceIte, aD, cg, b9, b8, bZ, bY, bX, ↓aW, ↓aU, ↓aV, ↓aT, ↓aR, ↓aQ, aO, cZ, ↓au, ↓ay, ↓az, ↓aj, fA, fy, fx, fw, fv, fu, ft, fo, fk, forall_const, fS, fR, fQ, fP, fO, fN, fM, fL, fK, aX, ↓aF, ↓aA, ↓aw, List.filterMap_cons, List.filterMap_nil, ↓bH, ↓cP, b7, bQ, bW, bO, dD, ↓strR, ↓joinM, ↓bN, ↓aB, ↓bP, List.nodup_cons, List.nodup_nil, List.not_mem_nil, not_false_eq_true, ↓am]
  have last := fun q : Pl => vf C q g s m k l f hl hz hf
  simp only [iU] at last
  have i1 : ∀ b : Int, (m == b) = decide (m = b) := fun b => by rw [Bool.eq_iff_iff]; simp
  cases c1 : p.dr (wM m) == 0 && !(m == 1) with
  | true =>
    obtain ⟨c2, c3⟩ : (p.dr (wM m) == 0) = true ∧ (m == 1) = false := by simpa using c1
    refine ⟨p.st (wM m), l, none, ⟨nd, fun _ h => h, Nat.le_succ _, Nat.le_refl _, fun i h => by cases h⟩, fun x Q E => ?_⟩
    simp only [↓fU, iU, ↓ixm, ↓tw, c2, c3, ↓a1, ↓aL, ↓aP, ↓aM, ↓aE, ↓aS, ↓ai, ↓getO, ↓putO, ↓setI, ↓setO, ac, aa, List.set_cons_zero, List.set_cons_succ, ↓bc, ↓dq, ↓aN, ↓dY, ↓cV, ↓eG, ↓notB, ↓dh, ↓dw, ↓dP, ↓cA, ↓fG, ↓ak, ↓ao, ↓aZ, ↓cI, ↓lstM, ↓bK, ↓cF, ↓bj, ↓du, ↓callN, ↓callA, ↓cN, ↓split1, ↓callD, ↓call1, ↓callK, ↓cO, ↓putS, ↓cG, ↓cz, ↓dX, ↓eY, ↓cB, ↓cE, D.kind, CT.is, ↓fh, ↓fB, ↓fD, ↓fF, ↓cy, ↓cW, ↓cK, ↓cJ, ↓bM, ↓di, ↓aH, ↓aC, ↓cS, ↓dc, ↓dB, ↓DL.intD, ↓bU, ↓bT, ↓dz, ↓de, ↓e6, ↓e9, ↓aJ, ↓cR, ↓olist, ↓fE, ↓fC, ↓bF, ↓bC, ↓dj, ↓oset, ↓fH, ↓bS, ↓bJ, ↓cY, ↓dy, ↓cM, ↓bB, ↓bf, ↓aI, ↓bh, ↓cL, ↓bu, ↓dC, ↓vD, ↓vO, ↓oins, ↓fJ, ↓bL, bx, ↓bA, aK, ↓fc, ↓DL.cU, ↓cX, ↓bv, ↓bD, ↓bV, ↓bz, ↓fj, Option.map, List.map_cons, List.map_nil, List.cons_append, List.nil_append, List.length_cons, List.length_nil, List.replicate, Nat.reduceAdd, Nat.reduceSub, Nat.sub_self, Bool.not_true, Bool.not_false, ↓if_true, ↓if_false, ↓ite_true, ↓ite_false, true_and, and_true, Bool.true_eq_false, Bool.false_eq_true, reduceIte, aD, cg, b9, b8, bZ, bY, bX, ↓aW, ↓aU, ↓aV, ↓aT, ↓aR, ↓aQ, aO, cZ, ↓au, ↓ay, ↓az, ↓aj, fA, fy, fx, fw, fv, fu, ft, fo, fk, forall_const, fS, fR, fQ, fP, fO, fN, fM, fL, fK, aX, ↓aF, ↓aA, ↓aw, List.filterMap_cons, List.filterMap_nil, ↓bH, ↓cP, b7, bQ, bW, bO, dD, ↓strR, ↓joinM, ↓bN, ↓aB, ↓bP, List.nodup_cons, List.nodup_nil, List.not_mem_nil, not_false_eq_true, ↓am]
  | false =>
    have fst : ∀ (x : Addr) (Q : Bool → List DL.Slot → Prop) (E), (cV (cA (aq (aq (aZ 0 (ao (cA (lstM (ak (DL.ret (.int 4)) (ak (DL.ret (.int 9)) (ak (DL.ret (.int 2)) (ak (DL.ret (.int 6)) (DL.ret [])))))) (ai 5) jI) (DL.ret []))) (callN 2 (eX C))) bj) (DL.ret (.int 0)) fun x y => aq (lu x y) dP) (cA (ai 5) (DL.ret (.int 1)) fun x y => aq (ki x y) dP)) (iU x p g s l f m (.im (.int k))) Q E = Q false (iU x (p.st (wM m)) g s l f m (.im (.int k))) := fun x Q E => by
      cases c2 : p.dr (wM m) == 0 with
      | true =>
        have c3 : (m == 1) = true := by rw [c2] at c1; simpa using c1
        simp only [iU, ↓ixm, ↓tw, c2, c3, ↓aL, ↓aP, ↓aM, ↓aE, ↓aS, ↓ai, ↓getO, ↓putO, ↓setI, ↓setO, ac, aa, List.set_cons_zero, List.set_cons_succ, ↓bc, ↓dq, ↓aN, ↓dY, ↓cV, ↓eG, ↓notB, ↓dh, ↓dw, ↓dP, ↓cA, ↓fG, ↓ak, ↓ao, ↓aZ, ↓cI, ↓lstM, ↓bK, ↓cF, ↓bj, ↓du, ↓callN, ↓callA, ↓cN, ↓split1, ↓callD, ↓call1, ↓callK, ↓cO, ↓putS, ↓cG, ↓cz, ↓dX, ↓eY, ↓cB, ↓cE, D.kind, CT.is, ↓fh, ↓fB, ↓fD, ↓fF, ↓cy, ↓cW, ↓cK, ↓cJ, ↓bM, ↓di, ↓aH, ↓aC, ↓cS, ↓dc, ↓dB, ↓DL.intD, ↓bU, ↓bT, ↓dz, ↓de, ↓e6, ↓e9, ↓aJ, ↓cR, ↓olist, ↓fE, ↓fC, ↓bF, ↓bR, ↓bC, ↓ck, ↓cj, ↓dj, ↓oset, ↓fH, ↓bS, ↓bJ, ↓cY, ↓dy, ↓cM, ↓bB, ↓bf, ↓aI, ↓bh, ↓cL, ↓bu, ↓dC, ↓vD, ↓vO, ↓oins, ↓fJ, ↓bL, bx, ↓bA, aK, ↓fc, ↓DL.cU, ↓cX, ↓bv, ↓bD, ↓bV, ↓bz, ↓fj, Option.map, List.map_cons, List.map_nil, List.cons_append, List.nil_append, List.length_cons, List.length_nil, List.replicate, Nat.reduceAdd, Nat.reduceSub, Nat.sub_self, Bool.not_true, Bool.not_false, ↓if_true, ↓if_false, ↓ite_true, ↓ite_false, true_and, and_true, Bool.true_eq_false, Bool.false_eq_true, reduceIte, aD, cg, b9, b8, bZ, bY, bX, ↓aW, ↓aU, ↓aV, ↓aT, ↓aR, ↓aQ, aO, cZ, ↓au, ↓ay, ↓az, ↓aj, fA, fy, fx, fw, fv, fu, ft, fo, fk, forall_const, fS, fR, fQ, fP, fO, fN, fM, fL, fK, aX, ↓aF, ↓aA, ↓aw, List.filterMap_cons, List.filterMap_nil, ↓bH, ↓cP, b7, bQ, bW, bO, dD, ↓strR, ↓joinM, ↓bN, ↓aB, ↓bP, List.nodup_cons, List.nodup_nil, List.not_mem_nil, not_false_eq_true, ↓am]
      | false => simp only [iU, ↓ixm, ↓tw, c2, ↓aL, ↓aP, ↓aM, ↓aE, ↓aS, ↓ai, ↓getO, ↓putO, ↓setI, ↓setO, ac, aa, List.set_cons_zero, List.set_cons_succ, ↓bc, ↓dq, ↓aN, ↓dY, ↓cV, ↓eG, ↓notB, ↓dh, ↓dw, ↓dP, ↓cA, ↓fG, ↓ak, ↓ao, ↓aZ, ↓cI, ↓lstM, ↓bK, ↓cF, ↓bj, ↓du, ↓callN, ↓callA, ↓cN, ↓split1, ↓callD, ↓call1, ↓callK, ↓cO, ↓putS, ↓cG, ↓cz, ↓dX, ↓eY, ↓cB, ↓cE, D.kind, CT.is, ↓fh, ↓fB, ↓fD, ↓fF, ↓cy, ↓cW, ↓cK, ↓cJ, ↓bM, ↓di, ↓aH, ↓aC, ↓cS, ↓dc, ↓dB, ↓DL.intD, ↓bU, ↓bT, ↓dz, ↓de, ↓e6, ↓e9, ↓aJ, ↓cR, ↓olist, ↓fE, ↓fC, ↓bF, ↓bR, ↓bC, ↓ck, ↓cj, ↓dj, ↓oset, ↓fH, ↓bS, ↓bJ, ↓cY, ↓dy, ↓cM, ↓bB, ↓bf, ↓aI, ↓bh, ↓cL, ↓bu, ↓dC, ↓vD, ↓vO, ↓oins, ↓fJ, ↓bL, bx, ↓bA, aK, ↓fc, ↓DL.cU, ↓cX, ↓bv, ↓bD, ↓bV, ↓bz, ↓fj, Option.map, List.map_cons, List.map_nil, List.cons_append, List.nil_append, List.length_cons, List.length_nil, List.replicate, Nat.reduceAdd, Nat.reduceSub, Nat.sub_self, Bool.not_true, Bool.not_false, ↓if_true, ↓if_false, ↓ite_true, ↓ite_false, true_and, and_true, Bool.true_eq_false, Bool.false_eq_true, reduceIte, aD, cg, b9, b8, bZ, bY, bX, ↓aW, ↓aU, ↓aV, ↓aT, ↓aR, ↓aQ, aO, cZ, ↓au, ↓ay, ↓az, ↓aj, fA, fy, fx, fw, fv, fu, ft, fo, fk, forall_const, fS, fR, fQ, fP, fO, fN, fM, fL, fK, aX, ↓aF, ↓aA, ↓aw, List.filterMap_cons, List.filterMap_nil, ↓bH, ↓cP, b7, bQ, bW, bO, dD, ↓strR, ↓joinM, ↓bN, ↓aB, ↓bP, List.nodup_cons, List.nodup_nil, List.not_mem_nil, not_false_eq_true, ↓am]
    by_cases h3 : m = 3
    · have c4 : (m == 3) = true := by rw [i1]; exact decide_eq_true h3
      by_cases h4 : k ∈ l
      · by_cases h5 : 0 < (p.st (wM m)).dr 3
        · refine ⟨(p.st (wM m)).st 3, l.erase k, some k, tA nd h4, fun x Q E => ?_⟩
          have r1 : ∀ (x : Addr) (p : Pl) (Q E), cj 3 (ai 6) [.io x p.o, .im (.int g), .im (.int s), .ow (.lst (l.map .int)), .ow (.lst (f.map oD)), .im (.int m), .im (.int k)] Q E = Q .non [.io x p.o, .im (.int g), .im (.int s), .ow (.lst ((l.erase k).map .int)), .ow (.lst (f.map oD)), .im (.int m), .im (.int k)] := fun x p Q E => by
            simp only [iB, h4, ↓aL, ↓aP, ↓aM, ↓aE, ↓aS, ↓ai, ↓getO, ↓putO, ↓setI, ↓setO, ac, aa, List.set_cons_zero, List.set_cons_succ, ↓bc, ↓dq, ↓aN, ↓dY, ↓cV, ↓eG, ↓notB, ↓dh, ↓dw, ↓dP, ↓cA, ↓fG, ↓ak, ↓ao, ↓aZ, ↓cI, ↓lstM, ↓bK, ↓cF, ↓bj, ↓du, ↓callN, ↓callA, ↓cN, ↓split1, ↓callD, ↓call1, ↓callK, ↓cO, ↓putS, ↓cG, ↓cz, ↓dX, ↓eY, ↓cB, ↓cE, D.kind, CT.is, ↓fh, ↓fB, ↓fD, ↓fF, ↓cy, ↓cW, ↓cK, ↓cJ, ↓bM, ↓di, ↓aH, ↓aC, ↓cS, ↓dc, ↓dB, ↓DL.intD, ↓bU, ↓bT, ↓dz, ↓de, ↓e6, ↓e9, ↓aJ, ↓cR, ↓olist, ↓fE, ↓fC, ↓bF, ↓bR, ↓bC, ↓ck, ↓cj, ↓dj, ↓oset, ↓fH, ↓bS, ↓bJ, ↓cY, ↓dy, ↓cM, ↓bB, ↓bf, ↓aI, ↓bh, ↓cL, ↓bu, ↓dC, ↓vD, ↓vO, ↓oins, ↓fJ, ↓bL, bx, ↓bA, aK, ↓fc, ↓DL.cU, ↓cX, ↓bv, ↓bD, ↓bV, ↓bz, ↓fj, Option.map, List.map_cons, List.map_nil, List.cons_append, List.nil_append, List.length_cons, List.length_nil, List.replicate, Nat.reduceAdd, Nat.reduceSub, Nat.sub_self, Bool.not_true, Bool.not_false, ↓if_true, ↓if_false, ↓ite_true, ↓ite_false, true_and, and_true, Bool.true_eq_false, Bool.false_eq_true, reduceIte, aD, cg, b9, b8, bZ, bY, bX, ↓aW, ↓aU, ↓aV, ↓aT, ↓aR, ↓aQ, aO, cZ, ↓au, ↓ay, ↓az, ↓aj, fA, fy, fx, fw, fv, fu, ft, fo, fk, forall_const, fS, fR, fQ, fP, fO, fN, fM, fL, fK, aX, ↓aF, ↓aA, ↓aw, List.filterMap_cons, List.filterMap_nil, ↓bH, ↓cP, b7, bQ, bW, bO, dD, ↓strR, ↓joinM, ↓bN, ↓aB, ↓bP, List.nodup_cons, List.nodup_nil, List.not_mem_nil, not_false_eq_true, ↓am]
          unfold fU dY
          rw [aL, fst]
          simp only [iU]
          simp only [c4, any_ints, kF, decide_eq_true h4, decide_eq_true h5, ↓t3, ↓r1, ↓a2, show gj (.int k) = true from rfl, ↓aL, ↓aP, ↓aM, ↓aE, ↓aS, ↓ai, ↓getO, ↓putO, ↓setI, ↓setO, ac, aa, List.set_cons_zero, List.set_cons_succ, ↓bc, ↓dq, ↓aN, ↓dY, ↓cV, ↓eG, ↓notB, ↓dh, ↓dw, ↓dP, ↓cA, ↓fG, ↓ak, ↓ao, ↓aZ, ↓cI, ↓lstM, ↓bK, ↓cF, ↓bj, ↓du, ↓callN, ↓callA, ↓cN, ↓split1, ↓callD, ↓call1, ↓callK, ↓cO, ↓putS, ↓cG, ↓cz, ↓dX, ↓eY, ↓cB, ↓cE, D.kind, CT.is, ↓fh, ↓fB, ↓fD, ↓fF, ↓cy, ↓cW, ↓cK, ↓cJ, ↓bM, ↓di, ↓aH, ↓aC, ↓cS, ↓dc, ↓dB, ↓DL.intD, ↓bU, ↓bT, ↓dz, ↓de, ↓e6, ↓e9, ↓aJ, ↓cR, ↓olist, ↓fE, ↓fC, ↓bF, ↓bC, ↓dj, ↓oset, ↓fH, ↓bS, ↓bJ, ↓cY, ↓dy, ↓cM, ↓bB, ↓bf, ↓aI, ↓bh, ↓cL, ↓bu, ↓dC, ↓vD, ↓vO, ↓oins, ↓fJ, ↓bL, bx, ↓bA, aK, ↓fc, ↓DL.cU, ↓cX, ↓bv, ↓bD, ↓bV, ↓bz, ↓fj, Option.map, List.map_cons, List.map_nil, List.cons_append, List.nil_append, List.length_cons, List.length_nil, List.replicate, Nat.reduceAdd, Nat.reduceSub, Nat.sub_self, Bool.not_true, Bool.not_false, ↓if_true, ↓if_false, ↓ite_true, ↓ite_false, true_and, and_true, Bool.true_eq_false, Bool.false_eq_true, reduceIte, aD, cg, b9, b8, bZ, bY, bX, ↓aW, ↓aU, ↓aV, ↓aT, ↓aR, ↓aQ, aO, cZ, ↓au, ↓ay, ↓az, ↓aj, fA, fy, fx, fw, fv, fu, ft, fo, fk, forall_const, fS, fR, fQ, fP, fO, fN, fM, fL, fK, aX, ↓aF, ↓aA, ↓aw, List.filterMap_cons, List.filterMap_nil, ↓bH, ↓cP, b7, bQ, bW, bO, dD, ↓strR, ↓joinM, ↓bN, ↓aB, ↓bP, List.nodup_cons, List.nodup_nil, List.not_mem_nil, not_false_eq_true, ↓am]
        · obtain ⟨v, j, e1, e2⟩ := last ((p.st (wM m)).st 3)
          refine ⟨((p.st (wM m)).st 3).st l.length, l.eraseIdx j, some v, lQ nd e1, fun x Q E => ?_⟩
          simp only [↓aZ, ↓ao, ↓bF, ↓olist] at e2
          unfold fU dY
          rw [aL, fst]
          simp only [iU]
          simp only [c4, any_ints, kF, decide_eq_true h4, decide_eq_false h5, ↓t3, e2, show gj (.int k) = true from rfl, ↓aL, ↓aP, ↓aM, ↓aE, ↓aS, ↓ai, ↓getO, ↓putO, ↓setI, ↓setO, ac, aa, List.set_cons_zero, List.set_cons_succ, ↓bc, ↓dq, ↓aN, ↓dY, ↓cV, ↓eG, ↓notB, ↓dh, ↓dw, ↓dP, ↓cA, ↓fG, ↓ak, ↓ao, ↓aZ, ↓cI, ↓lstM, ↓bK, ↓cF, ↓bj, ↓du, ↓callN, ↓callA, ↓cN, ↓split1, ↓callD, ↓call1, ↓callK, ↓cO, ↓putS, ↓cG, ↓cz, ↓dX, ↓eY, ↓cB, ↓cE, D.kind, CT.is, ↓fh, ↓fB, ↓fD, ↓fF, ↓cy, ↓cW, ↓cK, ↓cJ, ↓bM, ↓di, ↓aH, ↓aC, ↓cS, ↓dc, ↓dB, ↓DL.intD, ↓bU, ↓bT, ↓dz, ↓de, ↓e6, ↓e9, ↓aJ, ↓cR, ↓olist, ↓fE, ↓fC, ↓bF, ↓bC, ↓dj, ↓oset, ↓fH, ↓bS, ↓bJ, ↓cY, ↓dy, ↓cM, ↓bB, ↓bf, ↓aI, ↓bh, ↓cL, ↓bu, ↓dC, ↓vD, ↓vO, ↓oins, ↓fJ, ↓bL, bx, ↓bA, aK, ↓fc, ↓DL.cU, ↓cX, ↓bv, ↓bD, ↓bV, ↓bz, ↓fj, Option.map, List.map_cons, List.map_nil, List.cons_append, List.nil_append, List.length_cons, List.length_nil, List.replicate, Nat.reduceAdd, Nat.reduceSub, Nat.sub_self, Bool.not_true, Bool.not_false, ↓if_true, ↓if_false, ↓ite_true, ↓ite_false, true_and, and_true, Bool.true_eq_false, Bool.false_eq_true, reduceIte, aD, cg, b9, b8, bZ, bY, bX, ↓aW, ↓aU, ↓aV, ↓aT, ↓aR, ↓aQ, aO, cZ, ↓au, ↓ay, ↓az, ↓aj, fA, fy, fx, fw, fv, fu, ft, fo, fk, forall_const, fS, fR, fQ, fP, fO, fN, fM, fL, fK, aX, ↓aF, ↓aA, ↓aw, List.filterMap_cons, List.filterMap_nil, ↓bH, ↓cP, b7, bQ, bW, bO, dD, ↓strR, ↓joinM, ↓bN, ↓aB, ↓bP, List.nodup_cons, List.nodup_nil, List.not_mem_nil, not_false_eq_true, ↓am]
      · obtain ⟨v, j, e1, e2⟩ := last (p.st (wM m))
        refine ⟨(p.st (wM m)).st l.length, l.eraseIdx j, some v, lQ nd e1, fun x Q E => ?_⟩
        unfold fU dY
        rw [aL, fst]
        simp only [iU]
        simp only [c4, any_ints, kF, decide_eq_false h4, ↓e2, show gj (.int k) = true from rfl, ↓aL, ↓aP, ↓aM, ↓aE, ↓aS, ↓ai, ↓getO, ↓putO, ↓setI, ↓setO, ac, aa, List.set_cons_zero, List.set_cons_succ, ↓bc, ↓dq, ↓aN, ↓dY, ↓cV, ↓eG, ↓notB, ↓dh, ↓dw, ↓dP, ↓cA, ↓fG, ↓ak, ↓ao, ↓aZ, ↓cI, ↓lstM, ↓bK, ↓cF, ↓bj, ↓du, ↓callN, ↓callA, ↓cN, ↓split1, ↓callD, ↓call1, ↓callK, ↓cO, ↓putS, ↓cG, ↓cz, ↓dX, ↓eY, ↓cB, ↓cE, D.kind, CT.is, ↓fh, ↓fB, ↓fD, ↓fF, ↓cy, ↓cW, ↓cK, ↓cJ, ↓bM, ↓di, ↓aH, ↓aC, ↓cS, ↓dc, ↓dB, ↓DL.intD, ↓bU, ↓bT, ↓dz, ↓de, ↓e6, ↓e9, ↓aJ, ↓cR, ↓olist, ↓fE, ↓fC, ↓bF, ↓bC, ↓dj, ↓oset, ↓fH, ↓bS, ↓bJ, ↓cY, ↓dy, ↓cM, ↓bB, ↓bf, ↓aI, ↓bh, ↓cL, ↓bu, ↓dC, ↓vD, ↓vO, ↓oins, ↓fJ, ↓bL, bx, ↓bA, aK, ↓fc, ↓DL.cU, ↓cX, ↓bv, ↓bD, ↓bV, ↓bz, ↓fj, Option.map, List.map_cons, List.map_nil, List.cons_append, List.nil_append, List.length_cons, List.length_nil, List.replicate, Nat.reduceAdd, Nat.reduceSub, Nat.sub_self, Bool.not_true, Bool.not_false, ↓if_true, ↓if_false, ↓ite_true, ↓ite_false, true_and, and_true, Bool.true_eq_false, Bool.false_eq_true, reduceIte, aD, cg, b9, b8, bZ, bY, bX, ↓aW, ↓aU, ↓aV, ↓aT, ↓aR, ↓aQ, aO, cZ, ↓au, ↓ay, ↓az, ↓aj, fA, fy, fx, fw, fv, fu, ft, fo, fk, forall_const, fS, fR, fQ, fP, fO, fN, fM, fL, fK, aX, ↓aF, ↓aA, ↓aw, List.filterMap_cons, List.filterMap_nil, ↓bH, ↓cP, b7, bQ, bW, bO, dD, ↓strR, ↓joinM, ↓bN, ↓aB, ↓bP, List.nodup_cons, List.nodup_nil, List.not_mem_nil, not_false_eq_true, ↓am]
    · have c4 : (m == 3) = false := by rw [i1]; exact decide_eq_false h3
      obtain ⟨v, j, e1, e2⟩ := last (p.st (wM m))
      refine ⟨(p.st (wM m)).st l.length, l.eraseIdx j, some v, lQ nd e1, fun x Q E => ?_⟩
      unfold fU dY
      rw [aL, fst]
      simp only [iU]
      simp only [c4, ↓e2, ↓aL, ↓aP, ↓aM, ↓aE, ↓aS, ↓ai, ↓getO, ↓putO, ↓setI, ↓setO, ac, aa, List.set_cons_zero, List.set_cons_succ, ↓bc, ↓dq, ↓aN, ↓dY, ↓cV, ↓eG, ↓notB, ↓dh, ↓dw, ↓dP, ↓cA, ↓fG, ↓ak, ↓ao, ↓aZ, ↓cI, ↓lstM, ↓bK, ↓cF, ↓bj, ↓du, ↓callN, ↓callA, ↓cN, ↓split1, ↓callD, ↓call1, ↓callK, ↓cO, ↓putS, ↓cG, ↓cz, ↓dX, ↓eY, ↓cB, ↓cE, D.kind, CT.is, ↓fh, ↓fB, ↓fD, ↓fF, ↓cy, ↓cW, ↓cK, ↓cJ, ↓bM, ↓di, ↓aH, ↓aC, ↓cS, ↓dc, ↓dB, ↓DL.intD, ↓bU, ↓bT, ↓dz, ↓de, ↓e6, ↓e9, ↓aJ, ↓cR, ↓olist, ↓fE, ↓fC, ↓bF, ↓bC, ↓dj, ↓oset, ↓fH, ↓bS, ↓bJ, ↓cY, ↓dy, ↓cM, ↓bB, ↓bf, ↓aI, ↓bh, ↓cL, ↓bu, ↓dC, ↓vD, ↓vO, ↓oins, ↓fJ, ↓bL, bx, ↓bA, aK, ↓fc, ↓DL.cU, ↓cX, ↓bv, ↓bD, ↓bV, ↓bz, ↓fj, Option.map, List.map_cons, List.map_nil, List.cons_append, List.nil_append, List.length_cons, List.length_nil, List.replicate, Nat.reduceAdd, Nat.reduceSub, Nat.sub_self, Bool.not_true, Bool.not_false, ↓if_true, ↓if_false, ↓ite_true, ↓ite_false, true_and, and_true, Bool.true_eq_false, Bool.false_eq_true, reduceIte, aD, cg, b9, b8, bZ, bY, bX, ↓aW, ↓aU, ↓aV, ↓aT, ↓aR, ↓aQ, aO, cZ, ↓au, ↓ay, ↓az, ↓aj, fA, fy, fx, fw, fv, fu, ft, fo, fk, forall_const, fS, fR, fQ, fP, fO, fN, fM, fL, fK, aX, ↓aF, ↓aA, ↓aw, List.filterMap_cons, List.filterMap_nil, ↓bH, ↓cP, b7, bQ, bW, bO, dD, ↓strR, ↓joinM, ↓bN, ↓aB, ↓bP, List.nodup_cons, List.nodup_nil, List.not_mem_nil, not_false_eq_true, ↓am]
theorem rG (C : Addr) (g s m : Int) (hm : 0 ≤ m ∧ m < 4) : ∀ (ps : List Int) (p : Pl) (l : List Int) (f : List (Option Int)), Good (g + s) l f → ps.length ≤ l.length → l.length ≤ 100 → f.length + ps.length ≤ 100 →
    ∃ (p' : Pl) (l' : List Int) (f' : List (Option Int)), Good (g + s) l' f' ∧ f'.length = f.length + ps.length ∧ ∀ (x : Addr) (v : DL.Slot) (Q E) (R : Prop), (∀ y o, v ≠ .io y o) → (∀ v, Q .nx (iU x p' g s l' f' m v) = R) → forL (setI 6) (fU C) (ps.map .int) (iU x p g s l f m v) Q E = R := by
  intro ps
  induction ps with
  | nil => intro p l f G _ _ _; exact ⟨p, l, f, G, rfl, fun x v Q E R _ hQ => hQ v⟩
  | cons k ps ih =>
    intro p l f G h1 h2 h3
    rw [List.length_cons] at h1 h3
    obtain ⟨p1, l1, o, t, run⟩ := sN C p g s m k l f G.nd (by omega) h2 (by omega) hm
    have le := t.le
    obtain ⟨p2, l2, f2, G2, len, rest⟩ := ih p1 l1 (f ++ [o]) (G.step t) (by have := t.len; omega) (by omega) (by rw [List.length_append]; simp; omega)
    refine ⟨p2, l2, f2, G2, by rw [len, List.length_append, List.length_cons]; simp; omega, fun x v Q E R hv hQ => ?_⟩
    have st : ∀ Q E, setI 6 (.int k) (iU x p g s l f m v) Q E = Q () (iU x p g s l f m (.im (.int k))) := fun Q E => by
      cases v with
      | io y o => exact (hv y o rfl).elim
      | _ => rfl
    rw [List.map_cons, aj, st, run, au]
    exact rest x _ Q E R nofun hQ
theorem tU (C : Addr) (p : Pl) (g s : Int) (hg : 1 ≤ g ∧ g ≤ 25) (hs : 0 ≤ s ∧ s ≤ 8) : ∃ (p' : Pl) (st : Sd), (((st.length : Int) = g ∧ (∀ i, some i ∈ st → 0 ≤ i ∧ i < g + s) ∧ st.Pairwise fun o p => o = none ∨ o ≠ p) ∧ ∀ (x : Addr) (Q E), iw C [.io x p.o, .im (.int g), .im (.int s)] Q E = Q (.d (eE st)) [.io x p'.o, .im (.int g), .im (.int s)]) := by
  have t4 := fun (x : Addr) (p : Pl) => nQ C x p 4 (by decide) (by decide)
  have b4 := p.bd (wide := 4) (by decide)
  have G0 : Good (g + s) (nums (g + s)) [] := ⟨lW _, fun i hi => nums_mem.mp hi, fun i hi => by simp at hi, .nil⟩
  obtain ⟨p2, l2, f2, G2, len, rest⟩ := rG C g s (p.dr 4) b4 (nums g) (p.st 4) (nums (g + s)) [] G0 (by rw [hV, hV]; omega) (by rw [hV]; omega) (by rw [hV]; simp; omega)
  rw [hV] at len
  refine ⟨p2, f2, ⟨by rw [len]; simp; omega, fun i hi => (G2.fb i hi).1, G2.pw⟩, fun x Q E => ?_⟩
  have z1 : kq (g + s) := ⟨by omega, by omega⟩
  have z2 : -(2 ^ 62) ≤ g ∧ g < 2 ^ 62 := by omega
  simp only [↓iw, ↓m7, z1, z2, jN, ↓t4, ↓aL, ↓aP, ↓aM, ↓aE, ↓aS, ↓ai, ↓getO, ↓putO, ↓setI, ↓setO, ac, aa, List.set_cons_zero, List.set_cons_succ, ↓bc, ↓dq, ↓aN, ↓dY, ↓cV, ↓eG, ↓notB, ↓dh, ↓dw, ↓dP, ↓cA, ↓fG, ↓ak, ↓ao, ↓aZ, ↓cI, ↓lstM, ↓bK, ↓cF, ↓bj, ↓du, ↓callN, ↓callA, ↓cN, ↓split1, ↓callD, ↓call1, ↓callK, ↓cO, ↓putS, ↓cG, ↓cz, ↓dX, ↓eY, ↓cB, ↓cE, D.kind, CT.is, ↓fh, ↓fB, ↓fD, ↓fF, ↓cy, ↓cW, ↓cK, ↓cJ, ↓bM, ↓di, ↓aH, ↓aC, ↓cS, ↓dc, ↓dB, ↓DL.intD, ↓bU, ↓bT, ↓dz, ↓de, ↓e6, ↓e9, ↓aJ, ↓cR, ↓olist, ↓fE, ↓fC, ↓bF, ↓bR, ↓bC, ↓ck, ↓cj, ↓dj, ↓oset, ↓fH, ↓bS, ↓bJ, ↓cY, ↓dy, ↓cM, ↓bB, ↓bf, ↓aI, ↓bh, ↓cL, ↓bu, ↓dC, ↓vD, ↓vO, ↓oins, ↓fJ, ↓bL, bx, ↓bA, aK, ↓fc, ↓DL.cU, ↓cX, ↓bv, ↓bD, ↓bV, ↓bz, ↓fj, Option.map, List.map_cons, List.map_nil, List.cons_append, List.nil_append, List.length_cons, List.length_nil, List.replicate, Nat.reduceAdd, Nat.reduceSub, Nat.sub_self, Bool.not_true, Bool.not_false, ↓if_true, ↓if_false, ↓ite_true, ↓ite_false, true_and, and_true, Bool.true_eq_false, Bool.false_eq_true, reduceIte, aD, cg, b9, b8, bZ, bY, bX, ↓aW, ↓aU, ↓aV, ↓aT, ↓aR, ↓aQ, aO, cZ, ↓au, ↓ay, ↓az, ↓aj, fA, fy, fx, fw, fv, fu, ft, fo, fk, forall_const, fS, fR, fQ, fP, fO, fN, fM, fL, fK, aX, ↓aF, ↓aA, ↓aw, List.filterMap_cons, List.filterMap_nil, ↓bH, ↓cP, b7, bQ, bW, bO, dD, ↓strR, ↓joinM, ↓bN, ↓aB, ↓bP, List.nodup_cons, List.nodup_nil, List.not_mem_nil, not_false_eq_true, ↓am]
  refine rest x .no _ _ _ nofun fun v => ?_
  simp only [iU, eE, ↓aL, ↓aP, ↓aM, ↓aE, ↓aS, ↓ai, ↓getO, ↓putO, ↓setI, ↓setO, ac, aa, List.set_cons_zero, List.set_cons_succ, ↓bc, ↓dq, ↓aN, ↓dY, ↓cV, ↓eG, ↓notB, ↓dh, ↓dw, ↓dP, ↓cA, ↓fG, ↓ak, ↓ao, ↓aZ, ↓cI, ↓lstM, ↓bK, ↓cF, ↓bj, ↓du, ↓callN, ↓callA, ↓cN, ↓split1, ↓callD, ↓call1, ↓callK, ↓cO, ↓putS, ↓cG, ↓cz, ↓dX, ↓eY, ↓cB, ↓cE, D.kind, CT.is, ↓fh, ↓fB, ↓fD, ↓fF, ↓cy, ↓cW, ↓cK, ↓cJ, ↓bM, ↓di, ↓aH, ↓aC, ↓cS, ↓dc, ↓dB, ↓DL.intD, ↓bU, ↓bT, ↓dz, ↓de, ↓e6, ↓e9, ↓aJ, ↓cR, ↓olist, ↓fE, ↓fC, ↓bF, ↓bR, ↓bC, ↓ck, ↓cj, ↓dj, ↓oset, ↓fH, ↓bS, ↓bJ, ↓cY, ↓dy, ↓cM, ↓bB, ↓bf, ↓aI, ↓bh, ↓cL, ↓bu, ↓dC, ↓vD, ↓vO, ↓oins, ↓fJ, ↓bL, bx, ↓bA, aK, ↓fc, ↓DL.cU, ↓cX, ↓bv, ↓bD, ↓bV, ↓bz, ↓fj, Option.map, List.map_cons, List.map_nil, List.cons_append, List.nil_append, List.length_cons, List.length_nil, List.replicate, Nat.reduceAdd, Nat.reduceSub, Nat.sub_self, Bool.not_true, Bool.not_false, ↓if_true, ↓if_false, ↓ite_true, ↓ite_false, true_and, and_true, Bool.true_eq_false, Bool.false_eq_true, reduceIte, aD, cg, b9, b8, bZ, bY, bX, ↓aW, ↓aU, ↓aV, ↓aT, ↓aR, ↓aQ, aO, cZ, ↓au, ↓ay, ↓az, ↓aj, fA, fy, fx, fw, fv, fu, ft, fo, fk, forall_const, fS, fR, fQ, fP, fO, fN, fM, fL, fK, aX, ↓aF, ↓aA, ↓aw, List.filterMap_cons, List.filterMap_nil, ↓bH, ↓cP, b7, bQ, bW, bO, dD, ↓strR, ↓joinM, ↓bN, ↓aB, ↓bP, List.nodup_cons, List.nodup_nil, List.not_mem_nil, not_false_eq_true, ↓am]
theorem vk (C : Addr) (p : Pl) (g s : Int) (hg : 1 ≤ g ∧ g ≤ 24) (hs : 0 ≤ s ∧ s ≤ 6) : ∃ (p' : Pl) (st : Sd), Stand g s st ∧ ∀ (x : Addr) (Q E), iw C [.io x p.o, .im (.int g), .im (.int s)] Q E = Q (.d (eE st)) [.io x p'.o, .im (.int g), .im (.int s)] := by
  obtain ⟨p', st, ⟨h1, h2, h3⟩, run⟩ := tU C p g s (by omega) (by omega)
  exact ⟨p', st, ⟨h1, hg, hs, h2, h3⟩, run⟩
end
section
def d7 (i : Int) : Str := ((toString i : String) : Str)
def dH : Option Int → Str
  | none => "-"
  | some i => d7 i
def gn (g s : Int) : Str := ((Str.empty ++ (toString g : String)) ++ ("+" : Str)) ++ ((toString s : String) : Str)
def jg (st : Sd) : Str := Txt.join " " (Str.empty :: st.map dH)
def gI (g s : Int) (st : Sd) : Str := gn g s ++ (":" : Str) ++ jg st
theorem jT {i : Int} (h : 0 ≤ i) : TL.tl (d7 i) = TL.numL i.toNat := by
  have := TL.tl_num i.toNat
  rw [Int.toNat_of_nonneg h] at this
  exact this
theorem qz {g s : Int} (hg : 0 ≤ g) (hs : 0 ≤ s) : TL.tl (gn g s) = TL.numL g.toNat ++ 43 :: TL.numL s.toNat := by
  unfold gn
  rw [TL.tl_append, TL.tl_append, TL.tl_append]
  rw [show TL.tl ((toString g : String) : Str) = _ from jT hg, show TL.tl ((toString s : String) : Str) = _ from jT hs]
  show ([] ++ TL.numL g.toNat) ++ [43] ++ TL.numL s.toNat = _
  simp
def lH : Option Int → List Nat
  | none => [45]
  | some i => TL.numL i.toNat
theorem qy {o : Option Int} (h : ∀ i, o = some i → 0 ≤ i) : TL.tl (dH o) = lH o := by
  cases o with
  | none => rfl
  | some i => exact jT (h i rfl)
theorem oB {st : Sd} (h : ∀ i, some i ∈ st → 0 ≤ i) : (st.map dH).map TL.tl = st.map lH := by
  rw [List.map_map]
  exact List.map_congr_left fun o ho => qy fun i e => h i (e ▸ ho)
theorem rW {c : Nat} (hc : c < 45 ∨ 57 < c) (o : Option Int) : c ∉ lH o := by
  cases o with
  | none => intro h; rw [List.mem_singleton.mp h] at hc; omega
  | some i => exact TL.numL_free (by omega)
theorem mq : ∀ ws : List (List Nat), TL.joinL [32] ([] :: ws) = ws.flatMap fun w => 32 :: w
  | [] => rfl
  | [w] => by show [] ++ ([32] ++ w) = _; simp
  | w :: v :: ws => by
    have ih := mq (v :: ws)
    show [] ++ ([32] ++ (w ++ ([32] ++ TL.joinL [32] (v :: ws)))) = _
    have ih : [] ++ ([32] ++ TL.joinL [32] (v :: ws)) = (v :: ws).flatMap fun w => 32 :: w := ih
    rw [List.nil_append] at ih
    rw [ih]
    simp
theorem nh : ∀ ws : List (List Nat), TL.joinL [] ws = ws.flatten
  | [] => rfl
  | [w] => by show w = _; simp
  | w :: v :: ws => by
    have ih := nh (v :: ws)
    show w ++ ([] ++ TL.joinL [] (v :: ws)) = _
    rw [ih]
    simp
theorem nG {st : Sd} (h : ∀ i, some i ∈ st → 0 ≤ i) : TL.tl (jg st) = st.flatMap fun o => 32 :: lH o := by
  unfold jg
  rw [TL.join_eq, TL.tl_join, List.map_cons, oB h]
  show TL.joinL [32] ([] :: _) = _
  rw [mq, List.flatMap_map]
/-- as the program shows it -/
theorem rC {g s : Int} {st : Sd} (h : ∀ i, some i ∈ st → 0 ≤ i) (ne : st ≠ []) : ((Str.empty ++ gn g s) ++ (": " : Str)) ++ Txt.join " " (st.map dH) = gI g s st := by
  refine TL.ext_tl ?_
  unfold gI
  rw [TL.tl_append, TL.tl_append, TL.tl_append, TL.tl_append, TL.tl_append, nG h, TL.join_eq, TL.tl_join, oB h]
  show ([] ++ TL.tl (gn g s)) ++ [58, 32] ++ TL.joinL [32] (st.map lH) = TL.tl (gn g s) ++ [58] ++ _
  have e := mq (st.map lH)
  rw [List.flatMap_map] at e
  rw [← e]
  cases st with
  | nil => exact absurd rfl ne
  | cons o st =>
    show _ = TL.tl (gn g s) ++ [58] ++ ([] ++ ([32] ++ TL.joinL [32] ((o :: st).map lH)))
    simp
/-- as the law tells it -/
theorem sR {g s : Int} {st : Sd} (h : ∀ i, some i ∈ st → 0 ≤ i) : (((d7 g ++ ("+" : Str)) ++ d7 s) ++ (":" : Str)) ++ Txt.join "" (st.map fun o => match o with | none => (" -" : Str) | some i => (" " : Str) ++ d7 i) = gI g s st := by
  refine TL.ext_tl ?_
  unfold gI gn
  rw [TL.tl_append, TL.tl_append, TL.tl_append, TL.tl_append, TL.tl_append, TL.tl_append, TL.tl_append, TL.tl_append, TL.tl_append, nG h, TL.join_eq, TL.tl_join]
  show _ ++ TL.joinL [] _ = _
  rw [nh, List.map_map]
  show TL.tl (d7 g) ++ [43] ++ TL.tl (d7 s) ++ [58] ++ _ = ([] ++ TL.tl (d7 g)) ++ [43] ++ TL.tl (d7 s) ++ [58] ++ _
  rw [List.nil_append]
  congr 1
  rw [List.flatMap_def]
  refine congrArg List.flatten (List.map_congr_left fun o ho => ?_)
  cases o with
  | none => rfl
  | some i =>
    show TL.tl ((" " : Str) ++ d7 i) = 32 :: TL.numL i.toNat
    rw [TL.tl_append, jT (h i ho)]
    rfl
theorem rK {g s : Int} (hg : 0 ≤ g) (hs : 0 ≤ s) (st : Sd) : Txt.partition (gI g s st) ":" = (gn g s, (":" : Str), jg st) := by
  unfold gI
  refine TL.partition_app (s := 58) (S := []) rfl ?_
  rw [qz hg hs]
  intro hm
  rcases List.mem_append.mp hm with hm | hm
  · exact TL.numL_free (n := g.toNat) (by omega) hm
  · rcases List.mem_cons.mp hm with e | hm
    · omega
    · exact TL.numL_free (n := s.toNat) (by omega) hm
theorem rL {g s : Int} (hg : 0 ≤ g) (hs : 0 ≤ s) : Txt.partition (gn g s) "+" = (d7 g, ("+" : Str), d7 s) := by
  have e : gn g s = d7 g ++ ("+" : Str) ++ d7 s := by
    refine TL.ext_tl ?_
    unfold gn
    rw [TL.tl_append, TL.tl_append, TL.tl_append, TL.tl_append, TL.tl_append]
    rfl
  rw [e]
  refine TL.partition_app (s := 43) (S := []) rfl ?_
  rw [jT hg]
  exact TL.numL_free (by omega)
theorem pO {st : Sd} (h : ∀ i, some i ∈ st → 0 ≤ i) : Txt.split (jg st) " " = Str.empty :: st.map dH := by
  unfold jg
  refine TL.split_join (s := 32) (S := []) rfl (by decide +kernel) (by simp) fun p hp => ?_
  rcases List.mem_cons.mp hp with e | hp
  · subst e; exact fun hm => nomatch hm
  · obtain ⟨o, ho, e⟩ := List.mem_map.mp hp
    subst e
    rw [qy fun i e => h i (e ▸ ho)]
    exact rW (by omega) o
theorem mX : ∀ n : Fin 64, ((d7 (n.val : Int)) == ("" : Str)) = false ∧ (TL.tl (d7 (n.val : Int))).all (fun c => decide (c ∈ ("0123456789" : Str).cps.toList)) = true ∧ (d7 (n.val : Int)).length ≤ 2 ∧ (match TL.tl (d7 (n.val : Int)) with | [] => false | c :: _ => (!((⟨#[c]⟩ : Str) == ("0" : Str))) || (d7 (n.val : Int) == ("0" : Str))) = true ∧ (d7 (n.val : Int) == ("-" : Str)) = false := by decide +kernel
theorem ul {n : Int} (h : 0 ≤ n ∧ n < 64) : PySem.intText? (d7 n) = some n := by
  have l : (TL.numL n.toNat).length ≤ 2 := TL.numL_len (by decide) (by omega)
  have := TL.int_num (n := n.toNat) (by omega)
  rw [Int.toNat_of_nonneg h.1] at this
  exact this
end
section
theorem ik {n : Int} (h : 0 ≤ n ∧ n < 64) : (n.natAbs.log2 < 1920) = True := eq_true (by
  have a : n.natAbs < 2 ^ 30 := by omega
  by_cases z : n.natAbs = 0
  · rw [z]; decide
  · have := (Nat.log2_lt z).mpr a; omega)
theorem iA {i : Int} (h : 0 ≤ i ∧ i < 64) : (d7 i).length ≤ 2 := by
  have := (mX ⟨i.toNat, by omega⟩).2.2.1
  have e : ((i.toNat : Nat) : Int) = i := by omega
  simp only [e] at this
  exact this
theorem _root_.MW.Stand.lo {g s : Int} {st : Sd} (S : Stand g s st) : ∀ i, some i ∈ st → 0 ≤ i := fun i h => (S.bd i h).1
theorem _root_.MW.Stand.hi {g s : Int} {st : Sd} (S : Stand g s st) : ∀ i, some i ∈ st → i < 64 := fun i h => by
  have := (S.bd i h).2
  have hg := S.hg
  have hs := S.hs
  omega
theorem ui {g s : Int} {st : Sd} (S : Stand g s st) {o : Option Int} (h : o ∈ st) : (dH o).length ≤ 2 := by
  cases o with
  | none => exact (by decide +kernel : ("-" : Str).length ≤ 2)
  | some i => exact iA ⟨S.lo i h, S.hi i h⟩
theorem len_app (a b : Str) : (a ++ b).length = a.length + b.length := by
  rw [TL.len_tl, TL.tl_append, List.length_append, ← TL.len_tl, ← TL.len_tl]
theorem nj (y : List Nat) : ∀ ws : List (List Nat), (TL.joinL y ws).length ≤ (ws.map List.length).sum + ws.length * y.length
  | [] => Nat.zero_le _
  | [w] => by show w.length ≤ [w.length].sum + _; simp
  | w :: v :: ws => by
    have ih := nj y (v :: ws)
    show (w ++ (y ++ TL.joinL y (v :: ws))).length ≤ _
    rw [List.length_append, List.length_append]
    rw [List.map_cons, List.sum_cons, List.length_cons, Nat.add_mul]
    omega
theorem mf (y : Str) (ps : List Str) : (Txt.join y ps).length ≤ (ps.map (·.length)).sum + ps.length * y.length := by
  rw [TL.len_tl, TL.join_eq, TL.tl_join]
  have := nj (TL.tl y) (ps.map TL.tl)
  rw [List.map_map, List.length_map] at this
  rw [TL.len_tl y]
  have e : (List.length ∘ TL.tl) = fun p : Str => p.length := by funext p; exact (TL.len_tl p).symm
  rw [e] at this
  exact this
theorem sum_le {k : Nat} : ∀ l : List Nat, (∀ x ∈ l, x ≤ k) → l.sum ≤ l.length * k
  | [], _ => by simp
  | x :: l, h => by
    have := sum_le l fun y hy => h y (List.mem_cons_of_mem _ hy)
    have := h x List.mem_cons_self
    rw [List.sum_cons, List.length_cons, Nat.add_mul]
    omega
theorem mi {g s : Int} (hg : 0 ≤ g ∧ g < 64) (hs : 0 ≤ s ∧ s < 64) : (gn g s).length ≤ 5 := by
  unfold gn
  have a : ((toString g : String) : Str).length ≤ 2 := iA hg
  have b : ((toString s : String) : Str).length ≤ 2 := iA hs
  rw [len_app, len_app, len_app, show ("+" : Str).length = 1 by decide +kernel, show Str.empty.length = 0 by decide +kernel]
  omega
theorem ly (l : List Str) : strsOf (l.map D.str) = some l := by
  induction l with
  | nil => rfl
  | cons a l ih => show (strsOf (l.map D.str)).map (a :: ·) = _; rw [ih]; rfl
section
variable (C : Addr) {g s : Int} {st : Sd} (S : Stand g s st)
include S
theorem qO (y : Str) : ((st.map dH).map (·.length)).sum ≤ 48 ∧ (st.map dH).length ≤ 24 := by
  have hg := S.hg
  have hl := S.len
  have h1 : (st.map dH).length ≤ 24 := by rw [List.length_map]; omega
  refine ⟨?_, h1⟩
  have := sum_le (k := 2) ((st.map dH).map (·.length)) fun x hx => by
    obtain ⟨w, hw, e⟩ := List.mem_map.mp hx
    obtain ⟨o, ho, e2⟩ := List.mem_map.mp hw
    subst e
    subst e2
    exact ui S ho
  rw [List.length_map] at this
  omega
theorem xO (Q E) : ja C [.im (.hall g s)] Q E = Q (.d (.str (gn g s))) [.im (.hall g s)] := by
  have hg := S.hg
  have hs := S.hs
  have z := mi (g := g) (s := s) (by omega) (by omega)
  unfold gn at z
  rw [len_app, len_app] at z
  have y1 : ((Str.empty ++ ((toString g : String) : Str)).length ≤ sizeLine) = True := eq_true (by rw [sizeLine_eq]; omega)
  have y2 : (((Str.empty ++ ((toString g : String) : Str)) ++ ("+" : Str)).length ≤ sizeLine) = True := eq_true (by rw [sizeLine_eq, len_app]; omega)
  have y3 : ((((Str.empty ++ (toString g : String)) ++ ("+" : Str)) ++ ((toString s : String) : Str)).length ≤ sizeLine) = True := eq_true (by rw [sizeLine_eq, len_app, len_app]; omega)
  have l1 := ik (n := g) (by omega)
  have l2 := ik (n := s) (by omega)
  simp only [↓ja, ↓lY, ↓joinM, ↓vW, ↓bN, l1, l2, y1, y2, y3, gn, ↓aL, ↓aP, ↓aM, ↓aE, ↓aS, ↓ai, ↓getO, ↓putO, ↓setI, ↓setO, ac, aa, List.set_cons_zero, List.set_cons_succ, ↓bc, ↓dq, ↓aN, ↓dY, ↓cV, ↓eG, ↓notB, ↓dh, ↓dw, ↓dP, ↓cA, ↓fG, ↓ak, ↓ao, ↓aZ, ↓cI, ↓lstM, ↓bK, ↓cF, ↓bj, ↓du, ↓callN, ↓callA, ↓cN, ↓split1, ↓callD, ↓call1, ↓callK, ↓cO, ↓putS, ↓cG, ↓cz, ↓dX, ↓eY, ↓cB, ↓cE, D.kind, CT.is, ↓fh, ↓fB, ↓fD, ↓fF, ↓cy, ↓cW, ↓cK, ↓cJ, ↓bM, ↓di, ↓aH, ↓aC, ↓cS, ↓dc, ↓dB, ↓DL.intD, ↓bU, ↓bT, ↓dz, ↓de, ↓e6, ↓e9, ↓aJ, ↓cR, ↓olist, ↓fE, ↓fC, ↓bF, ↓bR, ↓bC, ↓ck, ↓cj, ↓dj, ↓oset, ↓fH, ↓bS, ↓bJ, ↓cY, ↓dy, ↓cM, ↓bB, ↓bf, ↓aI, ↓bh, ↓cL, ↓bu, ↓dC, ↓vD, ↓vO, ↓oins, ↓fJ, ↓bL, bx, ↓bA, aK, ↓fc, ↓DL.cU, ↓cX, ↓bv, ↓bD, ↓bV, ↓bz, ↓fj, Option.map, List.map_cons, List.map_nil, List.cons_append, List.nil_append, List.length_cons, List.length_nil, List.replicate, Nat.reduceAdd, Nat.reduceSub, Nat.sub_self, Bool.not_true, Bool.not_false, ↓if_true, ↓if_false, ↓ite_true, ↓ite_false, true_and, and_true, Bool.true_eq_false, Bool.false_eq_true, reduceIte, aD, cg, b9, b8, bZ, bY, bX, ↓aW, ↓aU, ↓aV, ↓aT, ↓aR, ↓aQ, aO, cZ, ↓au, ↓ay, ↓az, ↓aj, fA, fy, fx, fw, fv, fu, ft, fo, fk, forall_const, fS, fR, fQ, fP, fO, fN, fM, fL, fK, aX, ↓aF, ↓aA, ↓aw, List.filterMap_cons, List.filterMap_nil, ↓bH, ↓cP, b7, bQ, bW, bO, dD, ↓strR, ↓joinM, ↓bN, ↓aB, ↓bP, List.nodup_cons, List.nodup_nil, List.not_mem_nil, not_false_eq_true, ↓am]
theorem xy (Q E) : gR C [.im (.hall g s), .im (eE st), .no, .no] Q E = Q (.lst ((st.map dH).map .str)) [.im (.hall g s), .im (eE st), .no, .no] := by
  have hg := S.hg
  have hl := S.len
  unfold gR
  refine (gr (env := [.im (.hall g s), .im (eE st), .no, .no]) st oD (fun _ => true) (fun o => .str (dH o)) (fun Q E => by rfl) (by omega) rfl (fun o ho => ⟨[.im (.hall g s), .im (eE st), .no, .im (oD o)], rfl, fun Q E => rfl, fun Q E => rfl, fun _ Q E => ?_⟩) Q E).trans ?_
  · generalize eE st = sd
    cases o with
    | none => simp only [oD, dH, ↓aL, ↓aP, ↓aM, ↓aE, ↓aS, ↓ai, ↓getO, ↓putO, ↓setI, ↓setO, ac, aa, List.set_cons_zero, List.set_cons_succ, ↓bc, ↓dq, ↓aN, ↓dY, ↓cV, ↓eG, ↓notB, ↓dh, ↓dw, ↓dP, ↓cA, ↓fG, ↓ak, ↓ao, ↓aZ, ↓cI, ↓lstM, ↓bK, ↓cF, ↓bj, ↓du, ↓callN, ↓callA, ↓cN, ↓split1, ↓callD, ↓call1, ↓callK, ↓cO, ↓putS, ↓cG, ↓cz, ↓dX, ↓eY, ↓cB, ↓cE, D.kind, CT.is, ↓fh, ↓fB, ↓fD, ↓fF, ↓cy, ↓cW, ↓cK, ↓cJ, ↓bM, ↓di, ↓aH, ↓aC, ↓cS, ↓dc, ↓dB, ↓DL.intD, ↓bU, ↓bT, ↓dz, ↓de, ↓e6, ↓e9, ↓aJ, ↓cR, ↓olist, ↓fE, ↓fC, ↓bF, ↓bR, ↓bC, ↓ck, ↓cj, ↓dj, ↓oset, ↓fH, ↓bS, ↓bJ, ↓cY, ↓dy, ↓cM, ↓bB, ↓bf, ↓aI, ↓bh, ↓cL, ↓bu, ↓dC, ↓vD, ↓vO, ↓oins, ↓fJ, ↓bL, bx, ↓bA, aK, ↓fc, ↓DL.cU, ↓cX, ↓bv, ↓bD, ↓bV, ↓bz, ↓fj, Option.map, List.map_cons, List.map_nil, List.cons_append, List.nil_append, List.length_cons, List.length_nil, List.replicate, Nat.reduceAdd, Nat.reduceSub, Nat.sub_self, Bool.not_true, Bool.not_false, ↓if_true, ↓if_false, ↓ite_true, ↓ite_false, true_and, and_true, Bool.true_eq_false, Bool.false_eq_true, reduceIte, aD, cg, b9, b8, bZ, bY, bX, ↓aW, ↓aU, ↓aV, ↓aT, ↓aR, ↓aQ, aO, cZ, ↓au, ↓ay, ↓az, ↓aj, fA, fy, fx, fw, fv, fu, ft, fo, fk, forall_const, fS, fR, fQ, fP, fO, fN, fM, fL, fK, aX, ↓aF, ↓aA, ↓aw, List.filterMap_cons, List.filterMap_nil, ↓bH, ↓cP, b7, bQ, bW, bO, dD, ↓strR, ↓joinM, ↓bN, ↓aB, ↓bP, List.nodup_cons, List.nodup_nil, List.not_mem_nil, not_false_eq_true, ↓am]
    | some i =>
      have l := ik (n := i) ⟨S.lo i ho, S.hi i ho⟩
      simp only [oD, dH, d7, ↓oA, l, ↓aL, ↓aP, ↓aM, ↓aE, ↓aS, ↓ai, ↓getO, ↓putO, ↓setI, ↓setO, ac, aa, List.set_cons_zero, List.set_cons_succ, ↓bc, ↓dq, ↓aN, ↓dY, ↓cV, ↓eG, ↓notB, ↓dh, ↓dw, ↓dP, ↓cA, ↓fG, ↓ak, ↓ao, ↓aZ, ↓cI, ↓lstM, ↓bK, ↓cF, ↓bj, ↓du, ↓callN, ↓callA, ↓cN, ↓split1, ↓callD, ↓call1, ↓callK, ↓cO, ↓putS, ↓cG, ↓cz, ↓dX, ↓eY, ↓cB, ↓cE, D.kind, CT.is, ↓fh, ↓fB, ↓fD, ↓fF, ↓cy, ↓cW, ↓cK, ↓cJ, ↓bM, ↓di, ↓aH, ↓aC, ↓cS, ↓dc, ↓dB, ↓DL.intD, ↓bU, ↓bT, ↓dz, ↓de, ↓e6, ↓e9, ↓aJ, ↓cR, ↓olist, ↓fE, ↓fC, ↓bF, ↓bR, ↓bC, ↓ck, ↓cj, ↓dj, ↓oset, ↓fH, ↓bS, ↓bJ, ↓cY, ↓dy, ↓cM, ↓bB, ↓bf, ↓aI, ↓bh, ↓cL, ↓bu, ↓dC, ↓vD, ↓vO, ↓oins, ↓fJ, ↓bL, bx, ↓bA, aK, ↓fc, ↓DL.cU, ↓cX, ↓bv, ↓bD, ↓bV, ↓bz, ↓fj, Option.map, List.map_cons, List.map_nil, List.cons_append, List.nil_append, List.length_cons, List.length_nil, List.replicate, Nat.reduceAdd, Nat.reduceSub, Nat.sub_self, Bool.not_true, Bool.not_false, ↓if_true, ↓if_false, ↓ite_true, ↓ite_false, true_and, and_true, Bool.true_eq_false, Bool.false_eq_true, reduceIte, aD, cg, b9, b8, bZ, bY, bX, ↓aW, ↓aU, ↓aV, ↓aT, ↓aR, ↓aQ, aO, cZ, ↓au, ↓ay, ↓az, ↓aj, fA, fy, fx, fw, fv, fu, ft, fo, fk, forall_const, fS, fR, fQ, fP, fO, fN, fM, fL, fK, aX, ↓aF, ↓aA, ↓aw, List.filterMap_cons, List.filterMap_nil, ↓bH, ↓cP, b7, bQ, bW, bO, dD, ↓strR, ↓joinM, ↓bN, ↓aB, ↓bP, List.nodup_cons, List.nodup_nil, List.not_mem_nil, not_false_eq_true, ↓am]
  · rw [List.filter_eq_self.mpr fun _ _ => rfl, List.map_map]; rfl
theorem xH (Q E) : eU C [.im (.hall g s), .im (eE st)] Q E = Q (.d (.str (gI g s st))) [.im (.hall g s), .im (eE st)] := by
  have hg := S.hg
  have hs := S.hs
  have hl := S.len
  have ho := ky C g s
  have se := oQ C g s st S
  have q := xy C S
  have st_ := xO C S
  have z := mi (g := g) (s := s) (by omega) (by omega)
  obtain ⟨z1, z2⟩ := qO S ""
  have z3 := mf " " (st.map dH)
  have ls : (" " : Str).length = 1 := by decide +kernel
  have lc : (": " : Str).length = 2 := by decide +kernel
  have le : Str.empty.length = 0 := by decide +kernel
  rw [ls] at z3
  have so := ly (st.map dH)
  have y1 : ((Str.empty ++ gn g s).length ≤ sizeLine) = True := eq_true (by rw [sizeLine_eq, len_app, le]; omega)
  have y2 : (((Str.empty ++ gn g s) ++ (": " : Str)).length ≤ sizeLine) = True := eq_true (by rw [sizeLine_eq, len_app, len_app, le, lc]; omega)
  have y3 : (((st.map dH).map (·.length)).sum + (st.map dH).length * (" " : Str).length ≤ 16777216) = True := eq_true (by rw [ls]; omega)
  have y4 : (((Str.empty ++ gn g s) ++ (": " : Str)).length + (Txt.join " " (st.map dH)).length ≤ sizeLine) = True := eq_true (by rw [sizeLine_eq, len_app, len_app, le, lc]; omega)
  have ne : st ≠ [] := fun e => by rw [e] at hl; simp at hl; omega
  have tx := rC (g := g) (s := s) S.lo ne
  generalize hW : st.map dH = ws at *
  generalize ws.map D.str = wd at *
  generalize eE st = sd at *
  simp only [↓eU, ↓jb, ↓ho, ↓se, ↓q, ↓st_, ↓joinM, ↓bN, ↓strR, ↓mm, ↓uk, so, y1, y2, y3, y4, tx, ↓aL, ↓aP, ↓aM, ↓aE, ↓aS, ↓ai, ↓getO, ↓putO, ↓setI, ↓setO, ac, aa, List.set_cons_zero, List.set_cons_succ, ↓bc, ↓dq, ↓aN, ↓dY, ↓cV, ↓eG, ↓notB, ↓dh, ↓dw, ↓dP, ↓cA, ↓fG, ↓ak, ↓ao, ↓aZ, ↓cI, ↓lstM, ↓bK, ↓cF, ↓bj, ↓du, ↓callN, ↓callA, ↓cN, ↓split1, ↓callD, ↓call1, ↓callK, ↓cO, ↓putS, ↓cG, ↓cz, ↓dX, ↓eY, ↓cB, ↓cE, D.kind, CT.is, ↓fh, ↓fB, ↓fD, ↓fF, ↓cy, ↓cW, ↓cK, ↓cJ, ↓bM, ↓di, ↓aH, ↓aC, ↓cS, ↓dc, ↓dB, ↓DL.intD, ↓bU, ↓bT, ↓dz, ↓de, ↓e6, ↓e9, ↓aJ, ↓cR, ↓olist, ↓fE, ↓fC, ↓bF, ↓bR, ↓bC, ↓ck, ↓cj, ↓dj, ↓oset, ↓fH, ↓bS, ↓bJ, ↓cY, ↓dy, ↓cM, ↓bB, ↓bf, ↓aI, ↓bh, ↓cL, ↓bu, ↓dC, ↓vD, ↓vO, ↓oins, ↓fJ, ↓bL, bx, ↓bA, aK, ↓fc, ↓DL.cU, ↓cX, ↓bv, ↓bD, ↓bV, ↓bz, ↓fj, Option.map, List.map_cons, List.map_nil, List.cons_append, List.nil_append, List.length_cons, List.length_nil, List.replicate, Nat.reduceAdd, Nat.reduceSub, Nat.sub_self, Bool.not_true, Bool.not_false, ↓if_true, ↓if_false, ↓ite_true, ↓ite_false, true_and, and_true, Bool.true_eq_false, Bool.false_eq_true, reduceIte, aD, cg, b9, b8, bZ, bY, bX, ↓aW, ↓aU, ↓aV, ↓aT, ↓aR, ↓aQ, aO, cZ, ↓au, ↓ay, ↓az, ↓aj, fA, fy, fx, fw, fv, fu, ft, fo, fk, forall_const, fS, fR, fQ, fP, fO, fN, fM, fL, fK, aX, ↓aF, ↓aA, ↓aw, List.filterMap_cons, List.filterMap_nil, ↓bH, ↓cP, b7, bQ, bW, bO, dD, ↓strR, ↓joinM, ↓bN, ↓aB, ↓bP, List.nodup_cons, List.nodup_nil, List.not_mem_nil, not_false_eq_true, ↓am]
end
end
section
def kD : Option Int → Str
  | none => (" -" : Str)
  | some i => (" " : Str) ++ d7 i
theorem pK (n : Nat) (env : List DL.Slot) (Q E) : ou (.lst (List.replicate n (.bl true))) env Q E = Q (.bl true) env := by
  unfold ou
  have e : boolsOf (List.replicate n (D.bl true)) = some (List.replicate n true) := by
    induction n with
    | zero => rfl
    | succ n ih => rw [List.replicate_succ, List.replicate_succ]; show (boolsOf (List.replicate n (D.bl true))).map (true :: ·) = _; rw [ih]; rfl
  simp only [e]
  show Q (.bl ((List.replicate n true).all id)) env = _
  rw [show (List.replicate n true).all id = true by simp]
section
variable (C : Addr) {g s : Int} {st : Sd} (S : Stand g s st)
include S
theorem u9 (Q E) : kI C [.im (.int g), .im (.int s), .im (eE st), .no] Q E = Q (.lst ((st.map kD).map .str)) [.im (.int g), .im (.int s), .im (eE st), .no] := by
  have hg := S.hg
  have hl := S.len
  unfold kI
  refine (gr (env := [.im (.int g), .im (.int s), .im (eE st), .no]) st oD (fun _ => true) (fun o => .str (kD o)) (fun Q E => by rfl) (by omega) rfl (fun o ho => ⟨[.im (.int g), .im (.int s), .im (eE st), .im (oD o)], rfl, fun Q E => rfl, fun Q E => rfl, fun _ Q E => ?_⟩) Q E).trans ?_
  · generalize eE st = sd
    cases o with
    | none => simp only [oD, kD, ↓aL, ↓aP, ↓aM, ↓aE, ↓aS, ↓ai, ↓getO, ↓putO, ↓setI, ↓setO, ac, aa, List.set_cons_zero, List.set_cons_succ, ↓bc, ↓dq, ↓aN, ↓dY, ↓cV, ↓eG, ↓notB, ↓dh, ↓dw, ↓dP, ↓cA, ↓fG, ↓ak, ↓ao, ↓aZ, ↓cI, ↓lstM, ↓bK, ↓cF, ↓bj, ↓du, ↓callN, ↓callA, ↓cN, ↓split1, ↓callD, ↓call1, ↓callK, ↓cO, ↓putS, ↓cG, ↓cz, ↓dX, ↓eY, ↓cB, ↓cE, D.kind, CT.is, ↓fh, ↓fB, ↓fD, ↓fF, ↓cy, ↓cW, ↓cK, ↓cJ, ↓bM, ↓di, ↓aH, ↓aC, ↓cS, ↓dc, ↓dB, ↓DL.intD, ↓bU, ↓bT, ↓dz, ↓de, ↓e6, ↓e9, ↓aJ, ↓cR, ↓olist, ↓fE, ↓fC, ↓bF, ↓bR, ↓bC, ↓ck, ↓cj, ↓dj, ↓oset, ↓fH, ↓bS, ↓bJ, ↓cY, ↓dy, ↓cM, ↓bB, ↓bf, ↓aI, ↓bh, ↓cL, ↓bu, ↓dC, ↓vD, ↓vO, ↓oins, ↓fJ, ↓bL, bx, ↓bA, aK, ↓fc, ↓DL.cU, ↓cX, ↓bv, ↓bD, ↓bV, ↓bz, ↓fj, Option.map, List.map_cons, List.map_nil, List.cons_append, List.nil_append, List.length_cons, List.length_nil, List.replicate, Nat.reduceAdd, Nat.reduceSub, Nat.sub_self, Bool.not_true, Bool.not_false, ↓if_true, ↓if_false, ↓ite_true, ↓ite_false, true_and, and_true, Bool.true_eq_false, Bool.false_eq_true, reduceIte, aD, cg, b9, b8, bZ, bY, bX, ↓aW, ↓aU, ↓aV, ↓aT, ↓aR, ↓aQ, aO, cZ, ↓au, ↓ay, ↓az, ↓aj, fA, fy, fx, fw, fv, fu, ft, fo, fk, forall_const, fS, fR, fQ, fP, fO, fN, fM, fL, fK, aX, ↓aF, ↓aA, ↓aw, List.filterMap_cons, List.filterMap_nil, ↓bH, ↓cP, b7, bQ, bW, bO, dD, ↓strR, ↓joinM, ↓bN, ↓aB, ↓bP, List.nodup_cons, List.nodup_nil, List.not_mem_nil, not_false_eq_true, ↓am]
    | some i =>
      have l := ik (n := i) ⟨S.lo i ho, S.hi i ho⟩
      have ln := iA (i := i) ⟨S.lo i ho, S.hi i ho⟩
      have y : ((" " : Str).length + (d7 i).length ≤ sizeLine) = True := eq_true (by rw [sizeLine_eq, show (" " : Str).length = 1 by decide +kernel]; omega)
      unfold d7 at y
      simp only [oD, kD, d7, ↓oA, l, y, ↓aL, ↓aP, ↓aM, ↓aE, ↓aS, ↓ai, ↓getO, ↓putO, ↓setI, ↓setO, ac, aa, List.set_cons_zero, List.set_cons_succ, ↓bc, ↓dq, ↓aN, ↓dY, ↓cV, ↓eG, ↓notB, ↓dh, ↓dw, ↓dP, ↓cA, ↓fG, ↓ak, ↓ao, ↓aZ, ↓cI, ↓lstM, ↓bK, ↓cF, ↓bj, ↓du, ↓callN, ↓callA, ↓cN, ↓split1, ↓callD, ↓call1, ↓callK, ↓cO, ↓putS, ↓cG, ↓cz, ↓dX, ↓eY, ↓cB, ↓cE, D.kind, CT.is, ↓fh, ↓fB, ↓fD, ↓fF, ↓cy, ↓cW, ↓cK, ↓cJ, ↓bM, ↓di, ↓aH, ↓aC, ↓cS, ↓dc, ↓dB, ↓DL.intD, ↓bU, ↓bT, ↓dz, ↓de, ↓e6, ↓e9, ↓aJ, ↓cR, ↓olist, ↓fE, ↓fC, ↓bF, ↓bR, ↓bC, ↓ck, ↓cj, ↓dj, ↓oset, ↓fH, ↓bS, ↓bJ, ↓cY, ↓dy, ↓cM, ↓bB, ↓bf, ↓aI, ↓bh, ↓cL, ↓bu, ↓dC, ↓vD, ↓vO, ↓oins, ↓fJ, ↓bL, bx, ↓bA, aK, ↓fc, ↓DL.cU, ↓cX, ↓bv, ↓bD, ↓bV, ↓bz, ↓fj, Option.map, List.map_cons, List.map_nil, List.cons_append, List.nil_append, List.length_cons, List.length_nil, List.replicate, Nat.reduceAdd, Nat.reduceSub, Nat.sub_self, Bool.not_true, Bool.not_false, ↓if_true, ↓if_false, ↓ite_true, ↓ite_false, true_and, and_true, Bool.true_eq_false, Bool.false_eq_true, reduceIte, aD, cg, b9, b8, bZ, bY, bX, ↓aW, ↓aU, ↓aV, ↓aT, ↓aR, ↓aQ, aO, cZ, ↓au, ↓ay, ↓az, ↓aj, fA, fy, fx, fw, fv, fu, ft, fo, fk, forall_const, fS, fR, fQ, fP, fO, fN, fM, fL, fK, aX, ↓aF, ↓aA, ↓aw, List.filterMap_cons, List.filterMap_nil, ↓bH, ↓cP, b7, bQ, bW, bO, dD, ↓strR, ↓joinM, ↓bN, ↓aB, ↓bP, List.nodup_cons, List.nodup_nil, List.not_mem_nil, not_false_eq_true, ↓am]
  · rw [List.filter_eq_self.mpr fun _ _ => rfl, List.map_map]; rfl
theorem vj (Q E) : lF C [.im (.int g), .im (.int s), .im (eE st)] Q E = Q (.d (.str (gI g s st))) [.im (.int g), .im (.int s), .im (eE st)] := by
  have hg := S.hg
  have hs := S.hs
  have hl := S.len
  have q := u9 C S
  have l1 := ik (n := g) (by omega)
  have l2 := ik (n := s) (by omega)
  have ng := iA (i := g) (by omega)
  have ns := iA (i := s) (by omega)
  have lw : (st.map kD).length ≤ 24 := by rw [List.length_map]; omega
  have z1 := sum_le (k := 3) ((st.map kD).map (·.length)) fun x hx => by
    obtain ⟨w, hw, e⟩ := List.mem_map.mp hx
    obtain ⟨o, ho, e2⟩ := List.mem_map.mp hw
    subst e
    subst e2
    cases o with
    | none => exact (by decide +kernel : (" -" : Str).length ≤ 3)
    | some i =>
      show ((" " : Str) ++ d7 i).length ≤ 3
      have := iA (i := i) ⟨S.lo i ho, S.hi i ho⟩
      rw [len_app, show (" " : Str).length = 1 by decide +kernel]
      omega
  rw [List.length_map] at z1
  have z3 := mf "" (st.map kD)
  have le : ("" : Str).length = 0 := by decide +kernel
  have lp : ("+" : Str).length = 1 := by decide +kernel
  have lc : (":" : Str).length = 1 := by decide +kernel
  rw [le] at z3
  have so := ly (st.map kD)
  have y1 : ((d7 g).length + ("+" : Str).length ≤ sizeLine) = True := eq_true (by rw [sizeLine_eq, lp]; omega)
  have y2 : ((d7 g ++ ("+" : Str)).length + (d7 s).length ≤ sizeLine) = True := eq_true (by rw [sizeLine_eq, len_app, lp]; omega)
  have y3 : (((d7 g ++ ("+" : Str)) ++ d7 s).length + (":" : Str).length ≤ sizeLine) = True := eq_true (by rw [sizeLine_eq, len_app, len_app, lp, lc]; omega)
  have y4 : (((st.map kD).map (·.length)).sum + (st.map kD).length * ("" : Str).length ≤ 16777216) = True := eq_true (by rw [le]; omega)
  have y5 : ((((d7 g ++ ("+" : Str)) ++ d7 s) ++ (":" : Str)).length + (Txt.join "" (st.map kD)).length ≤ sizeLine) = True := eq_true (by rw [sizeLine_eq, len_app, len_app, len_app, lp, lc]; omega)
  have tx := sR (g := g) (s := s) S.lo
  have tx : (((d7 g ++ ("+" : Str)) ++ d7 s) ++ (":" : Str)) ++ Txt.join "" (st.map kD) = gI g s st := by
    rw [← tx]
    congr 2
  generalize hW : st.map kD = ws at *
  generalize ws.map D.str = wd at *
  generalize eE st = sd at *
  unfold d7 at *
  simp only [↓lF, ↓qM, ↓oA, l1, l2, ↓q, ↓mm, ↓uk, so, y1, y2, y3, y4, y5, tx, ↓aL, ↓aP, ↓aM, ↓aE, ↓aS, ↓ai, ↓getO, ↓putO, ↓setI, ↓setO, ac, aa, List.set_cons_zero, List.set_cons_succ, ↓bc, ↓dq, ↓aN, ↓dY, ↓cV, ↓eG, ↓notB, ↓dh, ↓dw, ↓dP, ↓cA, ↓fG, ↓ak, ↓ao, ↓aZ, ↓cI, ↓lstM, ↓bK, ↓cF, ↓bj, ↓du, ↓callN, ↓callA, ↓cN, ↓split1, ↓callD, ↓call1, ↓callK, ↓cO, ↓putS, ↓cG, ↓cz, ↓dX, ↓eY, ↓cB, ↓cE, D.kind, CT.is, ↓fh, ↓fB, ↓fD, ↓fF, ↓cy, ↓cW, ↓cK, ↓cJ, ↓bM, ↓di, ↓aH, ↓aC, ↓cS, ↓dc, ↓dB, ↓DL.intD, ↓bU, ↓bT, ↓dz, ↓de, ↓e6, ↓e9, ↓aJ, ↓cR, ↓olist, ↓fE, ↓fC, ↓bF, ↓bR, ↓bC, ↓ck, ↓cj, ↓dj, ↓oset, ↓fH, ↓bS, ↓bJ, ↓cY, ↓dy, ↓cM, ↓bB, ↓bf, ↓aI, ↓bh, ↓cL, ↓bu, ↓dC, ↓vD, ↓vO, ↓oins, ↓fJ, ↓bL, bx, ↓bA, aK, ↓fc, ↓DL.cU, ↓cX, ↓bv, ↓bD, ↓bV, ↓bz, ↓fj, Option.map, List.map_cons, List.map_nil, List.cons_append, List.nil_append, List.length_cons, List.length_nil, List.replicate, Nat.reduceAdd, Nat.reduceSub, Nat.sub_self, Bool.not_true, Bool.not_false, ↓if_true, ↓if_false, ↓ite_true, ↓ite_false, true_and, and_true, Bool.true_eq_false, Bool.false_eq_true, reduceIte, aD, cg, b9, b8, bZ, bY, bX, ↓aW, ↓aU, ↓aV, ↓aT, ↓aR, ↓aQ, aO, cZ, ↓au, ↓ay, ↓az, ↓aj, fA, fy, fx, fw, fv, fu, ft, fo, fk, forall_const, fS, fR, fQ, fP, fO, fN, fM, fL, fK, aX, ↓aF, ↓aA, ↓aw, List.filterMap_cons, List.filterMap_nil, ↓bH, ↓cP, b7, bQ, bW, bO, dD, ↓strR, ↓joinM, ↓bN, ↓aB, ↓bP, List.nodup_cons, List.nodup_nil, List.not_mem_nil, not_false_eq_true, ↓am]
end
section
variable (C : Addr)
theorem qG {w : Str} (hz : (TL.tl w).length ≤ 100) (Q E) : iL C [.im (.str w), .no] Q E = Q (.lst ((TL.tl w).map fun c => .bl (decide (c ∈ ("0123456789" : Str).cps.toList)))) [.im (.str w), .no] := by
  unfold iL
  refine (gr (env := [.im (.str w), .no]) (TL.tl w) (fun c => .str ⟨#[c]⟩) (fun _ => true) (fun c => .bl (decide (c ∈ ("0123456789" : Str).cps.toList))) (fun Q E => by rfl) (by omega) rfl (fun c _ => ⟨[.im (.str w), .im (.str ⟨#[c]⟩)], rfl, fun Q E => rfl, fun Q E => rfl, fun _ Q E => ?_⟩) Q E).trans ?_
  · have sg : ∀ (env : List DL.Slot) Q E, xt (.str ⟨#[c]⟩) (.str "0123456789") env Q E = Q (.bl (decide (c ∈ ("0123456789" : Str).cps.toList))) env := fun env Q E => rfl
    generalize decide (c ∈ ("0123456789" : Str).cps.toList) = b at *
    simp only [↓sg, ↓aL, ↓aP, ↓aM, ↓aE, ↓aS, ↓ai, ↓getO, ↓putO, ↓setI, ↓setO, ac, aa, List.set_cons_zero, List.set_cons_succ, ↓bc, ↓dq, ↓aN, ↓dY, ↓cV, ↓eG, ↓notB, ↓dh, ↓dw, ↓dP, ↓cA, ↓fG, ↓ak, ↓ao, ↓aZ, ↓cI, ↓lstM, ↓bK, ↓cF, ↓bj, ↓du, ↓callN, ↓callA, ↓cN, ↓split1, ↓callD, ↓call1, ↓callK, ↓cO, ↓putS, ↓cG, ↓cz, ↓dX, ↓eY, ↓cB, ↓cE, D.kind, CT.is, ↓fh, ↓fB, ↓fD, ↓fF, ↓cy, ↓cW, ↓cK, ↓cJ, ↓bM, ↓di, ↓aH, ↓aC, ↓cS, ↓dc, ↓dB, ↓DL.intD, ↓bU, ↓bT, ↓dz, ↓de, ↓e6, ↓e9, ↓aJ, ↓cR, ↓olist, ↓fE, ↓fC, ↓bF, ↓bR, ↓bC, ↓ck, ↓cj, ↓dj, ↓oset, ↓fH, ↓bS, ↓bJ, ↓cY, ↓dy, ↓cM, ↓bB, ↓bf, ↓aI, ↓bh, ↓cL, ↓bu, ↓dC, ↓vD, ↓vO, ↓oins, ↓fJ, ↓bL, bx, ↓bA, aK, ↓fc, ↓DL.cU, ↓cX, ↓bv, ↓bD, ↓bV, ↓bz, ↓fj, Option.map, List.map_cons, List.map_nil, List.cons_append, List.nil_append, List.length_cons, List.length_nil, List.replicate, Nat.reduceAdd, Nat.reduceSub, Nat.sub_self, Bool.not_true, Bool.not_false, ↓if_true, ↓if_false, ↓ite_true, ↓ite_false, true_and, and_true, Bool.true_eq_false, Bool.false_eq_true, reduceIte, aD, cg, b9, b8, bZ, bY, bX, ↓aW, ↓aU, ↓aV, ↓aT, ↓aR, ↓aQ, aO, cZ, ↓au, ↓ay, ↓az, ↓aj, fA, fy, fx, fw, fv, fu, ft, fo, fk, forall_const, fS, fR, fQ, fP, fO, fN, fM, fL, fK, aX, ↓aF, ↓aA, ↓aw, List.filterMap_cons, List.filterMap_nil, ↓bH, ↓cP, b7, bQ, bW, bO, dD, ↓strR, ↓joinM, ↓bN, ↓aB, ↓bP, List.nodup_cons, List.nodup_nil, List.not_mem_nil, not_false_eq_true, ↓am]
  · rw [List.filter_eq_self.mpr fun _ _ => rfl]
theorem lU {i : Int} (h : 0 ≤ i ∧ i < 64) (Q E) : eI C [.im (.str (d7 i))] Q E = Q (.d (.int i)) [.im (.str (d7 i))] := by
  have f := mX ⟨i.toNat, by omega⟩
  have e : ((i.toNat : Nat) : Int) = i := by omega
  simp only [e] at f
  obtain ⟨f1, f2, f3, f4, f5⟩ := f
  have hz : (TL.tl (d7 i)).length ≤ 100 := by rw [← TL.len_tl]; omega
  have q := qG C hz
  have et : (TL.tl (d7 i)).map (fun c => D.bl (decide (c ∈ ("0123456789" : Str).cps.toList))) = List.replicate (TL.tl (d7 i)).length (.bl true) := by
    rw [List.eq_replicate_iff]
    refine ⟨by rw [List.length_map], fun b hb => ?_⟩
    obtain ⟨c, hc, eb⟩ := List.mem_map.mp hb
    rw [← eb, List.all_eq_true.mp f2 c hc]
  rw [et] at q
  have al := pK (TL.tl (d7 i)).length
  have it := ul h
  cases hw : TL.tl (d7 i) with
  | nil => rw [hw] at f4; cases f4
  | cons c r =>
    rw [hw] at f4
    have f4 : ((!((⟨#[c]⟩ : Str) == ("0" : Str))) || (d7 i == ("0" : Str))) = true := f4
    have ix : ∀ (env : List DL.Slot) Q E, jI (.str (d7 i)) (.int 0) env Q E = Q (.str ⟨#[c]⟩) env := fun env Q E => by
      show (match atI (d7 i).cps.toList 0 with | some c => DL.fV ((d7 i).length ≤ sizeLine) (DL.ret (D.str ⟨#[c]⟩)) | none => DL.fail) env Q E = _
      have : atI (d7 i).cps.toList 0 = some c := by
        rw [show (d7 i).cps.toList = c :: r from hw]
        unfold atI ixN
        rw [if_pos (by decide), if_pos (by rw [List.length_cons]; omega)]
        rfl
      rw [this]
      exact propext ⟨fun z => z.2, fun z => ⟨by rw [sizeLine_eq]; omega, z⟩⟩
    have is : ∀ (env : List DL.Slot) Q E, nk (.str (d7 i)) env Q E = Q (.int i) env := fun env Q E => by
      unfold nk
      simp only [it]
      exact propext ⟨fun z => z.2, fun z => ⟨by omega, z⟩⟩
    generalize List.replicate (TL.tl (d7 i)).length (D.bl true) = trs at *
    cases hc : ((⟨#[c]⟩ : Str) == ("0" : Str)) with
    | false => simp only [↓eI, ↓iH, f1, ↓q, ↓al, ↓ix, hc, ↓is, ↓aL, ↓aP, ↓aM, ↓aE, ↓aS, ↓ai, ↓getO, ↓putO, ↓setI, ↓setO, ac, aa, List.set_cons_zero, List.set_cons_succ, ↓bc, ↓dq, ↓aN, ↓dY, ↓cV, ↓eG, ↓notB, ↓dh, ↓dw, ↓dP, ↓cA, ↓fG, ↓ak, ↓ao, ↓aZ, ↓cI, ↓lstM, ↓bK, ↓cF, ↓bj, ↓du, ↓callN, ↓callA, ↓cN, ↓split1, ↓callD, ↓call1, ↓callK, ↓cO, ↓putS, ↓cG, ↓cz, ↓dX, ↓eY, ↓cB, ↓cE, D.kind, CT.is, ↓fh, ↓fB, ↓fD, ↓fF, ↓cy, ↓cW, ↓cK, ↓cJ, ↓bM, ↓di, ↓aH, ↓aC, ↓cS, ↓dc, ↓dB, ↓DL.intD, ↓bU, ↓bT, ↓dz, ↓de, ↓e6, ↓e9, ↓aJ, ↓cR, ↓olist, ↓fE, ↓fC, ↓bF, ↓bR, ↓bC, ↓ck, ↓cj, ↓dj, ↓oset, ↓fH, ↓bS, ↓bJ, ↓cY, ↓dy, ↓cM, ↓bB, ↓bf, ↓aI, ↓bh, ↓cL, ↓bu, ↓dC, ↓vD, ↓vO, ↓oins, ↓fJ, ↓bL, bx, ↓bA, aK, ↓fc, ↓DL.cU, ↓cX, ↓bv, ↓bD, ↓bV, ↓bz, ↓fj, Option.map, List.map_cons, List.map_nil, List.cons_append, List.nil_append, List.length_cons, List.length_nil, List.replicate, Nat.reduceAdd, Nat.reduceSub, Nat.sub_self, Bool.not_true, Bool.not_false, ↓if_true, ↓if_false, ↓ite_true, ↓ite_false, true_and, and_true, Bool.true_eq_false, Bool.false_eq_true, reduceIte, aD, cg, b9, b8, bZ, bY, bX, ↓aW, ↓aU, ↓aV, ↓aT, ↓aR, ↓aQ, aO, cZ, ↓au, ↓ay, ↓az, ↓aj, fA, fy, fx, fw, fv, fu, ft, fo, fk, forall_const, fS, fR, fQ, fP, fO, fN, fM, fL, fK, aX, ↓aF, ↓aA, ↓aw, List.filterMap_cons, List.filterMap_nil, ↓bH, ↓cP, b7, bQ, bW, bO, dD, ↓strR, ↓joinM, ↓bN, ↓aB, ↓bP, List.nodup_cons, List.nodup_nil, List.not_mem_nil, not_false_eq_true, ↓am]
    | true =>
      rw [hc] at f4
      have f4 : (d7 i == ("0" : Str)) = true := f4
      simp only [↓eI, ↓iH, f1, ↓q, ↓al, ↓ix, hc, f4, ↓is, Bool.not_true, ↓aL, ↓aP, ↓aM, ↓aE, ↓aS, ↓ai, ↓getO, ↓putO, ↓setI, ↓setO, ac, aa, List.set_cons_zero, List.set_cons_succ, ↓bc, ↓dq, ↓aN, ↓dY, ↓cV, ↓eG, ↓notB, ↓dh, ↓dw, ↓dP, ↓cA, ↓fG, ↓ak, ↓ao, ↓aZ, ↓cI, ↓lstM, ↓bK, ↓cF, ↓bj, ↓du, ↓callN, ↓callA, ↓cN, ↓split1, ↓callD, ↓call1, ↓callK, ↓cO, ↓putS, ↓cG, ↓cz, ↓dX, ↓eY, ↓cB, ↓cE, D.kind, CT.is, ↓fh, ↓fB, ↓fD, ↓fF, ↓cy, ↓cW, ↓cK, ↓cJ, ↓bM, ↓di, ↓aH, ↓aC, ↓cS, ↓dc, ↓dB, ↓DL.intD, ↓bU, ↓bT, ↓dz, ↓de, ↓e6, ↓e9, ↓aJ, ↓cR, ↓olist, ↓fE, ↓fC, ↓bF, ↓bR, ↓bC, ↓ck, ↓cj, ↓dj, ↓oset, ↓fH, ↓bS, ↓bJ, ↓cY, ↓dy, ↓cM, ↓bB, ↓bf, ↓aI, ↓bh, ↓cL, ↓bu, ↓dC, ↓vD, ↓vO, ↓oins, ↓fJ, ↓bL, bx, ↓bA, aK, ↓fc, ↓DL.cU, ↓cX, ↓bv, ↓bD, ↓bV, ↓bz, ↓fj, Option.map, List.map_cons, List.map_nil, List.cons_append, List.nil_append, List.length_cons, List.length_nil, List.replicate, Nat.reduceAdd, Nat.reduceSub, Nat.sub_self, Bool.not_true, Bool.not_false, ↓if_true, ↓if_false, ↓ite_true, ↓ite_false, true_and, and_true, Bool.true_eq_false, Bool.false_eq_true, reduceIte, aD, cg, b9, b8, bZ, bY, bX, ↓aW, ↓aU, ↓aV, ↓aT, ↓aR, ↓aQ, aO, cZ, ↓au, ↓ay, ↓az, ↓aj, fA, fy, fx, fw, fv, fu, ft, fo, fk, forall_const, fS, fR, fQ, fP, fO, fN, fM, fL, fK, aX, ↓aF, ↓aA, ↓aw, List.filterMap_cons, List.filterMap_nil, ↓bH, ↓cP, b7, bQ, bW, bO, dD, ↓strR, ↓joinM, ↓bN, ↓aB, ↓bP, List.nodup_cons, List.nodup_nil, List.not_mem_nil, not_false_eq_true, ↓am]
theorem xQ (Q E) : eI C [.im (.str "-")] Q E = Q (.d .non) [.im (.str "-")] := by
  have q := qG C (w := "-") (by decide +kernel)
  have et : (TL.tl ("-" : Str)).map (fun c => D.bl (decide (c ∈ ("0123456789" : Str).cps.toList))) = [.bl false] := by
    have : TL.tl ("-" : Str) = [45] := by decide +kernel
    rw [this]
    show [D.bl (decide (45 ∈ ("0123456789" : Str).cps.toList))] = _
    rw [show decide (45 ∈ ("0123456789" : Str).cps.toList) = false by decide +kernel]
  rw [et] at q
  have e1 : (("-" : Str) == ("" : Str)) = false := by decide +kernel
  have al : ∀ (env : List DL.Slot) Q E, ou (.lst [.bl false]) env Q E = Q (.bl false) env := fun env Q E => rfl
  simp only [↓eI, ↓iH, e1, ↓q, ↓al, Bool.not_false, ↓aL, ↓aP, ↓aM, ↓aE, ↓aS, ↓ai, ↓getO, ↓putO, ↓setI, ↓setO, ac, aa, List.set_cons_zero, List.set_cons_succ, ↓bc, ↓dq, ↓aN, ↓dY, ↓cV, ↓eG, ↓notB, ↓dh, ↓dw, ↓dP, ↓cA, ↓fG, ↓ak, ↓ao, ↓aZ, ↓cI, ↓lstM, ↓bK, ↓cF, ↓bj, ↓du, ↓callN, ↓callA, ↓cN, ↓split1, ↓callD, ↓call1, ↓callK, ↓cO, ↓putS, ↓cG, ↓cz, ↓dX, ↓eY, ↓cB, ↓cE, D.kind, CT.is, ↓fh, ↓fB, ↓fD, ↓fF, ↓cy, ↓cW, ↓cK, ↓cJ, ↓bM, ↓di, ↓aH, ↓aC, ↓cS, ↓dc, ↓dB, ↓DL.intD, ↓bU, ↓bT, ↓dz, ↓de, ↓e6, ↓e9, ↓aJ, ↓cR, ↓olist, ↓fE, ↓fC, ↓bF, ↓bR, ↓bC, ↓ck, ↓cj, ↓dj, ↓oset, ↓fH, ↓bS, ↓bJ, ↓cY, ↓dy, ↓cM, ↓bB, ↓bf, ↓aI, ↓bh, ↓cL, ↓bu, ↓dC, ↓vD, ↓vO, ↓oins, ↓fJ, ↓bL, bx, ↓bA, aK, ↓fc, ↓DL.cU, ↓cX, ↓bv, ↓bD, ↓bV, ↓bz, ↓fj, Option.map, List.map_cons, List.map_nil, List.cons_append, List.nil_append, List.length_cons, List.length_nil, List.replicate, Nat.reduceAdd, Nat.reduceSub, Nat.sub_self, Bool.not_true, Bool.not_false, ↓if_true, ↓if_false, ↓ite_true, ↓ite_false, true_and, and_true, Bool.true_eq_false, Bool.false_eq_true, reduceIte, aD, cg, b9, b8, bZ, bY, bX, ↓aW, ↓aU, ↓aV, ↓aT, ↓aR, ↓aQ, aO, cZ, ↓au, ↓ay, ↓az, ↓aj, fA, fy, fx, fw, fv, fu, ft, fo, fk, forall_const, fS, fR, fQ, fP, fO, fN, fM, fL, fK, aX, ↓aF, ↓aA, ↓aw, List.filterMap_cons, List.filterMap_nil, ↓bH, ↓cP, b7, bQ, bW, bO, dD, ↓strR, ↓joinM, ↓bN, ↓aB, ↓bP, List.nodup_cons, List.nodup_nil, List.not_mem_nil, not_false_eq_true, ↓am]
theorem xF {o : Option Int} (h : ∀ i, o = some i → 0 ≤ i ∧ i < 64) (Q E) : eI C [.im (.str (dH o))] Q E = Q (.d (oD o)) [.im (.str (dH o))] := by
  cases o with
  | none => exact xQ C Q E
  | some i => exact lU C (h i rfl) Q E
end
end
section
section
variable (C : Addr) {g s : Int} {st : Sd} (S : Stand g s st)
theorem oz {α : Type} (f h : α → D) : ∀ l : List α, paired (l.map f) (l.map h) = l.map fun x => .pr [f x, h x]
  | [] => rfl
  | x :: l => by
    have ih := oz f h l
    unfold paired at ih ⊢
    rw [List.map_cons, List.map_cons, List.zip_cons_cons, List.map_cons, ih, List.map_cons]
include S
theorem qI (Q E) : gB C [.im (.hall g s), .im (eE st)] Q E = Q (.d (.bl true)) [.im (.hall g s), .im (eE st)] := by
  have ho := ky C g s
  have po := kO C g s st S
  have eq : ∀ (env : List DL.Slot) Q E, lu (.int (-1)) (.int (-1)) env Q E = Q (.bl true) env := fun env Q E => propext ⟨fun z => z.2, fun z => ⟨⟨rfl, rfl⟩, z⟩⟩
  generalize eE st = sd at *
  simp only [↓gB, ↓jH, ↓ho, ↓po, ↓eq, ↓aL, ↓aP, ↓aM, ↓aE, ↓aS, ↓ai, ↓getO, ↓putO, ↓setI, ↓setO, ac, aa, List.set_cons_zero, List.set_cons_succ, ↓bc, ↓dq, ↓aN, ↓dY, ↓cV, ↓eG, ↓notB, ↓dh, ↓dw, ↓dP, ↓cA, ↓fG, ↓ak, ↓ao, ↓aZ, ↓cI, ↓lstM, ↓bK, ↓cF, ↓bj, ↓du, ↓callN, ↓callA, ↓cN, ↓split1, ↓callD, ↓call1, ↓callK, ↓cO, ↓putS, ↓cG, ↓cz, ↓dX, ↓eY, ↓cB, ↓cE, D.kind, CT.is, ↓fh, ↓fB, ↓fD, ↓fF, ↓cy, ↓cW, ↓cK, ↓cJ, ↓bM, ↓di, ↓aH, ↓aC, ↓cS, ↓dc, ↓dB, ↓DL.intD, ↓bU, ↓bT, ↓dz, ↓de, ↓e6, ↓e9, ↓aJ, ↓cR, ↓olist, ↓fE, ↓fC, ↓bF, ↓bR, ↓bC, ↓ck, ↓cj, ↓dj, ↓oset, ↓fH, ↓bS, ↓bJ, ↓cY, ↓dy, ↓cM, ↓bB, ↓bf, ↓aI, ↓bh, ↓cL, ↓bu, ↓dC, ↓vD, ↓vO, ↓oins, ↓fJ, ↓bL, bx, ↓bA, aK, ↓fc, ↓DL.cU, ↓cX, ↓bv, ↓bD, ↓bV, ↓bz, ↓fj, Option.map, List.map_cons, List.map_nil, List.cons_append, List.nil_append, List.length_cons, List.length_nil, List.replicate, Nat.reduceAdd, Nat.reduceSub, Nat.sub_self, Bool.not_true, Bool.not_false, ↓if_true, ↓if_false, ↓ite_true, ↓ite_false, true_and, and_true, Bool.true_eq_false, Bool.false_eq_true, reduceIte, aD, cg, b9, b8, bZ, bY, bX, ↓aW, ↓aU, ↓aV, ↓aT, ↓aR, ↓aQ, aO, cZ, ↓au, ↓ay, ↓az, ↓aj, fA, fy, fx, fw, fv, fu, ft, fo, fk, forall_const, fS, fR, fQ, fP, fO, fN, fM, fL, fK, aX, ↓aF, ↓aA, ↓aw, List.filterMap_cons, List.filterMap_nil, ↓bH, ↓cP, b7, bQ, bW, bO, dD, ↓strR, ↓joinM, ↓bN, ↓aB, ↓bP, List.nodup_cons, List.nodup_nil, List.not_mem_nil, not_false_eq_true, ↓am]
theorem u7 (v0 v1 v2 v3 v4 v5 v6 v7 v8 v9 : DL.Slot) (Q E) : gW C [v0, v1, v2, v3, v4, v5, v6, v7, v8, v9, .im (.lst ((st.map dH).map .str)), .no, .no, .no, .no, .no, .no] Q E = Q (.lst (st.map oD)) [v0, v1, v2, v3, v4, v5, v6, v7, v8, v9, .im (.lst ((st.map dH).map .str)), .no, .no, .no, .no, .no, .no] := by
  have hg := S.hg
  have hl := S.len
  unfold gW
  refine (gr (env := [v0, v1, v2, v3, v4, v5, v6, v7, v8, v9, .im (.lst ((st.map dH).map .str)), .no, .no, .no, .no, .no, .no]) st (fun o => .str (dH o)) (fun _ => true) oD (fun Q E => by
    have e : (st.map dH).map D.str = st.map fun o => D.str (dH o) := by rw [List.map_map]; rfl
    rw [e]
    generalize (st.map fun o => D.str (dH o)) = ws
    simp only [↓aL, ↓aP, ↓aM, ↓aE, ↓aS, ↓ai, ↓getO, ↓putO, ↓setI, ↓setO, ac, aa, List.set_cons_zero, List.set_cons_succ, ↓bc, ↓dq, ↓aN, ↓dY, ↓cV, ↓eG, ↓notB, ↓dh, ↓dw, ↓dP, ↓cA, ↓fG, ↓ak, ↓ao, ↓aZ, ↓cI, ↓lstM, ↓bK, ↓cF, ↓bj, ↓du, ↓callN, ↓callA, ↓cN, ↓split1, ↓callD, ↓call1, ↓callK, ↓cO, ↓putS, ↓cG, ↓cz, ↓dX, ↓eY, ↓cB, ↓cE, D.kind, CT.is, ↓fh, ↓fB, ↓fD, ↓fF, ↓cy, ↓cW, ↓cK, ↓cJ, ↓bM, ↓di, ↓aH, ↓aC, ↓cS, ↓dc, ↓dB, ↓DL.intD, ↓bU, ↓bT, ↓dz, ↓de, ↓e6, ↓e9, ↓aJ, ↓cR, ↓olist, ↓fE, ↓fC, ↓bF, ↓bR, ↓bC, ↓ck, ↓cj, ↓dj, ↓oset, ↓fH, ↓bS, ↓bJ, ↓cY, ↓dy, ↓cM, ↓bB, ↓bf, ↓aI, ↓bh, ↓cL, ↓bu, ↓dC, ↓vD, ↓vO, ↓oins, ↓fJ, ↓bL, bx, ↓bA, aK, ↓fc, ↓DL.cU, ↓cX, ↓bv, ↓bD, ↓bV, ↓bz, ↓fj, Option.map, List.map_cons, List.map_nil, List.cons_append, List.nil_append, List.length_cons, List.length_nil, List.replicate, Nat.reduceAdd, Nat.reduceSub, Nat.sub_self, Bool.not_true, Bool.not_false, ↓if_true, ↓if_false, ↓ite_true, ↓ite_false, true_and, and_true, Bool.true_eq_false, Bool.false_eq_true, reduceIte, aD, cg, b9, b8, bZ, bY, bX, ↓aW, ↓aU, ↓aV, ↓aT, ↓aR, ↓aQ, aO, cZ, ↓au, ↓ay, ↓az, ↓aj, fA, fy, fx, fw, fv, fu, ft, fo, fk, forall_const, fS, fR, fQ, fP, fO, fN, fM, fL, fK, aX, ↓aF, ↓aA, ↓aw, List.filterMap_cons, List.filterMap_nil, ↓bH, ↓cP, b7, bQ, bW, bO, dD, ↓strR, ↓joinM, ↓bN, ↓aB, ↓bP, List.nodup_cons, List.nodup_nil, List.not_mem_nil, not_false_eq_true, ↓am]) (by omega) rfl (fun o ho => ⟨[v0, v1, v2, v3, v4, v5, v6, v7, v8, v9, .im (.lst ((st.map dH).map .str)), .no, .no, .no, .no, .im (.str (dH o)), .no], rfl, fun Q E => rfl, fun Q E => rfl, fun _ Q E => ?_⟩) Q E).trans ?_
  · have pw := xF C (o := o) (fun i e => ⟨S.lo i (e ▸ ho), S.hi i (e ▸ ho)⟩)
    generalize (st.map dH).map D.str = ws at *
    generalize dH o = w at *
    generalize oD o = od at *
    simp only [↓pw, ↓aL, ↓aP, ↓aM, ↓aE, ↓aS, ↓ai, ↓getO, ↓putO, ↓setI, ↓setO, ac, aa, List.set_cons_zero, List.set_cons_succ, ↓bc, ↓dq, ↓aN, ↓dY, ↓cV, ↓eG, ↓notB, ↓dh, ↓dw, ↓dP, ↓cA, ↓fG, ↓ak, ↓ao, ↓aZ, ↓cI, ↓lstM, ↓bK, ↓cF, ↓bj, ↓du, ↓callN, ↓callA, ↓cN, ↓split1, ↓callD, ↓call1, ↓callK, ↓cO, ↓putS, ↓cG, ↓cz, ↓dX, ↓eY, ↓cB, ↓cE, D.kind, CT.is, ↓fh, ↓fB, ↓fD, ↓fF, ↓cy, ↓cW, ↓cK, ↓cJ, ↓bM, ↓di, ↓aH, ↓aC, ↓cS, ↓dc, ↓dB, ↓DL.intD, ↓bU, ↓bT, ↓dz, ↓de, ↓e6, ↓e9, ↓aJ, ↓cR, ↓olist, ↓fE, ↓fC, ↓bF, ↓bR, ↓bC, ↓ck, ↓cj, ↓dj, ↓oset, ↓fH, ↓bS, ↓bJ, ↓cY, ↓dy, ↓cM, ↓bB, ↓bf, ↓aI, ↓bh, ↓cL, ↓bu, ↓dC, ↓vD, ↓vO, ↓oins, ↓fJ, ↓bL, bx, ↓bA, aK, ↓fc, ↓DL.cU, ↓cX, ↓bv, ↓bD, ↓bV, ↓bz, ↓fj, Option.map, List.map_cons, List.map_nil, List.cons_append, List.nil_append, List.length_cons, List.length_nil, List.replicate, Nat.reduceAdd, Nat.reduceSub, Nat.sub_self, Bool.not_true, Bool.not_false, ↓if_true, ↓if_false, ↓ite_true, ↓ite_false, true_and, and_true, Bool.true_eq_false, Bool.false_eq_true, reduceIte, aD, cg, b9, b8, bZ, bY, bX, ↓aW, ↓aU, ↓aV, ↓aT, ↓aR, ↓aQ, aO, cZ, ↓au, ↓ay, ↓az, ↓aj, fA, fy, fx, fw, fv, fu, ft, fo, fk, forall_const, fS, fR, fQ, fP, fO, fN, fM, fL, fK, aX, ↓aF, ↓aA, ↓aw, List.filterMap_cons, List.filterMap_nil, ↓bH, ↓cP, b7, bQ, bW, bO, dD, ↓strR, ↓joinM, ↓bN, ↓aB, ↓bP, List.nodup_cons, List.nodup_nil, List.not_mem_nil, not_false_eq_true, ↓am]
  · rw [List.filter_eq_self.mpr fun _ _ => rfl]
theorem u6 (v0 v1 v2 v3 v4 v5 v6 v7 v8 v9 : DL.Slot) (Q E) : gU C [v0, v1, v2, v3, v4, v5, v6, v7, v8, v9, .im (.lst ((st.map dH).map .str)), .im (.lst (st.map oD)), .no, .no, .no, .no, .no] Q E = Q (.lst []) [v0, v1, v2, v3, v4, v5, v6, v7, v8, v9, .im (.lst ((st.map dH).map .str)), .im (.lst (st.map oD)), .no, .no, .no, .no, .no] := by
  have hg := S.hg
  have hl := S.len
  unfold gU
  refine (gr (env := [v0, v1, v2, v3, v4, v5, v6, v7, v8, v9, .im (.lst ((st.map dH).map .str)), .im (.lst (st.map oD)), .no, .no, .no, .no, .no]) st (fun o => .pr [.str (dH o), oD o]) (fun _ => false) (fun o => .str (dH o)) (fun Q E => by
    have e : (st.map dH).map D.str = st.map fun o => D.str (dH o) := by rw [List.map_map]; rfl
    have z := oz (fun o => D.str (dH o)) oD st
    rw [e]
    generalize (st.map fun o => D.str (dH o)) = ws at *
    generalize st.map oD = os at *
    simp only [↓aL, ↓aP, ↓aM, ↓aE, ↓aS, ↓ai, ↓getO, ↓putO, ↓setI, ↓setO, ac, aa, List.set_cons_zero, List.set_cons_succ, ↓bc, ↓dq, ↓aN, ↓dY, ↓cV, ↓eG, ↓notB, ↓dh, ↓dw, ↓dP, ↓cA, ↓fG, ↓ak, ↓ao, ↓aZ, ↓cI, ↓lstM, ↓bK, ↓cF, ↓bj, ↓du, ↓callN, ↓callA, ↓cN, ↓split1, ↓callD, ↓call1, ↓callK, ↓cO, ↓putS, ↓cG, ↓cz, ↓dX, ↓eY, ↓cB, ↓cE, D.kind, CT.is, ↓fh, ↓fB, ↓fD, ↓fF, ↓cy, ↓cW, ↓cK, ↓cJ, ↓bM, ↓di, ↓aH, ↓aC, ↓cS, ↓dc, ↓dB, ↓DL.intD, ↓bU, ↓bT, ↓dz, ↓de, ↓e6, ↓e9, ↓aJ, ↓cR, ↓olist, ↓fE, ↓fC, ↓bF, ↓bR, ↓bC, ↓ck, ↓cj, ↓dj, ↓oset, ↓fH, ↓bS, ↓bJ, ↓cY, ↓dy, ↓cM, ↓bB, ↓bf, ↓aI, ↓bh, ↓cL, ↓bu, ↓dC, ↓vD, ↓vO, ↓oins, ↓fJ, ↓bL, bx, ↓bA, aK, ↓fc, ↓DL.cU, ↓cX, ↓bv, ↓bD, ↓bV, ↓bz, ↓fj, Option.map, List.map_cons, List.map_nil, List.cons_append, List.nil_append, List.length_cons, List.length_nil, List.replicate, Nat.reduceAdd, Nat.reduceSub, Nat.sub_self, Bool.not_true, Bool.not_false, ↓if_true, ↓if_false, ↓ite_true, ↓ite_false, true_and, and_true, Bool.true_eq_false, Bool.false_eq_true, reduceIte, aD, cg, b9, b8, bZ, bY, bX, ↓aW, ↓aU, ↓aV, ↓aT, ↓aR, ↓aQ, aO, cZ, ↓au, ↓ay, ↓az, ↓aj, fA, fy, fx, fw, fv, fu, ft, fo, fk, forall_const, fS, fR, fQ, fP, fO, fN, fM, fL, fK, aX, ↓aF, ↓aA, ↓aw, List.filterMap_cons, List.filterMap_nil, ↓bH, ↓cP, b7, bQ, bW, bO, dD, ↓strR, ↓joinM, ↓bN, ↓aB, ↓bP, List.nodup_cons, List.nodup_nil, List.not_mem_nil, not_false_eq_true, ↓am]
    rw [z]) (by omega) rfl (fun o ho => ⟨[v0, v1, v2, v3, v4, v5, v6, v7, v8, v9, .im (.lst ((st.map dH).map .str)), .im (.lst (st.map oD)), .no, .no, .no, .im (.str (dH o)), .im (oD o)], rfl, fun Q E => ?_, fun Q E => ?_, fun h => (Bool.false_ne_true h).elim⟩) Q E).trans ?_
  · rfl
  · generalize (st.map dH).map D.str = ws at *
    generalize st.map oD = os at *
    cases o with
    | none =>
      have e : (("-" : Str) == ("-" : Str)) = true := by decide +kernel
      simp only [oD, dH, e, Bool.not_true, ↓aL, ↓aP, ↓aM, ↓aE, ↓aS, ↓ai, ↓getO, ↓putO, ↓setI, ↓setO, ac, aa, List.set_cons_zero, List.set_cons_succ, ↓bc, ↓dq, ↓aN, ↓dY, ↓cV, ↓eG, ↓notB, ↓dh, ↓dw, ↓dP, ↓cA, ↓fG, ↓ak, ↓ao, ↓aZ, ↓cI, ↓lstM, ↓bK, ↓cF, ↓bj, ↓du, ↓callN, ↓callA, ↓cN, ↓split1, ↓callD, ↓call1, ↓callK, ↓cO, ↓putS, ↓cG, ↓cz, ↓dX, ↓eY, ↓cB, ↓cE, D.kind, CT.is, ↓fh, ↓fB, ↓fD, ↓fF, ↓cy, ↓cW, ↓cK, ↓cJ, ↓bM, ↓di, ↓aH, ↓aC, ↓cS, ↓dc, ↓dB, ↓DL.intD, ↓bU, ↓bT, ↓dz, ↓de, ↓e6, ↓e9, ↓aJ, ↓cR, ↓olist, ↓fE, ↓fC, ↓bF, ↓bR, ↓bC, ↓ck, ↓cj, ↓dj, ↓oset, ↓fH, ↓bS, ↓bJ, ↓cY, ↓dy, ↓cM, ↓bB, ↓bf, ↓aI, ↓bh, ↓cL, ↓bu, ↓dC, ↓vD, ↓vO, ↓oins, ↓fJ, ↓bL, bx, ↓bA, aK, ↓fc, ↓DL.cU, ↓cX, ↓bv, ↓bD, ↓bV, ↓bz, ↓fj, Option.map, List.map_cons, List.map_nil, List.cons_append, List.nil_append, List.length_cons, List.length_nil, List.replicate, Nat.reduceAdd, Nat.reduceSub, Nat.sub_self, Bool.not_true, Bool.not_false, ↓if_true, ↓if_false, ↓ite_true, ↓ite_false, true_and, and_true, Bool.true_eq_false, Bool.false_eq_true, reduceIte, aD, cg, b9, b8, bZ, bY, bX, ↓aW, ↓aU, ↓aV, ↓aT, ↓aR, ↓aQ, aO, cZ, ↓au, ↓ay, ↓az, ↓aj, fA, fy, fx, fw, fv, fu, ft, fo, fk, forall_const, fS, fR, fQ, fP, fO, fN, fM, fL, fK, aX, ↓aF, ↓aA, ↓aw, List.filterMap_cons, List.filterMap_nil, ↓bH, ↓cP, b7, bQ, bW, bO, dD, ↓strR, ↓joinM, ↓bN, ↓aB, ↓bP, List.nodup_cons, List.nodup_nil, List.not_mem_nil, not_false_eq_true, ↓am]
    | some i => simp only [oD, ↓aL, ↓aP, ↓aM, ↓aE, ↓aS, ↓ai, ↓getO, ↓putO, ↓setI, ↓setO, ac, aa, List.set_cons_zero, List.set_cons_succ, ↓bc, ↓dq, ↓aN, ↓dY, ↓cV, ↓eG, ↓notB, ↓dh, ↓dw, ↓dP, ↓cA, ↓fG, ↓ak, ↓ao, ↓aZ, ↓cI, ↓lstM, ↓bK, ↓cF, ↓bj, ↓du, ↓callN, ↓callA, ↓cN, ↓split1, ↓callD, ↓call1, ↓callK, ↓cO, ↓putS, ↓cG, ↓cz, ↓dX, ↓eY, ↓cB, ↓cE, D.kind, CT.is, ↓fh, ↓fB, ↓fD, ↓fF, ↓cy, ↓cW, ↓cK, ↓cJ, ↓bM, ↓di, ↓aH, ↓aC, ↓cS, ↓dc, ↓dB, ↓DL.intD, ↓bU, ↓bT, ↓dz, ↓de, ↓e6, ↓e9, ↓aJ, ↓cR, ↓olist, ↓fE, ↓fC, ↓bF, ↓bR, ↓bC, ↓ck, ↓cj, ↓dj, ↓oset, ↓fH, ↓bS, ↓bJ, ↓cY, ↓dy, ↓cM, ↓bB, ↓bf, ↓aI, ↓bh, ↓cL, ↓bu, ↓dC, ↓vD, ↓vO, ↓oins, ↓fJ, ↓bL, bx, ↓bA, aK, ↓fc, ↓DL.cU, ↓cX, ↓bv, ↓bD, ↓bV, ↓bz, ↓fj, Option.map, List.map_cons, List.map_nil, List.cons_append, List.nil_append, List.length_cons, List.length_nil, List.replicate, Nat.reduceAdd, Nat.reduceSub, Nat.sub_self, Bool.not_true, Bool.not_false, ↓if_true, ↓if_false, ↓ite_true, ↓ite_false, true_and, and_true, Bool.true_eq_false, Bool.false_eq_true, reduceIte, aD, cg, b9, b8, bZ, bY, bX, ↓aW, ↓aU, ↓aV, ↓aT, ↓aR, ↓aQ, aO, cZ, ↓au, ↓ay, ↓az, ↓aj, fA, fy, fx, fw, fv, fu, ft, fo, fk, forall_const, fS, fR, fQ, fP, fO, fN, fM, fL, fK, aX, ↓aF, ↓aA, ↓aw, List.filterMap_cons, List.filterMap_nil, ↓bH, ↓cP, b7, bQ, bW, bO, dD, ↓strR, ↓joinM, ↓bN, ↓aB, ↓bP, List.nodup_cons, List.nodup_nil, List.not_mem_nil, not_false_eq_true, ↓am]
  · rw [List.filter_eq_nil_iff.mpr fun _ _ h => Bool.false_ne_true h]
    rfl
theorem xJ (Q E) : fY C [.im (.str (gI g s st))] Q E = Q (.d (.tup [.hall g s, eE st])) [.im (.str (gI g s st))] := by
  have hg := S.hg
  have hs := S.hs
  have hl := S.len
  have z := mi (g := g) (s := s) (by omega) (by omega)
  obtain ⟨z1, z2⟩ := qO S ""
  have ls : (" " : Str).length = 1 := by decide +kernel
  have lc : (":" : Str).length = 1 := by decide +kernel
  have lp : ("+" : Str).length = 1 := by decide +kernel
  have le : Str.empty.length = 0 := by decide +kernel
  have lt : (jg st).length ≤ 100 := by
    have := mf " " (Str.empty :: st.map dH)
    rw [List.map_cons, List.sum_cons, List.length_cons, le, ls] at this
    unfold jg
    omega
  have p1 : ∀ (env : List DL.Slot) Q E, tJ (.str (gI g s st)) (.str ":") env Q E = Q (.pr [.str (gn g s), .str ":", .str (jg st)]) env := fun env Q E => by
    have e := rK (g := g) (s := s) (by omega) (by omega) st
    simp only [tJ, e]
    exact propext ⟨fun z => z.2, fun z => ⟨⟨by rw [lc]; rfl, by unfold gI; rw [sizeLine_eq, len_app, len_app, lc]; omega⟩, z⟩⟩
  have p2 : ∀ (env : List DL.Slot) Q E, tJ (.str (gn g s)) (.str "+") env Q E = Q (.pr [.str (d7 g), .str "+", .str (d7 s)]) env := fun env Q E => by
    have e := rL (g := g) (s := s) (by omega) (by omega)
    simp only [tJ, e]
    exact propext ⟨fun z => z.2, fun z => ⟨⟨by rw [lp]; rfl, by rw [sizeLine_eq]; omega⟩, z⟩⟩
  have p3 : ∀ (env : List DL.Slot) Q E, xq (.str (jg st)) (.str " ") env Q E = Q (.lst (.str Str.empty :: (st.map dH).map .str)) env := fun env Q E => by
    have e := pO S.lo
    simp only [xq, e]
    exact propext ⟨fun z => z.2, fun z => ⟨⟨by rw [ls]; rfl, by rw [sizeLine_eq]; omega⟩, z⟩⟩
  have n1 := lU C (i := g) (by omega)
  have n2 := lU C (i := s) (by omega)
  have q1 := fun v0 v1 v2 v3 v4 v5 v6 v7 v8 v9 => u7 C S v0 v1 v2 v3 v4 v5 v6 v7 v8 v9
  have q2 := fun v0 v1 v2 v3 v4 v5 v6 v7 v8 v9 => u6 C S v0 v1 v2 v3 v4 v5 v6 v7 v8 v9
  have inn : ∀ (env : List DL.Slot) Q E, zC (.str "") (.tup [.str ":", .str "+"]) env Q E = Q (.bl false) env := fun env Q E => by
    show ((_ ∧ _) ∧ _) = _
    rw [show ([D.str ":", D.str "+"].any fun d => eqv d (.str "")) = false by decide +kernel]
    exact propext ⟨fun z => z.2, fun z => ⟨⟨rfl, rfl⟩, z⟩⟩
  have nb : (Str.empty == ("" : Str)) = true := by decide +kernel
  have nl : ∀ (env : List DL.Slot) Q E, ki (.lst []) (.lst []) env Q E = Q (.bl false) env := fun env Q E => propext ⟨fun z => z.2, fun z => ⟨⟨rfl, rfl⟩, z⟩⟩
  have w1 := jw C g 1 24
  have w2 := jw C s 0 6
  have e1 : (decide ((1:Int) ≤ g) && decide (g ≤ 24)) = true := by simp [hg]
  have e2 : (decide ((0:Int) ≤ s) && decide (s ≤ 6)) = true := by simp [hs]
  rw [e1] at w1
  rw [e2] at w2
  have pin := fun x => pZ C x g s hg hs
  have is := qI C S
  have tupS : ∀ (env : List DL.Slot) Q E, de (.lst (st.map oD)) env Q E = Q (eE st) env := fun _ _ _ => rfl
  have s0 : (0 ≤ sizeLine) = True := eq_true (Nat.zero_le _)
  have s1 : (1 ≤ sizeLine) = True := eq_true (by rw [sizeLine_eq]; decide)
  have s2 : (2 ≤ sizeLine) = True := eq_true (by rw [sizeLine_eq]; decide)
  generalize gI g s st = tx at *
  generalize gn g s = ht at *
  generalize jg st = tt at *
  generalize d7 g = ng at *
  generalize d7 s = ns at *
  generalize (st.map dH).map D.str = ws at *
  generalize st.map oD = os at *
  generalize eE st = sd at *
  have sv : ∀ (v0 v1 v2 v3 v4 v5 v6 v7 v8 : DL.Slot) Q E, aB 1 [setI 9, setI 10] (.lst (.str Str.empty :: ws)) [v0, v1, v2, v3, v4, v5, v6, v7, v8, .no, .no, .no, .no, .no, .no, .no, .no] Q E = Q () [v0, v1, v2, v3, v4, v5, v6, v7, v8, .im (.str Str.empty), .im (.lst ws), .no, .no, .no, .no, .no, .no] := fun v0 v1 v2 v3 v4 v5 v6 v7 v8 Q E => propext ⟨fun z => z.2, fun z => ⟨by show 1 ≤ (D.str Str.empty :: ws).length; rw [List.length_cons]; omega, z⟩⟩
  simp only [↓fY, ↓jc, ↓vd, ↓xp, ↓p1, ↓p2, ↓p3, ↓sv, ↓n1, ↓n2, ↓q1, ↓q2, ↓inn, nb, ↓nl, ↓w1, ↓w2, ↓pin, ↓tupS, ↓is, s0, s1, s2, Bool.not_true, Bool.not_false, ↓aL, ↓aP, ↓aM, ↓aE, ↓aS, ↓ai, ↓getO, ↓putO, ↓setI, ↓setO, ac, aa, List.set_cons_zero, List.set_cons_succ, ↓bc, ↓dq, ↓aN, ↓dY, ↓cV, ↓eG, ↓notB, ↓dh, ↓dw, ↓dP, ↓cA, ↓fG, ↓ak, ↓ao, ↓aZ, ↓cI, ↓lstM, ↓bK, ↓cF, ↓bj, ↓du, ↓callN, ↓callA, ↓cN, ↓split1, ↓callD, ↓call1, ↓callK, ↓cO, ↓putS, ↓cG, ↓cz, ↓dX, ↓eY, ↓cB, ↓cE, D.kind, CT.is, ↓fh, ↓fB, ↓fD, ↓fF, ↓cy, ↓cW, ↓cK, ↓cJ, ↓bM, ↓di, ↓aH, ↓aC, ↓cS, ↓dc, ↓dB, ↓DL.intD, ↓bU, ↓bT, ↓dz, ↓e6, ↓e9, ↓aJ, ↓cR, ↓olist, ↓fE, ↓fC, ↓bF, ↓bR, ↓bC, ↓ck, ↓cj, ↓dj, ↓oset, ↓fH, ↓bS, ↓bJ, ↓cY, ↓dy, ↓cM, ↓bB, ↓bf, ↓aI, ↓bh, ↓cL, ↓bu, ↓dC, ↓vD, ↓vO, ↓oins, ↓fJ, ↓bL, bx, ↓bA, aK, ↓fc, ↓DL.cU, ↓cX, ↓bv, ↓bD, ↓bV, ↓bz, ↓fj, Option.map, List.map_cons, List.map_nil, List.cons_append, List.nil_append, List.length_cons, List.length_nil, List.replicate, Nat.reduceAdd, Nat.reduceSub, Nat.sub_self, Bool.not_true, Bool.not_false, ↓if_true, ↓if_false, ↓ite_true, ↓ite_false, true_and, and_true, Bool.true_eq_false, Bool.false_eq_true, reduceIte, aD, cg, b9, b8, bZ, bY, bX, ↓aW, ↓aU, ↓aV, ↓aT, ↓aR, ↓aQ, aO, cZ, ↓au, ↓ay, ↓az, ↓aj, fA, fy, fx, fw, fv, fu, ft, fo, fk, forall_const, fS, fR, fQ, fP, fO, fN, fM, fL, fK, aX, ↓aF, ↓aA, ↓aw, List.filterMap_cons, List.filterMap_nil, ↓bH, ↓cP, b7, bQ, bW, bO, dD, ↓strR, ↓joinM, ↓bN, ↓bP, List.nodup_cons, List.nodup_nil, List.not_mem_nil, not_false_eq_true, ↓am]
end
end
section
def d9 : Option Int → Int
  | none => 0
  | some i => i + 1
def eZ (g s : Int) (st : Sd) : List Int := 87 :: g :: s :: st.map d9
def ef (g s : Int) (st : Sd) : List Int := eZ g s st ++ [(eZ g s st).sum % 251]
def eF (g s : Int) (st : Sd) : Array UInt8 := byteArr (ef g s st)
theorem pI {l : List UInt8} {c : UInt8} : clipAt (l ++ [c]).toArray.size (-1) = l.length := by
  have h := clipAt_neg (l ++ [c]).toArray.size 1 (Nat.le_refl 1)
  have e : (l ++ [c]).toArray.size = l.length + 1 := by simp
  rw [e] at h ⊢
  exact h.trans (Nat.add_sub_cancel _ _)
theorem xE {l : List UInt8} {c : UInt8} : PySem.W.KBy.picked (l ++ [c]).toArray none (some (-1)) = l.toArray := by
  rw [PySem.W.KBc.picked_eq]
  show (((l ++ [c]).drop 0).take (clipAt (l ++ [c]).toArray.size (-1) - 0)).toArray = l.toArray
  rw [pI]
  show ((l ++ [c]).take l.length).toArray = l.toArray
  rw [List.take_append_of_le_length (Nat.le_refl _), List.take_length]
theorem tK {c0 c : UInt8} {l : List UInt8} : PySem.W.KBy.picked (c0 :: (l ++ [c])).toArray (some 1) (some (-1)) = l.toArray := by
  rw [PySem.W.KBc.picked_eq]
  have h := pI (l := c0 :: l) (c := c)
  have e : (c0 :: l ++ [c]) = c0 :: (l ++ [c]) := rfl
  rw [e] at h
  have h1 : clipAt (c0 :: (l ++ [c])).toArray.size 1 = 1 := by
    have := clipAt_nat (c0 :: (l ++ [c])).toArray.size 1
    rw [show ((1 : Nat) : Int) = 1 from rfl] at this
    rw [this]
    simp
  show (((c0 :: (l ++ [c])).drop (clipAt (c0 :: (l ++ [c])).toArray.size 1)).take (clipAt (c0 :: (l ++ [c])).toArray.size (-1) - clipAt (c0 :: (l ++ [c])).toArray.size 1)).toArray = _
  rw [h, h1, List.length_cons, Nat.add_sub_cancel, List.drop_succ_cons, List.drop_zero, List.take_append_of_le_length (Nat.le_refl _), List.take_length]
section
variable (C : Addr) {g s : Int} {st : Sd} (S : Stand g s st)
include S
theorem uY : ∀ n ∈ st.map d9, 0 ≤ n ∧ n < 256 := fun n hn => by
  obtain ⟨o, ho, e⟩ := List.mem_map.mp hn
  subst e
  cases o with
  | none => exact ⟨by decide, by decide⟩
  | some i =>
    have := S.lo i ho
    have := S.hi i ho
    show 0 ≤ i + 1 ∧ i + 1 < 256
    omega
theorem pU : B8 (eZ g s st) := fun n hn => by
  have hg := S.hg
  have hs := S.hs
  unfold eZ at hn
  simp only [List.mem_cons] at hn
  rcases hn with e | e | e | h
  · subst e; exact ⟨by decide, by decide⟩
  · subst e; omega
  · subst e; omega
  · exact uY S n h
theorem qV : B8 (ef g s st) := fun n hn => by
  rcases List.mem_append.mp hn with h | h
  · exact pU S n h
  · rw [List.mem_singleton.mp h]
    have a := Int.emod_nonneg (eZ g s st).sum (show (251 : Int) ≠ 0 by decide)
    have b := Int.emod_lt_of_pos (eZ g s st).sum (show (0 : Int) < 251 by decide)
    omega
theorem j4 : ((ef g s st).length : Int) = g + 4 ∧ (ef g s st).length ≤ 28 ∧ 5 ≤ (ef g s st).length := by
  have hg := S.hg
  have hl := S.len
  have e : (ef g s st).length = st.length + 4 := by
    unfold ef eZ
    simp
  rw [e]
  refine ⟨?_, ?_, ?_⟩ <;> omega
theorem ro : bI (eF g s st) = ef g s st := bi_make (qV S)
theorem mQ : (eF g s st).size = (ef g s st).length := byteArr_size _
theorem xA (v2 : DL.Slot) (Q E) : gX C [.im (.hall g s), .im (eE st), v2, .no] Q E = Q (.lst ((st.map d9).map .int)) [.im (.hall g s), .im (eE st), v2, .no] := by
  have hg := S.hg
  have hl := S.len
  unfold gX
  refine (gr (env := [.im (.hall g s), .im (eE st), v2, .no]) st oD (fun _ => true) (fun o => .int (d9 o)) (fun Q E => by rfl) (by omega) rfl (fun o ho => ⟨[.im (.hall g s), .im (eE st), v2, .im (oD o)], rfl, fun Q E => rfl, fun Q E => rfl, fun _ Q E => ?_⟩) Q E).trans ?_
  · generalize eE st = sd
    cases o <;> simp only [oD, d9, ↓aL, ↓aP, ↓aM, ↓aE, ↓aS, ↓ai, ↓getO, ↓putO, ↓setI, ↓setO, ac, aa, List.set_cons_zero, List.set_cons_succ, ↓bc, ↓dq, ↓aN, ↓dY, ↓cV, ↓eG, ↓notB, ↓dh, ↓dw, ↓dP, ↓cA, ↓fG, ↓ak, ↓ao, ↓aZ, ↓cI, ↓lstM, ↓bK, ↓cF, ↓bj, ↓du, ↓callN, ↓callA, ↓cN, ↓split1, ↓callD, ↓call1, ↓callK, ↓cO, ↓putS, ↓cG, ↓cz, ↓dX, ↓eY, ↓cB, ↓cE, D.kind, CT.is, ↓fh, ↓fB, ↓fD, ↓fF, ↓cy, ↓cW, ↓cK, ↓cJ, ↓bM, ↓di, ↓aH, ↓aC, ↓cS, ↓dc, ↓dB, ↓DL.intD, ↓bU, ↓bT, ↓dz, ↓de, ↓e6, ↓e9, ↓aJ, ↓cR, ↓olist, ↓fE, ↓fC, ↓bF, ↓bR, ↓bC, ↓ck, ↓cj, ↓dj, ↓oset, ↓fH, ↓bS, ↓bJ, ↓cY, ↓dy, ↓cM, ↓bB, ↓bf, ↓aI, ↓bh, ↓cL, ↓bu, ↓dC, ↓vD, ↓vO, ↓oins, ↓fJ, ↓bL, bx, ↓bA, aK, ↓fc, ↓DL.cU, ↓cX, ↓bv, ↓bD, ↓bV, ↓bz, ↓fj, Option.map, List.map_cons, List.map_nil, List.cons_append, List.nil_append, List.length_cons, List.length_nil, List.replicate, Nat.reduceAdd, Nat.reduceSub, Nat.sub_self, Bool.not_true, Bool.not_false, ↓if_true, ↓if_false, ↓ite_true, ↓ite_false, true_and, and_true, Bool.true_eq_false, Bool.false_eq_true, reduceIte, aD, cg, b9, b8, bZ, bY, bX, ↓aW, ↓aU, ↓aV, ↓aT, ↓aR, ↓aQ, aO, cZ, ↓au, ↓ay, ↓az, ↓aj, fA, fy, fx, fw, fv, fu, ft, fo, fk, forall_const, fS, fR, fQ, fP, fO, fN, fM, fL, fK, aX, ↓aF, ↓aA, ↓aw, List.filterMap_cons, List.filterMap_nil, ↓bH, ↓cP, b7, bQ, bW, bO, dD, ↓strR, ↓joinM, ↓bN, ↓aB, ↓bP, List.nodup_cons, List.nodup_nil, List.not_mem_nil, not_false_eq_true, ↓am]
  · rw [List.filter_eq_self.mpr fun _ _ => rfl, List.map_map]; rfl
theorem xM (Q E) : eV C [.im (.hall g s), .im (eE st)] Q E = Q (.d (.byt (eF g s st))) [.im (.hall g s), .im (eE st)] := by
  have hg := S.hg
  have hl := S.len
  have ho := ky C g s
  have se := oQ C g s st S
  have q := fun v2 => xA C S v2
  have fl := (j4 S).2.1
  have y1 : (3 ≤ sizeLine) = True := eq_true (by rw [sizeLine_eq]; decide)
  have y2 : (2 ≤ sizeLine) = True := eq_true (by rw [sizeLine_eq]; decide)
  have y3 : (1 ≤ sizeLine) = True := eq_true (by rw [sizeLine_eq]; decide)
  have y4 : (0 ≤ sizeLine) = True := eq_true (Nat.zero_le _)
  have a1 : ∀ (env : List DL.Slot) Q E, cy (.lst [.int 87, .int g, .int s]) (.lst ((st.map d9).map .int)) env Q E = Q (.lst ((eZ g s st).map .int)) env := fun env Q E => propext ⟨fun z => z.2, fun z => ⟨by
    show 3 + ((st.map d9).map D.int).length ≤ sizeLine
    rw [List.length_map, List.length_map, sizeLine_eq]; omega, z⟩⟩
  have a2 : ∀ (env : List DL.Slot) Q E, cP (.lst ((eZ g s st).map .int)) env Q E = Q (.int (eZ g s st).sum) env := fun env Q E => by
    unfold cP
    simp only [iB]
    rfl
  have a3 : ∀ (env : List DL.Slot) Q E, cy (.lst ((eZ g s st).map .int)) (.lst [.int ((eZ g s st).sum % 251)]) env Q E = Q (.lst ((ef g s st).map .int)) env := fun env Q E => by
    have e : (ef g s st).map D.int = (eZ g s st).map .int ++ [.int ((eZ g s st).sum % 251)] := by unfold ef; rw [List.map_append]; rfl
    rw [e]
    exact propext ⟨fun z => z.2, fun z => ⟨by
      show ((eZ g s st).map D.int).length + 1 ≤ sizeLine
      have : (ef g s st).length = (eZ g s st).length + 1 := by unfold ef; simp
      rw [List.length_map, sizeLine_eq]; omega, z⟩⟩
  have a4 : ∀ (env : List DL.Slot) Q E, nz (.lst ((ef g s st).map .int)) env Q E = Q (.byt (eF g s st)) env := fun env Q E => by
    unfold nz
    simp only [iB]
    exact propext ⟨fun z => z.2, fun z => ⟨qV S, z⟩⟩
  generalize (eZ g s st).sum = sm at *
  generalize (ef g s st).map D.int = fd at *
  generalize (eZ g s st).map D.int = rd at *
  generalize (st.map d9).map D.int = nd at *
  generalize eE st = sd at *
  have d251 : (0 : Int) < 251 := by decide
  simp only [↓eV, ↓jd, ↓ho, ↓se, ↓q, ↓a1, ↓a2, ↓a3, ↓a4, y1, y2, y3, y4, d251, ↓aL, ↓aP, ↓aM, ↓aE, ↓aS, ↓ai, ↓getO, ↓putO, ↓setI, ↓setO, ac, aa, List.set_cons_zero, List.set_cons_succ, ↓bc, ↓dq, ↓aN, ↓dY, ↓cV, ↓eG, ↓notB, ↓dh, ↓dw, ↓dP, ↓cA, ↓fG, ↓ak, ↓ao, ↓aZ, ↓cI, ↓lstM, ↓bK, ↓cF, ↓bj, ↓du, ↓callN, ↓callA, ↓cN, ↓split1, ↓callD, ↓call1, ↓callK, ↓cO, ↓putS, ↓cG, ↓cz, ↓dX, ↓eY, ↓cB, ↓cE, D.kind, CT.is, ↓fh, ↓fB, ↓fD, ↓fF, ↓cW, ↓cK, ↓cJ, ↓bM, ↓di, ↓aH, ↓aC, ↓cS, ↓dc, ↓dB, ↓DL.intD, ↓bU, ↓bT, ↓dz, ↓de, ↓e6, ↓e9, ↓aJ, ↓cR, ↓olist, ↓fE, ↓fC, ↓bF, ↓bR, ↓bC, ↓ck, ↓cj, ↓dj, ↓oset, ↓fH, ↓bS, ↓bJ, ↓cY, ↓dy, ↓cM, ↓bB, ↓bf, ↓aI, ↓bh, ↓cL, ↓bu, ↓dC, ↓vD, ↓vO, ↓oins, ↓fJ, ↓bL, bx, ↓bA, aK, ↓fc, ↓DL.cU, ↓cX, ↓bv, ↓bD, ↓bV, ↓bz, ↓fj, Option.map, List.map_cons, List.map_nil, List.cons_append, List.nil_append, List.length_cons, List.length_nil, List.replicate, Nat.reduceAdd, Nat.reduceSub, Nat.sub_self, Bool.not_true, Bool.not_false, ↓if_true, ↓if_false, ↓ite_true, ↓ite_false, true_and, and_true, Bool.true_eq_false, Bool.false_eq_true, reduceIte, aD, cg, b9, b8, bZ, bY, bX, ↓aW, ↓aU, ↓aV, ↓aT, ↓aR, ↓aQ, aO, cZ, ↓au, ↓ay, ↓az, ↓aj, fA, fy, fx, fw, fv, fu, ft, fo, fk, forall_const, fS, fR, fQ, fP, fO, fN, fM, fL, fK, aX, ↓aF, ↓aA, ↓aw, List.filterMap_cons, List.filterMap_nil, ↓bH, b7, bQ, bW, bO, dD, ↓strR, ↓joinM, ↓bN, ↓aB, ↓bP, List.nodup_cons, List.nodup_nil, List.not_mem_nil, not_false_eq_true, ↓am]
end
end
section
def u8 (n : Int) : UInt8 := n.toNat.toUInt8
theorem rM (g s : Int) (st : Sd) : eF g s st = (u8 87 :: ((g :: s :: st.map d9).map u8 ++ [u8 ((eZ g s st).sum % 251)])).toArray := by
  unfold eF ef eZ byteArr
  rw [List.map_append]
  rfl
theorem tP (g s : Int) (st : Sd) : PySem.W.KBy.picked (eF g s st) none (some (-1)) = byteArr (eZ g s st) := by
  unfold eF ef
  unfold byteArr
  rw [List.map_append]
  exact xE
theorem tN (g s : Int) (st : Sd) : PySem.W.KBy.picked (eF g s st) (some 1) (some (-1)) = byteArr (g :: s :: st.map d9) := by
  rw [rM]
  exact tK
section
variable (C : Addr) {g s : Int} {st : Sd} (S : Stand g s st)
include S
theorem yg : B8 (g :: s :: st.map d9) := fun n hn => pU S n (List.mem_cons_of_mem _ hn)
theorem tG (v0 v1 v2 v4 v5 : DL.Slot) (Q E) : gz C [v0, v1, v2, .im (.lst ((st.map d9).map .int)), v4, v5, .no] Q E = Q (.lst (st.map oD)) [v0, v1, v2, .im (.lst ((st.map d9).map .int)), v4, v5, .no] := by
  have hg := S.hg
  have hl := S.len
  unfold gz
  refine (gr (env := [v0, v1, v2, .im (.lst ((st.map d9).map .int)), v4, v5, .no]) st (fun o => .int (d9 o)) (fun _ => true) oD (fun Q E => by
    have e : (st.map d9).map D.int = st.map fun o => D.int (d9 o) := by rw [List.map_map]; rfl
    rw [e]
    generalize (st.map fun o => D.int (d9 o)) = ws
    simp only [↓aL, ↓aP, ↓aM, ↓aE, ↓aS, ↓ai, ↓getO, ↓putO, ↓setI, ↓setO, ac, aa, List.set_cons_zero, List.set_cons_succ, ↓bc, ↓dq, ↓aN, ↓dY, ↓cV, ↓eG, ↓notB, ↓dh, ↓dw, ↓dP, ↓cA, ↓fG, ↓ak, ↓ao, ↓aZ, ↓cI, ↓lstM, ↓bK, ↓cF, ↓bj, ↓du, ↓callN, ↓callA, ↓cN, ↓split1, ↓callD, ↓call1, ↓callK, ↓cO, ↓putS, ↓cG, ↓cz, ↓dX, ↓eY, ↓cB, ↓cE, D.kind, CT.is, ↓fh, ↓fB, ↓fD, ↓fF, ↓cy, ↓cW, ↓cK, ↓cJ, ↓bM, ↓di, ↓aH, ↓aC, ↓cS, ↓dc, ↓dB, ↓DL.intD, ↓bU, ↓bT, ↓dz, ↓de, ↓e6, ↓e9, ↓aJ, ↓cR, ↓olist, ↓fE, ↓fC, ↓bF, ↓bR, ↓bC, ↓ck, ↓cj, ↓dj, ↓oset, ↓fH, ↓bS, ↓bJ, ↓cY, ↓dy, ↓cM, ↓bB, ↓bf, ↓aI, ↓bh, ↓cL, ↓bu, ↓dC, ↓vD, ↓vO, ↓oins, ↓fJ, ↓bL, bx, ↓bA, aK, ↓fc, ↓DL.cU, ↓cX, ↓bv, ↓bD, ↓bV, ↓bz, ↓fj, Option.map, List.map_cons, List.map_nil, List.cons_append, List.nil_append, List.length_cons, List.length_nil, List.replicate, Nat.reduceAdd, Nat.reduceSub, Nat.sub_self, Bool.not_true, Bool.not_false, ↓if_true, ↓if_false, ↓ite_true, ↓ite_false, true_and, and_true, Bool.true_eq_false, Bool.false_eq_true, reduceIte, aD, cg, b9, b8, bZ, bY, bX, ↓aW, ↓aU, ↓aV, ↓aT, ↓aR, ↓aQ, aO, cZ, ↓au, ↓ay, ↓az, ↓aj, fA, fy, fx, fw, fv, fu, ft, fo, fk, forall_const, fS, fR, fQ, fP, fO, fN, fM, fL, fK, aX, ↓aF, ↓aA, ↓aw, List.filterMap_cons, List.filterMap_nil, ↓bH, ↓cP, b7, bQ, bW, bO, dD, ↓strR, ↓joinM, ↓bN, ↓aB, ↓bP, List.nodup_cons, List.nodup_nil, List.not_mem_nil, not_false_eq_true, ↓am]) (by omega) rfl (fun o ho => ⟨[v0, v1, v2, .im (.lst ((st.map d9).map .int)), v4, v5, .im (.int (d9 o))], rfl, fun Q E => rfl, fun Q E => rfl, fun _ Q E => ?_⟩) Q E).trans ?_
  · generalize (st.map d9).map D.int = ws at *
    have eqi : ∀ (a b : Int) (env : List DL.Slot) Q E, lu (.int a) (.int b) env Q E = Q (.bl (a == b)) env := fun a b env Q E => propext ⟨fun z => z.2, fun z => ⟨⟨rfl, rfl⟩, z⟩⟩
    cases o with
    | none => simp only [oD, d9, ↓eqi, ↓aL, ↓aP, ↓aM, ↓aE, ↓aS, ↓ai, ↓getO, ↓putO, ↓setI, ↓setO, ac, aa, List.set_cons_zero, List.set_cons_succ, ↓bc, ↓dq, ↓aN, ↓dY, ↓cV, ↓eG, ↓notB, ↓dh, ↓dw, ↓dP, ↓cA, ↓fG, ↓ak, ↓ao, ↓aZ, ↓cI, ↓lstM, ↓bK, ↓cF, ↓bj, ↓du, ↓callN, ↓callA, ↓cN, ↓split1, ↓callD, ↓call1, ↓callK, ↓cO, ↓putS, ↓cG, ↓cz, ↓dX, ↓eY, ↓cB, ↓cE, D.kind, CT.is, ↓fh, ↓fB, ↓fD, ↓fF, ↓cy, ↓cW, ↓cK, ↓cJ, ↓bM, ↓di, ↓aH, ↓aC, ↓cS, ↓dc, ↓dB, ↓DL.intD, ↓bU, ↓bT, ↓dz, ↓de, ↓e6, ↓e9, ↓aJ, ↓cR, ↓olist, ↓fE, ↓fC, ↓bF, ↓bR, ↓bC, ↓ck, ↓cj, ↓dj, ↓oset, ↓fH, ↓bS, ↓bJ, ↓cY, ↓dy, ↓cM, ↓bB, ↓bf, ↓aI, ↓bh, ↓cL, ↓bu, ↓dC, ↓vD, ↓vO, ↓oins, ↓fJ, ↓bL, bx, ↓bA, aK, ↓fc, ↓DL.cU, ↓cX, ↓bv, ↓bD, ↓bV, ↓bz, ↓fj, Option.map, List.map_cons, List.map_nil, List.cons_append, List.nil_append, List.length_cons, List.length_nil, List.replicate, Nat.reduceAdd, Nat.reduceSub, Nat.sub_self, Bool.not_true, Bool.not_false, ↓if_true, ↓if_false, ↓ite_true, ↓ite_false, true_and, and_true, Bool.true_eq_false, Bool.false_eq_true, reduceIte, aD, cg, b9, b8, bZ, bY, bX, ↓aW, ↓aU, ↓aV, ↓aT, ↓aR, ↓aQ, aO, cZ, ↓au, ↓ay, ↓az, ↓aj, fA, fy, fx, fw, fv, fu, ft, fo, fk, forall_const, fS, fR, fQ, fP, fO, fN, fM, fL, fK, aX, ↓aF, ↓aA, ↓aw, List.filterMap_cons, List.filterMap_nil, ↓bH, ↓cP, b7, bQ, bW, bO, dD, ↓strR, ↓joinM, ↓bN, ↓aB, ↓bP, List.nodup_cons, List.nodup_nil, List.not_mem_nil, not_false_eq_true, ↓am]; rfl
    | some i =>
      have := S.lo i ho
      have e0 : (i + 1 == (0 : Int)) = false := by rw [beq_eq_false_iff_ne]; omega
      have e1 : i + 1 - 1 = i := by omega
      simp only [oD, d9, ↓eqi, e0, e1, ↓aL, ↓aP, ↓aM, ↓aE, ↓aS, ↓ai, ↓getO, ↓putO, ↓setI, ↓setO, ac, aa, List.set_cons_zero, List.set_cons_succ, ↓bc, ↓dq, ↓aN, ↓dY, ↓cV, ↓eG, ↓notB, ↓dh, ↓dw, ↓dP, ↓cA, ↓fG, ↓ak, ↓ao, ↓aZ, ↓cI, ↓lstM, ↓bK, ↓cF, ↓bj, ↓du, ↓callN, ↓callA, ↓cN, ↓split1, ↓callD, ↓call1, ↓callK, ↓cO, ↓putS, ↓cG, ↓cz, ↓dX, ↓eY, ↓cB, ↓cE, D.kind, CT.is, ↓fh, ↓fB, ↓fD, ↓fF, ↓cy, ↓cW, ↓cK, ↓cJ, ↓bM, ↓di, ↓aH, ↓aC, ↓cS, ↓dc, ↓dB, ↓DL.intD, ↓bU, ↓bT, ↓dz, ↓de, ↓e6, ↓e9, ↓aJ, ↓cR, ↓olist, ↓fE, ↓fC, ↓bF, ↓bR, ↓bC, ↓ck, ↓cj, ↓dj, ↓oset, ↓fH, ↓bS, ↓bJ, ↓cY, ↓dy, ↓cM, ↓bB, ↓bf, ↓aI, ↓bh, ↓cL, ↓bu, ↓dC, ↓vD, ↓vO, ↓oins, ↓fJ, ↓bL, bx, ↓bA, aK, ↓fc, ↓DL.cU, ↓cX, ↓bv, ↓bD, ↓bV, ↓bz, ↓fj, Option.map, List.map_cons, List.map_nil, List.cons_append, List.nil_append, List.length_cons, List.length_nil, List.replicate, Nat.reduceAdd, Nat.reduceSub, Nat.sub_self, Bool.not_true, Bool.not_false, ↓if_true, ↓if_false, ↓ite_true, ↓ite_false, true_and, and_true, Bool.true_eq_false, Bool.false_eq_true, reduceIte, aD, cg, b9, b8, bZ, bY, bX, ↓aW, ↓aU, ↓aV, ↓aT, ↓aR, ↓aQ, aO, cZ, ↓au, ↓ay, ↓az, ↓aj, fA, fy, fx, fw, fv, fu, ft, fo, fk, forall_const, fS, fR, fQ, fP, fO, fN, fM, fL, fK, aX, ↓aF, ↓aA, ↓aw, List.filterMap_cons, List.filterMap_nil, ↓bH, ↓cP, b7, bQ, bW, bO, dD, ↓strR, ↓joinM, ↓bN, ↓aB, ↓bP, List.nodup_cons, List.nodup_nil, List.not_mem_nil, not_false_eq_true, ↓am]
  · rw [List.filter_eq_self.mpr fun _ _ => rfl]
theorem tR (Q E) : eW C [.im (.byt (eF g s st))] Q E = Q (.d (.tup [.hall g s, eE st])) [.im (.byt (eF g s st))] := by
  have hg := S.hg
  have hs := S.hs
  have hl := S.len
  obtain ⟨f1, f2, f3⟩ := j4 S
  have bi := ro S
  have sz := mQ S
  have rb : bI (byteArr (eZ g s st)) = eZ g s st := bi_make (pU S)
  have ib : bI (byteArr (g :: s :: st.map d9)) = g :: s :: st.map d9 := bi_make (yg S)
  have rl : (eZ g s st).length = (ef g s st).length - 1 := by unfold ef; simp
  have is1 : ∀ (env : List DL.Slot) Q E, cE .bytes (.byt (eF g s st)) env Q E = Q (.bl true) env := fun env Q E => rfl
  have ln : ∀ (env : List DL.Slot) Q E, qP (.byt (eF g s st)) env Q E = Q (.int (ef g s st).length) env := fun env Q E => by
    simp only [qP]
    rw [bi]
    exact propext ⟨fun z => z.2, fun z => ⟨by rw [sz]; omega, z⟩⟩
  have lt : ∀ (env : List DL.Slot) Q E, fh (.int (ef g s st).length) (.int 5) env Q E = Q (.bl false) env := fun env Q E => by
    show Q (.bl (decide (((ef g s st).length : Int) < 5))) env = _
    rw [decide_eq_false (by omega)]
  have i0 : ∀ (env : List DL.Slot) Q E, ph (.byt (eF g s st)) (.int 0) env Q E = Q (.int 87) env := fun env Q E => by
    simp only [ph]
    rw [bi]
    exact propext ⟨fun z => z.2, fun z => ⟨⟨by rw [sz]; omega, by rw [sz]; omega, by rw [sz]; omega⟩, z⟩⟩
  have i1 : ∀ (env : List DL.Slot) Q E, ph (.byt (eF g s st)) (.int (-1)) env Q E = Q (.int ((eZ g s st).sum % 251)) env := fun env Q E => by
    have e : (ef g s st).getD (if (-1 : Int) < 0 then -1 + ((eF g s st).size : Int) else -1).toNat 0 = (eZ g s st).sum % 251 := by
      rw [if_pos (by decide), sz, show (-1 + ((ef g s st).length : Int)).toNat = (eZ g s st).length by omega]
      unfold ef
      rw [List.getD_eq_getElem?_getD, List.getElem?_append_right (Nat.le_refl _), Nat.sub_self]
      rfl
    simp only [ph]
    rw [bi, e]
    exact propext ⟨fun z => z.2, fun z => ⟨⟨by rw [sz]; omega, by rw [sz]; omega, by rw [sz]; omega⟩, z⟩⟩
  have s1 : ∀ (env : List DL.Slot) Q E, pQ (.byt (eF g s st)) none (some (-1)) env Q E = Q (.byt (byteArr (eZ g s st))) env := fun env Q E => by
    simp only [pQ]
    rw [tP]
    exact propext ⟨fun z => z.2, fun z => ⟨by rw [sz]; omega, z⟩⟩
  have s2 : ∀ (env : List DL.Slot) Q E, pQ (.byt (eF g s st)) (some 1) (some (-1)) env Q E = Q (.byt (byteArr (g :: s :: st.map d9))) env := fun env Q E => by
    simp only [pQ]
    rw [tN]
    exact propext ⟨fun z => z.2, fun z => ⟨by rw [sz]; omega, z⟩⟩
  have sm : ∀ (env : List DL.Slot) Q E, qC (.byt (byteArr (eZ g s st))) env Q E = Q (.int (eZ g s st).sum) env := fun env Q E => by
    simp only [qC]
    rw [rb]
    exact propext ⟨fun z => z.2, fun z => ⟨by rw [byteArr_size]; omega, z⟩⟩
  have nei : ∀ (a : Int) (env : List DL.Slot) Q E, ki (.int a) (.int a) env Q E = Q (.bl false) env := fun a env Q E => by
    have e : eqv (.int a) (.int a) = true := beq_self_eq_true a
    show ((_ ∧ _) ∧ Q (.bl (!eqv (.int a) (.int a))) env) = _
    rw [e]
    exact propext ⟨fun z => z.2, fun z => ⟨⟨rfl, rfl⟩, z⟩⟩
  have sv : ∀ (v0 : DL.Slot) Q E, jV 2 [setI 1, setI 2, setI 3] (.byt (byteArr (g :: s :: st.map d9))) [v0, .no, .no, .no, .no, .no, .no] Q E = Q () [v0, .im (.int g), .im (.int s), .im (.lst ((st.map d9).map .int)), .no, .no, .no] := fun v0 Q E => by
    simp only [jV]
    rw [ib]
    exact propext ⟨fun z => z.2, fun z => ⟨⟨by rw [byteArr_size]; show 2 ≤ (st.map d9).length + 1 + 1; omega, by rw [byteArr_size]; show (st.map d9).length + 1 + 1 ≤ _; rw [List.length_map]; omega⟩, z⟩⟩
  have w1 := jw C g 1 24
  have w2 := jw C s 0 6
  have e1 : (decide ((1:Int) ≤ g) && decide (g ≤ 24)) = true := by simp [hg]
  have e2 : (decide ((0:Int) ≤ s) && decide (s ≤ 6)) = true := by simp [hs]
  rw [e1] at w1
  rw [e2] at w2
  have pin := fun x => pZ C x g s hg hs
  have is := qI C S
  have qu := fun v0 v1 v2 v4 v5 => tG C S v0 v1 v2 v4 v5
  have tupS : ∀ (env : List DL.Slot) Q E, de (.lst (st.map oD)) env Q E = Q (eE st) env := fun _ _ _ => rfl
  have z0 : (0 ≤ sizeLine) = True := eq_true (Nat.zero_le _)
  have z1 : (1 ≤ sizeLine) = True := eq_true (by rw [sizeLine_eq]; decide)
  have z2 : (2 ≤ sizeLine) = True := eq_true (by rw [sizeLine_eq]; decide)
  have ng : ∀ (env : List DL.Slot) Q E, cS (.int 1) env Q E = Q (.int (-1)) env := fun _ _ _ => rfl
  have d251 : (0 : Int) < 251 := by decide
  generalize ((ef g s st).length : Int) = fl at *
  generalize (eZ g s st).sum = rs at *
  generalize byteArr (eZ g s st) = br at *
  generalize byteArr (g :: s :: st.map d9) = bn at *
  generalize eF g s st = pb at *
  generalize (st.map d9).map D.int = ws at *
  generalize st.map oD = os at *
  generalize eE st = sd at *
  simp only [↓eW, ↓iG, ↓is1, ↓ln, ↓lt, ↓i0, ↓ng, ↓i1, ↓s1, ↓s2, ↓sm, ↓nei, ↓sv, ↓w1, ↓w2, ↓pin, ↓qu, ↓tupS, ↓is, z0, z1, z2, d251, Bool.not_true, Bool.not_false, ↓aL, ↓aP, ↓aM, ↓aE, ↓aS, ↓ai, ↓getO, ↓putO, ↓setI, ↓setO, ac, aa, List.set_cons_zero, List.set_cons_succ, ↓bc, ↓dq, ↓aN, ↓dY, ↓cV, ↓eG, ↓notB, ↓dh, ↓dw, ↓dP, ↓cA, ↓fG, ↓ak, ↓ao, ↓aZ, ↓cI, ↓lstM, ↓bK, ↓cF, ↓bj, ↓du, ↓callN, ↓callA, ↓cN, ↓split1, ↓callD, ↓call1, ↓callK, ↓cO, ↓putS, ↓cG, ↓cz, ↓dX, ↓eY, ↓cB, D.kind, CT.is, ↓fB, ↓fD, ↓fF, ↓cy, ↓cW, ↓cK, ↓cJ, ↓bM, ↓di, ↓aH, ↓aC, ↓dc, ↓dB, ↓DL.intD, ↓bU, ↓bT, ↓dz, ↓e6, ↓e9, ↓aJ, ↓cR, ↓olist, ↓fE, ↓fC, ↓bF, ↓bR, ↓bC, ↓ck, ↓cj, ↓dj, ↓oset, ↓fH, ↓bS, ↓bJ, ↓cY, ↓dy, ↓cM, ↓bB, ↓bf, ↓aI, ↓bh, ↓cL, ↓bu, ↓dC, ↓vD, ↓vO, ↓oins, ↓fJ, ↓bL, bx, ↓bA, aK, ↓fc, ↓DL.cU, ↓cX, ↓bv, ↓bD, ↓bV, ↓bz, ↓fj, Option.map, List.map_cons, List.map_nil, List.cons_append, List.nil_append, List.length_cons, List.length_nil, List.replicate, Nat.reduceAdd, Nat.reduceSub, Nat.sub_self, Bool.not_true, Bool.not_false, ↓if_true, ↓if_false, ↓ite_true, ↓ite_false, true_and, and_true, Bool.true_eq_false, Bool.false_eq_true, reduceIte, aD, cg, b9, b8, bZ, bY, bX, ↓aW, ↓aU, ↓aV, ↓aT, ↓aR, ↓aQ, aO, cZ, ↓au, ↓ay, ↓az, ↓aj, fA, fy, fx, fw, fv, fu, ft, fo, fk, forall_const, fS, fR, fQ, fP, fO, fN, fM, fL, fK, aX, ↓aF, ↓aA, ↓aw, List.filterMap_cons, List.filterMap_nil, ↓bH, ↓cP, b7, bQ, bW, bO, dD, ↓strR, ↓joinM, ↓bN, ↓aB, ↓bP, List.nodup_cons, List.nodup_nil, List.not_mem_nil, not_false_eq_true, ↓am]
theorem xB (v3 : DL.Slot) (Q E) : mG C [.im (.int g), .im (.int s), .im (eE st), v3, .no] Q E = Q (.lst ((st.map d9).map .int)) [.im (.int g), .im (.int s), .im (eE st), v3, .no] := by
  have hg := S.hg
  have hl := S.len
  unfold mG
  refine (gr (env := [.im (.int g), .im (.int s), .im (eE st), v3, .no]) st oD (fun _ => true) (fun o => .int (d9 o)) (fun Q E => by rfl) (by omega) rfl (fun o ho => ⟨[.im (.int g), .im (.int s), .im (eE st), v3, .im (oD o)], rfl, fun Q E => rfl, fun Q E => rfl, fun _ Q E => ?_⟩) Q E).trans ?_
  · generalize eE st = sd
    cases o <;> simp only [oD, d9, ↓aL, ↓aP, ↓aM, ↓aE, ↓aS, ↓ai, ↓getO, ↓putO, ↓setI, ↓setO, ac, aa, List.set_cons_zero, List.set_cons_succ, ↓bc, ↓dq, ↓aN, ↓dY, ↓cV, ↓eG, ↓notB, ↓dh, ↓dw, ↓dP, ↓cA, ↓fG, ↓ak, ↓ao, ↓aZ, ↓cI, ↓lstM, ↓bK, ↓cF, ↓bj, ↓du, ↓callN, ↓callA, ↓cN, ↓split1, ↓callD, ↓call1, ↓callK, ↓cO, ↓putS, ↓cG, ↓cz, ↓dX, ↓eY, ↓cB, ↓cE, D.kind, CT.is, ↓fh, ↓fB, ↓fD, ↓fF, ↓cy, ↓cW, ↓cK, ↓cJ, ↓bM, ↓di, ↓aH, ↓aC, ↓cS, ↓dc, ↓dB, ↓DL.intD, ↓bU, ↓bT, ↓dz, ↓de, ↓e6, ↓e9, ↓aJ, ↓cR, ↓olist, ↓fE, ↓fC, ↓bF, ↓bR, ↓bC, ↓ck, ↓cj, ↓dj, ↓oset, ↓fH, ↓bS, ↓bJ, ↓cY, ↓dy, ↓cM, ↓bB, ↓bf, ↓aI, ↓bh, ↓cL, ↓bu, ↓dC, ↓vD, ↓vO, ↓oins, ↓fJ, ↓bL, bx, ↓bA, aK, ↓fc, ↓DL.cU, ↓cX, ↓bv, ↓bD, ↓bV, ↓bz, ↓fj, Option.map, List.map_cons, List.map_nil, List.cons_append, List.nil_append, List.length_cons, List.length_nil, List.replicate, Nat.reduceAdd, Nat.reduceSub, Nat.sub_self, Bool.not_true, Bool.not_false, ↓if_true, ↓if_false, ↓ite_true, ↓ite_false, true_and, and_true, Bool.true_eq_false, Bool.false_eq_true, reduceIte, aD, cg, b9, b8, bZ, bY, bX, ↓aW, ↓aU, ↓aV, ↓aT, ↓aR, ↓aQ, aO, cZ, ↓au, ↓ay, ↓az, ↓aj, fA, fy, fx, fw, fv, fu, ft, fo, fk, forall_const, fS, fR, fQ, fP, fO, fN, fM, fL, fK, aX, ↓aF, ↓aA, ↓aw, List.filterMap_cons, List.filterMap_nil, ↓bH, ↓cP, b7, bQ, bW, bO, dD, ↓strR, ↓joinM, ↓bN, ↓aB, ↓bP, List.nodup_cons, List.nodup_nil, List.not_mem_nil, not_false_eq_true, ↓am]
  · rw [List.filter_eq_self.mpr fun _ _ => rfl, List.map_map]; rfl
theorem xN (Q E) : n9 C [.im (.int g), .im (.int s), .im (eE st)] Q E = Q (.d (.lst ((ef g s st).map .int))) [.im (.int g), .im (.int s), .im (eE st)] := by
  have hg := S.hg
  have hl := S.len
  have q := fun v3 => xB C S v3
  have fl := (j4 S).2.1
  have y1 : (3 ≤ sizeLine) = True := eq_true (by rw [sizeLine_eq]; decide)
  have y2 : (2 ≤ sizeLine) = True := eq_true (by rw [sizeLine_eq]; decide)
  have y3 : (1 ≤ sizeLine) = True := eq_true (by rw [sizeLine_eq]; decide)
  have y4 : (0 ≤ sizeLine) = True := eq_true (Nat.zero_le _)
  have a1 : ∀ (env : List DL.Slot) Q E, cy (.lst [.int 87, .int g, .int s]) (.lst ((st.map d9).map .int)) env Q E = Q (.lst ((eZ g s st).map .int)) env := fun env Q E => propext ⟨fun z => z.2, fun z => ⟨by
    show 3 + ((st.map d9).map D.int).length ≤ sizeLine
    rw [List.length_map, List.length_map, sizeLine_eq]; omega, z⟩⟩
  have a2 : ∀ (env : List DL.Slot) Q E, cP (.lst ((eZ g s st).map .int)) env Q E = Q (.int (eZ g s st).sum) env := fun env Q E => by
    unfold cP
    simp only [iB]
    rfl
  have a3 : ∀ (env : List DL.Slot) Q E, cy (.lst ((eZ g s st).map .int)) (.lst [.int ((eZ g s st).sum % 251)]) env Q E = Q (.lst ((ef g s st).map .int)) env := fun env Q E => by
    have e : (ef g s st).map D.int = (eZ g s st).map .int ++ [.int ((eZ g s st).sum % 251)] := by unfold ef; rw [List.map_append]; rfl
    rw [e]
    exact propext ⟨fun z => z.2, fun z => ⟨by
      show ((eZ g s st).map D.int).length + 1 ≤ sizeLine
      have : (ef g s st).length = (eZ g s st).length + 1 := by unfold ef; simp
      rw [List.length_map, sizeLine_eq]; omega, z⟩⟩
  generalize (eZ g s st).sum = sm at *
  generalize (ef g s st).map D.int = fd at *
  generalize (eZ g s st).map D.int = rd at *
  generalize (st.map d9).map D.int = nd at *
  generalize eE st = sd at *
  have d251 : (0 : Int) < 251 := by decide
  simp only [↓n9, ↓uf, ↓q, ↓a1, ↓a2, ↓a3, y1, y2, y3, y4, d251, ↓aL, ↓aP, ↓aM, ↓aE, ↓aS, ↓ai, ↓getO, ↓putO, ↓setI, ↓setO, ac, aa, List.set_cons_zero, List.set_cons_succ, ↓bc, ↓dq, ↓aN, ↓dY, ↓cV, ↓eG, ↓notB, ↓dh, ↓dw, ↓dP, ↓cA, ↓fG, ↓ak, ↓ao, ↓aZ, ↓cI, ↓lstM, ↓bK, ↓cF, ↓bj, ↓du, ↓callN, ↓callA, ↓cN, ↓split1, ↓callD, ↓call1, ↓callK, ↓cO, ↓putS, ↓cG, ↓cz, ↓dX, ↓eY, ↓cB, ↓cE, D.kind, CT.is, ↓fh, ↓fB, ↓fD, ↓fF, ↓cW, ↓cK, ↓cJ, ↓bM, ↓di, ↓aH, ↓aC, ↓cS, ↓dc, ↓dB, ↓DL.intD, ↓bU, ↓bT, ↓dz, ↓de, ↓e6, ↓e9, ↓aJ, ↓cR, ↓olist, ↓fE, ↓fC, ↓bF, ↓bR, ↓bC, ↓ck, ↓cj, ↓dj, ↓oset, ↓fH, ↓bS, ↓bJ, ↓cY, ↓dy, ↓cM, ↓bB, ↓bf, ↓aI, ↓bh, ↓cL, ↓bu, ↓dC, ↓vD, ↓vO, ↓oins, ↓fJ, ↓bL, bx, ↓bA, aK, ↓fc, ↓DL.cU, ↓cX, ↓bv, ↓bD, ↓bV, ↓bz, ↓fj, Option.map, List.map_cons, List.map_nil, List.cons_append, List.nil_append, List.length_cons, List.length_nil, List.replicate, Nat.reduceAdd, Nat.reduceSub, Nat.sub_self, Bool.not_true, Bool.not_false, ↓if_true, ↓if_false, ↓ite_true, ↓ite_false, true_and, and_true, Bool.true_eq_false, Bool.false_eq_true, reduceIte, aD, cg, b9, b8, bZ, bY, bX, ↓aW, ↓aU, ↓aV, ↓aT, ↓aR, ↓aQ, aO, cZ, ↓au, ↓ay, ↓az, ↓aj, fA, fy, fx, fw, fv, fu, ft, fo, fk, forall_const, fS, fR, fQ, fP, fO, fN, fM, fL, fK, aX, ↓aF, ↓aA, ↓aw, List.filterMap_cons, List.filterMap_nil, ↓bH, b7, bQ, bW, bO, dD, ↓strR, ↓joinM, ↓bN, ↓aB, ↓bP, List.nodup_cons, List.nodup_nil, List.not_mem_nil, not_false_eq_true, ↓am]
end
end
section
theorem yQ {g s : Int} {st : Sd} (S : Stand g s st) {o : Option Int} (h : o ∈ st) : Row (oD o) 0 0 := by
  cases o with
  | none => exact Row.non
  | some i => exact Row.int (by have := S.bd i h; have := S.hg; have := S.hs; omega)
theorem xx {g s : Int} {st : Sd} (S : Stand g s st) : Row (eE st) 1 24 := by
  refine (Row.tup (n := 0) (b := 0) fun o h => yQ S h).mono (Nat.le_refl _) ?_
  have := S.len; have := S.hg; omega
theorem tj {g s : Int} {st : Sd} (S : Stand g s st) : tm (eE st) = true := (xx S).rep rfl (by decide) (by decide)
theorem uT {g s : Int} {st : Sd} (S : Stand g s st) : ig (.str (gI g s st)) = true := by
  have hg := S.hg
  have hs := S.hs
  have nd : ∀ (n c : Nat), c ∈ TL.numL n → c < 0x110000 := fun n c h => by
    have := TL.numL_digits n c h
    omega
  have al : ∀ c ∈ TL.tl (gI g s st), c < 0x110000 := fun c hc => by
    unfold gI at hc
    rw [TL.tl_append, TL.tl_append, qz (by omega) (by omega), nG S.lo] at hc
    rcases List.mem_append.mp hc with hc | hc
    · rcases List.mem_append.mp hc with hc | hc
      · rcases List.mem_append.mp hc with hc | hc
        · exact nd _ c hc
        · rcases List.mem_cons.mp hc with e | hc
          · omega
          · exact nd _ c hc
      · have : c = 58 := List.mem_singleton.mp hc
        omega
    · obtain ⟨o, ho, hc⟩ := List.mem_flatMap.mp hc
      rcases List.mem_cons.mp hc with e | hc
      · omega
      · cases o with
        | none => have : c = 45 := List.mem_singleton.mp hc; omega
        | some i => exact nd _ c hc
  show (gI g s st).cps.all (· < 0x110000) = true
  rw [← Array.all_toList, List.all_eq_true]
  exact fun c hc => decide_eq_true (al c hc)
theorem ud {t : Str} (h : ig (.str t) = true) (env : List DL.Slot) (Q E) : ki (.lst [.str t, .str t, .str t]) (.lst [.str t, .str t, .str t]) env Q E = Q (.bl false) env := by
  have ok : gq (.lst [.str t, .str t, .str t]) = true := by
    have p : ig (.lst [.str t, .str t, .str t]) = true := by show (ig (.str t) && (ig (.str t) && (ig (.str t) && true))) = true; rw [h]; rfl
    unfold gq
    rw [p, decide_eq_true (by simp only [py, jW, PyData.depth, PyData.depthAll]; decide)]; rfl
  have e : eqv (.lst [.str t, .str t, .str t]) (.lst [.str t, .str t, .str t]) = true := by
    show ((t == t) && ((t == t) && ((t == t) && true))) = true
    simp
  rw [qL (fun s e => by cases e) ok ok, e]; rfl
theorem y7 : ∀ l : List Int, iN (l.map .int) = true ∧ PyData.depthAll (jW (l.map .int)) ≤ 0
  | [] => ⟨rfl, Nat.le_refl _⟩
  | i :: l => by
    obtain ⟨a, b⟩ := y7 l
    refine ⟨?_, ?_⟩
    · show (true && iN (l.map .int)) = true; rw [a]; rfl
    · show max 0 (PyData.depthAll (jW (l.map .int))) ≤ 0; omega
theorem w3 : ∀ l : List Int, PyData.eqvAll (jW (l.map D.int)) (jW (l.map D.int)) = true
  | [] => rfl
  | x :: l => by
    show ((x == x) && PyData.eqvAll (jW (l.map D.int)) (jW (l.map D.int))) = _
    rw [w3 l]; simp
theorem vA (l : List Int) (env : List DL.Slot) (Q E) : ki (.lst (l.map .int)) (.lst (l.map .int)) env Q E = Q (.bl false) env := by
  obtain ⟨a, b⟩ := y7 l
  have ok : gq (.lst (l.map .int)) = true := by
    unfold gq
    rw [show ig (.lst (l.map D.int)) = true from a, decide_eq_true (show (py (.lst (l.map D.int))).depth ≤ 64 by show PyData.depthAll (jW (l.map .int)) + 1 ≤ 64; omega)]; rfl
  have e : eqv (.lst (l.map D.int)) (.lst (l.map D.int)) = true := w3 l
  rw [qL (fun s e => by cases e) ok ok, e]; rfl
theorem wm {z : Str} {a b : Nat} {r : List Nat} (h : z.cps.toList = a :: b :: r) : cutS z none (some 2) = (⟨#[a, b]⟩ : Str) := by
  have hl : z.length = r.length + 2 := by
    have : z.length = z.cps.toList.length := by simp [Str.length]
    rw [this, h]; rfl
  have e : HT.sIx z.length z.length (some 2) = 2 := by
    rw [hl]
    show min (2 : Int).toNat (r.length + 2) = 2
    rw [show (2 : Int).toNat = 2 from rfl]
    omega
  unfold cutS
  rw [e, h]
  rfl
section
variable (C : Addr)
theorem xP (g s : Int) (Q E) : hH C [.im (.hall g s), .im (.hall g s)] Q E = Q (.d (.bl true)) [.im (.hall g s), .im (.hall g s)] := by
  have e : ∀ (env : List DL.Slot) Q E, lu (.tup [.int g, .int s]) (.tup [.int g, .int s]) env Q E = Q (.bl true) env := fun env Q E => by
    have ok : gq (.tup [.int g, .int s]) = true := by
      unfold gq
      rw [show ig (.tup [D.int g, D.int s]) = true from rfl, decide_eq_true (by simp only [py, jW, PyData.depth, PyData.depthAll]; decide)]; rfl
    have e : eqv (.tup [.int g, .int s]) (.tup [.int g, .int s]) = true := by
      show ((g == g) && ((s == s) && true)) = true
      simp
    rw [wb (fun s e => by cases e) ok ok, e]
  have z2 : (2 ≤ sizeLine) = True := eq_true (by rw [sizeLine_eq]; decide)
  have i : ∀ (env : List DL.Slot) Q E, cE .hall (.hall g s) env Q E = Q (.bl true) env := fun _ _ _ => rfl
  simp only [↓hH, ↓m8, ↓e, ↓i, z2, ↓aL, ↓aP, ↓aM, ↓aE, ↓aS, ↓ai, ↓getO, ↓putO, ↓setI, ↓setO, ac, aa, List.set_cons_zero, List.set_cons_succ, ↓bc, ↓dq, ↓aN, ↓dY, ↓cV, ↓eG, ↓notB, ↓dh, ↓dw, ↓dP, ↓cA, ↓fG, ↓ak, ↓ao, ↓aZ, ↓cI, ↓lstM, ↓bK, ↓cF, ↓bj, ↓du, ↓callN, ↓callA, ↓cN, ↓split1, ↓callD, ↓call1, ↓callK, ↓cO, ↓putS, ↓cG, ↓cz, ↓dX, ↓eY, ↓cB, D.kind, CT.is, ↓fh, ↓fB, ↓fD, ↓fF, ↓cy, ↓cW, ↓cK, ↓cJ, ↓bM, ↓di, ↓aH, ↓aC, ↓cS, ↓dc, ↓dB, ↓DL.intD, ↓bU, ↓bT, ↓dz, ↓de, ↓e6, ↓e9, ↓aJ, ↓cR, ↓olist, ↓fE, ↓fC, ↓bF, ↓bR, ↓bC, ↓ck, ↓cj, ↓dj, ↓oset, ↓fH, ↓bS, ↓bJ, ↓cY, ↓dy, ↓cM, ↓bB, ↓bf, ↓aI, ↓bh, ↓cL, ↓bu, ↓dC, ↓vD, ↓vO, ↓oins, ↓fJ, ↓bL, bx, ↓bA, aK, ↓fc, ↓DL.cU, ↓cX, ↓bv, ↓bD, ↓bV, ↓bz, ↓fj, Option.map, List.map_cons, List.map_nil, List.cons_append, List.nil_append, List.length_cons, List.length_nil, List.replicate, Nat.reduceAdd, Nat.reduceSub, Nat.sub_self, Bool.not_true, Bool.not_false, ↓if_true, ↓if_false, ↓ite_true, ↓ite_false, true_and, and_true, Bool.true_eq_false, Bool.false_eq_true, reduceIte, aD, cg, b9, b8, bZ, bY, bX, ↓aW, ↓aU, ↓aV, ↓aT, ↓aR, ↓aQ, aO, cZ, ↓au, ↓ay, ↓az, ↓aj, fA, fy, fx, fw, fv, fu, ft, fo, fk, forall_const, fS, fR, fQ, fP, fO, fN, fM, fL, fK, aX, ↓aF, ↓aA, ↓aw, List.filterMap_cons, List.filterMap_nil, ↓bH, ↓cP, b7, bQ, bW, bO, dD, ↓strR, ↓joinM, ↓bN, ↓aB, ↓bP, List.nodup_cons, List.nodup_nil, List.not_mem_nil, not_false_eq_true, ↓am]
theorem um (g s : Int) (env : List DL.Slot) (Q E) : pj (hH C) true (.hall g s) (.hall g s) env Q E = Q (.bl false) env := by
  have h := xP C g s
  have e : pj (hH C) true (.hall g s) (.hall g s) = aq (callD (hH C) [.hall g s, .hall g s]) (boolR true) := rfl
  rw [e]
  simp only [↓h, ↓boolR, ↓aL, ↓aP, ↓aM, ↓aE, ↓aS, ↓ai, ↓getO, ↓putO, ↓setI, ↓setO, ac, aa, List.set_cons_zero, List.set_cons_succ, ↓bc, ↓dq, ↓aN, ↓dY, ↓cV, ↓eG, ↓notB, ↓dh, ↓dw, ↓dP, ↓cA, ↓fG, ↓ak, ↓ao, ↓aZ, ↓cI, ↓lstM, ↓bK, ↓cF, ↓bj, ↓du, ↓callN, ↓callA, ↓cN, ↓split1, ↓callD, ↓call1, ↓callK, ↓cO, ↓putS, ↓cG, ↓cz, ↓dX, ↓eY, ↓cB, ↓cE, D.kind, CT.is, ↓fh, ↓fB, ↓fD, ↓fF, ↓cy, ↓cW, ↓cK, ↓cJ, ↓bM, ↓di, ↓aH, ↓aC, ↓cS, ↓dc, ↓dB, ↓DL.intD, ↓bU, ↓bT, ↓dz, ↓de, ↓e6, ↓e9, ↓aJ, ↓cR, ↓olist, ↓fE, ↓fC, ↓bF, ↓bR, ↓bC, ↓ck, ↓cj, ↓dj, ↓oset, ↓fH, ↓bS, ↓bJ, ↓cY, ↓dy, ↓cM, ↓bB, ↓bf, ↓aI, ↓bh, ↓cL, ↓bu, ↓dC, ↓vD, ↓vO, ↓oins, ↓fJ, ↓bL, bx, ↓bA, aK, ↓fc, ↓DL.cU, ↓cX, ↓bv, ↓bD, ↓bV, ↓bz, ↓fj, Option.map, List.map_cons, List.map_nil, List.cons_append, List.nil_append, List.length_cons, List.length_nil, List.replicate, Nat.reduceAdd, Nat.reduceSub, Nat.sub_self, Bool.not_true, Bool.not_false, ↓if_true, ↓if_false, ↓ite_true, ↓ite_false, true_and, and_true, Bool.true_eq_false, Bool.false_eq_true, reduceIte, aD, cg, b9, b8, bZ, bY, bX, ↓aW, ↓aU, ↓aV, ↓aT, ↓aR, ↓aQ, aO, cZ, ↓au, ↓ay, ↓az, ↓aj, fA, fy, fx, fw, fv, fu, ft, fo, fk, forall_const, fS, fR, fQ, fP, fO, fN, fM, fL, fK, aX, ↓aF, ↓aA, ↓aw, List.filterMap_cons, List.filterMap_nil, ↓bH, ↓cP, b7, bQ, bW, bO, dD, ↓strR, ↓joinM, ↓bN, ↓aB, ↓bP, List.nodup_cons, List.nodup_nil, List.not_mem_nil, not_false_eq_true, ↓am]
end
end
section
section
variable (C : Addr) {g s : Int} {st : Sd} (S : Stand g s st)
include S
theorem pX (v0 v1 v2 v4 v6 v7 : DL.Slot) (Q E) : jS C [v0, v1, v2, .im (.hall g s), v4, .im (.str (lJ (eE st))), v6, v7, .im (.tup [.hall g s, eE st])] Q E = Q .nx [v0, v1, v2, .im (.hall g s), v4, .im (.str (lJ (eE st))), v6, v7, .im (.tup [.hall g s, eE st])] := by
  have rp := oL (tj S)
  have hq := um C g s
  have i0 : ∀ (env : List DL.Slot) Q E, jI (.tup [.hall g s, eE st]) (.int 0) env Q E = Q (.hall g s) env := fun _ _ _ => rfl
  have i1 : ∀ (env : List DL.Slot) Q E, jI (.tup [.hall g s, eE st]) (.int 1) env Q E = Q (eE st) env := fun _ _ _ => rfl
  have it : ∀ (env : List DL.Slot) Q E, cE .tuple (.tup [.hall g s, eE st]) env Q E = Q (.bl true) env := fun _ _ _ => rfl
  have ih : ∀ (env : List DL.Slot) Q E, cE .hall (.hall g s) env Q E = Q (.bl true) env := fun _ _ _ => rfl
  have ln : ∀ (env : List DL.Slot) Q E, dc (.tup [.hall g s, eE st]) env Q E = Q (.int 2) env := fun _ _ _ => rfl
  have n2 : ∀ (env : List DL.Slot) Q E, ki (.int 2) (.int 2) env Q E = Q (.bl false) env := fun env Q E => propext ⟨fun z => z.2, fun z => ⟨⟨rfl, rfl⟩, z⟩⟩
  have ns : ∀ (t : Str) (env : List DL.Slot) Q E, ki (.str t) (.str t) env Q E = Q (.bl false) env := fun t env Q E => by
    show Q (.bl (!(t == t))) env = _
    rw [show (t == t) = true by simp]; rfl
  generalize lJ (eE st) = sh at *
  generalize eE st = sd at *
  simp only [↓jS, ↓it, ↓ln, ↓n2, ↓i0, ↓ih, ↓hq, ↓i1, ↓rp, ↓ns, Bool.not_true, ↓aL, ↓aP, ↓aM, ↓aE, ↓aS, ↓ai, ↓getO, ↓putO, ↓setI, ↓setO, ac, aa, List.set_cons_zero, List.set_cons_succ, ↓bc, ↓dq, ↓aN, ↓dY, ↓cV, ↓eG, ↓notB, ↓dh, ↓dw, ↓dP, ↓cA, ↓fG, ↓ak, ↓ao, ↓aZ, ↓cI, ↓lstM, ↓bK, ↓cF, ↓bj, ↓du, ↓callN, ↓callA, ↓cN, ↓split1, ↓callD, ↓call1, ↓callK, ↓cO, ↓putS, ↓cG, ↓cz, ↓dX, ↓eY, ↓cB, D.kind, CT.is, ↓fh, ↓fB, ↓fD, ↓fF, ↓cy, ↓cW, ↓cK, ↓cJ, ↓bM, ↓di, ↓aH, ↓aC, ↓cS, ↓dB, ↓DL.intD, ↓bU, ↓bT, ↓dz, ↓de, ↓e6, ↓e9, ↓aJ, ↓cR, ↓olist, ↓fE, ↓fC, ↓bF, ↓bR, ↓bC, ↓ck, ↓cj, ↓dj, ↓oset, ↓fH, ↓bS, ↓bJ, ↓cY, ↓dy, ↓cM, ↓bB, ↓bf, ↓aI, ↓bh, ↓cL, ↓bu, ↓dC, ↓vD, ↓vO, ↓oins, ↓fJ, ↓bL, bx, ↓bA, aK, ↓fc, ↓DL.cU, ↓cX, ↓bv, ↓bD, ↓bV, ↓bz, ↓fj, Option.map, List.map_cons, List.map_nil, List.cons_append, List.nil_append, List.length_cons, List.length_nil, List.replicate, Nat.reduceAdd, Nat.reduceSub, Nat.sub_self, Bool.not_true, Bool.not_false, ↓if_true, ↓if_false, ↓ite_true, ↓ite_false, true_and, and_true, Bool.true_eq_false, Bool.false_eq_true, reduceIte, aD, cg, b9, b8, bZ, bY, bX, ↓aW, ↓aU, ↓aV, ↓aT, ↓aR, ↓aQ, aO, cZ, ↓au, ↓ay, ↓az, ↓aj, fA, fy, fx, fw, fv, fu, ft, fo, fk, forall_const, fS, fR, fQ, fP, fO, fN, fM, fL, fK, aX, ↓aF, ↓aA, ↓aw, List.filterMap_cons, List.filterMap_nil, ↓bH, ↓cP, b7, bQ, bW, bO, dD, ↓strR, ↓joinM, ↓bN, ↓aB, ↓bP, List.nodup_cons, List.nodup_nil, List.not_mem_nil, not_false_eq_true, ↓am]
theorem nR (Q E) : iE C [.im (.int g), .im (.int s), .im (eE st)] Q E = Q (.d (.bl true)) [.im (.int g), .im (.int s), .im (eE st)] := by
  have hg := S.hg
  have hs := S.hs
  have rp := oL (tj S)
  have pr := fun v0 v1 v2 v4 v6 v7 => pX C S v0 v1 v2 v4 v6 v7
  have sh := xH C S
  have lt := vj C S
  have pk := xM C S
  have lr := xN C S
  have rd := xJ C S
  have un := tR C S
  have tok := uT S
  have n3 := ud tok
  have nf := vA (ef g s st)
  have pin := fun x => pZ C x g s hg hs
  obtain ⟨f1, f2, f3⟩ := j4 S
  have bi := ro S
  have sz := mQ S
  obtain ⟨q, r, hq, lf, lr2⟩ := oX (eF g s st)
  have ll := qN (eF g s st)
  have rB : ∀ (env : List DL.Slot) Q E, pV (.byt (eF g s st)) env Q E = Q (.str (Builtin.Bytes.literal (eF g s st))) env := fun env Q E => propext ⟨fun z => z.2, fun z => ⟨by rw [sz]; omega, z⟩⟩
  have sB : ∀ (env : List DL.Slot) Q E, fj (.str (Builtin.Bytes.literal (eF g s st))) none (some 2) env Q E = Q (.str (⟨#[98, q]⟩ : Str)) env := fun env Q E => by
    have e := wm lf
    show (_ ∧ Q (.str (cutS (Builtin.Bytes.literal (eF g s st)) none (some 2))) env) = _
    rw [e]
    exact propext ⟨fun z => z.2, fun z => ⟨by rw [sizeLine_eq]; omega, z⟩⟩
  have nB : ∀ (env : List DL.Slot) Q E, x5 (.str (⟨#[98, q]⟩ : Str)) (.lst [.str "b'", .str "b\""]) env Q E = Q (.bl false) env := fun env Q E => by
    show ((_ ∧ _) ∧ Q (.bl (!([D.str "b'", D.str "b\""].any fun d => eqv d (.str (⟨#[98, q]⟩ : Str))))) env) = _
    have e : ([D.str "b'", D.str "b\""].any fun d => eqv d (.str (⟨#[98, q]⟩ : Str))) = true := by
      rcases hq with e | e <;> subst e <;> decide +kernel
    rw [e]
    exact propext ⟨fun z => z.2, fun z => ⟨⟨rfl, rfl⟩, z⟩⟩
  have lB : ∀ (env : List DL.Slot) Q E, nV (.byt (eF g s st)) env Q E = Q (.lst ((ef g s st).map .int)) env := fun env Q E => by
    simp only [nV]
    rw [bi]
    exact propext ⟨fun z => z.2, fun z => ⟨by rw [sz, sizeLine_eq]; omega, z⟩⟩
  have neB : ∀ (env : List DL.Slot) Q E, vC (.byt (eF g s st)) (.byt (eF g s st)) env Q E = Q (.bl false) env := fun env Q E => by
    show Q (.bl (!((eF g s st).toList == (eF g s st).toList))) env = _
    rw [show ((eF g s st).toList == (eF g s st).toList) = true by simp]; rfl
  have mu : ∀ (t : Str) (env : List DL.Slot) Q E, cK (.lst [.str t]) (.int 3) env Q E = Q (.lst [.str t, .str t, .str t]) env := fun t env Q E => propext ⟨fun z => z.2, fun z => ⟨⟨by decide, by decide, by rw [sizeLine_eq]; show 1 * 3 ≤ _; decide⟩, z⟩⟩
  have es : ∀ (t : Str) (env : List DL.Slot) Q E, lu (.str t) (.str t) env Q E = Q (.bl true) env := fun t env Q E => by
    show Q (.bl (t == t)) env = _
    rw [show (t == t) = true by simp]
  have z0 : (0 ≤ sizeLine) = True := eq_true (Nat.zero_le _)
  have z1 : (1 ≤ sizeLine) = True := eq_true (by rw [sizeLine_eq]; decide)
  have z2 : (2 ≤ sizeLine) = True := eq_true (by rw [sizeLine_eq]; decide)
  have z3 : (3 ≤ sizeLine) = True := eq_true (by rw [sizeLine_eq]; decide)
  have z4 : (4 ≤ sizeLine) = True := eq_true (by rw [sizeLine_eq]; decide)
  generalize (ef g s st).map D.int = fd at *
  generalize Builtin.Bytes.literal (eF g s st) = lit at *
  generalize eF g s st = pb at *
  generalize gI g s st = tx at *
  generalize lJ (eE st) = shn at *
  generalize eE st = sd at *
  simp only [↓iE, ↓oW, ↓pin, ↓lt, ↓rp, ↓sh, ↓mu, ↓n3, ↓pk, ↓rB, ↓sB, ↓nB, ↓lB, ↓lr, ↓nf, ↓neB, ↓rd, ↓un, ↓pr, ↓es, z0, z1, z2, z3, z4, ↓aL, ↓aP, ↓aM, ↓aE, ↓aS, ↓ai, ↓getO, ↓putO, ↓setI, ↓setO, ac, aa, List.set_cons_zero, List.set_cons_succ, ↓bc, ↓dq, ↓aN, ↓dY, ↓cV, ↓eG, ↓notB, ↓dh, ↓dw, ↓dP, ↓cA, ↓fG, ↓ak, ↓ao, ↓aZ, ↓cI, ↓lstM, ↓bK, ↓cF, ↓bj, ↓du, ↓callN, ↓callA, ↓cN, ↓split1, ↓callD, ↓call1, ↓callK, ↓cO, ↓putS, ↓cG, ↓cz, ↓dX, ↓eY, ↓cB, ↓cE, D.kind, CT.is, ↓fh, ↓fB, ↓fD, ↓fF, ↓cy, ↓cW, ↓cJ, ↓bM, ↓di, ↓aH, ↓aC, ↓cS, ↓dc, ↓dB, ↓DL.intD, ↓bU, ↓bT, ↓dz, ↓de, ↓e6, ↓e9, ↓aJ, ↓cR, ↓olist, ↓fE, ↓fC, ↓bF, ↓bR, ↓bC, ↓ck, ↓cj, ↓dj, ↓oset, ↓fH, ↓bS, ↓bJ, ↓cY, ↓dy, ↓cM, ↓bB, ↓bf, ↓aI, ↓bh, ↓cL, ↓bu, ↓dC, ↓vD, ↓vO, ↓oins, ↓fJ, ↓bL, bx, ↓bA, aK, ↓fc, ↓DL.cU, ↓cX, ↓bv, ↓bD, ↓bV, ↓bz, Option.map, List.map_cons, List.map_nil, List.cons_append, List.nil_append, List.length_cons, List.length_nil, List.replicate, Nat.reduceAdd, Nat.reduceSub, Nat.sub_self, Bool.not_true, Bool.not_false, ↓if_true, ↓if_false, ↓ite_true, ↓ite_false, true_and, and_true, Bool.true_eq_false, Bool.false_eq_true, reduceIte, aD, cg, b9, b8, bZ, bY, bX, ↓aW, ↓aU, ↓aV, ↓aT, ↓aR, ↓aQ, aO, cZ, ↓au, ↓ay, ↓az, ↓aj, fA, fy, fx, fw, fv, fu, ft, fo, fk, forall_const, fS, fR, fQ, fP, fO, fN, fM, fL, fK, aX, ↓aF, ↓aA, ↓aw, List.filterMap_cons, List.filterMap_nil, ↓bH, ↓cP, b7, bQ, bW, bO, dD, ↓strR, ↓joinM, ↓bN, ↓aB, ↓bP, List.nodup_cons, List.nodup_nil, List.not_mem_nil, not_false_eq_true, ↓am]
end
end
section
def fT (g a b : Int) : Sd := (nums g).map fun k => some (a + b * k)
theorem i7 {g s : Int} (hg : 1 ≤ g ∧ g ≤ 24) (hs : 0 ≤ s ∧ s ≤ 6) {a b : Int} (h : (b = 1 ∧ 0 ≤ a ∧ a ≤ s) ∨ (b = -1 ∧ g - 1 ≤ a ∧ a < g + s)) : Stand g s (fT g a b) := by
  refine ⟨?_, hg, hs, fun i hi => ?_, ?_⟩
  · unfold fT
    rw [List.length_map, hV]
    omega
  · obtain ⟨k, hk, e⟩ := List.mem_map.mp hi
    have hk := nums_mem.mp hk
    have e := Option.some.inj e
    rcases h with ⟨e1, h1, h2⟩ | ⟨e1, h1, h2⟩ <;> subst e1 <;> omega
  · unfold fT
    rw [List.pairwise_map]
    exact (lW g).imp fun ne => .inr fun e => ne (by
      have e := Option.some.inj e
      rcases h with ⟨e1, h1, h2⟩ | ⟨e1, h1, h2⟩ <;> subst e1 <;> omega)
theorem rO {g s : Int} (hg : 1 ≤ g ∧ g ≤ 24) (hs : 0 ≤ s ∧ s ≤ 6) : Stand g s (List.replicate g.toNat none) := by
  refine ⟨by rw [List.length_replicate]; omega, hg, hs, (fun i hi => nomatch (List.eq_of_mem_replicate hi)), ?_⟩
  rw [List.pairwise_replicate]
  exact .inr (.inl rfl)
theorem oG (g a : Int) : D.tup (eS a (g + a)) = eE (fT g a 1) := by
  unfold eE fT eS nums
  rw [List.map_map, List.map_map, show g + a - a = g by omega]
  congr 1
  refine List.map_congr_left fun i _ => ?_
  show D.int (a + (i : Int)) = D.int (a + 1 * (i : Int))
  rw [Int.one_mul]
theorem mO (g : Int) : D.tup (eS 0 g) = eE (fT g 0 1) := by
  have := oG g 0
  rwa [Int.add_zero] at this
theorem xo (g : Int) : D.tup (List.replicate g.toNat [D.non]).flatten = eE (List.replicate g.toNat none) := by
  unfold eE
  congr 1
  generalize g.toNat = k
  induction k with
  | zero => rfl
  | succ k ih => rw [List.replicate_succ, List.flatten_cons, ih, List.replicate_succ]; rfl
section
variable (C : Addr)
theorem yX {g s : Int} (hg : 1 ≤ g ∧ g ≤ 24) (hs : 0 ≤ s ∧ s ≤ 6) (v0 v3 v4 : DL.Slot) (Q E) : jp C [v0, .im (.int g), .im (.int s), v3, v4, .no] Q E = Q (.lst ((fT g (g + s - 1) (-1)).map oD)) [v0, .im (.int g), .im (.int s), v3, v4, .no] := by
  have z : -(2 ^ 62) ≤ g ∧ g < 2 ^ 62 := by omega
  unfold jp
  refine (gr (env := [v0, .im (.int g), .im (.int s), v3, v4, .no]) (nums g) D.int (fun _ => true) (fun k => .int (g + s - 1 - k)) (fun Q E => by simp only [z, jN, ↓aL, ↓aP, ↓aM, ↓aE, ↓aS, ↓ai, ↓getO, ↓putO, ↓setI, ↓setO, ac, aa, List.set_cons_zero, List.set_cons_succ, ↓bc, ↓dq, ↓aN, ↓dY, ↓cV, ↓eG, ↓notB, ↓dh, ↓dw, ↓dP, ↓cA, ↓fG, ↓ak, ↓ao, ↓aZ, ↓cI, ↓lstM, ↓bK, ↓cF, ↓bj, ↓du, ↓callN, ↓callA, ↓cN, ↓split1, ↓callD, ↓call1, ↓callK, ↓cO, ↓putS, ↓cG, ↓cz, ↓dX, ↓eY, ↓cB, ↓cE, D.kind, CT.is, ↓fh, ↓fB, ↓fD, ↓fF, ↓cy, ↓cW, ↓cK, ↓cJ, ↓bM, ↓di, ↓aH, ↓aC, ↓cS, ↓dc, ↓dB, ↓DL.intD, ↓bU, ↓bT, ↓dz, ↓de, ↓e6, ↓e9, ↓aJ, ↓cR, ↓olist, ↓fE, ↓fC, ↓bF, ↓bR, ↓bC, ↓ck, ↓cj, ↓dj, ↓oset, ↓fH, ↓bS, ↓bJ, ↓cY, ↓dy, ↓cM, ↓bB, ↓bf, ↓aI, ↓bh, ↓cL, ↓bu, ↓dC, ↓vD, ↓vO, ↓oins, ↓fJ, ↓bL, bx, ↓bA, aK, ↓fc, ↓DL.cU, ↓cX, ↓bv, ↓bD, ↓bV, ↓bz, ↓fj, Option.map, List.map_cons, List.map_nil, List.cons_append, List.nil_append, List.length_cons, List.length_nil, List.replicate, Nat.reduceAdd, Nat.reduceSub, Nat.sub_self, Bool.not_true, Bool.not_false, ↓if_true, ↓if_false, ↓ite_true, ↓ite_false, true_and, and_true, Bool.true_eq_false, Bool.false_eq_true, reduceIte, aD, cg, b9, b8, bZ, bY, bX, ↓aW, ↓aU, ↓aV, ↓aT, ↓aR, ↓aQ, aO, cZ, ↓au, ↓ay, ↓az, ↓aj, fA, fy, fx, fw, fv, fu, ft, fo, fk, forall_const, fS, fR, fQ, fP, fO, fN, fM, fL, fK, aX, ↓aF, ↓aA, ↓aw, List.filterMap_cons, List.filterMap_nil, ↓bH, ↓cP, b7, bQ, bW, bO, dD, ↓strR, ↓joinM, ↓bN, ↓aB, ↓bP, List.nodup_cons, List.nodup_nil, List.not_mem_nil, not_false_eq_true, ↓am]) (by rw [hV]; omega) rfl (fun k _ => ⟨[v0, .im (.int g), .im (.int s), v3, v4, .im (.int k)], rfl, fun Q E => rfl, fun Q E => rfl, fun _ Q E => by simp only [↓aL, ↓aP, ↓aM, ↓aE, ↓aS, ↓ai, ↓getO, ↓putO, ↓setI, ↓setO, ac, aa, List.set_cons_zero, List.set_cons_succ, ↓bc, ↓dq, ↓aN, ↓dY, ↓cV, ↓eG, ↓notB, ↓dh, ↓dw, ↓dP, ↓cA, ↓fG, ↓ak, ↓ao, ↓aZ, ↓cI, ↓lstM, ↓bK, ↓cF, ↓bj, ↓du, ↓callN, ↓callA, ↓cN, ↓split1, ↓callD, ↓call1, ↓callK, ↓cO, ↓putS, ↓cG, ↓cz, ↓dX, ↓eY, ↓cB, ↓cE, D.kind, CT.is, ↓fh, ↓fB, ↓fD, ↓fF, ↓cy, ↓cW, ↓cK, ↓cJ, ↓bM, ↓di, ↓aH, ↓aC, ↓cS, ↓dc, ↓dB, ↓DL.intD, ↓bU, ↓bT, ↓dz, ↓de, ↓e6, ↓e9, ↓aJ, ↓cR, ↓olist, ↓fE, ↓fC, ↓bF, ↓bR, ↓bC, ↓ck, ↓cj, ↓dj, ↓oset, ↓fH, ↓bS, ↓bJ, ↓cY, ↓dy, ↓cM, ↓bB, ↓bf, ↓aI, ↓bh, ↓cL, ↓bu, ↓dC, ↓vD, ↓vO, ↓oins, ↓fJ, ↓bL, bx, ↓bA, aK, ↓fc, ↓DL.cU, ↓cX, ↓bv, ↓bD, ↓bV, ↓bz, ↓fj, Option.map, List.map_cons, List.map_nil, List.cons_append, List.nil_append, List.length_cons, List.length_nil, List.replicate, Nat.reduceAdd, Nat.reduceSub, Nat.sub_self, Bool.not_true, Bool.not_false, ↓if_true, ↓if_false, ↓ite_true, ↓ite_false, true_and, and_true, Bool.true_eq_false, Bool.false_eq_true, reduceIte, aD, cg, b9, b8, bZ, bY, bX, ↓aW, ↓aU, ↓aV, ↓aT, ↓aR, ↓aQ, aO, cZ, ↓au, ↓ay, ↓az, ↓aj, fA, fy, fx, fw, fv, fu, ft, fo, fk, forall_const, fS, fR, fQ, fP, fO, fN, fM, fL, fK, aX, ↓aF, ↓aA, ↓aw, List.filterMap_cons, List.filterMap_nil, ↓bH, ↓cP, b7, bQ, bW, bO, dD, ↓strR, ↓joinM, ↓bN, ↓aB, ↓bP, List.nodup_cons, List.nodup_nil, List.not_mem_nil, not_false_eq_true, ↓am]⟩) Q E).trans ?_
  rw [List.filter_eq_self.mpr fun _ _ => rfl]
  have e : (fT g (g + s - 1) (-1)).map oD = (nums g).map fun k => D.int (g + s - 1 - k) := by
    unfold fT
    rw [List.map_map]
    refine List.map_congr_left fun k _ => ?_
    show D.int (g + s - 1 + -1 * k) = _
    rw [show g + s - 1 + -1 * k = g + s - 1 - k by omega]
  rw [e]
theorem xC {g s : Int} (hg : 1 ≤ g ∧ g ≤ 24) (hs : 0 ≤ s ∧ s ≤ 6) (p : Pl) (v3 : DL.Slot) : ∃ (p' : Pl) (L : List Sd), (∀ st ∈ L, Stand g s st) ∧ L.length = 4 ∧ ∀ (x : Addr) Q E, jo C [.io x p.o, .im (.int g), .im (.int s), v3, .no, .no] Q E = Q (.lst (L.map eE)) [.io x p'.o, .im (.int g), .im (.int s), v3, .no, .no] := by
  obtain ⟨acc, env', ⟨p', L, v4, rfl, rfl, hL, hn, n4⟩, run⟩ := uK (ι := Addr) (items := aq (ak (DL.ret (.int 4)) (DL.ret [])) cX) (tg := setI 4) (vs := (([("_law_turn", 4)] : List (Str × Nat)).map (·.2))) (cond := DL.ret true) (elt := aq (aq (aZ 0 (ao (ai 1) (ao (ai 2) (DL.ret [])))) (callN 3 (iw C))) bj)
    (env := fun x => [.io x p.o, .im (.int g), .im (.int s), v3, .no, .no]) (eS 0 4) (fun x Q E => by
      have z : -(2 ^ 62) ≤ (4 : Int) ∧ (4 : Int) < 2 ^ 62 := by omega
      generalize hr : eS 0 4 = r4
      simp only [z, hr, ↓aL, ↓aP, ↓aM, ↓aE, ↓aS, ↓ai, ↓getO, ↓putO, ↓setI, ↓setO, ac, aa, List.set_cons_zero, List.set_cons_succ, ↓bc, ↓dq, ↓aN, ↓dY, ↓cV, ↓eG, ↓notB, ↓dh, ↓dw, ↓dP, ↓cA, ↓fG, ↓ak, ↓ao, ↓aZ, ↓cI, ↓lstM, ↓bK, ↓cF, ↓bj, ↓du, ↓callN, ↓callA, ↓cN, ↓split1, ↓callD, ↓call1, ↓callK, ↓cO, ↓putS, ↓cG, ↓cz, ↓dX, ↓eY, ↓cB, ↓cE, D.kind, CT.is, ↓fh, ↓fB, ↓fD, ↓fF, ↓cy, ↓cW, ↓cK, ↓cJ, ↓bM, ↓di, ↓aH, ↓aC, ↓cS, ↓dc, ↓dB, ↓DL.intD, ↓bU, ↓bT, ↓dz, ↓de, ↓e6, ↓e9, ↓aJ, ↓cR, ↓olist, ↓fE, ↓fC, ↓bF, ↓bR, ↓bC, ↓ck, ↓cj, ↓dj, ↓oset, ↓fH, ↓bS, ↓bJ, ↓cY, ↓dy, ↓cM, ↓bB, ↓bf, ↓aI, ↓bh, ↓cL, ↓bu, ↓dC, ↓vD, ↓vO, ↓oins, ↓fJ, ↓bL, bx, ↓bA, aK, ↓fc, ↓DL.cU, ↓cX, ↓bv, ↓bD, ↓bV, ↓bz, ↓fj, Option.map, List.map_cons, List.map_nil, List.cons_append, List.nil_append, List.length_cons, List.length_nil, List.replicate, Nat.reduceAdd, Nat.reduceSub, Nat.sub_self, Bool.not_true, Bool.not_false, ↓if_true, ↓if_false, ↓ite_true, ↓ite_false, true_and, and_true, Bool.true_eq_false, Bool.false_eq_true, reduceIte, aD, cg, b9, b8, bZ, bY, bX, ↓aW, ↓aU, ↓aV, ↓aT, ↓aR, ↓aQ, aO, cZ, ↓au, ↓ay, ↓az, ↓aj, fA, fy, fx, fw, fv, fu, ft, fo, fk, forall_const, fS, fR, fQ, fP, fO, fN, fM, fL, fK, aX, ↓aF, ↓aA, ↓aw, List.filterMap_cons, List.filterMap_nil, ↓bH, ↓cP, b7, bQ, bW, bO, dD, ↓strR, ↓joinM, ↓bN, ↓aB, ↓bP, List.nodup_cons, List.nodup_nil, List.not_mem_nil, not_false_eq_true, ↓am])
    (fun i acc env => ∃ (p' : Pl) (L : List Sd) (v4 : DL.Slot), env = (fun x => [.io x p'.o, .im (.int g), .im (.int s), v3, v4, .no]) ∧ acc = L.map eE ∧ (∀ st ∈ L, Stand g s st) ∧ L.length = i ∧ (∀ x o, v4 ≠ .io x o))
    ⟨p, [], .no, rfl, rfl, fun _ h => (nomatch h), rfl, nofun⟩ (by
      rintro i d acc env hi ⟨p1, L, v4, rfl, rfl, hL, hn, n4⟩
      have hi' := (List.getElem?_eq_some_iff.mp hi).1
      have l4 : (eS 0 4).length = 4 := by rw [iJ]; rfl
      obtain ⟨p2, st, S, run⟩ := vk C p1 g s hg hs
      refine ⟨fun x => [.io x p1.o, .im (.int g), .im (.int s), v3, .im d, .no], true, fun x => [.io x p1.o, .im (.int g), .im (.int s), v3, .im d, .no], fun x Q E => by rfl, fun x Q E => rfl, nofun, fun _ => ⟨eE st, fun x => [.io x p2.o, .im (.int g), .im (.int s), v3, .im d, .no], fun x Q E => ?_, by rw [List.length_map, sizeLine_eq]; omega, p2, L ++ [st], .im d, rfl, by rw [List.map_append]; rfl, fun t ht => ?_, by rw [List.length_append, hn]; rfl, nofun⟩⟩
      · generalize eE st = sd at *
        simp only [↓run, ↓aL, ↓aP, ↓aM, ↓aE, ↓aS, ↓ai, ↓getO, ↓putO, ↓setI, ↓setO, ac, aa, List.set_cons_zero, List.set_cons_succ, ↓bc, ↓dq, ↓aN, ↓dY, ↓cV, ↓eG, ↓notB, ↓dh, ↓dw, ↓dP, ↓cA, ↓fG, ↓ak, ↓ao, ↓aZ, ↓cI, ↓lstM, ↓bK, ↓cF, ↓bj, ↓du, ↓callN, ↓callA, ↓cN, ↓split1, ↓callD, ↓call1, ↓callK, ↓cO, ↓putS, ↓cG, ↓cz, ↓dX, ↓eY, ↓cB, ↓cE, D.kind, CT.is, ↓fh, ↓fB, ↓fD, ↓fF, ↓cy, ↓cW, ↓cK, ↓cJ, ↓bM, ↓di, ↓aH, ↓aC, ↓cS, ↓dc, ↓dB, ↓DL.intD, ↓bU, ↓bT, ↓dz, ↓de, ↓e6, ↓e9, ↓aJ, ↓cR, ↓olist, ↓fE, ↓fC, ↓bF, ↓bR, ↓bC, ↓ck, ↓cj, ↓dj, ↓oset, ↓fH, ↓bS, ↓bJ, ↓cY, ↓dy, ↓cM, ↓bB, ↓bf, ↓aI, ↓bh, ↓cL, ↓bu, ↓dC, ↓vD, ↓vO, ↓oins, ↓fJ, ↓bL, bx, ↓bA, aK, ↓fc, ↓DL.cU, ↓cX, ↓bv, ↓bD, ↓bV, ↓bz, ↓fj, Option.map, List.map_cons, List.map_nil, List.cons_append, List.nil_append, List.length_cons, List.length_nil, List.replicate, Nat.reduceAdd, Nat.reduceSub, Nat.sub_self, Bool.not_true, Bool.not_false, ↓if_true, ↓if_false, ↓ite_true, ↓ite_false, true_and, and_true, Bool.true_eq_false, Bool.false_eq_true, reduceIte, aD, cg, b9, b8, bZ, bY, bX, ↓aW, ↓aU, ↓aV, ↓aT, ↓aR, ↓aQ, aO, cZ, ↓au, ↓ay, ↓az, ↓aj, fA, fy, fx, fw, fv, fu, ft, fo, fk, forall_const, fS, fR, fQ, fP, fO, fN, fM, fL, fK, aX, ↓aF, ↓aA, ↓aw, List.filterMap_cons, List.filterMap_nil, ↓bH, ↓cP, b7, bQ, bW, bO, dD, ↓strR, ↓joinM, ↓bN, ↓aB, ↓bP, List.nodup_cons, List.nodup_nil, List.not_mem_nil, not_false_eq_true, ↓am]
      · rcases List.mem_append.mp ht with h | h
        · exact hL t h
        · rw [List.mem_singleton.mp h]; exact S)
  refine ⟨p', L, hL, by rw [hn, iJ]; rfl, fun x Q E => ?_⟩
  unfold jo
  rw [run]
  rfl
theorem tT {g s : Int} (hg : 1 ≤ g ∧ g ≤ 24) (hs : 0 ≤ s ∧ s ≤ 6) (p : Pl) : ∃ (p' : Pl) (L : List Sd), (∀ st ∈ L, Stand g s st) ∧ L.length ≤ 10 ∧ ∀ (x : Addr) Q E, iT C [.io x p.o, .im (.int g), .im (.int s)] Q E = Q (.d (.lst (L.map eE))) [.io x p'.o, .im (.int g), .im (.int s)] := by
  obtain ⟨p', L, hL, hn, qd⟩ := xC C hg hs p (.im (.lst [eE (fT g 0 1), eE (List.replicate g.toNat none), eE (fT g (g + s - 1) (-1))]))
  have qr := fun v0 v3 v4 => yX C hg hs v0 v3 v4
  refine ⟨p', fT g 0 1 :: List.replicate g.toNat none :: fT g (g + s - 1) (-1) :: L, ?_, by simp; omega, fun x Q E => ?_⟩
  · intro st h
    simp only [List.mem_cons] at h
    rcases h with e | e | e | h
    · subst e; exact i7 hg hs (.inl ⟨rfl, by omega, by omega⟩)
    · subst e; exact rO hg hs
    · subst e; exact i7 hg hs (.inr ⟨rfl, by omega, by omega⟩)
    · exact hL st h
  · have s0 := mO g
    have s1 := xo g
    have tD : ∀ (env : List DL.Slot) Q E, de (.lst ((fT g (g + s - 1) (-1)).map oD)) env Q E = Q (eE (fT g (g + s - 1) (-1))) env := fun _ _ _ => rfl
    have mu : ∀ (env : List DL.Slot) Q E, cK (.tup [.non]) (.int g) env Q E = Q (eE (List.replicate g.toNat none)) env := fun env Q E => by
      rw [← s1]
      exact propext ⟨fun z => z.2, fun z => ⟨⟨by simp, by omega, by omega, by decide⟩, z⟩⟩
    have ap : ∀ (env : List DL.Slot) Q E, cy (.lst [eE (fT g 0 1), eE (List.replicate g.toNat none), eE (fT g (g + s - 1) (-1))]) (.lst (L.map eE)) env Q E = Q (.lst ((fT g 0 1 :: List.replicate g.toNat none :: fT g (g + s - 1) (-1) :: L).map eE)) env := fun env Q E => propext ⟨fun z => z.2, fun z => ⟨by show 3 + (L.map eE).length ≤ sizeLine; rw [List.length_map, sizeLine_eq]; omega, z⟩⟩
    have z1 : kq g := ⟨by omega, by omega⟩
    have y0 : (0 ≤ sizeLine) = True := eq_true (Nat.zero_le _)
    have y1 : (1 ≤ sizeLine) = True := eq_true (by rw [sizeLine_eq]; decide)
    have y2 : (2 ≤ sizeLine) = True := eq_true (by rw [sizeLine_eq]; decide)
    have y3 : (3 ≤ sizeLine) = True := eq_true (by rw [sizeLine_eq]; decide)
    generalize (fT g 0 1 :: List.replicate g.toNat none :: fT g (g + s - 1) (-1) :: L).map eE = res at *
    generalize (fT g (g + s - 1) (-1)).map oD = rv at *
    generalize eE (fT g (g + s - 1) (-1)) = d3 at *
    generalize eE (fT g 0 1) = d1 at *
    generalize eE (List.replicate g.toNat none) = d2 at *
    generalize L.map eE = ld at *
    simp only [↓iT, ↓m6, ↓cY, z1, s0, ↓mu, ↓qr, ↓tD, ↓qd, ↓ap, y0, y1, y2, y3, ↓aL, ↓aP, ↓aM, ↓aE, ↓aS, ↓ai, ↓getO, ↓putO, ↓setI, ↓setO, ac, aa, List.set_cons_zero, List.set_cons_succ, ↓bc, ↓dq, ↓aN, ↓dY, ↓cV, ↓eG, ↓notB, ↓dh, ↓dw, ↓dP, ↓cA, ↓fG, ↓ak, ↓ao, ↓aZ, ↓cI, ↓lstM, ↓bK, ↓cF, ↓bj, ↓du, ↓callN, ↓callA, ↓cN, ↓split1, ↓callD, ↓call1, ↓callK, ↓cO, ↓putS, ↓cG, ↓cz, ↓dX, ↓eY, ↓cB, ↓cE, D.kind, CT.is, ↓fh, ↓fB, ↓fD, ↓fF, ↓cW, ↓cJ, ↓bM, ↓di, ↓aH, ↓aC, ↓cS, ↓dc, ↓dB, ↓DL.intD, ↓bU, ↓bT, ↓dz, ↓e6, ↓e9, ↓aJ, ↓cR, ↓olist, ↓fE, ↓fC, ↓bF, ↓bR, ↓bC, ↓ck, ↓cj, ↓dj, ↓oset, ↓fH, ↓bS, ↓bJ, ↓cY, ↓dy, ↓cM, ↓bB, ↓bf, ↓aI, ↓bh, ↓cL, ↓bu, ↓dC, ↓vD, ↓vO, ↓oins, ↓fJ, ↓bL, bx, ↓bA, aK, ↓fc, ↓DL.cU, ↓cX, ↓bv, ↓bD, ↓bV, ↓bz, ↓fj, Option.map, List.map_cons, List.map_nil, List.cons_append, List.nil_append, List.length_cons, List.length_nil, List.replicate, Nat.reduceAdd, Nat.reduceSub, Nat.sub_self, Bool.not_true, Bool.not_false, ↓if_true, ↓if_false, ↓ite_true, ↓ite_false, true_and, and_true, Bool.true_eq_false, Bool.false_eq_true, reduceIte, aD, cg, b9, b8, bZ, bY, bX, ↓aW, ↓aU, ↓aV, ↓aT, ↓aR, ↓aQ, aO, cZ, ↓au, ↓ay, ↓az, ↓aj, fA, fy, fx, fw, fv, fu, ft, fo, fk, forall_const, fS, fR, fQ, fP, fO, fN, fM, fL, fK, aX, ↓aF, ↓aA, ↓aw, List.filterMap_cons, List.filterMap_nil, ↓bH, ↓cP, b7, bQ, bW, bO, dD, ↓strR, ↓joinM, ↓bN, ↓aB, ↓bP, List.nodup_cons, List.nodup_nil, List.not_mem_nil, not_false_eq_true, ↓am]
end
end
section
theorem tV (n : Nat) (env : List DL.Slot) (Q E) : ou (.lst (List.replicate n (.bl true))) env Q E = Q (.bl true) env := pK n env Q E
section
variable (C : Addr)
theorem yZ {g s : Int} (hg : 1 ≤ g ∧ g ≤ 24) (hs : 0 ≤ s ∧ s ≤ 6) (p : Pl) (v0 v1 v2 : DL.Slot) : ∃ (p' : Pl) (n : Nat), ∀ Q E, og C [v0, v1, v2, .ow p.o, .im (.int g), .im (.int s), .no] Q E = Q (.lst (List.replicate n (.bl true))) [v0, v1, v2, .ow p'.o, .im (.int g), .im (.int s), .no] := by
  obtain ⟨p', L, hL, hn, run⟩ := tT C hg hs p
  obtain ⟨acc, env', ⟨v6, rfl, rfl, n6⟩, cl⟩ := jD (ι := Unit) (tg := setI 6) (vs := (([("_law_stand", 6)] : List (Str × Nat)).map (·.2))) (cond := DL.ret true) (elt := aq (aq (ao (ai 4) (ao (ai 5) (ao (ai 6) (DL.ret [])))) (callN 3 (iE C))) bj)
    (fun i acc env => ∃ v6 : DL.Slot, env = (fun _ => [v0, v1, v2, .ow p'.o, .im (.int g), .im (.int s), v6]) ∧ acc = List.replicate i (.bl true) ∧ (∀ x o, v6 ≠ .io x o)) (L.map eE) [] [] (fun _ => [v0, v1, v2, .ow p'.o, .im (.int g), .im (.int s), .no]) ⟨.no, rfl, rfl, nofun⟩ (by
      rintro i d acc env hi ⟨v6, rfl, rfl, n6⟩
      rw [List.nil_append] at hi
      have hi' := (List.getElem?_eq_some_iff.mp hi).1
      rw [List.length_map] at hi'
      rw [List.getElem?_map, List.getElem?_eq_getElem hi'] at hi
      have ed : eE L[i] = d := Option.some.inj hi
      subst ed
      have S := hL L[i] (List.getElem_mem hi')
      have pr := nR C S
      refine ⟨fun _ => [v0, v1, v2, .ow p'.o, .im (.int g), .im (.int s), .im (eE L[i])], true, fun _ => [v0, v1, v2, .ow p'.o, .im (.int g), .im (.int s), .im (eE L[i])], fun x Q E => ?_, fun x Q E => rfl, nofun, fun _ => ⟨.bl true, fun _ => [v0, v1, v2, .ow p'.o, .im (.int g), .im (.int s), .im (eE L[i])], fun x Q E => ?_, by rw [List.length_replicate, sizeLine_eq]; omega, .im (eE L[i]), rfl, by rw [List.replicate_succ'], nofun⟩⟩
      · rfl
      · generalize eE L[i] = sd at *
        simp only [↓pr, ↓aL, ↓aP, ↓aM, ↓aE, ↓aS, ↓ai, ↓getO, ↓putO, ↓setI, ↓setO, ac, aa, List.set_cons_zero, List.set_cons_succ, ↓bc, ↓dq, ↓aN, ↓dY, ↓cV, ↓eG, ↓notB, ↓dh, ↓dw, ↓dP, ↓cA, ↓fG, ↓ak, ↓ao, ↓aZ, ↓cI, ↓lstM, ↓bK, ↓cF, ↓bj, ↓du, ↓callN, ↓callA, ↓cN, ↓split1, ↓callD, ↓call1, ↓callK, ↓cO, ↓putS, ↓cG, ↓cz, ↓dX, ↓eY, ↓cB, ↓cE, D.kind, CT.is, ↓fh, ↓fB, ↓fD, ↓fF, ↓cy, ↓cW, ↓cK, ↓cJ, ↓bM, ↓di, ↓aH, ↓aC, ↓cS, ↓dc, ↓dB, ↓DL.intD, ↓bU, ↓bT, ↓dz, ↓de, ↓e6, ↓e9, ↓aJ, ↓cR, ↓olist, ↓fE, ↓fC, ↓bF, ↓bR, ↓bC, ↓ck, ↓cj, ↓dj, ↓oset, ↓fH, ↓bS, ↓bJ, ↓cY, ↓dy, ↓cM, ↓bB, ↓bf, ↓aI, ↓bh, ↓cL, ↓bu, ↓dC, ↓vD, ↓vO, ↓oins, ↓fJ, ↓bL, bx, ↓bA, aK, ↓fc, ↓DL.cU, ↓cX, ↓bv, ↓bD, ↓bV, ↓bz, ↓fj, Option.map, List.map_cons, List.map_nil, List.cons_append, List.nil_append, List.length_cons, List.length_nil, List.replicate, Nat.reduceAdd, Nat.reduceSub, Nat.sub_self, Bool.not_true, Bool.not_false, ↓if_true, ↓if_false, ↓ite_true, ↓ite_false, true_and, and_true, Bool.true_eq_false, Bool.false_eq_true, reduceIte, aD, cg, b9, b8, bZ, bY, bX, ↓aW, ↓aU, ↓aV, ↓aT, ↓aR, ↓aQ, aO, cZ, ↓au, ↓ay, ↓az, ↓aj, fA, fy, fx, fw, fv, fu, ft, fo, fk, forall_const, fS, fR, fQ, fP, fO, fN, fM, fL, fK, aX, ↓aF, ↓aA, ↓aw, List.filterMap_cons, List.filterMap_nil, ↓bH, ↓cP, b7, bQ, bW, bO, dD, ↓strR, ↓joinM, ↓bN, ↓aB, ↓bP, List.nodup_cons, List.nodup_nil, List.not_mem_nil, not_false_eq_true, ↓am])
  refine ⟨p', (([] : List D) ++ L.map eE).length, fun Q E => ?_⟩
  unfold og
  rw [aw]
  have it : ∀ (Q' : List D → List DL.Slot → Prop) E', aq (aq (aq (aZ 3 (ao (ai 4) (ao (ai 5) (DL.ret [])))) (callN 3 (iT C))) bj) bv [v0, v1, v2, .ow p.o, .im (.int g), .im (.int s), .no] Q' E' = Q' (L.map eE) [v0, v1, v2, .ow p'.o, .im (.int g), .im (.int s), .no] := fun Q' E' => by
    generalize L.map eE = ld at *
    simp only [↓run, ↓aL, ↓aP, ↓aM, ↓aE, ↓aS, ↓ai, ↓getO, ↓putO, ↓setI, ↓setO, ac, aa, List.set_cons_zero, List.set_cons_succ, ↓bc, ↓dq, ↓aN, ↓dY, ↓cV, ↓eG, ↓notB, ↓dh, ↓dw, ↓dP, ↓cA, ↓fG, ↓ak, ↓ao, ↓aZ, ↓cI, ↓lstM, ↓bK, ↓cF, ↓bj, ↓du, ↓callN, ↓callA, ↓cN, ↓split1, ↓callD, ↓call1, ↓callK, ↓cO, ↓putS, ↓cG, ↓cz, ↓dX, ↓eY, ↓cB, ↓cE, D.kind, CT.is, ↓fh, ↓fB, ↓fD, ↓fF, ↓cy, ↓cW, ↓cK, ↓cJ, ↓bM, ↓di, ↓aH, ↓aC, ↓cS, ↓dc, ↓dB, ↓DL.intD, ↓bU, ↓bT, ↓dz, ↓de, ↓e6, ↓e9, ↓aJ, ↓cR, ↓olist, ↓fE, ↓fC, ↓bF, ↓bR, ↓bC, ↓ck, ↓cj, ↓dj, ↓oset, ↓fH, ↓bS, ↓bJ, ↓cY, ↓dy, ↓cM, ↓bB, ↓bf, ↓aI, ↓bh, ↓cL, ↓bu, ↓dC, ↓vD, ↓vO, ↓oins, ↓fJ, ↓bL, bx, ↓bA, aK, ↓fc, ↓DL.cU, ↓cX, ↓bv, ↓bD, ↓bV, ↓bz, ↓fj, Option.map, List.map_cons, List.map_nil, List.cons_append, List.nil_append, List.length_cons, List.length_nil, List.replicate, Nat.reduceAdd, Nat.reduceSub, Nat.sub_self, Bool.not_true, Bool.not_false, ↓if_true, ↓if_false, ↓ite_true, ↓ite_false, true_and, and_true, Bool.true_eq_false, Bool.false_eq_true, reduceIte, aD, cg, b9, b8, bZ, bY, bX, ↓aW, ↓aU, ↓aV, ↓aT, ↓aR, ↓aQ, aO, cZ, ↓au, ↓ay, ↓az, ↓aj, fA, fy, fx, fw, fv, fu, ft, fo, fk, forall_const, fS, fR, fQ, fP, fO, fN, fM, fL, fK, aX, ↓aF, ↓aA, ↓aw, List.filterMap_cons, List.filterMap_nil, ↓bH, ↓cP, b7, bQ, bW, bO, dD, ↓strR, ↓joinM, ↓bN, ↓aB, ↓bP, List.nodup_cons, List.nodup_nil, List.not_mem_nil, not_false_eq_true, ↓am]
  rw [it, cl ()]
  rfl
theorem jZ {g s : Int} (hg : 1 ≤ g ∧ g ≤ 24) (hs : 0 ≤ s ∧ s ≤ 6) (v0 v2 v3 v4 v5 v6 : DL.Slot) (Q E) : ot C [v0, .im (.tup [.int g, .int s]), v2, v3, v4, v5, v6] Q E = Q .nx [v0, .im (.tup [.int g, .int s]), v2, v3, v4, v5, v6] := by
  have r1 := nR C (i7 (a := 0) (b := 1) hg hs (.inl ⟨rfl, by omega, by omega⟩))
  have r2 := nR C (i7 (a := s) (b := 1) hg hs (.inl ⟨rfl, by omega, by omega⟩))
  have s1 := mO g
  have s2 := oG g s
  have i0 : ∀ (env : List DL.Slot) Q E, jI (.tup [.int g, .int s]) (.int 0) env Q E = Q (.int g) env := fun _ _ _ => rfl
  have i1 : ∀ (env : List DL.Slot) Q E, jI (.tup [.int g, .int s]) (.int 1) env Q E = Q (.int s) env := fun _ _ _ => rfl
  have z1 : kq g := ⟨by omega, by omega⟩
  have z2 : RgOk s (g + s) := RgOk.of_le (by omega) (by omega) (by omega) (by omega)
  generalize eE (fT g 0 1) = d1 at *
  generalize eE (fT g s 1) = d2 at *
  simp only [↓ot, ↓cY, ↓sU, ↓i0, ↓i1, z1, z2, s1, s2, ↓r1, ↓r2, Bool.not_true, ↓aL, ↓aP, ↓aM, ↓aE, ↓aS, ↓ai, ↓getO, ↓putO, ↓setI, ↓setO, ac, aa, List.set_cons_zero, List.set_cons_succ, ↓bc, ↓dq, ↓aN, ↓dY, ↓cV, ↓eG, ↓notB, ↓dh, ↓dw, ↓dP, ↓cA, ↓fG, ↓ak, ↓ao, ↓aZ, ↓cI, ↓lstM, ↓bK, ↓cF, ↓bj, ↓du, ↓callN, ↓callA, ↓cN, ↓split1, ↓callD, ↓call1, ↓callK, ↓cO, ↓putS, ↓cG, ↓cz, ↓dX, ↓eY, ↓cB, ↓cE, D.kind, CT.is, ↓fh, ↓fB, ↓fD, ↓fF, ↓cy, ↓cW, ↓cK, ↓cJ, ↓bM, ↓di, ↓aH, ↓aC, ↓cS, ↓dc, ↓dB, ↓DL.intD, ↓bU, ↓bT, ↓dz, ↓de, ↓e6, ↓e9, ↓aJ, ↓cR, ↓olist, ↓fE, ↓fC, ↓bF, ↓bR, ↓bC, ↓ck, ↓cj, ↓dj, ↓oset, ↓fH, ↓bS, ↓bJ, ↓cY, ↓dy, ↓cM, ↓bB, ↓bf, ↓aI, ↓bh, ↓cL, ↓bu, ↓dC, ↓vD, ↓vO, ↓oins, ↓fJ, ↓bL, bx, ↓bA, aK, ↓fc, ↓DL.cU, ↓cX, ↓bv, ↓bD, ↓bV, ↓bz, ↓fj, Option.map, List.map_cons, List.map_nil, List.cons_append, List.nil_append, List.length_cons, List.length_nil, List.replicate, Nat.reduceAdd, Nat.reduceSub, Nat.sub_self, Bool.not_true, Bool.not_false, ↓if_true, ↓if_false, ↓ite_true, ↓ite_false, true_and, and_true, Bool.true_eq_false, Bool.false_eq_true, reduceIte, aD, cg, b9, b8, bZ, bY, bX, ↓aW, ↓aU, ↓aV, ↓aT, ↓aR, ↓aQ, aO, cZ, ↓au, ↓ay, ↓az, ↓aj, fA, fy, fx, fw, fv, fu, ft, fo, fk, forall_const, fS, fR, fQ, fP, fO, fN, fM, fL, fK, aX, ↓aF, ↓aA, ↓aw, List.filterMap_cons, List.filterMap_nil, ↓bH, ↓cP, b7, bQ, bW, bO, dD, ↓strR, ↓joinM, ↓bN, ↓aB, ↓bP, List.nodup_cons, List.nodup_nil, List.not_mem_nil, not_false_eq_true, ↓am]
theorem tW (ns : List Int) (k : Int) (hk : 0 ≤ k ∧ k < 1000) (v1 v3 v4 v5 : DL.Slot) (h3 : v3 = .no ∨ ∃ o, v3 = .ow o) (h4 : v4 = .no ∨ ∃ d, v4 = .im d) (h5 : v5 = .no ∨ ∃ d, v5 = .im d) : ∃ (p' : Pl) (g s : Int), ∀ Q E, oq C [.im (.scr ns), v1, .im (.int k), v3, v4, v5, .no] Q E = Q .nx [.im (.scr ns), v1, .im (.int k), .ow p'.o, .im (.int g), .im (.int s), .no] := by
  have pc := xR C ns k hk
  have po := xK C (kh ns k)
  obtain ⟨p1, e1⟩ : ∃ p1 : Pl, p1 = ⟨kh ns k % 2147483423, kM (kh ns k), 0⟩ := ⟨_, rfl⟩
  have po : ∀ Q E, i9 C [.im (.int (kh ns k))] Q E = Q (.o p1.o) [.im (.int (kh ns k))] := by
    rw [e1]
    exact po
  have sz := fun (x : Addr) => vh C x (u := 7) (by decide) p1
  have b1 := xj (u := 7) (by decide) p1
  have b2 := xi 7 p1
  obtain ⟨p', n, ql⟩ := yZ C b1 b2 (sJ 7 p1).2 (.im (.scr ns)) v1 (.im (.int k))
  have al := tV n
  generalize (qB 7 p1).1 = g at *
  generalize (sJ 7 p1).1 = s at *
  generalize (sJ 7 p1).2 = p2 at *
  generalize List.replicate n (D.bl true) = trs at *
  generalize kh ns k = cv at *
  refine ⟨p', g, s, fun Q E => ?_⟩
  rcases h3 with e | ⟨o, e⟩ <;> rcases h4 with e' | ⟨d, e'⟩ <;> rcases h5 with e'' | ⟨d', e''⟩ <;> subst e <;> subst e' <;> subst e'' <;> simp only [↓oq, ↓pc, ↓po, ↓sz, ↓ql, ↓al, Bool.not_true, ↓aL, ↓aP, ↓aM, ↓aE, ↓aS, ↓ai, ↓getO, ↓putO, ↓setI, ↓setO, ac, aa, List.set_cons_zero, List.set_cons_succ, ↓bc, ↓dq, ↓aN, ↓dY, ↓cV, ↓eG, ↓notB, ↓dh, ↓dw, ↓dP, ↓cA, ↓fG, ↓ak, ↓ao, ↓aZ, ↓cI, ↓lstM, ↓bK, ↓cF, ↓bj, ↓du, ↓callN, ↓callA, ↓cN, ↓split1, ↓callD, ↓call1, ↓callK, ↓cO, ↓putS, ↓cG, ↓cz, ↓dX, ↓eY, ↓cB, ↓cE, D.kind, CT.is, ↓fh, ↓fB, ↓fD, ↓fF, ↓cy, ↓cW, ↓cK, ↓cJ, ↓bM, ↓di, ↓aH, ↓aC, ↓cS, ↓dc, ↓dB, ↓DL.intD, ↓bU, ↓bT, ↓dz, ↓de, ↓e6, ↓e9, ↓aJ, ↓cR, ↓olist, ↓fE, ↓fC, ↓bF, ↓bR, ↓bC, ↓ck, ↓cj, ↓dj, ↓oset, ↓fH, ↓bS, ↓bJ, ↓cY, ↓dy, ↓cM, ↓bB, ↓bf, ↓aI, ↓bh, ↓cL, ↓bu, ↓dC, ↓vD, ↓vO, ↓oins, ↓fJ, ↓bL, bx, ↓bA, aK, ↓fc, ↓DL.cU, ↓cX, ↓bv, ↓bD, ↓bV, ↓bz, ↓fj, Option.map, List.map_cons, List.map_nil, List.cons_append, List.nil_append, List.length_cons, List.length_nil, List.replicate, Nat.reduceAdd, Nat.reduceSub, Nat.sub_self, Bool.not_true, Bool.not_false, ↓if_true, ↓if_false, ↓ite_true, ↓ite_false, true_and, and_true, Bool.true_eq_false, Bool.false_eq_true, reduceIte, aD, cg, b9, b8, bZ, bY, bX, ↓aW, ↓aU, ↓aV, ↓aT, ↓aR, ↓aQ, aO, cZ, ↓au, ↓ay, ↓az, ↓aj, fA, fy, fx, fw, fv, fu, ft, fo, fk, forall_const, fS, fR, fQ, fP, fO, fN, fM, fL, fK, aX, ↓aF, ↓aA, ↓aw, List.filterMap_cons, List.filterMap_nil, ↓bH, ↓cP, b7, bQ, bW, bO, dD, ↓strR, ↓joinM, ↓bN, ↓aB, ↓bP, List.nodup_cons, List.nodup_nil, List.not_mem_nil, not_false_eq_true, ↓am]
theorem y6 (ns : List Int) (h : ns.length ≤ 63) (Q E) : kU C [.im (.scr ns)] Q E = Q (.d (.bl true)) [.im (.scr ns)] := by
  have m : ∃ t : Int, (2 ≤ t ∧ t ≤ 8) ∧ (if (if (8 : Int) < (ns.length : Int) then 8 else (ns.length : Int)) > 2 then (if (8 : Int) < (ns.length : Int) then 8 else (ns.length : Int)) else 2) = t := ⟨_, by split <;> split <;> omega, rfl⟩
  obtain ⟨t, ht, e⟩ := m
  have b1 : -(2 ^ 62) ≤ t ∧ t < 2 ^ 62 := by omega
  have o1 := fun v0 v2 v3 v4 v5 v6 => jZ C (g := 1) (s := 0) (by decide) (by decide) v0 v2 v3 v4 v5 v6
  have o2 := fun v0 v2 v3 v4 v5 v6 => jZ C (g := 1) (s := 6) (by decide) (by decide) v0 v2 v3 v4 v5 v6
  have o3 := fun v0 v2 v3 v4 v5 v6 => jZ C (g := 24) (s := 0) (by decide) (by decide) v0 v2 v3 v4 v5 v6
  have o4 := fun v0 v2 v3 v4 v5 v6 => jZ C (g := 24) (s := 6) (by decide) (by decide) v0 v2 v3 v4 v5 v6
  have z8 : ∀ k : Nat, k ≤ 100 → (k ≤ sizeLine) = True := fun k hk => eq_true (by rw [sizeLine_eq]; omega)
  simp only [↓kU, ↓wW, z8 0 (by omega), z8 1 (by omega), z8 2 (by omega), z8 3 (by omega), z8 4 (by omega), ↓o1, ↓o2, ↓o3, ↓o4, e, b1, jN, ↓aL, ↓aP, ↓aM, ↓aE, ↓aS, ↓ai, ↓getO, ↓putO, ↓setI, ↓setO, ac, aa, List.set_cons_zero, List.set_cons_succ, ↓bc, ↓dq, ↓aN, ↓dY, ↓cV, ↓eG, ↓notB, ↓dh, ↓dw, ↓dP, ↓cA, ↓fG, ↓ak, ↓ao, ↓aZ, ↓cI, ↓lstM, ↓bK, ↓cF, ↓bj, ↓du, ↓callN, ↓callA, ↓cN, ↓split1, ↓callD, ↓call1, ↓callK, ↓cO, ↓putS, ↓cG, ↓cz, ↓dX, ↓eY, ↓cB, ↓cE, D.kind, CT.is, ↓fh, ↓fB, ↓fD, ↓fF, ↓cy, ↓cW, ↓cK, ↓cJ, ↓bM, ↓di, ↓aH, ↓aC, ↓cS, ↓dc, ↓dB, ↓DL.intD, ↓bU, ↓bT, ↓dz, ↓de, ↓e6, ↓e9, ↓aJ, ↓cR, ↓olist, ↓fE, ↓fC, ↓bF, ↓bR, ↓bC, ↓ck, ↓cj, ↓dj, ↓oset, ↓fH, ↓bS, ↓bJ, ↓cY, ↓dy, ↓cM, ↓bB, ↓bf, ↓aI, ↓bh, ↓cL, ↓bu, ↓dC, ↓vD, ↓vO, ↓oins, ↓fJ, ↓bL, bx, ↓bA, aK, ↓fc, ↓DL.cU, ↓cX, ↓bv, ↓bD, ↓bV, ↓bz, ↓fj, Option.map, List.map_cons, List.map_nil, List.cons_append, List.nil_append, List.length_cons, List.length_nil, List.replicate, Nat.reduceAdd, Nat.reduceSub, Nat.sub_self, Bool.not_true, Bool.not_false, ↓if_true, ↓if_false, ↓ite_true, ↓ite_false, true_and, and_true, Bool.true_eq_false, Bool.false_eq_true, reduceIte, aD, cg, b9, b8, bZ, bY, bX, ↓aW, ↓aU, ↓aV, ↓aT, ↓aR, ↓aQ, aO, cZ, ↓au, ↓ay, ↓az, ↓aj, fA, fy, fx, fw, fv, fu, ft, fo, fk, forall_const, fS, fR, fQ, fP, fO, fN, fM, fL, fK, aX, ↓aF, ↓aA, ↓aw, List.filterMap_cons, List.filterMap_nil, ↓bH, ↓cP, b7, bQ, bW, bO, dD, ↓strR, ↓joinM, ↓bN, ↓aB, ↓bP, List.nodup_cons, List.nodup_nil, List.not_mem_nil, not_false_eq_true, ↓am]
  refine vS (ds := (nums t).map .int) (fun i env => ∃ v1 v2 v3 v4 v5, env = [.im (.scr ns), v1, v2, v3, v4, v5, .no] ∧ (v2 = .no ∨ ∃ d, v2 = .im d) ∧ (v3 = .no ∨ ∃ o, v3 = .ow o) ∧ (v4 = .no ∨ ∃ d, v4 = .im d) ∧ (v5 = .no ∨ ∃ d, v5 = .im d)) ⟨_, _, _, _, _, rfl, .inl rfl, .inl rfl, .inl rfl, .inl rfl⟩ ?_ ?_
  · rintro i d env hi ⟨v1, v2, v3, v4, v5, rfl, h2, h3, h4, h5⟩
    have hi' : i < t.toNat := by have := (List.getElem?_eq_some_iff.mp hi).1; rwa [List.length_map, hV] at this
    rw [List.getElem?_map, t9 hi'] at hi
    cases hi
    obtain ⟨p', g, s, run⟩ := tW C ns i (by omega) v1 v3 v4 v5 h3 h4 h5
    exact ⟨_, _, uW rfl (by rcases h2 with e | ⟨d, e⟩ <;> subst e <;> exact nofun), run, _, _, _, _, _, rfl, .inr ⟨_, rfl⟩, .inr ⟨_, rfl⟩, .inr ⟨_, rfl⟩, .inr ⟨_, rfl⟩⟩
  · rintro env ⟨v1, v2, v3, v4, v5, rfl, _, _, _, _⟩
    simp only [↓aL, ↓aP, ↓aM, ↓aE, ↓aS, ↓ai, ↓getO, ↓putO, ↓setI, ↓setO, ac, aa, List.set_cons_zero, List.set_cons_succ, ↓bc, ↓dq, ↓aN, ↓dY, ↓cV, ↓eG, ↓notB, ↓dh, ↓dw, ↓dP, ↓cA, ↓fG, ↓ak, ↓ao, ↓aZ, ↓cI, ↓lstM, ↓bK, ↓cF, ↓bj, ↓du, ↓callN, ↓callA, ↓cN, ↓split1, ↓callD, ↓call1, ↓callK, ↓cO, ↓putS, ↓cG, ↓cz, ↓dX, ↓eY, ↓cB, ↓cE, D.kind, CT.is, ↓fh, ↓fB, ↓fD, ↓fF, ↓cy, ↓cW, ↓cK, ↓cJ, ↓bM, ↓di, ↓aH, ↓aC, ↓cS, ↓dc, ↓dB, ↓DL.intD, ↓bU, ↓bT, ↓dz, ↓de, ↓e6, ↓e9, ↓aJ, ↓cR, ↓olist, ↓fE, ↓fC, ↓bF, ↓bR, ↓bC, ↓ck, ↓cj, ↓dj, ↓oset, ↓fH, ↓bS, ↓bJ, ↓cY, ↓dy, ↓cM, ↓bB, ↓bf, ↓aI, ↓bh, ↓cL, ↓bu, ↓dC, ↓vD, ↓vO, ↓oins, ↓fJ, ↓bL, bx, ↓bA, aK, ↓fc, ↓DL.cU, ↓cX, ↓bv, ↓bD, ↓bV, ↓bz, ↓fj, Option.map, List.map_cons, List.map_nil, List.cons_append, List.nil_append, List.length_cons, List.length_nil, List.replicate, Nat.reduceAdd, Nat.reduceSub, Nat.sub_self, Bool.not_true, Bool.not_false, ↓if_true, ↓if_false, ↓ite_true, ↓ite_false, true_and, and_true, Bool.true_eq_false, Bool.false_eq_true, reduceIte, aD, cg, b9, b8, bZ, bY, bX, ↓aW, ↓aU, ↓aV, ↓aT, ↓aR, ↓aQ, aO, cZ, ↓au, ↓ay, ↓az, ↓aj, fA, fy, fx, fw, fv, fu, ft, fo, fk, forall_const, fS, fR, fQ, fP, fO, fN, fM, fL, fK, aX, ↓aF, ↓aA, ↓aw, List.filterMap_cons, List.filterMap_nil, ↓bH, ↓cP, b7, bQ, bW, bO, dD, ↓strR, ↓joinM, ↓bN, ↓aB, ↓bP, List.nodup_cons, List.nodup_nil, List.not_mem_nil, not_false_eq_true, ↓am]
end
theorem plain (C : Addr) (ns : List Int) (h : ns.length ≤ 63) : kU C [.im (.scr ns)] (fun r _ => r = .d (.bl true)) (fun _ _ => False) := by
  rw [y6 C ns h]
end
end DLP
set_option maxHeartbeats 0
namespace DLP
open PySem PySem.Spec PyProof.Rows L2 DL
section
theorem zx {qq : Program} {l : PySem.W.OpenLaw} {w : World} {K : PySem.W.Frag} {h : Heap} {mg : Str → Option Value} {fa : Addr} (KX : K.In h) (G : h.Ns mainGlobals mg) (hmg : mg "law" = some (.ref fa)) (c : SaysK yB zE K)
    : ∃ (cs : List (Addr × Addr × Str)) (C : Addr) (fd : FuncData), K.In h ∧ mI qq K cs [] ∧ (∀ (s : Shared) (v : Value), BindsTo s fd ⟨[v], []⟩ [("_law_script", v)]) ∧ ∀ base : Heap, K.In base → base.Ns mainGlobals mg → (∀ p ∈ cs, LamX.TabB base mg p.1 p.2.1) → FnG l.prog w K mg base 7 fa fd ["_law_script"] (@h8 ⟨cs.map (·.2)⟩ ⟨C, mg, K, w, l.prog⟩ 1 (kU C)) := by
    obtain ⟨oc0, od0, fA, kV0, dc0, pm0, an0, cd0, ct0, l0, c0⟩ := c.def_ 0 (d := ⟨("_law_cell", none), "_law_cell", "_law_cell", defArgs eR, defBody eR, defScope eR⟩) rfl
    obtain ⟨oc1, od1, fy, kV1, dc1, pm1, an1, cd1, ct1, l1, c1⟩ := c.def_ 1 (d := ⟨("_law_pool", none), "_law_pool", "_law_pool", defArgs fX, defBody fX, defScope fX⟩) rfl
    obtain ⟨oc2, od2, fx, kV2, zy, pm2, an2, cd2, ct2, l2, c2⟩ := c.def_ 2 (d := ⟨("Hall", some "__eq__"), "__eq__", "Hall.__eq__", defArgs eC, defBody eC, defScope eC⟩) rfl
    obtain ⟨oc3, od3, fw, kV3, dc3, pm3, an3, cd3, ct3, l3, c3⟩ := c.def_ 3 (d := ⟨("is_whole", none), "is_whole", "is_whole", defArgs dR, defBody dR, defScope dR⟩) rfl
    obtain ⟨oc4, od4, fv, kV4, dc4, pm4, an4, cd4, ct4, l4, c4⟩ := c.def_ 4 (d := ⟨("Hall", some "__init__"), "__init__", "Hall.__init__", defArgs dJ, defBody dJ, defScope dJ⟩) rfl
    obtain ⟨oc5, od5, fu, kV5, dc5, pm5, an5, cd5, ct5, l5, c5⟩ := c.def_ 5 (d := ⟨("_law_row", none), "_law_row", "_law_row", defArgs gv, defBody gv, defScope gv⟩) rfl
    obtain ⟨oc6, od6, ft, kV6, dc6, pm6, an6, cd6, ct6, l6, c6⟩ := c.def_ 6 (d := ⟨("_law_text", none), "_law_text", "_law_text", defArgs fg, defBody fg, defScope fg⟩) rfl
    obtain ⟨oc7, od7, fo, kV7, dc7, pm7, an7, cd7, ct7, l7, c7⟩ := c.def_ 7 (d := ⟨("hall_of", none), "hall_of", "hall_of", defArgs ez, defBody ez, defScope ez⟩) rfl
    obtain ⟨oc8, od8, fk, kV8, dc8, pm8, an8, cd8, ct8, l8, c8⟩ := c.def_ 8 (d := ⟨("Hall", some "seats"), "seats", "Hall.seats", defArgs dE, defBody dE, defScope dE⟩) rfl
    obtain ⟨oc9, od9, sl9, kV9, dc9, pm9, an9, cd9, ct9, l9, c9⟩ := c.def_ 9 (d := ⟨("is_seat", none), "is_seat", "is_seat", defArgs eh, defBody eh, defScope eh⟩) rfl
    obtain ⟨oc10, od10, sl10, kV10, dc10, pm10, an10, cd10, ct10, l10, c10⟩ := c.def_ 10 (d := ⟨("first_odd", none), "first_odd", "first_odd", defArgs dI, defBody dI, defScope dI⟩) rfl
    obtain ⟨oc11, od11, sl11, kV11, dc11, pm11, an11, cd11, ct11, l11, c11⟩ := c.def_ 11 (d := ⟨("seated", none), "seated", "seated", defArgs eN, defBody eN, defScope eN⟩) rfl
    obtain ⟨oc12, od12, sl12, kV12, dc12, pm12, an12, cd12, ct12, l12, c12⟩ := c.def_ 12 (d := ⟨("pack_standing", none), "pack_standing", "pack_standing", defArgs cw, defBody cw, defScope cw⟩) rfl
    obtain ⟨oc13, od13, sl13, kV13, dc13, pm13, an13, cd13, ct13, l13, c13⟩ := c.def_ 13 (d := ⟨("is_standing", none), "is_standing", "is_standing", defArgs cQ, defBody cQ, defScope cQ⟩) rfl
    obtain ⟨oc14, od14, sl14, kV14, dc14, pm14, an14, cd14, ct14, l14, c14⟩ := c.def_ 14 (d := ⟨("number_in", none), "number_in", "number_in", defArgs dF, defBody dF, defScope dF⟩) rfl
    obtain ⟨oc15, od15, sl15, kV15, dc15, pm15, an15, cd15, ct15, l15, c15⟩ := c.def_ 15 (d := ⟨("read_standing", none), "read_standing", "read_standing", defArgs cq, defBody cq, defScope cq⟩) rfl
    obtain ⟨oc16, od16, sl16, kV16, dc16, pm16, an16, cd16, ct16, l16, c16⟩ := c.def_ 16 (d := ⟨("Hall", some "__str__"), "__str__", "Hall.__str__", defArgs dU, defBody dU, defScope dU⟩) rfl
    obtain ⟨oc17, od17, sl17, kV17, dc17, pm17, an17, cd17, ct17, l17, c17⟩ := c.def_ 17 (d := ⟨("show_standing", none), "show_standing", "show_standing", defArgs cu, defBody cu, defScope cu⟩) rfl
    obtain ⟨oc18, od18, sl18, kV18, dc18, pm18, an18, cd18, ct18, l18, c18⟩ := c.def_ 18 (d := ⟨("unpack_standing", none), "unpack_standing", "unpack_standing", defArgs bE, defBody bE, defScope bE⟩) rfl
    obtain ⟨oc19, od19, sl19, kV19, dc19, pm19, an19, cd19, ct19, l19, c19⟩ := c.def_ 19 (d := ⟨("_law_right", none), "_law_right", "_law_right", defArgs eQ, defBody eQ, defScope eQ⟩) rfl
    obtain ⟨oc20, od20, sl20, kV20, dc20, pm20, an20, cd20, ct20, l20, c20⟩ := c.def_ 20 (d := ⟨("_law_take", none), "_law_take", "_law_take", defArgs fW, defBody fW, defScope fW⟩) rfl
    obtain ⟨oc21, od21, sl21, kV21, dc21, pm21, an21, cd21, ct21, l21, c21⟩ := c.def_ 21 (d := ⟨("_law_sizes", none), "_law_sizes", "_law_sizes", defArgs eO, defBody eO, defScope eO⟩) rfl
    obtain ⟨oc22, od22, sl22, kV22, dc22, pm22, an22, cd22, ct22, l22, c22⟩ := c.def_ 22 (d := ⟨("_law_seated", none), "_law_seated", "_law_seated", defArgs eB, defBody eB, defScope eB⟩) rfl
    obtain ⟨oc23, od23, sl23, kV23, dc23, pm23, an23, cd23, ct23, l23, c23⟩ := c.def_ 23 (d := ⟨("_law_stands", none), "_law_stands", "_law_stands", defArgs dW, defBody dW, defScope dW⟩) rfl
    obtain ⟨oc24, od24, sl24, kV24, dc24, pm24, an24, cd24, ct24, l24, c24⟩ := c.def_ 24 (d := ⟨("law", none), "law", "law", defArgs gN, defBody gN, defScope gN⟩) rfl
    obtain ⟨t_FIGURES, v_FIGURES⟩ := DL.uU (c.fact 111)
    obtain ⟨t_MARK, v_MARK⟩ := DL.lD (c.fact 112)
    obtain ⟨t_MOST, v_MOST⟩ := DL.lD (c.fact 113)
    obtain ⟨t_ROUND, v_ROUND⟩ := DL.lD (c.fact 114)
    obtain ⟨t_SPARE, v_SPARE⟩ := DL.lD (c.fact 115)
    obtain ⟨cs, C, fd, z⟩ := yC (qq := qq) (l := l) (w := w) KX G hmg l0 c0 (c.fact 0) (of_decide_eq_true (c.fact 1)) l1 c1 (c.fact 2) (of_decide_eq_true (c.fact 3)) l2 c2 (c.fact 4) (of_decide_eq_true (c.fact 5)) (c.fact 6) l3 c3 (c.fact 7) (of_decide_eq_true (c.fact 8)) l4 c4 (c.fact 9) (of_decide_eq_true (c.fact 10)) (c.fact 11) l5 c5 (c.fact 12) (of_decide_eq_true (c.fact 13)) l6 c6 (c.fact 14) (of_decide_eq_true (c.fact 15)) l7 c7 (c.fact 16) (of_decide_eq_true (c.fact 17)) l8 c8 (c.fact 18) (of_decide_eq_true (c.fact 19)) (c.fact 20) l9 c9 (c.fact 21) (of_decide_eq_true (c.fact 22)) l10 c10 (c.fact 23) (of_decide_eq_true (c.fact 24)) l11 c11 (c.fact 25) (of_decide_eq_true (c.fact 26)) l12 c12 (c.fact 27) (of_decide_eq_true (c.fact 28)) l13 c13 (c.fact 29) (of_decide_eq_true (c.fact 30)) l14 c14 (c.fact 31) (of_decide_eq_true (c.fact 32)) l15 c15 (c.fact 33) (of_decide_eq_true (c.fact 34)) l16 c16 (c.fact 35) (of_decide_eq_true (c.fact 36)) (c.fact 37) l17 c17 (c.fact 38) (of_decide_eq_true (c.fact 39)) l18 c18 (c.fact 40) (of_decide_eq_true (c.fact 41)) l19 c19 (c.fact 42) (of_decide_eq_true (c.fact 43)) l20 c20 (c.fact 44) (of_decide_eq_true (c.fact 45)) l21 c21 (c.fact 46) (of_decide_eq_true (c.fact 47)) l22 c22 (c.fact 48) (of_decide_eq_true (c.fact 49)) l23 c23 (c.fact 50) (of_decide_eq_true (c.fact 51)) l24 c24 (c.fact 52) (of_decide_eq_true (c.fact 53)) (of_decide_eq_true (c.fact 54)) (c.fact 55) (c.fact 56) (c.fact 57) (of_decide_eq_true (c.fact 58)) (of_decide_eq_true (c.fact 59)) (of_decide_eq_true (c.fact 60)) (of_decide_eq_true (c.fact 61)) (of_decide_eq_true (c.fact 62)) (of_decide_eq_true (c.fact 63)) (of_decide_eq_true (c.fact 64)) (c.fact 65) (c.fact 66) (of_decide_eq_true (c.fact 67)) (of_decide_eq_true (c.fact 68)) (of_decide_eq_true (c.fact 69)) (of_decide_eq_true (c.fact 70)) (of_decide_eq_true (c.fact 71)) (of_decide_eq_true (c.fact 72)) (of_decide_eq_true (c.fact 73)) (of_decide_eq_true (c.fact 74)) (of_decide_eq_true (c.fact 75)) (of_decide_eq_true (c.fact 76)) (of_decide_eq_true (c.fact 77)) (of_decide_eq_true (c.fact 78)) (of_decide_eq_true (c.fact 79)) (of_decide_eq_true (c.fact 80)) (of_decide_eq_true (c.fact 81)) (of_decide_eq_true (c.fact 82)) (of_decide_eq_true (c.fact 83)) (of_decide_eq_true (c.fact 84)) (of_decide_eq_true (c.fact 85)) (of_decide_eq_true (c.fact 86)) (of_decide_eq_true (c.fact 87)) (of_decide_eq_true (c.fact 88)) (of_decide_eq_true (c.fact 89)) (of_decide_eq_true (c.fact 90)) (of_decide_eq_true (c.fact 91)) (of_decide_eq_true (c.fact 92)) (of_decide_eq_true (c.fact 93)) (of_decide_eq_true (c.fact 94)) (of_decide_eq_true (c.fact 95)) (of_decide_eq_true (c.fact 96)) (of_decide_eq_true (c.fact 97)) (of_decide_eq_true (c.fact 98)) (of_decide_eq_true (c.fact 99)) (of_decide_eq_true (c.fact 100)) (of_decide_eq_true (c.fact 101)) (of_decide_eq_true (c.fact 102)) (of_decide_eq_true (c.fact 103)) (of_decide_eq_true (c.fact 104)) (of_decide_eq_true (c.fact 105)) (of_decide_eq_true (c.fact 106)) (of_decide_eq_true (c.fact 107)) (of_decide_eq_true (c.fact 108)) (of_decide_eq_true (c.fact 109)) (of_decide_eq_true (c.fact 110)) v_FIGURES v_MARK v_MOST v_ROUND v_SPARE
    exact ⟨cs, C, fd, KX, z⟩
theorem yG {q : Program} {loose : List Str} {XP : (Str → Option Value) → Heap → Prop} {YP : World → Heap → Prop} {d : DefRec} (hdf : d.params.defaults = [])
    (F : ∀ (w : World) (mg : Str → Option Value) (fa : Addr) (h : Heap), YP w h → h.Ns mainGlobals mg → mg d.name = some (.ref fa) →
      ∃ (K : PySem.W.Frag) (cs : List (Addr × Addr × Str)) (C : Addr) (fd : FuncData), K.In h ∧ mI q K cs [] ∧ (∀ (s : Shared) (u : Value), BindsTo s fd ⟨[u], []⟩ [("_law_script", u)]) ∧ ∀ base : Heap, K.In base → base.Ns mainGlobals mg → (∀ p ∈ cs, LamX.TabB base mg p.1 p.2.1) → FnG PySem.Challenge.rw_waitseats_k06_texts_and_bytes.prog w K mg base 7 fa fd ["_law_script"] (@h8 ⟨cs.map (·.2)⟩ ⟨C, mg, K, w, PySem.Challenge.rw_waitseats_k06_texts_and_bytes.prog⟩ 1 (kU C))) :
    PySem.W.WalkO q loose XP YP PySem.Challenge.rw_waitseats_k06_texts_and_bytes.row.toRowW d [] (fun f vs => PySem.call f vs) :=
  uQ (l := PySem.Challenge.rw_waitseats_k06_texts_and_bytes) (n := 63) (k := 7) kU rfl (by decide) hdf (by decide) rfl F plain
end
end DLP
open PySem PySem.W PySem.Calls PyProof.Rows
set_option maxRecDepth 100000 in
set_option maxHeartbeats 0 in
theorem PySem.Challenge.cw_waitseats_k06_texts_and_bytes_holds : PySem.Challenge.rw_waitseats_k06_texts_and_bytes.Holds := by
  w_on; o_law
  refine HandSHeadRun.head_any (r := DLP.rowH) (q := DLP.wF) (H := DLP.hkH) (ob := DLP.zB) (M := 20000) (loose := DLP.uh) (d := HandSHeadRun.topDef DLP.rowH.prog 36) (kwd := []) DLP.x3
    (by kernel_rfl) (fun s => by kernel_rfl) DLP.zz (by kernel_rfl) (by kernel_rfl) (by kernel_rfl) (by rfl) (by first | assumption | decide +kernel) (by decide +kernel) ⟨rfl, rfl, rfl, rfl, rfl, by decide +kernel⟩ ?hw ?hc
  case hw => w_witness2
  case hc =>
    refine DLP.yG rfl ?F
    intro w mg fa h Y G hmg0
    obtain ⟨K, KX, c⟩ := Y
    have hmg : mg ("law" : PySem.Str) = some (.ref fa) := by
      have e : (HandSHeadRun.topDef DLP.rowH.prog 36).name = ("law" : PySem.Str) := by kernel_rfl
      rw [← e]
      exact hmg0
    exact ⟨K, DLP.zx KX G hmg c⟩
