import PyProof.Rows.All
import Wide.All
import OpenK.AllK
import HandS.Wide
import Wide.FinOn
import HandS.ForMost
import HandS.Lambda
import HandS.Exc
import HandS.ExcOwn
import HandS.ExcIs
import HandS.TupAny
import HandS.SortInts
import HandS.IsInst
import HandS.WordsDict
import HandS.Zip
import HandS.Rev
import HandS.Style
import KE.KIntText
import KE.IntText
import PyProof.Rows.Digits
import PyProof.StrOps2
import KE.IntTextLaws
import HandS.TupMul
import KE.SortData
import HandS.RaiseMore
import KE.SortKeyHeap
import HandS.SortKw
import PyProof.ReprRoads
import PyProof.DictUpdate
import PyProof.ReprLen
import HandS.NoneIn
import HandS.Conv
import PyProof.EqKinds
import PyProof.FactsAll.dict_1
import PyProof.Rows.IntBool
import PyProof.FactsAll.bool_2
import PyProof.FactsAll.int_3
import PyProof.Rows.ReprOcc
import KE.KAssignIn
import HandS.SetFor
import HandS.Strs
import HandS.Iter
import HandS.EndTab
import KE.KNestM
import PyProof.MaxThree
import KE.KDictPairs
import HandS.Small
import PyProof.Rows.TupMore
import PyProof.Rows.StrBool
import PyProof.DictTruth
import KE.DataCmp
import PyProof.P3In
import KE.GoesMore
import KE.GoesZip
import HandS.Deep
import KE.DataMinMax
import HandS.StrMore
import HandS.Steps
import HandS.ExcValue
import PySem.Challenge.RW_boxlayers_k71_boxes_as_texts
set_option Elab.async false
set_option linter.all false
set_option maxRecDepth 100000
namespace Bx
open PySem L2
inductive D where
  | non | bl (b : Bool) | int (i : Int) | str (x : Str)
  | tup (xs : List D)
  | lst (o : Bool) (xs : List D)
  /-- the script: a list that is read alone -/
  | scr (xs : List D)
  /-- a dict that is never changed -/
  | dic (ks : List Key) (vs : List D)
  /-- a dict that is changed -/
  | odc (ks : List Key) (vs : List D)
  /-- an object: its class and the names of its fields, the fields that it has -/
  | obj (o : Bool) (c : List Str) (vs : List D)
  /-- a list that changes, in a field of an owned object: where it stands, what it holds -/
  | box (b : Nat) (xs : List D)
  /-- an owned object with lists that change in its fields -/
  | ob2 (c : List Str) (vs : List D)
  /-- a caught exception: its class's name, its row -/
  | exc (c : Str) (r : Option Int)
def unb : D → D
  | .box _ xs => .lst false xs
  | d => d
def D.frz : D → D
  | .lst _ xs => .lst false xs
  | .odc ks vs => .dic ks vs
  | .obj _ c vs => .obj false c vs
  | .ob2 c vs => .obj false c (vs.map unb)
  | d => d
def D.own : D → Bool
  | .lst o _ => o
  | .odc _ _ => true
  | .obj o _ _ => o
  | .ob2 _ _ => true
  | _ => false
def bxl : List D → List Nat
  | [] => []
  | .box b _ :: r => b :: bxl r
  | _ :: r => bxl r
def D.bxs : D → List Nat
  | .ob2 _ vs => bxl vs
  | _ => []
inductive OwH : HO → Prop
  | lst {vs : List V} : OwH (.lst vs)
  | dK {kvs : List (Key × V)} : OwH (.dK kvs)
  | ins {C dx : Addr} {fs : List (Str × V)} : OwH (.ins C dx fs)
def NT (u : HO) : Prop := ∀ ps, u ≠ .tbl ps
theorem OwH.nt {u : HO} (h : OwH u) : NT u := by cases h <;> intro ps z <;> cases z
class TabC where
  tq : Addr → Option Str
instance (priority := low) tabC0 : TabC := ⟨fun _ => none⟩
variable [TabC]
def TabsOk (H : Hp) : Prop := ∀ P q, TabC.tq P = some q → LamX.TabS H P q
theorem tabS_of {H H' : Hp} {P : Addr} {q : Str} (t : LamX.TabS H P q) (e : ∀ b o, H b = some o → ¬ OwH o → H' b = some o) : LamX.TabS H' P q := by
  obtain ⟨ps, h1, h2, h3⟩ := t
  refine ⟨ps, e _ _ h1 (fun z => by cases z), h2, fun pos cv hc => ?_⟩
  obtain ⟨c, e1, e2⟩ := h3 pos cv hc
  refine ⟨c, e1, e _ _ e2 fun z => ?_⟩
  unfold LamX.CodeO at z
  cases z
theorem TabsOk.of {H H' : Hp} (e : ∀ b o, H b = some o → ¬ OwH o → H' b = some o) (t : TabsOk H) : TabsOk H' := fun P q h => tabS_of (t P q h) e
theorem TabsOk.new {H : Hp} {p : Addr} {o : HO} (h : H p = none) (t : TabsOk H) : TabsOk (upd H p o) := t.of fun b u e _ => by rw [upd_ne (ne_of_none e h)]; exact e
theorem TabsOk.own {H : Hp} {p : Addr} {u o : HO} (h : H p = some u) (w : OwH u) (t : TabsOk H) : TabsOk (upd H p o) := t.of fun b v e n => by
  rw [upd_ne fun z => n (by rw [z, h] at e; cases e; exact w)]; exact e
def TbT (H H' : Hp) : Prop := (TabsOk H → TabsOk H') ∧ ∀ a ps, H a = some (.tbl ps) → ∃ ps', H' a = some (.tbl ps')
theorem TbT.refl {H : Hp} : TbT H H := ⟨fun t => t, fun _ ps h => ⟨ps, h⟩⟩
theorem TbT.trans {H H1 H' : Hp} (a : TbT H H1) (b : TbT H1 H') : TbT H H' := ⟨fun t => b.1 (a.1 t), fun x ps h => by
  obtain ⟨p1, h1⟩ := a.2 x ps h
  exact b.2 x p1 h1⟩
theorem TbT.new {H : Hp} {p : Addr} {o : HO} (h : H p = none) : TbT H (upd H p o) := ⟨.new h, fun a ps q => ⟨ps, by rw [upd_ne (ne_of_none q h)]; exact q⟩⟩
theorem TbT.own {H : Hp} {p : Addr} {u o : HO} (h : H p = some u) (w : OwH u) : TbT H (upd H p o) := ⟨.own h w, fun a ps q => ⟨ps, by
  rw [upd_ne fun z => by rw [z, h] at q; cases q; cases w]; exact q⟩⟩
theorem TbT.of {H H' : Hp} (e : ∀ b o, H b = some o → ¬ OwH o → H' b = some o) : TbT H H' := ⟨.of e, fun a ps h => ⟨ps, e _ _ h fun z => by cases z⟩⟩
abbrev kTypes : List String := ["NoneType", "bool", "int", "str", "tuple", "list", "dict"]
structure ClsF (K : PySem.W.Frag) (c : List Str) (C : Addr) : Prop where
  cl : PySem.W.nsIn K mainGlobals (c.headD "") = some (some (.ref C))
  cls : Cls K C
  na : ∀ f ∈ c.tail, NoAttr K C f
  t1 : PySem.W.findIn K (.ref C) "__class__" = some (some (.builtin "object.__class__"))
  t2 : PySem.W.specialIn K (.builtin "object.__class__") "__get__" = some (some (.builtin "getset_descriptor.__get__"))
  t3 : PySem.W.takesIn K (.builtin "object.__class__") = some true
  t4 : PySem.W.mroIn K C (.type "object") = some true
  sub : ∀ T ∈ kTypes, PySem.W.subIn K (.ref C) (.type T) = some false
structure Ins (K : PySem.W.Frag) (c : List Str) (C : Addr) (fs : List (Str × V)) : Prop where
  cf : ClsF K c C
  nm : fs.map (·.1) = c.tail.take fs.length
structure ExcF (K : PySem.W.Frag) (c : Str) (C : Addr) : Prop where
  cl : PySem.W.nsIn K mainGlobals c = some (some (.ref C))
  is : ExcC K C
  sub : ∀ T ∈ kTypes, PySem.W.subIn K (.ref C) (.type T) = some false
def CxO (cls : Value) (d : Option Addr) (a : Addr) : HO := .ext fun h => ∃ (oe : Obj) (vs : Array Value), h.get? a = some oe ∧ Zc cls d oe ∧ oe.data = .fields vs
theorem cxO_ne {cls : Value} {d : Option Addr} {a : Addr} : NT (CxO cls d a) ∧ ¬ OwH (CxO cls d a) := ⟨fun ps z => (by unfold CxO at z; cases z), fun z => (by unfold CxO at z; cases z)⟩
abbrev Rho := List (Option D)
def Scr (K : PySem.W.Frag) (H : Hp) (a : Addr) (xs : List V) : Prop :=
  (∃ o, H a = some (.frz o (.lst xs))) ∨
    ∃ (o : Obj) (its : Array Value) (n : Nat), K.lookup a = some o ∧ o.cls = .type "list" ∧ o.dict = none ∧ o.data = .seq its n ∧ its.size ≤ sizeLine ∧ Vals xs its.toList
theorem Scr.sqL {K : PySem.W.Frag} {H : Hp} {a : Addr} {xs : List V} (h : Scr K H a xs) : SqL K H a xs := by
  rcases h with ⟨o, h⟩ | h
  · exact .inl (.inr ⟨o, h⟩)
  · exact .inr h
mutual
inductive Rep (K : PySem.W.Frag) (H : Hp) (O : Addr → Prop) : V → D → Prop
  | non : Rep K H O .non .non
  | bl (b : Bool) : Rep K H O (.bl b) (.bl b)
  | int (i : Int) : Rep K H O (.int i) (.int i)
  | str (x : Str) : Rep K H O (.str x) (.str x)
  | tup {a : Addr} {vs : List V} {ds : List D} : SqT K H a vs → Reps K H O vs ds → Rep K H O (.ref a) (.tup ds)
  | lst {a : Addr} {vs : List V} {ds : List D} : H a = some (.lst vs) → ¬ O a → Reps K H O vs ds → Rep K H O (.ref a) (.lst false ds)
  | scr {a : Addr} {vs : List V} {ds : List D} : Scr K H a vs → Reps K H O vs ds → Rep K H O (.ref a) (.scr ds)
  | dic {a : Addr} {kvs : List (Key × V)} {ds : List D} : H a = some (.dK kvs) → ¬ O a → Reps K H O (kvs.map (·.2)) ds → Rep K H O (.ref a) (.dic (kvs.map (·.1)) ds)
  | obj {a C dx : Addr} {fs : List (Str × V)} {c : List Str} {ds : List D} : H a = some (.ins C dx fs) → ¬ O a → Ins K c C fs → Reps K H O (fs.map (·.2)) ds → Rep K H O (.ref a) (.obj false c ds)
  | exc {a C : Addr} {c : Str} : H a = some (CxO (.ref C) none a) → ExcF K c C → Rep K H O (.ref a) (.exc c none)
inductive Reps (K : PySem.W.Frag) (H : Hp) (O : Addr → Prop) : List V → List D → Prop
  | nil : Reps K H O [] []
  | cons {v : V} {vs : List V} {d : D} {ds : List D} : Rep K H O v d → Reps K H O vs ds → Reps K H O (v :: vs) (d :: ds)
end
inductive FR (K : PySem.W.Frag) (H : Hp) (O : Addr → Prop) : List V → List D → Prop
  | nil : FR K H O [] []
  | rep {v : V} {vs : List V} {d : D} {ds : List D} : Rep K H O v d → FR K H O vs ds → FR K H O (v :: vs) (d :: ds)
  | box {b : Nat} {ws : List V} {xs : List D} {vs : List V} {ds : List D} : O b → H b = some (.lst ws) → Reps K H O ws xs → FR K H O vs ds → FR K H O (.ref b :: vs) (.box b xs :: ds)
inductive OwR (K : PySem.W.Frag) (H : Hp) (O : Addr → Prop) : HO → D → Prop
  | lst {vs : List V} {ds : List D} : Reps K H O vs ds → OwR K H O (.lst vs) (.lst true ds)
  | dK {kvs : List (Key × V)} {ds : List D} : Reps K H O (kvs.map (·.2)) ds → OwR K H O (.dK kvs) (.odc (kvs.map (·.1)) ds)
  | ins {C dx : Addr} {fs : List (Str × V)} {c : List Str} {ds : List D} : Ins K c C fs → Reps K H O (fs.map (·.2)) ds → OwR K H O (.ins C dx fs) (.obj true c ds)
  | in2 {C dx : Addr} {fs : List (Str × V)} {c : List Str} {ds : List D} : Ins K c C fs → FR K H O (fs.map (·.2)) ds → (bxl ds).Nodup → OwR K H O (.ins C dx fs) (.ob2 c ds)
inductive Val (K : PySem.W.Frag) (H : Hp) (O : Addr → Prop) : V → D → Prop
  | rep {v : V} {d : D} : Rep K H O v d → Val K H O v d
  | own {a : Addr} {u : HO} {d : D} : O a → H a = some u → OwR K H O u d → Val K H O (.ref a) d
section
variable {K : PySem.W.Frag} {H H' : Hp} {O O' : Addr → Prop}
theorem Reps.length : ∀ {vs : List V} {ds : List D}, Reps K H O vs ds → vs.length = ds.length
  | _, _, .nil => rfl
  | _, _, .cons _ t => by rw [List.length_cons, List.length_cons, Reps.length t]
theorem Reps.get : ∀ {vs : List V} {ds : List D} {i : Nat} {d : D}, Reps K H O vs ds → ds[i]? = some d → ∃ v, vs[i]? = some v ∧ Rep K H O v d
  | _, _, _, _, .nil, e => by simp at e
  | _, _, 0, _, .cons r _, e => by simp at e; subst e; exact ⟨_, rfl, r⟩
  | _, _, i + 1, x, .cons _ t, e => by
    obtain ⟨u, h1, h2⟩ := Reps.get (i := i) (d := x) t (by simpa using e)
    exact ⟨u, by simpa using h1, h2⟩
theorem Reps.append : ∀ {vs ws : List V} {ds es : List D}, Reps K H O vs ds → Reps K H O ws es → Reps K H O (vs ++ ws) (ds ++ es)
  | _, _, _, _, .nil, s => s
  | _, _, _, _, .cons r t, s => .cons r (Reps.append t s)
theorem Reps.take : ∀ {vs : List V} {ds : List D} (n : Nat), Reps K H O vs ds → Reps K H O (vs.take n) (ds.take n)
  | _, _, 0, _ => .nil
  | _, _, _ + 1, .nil => .nil
  | _, _, n + 1, .cons r t => .cons r (Reps.take n t)
theorem Reps.drop : ∀ {vs : List V} {ds : List D} (n : Nat), Reps K H O vs ds → Reps K H O (vs.drop n) (ds.drop n)
  | _, _, 0, r => r
  | _, _, _ + 1, .nil => .nil
  | _, _, n + 1, .cons _ t => Reps.drop n t
theorem Reps.set {v : V} {d : D} (r : Rep K H O v d) : ∀ {vs : List V} {ds : List D} (i : Nat), Reps K H O vs ds → Reps K H O (vs.set i v) (ds.set i d)
  | _, _, _, .nil => .nil
  | _, _, 0, .cons _ t => .cons r t
  | _, _, i + 1, .cons q t => .cons q (Reps.set r i t)
structure Ext (S : Addr → Prop) (H : Hp) (O : Addr → Prop) (H' : Hp) (O' : Addr → Prop) : Prop where
  keep' : ∀ a u, H a = some u → ¬ S a → NT u → H' a = some u ∧ (O' a ↔ O a)
  dom : ∀ a u, H a = some u → ∃ u', H' a = some u'
  tt : TbT H H'
theorem Ext.keep {S : Addr → Prop} (e : Ext S H O H' O') (a : Addr) (u : HO) (h : H a = some u) (n : ¬ S a) (nt : NT u := by first | assumption | (intro _ z; cases z; done) | (exact OwH.nt (by assumption))) : H' a = some u ∧ (O' a ↔ O a) := e.keep' a u h n nt
theorem Ext.refl {S : Addr → Prop} : Ext S H O H O := ⟨fun _ _ h _ _ => ⟨h, Iff.rfl⟩, fun _ u h => ⟨u, h⟩, .refl⟩
theorem Ext.mono {S T : Addr → Prop} (h : ∀ a, S a → T a) (e : Ext S H O H' O') : Ext T H O H' O' :=
  ⟨fun a u q n nt => e.keep a u q fun s => n (h a s), e.dom, e.tt⟩
theorem Ext.trans {S S1 : Addr → Prop} {H1 : Hp} {O1 : Addr → Prop} (hs : ∀ a u, H a = some u → S1 a → S a) (e : Ext S H O H1 O1) (f : Ext S1 H1 O1 H' O') : Ext S H O H' O' :=
  ⟨fun a u q n nt => by
    obtain ⟨h1, o1⟩ := e.keep a u q n
    obtain ⟨h2, o2⟩ := f.keep a u h1 fun z => n (hs a u q z)
    exact ⟨h2, o2.trans o1⟩, fun a u q => by
    obtain ⟨u1, h1⟩ := e.dom a u q
    exact f.dom a u1 h1, e.tt.trans f.tt⟩
theorem Ext.free {S : Addr → Prop} (e : Ext S H O H' O') {a : Addr} (h : H' a = none) : H a = none := by
  cases q : H a with
  | none => rfl
  | some u =>
    obtain ⟨u', h'⟩ := e.dom a u q
    rw [h] at h'; cases h'
theorem OwR.h {u : HO} {d : D} (r : OwR K H O u d) : OwH u := by cases r <;> constructor
theorem OwR.o {u : HO} {d : D} (r : OwR K H O u d) : d.own = true := by cases r <;> rfl
def Lsts (H : Hp) (O S : Addr → Prop) : Prop := ∀ a, S a → O a ∧ ∃ u, H a = some u ∧ OwH u
theorem sqT_ext {S : Addr → Prop} (e : Ext S H O H' O') (hS : Lsts H O S) {a : Addr} {vs : List V} (h : SqT K H a vs) : SqT K H' a vs := by
  have go : ∀ u, H a = some u → ¬ OwH u → NT u → H' a = some u := fun u q n nt => (e.keep a u q fun s => by
    obtain ⟨_, ws, z, w⟩ := hS a s
    rw [q] at z
    cases z
    exact n w).1
  rcases h with (h | ⟨o, h⟩) | h
  · exact .inl (.inl (go _ h (fun z => by cases z) fun _ z => by cases z))
  · exact .inl (.inr ⟨o, go _ h (fun z => by cases z) fun _ z => by cases z⟩)
  · exact .inr h
theorem rd_ext {S : Addr → Prop} (e : Ext S H O H' O') (hS : Lsts H O S) {a : Addr} {vs : List V} (h : H a = some (.lst vs)) (n : ¬ O a) : H' a = some (.lst vs) ∧ ¬ O' a := by
  have ns : ¬ S a := fun s => n (hS a s).1
  obtain ⟨q, i⟩ := e.keep a _ h ns
  exact ⟨q, fun z => n (i.mp z)⟩
theorem fz_ext {S : Addr → Prop} (e : Ext S H O H' O') (hS : Lsts H O S) {a : Addr} {o : Obj} {u : HO} (h : H a = some (.frz o u)) : H' a = some (.frz o u) :=
  (e.keep a _ h fun s => by
    obtain ⟨_, ws, z, w⟩ := hS a s
    rw [h] at z; cases z; cases w).1
theorem dk_ext {S : Addr → Prop} (e : Ext S H O H' O') (hS : Lsts H O S) {a : Addr} {kvs : List (Key × V)} (h : H a = some (.dK kvs)) (n : ¬ O a) : H' a = some (.dK kvs) ∧ ¬ O' a := by
  have ns : ¬ S a := fun s => n (hS a s).1
  obtain ⟨q, i⟩ := e.keep a _ h ns
  exact ⟨q, fun z => n (i.mp z)⟩
theorem in_ext {S : Addr → Prop} (e : Ext S H O H' O') (hS : Lsts H O S) {a C dx : Addr} {fs : List (Str × V)} (h : H a = some (.ins C dx fs)) (n : ¬ O a) : H' a = some (.ins C dx fs) ∧ ¬ O' a := by
  have ns : ¬ S a := fun s => n (hS a s).1
  obtain ⟨q, i⟩ := e.keep a _ h ns
  exact ⟨q, fun z => n (i.mp z)⟩
theorem scr_ext {S : Addr → Prop} (e : Ext S H O H' O') (hS : Lsts H O S) {a : Addr} {vs : List V} (h : Scr K H a vs) : Scr K H' a vs := by
  rcases h with ⟨o, h⟩ | h
  · exact .inl ⟨o, fz_ext e hS h⟩
  · exact .inr h
theorem cx_ext {S : Addr → Prop} (e : Ext S H O H' O') (hS : Lsts H O S) {a : Addr} {u : HO} (n : NT u) (w : ¬ OwH u) (h : H a = some u) : H' a = some u :=
  (e.keep a _ h (fun s => by
    obtain ⟨_, ws, z, y⟩ := hS a s
    rw [h] at z; cases z; exact w y) n).1
mutual
theorem Rep.ext {S : Addr → Prop} (e : Ext S H O H' O') (hS : Lsts H O S) : ∀ {v : V} {d : D}, Rep K H O v d → Rep K H' O' v d
  | _, _, .non => .non
  | _, _, .bl b => .bl b
  | _, _, .int i => .int i
  | _, _, .str x => .str x
  | _, _, .tup h r => .tup (sqT_ext e hS h) (Reps.ext e hS r)
  | _, _, .lst h n r => let ⟨q, m⟩ := rd_ext e hS h n; .lst q m (Reps.ext e hS r)
  | _, _, .scr h r => .scr (scr_ext e hS h) (Reps.ext e hS r)
  | _, _, .dic h n r => let ⟨q, m⟩ := dk_ext e hS h n; .dic q m (Reps.ext e hS r)
  | _, _, .obj h n i r => let ⟨q, m⟩ := in_ext e hS h n; .obj q m i (Reps.ext e hS r)
  | _, _, .exc h f => .exc (cx_ext e hS cxO_ne.1 cxO_ne.2 h) f
theorem Reps.ext {S : Addr → Prop} (e : Ext S H O H' O') (hS : Lsts H O S) : ∀ {vs : List V} {ds : List D}, Reps K H O vs ds → Reps K H' O' vs ds
  | _, _, .nil => .nil
  | _, _, .cons r t => .cons (Rep.ext e hS r) (Reps.ext e hS t)
end
mutual
theorem Rep.less (h : ∀ a, O' a → O a) : ∀ {v : V} {d : D}, Rep K H O v d → Rep K H O' v d
  | _, _, .non => .non
  | _, _, .bl b => .bl b
  | _, _, .int i => .int i
  | _, _, .str x => .str x
  | _, _, .tup q r => .tup q (Reps.less h r)
  | _, _, .lst q n r => .lst q (fun z => n (h _ z)) (Reps.less h r)
  | _, _, .scr q r => .scr q (Reps.less h r)
  | _, _, .dic q n r => .dic q (fun z => n (h _ z)) (Reps.less h r)
  | _, _, .obj q n i r => .obj q (fun z => n (h _ z)) i (Reps.less h r)
  | _, _, .exc q f => .exc q f
theorem Reps.less (h : ∀ a, O' a → O a) : ∀ {vs : List V} {ds : List D}, Reps K H O vs ds → Reps K H O' vs ds
  | _, _, .nil => .nil
  | _, _, .cons r t => .cons (Rep.less h r) (Reps.less h t)
end
end
theorem Rep.nbx {K : PySem.W.Frag} {H : Hp} {O : Addr → Prop} {v : V} {d : D} {r : List D} (h : Rep K H O v d) : bxl (d :: r) = bxl r := by cases h <;> rfl
theorem FR.ext {K : PySem.W.Frag} {H H' : Hp} {O O' : Addr → Prop} {S : Addr → Prop} (e : Ext S H O H' O') (hS : Lsts H O S) {vs : List V} {ds : List D} (n : ∀ a ∈ bxl ds, ¬ S a) (h : FR K H O vs ds) : FR K H' O' vs ds := by
  induction h with
  | nil => exact .nil
  | rep r t ih => exact .rep (r.ext e hS) (ih fun a ha => n a (by rw [r.nbx]; exact ha))
  | box o h r t ih =>
    obtain ⟨g1, g2⟩ := e.keep _ _ h (n _ List.mem_cons_self)
    exact .box (g2.mpr o) g1 (r.ext e hS) (ih fun a ha => n a (List.mem_cons_of_mem _ ha))
theorem FR.less {K : PySem.W.Frag} {H : Hp} {O O' : Addr → Prop} (hO : ∀ a, O' a → O a) {vs : List V} {ds : List D} (n : ∀ a ∈ bxl ds, O' a) (h : FR K H O vs ds) : FR K H O' vs ds := by
  induction h with
  | nil => exact .nil
  | rep r t ih => exact .rep (r.less hO) (ih fun a ha => n a (by rw [r.nbx]; exact ha))
  | box o h r t ih => exact .box (n _ List.mem_cons_self) h (r.less hO) (ih fun a ha => n a (List.mem_cons_of_mem _ ha))
theorem FR.bx {K : PySem.W.Frag} {H : Hp} {O : Addr → Prop} : ∀ {vs : List V} {ds : List D}, FR K H O vs ds → ∀ a ∈ bxl ds, O a ∧ ∃ ws, H a = some (.lst ws)
  | _, _, .nil, a, ha => by cases ha
  | _, _, .rep r t, a, ha => FR.bx t a (by rw [r.nbx] at ha; exact ha)
  | _, _, .box o h r t, a, ha => by
    rcases List.mem_cons.mp ha with rfl | ha
    · exact ⟨o, _, h⟩
    · exact FR.bx t a ha
theorem FR.frz {K : PySem.W.Frag} {H : Hp} {O O' : Addr → Prop} (hO : ∀ a, O' a → O a) {vs : List V} {ds : List D} (n : ∀ a ∈ bxl ds, ¬ O' a) (h : FR K H O vs ds) : Reps K H O' vs (ds.map unb) := by
  induction h with
  | nil => exact .nil
  | @rep v vs d ds r t ih =>
    have e : unb d = d := by cases r <;> rfl
    rw [List.map_cons, e]
    exact .cons (r.less hO) (ih fun a ha => n a (by rw [r.nbx]; exact ha))
  | box o h r t ih => exact .cons (.lst h (n _ List.mem_cons_self) (r.less hO)) (ih fun a ha => n a (List.mem_cons_of_mem _ ha))
theorem OwR.ext {K : PySem.W.Frag} {H H' : Hp} {O O' : Addr → Prop} {S : Addr → Prop} (e : Ext S H O H' O') (hS : Lsts H O S) {u : HO} {d : D} (nb : ∀ a ∈ d.bxs, ¬ S a) (r : OwR K H O u d) : OwR K H' O' u d := by
  cases r with
  | lst r => exact .lst (r.ext e hS)
  | dK r => exact .dK (r.ext e hS)
  | ins i r => exact .ins i (r.ext e hS)
  | in2 i r n => exact .in2 i (r.ext e hS nb) n
theorem OwR.less {K : PySem.W.Frag} {H : Hp} {O O' : Addr → Prop} (h : ∀ a, O' a → O a) {u : HO} {d : D} (hb : ∀ a ∈ d.bxs, O' a) (r : OwR K H O u d) : OwR K H O' u d := by
  cases r with
  | lst r => exact .lst (r.less h)
  | dK r => exact .dK (r.less h)
  | ins i r => exact .ins i (r.less h)
  | in2 i r n => exact .in2 i (r.less h hb) n
theorem OwR.bx {K : PySem.W.Frag} {H : Hp} {O : Addr → Prop} {u : HO} {d : D} (r : OwR K H O u d) : ∀ a ∈ d.bxs, O a ∧ ∃ ws, H a = some (.lst ws) := fun a ha => by
  cases r with
  | lst r => cases ha
  | dK r => cases ha
  | ins i r => cases ha
  | in2 i r n => exact r.bx a ha
theorem Rep.nown {K : PySem.W.Frag} {H : Hp} {O : Addr → Prop} {v : V} {d : D} (r : Rep K H O v d) : d.own = false := by cases r <;> rfl
theorem Rep.frz {K : PySem.W.Frag} {H : Hp} {O : Addr → Prop} {v : V} {d : D} (r : Rep K H O v d) : d.frz = d := by cases r <;> rfl
theorem OwR.frz {K : PySem.W.Frag} {H : Hp} {O O' : Addr → Prop} {a : Addr} {u : HO} {d : D} (r : OwR K H O u d) (e : H a = some u) (n : ¬ O' a) (nb : ∀ b ∈ d.bxs, ¬ O' b) (h : ∀ a, O' a → O a) : Rep K H O' (.ref a) d.frz := by
  cases r with
  | lst r => exact .lst e n (r.less h)
  | dK r => exact .dic e n (r.less h)
  | ins i r => exact .obj e n i (r.less h)
  | in2 i r _ => exact .obj e n i (r.frz h nb)
theorem OwR.lst_of {K : PySem.W.Frag} {H : Hp} {O : Addr → Prop} {u : HO} {xs : List D} (r : OwR K H O u (.lst true xs)) : ∃ vs, u = .lst vs ∧ Reps K H O vs xs := by
  cases r with
  | lst r => exact ⟨_, rfl, r⟩
theorem D.frz_own {d : D} : d.frz.own = false := by cases d <;> rfl
def Pt (v : V) (d : D) (a : Addr) : Prop := v = .ref a ∨ a ∈ d.bxs
theorem Val.pt {K : PySem.W.Frag} {H : Hp} {O : Addr → Prop} {v : V} {d : D} {a : Addr} (q : Val K H O v d) (ho : d.own = true) (hp : Pt v d a) : O a ∧ ∃ u, H a = some u ∧ OwH u := by
  cases q with
  | rep r => rw [r.nown] at ho; cases ho
  | own o h r =>
    rcases hp with hp | hp
    · cases hp; exact ⟨o, _, h, r.h⟩
    · obtain ⟨g1, ws, g2⟩ := r.bx a hp
      exact ⟨g1, _, g2, .lst⟩
def Sl (ρ : Rho) (σ : St) : Addr → Prop := fun a => ∃ (i : Nat) (d : D) (v : V), ρ[i]? = some (some d) ∧ d.own = true ∧ σ[i]? = some (some v) ∧ Pt v d a
def Sl0 (ρ : Rho) (σ : St) : Nat × Addr → Prop := fun p => ∃ (d : D) (v : V), ρ[p.1]? = some (some d) ∧ d.own = true ∧ σ[p.1]? = some (some v) ∧ Pt v d p.2
theorem Sl0.sl {ρ : Rho} {σ : St} {i : Nat} {a : Addr} : Sl0 ρ σ (i, a) → Sl ρ σ a := fun ⟨d, v, h⟩ => ⟨i, d, v, h⟩
theorem Sl.ex {ρ : Rho} {σ : St} {a : Addr} : Sl ρ σ a → ∃ i, Sl0 ρ σ (i, a) := fun ⟨i, d, v, h⟩ => ⟨i, d, v, h⟩
structure Sr (K : PySem.W.Frag) (ρ : Rho) (σ : St) (H : Hp) (O : Addr → Prop) : Prop where
  len : ρ.length = σ.length
  slot : ∀ (i : Nat) d, ρ[i]? = some (some d) → ∃ v, σ[i]? = some (some v) ∧ Val K H O v d
  uniq : ∀ (i j : Nat) d e v w a, ρ[i]? = some (some d) → d.own = true → ρ[j]? = some (some e) → e.own = true → σ[i]? = some (some v) → σ[j]? = some (some w) → Pt v d a → Pt w e a → i = j
  own : ∀ a, O a → ∃ u, H a = some u ∧ OwH u
  tab : TabsOk H
section
variable {K : PySem.W.Frag} {ρ ρ' : Rho} {σ : St} {H H' : Hp} {O O' : Addr → Prop}
theorem Sr.lsts (s : Sr K ρ σ H O) : Lsts H O (Sl ρ σ) := fun a ⟨i, d, w, h1, hd, h2, hp⟩ => by
  obtain ⟨v, e, q⟩ := s.slot i _ h1
  rw [h2] at e; cases e
  cases q with
  | rep r => rw [r.nown] at hd; cases hd
  | own o h r =>
    rcases hp with hp | hp
    · cases hp; exact ⟨o, _, h, r.h⟩
    · obtain ⟨g1, ws, g2⟩ := r.bx a hp
      exact ⟨g1, _, g2, .lst⟩
theorem Sr.fresh (s : Sr K ρ σ H O) {a : Addr} (h : H a = none) : ¬ O a := fun z => by
  obtain ⟨vs, e, _⟩ := s.own a z
  rw [h] at e; cases e
theorem Sr.nsl (s : Sr K ρ σ H O) {a : Addr} (h : H a = none) : ¬ Sl ρ σ a := fun z => s.fresh h (s.lsts a z).1
structure After (K : PySem.W.Frag) (ρ : Rho) (σ : St) (H : Hp) (O : Addr → Prop) (ρ' : Rho) (H' : Hp) (O' : Addr → Prop) : Prop where
  sr : Sr K ρ' σ H' O'
  ext : Ext (Sl ρ σ) H O H' O'
  sub : ∀ a, Sl ρ' σ a → Sl ρ σ a
  sub0 : ∀ a, Sl0 ρ' σ a → Sl0 ρ σ a
theorem After.refl (s : Sr K ρ σ H O) : After K ρ σ H O ρ H O := ⟨s, .refl, fun _ h => h, fun _ h => h⟩
theorem After.trans {ρ1 : Rho} {H1 : Hp} {O1 : Addr → Prop} (a : After K ρ σ H O ρ1 H1 O1) (b : After K ρ1 σ H1 O1 ρ' H' O') : After K ρ σ H O ρ' H' O' :=
  ⟨b.sr, a.ext.trans (fun x _ _ z => a.sub x z) b.ext, fun x z => a.sub x (b.sub x z), fun x z => a.sub0 x (b.sub0 x z)⟩
structure VOk (K : PySem.W.Frag) (H : Hp) (H' : Hp) (O' : Addr → Prop) (v : V) (d : D) : Prop where
  val : Val K H' O' v d
  new : ∀ a, d.own = true → Pt v d a → H a = none
theorem VOk.back {H0 : Hp} {v : V} {d : D} (h : ∀ a, H a = none → H0 a = none) (q : VOk K H H' O' v d) : VOk K H0 H' O' v d := ⟨q.val, fun a e1 e2 => h a (q.new a e1 e2)⟩
theorem VOk.rep {v : V} {d : D} (r : Rep K H' O' v d) : VOk K H H' O' v d := ⟨.rep r, fun a e _ => by rw [r.nown] at e; cases e⟩
theorem VOk.ext {H0 : Hp} {v : V} {d : D} (s : Sr K ρ σ H O) (hs : ∀ a, H0 a = none → ¬ Sl ρ σ a) (q : VOk K H0 H O v d) (e : Ext (Sl ρ σ) H O H' O') : VOk K H0 H' O' v d := by
  refine ⟨?_, q.new⟩
  cases q.val with
  | rep r => exact .rep (r.ext e s.lsts)
  | own o h r =>
    obtain ⟨h1, i1⟩ := e.keep _ _ h (hs _ (q.new _ r.o (.inl rfl))) r.h.nt
    exact .own (i1.mpr o) h1 (r.ext e s.lsts fun a ha => hs a (q.new a r.o (.inr ha)))
end
end Bx
namespace Bx
variable [TabC]
open PySem L2
def rget : Rho → Nat → Option D
  | [], _ => none
  | x :: _, 0 => x
  | _ :: r, n + 1 => rget r n
def rset : Rho → Nat → Option D → Rho
  | [], _, _ => []
  | _ :: r, 0, d => d :: r
  | x :: r, n + 1, d => x :: rset r n d
theorem rget_get : ∀ {ρ : Rho} {i : Nat} {d : D}, rget ρ i = some d → ρ[i]? = some (some d)
  | [], _, _, h => by cases h
  | x :: _, 0, _, h => by
    have h : x = some _ := h
    rw [h]; rfl
  | _ :: r, n + 1, _, h => by
    have q := rget_get (ρ := r) (i := n) h
    simpa using q
theorem rset_set : ∀ {ρ : Rho} {i : Nat} {d : Option D}, rset ρ i d = ρ.set i d
  | [], _, _ => by simp [rset]
  | _ :: _, 0, _ => rfl
  | x :: r, n + 1, d => by
    show x :: rset r n d = x :: r.set n d
    rw [rset_set]
inductive DOp where
  | s (i : Nat)
  | d (x : D)
def rd (ρ : Rho) : DOp → Option D
  | .s i => rget ρ i
  | .d x => some x
abbrev DE := (D → Rho → Prop) → Rho → Prop
abbrev DO := (DOp → Rho → Prop) → Rho → Prop
abbrev DA := (List DOp → Rho → Prop) → Rho → Prop
abbrev DT := (Bool → Rho → Prop) → Rho → Prop
def OOk (K : PySem.W.Frag) (σ : St) (H H' : Hp) (O' : Addr → Prop) (v : V) : DOp → Prop
  | .s i => σ[i]? = some (some v)
  | .d x => VOk K H H' O' v x
inductive OOks (K : PySem.W.Frag) (σ : St) (H H' : Hp) (O' : Addr → Prop) : List V → List DOp → Prop
  | nil : OOks K σ H H' O' [] []
  | cons {v : V} {vs : List V} {o : DOp} {os : List DOp} : OOk K σ H H' O' v o → OOks K σ H H' O' vs os → OOks K σ H H' O' (v :: vs) (o :: os)
def SE (X : Cx) (e : Expr) (w : DE) : Prop :=
  ∃ t, PE X e t ∧ ∀ (σ : St) (H : Hp) (ρ : Rho) (O : Addr → Prop) (k : D → Rho → Prop) (R : VK), Sr X.K ρ σ H O → w k ρ →
    (∀ v H' ρ' O' d, After X.K ρ σ H O ρ' H' O' → VOk X.K H H' O' v d → k d ρ' → R v H') → t σ H R
def SO (X : Cx) (e : Expr) (w : DO) : Prop :=
  ∃ t, PE X e t ∧ ∀ (σ : St) (H : Hp) (ρ : Rho) (O : Addr → Prop) (k : DOp → Rho → Prop) (R : VK), Sr X.K ρ σ H O → w k ρ →
    (∀ v H' ρ' O' o, After X.K ρ σ H O ρ' H' O' → OOk X.K σ H H' O' v o → k o ρ' → R v H') → t σ H R
def SA (X : Cx) (es : List Expr) (w : DA) : Prop :=
  ∃ t, PA X es t ∧ ∀ (σ : St) (H : Hp) (ρ : Rho) (O : Addr → Prop) (k : List DOp → Rho → Prop) (R : List V → Hp → Prop), Sr X.K ρ σ H O → w k ρ →
    (∀ vs H' ρ' O' os, After X.K ρ σ H O ρ' H' O' → OOks X.K σ H H' O' vs os → vs.length = es.length → k os ρ' → R vs H') → t σ H R
def ST (X : Cx) (e : Expr) (w : DT) : Prop :=
  ∃ t, PT X e t ∧ ∀ (σ : St) (H : Hp) (ρ : Rho) (O : Addr → Prop) (k : Bool → Rho → Prop) (R : Bool → Hp → Prop), Sr X.K ρ σ H O → w k ρ →
    (∀ b H' ρ' O', After X.K ρ σ H O ρ' H' O' → k b ρ' → R b H') → t σ H R
def SW (X : Cx) (e : Expr) (w : DT) : Prop :=
  ∃ t, PW X e t ∧ ∀ (σ : St) (H : Hp) (ρ : Rho) (O : Addr → Prop) (k : Bool → Rho → Prop) (R : Bool → Hp → Prop), Sr X.K ρ σ H O → w k ρ →
    (∀ b H' ρ' O', After X.K ρ σ H O ρ' H' O' → k b ρ' → R b H') → t σ H R
section
variable {K : PySem.W.Frag} {ρ ρ1 ρ' : Rho} {σ : St} {H H1 H' : Hp} {O O1 O' : Addr → Prop}
theorem After.nsl (a : After K ρ σ H O ρ1 H1 O1) (s : Sr K ρ σ H O) {b : Addr} (h : H b = none) : ¬ Sl ρ1 σ b := fun z => s.nsl h (a.sub b z)
theorem After.back (a : After K ρ σ H O ρ1 H1 O1) : ∀ b, H1 b = none → H b = none := fun _ h => a.ext.free h
theorem VOk.then {v : V} {d : D} (s : Sr K ρ σ H O) (a : After K ρ σ H O ρ1 H1 O1) (q : VOk K H H1 O1 v d) (b : After K ρ1 σ H1 O1 ρ' H' O') : VOk K H H' O' v d :=
  q.ext a.sr (fun _ h => a.nsl s h) b.ext
theorem OOk.then {v : V} {o : DOp} (s : Sr K ρ σ H O) (a : After K ρ σ H O ρ1 H1 O1) (q : OOk K σ H H1 O1 v o) (b : After K ρ1 σ H1 O1 ρ' H' O') : OOk K σ H H' O' v o := by
  cases o with
  | s i => exact q
  | d x => exact VOk.then s a q b
theorem OOk.back {v : V} {o : DOp} (a : After K ρ σ H O ρ1 H1 O1) (q : OOk K σ H1 H' O' v o) : OOk K σ H H' O' v o := by
  cases o with
  | s i => exact q
  | d x => exact VOk.back a.back q
theorem OOks.back (a : After K ρ σ H O ρ1 H1 O1) : ∀ {vs : List V} {os : List DOp}, OOks K σ H1 H' O' vs os → OOks K σ H H' O' vs os
  | _, _, .nil => .nil
  | _, _, .cons q t => .cons (OOk.back a q) (OOks.back a t)
theorem OOk.val {v : V} {o : DOp} {d : D} (s : Sr K ρ1 σ H1 O1) (q : OOk K σ H H1 O1 v o) (e : rd ρ1 o = some d) : Val K H1 O1 v d := by
  cases o with
  | s i =>
    obtain ⟨u, h1, h2⟩ := s.slot i d (rget_get e)
    have q : σ[i]? = some (some v) := q
    rw [q] at h1; cases h1
    exact h2
  | d x =>
    have e : some x = some d := e
    cases e
    exact VOk.val q
theorem Sr.ext0 (s : Sr K ρ σ H O) (e : Ext (fun _ => False) H O H' O') (own : ∀ a, O' a → ∃ u, H' a = some u ∧ OwH u) : After K ρ σ H O ρ H' O' := by
  have no : Lsts H O fun _ => False := fun _ z => z.elim
  refine ⟨⟨s.len, fun i d h => ?_, s.uniq, own, e.tt.1 s.tab⟩, e.mono fun _ z => z.elim, fun _ z => z, fun _ z => z⟩
  obtain ⟨v, h1, h2⟩ := s.slot i d h
  refine ⟨v, h1, ?_⟩
  cases h2 with
  | rep r => exact .rep (r.ext e no)
  | own o hh r =>
    obtain ⟨q, i⟩ := e.keep _ _ hh (fun z => z) r.h.nt
    exact .own (i.mpr o) q (r.ext e no fun _ _ z => z)
theorem ext_new {p : Addr} {o : HO} (h : H p = none) : Ext (fun _ => False) H O (upd H p o) O :=
  ⟨fun a u q _ _ => ⟨by rw [upd_ne (ne_of_none q h)]; exact q, Iff.rfl⟩, fun a u q => ⟨u, by rw [upd_ne (ne_of_none q h)]; exact q⟩, .new h⟩
def adO (O : Addr → Prop) (p : Addr) : Addr → Prop := fun a => O a ∨ a = p
theorem ext_own {p : Addr} {o : HO} (h : H p = none) : Ext (fun _ => False) H O (upd H p o) (adO O p) :=
  ⟨fun a u q _ _ => ⟨by rw [upd_ne (ne_of_none q h)]; exact q, ⟨fun z => z.elim id fun e => absurd e (ne_of_none q h), .inl⟩⟩, fun a u q => ⟨u, by rw [upd_ne (ne_of_none q h)]; exact q⟩, .new h⟩
theorem own_new {p : Addr} {o : HO} (own : ∀ a, O a → ∃ u, H a = some u ∧ OwH u) (h : H p = none) : ∀ a, O a → ∃ u, (upd H p o) a = some u ∧ OwH u := fun a z => by
  obtain ⟨vs, e, w⟩ := own a z
  exact ⟨vs, by rw [upd_ne (ne_of_none e h)]; exact e, w⟩
theorem own_ownH {p : Addr} {o : HO} (ho : OwH o) (own : ∀ a, O a → ∃ u, H a = some u ∧ OwH u) (h : H p = none) : ∀ a, adO O p a → ∃ u, (upd H p o) a = some u ∧ OwH u := fun a z => by
  by_cases e : a = p
  · subst e; exact ⟨_, upd_same, ho⟩
  · rcases z with z | z
    · obtain ⟨vs, q, w⟩ := own a z
      exact ⟨vs, by rw [upd_ne e]; exact q, w⟩
    · exact absurd z e
theorem own_own {p : Addr} {ws : List V} (own : ∀ a, O a → ∃ u, H a = some u ∧ OwH u) (h : H p = none) : ∀ a, adO O p a → ∃ u, (upd H p (.lst ws)) a = some u ∧ OwH u := own_ownH .lst own h
theorem Reps.fresh {p : Addr} {o : HO} {vs : List V} {ds : List D} (h : H p = none) (r : Reps K H O vs ds) : Reps K (upd H p o) O vs ds := r.ext (ext_new h) fun _ z => z.elim
theorem Reps.fresho {p : Addr} {o : HO} {vs : List V} {ds : List D} (h : H p = none) (r : Reps K H O vs ds) : Reps K (upd H p o) (adO O p) vs ds := r.ext (ext_own h) fun _ z => z.elim
theorem VOk.tup {p : Addr} {vs : List V} {ds : List D} (h : H p = none) (r : Reps K H O vs ds) : VOk K H (upd H p (.tup vs)) O (.ref p) (.tup ds) := .rep (.tup (.of upd_same) (r.fresh h))
theorem VOk.lst {p : Addr} {vs : List V} {ds : List D} (h : H p = none) (r : Reps K H O vs ds) : VOk K H (upd H p (.lst vs)) (adO O p) (.ref p) (.lst true ds) :=
  ⟨.own (.inr rfl) upd_same (.lst (r.fresho h)), fun a _ e => by rcases e with e | e <;> cases e; exact h⟩
theorem VOk.odc {p : Addr} {kvs : List (Key × V)} {ds : List D} (h : H p = none) (r : Reps K H O (kvs.map (·.2)) ds) : VOk K H (upd H p (.dK kvs)) (adO O p) (.ref p) (.odc (kvs.map (·.1)) ds) :=
  ⟨.own (.inr rfl) upd_same (.dK (r.fresho h)), fun a _ e => by rcases e with e | e <;> cases e; exact h⟩
def rmO (O : Addr → Prop) (P : Addr → Prop) : Addr → Prop := fun a => O a ∧ ¬ P a
theorem Sr.less (s : Sr K ρ σ H O) (hO : ∀ a, O' a → O a) (k : ∀ a, Sl ρ σ a → O' a) : Sr K ρ σ H O' := by
  refine ⟨s.len, fun i d h => ?_, s.uniq, fun a z => s.own a (hO a z), s.tab⟩
  obtain ⟨v, h1, h2⟩ := s.slot i d h
  refine ⟨v, h1, ?_⟩
  cases h2 with
  | rep r => exact .rep (r.less hO)
  | own o e r => exact .own (k _ ⟨i, _, _, h, r.o, h1, .inl rfl⟩) e (r.less hO fun a ha => k _ ⟨i, _, _, h, r.o, h1, .inr ha⟩)
theorem get_rset {i j : Nat} {d : Option D} {x : Option D} (h : (rset ρ i d)[j]? = some x) : (j = i ∧ x = d ∧ i < ρ.length) ∨ (j ≠ i ∧ ρ[j]? = some x) := by
  rw [rset_set] at h
  by_cases e : j = i
  · subst e
    by_cases l : j < ρ.length
    · rw [List.getElem?_set_self l] at h
      exact .inl ⟨rfl, (Option.some.inj h).symm, l⟩
    · rw [List.getElem?_eq_none (by simpa using l)] at h
      cases h
  · rw [List.getElem?_set_ne (Ne.symm e)] at h
    exact .inr ⟨e, h⟩
theorem rset_len {i : Nat} {d : Option D} : (rset ρ i d).length = ρ.length := by rw [rset_set, List.length_set]
theorem rset_self {i : Nat} {d : D} (h : rget ρ i = some d) : rset ρ i (some d) = ρ := by
  rw [rset_set]
  have q := rget_get h
  obtain ⟨l, e⟩ := List.getElem?_eq_some_iff.mp q
  rw [← e, List.set_getElem_self]
theorem freeze_slot {i : Nat} {d : D} (s : Sr K ρ1 σ H O1) (h : rget ρ1 i = some d) :
    ∃ O2, (∀ a, O2 a → O1 a) ∧ (∀ a, O1 a → O2 a ∨ Sl ρ1 σ a) ∧ Sr K (rset ρ1 i (some d.frz)) σ H O2 ∧ (∀ a, Sl (rset ρ1 i (some d.frz)) σ a → Sl ρ1 σ a) ∧ (∀ a, Sl0 (rset ρ1 i (some d.frz)) σ a → Sl0 ρ1 σ a) ∧ ∃ v, σ[i]? = some (some v) ∧ Rep K H O2 v d.frz := by
  obtain ⟨v, h1, h2⟩ := s.slot i d (rget_get h)
  cases h2 with
  | rep r =>
    have e : d.frz = d := r.frz
    rw [e, rset_self h]
    exact ⟨O1, fun _ z => z, fun _ z => .inl z, s, fun _ z => z, fun _ z => z, v, h1, r⟩
  | @own a u d o e r =>
    have sub : ∀ b, Sl (rset ρ1 i (some d.frz)) σ b → Sl ρ1 σ b := fun b ⟨j, xs, w, q1, qo, q2, qp⟩ => by
      rcases get_rset q1 with ⟨_, z, _⟩ | ⟨_, z⟩
      · cases z; rw [D.frz_own] at qo; cases qo
      · exact ⟨j, xs, w, z, qo, q2, qp⟩
    have sub0 : ∀ b, Sl0 (rset ρ1 i (some d.frz)) σ b → Sl0 ρ1 σ b := fun b ⟨xs, w, q1, qo, q2, qp⟩ => by
      rcases get_rset q1 with ⟨_, z, _⟩ | ⟨_, z⟩
      · cases z; rw [D.frz_own] at qo; cases qo
      · exact ⟨xs, w, z, qo, q2, qp⟩
    have hin : Sl ρ1 σ a := ⟨i, d, _, rget_get h, r.o, h1, .inl rfl⟩
    refine ⟨rmO O1 (Pt (.ref a) d), fun _ z => z.1, fun b z => ?_, ⟨by rw [rset_len]; exact s.len, fun j d' q => ?_, fun j k xs ys v w b q1 o1 q2 o2 q3 q4 q5 q6 => ?_, fun b z => s.own b z.1, s.tab⟩, sub, sub0, _, h1, r.frz e (fun z => z.2 (.inl rfl)) (fun b hb z => z.2 (.inr hb)) fun _ z => z.1⟩
    · by_cases eb : Pt (.ref a) d b
      · exact .inr ⟨i, d, _, rget_get h, r.o, h1, eb⟩
      · exact .inl ⟨z, eb⟩
    · rcases get_rset q with ⟨ej, ed, _⟩ | ⟨nj, q⟩
      · subst ej
        cases ed
        exact ⟨_, h1, .rep (r.frz e (fun z => z.2 (.inl rfl)) (fun b hb z => z.2 (.inr hb)) fun _ z => z.1)⟩
      · obtain ⟨u, g1, g2⟩ := s.slot j d' q
        refine ⟨u, g1, ?_⟩
        cases g2 with
        | rep r' => exact .rep (r'.less fun _ z => z.1)
        | own o' e' r' => exact .own ⟨o', fun z => nj (s.uniq j i _ _ _ _ _ q r'.o (rget_get h) r.o g1 h1 (.inl rfl) z)⟩ e' (r'.less (fun _ z => z.1) fun b hb => ⟨(r'.bx b hb).1, fun z => nj (s.uniq j i _ _ _ _ _ q r'.o (rget_get h) r.o g1 h1 (.inr hb) z)⟩)
    · rcases get_rset q1 with ⟨_, z, _⟩ | ⟨_, q1⟩
      · cases z; rw [D.frz_own] at o1; cases o1
      · rcases get_rset q2 with ⟨_, z, _⟩ | ⟨_, q2⟩
        · cases z; rw [D.frz_own] at o2; cases o2
        · exact s.uniq j k xs ys v w b q1 o1 q2 o2 q3 q4 q5 q6
theorem After.freeze_slot {i : Nat} {d : D} (s : Sr K ρ σ H O) (a : After K ρ σ H O ρ1 H1 O1) (h : rget ρ1 i = some d) :
    ∃ O2, (∀ a, O2 a → O1 a) ∧ After K ρ σ H O (rset ρ1 i (some d.frz)) H1 O2 ∧ ∃ v, σ[i]? = some (some v) ∧ Rep K H1 O2 v d.frz := by
  obtain ⟨O2, l, m, s2, sub, sub0, v, h1, r⟩ := Bx.freeze_slot a.sr h
  refine ⟨O2, l, ⟨s2, ⟨fun b u q n nt => ?_, a.ext.dom, a.ext.tt⟩, fun b z => a.sub b (sub b z), fun b z => a.sub0 b (sub0 b z)⟩, v, h1, r⟩
  obtain ⟨q1, q2⟩ := a.ext.keep b u q n
  refine ⟨q1, ⟨fun z => q2.mp (l b z), fun z => ?_⟩⟩
  rcases m b (q2.mpr z) with y | y
  · exact y
  · exact absurd (a.sub b y) n
theorem After.freeze_val {v : V} {d : D} (s : Sr K ρ σ H O) (a : After K ρ σ H O ρ1 H1 O1) {O2 : Addr → Prop} (q : VOk K H H1 O2 v d) (h2 : ∀ a, O1 a → O2 a) :
    ∃ O3, (∀ a, O3 a → O1 a) ∧ After K ρ σ H O ρ1 H1 O3 ∧ Rep K H1 O3 v d.frz := by
  cases q.val with
  | rep r =>
    have e : d.frz = d := r.frz
    rw [e]
    exact ⟨O1, fun _ z => z, a, r.less h2⟩
  | @own p u d o e r =>
    have hp : ∀ b, Pt (.ref p) d b → H b = none := fun b => q.new b r.o
    have ns : ∀ b, Pt (.ref p) d b → ¬ Sl ρ1 σ b := fun b hb => a.nsl s (hp b hb)
    refine ⟨rmO O1 (Pt (.ref p) d), fun _ z => z.1, ⟨a.sr.less (fun _ z => z.1) fun b z => ⟨(a.sr.lsts b z).1, fun eb => ns b eb z⟩, ⟨fun b u g n nt => ?_, a.ext.dom, a.ext.tt⟩, a.sub, a.sub0⟩, r.frz e (fun z => z.2 (.inl rfl)) (fun b hb z => z.2 (.inr hb)) fun b z => h2 b z.1⟩
    obtain ⟨q1, q2⟩ := a.ext.keep b u g n
    exact ⟨q1, ⟨fun z => q2.mp z.1, fun z => ⟨q2.mpr z, fun eb => by rw [hp b eb] at g; cases g⟩⟩⟩
end
def kTk (d : D) (k : List D → Rho → Prop) (ds : List D) (ρ : Rho) : Prop := k (d :: ds) ρ
def tkOps : List DOp → (List D → Rho → Prop) → Rho → Prop
  | [], k, ρ => k [] ρ
  | .s i :: r, k, ρ => match rget ρ i with
    | some d => tkOps r (kTk d.frz k) (rset ρ i (some d.frz))
    | none => False
  | .d x :: r, k, ρ => tkOps r (kTk x.frz k) ρ
section
variable {K : PySem.W.Frag} {ρ ρ1 ρ' : Rho} {σ : St} {H H1 H' : Hp} {O O1 O' : Addr → Prop}
theorem take_ok (s : Sr K ρ σ H O) : ∀ {os : List DOp} {vs : List V} {ρ2 : Rho} {O2 : Addr → Prop} {k : List D → Rho → Prop}, OOks K σ H H1 O1 vs os → (∀ a, O2 a → O1 a) → After K ρ σ H O ρ2 H1 O2 → tkOps os k ρ2 →
    ∃ ds ρ3 O3, (∀ a, O3 a → O2 a) ∧ After K ρ σ H O ρ3 H1 O3 ∧ Reps K H1 O3 vs ds ∧ k ds ρ3
  | [], _, ρ2, O2, _, .nil, _, a, h => ⟨[], ρ2, O2, fun _ z => z, a, .nil, h⟩
  | .s i :: r, _, ρ2, O2, k, .cons q t, l, a, h => by
    unfold tkOps at h
    cases e : rget ρ2 i with
    | none => rw [e] at h; exact h.elim
    | some d =>
      rw [e] at h
      obtain ⟨O3, l3, a3, v, h1, rv⟩ := After.freeze_slot s a e
      have q : σ[i]? = some (some _) := q
      rw [q] at h1; cases h1
      obtain ⟨ds, ρ4, O4, l4, a4, r4, h4⟩ := take_ok s t (fun b z => l b (l3 b z)) a3 h
      exact ⟨_, ρ4, O4, fun b z => l3 b (l4 b z), a4, .cons (rv.less l4) r4, h4⟩
  | .d x :: r, _, ρ2, O2, k, .cons q t, l, a, h => by
    unfold tkOps at h
    obtain ⟨O3, l3, a3, rv⟩ := After.freeze_val s a (O2 := O1) q l
    obtain ⟨ds, ρ4, O4, l4, a4, r4, h4⟩ := take_ok s t (fun b z => l b (l3 b z)) a3 h
    exact ⟨_, ρ4, O4, fun b z => l3 b (l4 b z), a4, .cons (rv.less l4) r4, h4⟩
end
section
variable {X : Cx} {pos : Pos}
def oVar (i : Nat) (k : DOp → Rho → Prop) (ρ : Rho) : Prop := match rget ρ i with
  | some _ => k (.s i) ρ
  | none => False
def dVar (i : Nat) (k : D → Rho → Prop) (ρ : Rho) : Prop := match rget ρ i with
  | some d => k d.frz (rset ρ i (some d.frz))
  | none => False
def dC (d : D) (k : D → Rho → Prop) (ρ : Rho) : Prop := k d ρ
def kOp (k : DOp → Rho → Prop) (d : D) (ρ : Rho) : Prop := k (.d d) ρ
def oVal (w : DE) (k : DOp → Rho → Prop) (ρ : Rho) : Prop := w (kOp k) ρ
theorem so_var {i : Nat} {e : Expr} (h : PE X e (tVar i)) : SO X e (oVar i) := by
  refine ⟨_, h, fun σ H ρ O k R s w q => ?_⟩
  unfold oVar at w
  cases e : rget ρ i with
  | none => rw [e] at w; exact w.elim
  | some d =>
    rw [e] at w
    obtain ⟨v, h1, h2⟩ := s.slot i d (rget_get e)
    exact ⟨v, h1, q v H ρ O (.s i) (.refl s) h1 w⟩
theorem se_var {i : Nat} {e : Expr} (h : PE X e (tVar i)) : SE X e (dVar i) := by
  refine ⟨_, h, fun σ H ρ O k R s w q => ?_⟩
  unfold dVar at w
  cases e : rget ρ i with
  | none => rw [e] at w; exact w.elim
  | some d =>
    rw [e] at w
    obtain ⟨O2, _, a, v, h1, r⟩ := After.freeze_slot s (.refl s) e
    exact ⟨v, h1, q v H _ O2 _ a (.rep r) w⟩
theorem so_val {e : Expr} {w : DE} (h : SE X e w) : SO X e (oVal w) := by
  obtain ⟨t, p, f⟩ := h
  refine ⟨t, p, fun σ H ρ O k R s hw q => ?_⟩
  exact f σ H ρ O _ R s hw fun v H' ρ' O' d a c hk => q v H' ρ' O' (.d d) a c hk
theorem se_C {e : Expr} {v : V} {d : D} (h : PE X e (tC v)) (hd : ∀ K H O, Rep K H O v d) : SE X e (dC d) :=
  ⟨_, h, fun σ H ρ O k R s w q => q v H ρ O d (.refl s) (.rep (hd _ _ _)) w⟩
theorem se_int {i : Int} {j : Nat} : SE X (.Constant (.int i) j pos) (dC (.int i)) := se_C pe_int fun _ _ _ => .int i
theorem se_bl {b : Bool} {j : Nat} : SE X (.Constant (.bool b) j pos) (dC (.bl b)) := se_C pe_bl fun _ _ _ => .bl b
theorem se_non {j : Nat} : SE X (.Constant .none j pos) (dC .non) := se_C pe_non fun _ _ _ => .non
theorem se_str {x : Str} {j : Nat} : SE X (.Constant (.str x) j pos) (dC (.str x)) := se_C pe_str fun _ _ _ => .str x
end
section
variable {X : Cx} {pos : Pos} {e : Expr} {es : List Expr}
def aNil (k : List DOp → Rho → Prop) (ρ : Rho) : Prop := k [] ρ
def kA2 (x : DOp) (k : List DOp → Rho → Prop) (xs : List DOp) (ρ : Rho) : Prop := k (x :: xs) ρ
def kA1 (w : DA) (k : List DOp → Rho → Prop) (x : DOp) (ρ : Rho) : Prop := w (kA2 x k) ρ
def aCons (o : DO) (w : DA) (k : List DOp → Rho → Prop) (ρ : Rho) : Prop := o (kA1 w k) ρ
theorem sa_nil : SA X [] aNil := ⟨_, pa_nil, fun σ H ρ O k R s w q => q [] H ρ O [] (.refl s) .nil rfl w⟩
theorem sa_cons {o : DO} {w : DA} (h : SO X e o) (r : SA X es w) (hs : starEach (e :: es) X.env = (false, eval e X.env) :: starEach es X.env := by rfl) : SA X (e :: es) (aCons o w) := by
  obtain ⟨t, p, f⟩ := h
  obtain ⟨u, p2, g⟩ := r
  refine ⟨_, pa_cons p p2 hs, fun σ H ρ O k R s hw q => ?_⟩
  refine f σ H ρ O _ _ s hw fun v H1 ρ1 O1 d a c hk => ?_
  refine g σ H1 ρ1 O1 _ _ a.sr hk fun vs H2 ρ2 O2 ds a2 c2 hl hk2 => ?_
  exact q (v :: vs) H2 ρ2 O2 (d :: ds) (a.trans a2) (.cons (c.then s a a2) (c2.back a)) (by rw [List.length_cons, List.length_cons, hl]) hk2
def kTake (k : List D → Rho → Prop) (os : List DOp) (ρ : Rho) : Prop := tkOps os k ρ
def kTup (k : D → Rho → Prop) (ds : List D) (ρ : Rho) : Prop := k (.tup ds) ρ
def kLst (k : D → Rho → Prop) (ds : List D) (ρ : Rho) : Prop := k (.lst true ds) ρ
def dTup (w : DA) (k : D → Rho → Prop) (ρ : Rho) : Prop := w (kTake (kTup k)) ρ
def dLst (w : DA) (k : D → Rho → Prop) (ρ : Rho) : Prop := w (kTake (kLst k)) ρ
theorem OOks.len {K : PySem.W.Frag} {σ : St} {H H' : Hp} {O' : Addr → Prop} : ∀ {vs : List V} {os : List DOp}, OOks K σ H H' O' vs os → vs.length = os.length
  | _, _, .nil => rfl
  | _, _, .cons _ t => by rw [List.length_cons, List.length_cons, OOks.len t]
theorem le_line {n : Nat} (h : n ≤ 1000) : n ≤ sizeLine := Nat.le_of_lt (small1000 h)
theorem se_tup {w : DA} {x1 : Nat} (h : SA X es w) (hl : es.length ≤ 1000 := by decide) : SE X (.Tuple es x1 pos) (dTup w) := by
  obtain ⟨t, p, f⟩ := h
  refine ⟨_, pe_tup p, fun σ H ρ O k R s hw q => ?_⟩
  refine f σ H ρ O _ _ s hw fun vs H1 ρ1 O1 os a c el hk => ?_
  obtain ⟨ds, ρ2, O2, l, a2, r, hk2⟩ := take_ok s c (fun _ z => z) a hk
  refine ⟨le_line (by omega), fun n hn => ?_⟩
  have a3 := a2.sr.ext0 (ext_new (o := .tup vs) hn) (own_new a2.sr.own hn)
  exact q _ _ _ _ _ (a2.trans a3) ((VOk.tup hn r).back a2.back) hk2
theorem se_lst {w : DA} (h : SA X es w) (hl : es.length ≤ 1000 := by decide) : SE X (.List es pos) (dLst w) := by
  obtain ⟨t, p, f⟩ := h
  refine ⟨_, pe_lst p, fun σ H ρ O k R s hw q => ?_⟩
  refine f σ H ρ O _ _ s hw fun vs H1 ρ1 O1 os a c el hk => ?_
  obtain ⟨ds, ρ2, O2, l, a2, r, hk2⟩ := take_ok s c (fun _ z => z) a hk
  refine ⟨le_line (by omega), fun n hn => ?_⟩
  have a3 := a2.sr.ext0 (ext_own (o := .lst vs) hn) (own_own a2.sr.own hn)
  exact q _ _ _ _ _ (a2.trans a3) ((VOk.lst hn r).back a2.back) hk2
end
end Bx
namespace Bx
variable [TabC]
open PySem L2
def onSome {α : Type} (o : Option α) (k : α → Prop) : Prop := match o with
  | some a => k a
  | none => False
theorem onSome.ex {α : Type} {o : Option α} {k : α → Prop} (h : onSome o k) : ∃ a, o = some a ∧ k a := by
  cases o with
  | none => exact h.elim
  | some a => exact ⟨a, rfl, h⟩
abbrev Own (H : Hp) (O : Addr → Prop) : Prop := ∀ a, O a → ∃ u, H a = some u ∧ OwH u
abbrev no : Addr → Prop := fun _ => False
abbrev Fin0 (X : Cx) (H : Hp) (O : Addr → Prop) (k : D → Prop) (R : VK) : Prop :=
  ∀ v H' O' d, Ext no H O H' O' → Own H' O' → VOk X.K H H' O' v d → k d → R v H'
abbrev G1 := D → (D → Prop) → Prop
abbrev G2 := D → D → (D → Prop) → Prop
abbrev GL := List D → (D → Prop) → Prop
def OpD (X : Cx) (f : Value → Value → Sem Value) (g : G2) : Prop :=
  ∃ r, OpR X f r ∧ ∀ (H : Hp) (O : Addr → Prop) (x y : V) (dx dy : D) (k : D → Prop) (R : VK), Own H O → Val X.K H O x dx → Val X.K H O y dy → g dx dy k → Fin0 X H O k R → r x y H R
def IxD (X : Cx) (g : G2) : Prop :=
  ∃ r, IxR X r ∧ ∀ (H : Hp) (O : Addr → Prop) (x y : V) (dx dy : D) (k : D → Prop) (R : VK), Own H O → Val X.K H O x dx → Val X.K H O y dy → g dx dy k → Fin0 X H O k R → r x y H R
def UnD (X : Cx) (f : Value → Sem Value) (g : G1) : Prop :=
  ∃ r, UnR X f r ∧ ∀ (H : Hp) (O : Addr → Prop) (x : V) (dx : D) (k : D → Prop) (R : VK), Own H O → Val X.K H O x dx → g dx k → Fin0 X H O k R → r x H R
inductive ValL (K : PySem.W.Frag) (H : Hp) (O : Addr → Prop) : List V → List D → Prop
  | nil : ValL K H O [] []
  | cons {v : V} {vs : List V} {d : D} {ds : List D} : Val K H O v d → ValL K H O vs ds → ValL K H O (v :: vs) (d :: ds)
def CallD (X : Cx) (f : Value) (g : GL) : Prop :=
  ∃ r, CallR X f r ∧ ∀ (H : Hp) (O : Addr → Prop) (xs : List V) (ds : List D) (k : D → Prop) (R : VK), Own H O → ValL X.K H O xs ds → g ds k → Fin0 X H O k R → r xs H R
section
variable {K : PySem.W.Frag} {H : Hp} {O : Addr → Prop}
theorem Val.non {v : V} (h : Val K H O v .non) : v = .non := by cases h with | rep r => cases r; rfl | own _ _ r => cases r
theorem Val.int {v : V} {i : Int} (h : Val K H O v (.int i)) : v = .int i := by cases h with | rep r => cases r; rfl | own _ _ r => cases r
theorem Val.bl {v : V} {i : Bool} (h : Val K H O v (.bl i)) : v = .bl i := by cases h with | rep r => cases r; rfl | own _ _ r => cases r
theorem Val.str {v : V} {i : Str} (h : Val K H O v (.str i)) : v = .str i := by cases h with | rep r => cases r; rfl | own _ _ r => cases r
theorem Val.tup {v : V} {ds : List D} (h : Val K H O v (.tup ds)) : ∃ a vs, v = .ref a ∧ SqT K H a vs ∧ Reps K H O vs ds := by
  cases h with
  | rep r => cases r with | tup h r => exact ⟨_, _, rfl, h, r⟩
  | own _ _ r => cases r
theorem _root_.Bx.OwR.lst_of' {u : HO} {o : Bool} {xs : List D} (r : OwR K H O u (.lst o xs)) : ∃ vs, u = .lst vs ∧ Reps K H O vs xs := by
  cases r with
  | lst r => exact ⟨_, rfl, r⟩
theorem Val.lst {v : V} {o : Bool} {ds : List D} (h : Val K H O v (.lst o ds)) : ∃ a vs, v = .ref a ∧ H a = some (.lst vs) ∧ Reps K H O vs ds := by
  cases h with
  | rep r => cases r with | lst h _ r => exact ⟨_, _, rfl, h, r⟩
  | own _ h r => obtain ⟨vs, rfl, q⟩ := r.lst_of'; exact ⟨_, _, rfl, h, q⟩
theorem Val.scr {v : V} {ds : List D} (h : Val K H O v (.scr ds)) : ∃ a vs, v = .ref a ∧ SqL K H a vs ∧ Reps K H O vs ds := by
  cases h with
  | rep r => cases r with | scr h r => exact ⟨_, _, rfl, h.sqL, r⟩
  | own _ _ r => cases r
def D.seq : D → Option (List D)
  | .tup xs => some xs
  | .lst _ xs => some xs
  | .scr xs => some xs
  | _ => none
theorem Val.seq {v : V} {d : D} {ds : List D} (h : Val K H O v d) (e : d.seq = some ds) : ∃ a vs, v = .ref a ∧ (SqL K H a vs ∨ SqT K H a vs) ∧ Reps K H O vs ds := by
  cases d with
  | tup xs => cases e; obtain ⟨a, vs, e, h, r⟩ := h.tup; exact ⟨a, vs, e, .inr h, r⟩
  | lst o xs => cases e; obtain ⟨a, vs, e, h, r⟩ := h.lst; exact ⟨a, vs, e, .inl (.of h), r⟩
  | scr xs => cases e; obtain ⟨a, vs, e, h, r⟩ := h.scr; exact ⟨a, vs, e, .inl h, r⟩
  | _ => cases e
def D.sql : D → Option (List D)
  | .lst _ xs => some xs
  | .scr xs => some xs
  | _ => none
theorem Val.sql {v : V} {d : D} {ds : List D} (h : Val K H O v d) (e : d.sql = some ds) : ∃ a vs, v = .ref a ∧ SqL K H a vs ∧ Reps K H O vs ds := by
  cases d with
  | lst o xs => cases e; obtain ⟨a, vs, e, h, r⟩ := h.lst; exact ⟨a, vs, e, .of h, r⟩
  | scr xs => cases e; exact h.scr
  | _ => cases e
def asInts : List D → Option (List Int)
  | [] => some []
  | .int i :: r => (asInts r).map (i :: ·)
  | _ :: _ => none
theorem asInts_map : ∀ ns : List Int, asInts (ns.map D.int) = some ns
  | [] => rfl
  | n :: r => by
    show (asInts (r.map D.int)).map (n :: ·) = _
    rw [asInts_map r]; rfl
theorem asInts_eq : ∀ {ds : List D} {ns : List Int}, asInts ds = some ns → ds = ns.map D.int
  | [], _, h => by cases h; rfl
  | .int i :: r, ns, h => by
    cases e : asInts r with
    | none => simp [asInts, e] at h
    | some l =>
      have h : (asInts r).map (i :: ·) = some ns := h
      rw [e] at h
      cases h
      rw [asInts_eq e]; rfl
  | .non :: _, _, h | .bl _ :: _, _, h | .str _ :: _, _, h | .tup _ :: _, _, h | .lst _ _ :: _, _, h | .scr _ :: _, _, h | .dic _ _ :: _, _, h | .odc _ _ :: _, _, h | .obj _ _ _ :: _, _, h => by cases h
def asBls : List D → Option (List Bool)
  | [] => some []
  | .bl i :: r => (asBls r).map (i :: ·)
  | _ :: _ => none
theorem asBls_eq : ∀ {ds : List D} {ns : List Bool}, asBls ds = some ns → ds = ns.map D.bl
  | [], _, h => by cases h; rfl
  | .bl i :: r, ns, h => by
    cases e : asBls r with
    | none => simp [asBls, e] at h
    | some l =>
      have h : (asBls r).map (i :: ·) = some ns := h
      rw [e] at h
      cases h
      rw [asBls_eq e]; rfl
  | .non :: _, _, h | .int _ :: _, _, h | .str _ :: _, _, h | .tup _ :: _, _, h | .lst _ _ :: _, _, h | .scr _ :: _, _, h | .dic _ _ :: _, _, h | .odc _ _ :: _, _, h | .obj _ _ _ :: _, _, h => by cases h
theorem Reps.ints : ∀ {vs : List V} {ns : List Int}, Reps K H O vs (ns.map D.int) → vs = ns.map V.int
  | _, [], .nil => rfl
  | _, _ :: _, .cons r t => by cases r; rw [Reps.ints t]; rfl
theorem Reps.bls : ∀ {vs : List V} {ns : List Bool}, Reps K H O vs (ns.map D.bl) → vs = ns.map V.bl
  | _, [], .nil => rfl
  | _, _ :: _, .cons r t => by cases r; rw [Reps.bls t]; rfl
theorem Reps.of_ints : ∀ ns : List Int, Reps K H O (ns.map V.int) (ns.map D.int)
  | [] => .nil
  | n :: r => .cons (.int n) (Reps.of_ints r)
end
theorem fin_id {X : Cx} {H : Hp} {O : Addr → Prop} {k : D → Prop} {R : VK} (own : Own H O) (f : Fin0 X H O k R) {v : V} {d : D} (r : Rep X.K H O v d) (h : k d) : R v H := f v H O d .refl own (.rep r) h
theorem fin_tup {X : Cx} {H : Hp} {O : Addr → Prop} {k : D → Prop} {R : VK} (own : Own H O) (f : Fin0 X H O k R) {vs : List V} {ds : List D} {p : Addr} (hp : H p = none) (r : Reps X.K H O vs ds) (h : k (.tup ds)) : R (.ref p) (upd H p (.tup vs)) :=
  f _ _ O _ (ext_new hp) (own_new own hp) (.tup hp r) h
theorem fin_lst {X : Cx} {H : Hp} {O : Addr → Prop} {k : D → Prop} {R : VK} (own : Own H O) (f : Fin0 X H O k R) {vs : List V} {ds : List D} {p : Addr} (hp : H p = none) (r : Reps X.K H O vs ds) (h : k (.lst true ds)) : R (.ref p) (upd H p (.lst vs)) :=
  f _ _ (adO O p) _ (ext_own hp) (own_own own hp) (VOk.lst hp r) h
section
variable {X : Cx}
def gAdd : G2
  | .int i, .int j, k => k (.int (i + j))
  | .str a, .str b, k => a.length + b.length ≤ sizeLine ∧ k (.str (a ++ b))
  | .tup a, .tup b, k => a.length + b.length ≤ sizeLine ∧ k (.tup (a ++ b))
  | .lst _ a, .lst _ b, k => a.length + b.length ≤ sizeLine ∧ k (.lst true (a ++ b))
  | _, _, _ => False
theorem opd_add : OpD X (binaryOp .Add) gAdd := by
  refine ⟨_, op_add.or (op_add_str.or (op_catA.or op_cat)), fun H O x y dx dy k R own vx vy g f => ?_⟩
  cases dx <;> cases dy <;> try exact False.elim g
  · exact .inl ⟨_, _, vx.int, vy.int, fin_id own f (.int _) g⟩
  · exact .inr (.inl ⟨_, _, vx.str, vy.str, g.1, fin_id own f (.str _) g.2⟩)
  · obtain ⟨a, vs, rfl, h1, r1⟩ := vx.tup
    obtain ⟨b, ws, rfl, h2, r2⟩ := vy.tup
    refine .inr (.inr (.inl ⟨a, b, vs, ws, rfl, rfl, h1, h2, by rw [r1.length, r2.length]; exact g.1, fun e => ?_, fun _ e => ?_, fun _ _ p hp => fin_tup own f hp (r1.append r2) g.2⟩))
    · subst e; cases r1
      exact fin_id own f (.tup h2 r2) g.2
    · subst e; cases r2
      exact fin_id own f (.tup h1 r1) (by have q := g.2; rw [List.append_nil] at q; exact q)
  · obtain ⟨a, vs, rfl, h1, r1⟩ := vx.lst
    obtain ⟨b, ws, rfl, h2, r2⟩ := vy.lst
    exact .inr (.inr (.inr ⟨a, b, vs, ws, rfl, rfl, h1, h2, by rw [r1.length, r2.length]; exact g.1, fun p hp => fin_lst own f hp (r1.append r2) g.2⟩))
def gII (C : Int → Int → Prop) (h : Int → Int → D) : G2
  | .int i, .int j, k => C i j ∧ k (h i j)
  | _, _, _ => False
theorem opd_ii {f : Value → Value → Sem Value} {C : Int → Int → Prop} {g : Int → Int → V} {h : Int → Int → D} (o : OpR X f (rI C g)) (e : ∀ i j K H O, Rep K H O (g i j) (h i j)) : OpD X f (gII C h) := by
  refine ⟨_, o, fun H O x y dx dy k R own vx vy q fin => ?_⟩
  cases dx <;> cases dy <;> try exact False.elim q
  exact ⟨_, _, vx.int, vy.int, q.1, fin_id own fin (e ..) q.2⟩
def gII0 (h : Int → Int → D) : G2
  | .int i, .int j, k => k (h i j)
  | _, _, _ => False
theorem opd_ii0 {f : Value → Value → Sem Value} {g : Int → Int → V} {h : Int → Int → D} (o : OpR X f (rI0 g)) (e : ∀ i j K H O, Rep K H O (g i j) (h i j)) : OpD X f (gII0 h) := by
  refine ⟨_, o, fun H O x y dx dy k R own vx vy q fin => ?_⟩
  cases dx <;> cases dy <;> try exact False.elim q
  exact ⟨_, _, vx.int, vy.int, fin_id own fin (e ..) q⟩
def gSub : G2 := gII0 fun i j => .int (i - j)
def CMulX (i j : Int) : Prop := (-(2 ^ 64) < i ∧ i < 2 ^ 64) ∨ (-(2 ^ 64) < j ∧ j < 2 ^ 64) ∨ CMulW i j
def gMul : G2
  | .int i, .int j, k => CMulX i j ∧ k (.int (i * j))
  | .lst _ a, .int j, k => (-(2 ^ 63) ≤ j ∧ j < 2 ^ 63 ∧ a.length * j.toNat ≤ sizeLine) ∧ k (.lst true (List.replicate j.toNat a).flatten)
  | _, _, _ => False
theorem Reps.rep {K : PySem.W.Frag} {H : Hp} {O : Addr → Prop} {vs : List V} {ds : List D} (h : Reps K H O vs ds) : ∀ k : Nat, Reps K H O (List.replicate k vs).flatten (List.replicate k ds).flatten
  | 0 => .nil
  | k + 1 => by
    rw [List.replicate_succ, List.flatten_cons, List.replicate_succ, List.flatten_cons]
    exact h.append (Reps.rep h k)
theorem opd_mul : OpD X (binaryOp .Mult) gMul := by
  refine ⟨_, (op_mul.or op_mulW).or op_rep, fun H O x y dx dy k R own vx vy g f => ?_⟩
  cases dx <;> cases dy <;> try exact False.elim g
  · rcases g.1 with h | h | h
    · exact .inl (.inl ⟨_, _, vx.int, vy.int, .inl h, fin_id own f (.int _) g.2⟩)
    · exact .inl (.inl ⟨_, _, vx.int, vy.int, .inr h, fin_id own f (.int _) g.2⟩)
    · exact .inl (.inr ⟨_, _, vx.int, vy.int, h, fin_id own f (.int _) g.2⟩)
  · obtain ⟨a, vs, rfl, h1, r1⟩ := vx.lst
    exact .inr ⟨a, _, vs, rfl, vy.int, h1, g.1.1, g.1.2.1, by rw [r1.length]; exact g.1.2.2, fun p hp => fin_lst own f hp (r1.rep _) g.2⟩
def gDiv : G2 := gII CDiv fun i j => .int (i / j)
theorem opd_div : OpD X (binaryOp .FloorDiv) gDiv := opd_ii op_fdiv fun _ _ _ _ _ => .int _
def gMod : G2 := gII (fun _ j => 0 < j) fun i j => .int (i % j)
theorem opd_mod : OpD X (binaryOp .Mod) gMod := opd_ii op_mod fun _ _ _ _ _ => .int _
def gPow : G2 := gII CPow fun i j => .int (i ^ j.toNat)
theorem opd_pow : OpD X (binaryOp .Pow) gPow := opd_ii op_pow fun _ _ _ _ _ => .int _
def gShl : G2 := gII CPow fun i j => .int (i * 2 ^ j.toNat)
def gShr : G2 := gII (fun _ j => 0 ≤ j) fun i j => .int (i / 2 ^ j.toNat)
def gAnd : G2 := gII0 fun i j => .int (Builtin.bitAnd i j)
def gNeg : G1
  | .int i, k => k (.int (-i))
  | _, _ => False
theorem und_neg : UnD X (unaryOp .USub) gNeg := by
  refine ⟨_, un_neg, fun H O x dx k R own vx g f => ?_⟩
  cases dx <;> try exact False.elim g
  exact ⟨_, vx.int, fin_id own f (.int _) g⟩
def gLt : G2 := gII0 fun i j => .bl (decide (i < j))
def gLe : G2 := gII0 fun i j => .bl (decide (i ≤ j))
def gGt : G2 := gII0 fun i j => .bl (decide (j < i))
def gGe : G2 := gII0 fun i j => .bl (decide (j ≤ i))
theorem opd_lt : OpD X (compareOp .Lt) gLt := opd_ii0 op_lt fun _ _ _ _ _ => .bl _
theorem opd_gt : OpD X (compareOp .Gt) gGt := opd_ii0 op_gt fun _ _ _ _ _ => .bl _
theorem opd_ge : OpD X (compareOp .GtE) gGe := opd_ii0 op_ge fun _ _ _ _ _ => .bl _
def D.isNon : D → Bool
  | .non => true
  | _ => false
def gIsN : G2
  | d, .non, k => k (.bl d.isNon)
  | _, _, _ => False
def gNotN : G2
  | d, .non, k => k (.bl (!d.isNon))
  | _, _, _ => False
theorem Val.isNon {K : PySem.W.Frag} {H : Hp} {O : Addr → Prop} {v : V} {d : D} (h : Val K H O v d) : decide (v = .non) = d.isNon := by
  cases h with
  | rep r => cases r <;> rfl
  | own _ _ r => cases r <;> rfl
theorem opd_isN : OpD X (compareOp .Is) gIsN := by
  refine ⟨_, op_isN, fun H O x y dx dy k R own vx vy g f => ?_⟩
  cases dy <;> try exact False.elim g
  refine ⟨vy.non, ?_⟩
  rw [vx.isNon]
  exact fin_id own f (.bl _) g
theorem opd_notN : OpD X (compareOp .IsNot) gNotN := by
  refine ⟨_, op_notN, fun H O x y dx dy k R own vx vy g f => ?_⟩
  cases dy <;> try exact False.elim g
  refine ⟨vy.non, ?_⟩
  rw [vx.isNon]
  exact fin_id own f (.bl _) g
mutual
def D.pd : D → PyData
  | .non => .none
  | .bl b => .bool b
  | .int i => .int i
  | .str x => .str x
  | .tup xs => .tuple (D.pds xs)
  | .lst _ xs => .list (D.pds xs)
  | .scr xs => .list (D.pds xs)
  | .dic _ _ => .dict []
  | .odc _ _ => .dict []
  | .obj _ _ _ => .dict []
  | .box _ _ => .dict []
  | .ob2 _ _ => .dict []
  | .exc _ _ => .dict []
def D.pds : List D → List PyData
  | [] => []
  | x :: r => x.pd :: D.pds r
end
mutual
def D.ndc : D → Bool
  | .tup xs => D.ndcs xs
  | .lst _ xs => D.ndcs xs
  | .scr xs => D.ndcs xs
  | .dic _ _ => false
  | .odc _ _ => false
  | .obj _ _ _ => false
  | .box _ _ => false
  | .ob2 _ _ => false
  | .exc _ _ => false
  | _ => true
def D.ndcs : List D → Bool
  | [] => true
  | x :: r => x.ndc && D.ndcs r
end
mutual
theorem ndc_lay : ∀ {d : D}, d.pd.canLay0 = true → d.ndc = true
  | .non, _ | .bl _, _ | .int _, _ | .str _, _ => by simp [D.ndc]
  | .tup xs, h => by
    simp only [D.pd, PyData.canLay0] at h
    simp only [D.ndc]
    exact ndcs_lay h
  | .lst _ xs, h => by
    simp only [D.pd, PyData.canLay0] at h
    simp only [D.ndc]
    exact ndcs_lay h
  | .scr xs, h => by
    simp only [D.pd, PyData.canLay0] at h
    simp only [D.ndc]
    exact ndcs_lay h
  | .dic _ _, h => by simp [D.pd, PyData.canLay0] at h
  | .odc _ _, h => by simp [D.pd, PyData.canLay0] at h
  | .obj _ _ _, h => by simp [D.pd, PyData.canLay0] at h
  | .box _ _, h => by simp [D.pd, PyData.canLay0] at h
  | .ob2 _ _, h => by simp [D.pd, PyData.canLay0] at h
  | .exc _ _, h => by simp [D.pd, PyData.canLay0] at h
theorem ndcs_lay : ∀ {ds : List D}, PyData.canLayAll0 (D.pds ds) = true → D.ndcs ds = true
  | [], _ => by simp [D.ndcs]
  | x :: r, h => by
    simp only [D.pds, PyData.canLayAll0, Bool.and_eq_true] at h
    simp only [D.ndcs, Bool.and_eq_true]
    exact ⟨ndc_lay h.1, ndcs_lay h.2⟩
end
mutual
theorem Rep.dp {K : PySem.W.Frag} {H : Hp} {O : Addr → Prop} : ∀ {v : V} {d : D}, Rep K H O v d → d.ndc = true → Dp K H v d.pd
  | _, _, .non, _ => by unfold D.pd; exact .non
  | _, _, .bl b, _ => by unfold D.pd; exact .bl b
  | _, _, .int i, _ => by unfold D.pd; exact .int i
  | _, _, .str x, _ => by unfold D.pd; exact .str x
  | _, _, .tup h r, n => by unfold D.pd; exact .tup h (Reps.dp r (by simpa only [D.ndc] using n))
  | _, _, .lst h _ r, n => by unfold D.pd; exact .lst (.of h) (Reps.dp r (by simpa only [D.ndc] using n))
  | _, _, .scr h r, n => by unfold D.pd; exact .lst h.sqL (Reps.dp r (by simpa only [D.ndc] using n))
  | _, _, .dic _ _ _, n => by simp [D.ndc] at n
  | _, _, .obj _ _ _ _, n => by simp [D.ndc] at n
  | _, _, .exc _ _, n => by simp [D.ndc] at n
theorem Reps.dp {K : PySem.W.Frag} {H : Hp} {O : Addr → Prop} : ∀ {vs : List V} {ds : List D}, Reps K H O vs ds → D.ndcs ds = true → DpAll K H vs (D.pds ds)
  | _, _, .nil, _ => by unfold D.pds; exact .nil
  | _, _, .cons r t, n => by
    simp only [D.ndcs, Bool.and_eq_true] at n
    unfold D.pds; exact .cons (Rep.dp r n.1) (Reps.dp t n.2)
end
theorem Val.dp {K : PySem.W.Frag} {H : Hp} {O : Addr → Prop} {v : V} {d : D} (h : Val K H O v d) (n : d.ndc = true) : Dp K H v d.pd := by
  cases h with
  | rep r => exact r.dp n
  | own _ h r =>
    cases r with
    | lst r => unfold D.pd; exact .lst (.of h) (r.dp (by simpa only [D.ndc] using n))
    | dK r => simp [D.ndc] at n
    | ins _ r => simp [D.ndc] at n
    | in2 _ r _ => simp [D.ndc] at n
def D.eqv (x y : D) : Bool := PyData.eqv x.pd y.pd
def D.eqOk (x y : D) : Prop := PyData.canLay0 x.pd = true ∧ PyData.canLay0 y.pd = true ∧ min x.pd.depth y.pd.depth ≤ 64
def gEq (x y : D) (k : D → Prop) : Prop := D.eqOk x y ∧ k (.bl (D.eqv x y))
def gNe (x y : D) (k : D → Prop) : Prop := D.eqOk x y ∧ k (.bl (!D.eqv x y))
def rEqA (K : PySem.W.Frag) : R2 := fun x y H Q => ∃ d e, Dp K H x d ∧ Dp K H y e ∧ d.canLay0 = true ∧ e.canLay0 = true ∧ min d.depth e.depth ≤ 64 ∧ Q (.bl (PyData.eqv d e)) H
def rNeA (K : PySem.W.Frag) : R2 := fun x y H Q => ∃ d e, Dp K H x d ∧ Dp K H y e ∧ d.canLay0 = true ∧ e.canLay0 = true ∧ min d.depth e.depth ≤ 64 ∧ Q (.bl (!PyData.eqv d e)) H
theorem op_eqA (hu : X.A.units + 64 < cLine) : OpR X (compareOp .Eq) (rEqA X.K) := by
  intro pins s σ H x y v u Q I rx ry h
  obtain ⟨d, e, hd, he, sd, se, hm, q⟩ := h
  obtain ⟨as, r1⟩ := Dp.reads I d x v hd rx
  obtain ⟨bs, r2⟩ := Dp.reads I e y u he ry
  exact SeqAt.compareEq_reads r1 r2 sd se (by omega) ⟨.bl _, H, I, rfl, q⟩
theorem op_neA (hu : X.A.units + 64 < cLine) : OpR X (compareOp .NotEq) (rNeA X.K) := by
  intro pins s σ H x y v u Q I rx ry h
  obtain ⟨d, e, hd, he, sd, se, hm, q⟩ := h
  obtain ⟨as, r1⟩ := Dp.reads I d x v hd rx
  obtain ⟨bs, r2⟩ := Dp.reads I e y u he ry
  exact SeqAt.compareNe_reads r1 r2 sd se (by omega) ⟨.bl _, H, I, rfl, q⟩
theorem opd_eq (hu : X.A.units + 64 < cLine) : OpD X (compareOp .Eq) gEq := by
  refine ⟨_, op_eqA hu, fun H O x y dx dy k R own vx vy g f => ?_⟩
  exact ⟨_, _, vx.dp (ndc_lay g.1.1), vy.dp (ndc_lay g.1.2.1), g.1.1, g.1.2.1, g.1.2.2, fin_id own f (.bl _) g.2⟩
theorem opd_ne (hu : X.A.units + 64 < cLine) : OpD X (compareOp .NotEq) gNe := by
  refine ⟨_, op_neA hu, fun H O x y dx dy k R own vx vy g f => ?_⟩
  exact ⟨_, _, vx.dp (ndc_lay g.1.1), vy.dp (ndc_lay g.1.2.1), g.1.1, g.1.2.1, g.1.2.2, fin_id own f (.bl _) g.2⟩
theorem atI_reps {K : PySem.W.Frag} {H : Hp} {O : Addr → Prop} {vs : List V} {ds : List D} {i : Int} {d : D} (r : Reps K H O vs ds) (h : atI ds i = some d) : ∃ v, atI vs i = some v ∧ Rep K H O v d := by
  unfold atI at h ⊢
  rw [r.length]
  cases e : ixN ds.length i with
  | none => rw [e] at h; cases h
  | some j =>
    rw [e] at h
    exact r.get h
def dget : List Key → List D → Key → Option D
  | k :: ks, v :: vs, q => if k = q then some v else dget ks vs q
  | _, _, _ => none
theorem dget_reps {K : PySem.W.Frag} {H : Hp} {O : Addr → Prop} : ∀ {kvs : List (Key × V)} {ds : List D} {k : Key} {d : D}, Reps K H O (kvs.map (·.2)) ds → dget (kvs.map (·.1)) ds k = some d → ∃ v, valV kvs k = some v ∧ Rep K H O v d
  | [], _, _, _, _, h => by cases h
  | p :: kvs, _, k, d, .cons r t, h => by
    simp only [List.map_cons, dget] at h
    by_cases e : p.1 = k
    · rw [if_pos e] at h
      cases h
      exact ⟨_, valV_pos e, r⟩
    · rw [if_neg e] at h
      obtain ⟨v, e1, e2⟩ := dget_reps t h
      exact ⟨v, by rw [valV_neg e]; exact e1, e2⟩
theorem Val.dic {K : PySem.W.Frag} {H : Hp} {O : Addr → Prop} {v : V} {ks : List Key} {ds : List D} (h : Val K H O v (.dic ks ds)) : ∃ a kvs, v = .ref a ∧ H a = some (.dK kvs) ∧ ks = kvs.map (·.1) ∧ Reps K H O (kvs.map (·.2)) ds := by
  cases h with
  | rep r => cases r with | dic h _ r => exact ⟨_, _, rfl, h, rfl, r⟩
  | own _ h r => cases r
theorem Val.odc {K : PySem.W.Frag} {H : Hp} {O : Addr → Prop} {v : V} {ks : List Key} {ds : List D} (h : Val K H O v (.odc ks ds)) : ∃ a kvs, v = .ref a ∧ H a = some (.dK kvs) ∧ ks = kvs.map (·.1) ∧ Reps K H O (kvs.map (·.2)) ds := by
  cases h with
  | rep r => cases r
  | own _ h r => cases r with | dK r => exact ⟨_, _, rfl, h, rfl, r⟩
def rIxDK : R2 := fun x y H Q => ∃ (a : Addr) (kvs : List (Key × V)) (k : Key) (v : V), x = .ref a ∧ y = kV k ∧ H a = some (.dK kvs) ∧ valV kvs k = some v ∧ Q v H
theorem ix_dk : IxR X rIxDK := by
  intro value slice pins s σ H x y v u Q I rx ry h hs
  obtain ⟨a, kvs, k, r, rfl, rfl, e, l, q⟩ := h
  obtain rfl : v = Value.ref a := rx
  obtain ⟨z, hd, vs, rel, dd⟩ := dk_rd I.hok (.inl e)
  obtain ⟨w', hw, rw'⟩ := RelO.some_of (v := r) (o := valueAt vs k) (by rw [← l]; exact rel.val k)
  exact PyProof.Rows.tail_any (dd.mapOf).typeIs PySem.F.slot_dict_getitem.lookup (PySem.wpAny_getItem_of (kV_is ry) dd.mapOf hw ⟨r, H, I.tok _, rw', q⟩) hs
def gIx : G2
  | .tup xs, .int i, k => onSome (atI xs i) k
  | .lst _ xs, .int i, k => onSome (atI xs i) k
  | .scr xs, .int i, k => onSome (atI xs i) k
  | .str z, .int i, k => z.length ≤ sizeLine ∧ onSome (atI z.cps.toList i) fun c => k (.str ⟨#[c]⟩)
  | .dic ks vs, .int i, k => onSome (dget ks vs (.inl i)) k
  | .dic ks vs, .str i, k => onSome (dget ks vs (.inr i)) k
  | .odc ks vs, .int i, k => onSome (dget ks vs (.inl i)) k
  | .odc ks vs, .str i, k => onSome (dget ks vs (.inr i)) k
  | _, _, _ => False
theorem ixd : IxD X gIx := by
  refine ⟨_, ix_seq.or ix_dk, fun H O x y dx dy k R own vx vy g f => ?_⟩
  cases dx <;> cases dy <;> try exact False.elim g
  · have g : _ ∧ onSome _ _ := g
    obtain ⟨c, e, g2⟩ := g.2.ex
    exact .inl (.inr (.inr ⟨_, _, c, vx.str, vy.int, g.1, e, fin_id own f (.str _) g2⟩))
  · obtain ⟨a, vs, rfl, h1, r1⟩ := vx.tup
    have g : onSome _ _ := g
    obtain ⟨d, e, g2⟩ := g.ex
    obtain ⟨v, e2, r2⟩ := atI_reps r1 e
    exact .inl (.inr (.inl ⟨a, vs, _, v, rfl, vy.int, h1, e2, fin_id own f r2 g2⟩))
  · obtain ⟨a, vs, rfl, h1, r1⟩ := vx.lst
    have g : onSome _ _ := g
    obtain ⟨d, e, g2⟩ := g.ex
    obtain ⟨v, e2, r2⟩ := atI_reps r1 e
    exact .inl (.inl ⟨a, vs, _, v, rfl, vy.int, .of h1, e2, fin_id own f r2 g2⟩)
  · obtain ⟨a, vs, rfl, h1, r1⟩ := vx.scr
    have g : onSome _ _ := g
    obtain ⟨d, e, g2⟩ := g.ex
    obtain ⟨v, e2, r2⟩ := atI_reps r1 e
    exact .inl (.inl ⟨a, vs, _, v, rfl, vy.int, h1, e2, fin_id own f r2 g2⟩)
  · obtain ⟨a, kvs, rfl, h1, rfl, r1⟩ := vx.dic
    have g : onSome _ _ := g
    obtain ⟨d, e, g2⟩ := g.ex
    obtain ⟨v, e2, r2⟩ := dget_reps r1 e
    exact .inr ⟨a, kvs, .inl _, v, rfl, vy.int, h1, e2, fin_id own f r2 g2⟩
  · obtain ⟨a, kvs, rfl, h1, rfl, r1⟩ := vx.dic
    have g : onSome _ _ := g
    obtain ⟨d, e, g2⟩ := g.ex
    obtain ⟨v, e2, r2⟩ := dget_reps r1 e
    exact .inr ⟨a, kvs, .inr _, v, rfl, vy.str, h1, e2, fin_id own f r2 g2⟩
  · obtain ⟨a, kvs, rfl, h1, rfl, r1⟩ := vx.odc
    have g : onSome _ _ := g
    obtain ⟨d, e, g2⟩ := g.ex
    obtain ⟨v, e2, r2⟩ := dget_reps r1 e
    exact .inr ⟨a, kvs, .inl _, v, rfl, vy.int, h1, e2, fin_id own f r2 g2⟩
  · obtain ⟨a, kvs, rfl, h1, rfl, r1⟩ := vx.odc
    have g : onSome _ _ := g
    obtain ⟨d, e, g2⟩ := g.ex
    obtain ⟨v, e2, r2⟩ := dget_reps r1 e
    exact .inr ⟨a, kvs, .inr _, v, rfl, vy.str, h1, e2, fin_id own f r2 g2⟩
def D.lenN : D → Option Nat
  | .tup xs => some xs.length
  | .lst _ xs => some xs.length
  | .scr xs => some xs.length
  | .dic ks _ => some ks.length
  | .odc ks _ => some ks.length
  | _ => none
def gLen : GL
  | [.str x], k => x.length ≤ sizeLine ∧ k (.int x.length)
  | [d], k => onSome d.lenN fun n => k (.int n)
  | _, _ => False
theorem calld_len : CallD X (.builtin "len") gLen := by
  refine ⟨_, (call_len_seq.or call_len_str).or call_lenD, fun H O xs ds k R own vs g f => ?_⟩
  cases vs with
  | nil => exact False.elim g
  | @cons v vr d dr h t =>
    cases t with
    | cons _ _ => cases d <;> exact False.elim g
    | nil =>
      have seq : ∀ ys, d.seq = some ys → k (.int ys.length) → (∃ p ys, [v] = [.ref p] ∧ (SqL X.K H p ys ∨ SqT X.K H p ys) ∧ R (.int ys.length) H) := fun ys e g => by
        obtain ⟨a, ws, rfl, q, r⟩ := h.seq e
        refine ⟨a, ws, rfl, q, ?_⟩
        rw [r.length]
        exact fin_id own f (.int _) g
      cases d with
      | str x =>
        have g : _ ∧ _ := g
        exact .inl (.inr ⟨x, by rw [h.str], g.1, fin_id own f (.int _) g.2⟩)
      | tup ys => exact .inl (.inl (seq ys rfl g))
      | lst o ys => exact .inl (.inl (seq ys rfl g))
      | scr ys => exact .inl (.inl (seq ys rfl g))
      | dic ks ys =>
        obtain ⟨a, kvs, rfl, h1, rfl, _⟩ := h.dic
        have g : k (.int ((kvs.map (·.1)).length : Nat)) := g
        rw [List.length_map] at g
        exact .inr ⟨a, kvs, rfl, h1, fin_id own f (.int _) g⟩
      | odc ks ys =>
        obtain ⟨a, kvs, rfl, h1, rfl, _⟩ := h.odc
        have g : k (.int ((kvs.map (·.1)).length : Nat)) := g
        rw [List.length_map] at g
        exact .inr ⟨a, kvs, rfl, h1, fin_id own f (.int _) g⟩
      | non => exact False.elim g
      | bl _ => exact False.elim g
      | int _ => exact False.elim g
      | obj _ _ _ => exact False.elim g
      | box _ _ => exact False.elim g
      | ob2 _ _ => exact False.elim g
      | exc _ _ => exact False.elim g
theorem ValL.one {K : PySem.W.Frag} {H : Hp} {O : Addr → Prop} {vs : List V} {d : D} (h : ValL K H O vs [d]) : ∃ v, vs = [v] ∧ Val K H O v d := by
  cases h with | cons h t => cases t; exact ⟨_, rfl, h⟩
theorem ValL.two {K : PySem.W.Frag} {H : Hp} {O : Addr → Prop} {vs : List V} {d e : D} (h : ValL K H O vs [d, e]) : ∃ v w, vs = [v, w] ∧ Val K H O v d ∧ Val K H O w e := by
  cases h with | cons h t => obtain ⟨w, rfl, q⟩ := t.one; exact ⟨_, _, rfl, h, q⟩
def gAbs : GL
  | [.int i], k => k (.int (if i < 0 then -i else i))
  | _, _ => False
def gSum : GL
  | [d], k => onSome (d.sql.bind asInts) fun ns => k (.int ns.sum)
  | _, _ => False
def gMax : GL
  | [.int i, .int j], k => k (.int (if j > i then j else i))
  | [d], k => onSome (d.sql.bind asInts) fun ns => 0 < ns.length ∧ ∀ m, m ∈ ns → (∀ y, y ∈ ns → y ≤ m) → k (.int m)
  | _, _ => False
theorem calld_max (hc : X.calm = true) : CallD X (.builtin "max") gMax := by
  refine ⟨_, (call_max2 hc).or (cr_max hc), fun H O xs ds k R own vs g f => ?_⟩
  unfold gMax at g
  split at g
  · obtain ⟨v, w, rfl, h1, h2⟩ := vs.two
    exact .inl ⟨_, _, by rw [h1.int, h2.int], fin_id own f (.int _) g⟩
  · obtain ⟨ns, e0, g⟩ := g.ex
    obtain ⟨ds, e1, e2⟩ := Option.bind_eq_some_iff.mp e0
    · · obtain ⟨v, rfl, h⟩ := vs.one
        obtain ⟨a, ws, rfl, q, r⟩ := h.sql e1
        rw [asInts_eq e2] at r
        exact .inr ⟨a, ns, rfl, by rw [← r.ints]; exact q, g.1, fun m h1 h2 => fin_id own f (.int _) (g.2 m h1 h2)⟩
  · exact g.elim
def gMin : GL
  | [.int i, .int j], k => k (.int (if j < i then j else i))
  | [d], k => onSome (d.sql.bind asInts) fun ns => 0 < ns.length ∧ ∀ m, m ∈ ns → (∀ y, y ∈ ns → m ≤ y) → k (.int m)
  | _, _ => False
theorem calld_min (hc : X.calm = true) : CallD X (.builtin "min") gMin := by
  refine ⟨_, (call_min2 hc).or (cr_min hc), fun H O xs ds k R own vs g f => ?_⟩
  unfold gMin at g
  split at g
  · obtain ⟨v, w, rfl, h1, h2⟩ := vs.two
    exact .inl ⟨_, _, by rw [h1.int, h2.int], fin_id own f (.int _) g⟩
  · obtain ⟨ns, e0, g⟩ := g.ex
    obtain ⟨ds, e1, e2⟩ := Option.bind_eq_some_iff.mp e0
    · · obtain ⟨v, rfl, h⟩ := vs.one
        obtain ⟨a, ws, rfl, q, r⟩ := h.sql e1
        rw [asInts_eq e2] at r
        exact .inr ⟨a, ns, rfl, by rw [← r.ints]; exact q, g.1, fun m h1 h2 => fin_id own f (.int _) (g.2 m h1 h2)⟩
  · exact g.elim
def gAll : GL
  | [d], k => onSome (d.sql.bind asBls) fun ns => k (.bl (ns.all id))
  | _, _ => False
theorem calld_all (hc : X.calm = true) : CallD X (.builtin "all") gAll := by
  refine ⟨_, cr_all hc, fun H O xs ds k R own vs g f => ?_⟩
  unfold gAll at g
  split at g
  · obtain ⟨ns, e0, g⟩ := g.ex
    obtain ⟨ds, e1, e2⟩ := Option.bind_eq_some_iff.mp e0
    · · obtain ⟨v, rfl, h⟩ := vs.one
        obtain ⟨a, ws, rfl, q, r⟩ := h.sql e1
        rw [asBls_eq e2] at r
        exact ⟨a, ns, rfl, by rw [← r.bls]; exact q, fin_id own f (.bl _) g⟩
  · exact g.elim
def gAny : GL
  | [d], k => onSome (d.sql.bind asBls) fun ns => k (.bl (ns.any id))
  | _, _ => False
def gList : GL
  | [d], k => onSome d.seq fun xs => k (.lst true xs)
  | _, _ => False
def gTuple : GL
  | [d], k => onSome d.seq fun xs => k (.tup xs)
  | _, _ => False
theorem calld_tuple : CallD X (.type "tuple") gTuple := by
  refine ⟨_, call_tuple_of, fun H O xs ds k R own vs g f => ?_⟩
  unfold gTuple at g
  split at g
  · obtain ⟨ys, e1, g⟩ := g.ex
    · obtain ⟨v, rfl, h⟩ := vs.one
      obtain ⟨a, ws, rfl, q, r⟩ := h.seq e1
      refine ⟨a, ws, rfl, ?_⟩
      rcases q with q | q
      · exact .inl ⟨q, fun l hl => fin_tup own f hl r g⟩
      · exact .inr ⟨q, fin_id own f (.tup q r) g⟩
  · exact g.elim
end
end Bx
namespace Bx
variable [TabC]
open PySem L2
def pick (c : Bool) (f g : Rho → Prop) (ρ : Rho) : Prop := match c with
  | true => f ρ
  | false => g ρ
theorem pick_true {f g : Rho → Prop} {ρ : Rho} : pick true f g ρ = f ρ := rfl
theorem pick_false {f g : Rho → Prop} {ρ : Rho} : pick false f g ρ = g ρ := rfl
theorem pick_by {c : Bool} {f g : Rho → Prop} {ρ : Rho} (h1 : c = true → f ρ) (h2 : c = false → g ρ) : pick c f g ρ := by
  cases c with
  | true => exact h1 rfl
  | false => exact h2 rfl
def kV (k : D → Rho → Prop) (ρ : Rho) (d : D) : Prop := k d ρ
section
variable {X : Cx} {a b c e : Expr} {es : List Expr} {pos p p2 : Pos}
def kB2 (g : G2) (x : DOp) (k : D → Rho → Prop) (y : DOp) (ρ : Rho) : Prop := onSome (rd ρ x) fun dx => onSome (rd ρ y) fun dy => g dx dy (kV k ρ)
def kB1 (g : G2) (b : DO) (k : D → Rho → Prop) (x : DOp) (ρ : Rho) : Prop := b (kB2 g x k) ρ
def dBin (g : G2) (a b : DO) (k : D → Rho → Prop) (ρ : Rho) : Prop := a (kB1 g b k) ρ
theorem bin_ok {ta tb : TE} {r : R2} {g : G2} {wa wb : DO}
    (hr : ∀ (H : Hp) (O : Addr → Prop) (x y : V) (dx dy : D) (k : D → Prop) (R : VK), Own H O → Val X.K H O x dx → Val X.K H O y dy → g dx dy k → Fin0 X H O k R → r x y H R)
    (fa : ∀ (σ : St) (H : Hp) (ρ : Rho) (O : Addr → Prop) (k : DOp → Rho → Prop) (R : VK), Sr X.K ρ σ H O → wa k ρ → (∀ v H' ρ' O' o, After X.K ρ σ H O ρ' H' O' → OOk X.K σ H H' O' v o → k o ρ' → R v H') → ta σ H R)
    (fb : ∀ (σ : St) (H : Hp) (ρ : Rho) (O : Addr → Prop) (k : DOp → Rho → Prop) (R : VK), Sr X.K ρ σ H O → wb k ρ → (∀ v H' ρ' O' o, After X.K ρ σ H O ρ' H' O' → OOk X.K σ H H' O' v o → k o ρ' → R v H') → tb σ H R) :
    ∀ (σ : St) (H : Hp) (ρ : Rho) (O : Addr → Prop) (k : D → Rho → Prop) (R : VK), Sr X.K ρ σ H O → dBin g wa wb k ρ →
    (∀ v H' ρ' O' d, After X.K ρ σ H O ρ' H' O' → VOk X.K H H' O' v d → k d ρ' → R v H') → tOp r ta tb σ H R := by
  intro σ H ρ O k R s hw q
  refine fa σ H ρ O _ _ s hw fun x H1 ρ1 O1 ox a1 c1 h1 => ?_
  refine fb σ H1 ρ1 O1 _ _ a1.sr h1 fun y H2 ρ2 O2 oy a2 c2 h2 => ?_
  obtain ⟨dx, ex, h2⟩ := h2.ex
  obtain ⟨dy, ey, h2⟩ := h2.ex
  have a12 := a1.trans a2
  refine hr H2 O2 x y dx dy _ R a2.sr.own ((c1.then s a1 a2).val a2.sr ex) (c2.val a2.sr ey) h2 fun v H' O' d e own vo hk => ?_
  have a3 := a2.sr.ext0 e own
  exact q v H' ρ2 O' d (a12.trans a3) (vo.back a12.back) hk
theorem se_bin {op : Operator} {g : G2} {wa wb : DO} (o : OpD X (binaryOp op) g) (ha : SO X a wa) (hb : SO X b wb) : SE X (.BinOp a op b pos) (dBin g wa wb) := by
  obtain ⟨r, o1, o2⟩ := o
  obtain ⟨ta, pa, fa⟩ := ha
  obtain ⟨tb, pb, fb⟩ := hb
  exact ⟨_, pe_op o1 pa pb, bin_ok o2 fa fb⟩
theorem se_cmp {op : CmpOp} {g : G2} {wa wb : DO} (o : OpD X (compareOp op) g) (ha : SO X a wa) (hb : SO X b wb) (hm : behindInMarks op b = false := by with_unfolding_all rfl) : SE X (.Compare a [op] [b] pos) (dBin g wa wb) := by
  obtain ⟨r, o1, o2⟩ := o
  obtain ⟨ta, pa, fa⟩ := ha
  obtain ⟨tb, pb, fb⟩ := hb
  exact ⟨_, pe_cmpR o1 pa pb hm, bin_ok o2 fa fb⟩
theorem se_ix {g : G2} {wa wb : DO} (o : IxD X g) (ha : SO X a wa) (hb : SO X b wb) (hs : PlainIx b := by intro _ _; rfl) : SE X (.Subscript a b pos) (dBin g wa wb) := by
  obtain ⟨r, o1, o2⟩ := o
  obtain ⟨ta, pa, fa⟩ := ha
  obtain ⟨tb, pb, fb⟩ := hb
  exact ⟨_, pe_ix o1 pa pb hs, bin_ok o2 fa fb⟩
def kU (g : G1) (k : D → Rho → Prop) (x : DOp) (ρ : Rho) : Prop := onSome (rd ρ x) fun dx => g dx (kV k ρ)
def dUn (g : G1) (a : DO) (k : D → Rho → Prop) (ρ : Rho) : Prop := a (kU g k) ρ
theorem se_un {op : UnaryOp} {g : G1} {wa : DO} (o : UnD X (unaryOp op) g) (ha : SO X a wa) : SE X (.UnaryOp op a pos) (dUn g wa) := by
  obtain ⟨r, o1, o2⟩ := o
  obtain ⟨ta, pa, fa⟩ := ha
  refine ⟨_, pe_un o1 pa, fun σ H ρ O k R s hw q => ?_⟩
  refine fa σ H ρ O _ _ s hw fun x H1 ρ1 O1 ox a1 c1 h1 => ?_
  obtain ⟨dx, ex, h1⟩ := h1.ex
  refine o2 H1 O1 x dx _ R a1.sr.own (c1.val a1.sr ex) h1 fun v H' O' d e own vo hk => ?_
  have a3 := a1.sr.ext0 e own
  exact q v H' ρ1 O' d (a1.trans a3) (vo.back a1.back) hk
def kBl (k : Bool → Rho → Prop) (d : D) (ρ : Rho) : Prop := match d with
  | .bl b => k b ρ
  | _ => False
def tVal (w : DE) (k : Bool → Rho → Prop) (ρ : Rho) : Prop := w (kBl k) ρ
theorem kBl_ok {K : PySem.W.Frag} {H H' : Hp} {O' : Addr → Prop} {v : V} {d : D} {k : Bool → Rho → Prop} {ρ' : Rho} (vo : VOk K H H' O' v d) (h : kBl k d ρ') : ∃ b, v = .bl b ∧ k b ρ' := by
  cases d <;> try exact False.elim h
  exact ⟨_, vo.val.bl, h⟩
theorem st_val {w : DE} (h : SE X e w) (he : ∀ whole, isTrue e X.env whole = (do let v ← whole; standAt e.pos; holding [v] (truthy v)) := by intro _; rfl) : ST X e (tVal w) := by
  obtain ⟨t, p, f⟩ := h
  refine ⟨_, pt_val p he, fun σ H ρ O k R s hw q => ?_⟩
  refine f σ H ρ O _ _ s hw fun v H' ρ' O' d a vo hk => ?_
  obtain ⟨b, e, hk⟩ := kBl_ok vo hk
  exact ⟨b, e, q b H' ρ' O' a hk⟩
theorem st_cmp {op : CmpOp} {g : G2} {wa wb : DO} (o : OpD X (compareOp op) g) (ha : SO X a wa) (hb : SO X b wb) (hm : behindInMarks op b = false := by with_unfolding_all rfl) : ST X (.Compare a [op] [b] pos) (tVal (dBin g wa wb)) := by
  obtain ⟨r, o1, o2⟩ := o
  obtain ⟨ta, pa, fa⟩ := ha
  obtain ⟨tb, pb, fb⟩ := hb
  refine ⟨_, pt_cmpR o1 pa pb hm, fun σ H ρ O k R s hw q => ?_⟩
  refine bin_ok o2 fa fb σ H ρ O _ _ s hw fun v H' ρ' O' d a vo hk => ?_
  obtain ⟨b, e, hk⟩ := kBl_ok vo hk
  exact ⟨b, e, q b H' ρ' O' a hk⟩
def kAnd (w : DT) (k : Bool → Rho → Prop) (b : Bool) (ρ : Rho) : Prop := pick b (w k) (k false) ρ
def tAnd (a w : DT) (k : Bool → Rho → Prop) (ρ : Rho) : Prop := a (kAnd w k) ρ
def kOr (w : DT) (k : Bool → Rho → Prop) (b : Bool) (ρ : Rho) : Prop := pick b (k true) (w k) ρ
def tOr (a w : DT) (k : Bool → Rho → Prop) (ρ : Rho) : Prop := a (kOr w k) ρ
def kNot (k : Bool → Rho → Prop) (b : Bool) (ρ : Rho) : Prop := k (!b) ρ
def tNot (a : DT) (k : Bool → Rho → Prop) (ρ : Rho) : Prop := a (kNot k) ρ
variable {rest : List Expr} {wa wb : DT}
theorem sw_and1 (h : ST X a wa) : SW X (.BoolOp .And [a] pos) wa := by
  obtain ⟨t, p, f⟩ := h
  exact ⟨t, pw_and1 p, f⟩
theorem sw_or1 (h : ST X a wa) : SW X (.BoolOp .Or [a] pos) wa := by
  obtain ⟨t, p, f⟩ := h
  exact ⟨t, pw_or1 p, f⟩
theorem sw_and (h : ST X a wa) (h2 : SW X (.BoolOp .And (b :: rest) pos) wb) : SW X (.BoolOp .And (a :: b :: rest) pos) (tAnd wa wb) := by
  obtain ⟨t, p, f⟩ := h
  obtain ⟨t2, p2, f2⟩ := h2
  refine ⟨_, pw_and p p2, fun σ H ρ O k R s hw q => ?_⟩
  refine f σ H ρ O _ _ s hw fun c H1 ρ1 O1 a1 h1 => ?_
  cases c with
  | true => exact iteT (f2 σ H1 ρ1 O1 _ _ a1.sr h1 fun c H' ρ' O' a' h' => q c H' ρ' O' (a1.trans a') h')
  | false => exact iteF (q false H1 ρ1 O1 a1 h1)
theorem sw_or (h : ST X a wa) (h2 : SW X (.BoolOp .Or (b :: rest) pos) wb) : SW X (.BoolOp .Or (a :: b :: rest) pos) (tOr wa wb) := by
  obtain ⟨t, p, f⟩ := h
  obtain ⟨t2, p2, f2⟩ := h2
  refine ⟨_, pw_or p p2, fun σ H ρ O k R s hw q => ?_⟩
  refine f σ H ρ O _ _ s hw fun c H1 ρ1 O1 a1 h1 => ?_
  cases c with
  | true => exact iteT (q true H1 ρ1 O1 a1 h1)
  | false => exact iteF (f2 σ H1 ρ1 O1 _ _ a1.sr h1 fun c H' ρ' O' a' h' => q c H' ρ' O' (a1.trans a') h')
theorem st_w (h : SW X e wa) : ST X e wa := by
  obtain ⟨t, p, f⟩ := h
  exact ⟨t, p.pt, f⟩
theorem st_not (h : ST X a wa) : ST X (.UnaryOp .Not a pos) (tNot wa) := by
  obtain ⟨t, p, f⟩ := h
  refine ⟨_, pt_not p, fun σ H ρ O k R s hw q => ?_⟩
  exact f σ H ρ O _ _ s hw fun c H1 ρ1 O1 a1 h1 => q (!c) H1 ρ1 O1 a1 h1
def kAndV (w : DE) (k : D → Rho → Prop) (d : D) (ρ : Rho) : Prop := match d with
  | .bl c => pick c (w k) (k (.bl false)) ρ
  | _ => False
def dAnd (a w : DE) (k : D → Rho → Prop) (ρ : Rho) : Prop := a (kAndV w k) ρ
def kOrV (w : DE) (k : D → Rho → Prop) (d : D) (ρ : Rho) : Prop := match d with
  | .bl c => pick c (k (.bl true)) (w k) ρ
  | _ => False
def dOr (a w : DE) (k : D → Rho → Prop) (ρ : Rho) : Prop := a (kOrV w k) ρ
def kNotV (k : D → Rho → Prop) (d : D) (ρ : Rho) : Prop := match d with
  | .bl c => k (.bl (!c)) ρ
  | _ => False
def dNot (a : DE) (k : D → Rho → Prop) (ρ : Rho) : Prop := a (kNotV k) ρ
variable {va vb vc : DE}
theorem se_one {op : BoolOp} (h : SE X a va) : SE X (.BoolOp op [a] pos) va := by
  obtain ⟨t, p, f⟩ := h
  exact ⟨t, pe_one p, f⟩
theorem se_and (h : SE X a va) (h2 : SE X (.BoolOp .And (b :: rest) pos) vb) : SE X (.BoolOp .And (a :: b :: rest) pos) (dAnd va vb) := by
  obtain ⟨t, p, f⟩ := h
  obtain ⟨t2, p2, f2⟩ := h2
  refine ⟨_, pe_and p p2, fun σ H ρ O k R s hw q => ?_⟩
  refine f σ H ρ O _ _ s hw fun v H1 ρ1 O1 d a1 vo h1 => ?_
  cases d <;> try exact False.elim h1
  rename_i c
  refine ⟨c, vo.val.bl, ?_⟩
  cases c with
  | true => exact iteT (f2 σ H1 ρ1 O1 _ _ a1.sr h1 fun c H' ρ' O' d a' vo' h' => q c H' ρ' O' d (a1.trans a') (vo'.back a1.back) h')
  | false => exact iteF (q _ H1 ρ1 O1 _ a1 (.rep (.bl false)) h1)
theorem se_not (h : SE X a va) : SE X (.UnaryOp .Not a pos) (dNot va) := by
  obtain ⟨t, p, f⟩ := h
  refine ⟨_, pe_not p, fun σ H ρ O k R s hw q => ?_⟩
  refine f σ H ρ O _ _ s hw fun v H1 ρ1 O1 d a1 vo h1 => ?_
  cases d <;> try exact False.elim h1
  exact ⟨_, vo.val.bl, q _ H1 ρ1 O1 _ a1 (.rep (.bl _)) h1⟩
def kIf (a b : DE) (k : D → Rho → Prop) (c : Bool) (ρ : Rho) : Prop := pick c (a k) (b k) ρ
def dIf (t : DT) (a b : DE) (k : D → Rho → Prop) (ρ : Rho) : Prop := t (kIf a b k) ρ
theorem se_ifExp (h : ST X c wa) (h1 : SE X a va) (h2 : SE X b vb) : SE X (.IfExp c a b pos) (dIf wa va vb) := by
  obtain ⟨t, p, f⟩ := h
  obtain ⟨t1, p1, f1⟩ := h1
  obtain ⟨t2, p2, f2⟩ := h2
  refine ⟨_, pe_ifExp p p1 p2, fun σ H ρ O k R s hw q => ?_⟩
  refine f σ H ρ O _ _ s hw fun c H1 ρ1 O1 a1 h1 => ?_
  cases c with
  | true => exact iteT (f1 σ H1 ρ1 O1 _ _ a1.sr h1 fun c H' ρ' O' d a' vo' h' => q c H' ρ' O' d (a1.trans a') (vo'.back a1.back) h')
  | false => exact iteF (f2 σ H1 ρ1 O1 _ _ a1.sr h1 fun c H' ρ' O' d a' vo' h' => q c H' ρ' O' d (a1.trans a') (vo'.back a1.back) h')
def kC3 (g' : G2) (y : DOp) (k : D → Rho → Prop) (z : DOp) (ρ : Rho) : Prop := onSome (rd ρ y) fun dy => onSome (rd ρ z) fun dz => g' dy dz (kV k ρ)
def kC2b (g' : G2) (c : DO) (y : DOp) (k : D → Rho → Prop) (ρ : Rho) : Prop := c (kC3 g' y k) ρ
def kC2a (g' : G2) (c : DO) (y : DOp) (k : D → Rho → Prop) (ρ : Rho) (d : D) : Prop := match d with
  | .bl b => pick b (kC2b g' c y k) (k (.bl false)) ρ
  | _ => False
def kC2 (g g' : G2) (c : DO) (x : DOp) (k : D → Rho → Prop) (y : DOp) (ρ : Rho) : Prop := onSome (rd ρ x) fun dx => onSome (rd ρ y) fun dy => g dx dy (kC2a g' c y k ρ)
def kC1 (g g' : G2) (b c : DO) (k : D → Rho → Prop) (x : DOp) (ρ : Rho) : Prop := b (kC2 g g' c x k) ρ
def dChain (g g' : G2) (a b c : DO) (k : D → Rho → Prop) (ρ : Rho) : Prop := a (kC1 g g' b c k) ρ
theorem chain_ok {ta tb tc : TE} {r r' : R2} {g g' : G2} {wa wb wc : DO}
    (hr : ∀ (H : Hp) (O : Addr → Prop) (x y : V) (dx dy : D) (k : D → Prop) (R : VK), Own H O → Val X.K H O x dx → Val X.K H O y dy → g dx dy k → Fin0 X H O k R → r x y H R)
    (hr' : ∀ (H : Hp) (O : Addr → Prop) (x y : V) (dx dy : D) (k : D → Prop) (R : VK), Own H O → Val X.K H O x dx → Val X.K H O y dy → g' dx dy k → Fin0 X H O k R → r' x y H R)
    (fa : ∀ (σ : St) (H : Hp) (ρ : Rho) (O : Addr → Prop) (k : DOp → Rho → Prop) (R : VK), Sr X.K ρ σ H O → wa k ρ → (∀ v H' ρ' O' o, After X.K ρ σ H O ρ' H' O' → OOk X.K σ H H' O' v o → k o ρ' → R v H') → ta σ H R)
    (fb : ∀ (σ : St) (H : Hp) (ρ : Rho) (O : Addr → Prop) (k : DOp → Rho → Prop) (R : VK), Sr X.K ρ σ H O → wb k ρ → (∀ v H' ρ' O' o, After X.K ρ σ H O ρ' H' O' → OOk X.K σ H H' O' v o → k o ρ' → R v H') → tb σ H R)
    (fc : ∀ (σ : St) (H : Hp) (ρ : Rho) (O : Addr → Prop) (k : DOp → Rho → Prop) (R : VK), Sr X.K ρ σ H O → wc k ρ → (∀ v H' ρ' O' o, After X.K ρ σ H O ρ' H' O' → OOk X.K σ H H' O' v o → k o ρ' → R v H') → tc σ H R) :
    ∀ (σ : St) (H : Hp) (ρ : Rho) (O : Addr → Prop) (k : D → Rho → Prop) (R : VK), Sr X.K ρ σ H O → dChain g g' wa wb wc k ρ →
    (∀ v H' ρ' O' d, After X.K ρ σ H O ρ' H' O' → VOk X.K H H' O' v d → k d ρ' → R v H') → tChain r r' ta tb tc σ H R := by
  intro σ H ρ O k R s hw q
  refine fa σ H ρ O _ _ s hw fun x H1 ρ1 O1 ox a1 c1 h1 => ?_
  refine fb σ H1 ρ1 O1 _ _ a1.sr h1 fun y H2 ρ2 O2 oy a2 c2 h2 => ?_
  obtain ⟨dx, ex, h2⟩ := h2.ex
  obtain ⟨dy, ey, h2⟩ := h2.ex
  have a12 := a1.trans a2
  refine hr H2 O2 x y dx dy _ _ a2.sr.own ((c1.then s a1 a2).val a2.sr ex) (c2.val a2.sr ey) h2 fun v H3 O3 d e own vo hk => ?_
  have a3 := a2.sr.ext0 e own
  cases d <;> try exact False.elim hk
  rename_i bo
  refine ⟨bo, vo.val.bl, ?_⟩
  cases bo with
  | false => exact iteF (q _ H3 ρ2 O3 _ (a12.trans a3) (.rep (.bl false)) hk)
  | true =>
    refine iteT (fc σ H3 ρ2 O3 _ _ a3.sr hk fun z H4 ρ4 O4 oz a4 c4 h4 => ?_)
    obtain ⟨dy', ey', h4⟩ := h4.ex
    obtain ⟨dz, ez, h4⟩ := h4.ex
    have a34 := a3.trans a4
    have a14 := a12.trans a34
    refine hr' H4 O4 y z dy' dz _ R a4.sr.own ((c2.then a1.sr a2 a34).val a4.sr ey') (c4.val a4.sr ez) h4 fun v H' O' d e own vo hk => ?_
    exact q v H' ρ4 O' d (a14.trans (a4.sr.ext0 e own)) (vo.back a14.back) hk
theorem st_chain {op op' : CmpOp} {g g' : G2} {wa wb wc : DO} (o : OpD X (compareOp op) g) (o' : OpD X (compareOp op') g') (ha : SO X a wa) (hb : SO X b wb) (hc : SO X c wc)
    (hm : lastMarks [op, op'] [b, c] = false := by with_unfolding_all rfl) : ST X (.Compare a [op, op'] [b, c] pos) (tVal (dChain g g' wa wb wc)) := by
  obtain ⟨r, o1, o2⟩ := o
  obtain ⟨r', o1', o2'⟩ := o'
  obtain ⟨ta, pa, fa⟩ := ha
  obtain ⟨tb, pb, fb⟩ := hb
  obtain ⟨tc, pc, fc⟩ := hc
  refine ⟨_, pt_chain o1 o1' pa pb pc hm, fun σ H ρ O k R s hw q => ?_⟩
  refine chain_ok o2 o2' fa fb fc σ H ρ O _ _ s hw fun v H' ρ' O' d a vo hk => ?_
  obtain ⟨b, e, hk⟩ := kBl_ok vo hk
  exact ⟨b, e, q b H' ρ' O' a hk⟩
def rdAll (ρ : Rho) : List DOp → Option (List D)
  | [] => some []
  | o :: r => (rd ρ o).bind fun d => (rdAll ρ r).map (d :: ·)
theorem OOks.vals {K : PySem.W.Frag} {σ : St} {ρ1 : Rho} {H H1 : Hp} {O1 : Addr → Prop} (s : Sr K ρ1 σ H1 O1) : ∀ {vs : List V} {os : List DOp} {ds : List D}, OOks K σ H H1 O1 vs os → rdAll ρ1 os = some ds → ValL K H1 O1 vs ds
  | _, [], _, .nil, e => by cases e; exact .nil
  | _, o :: r, ds, .cons h t, e => by
    obtain ⟨d, e1, e⟩ := Option.bind_eq_some_iff.mp e
    obtain ⟨l, e2, e⟩ := Option.map_eq_some_iff.mp e
    subst e
    exact .cons (h.val s e1) (OOks.vals s t e2)
def kCB (g : GL) (k : D → Rho → Prop) (os : List DOp) (ρ : Rho) : Prop := onSome (rdAll ρ os) fun ds => g ds (kV k ρ)
def dCB (g : GL) (w : DA) (k : D → Rho → Prop) (ρ : Rho) : Prop := w (kCB g k) ρ
theorem callB_ok {r : List V → Hp → VK → Prop} {g : GL} {w : DA} {t : TA}
    (o2 : ∀ (H : Hp) (O : Addr → Prop) (xs : List V) (ds : List D) (k : D → Prop) (R : VK), Own H O → ValL X.K H O xs ds → g ds k → Fin0 X H O k R → r xs H R)
    (f : ∀ (σ : St) (H : Hp) (ρ : Rho) (O : Addr → Prop) (k : List DOp → Rho → Prop) (R : List V → Hp → Prop), Sr X.K ρ σ H O → w k ρ →
    (∀ vs H' ρ' O' os, After X.K ρ σ H O ρ' H' O' → OOks X.K σ H H' O' vs os → vs.length = es.length → k os ρ' → R vs H') → t σ H R) :
    ∀ (σ : St) (H : Hp) (ρ : Rho) (O : Addr → Prop) (k : D → Rho → Prop) (R : VK), Sr X.K ρ σ H O → dCB g w k ρ →
    (∀ v H' ρ' O' d, After X.K ρ σ H O ρ' H' O' → VOk X.K H H' O' v d → k d ρ' → R v H') → tCB r t σ H R := by
  intro σ H ρ O k R s hw q
  refine f σ H ρ O _ _ s hw fun vs H1 ρ1 O1 os a1 c1 _ h1 => ?_
  obtain ⟨ds, e, h1⟩ := h1.ex
  refine o2 H1 O1 vs ds _ R a1.sr.own (c1.vals a1.sr e) h1 fun v H' O' d e own vo hk => ?_
  exact q v H' ρ1 O' d (a1.trans (a1.sr.ext0 e own)) (vo.back a1.back) hk
theorem se_callB {id : String} {x : Str} {g : GL} {w : DA} (o : CallD X (.builtin id) g) (hg : Gl X x) (hm : X.mg x = none) (hv : bootBuiltins x = some (.builtin id)) (h : SA X (e :: es) w) (hn : x ≠ "__name__" := by decide) (hdb : (x == ("__debug__" : Str)) = false := by decide)
    (he : starEach (e :: es) X.env = (false, eval e X.env) :: starEach es X.env := by rfl) (hpl : (backTo pos (starEach es X.env)).any (·.1) = false := by rfl) : SE X (.Call (.Name x p) (e :: es) [] pos) (dCB g w) := by
  obtain ⟨r, o1, o2⟩ := o
  obtain ⟨t, pt, f⟩ := h
  exact ⟨_, pe_callB o1 hg hm hv pt hn hdb he hpl, callB_ok o2 f⟩
theorem se_callTy {T : String} {x : Str} {g : GL} {w : DA} (o : CallD X (.type T) g) (hg : Gl X x) (hm : X.mg x = none) (hv : bootBuiltins x = some (.type T)) (h : SA X (e :: es) w) (hn : x ≠ "__name__" := by decide) (hdb : (x == ("__debug__" : Str)) = false := by decide)
    (he : starEach (e :: es) X.env = (false, eval e X.env) :: starEach es X.env := by rfl) (hpl : (backTo pos (starEach es X.env)).any (·.1) = false := by rfl) : SE X (.Call (.Name x p) (e :: es) [] pos) (dCB g w) := by
  obtain ⟨r, o1, o2⟩ := o
  obtain ⟨t, pt, f⟩ := h
  exact ⟨_, pe_callTy o1 hg hm hv pt hn hdb he hpl, callB_ok o2 f⟩
def D.ty : D → String
  | .non => "NoneType" | .bl _ => "bool" | .int _ => "int" | .str _ => "str" | .tup _ => "tuple" | .lst _ _ => "list" | .scr _ => "list" | .dic _ _ => "dict" | .odc _ _ => "dict" | .obj _ _ _ => "object" | .box _ _ => "object" | .ob2 _ _ => "object" | .exc _ _ => "object"
def isTy (a T : String) : Bool := a == T || (a == "bool" && T == "int")
inductive TyE (K : PySem.W.Frag) (H : Hp) : V → Value → Prop where
  | base {x : V} {t : Value} (h : TyX K H x t) : TyE K H x t
  | exc {a C : Addr} (h : H a = some (CxO (.ref C) none a)) (f : ExcC K C) : TyE K H (.ref a) (.ref C)
theorem kit_ofE {X : Cx} {pins : List (Addr × Obj)} {σ : St} {H : Hp} {s : Shared} {x : V} {u t : Value} (I : Inv X pins σ H s) (rx : RelV x u) (ty : TyE X.K H x t) : ∃ P : Heap → Prop, PySem.W.KitX X.K u t P ∧ P s.heap ∧ u ≠ .builtin "__main__.__loader__#opaque" := by
  cases ty with
  | base h => exact kit_of I rx h
  | @exc a C h f =>
    cases (show u = Value.ref a from rx)
    have q := I.hok a _ h
    obtain ⟨⟨oe, vs, ho, hz, hd⟩, _, _⟩ := q
    obtain ⟨oc, od, oda, osl⟩ := oe
    obtain ⟨h1, h2⟩ := hz
    dsimp only at h1 h2 hd
    subst h1 h2 hd
    exact ⟨_, PySem.W.handS_kitx_exc f.hg f.hk f.hs f.hd f.ha f.hn f.ht f.hm, (⟨ho, rfl, rfl, trivial⟩ : PySem.W.InstAt s.heap a ⟨.ref C, none, .fields vs, osl⟩ C none), fun z => nomatch z⟩
def rIsiE (K : PySem.W.Frag) : List V → Hp → VK → Prop := fun xs H Q => ∃ (x c : V) (t u : Value) (b : Bool), xs = [x, c] ∧ ClsV c u ∧ TyE K H x t ∧ PySem.W.kitOne K t u = some b ∧ Q (.bl b) H
def rIsiTE (K : PySem.W.Frag) : List V → Hp → VK → Prop := fun xs H Q => ∃ (x : V) (tp : Addr) (cs : List V) (t : Value) (us : List Value) (b : Bool), xs = [x, .ref tp] ∧ H tp = some (.tup cs) ∧ Paired ClsV cs us ∧ TyE K H x t ∧ PySem.W.kitAny K t us = some b ∧ Q (.bl b) H
theorem call_isiE {X : Cx} : CallR X (.builtin "isinstance") (rIsiE X.K) := by
  intro pins s σ H xs us Q I r h
  obtain ⟨x, c, t, u, b, rfl, k, ty, e, q⟩ := h
  obtain ⟨u1, u2, rfl, r1, r2⟩ := vals2 r
  have e2 := k.eq r2
  subst e2
  obtain ⟨P, Z, p, hx⟩ := kit_ofE I r1 ty
  exact PySem.W.kia_one Z I.kIn p e hx fun tk => ⟨.bl b, H, I.tok tk, rfl, q⟩
theorem call_isiTE {X : Cx} : CallR X (.builtin "isinstance") (rIsiTE X.K) := by
  intro pins s σ H xs us Q I r h
  obtain ⟨x, tp, cs, t, ws, b, rfl, hT, k, ty, e, q⟩ := h
  obtain ⟨u1, u2, rfl, r1, r2⟩ := vals2 r
  cases (show u2 = Value.ref tp from r2)
  obtain ⟨P, Z, p, hx⟩ := kit_ofE I r1 ty
  obtain ⟨_, its, rv, o, h1, h2, n, h3⟩ := (show ObjOk X.prog X.w H s.heap tp (.tup cs) from I.hok tp _ hT)
  have e3 := ClsV.all k rv
  subst e3
  obtain ⟨oc, od, dt, sl⟩ := o
  simp only at h2 h3
  subst h2 h3
  exact PySem.W.kia_tup Z I.kIn p h1 e hx fun tk => ⟨.bl b, H, I.tok tk, rfl, q⟩
theorem Val.ty {K : PySem.W.Frag} {H : Hp} {O : Addr → Prop} {v : V} {d : D} (h : Val K H O v d) : TyE K H v (.type d.ty) ∨ ∃ C, TyE K H v (.ref C) ∧ d.ty = "object" ∧ ∀ T ∈ kTypes, PySem.W.subIn K (.ref C) (.type T) = some false := by
  cases h with
  | own _ h r =>
    cases r with
    | lst _ => exact .inl <| .base <| .base (.lst h)
    | dK _ => exact .inl <| .base <| .base (.dK h)
    | ins i _ => exact .inr ⟨_, .base (.base (.ins h i.cf.cls i.cf.t1 i.cf.t2 i.cf.t3 i.cf.t4)), rfl, i.cf.sub⟩
    | in2 i _ _ => exact .inr ⟨_, .base (.base (.ins h i.cf.cls i.cf.t1 i.cf.t2 i.cf.t3 i.cf.t4)), rfl, i.cf.sub⟩
  | rep r =>
    cases r with
    | non => exact .inl <| .base <| .base .non
    | bl b => exact .inl <| .base <| .base (.bl b)
    | int i => exact .inl <| .base <| .base (.int i)
    | str x => exact .inl <| .base <| .base (.str x)
    | tup h _ =>
      rcases h with (h | ⟨o, h⟩) | ⟨o, its, n, hk, hc, _⟩
      · exact .inl <| .base <| .base (.tup h)
      · exact .inl <| .base <| .fTuple h
      · exact .inl <| .base <| .kTuple hk hc
    | lst h _ _ => exact .inl <| .base <| .base (.lst h)
    | scr h _ =>
      rcases h with ⟨o, h⟩ | ⟨o, its, n, hk, hc, _⟩
      · exact .inl <| .base <| .base (.frz h)
      · exact .inl <| .base <| .kList hk hc
    | dic h _ _ => exact .inl <| .base <| .base (.dK h)
    | obj h _ i _ => exact .inr ⟨_, .base (.base (.ins h i.cf.cls i.cf.t1 i.cf.t2 i.cf.t3 i.cf.t4)), rfl, i.cf.sub⟩
    | exc h f => exact .inr ⟨_, .exc h f.is, rfl, f.sub⟩
def kIsi (T : String) (k : D → Rho → Prop) (x : DOp) (ρ : Rho) : Prop := onSome (rd ρ x) fun d => k (.bl (isTy d.ty T)) ρ
def dIsi (T : String) (o : DO) (k : D → Rho → Prop) (ρ : Rho) : Prop := o (kIsi T k) ρ
def tysOk (T : String) : Bool := (["NoneType", "bool", "int", "str", "tuple", "list", "dict"].all fun a => kitB a T == some (isTy a T)) && kTypes.contains T
theorem tysOk_at {T : String} (h : tysOk T = true) (d : D) (n : d.ty ≠ "object") : kitB d.ty T = some (isTy d.ty T) := by
  have q := List.all_eq_true.mp ((Bool.and_eq_true _ _).mp h).1
  cases d <;> first | exact absurd rfl n | exact eq_of_beq (q _ (by simp [D.ty]))
theorem kitMeta_of : ∀ {T : String}, T ∈ kTypes → PySem.W.kitMeta T = true ∧ isTy "object" T = false := by
  intro T h
  simp only [kTypes, List.mem_cons, List.not_mem_nil, or_false] at h
  rcases h with rfl | rfl | rfl | rfl | rfl | rfl | rfl <;> exact ⟨by decide +kernel, by decide +kernel⟩
theorem kit_sub {K : PySem.W.Frag} {C : Addr} {T : String} (h : ∀ T ∈ kTypes, PySem.W.subIn K (.ref C) (.type T) = some false) (m : T ∈ kTypes) : PySem.W.kitOne K (.ref C) (.type T) = some (isTy "object" T) := by
  obtain ⟨h1, h2⟩ := kitMeta_of m
  rw [h2]
  show (if (Value.ref C == Value.type T) = true then some true else if PySem.W.kitMeta T = true then PySem.W.subIn K (.ref C) (.type T) else none) = some false
  rw [if_pos h1, if_neg (by intro z; exact absurd (eq_of_beq z) (by intro y; cases y))]
  exact h T m
theorem Val.isi {K : PySem.W.Frag} {H : Hp} {O : Addr → Prop} {v : V} {d : D} (h : Val K H O v d) : ∃ t, TyE K H v t ∧ ∀ {T : String}, tysOk T = true → PySem.W.kitOne K t (.type T) = some (isTy d.ty T) := by
  have m : ∀ {T : String}, tysOk T = true → T ∈ kTypes := fun hT => List.contains_iff_mem.mp ((Bool.and_eq_true _ _).mp hT).2
  rcases h.ty with h1 | ⟨C, h1, h2, h3⟩
  · by_cases n : d.ty = "object"
    · rw [n]
      cases h with
      | rep r => cases r with
        | exc h f => exact ⟨_, .exc h f.is, fun hT => kit_sub f.sub (m hT)⟩
        | obj h _ i _ => exact ⟨_, .base (.base (.ins h i.cf.cls i.cf.t1 i.cf.t2 i.cf.t3 i.cf.t4)), fun hT => kit_sub i.cf.sub (m hT)⟩
        | _ => simp [D.ty] at n
      | own _ h r => cases r with
        | ins i _ => exact ⟨_, .base (.base (.ins h i.cf.cls i.cf.t1 i.cf.t2 i.cf.t3 i.cf.t4)), fun hT => kit_sub i.cf.sub (m hT)⟩
        | in2 i _ _ => exact ⟨_, .base (.base (.ins h i.cf.cls i.cf.t1 i.cf.t2 i.cf.t3 i.cf.t4)), fun hT => kit_sub i.cf.sub (m hT)⟩
        | _ => simp [D.ty] at n
    · exact ⟨_, h1, fun hT => kit_ty (tysOk_at hT d n)⟩
  · rw [h2]
    exact ⟨_, h1, fun hT => kit_sub h3 (m hT)⟩
theorem se_isi {T : String} {x : Str} {w : DO} {pt : Pos} (hg : Gl X "isinstance") (hm : X.mg "isinstance" = none) (hgT : Gl X x) (hmT : X.mg x = none) (hvT : bootBuiltins x = some (.type T)) (hT : tysOk T = true) (h : SO X e w)
    (hnT : x ≠ "__name__" := by decide) (hdT : (x == ("__debug__" : Str)) = false := by decide)
    (he : starEach [e, .Name x pt] X.env = (false, eval e X.env) :: starEach [.Name x pt] X.env := by rfl) (he2 : starEach [.Name x pt] X.env = (false, eval (.Name x pt) X.env) :: starEach [] X.env := by rfl) (hpl : (backTo pos (starEach [.Name x pt] X.env)).any (·.1) = false := by rfl) :
    SE X (.Call (.Name "isinstance" p) [e, .Name x pt] [] pos) (dIsi T w) := by
  obtain ⟨t, pe, f⟩ := h
  refine ⟨_, pe_callB call_isiE hg hm (by decide +kernel) (pa_cons pe (pa_cons (pe_bltn (v := .ty T) hgT hmT hvT rfl hnT hdT) pa_nil he2) he) (by decide) (by decide) he hpl, fun σ H ρ O k R s hw q => ?_⟩
  refine f σ H ρ O _ _ s hw fun v H1 ρ1 O1 o a1 c1 h1 => ?_
  obtain ⟨d, ed, h1⟩ := h1.ex
  obtain ⟨t, z1, z2⟩ := (c1.val a1.sr ed).isi
  exact ⟨v, .ty T, _, _, _, rfl, .ty T, z1, z2 hT, q _ H1 ρ1 O1 _ a1 (.rep (.bl _)) h1⟩
abbrev DP := (Option Int → Rho → Prop) → Rho → Prop
def SP' (X : Cx) (e : Option Expr) (w : DP) : Prop :=
  ∃ t, PO X e t ∧ ∀ (σ : St) (H : Hp) (ρ : Rho) (O : Addr → Prop) (k : Option Int → Rho → Prop) (R : Option Int → Hp → Prop), Sr X.K ρ σ H O → w k ρ →
    (∀ l H' ρ' O', After X.K ρ σ H O ρ' H' O' → k l ρ' → R l H') → t σ H R
def pNo (k : Option Int → Rho → Prop) (ρ : Rho) : Prop := k none ρ
def kPI (k : Option Int → Rho → Prop) (d : D) (ρ : Rho) : Prop := match d with
  | .int i => k (some i) ρ
  | _ => False
def pInt (w : DE) (k : Option Int → Rho → Prop) (ρ : Rho) : Prop := w (kPI k) ρ
theorem sp_no : SP' X none pNo := ⟨_, po_none, fun σ H ρ O k R s hw q => q none H ρ O (.refl s) hw⟩
theorem sp_int {w : DE} (h : SE X e w) : SP' X (some e) (pInt w) := by
  obtain ⟨t, p, f⟩ := h
  refine ⟨_, po_some p, fun σ H ρ O k R s hw q => ?_⟩
  refine f σ H ρ O _ _ s hw fun v H1 ρ1 O1 d a1 c1 h1 => ?_
  cases d <;> try exact False.elim h1
  exact ⟨_, c1.val.int, q _ H1 ρ1 O1 a1 h1⟩
def cutD (xs : List D) (lo hi : Option Int) : List D := (xs.drop (HT.sIx xs.length 0 lo)).take (HT.sIx xs.length xs.length hi - HT.sIx xs.length 0 lo)
theorem Reps.cut {K : PySem.W.Frag} {H : Hp} {O : Addr → Prop} {vs : List V} {ds : List D} (h : Reps K H O vs ds) (lo hi : Option Int) : Reps K H O (cutV vs lo hi) (cutD ds lo hi) := by
  unfold cutV cutD
  rw [h.length]
  exact (h.drop _).take _
def gSl (d : D) (lo hi : Option Int) (k : D → Prop) : Prop := match d with
  | .tup xs => k (.tup (cutD xs lo hi))
  | .lst _ xs => k (.lst true (cutD xs lo hi))
  | .scr xs => k (.lst true (cutD xs lo hi))
  | .str z => z.length ≤ sizeLine ∧ k (.str (cutS z lo hi))
  | _ => False
def rSlD (K : PySem.W.Frag) : V → Option Int → Option Int → Hp → VK → Prop := fun x lo hi H Q => rSlA K x lo hi H Q ∨ rSlL K x lo hi H Q ∨ rSlS x lo hi H Q
theorem sl_ok {H : Hp} {O : Addr → Prop} {v : V} {d : D} {lo hi : Option Int} {k : D → Prop} {R : VK} (own : Own H O) (h : Val X.K H O v d) (g : gSl d lo hi k) (f : Fin0 X H O k R) : rSlD X.K v lo hi H R := by
  cases d <;> try exact False.elim g
  · have g : _ ∧ _ := g
    exact .inr (.inr ⟨_, h.str, g.1, fin_id own f (.str _) g.2⟩)
  · obtain ⟨a, vs, rfl, h1, r1⟩ := h.tup
    refine .inl ⟨a, vs, rfl, h1, fun w => ?_, fun _ p hp => fin_tup own f hp (r1.cut lo hi) g⟩
    refine fin_id own f (.tup h1 r1) ?_
    have e : ∀ xs : List D, HT.sIx xs.length 0 lo = 0 → HT.sIx xs.length xs.length hi = xs.length → cutD xs lo hi = xs := fun xs h0 h1 => by
      unfold cutD
      rw [h0, h1]; simp
    rw [r1.length] at w
    have q := e _ w.1 w.2
    have g : k (.tup (cutD _ lo hi)) := g
    rw [q] at g
    exact g
  · obtain ⟨a, vs, rfl, h1, r1⟩ := h.lst
    exact .inr (.inl ⟨a, vs, rfl, .of h1, fun p hp => fin_lst own f hp (r1.cut lo hi) g⟩)
  · obtain ⟨a, vs, rfl, h1, r1⟩ := h.scr
    exact .inr (.inl ⟨a, vs, rfl, h1, fun p hp => fin_lst own f hp (r1.cut lo hi) g⟩)
def kS3 (x : DOp) (l : Option Int) (k : D → Rho → Prop) (u : Option Int) (ρ : Rho) : Prop := onSome (rd ρ x) fun d => gSl d l u (kV k ρ)
def kS2 (hi : DP) (x : DOp) (k : D → Rho → Prop) (l : Option Int) (ρ : Rho) : Prop := hi (kS3 x l k) ρ
def kS1 (lo hi : DP) (k : D → Rho → Prop) (x : DOp) (ρ : Rho) : Prop := lo (kS2 hi x k) ρ
def dSl (a : DO) (lo hi : DP) (k : D → Rho → Prop) (ρ : Rho) : Prop := a (kS1 lo hi k) ρ
theorem se_slice {lo hi : Option Expr} {w : DO} {wl wh : DP} (h : SO X e w) (hl : SP' X lo wl) (hu : SP' X hi wh) : SE X (.Subscript e (.Slice lo hi none p2) pos) (dSl w wl wh) := by
  obtain ⟨t, pe, f⟩ := h
  obtain ⟨tl, pl, fl⟩ := hl
  obtain ⟨tu, pu, fu⟩ := hu
  refine ⟨_, pe_slice (sl_tupA.or (sl_list.or sl_str)) pe pl pu, fun σ H ρ O k R s hw q => ?_⟩
  refine f σ H ρ O _ _ s hw fun x H1 ρ1 O1 ox a1 c1 h1 => ?_
  refine fl σ H1 ρ1 O1 _ _ a1.sr h1 fun l H2 ρ2 O2 a2 h2 => ?_
  refine fu σ H2 ρ2 O2 _ _ a2.sr h2 fun u H3 ρ3 O3 a3 h3 => ?_
  obtain ⟨d, ed, h3⟩ := h3.ex
  have a23 := a2.trans a3
  have a13 := a1.trans a23
  refine sl_ok (X := X) a3.sr.own ((c1.then s a1 a23).val a3.sr ed) h3 fun v H' O' d e own vo hk => ?_
  exact q v H' ρ3 O' d (a13.trans (a3.sr.ext0 e own)) (vo.back a13.back) hk
end
end Bx
namespace Bx
variable [TabC]
open PySem L2
structure Stp (K : PySem.W.Frag) (ios : List Nat) (ρ : Rho) (σ : St) (H : Hp) (O : Addr → Prop) (ρ' : Rho) (σ' : St) (H' : Hp) (O' : Addr → Prop) : Prop where
  sr : Sr K ρ' σ' H' O'
  keep' : ∀ a u, H a = some u → ¬ Sl ρ σ a → NT u → H' a = some u ∧ (O' a ↔ O a) ∧ ¬ Sl ρ' σ' a
  keep0 : ∀ (a : Nat × Addr) u, H a.2 = some u → ¬ Sl0 ρ σ a → ¬ Sl0 ρ' σ' a
  dom : ∀ a u, H a = some u → ∃ u', H' a = some u'
  io : ∀ i ∈ ios, σ'[i]? = σ[i]?
  tt : TbT H H'
section
variable {K : PySem.W.Frag} {ios : List Nat} {ρ ρ1 ρ' : Rho} {σ σ1 σ' : St} {H H1 H' : Hp} {O O1 O' : Addr → Prop}
theorem Stp.keep (e : Stp K ios ρ σ H O ρ' σ' H' O') (a : Addr) (u : HO) (h : H a = some u) (n : ¬ Sl ρ σ a) (nt : NT u := by first | assumption | (intro _ z; cases z; done) | (exact OwH.nt (by assumption))) : H' a = some u ∧ (O' a ↔ O a) ∧ ¬ Sl ρ' σ' a := e.keep' a u h n nt
theorem Stp.refl (s : Sr K ρ σ H O) : Stp K ios ρ σ H O ρ σ H O := ⟨s, fun _ _ h n _ => ⟨h, Iff.rfl, n⟩, fun _ _ _ n => n, fun _ u h => ⟨u, h⟩, fun _ _ => rfl, .refl⟩
theorem Stp.trans (a : Stp K ios ρ σ H O ρ1 σ1 H1 O1) (b : Stp K ios ρ1 σ1 H1 O1 ρ' σ' H' O') : Stp K ios ρ σ H O ρ' σ' H' O' :=
  ⟨b.sr, fun x u h n nt => by
    obtain ⟨h1, o1, n1⟩ := a.keep x u h n
    obtain ⟨h2, o2, n2⟩ := b.keep x u h1 n1
    exact ⟨h2, o2.trans o1, n2⟩, fun x u h n => by
    obtain ⟨u1, h1⟩ := a.dom x.2 u h
    exact b.keep0 x u1 h1 (a.keep0 x u h n), fun x u h => by
    obtain ⟨u1, h1⟩ := a.dom x u h
    exact b.dom x u1 h1, fun i hi => (b.io i hi).trans (a.io i hi), a.tt.trans b.tt⟩
theorem After.stp (a : After K ρ σ H O ρ' H' O') : Stp K ios ρ σ H O ρ' σ H' O' :=
  ⟨a.sr, fun x u h n nt => ⟨(a.ext.keep x u h n).1, (a.ext.keep x u h n).2, fun z => n (a.sub x z)⟩, fun x u h n z => n (a.sub0 x z), a.ext.dom, fun _ _ => rfl, a.ext.tt⟩
theorem Stp.ext (a : Stp K ios ρ σ H O ρ' σ' H' O') : Ext (Sl ρ σ) H O H' O' := ⟨fun x u h n nt => ⟨(a.keep x u h n).1, (a.keep x u h n).2.1⟩, a.dom, a.tt⟩
theorem Stp.free (a : Stp K ios ρ σ H O ρ' σ' H' O') {x : Addr} (h : H' x = none) : H x = none := a.ext.free h
theorem Sr.store {i : Nat} {v : V} {d : D} (s : Sr K ρ σ H O) (q : Val K H O v d) (n : d.own = true → ∀ a, Pt v d a → ¬ Sl ρ σ a) : Sr K (rset ρ i (some d)) (σ.set i (some v)) H O := by
  have len := s.len
  refine ⟨by rw [rset_len, List.length_set, len], fun j d' h => ?_, fun j k xs ys u w a h1 o1 h2 o2 h3 h4 p1 p2 => ?_, s.own, s.tab⟩
  · rcases get_rset h with ⟨rfl, e, l⟩ | ⟨nj, h⟩
    · cases e
      exact ⟨v, by rw [List.getElem?_set_self (by omega)], q⟩
    · obtain ⟨u, g1, g2⟩ := s.slot j d' h
      exact ⟨u, by rw [List.getElem?_set_ne (Ne.symm nj)]; exact g1, g2⟩
  · rcases get_rset h1 with ⟨ej, e1, l1⟩ | ⟨nj, g1⟩
    · rcases get_rset h2 with ⟨ek, e2, l2⟩ | ⟨nk, g2⟩
      · rw [ej, ek]
      · rw [List.getElem?_set_ne (Ne.symm nk)] at h4
        rw [ej, List.getElem?_set_self (by omega)] at h3
        cases h3
        cases e1
        exact absurd ⟨k, ys, w, g2, o2, h4, p2⟩ (n o1 a p1)
    · rw [List.getElem?_set_ne (Ne.symm nj)] at h3
      rcases get_rset h2 with ⟨ek, e2, l2⟩ | ⟨nk, g2⟩
      · rw [ek, List.getElem?_set_self (by omega)] at h4
        cases h4
        cases e2
        exact absurd ⟨j, xs, u, g1, o1, h3, p1⟩ (n o2 a p2)
      · rw [List.getElem?_set_ne (Ne.symm nk)] at h4
        exact s.uniq j k xs ys u w a g1 o1 g2 o2 h3 h4 p1 p2
theorem sl0_store {i : Nat} {v : V} {d : D} {a : Nat × Addr} (h : Sl0 (rset ρ i (some d)) (σ.set i (some v)) a) (len : ρ.length = σ.length) : Sl0 ρ σ a ∨ (d.own = true ∧ Pt v d a.2) := by
  obtain ⟨xs, w, h1, ho, h2, hp⟩ := h
  rcases get_rset h1 with ⟨ej, e, l⟩ | ⟨nj, h1⟩
  · subst ej
    rw [List.getElem?_set_self (by omega)] at h2
    cases h2; cases e
    exact .inr ⟨ho, hp⟩
  · rw [List.getElem?_set_ne (Ne.symm nj)] at h2
    exact .inl ⟨xs, w, h1, ho, h2, hp⟩
theorem sl_store {i : Nat} {v : V} {d : D} {a : Addr} (h : Sl (rset ρ i (some d)) (σ.set i (some v)) a) (len : ρ.length = σ.length) : Sl ρ σ a ∨ (d.own = true ∧ Pt v d a) := by
  obtain ⟨j, xs, w, h1, ho, h2, hp⟩ := h
  rcases get_rset h1 with ⟨ej, e, l⟩ | ⟨nj, h1⟩
  · subst ej
    rw [List.getElem?_set_self (by omega)] at h2
    cases h2; cases e
    exact .inr ⟨ho, hp⟩
  · rw [List.getElem?_set_ne (Ne.symm nj)] at h2
    exact .inl ⟨j, xs, w, h1, ho, h2, hp⟩
end
def Gr (ρ : Rho) (σ : St) (ρ' : Rho) (σ' : St) (v : V) (d : D) : Prop := (∀ a, Sl ρ' σ' a → Sl ρ σ a ∨ (d.own = true ∧ Pt v d a)) ∧ ∀ a : Nat × Addr, Sl0 ρ' σ' a → Sl0 ρ σ a ∨ (d.own = true ∧ Pt v d a.2)
def Gs (ρ : Rho) (σ : St) (ρ' : Rho) (σ' : St) : Prop := (∀ a, Sl ρ' σ' a → Sl ρ σ a) ∧ ∀ a, Sl0 ρ' σ' a → Sl0 ρ σ a
theorem Gr.gs {ρ ρ' : Rho} {σ σ' : St} {v : V} {d : D} (h : Gr ρ σ ρ' σ' v d) (n : d.own = false) : Gs ρ σ ρ' σ' := ⟨fun a z => (h.1 a z).elim id fun z => (by rw [n] at z; cases z.1), fun a z => (h.2 a z).elim id fun z => (by rw [n] at z; cases z.1)⟩
theorem Gs.gr {ρ ρ' : Rho} {σ σ' : St} {v : V} {d : D} (h : Gs ρ σ ρ' σ') : Gr ρ σ ρ' σ' v d := ⟨fun a z => .inl (h.1 a z), fun a z => .inl (h.2 a z)⟩
theorem Gs.refl {ρ : Rho} {σ : St} : Gs ρ σ ρ σ := ⟨fun _ z => z, fun _ z => z⟩
theorem Gs.trans {ρ ρ1 ρ' : Rho} {σ σ1 σ' : St} (a : Gs ρ σ ρ1 σ1) (b : Gs ρ1 σ1 ρ' σ') : Gs ρ σ ρ' σ' := ⟨fun x z => a.1 x (b.1 x z), fun x z => a.2 x (b.2 x z)⟩
abbrev DG := D → (Rho → Prop) → Rho → Prop
abbrev DGs := List D → (Rho → Prop) → Rho → Prop
def SG (X : Cx) (ws : List Nat) (tg : Expr) (w : DG) : Prop :=
  ∃ g, PG X tg g ∧ ∀ (v : V) (d : D) (σ : St) (H : Hp) (ρ : Rho) (O : Addr → Prop) (k : Rho → Prop) (Q : St → Hp → Prop), Sr X.K ρ σ H O → Val X.K H O v d → (d.own = true → ∀ a, Pt v d a → ¬ Sl ρ σ a) → w d k ρ →
    (∀ ρ' σ', Sr X.K ρ' σ' H O → Gr ρ σ ρ' σ' v d → (∀ i, i ∉ ws → σ'[i]? = σ[i]?) → σ'.length = σ.length → k ρ' → Q σ' H) → g v σ H Q
def SGs (X : Cx) (ws : List Nat) (tgs : List Expr) (w : DGs) : Prop :=
  ∃ g, PGs X tgs g ∧ ∀ (vs : List V) (ds : List D) (σ : St) (H : Hp) (ρ : Rho) (O : Addr → Prop) (k : Rho → Prop) (Q : St → Hp → Prop), Sr X.K ρ σ H O → Reps X.K H O vs ds → w ds k ρ →
    (∀ ρ' σ', Sr X.K ρ' σ' H O → Gs ρ σ ρ' σ' → (∀ i, i ∉ ws → σ'[i]? = σ[i]?) → σ'.length = σ.length → k ρ' → Q σ' H) → g vs σ H Q
section
variable {X : Cx} {pos : Pos}
def gN (i : Nat) (d : D) (k : Rho → Prop) (ρ : Rho) : Prop := k (rset ρ i (some d))
theorem sg_name {i : Nat} {x : Str} (hN : X.N.Nodup) (hi : X.N[i]? = some x) (hx : Loc X.env.scope x) (hf : X.fn x = true ∨ X.env.scope.names.lookup x = some .local := by first | exact .inl rfl | exact .inr rfl | assumption) : SG X [i] (.Name x pos) (gN i) := by
  refine ⟨_, pg_name hN hi hx hf, fun v d σ H ρ O k Q s vo n hw q => ?_⟩
  refine q _ _ (s.store vo n) ⟨fun a z => sl_store z s.len, fun a z => sl0_store z s.len⟩ (fun j hj => ?_) (List.length_set ..) hw
  rw [List.getElem?_set_ne]
  intro e
  exact hj (by simp [e])
def gsNil (ds : List D) (k : Rho → Prop) (ρ : Rho) : Prop := match ds with
  | [] => k ρ
  | _ => False
def kGs (w : DGs) (r : List D) (k : Rho → Prop) (ρ : Rho) : Prop := w r k ρ
def gsCons (g : DG) (w : DGs) (ds : List D) (k : Rho → Prop) (ρ : Rho) : Prop := match ds with
  | d :: r => g d (kGs w r k) ρ
  | [] => False
theorem sgs_nil : SGs X [] [] gsNil := by
  refine ⟨_, pgs_nil, fun vs ds σ H ρ O k Q s r hw q => ?_⟩
  cases ds with
  | nil => cases r; exact ⟨rfl, q ρ σ s .refl (fun _ _ => rfl) rfl hw⟩
  | cons _ _ => exact hw.elim
theorem sgs_cons {e : Expr} {es : List Expr} {g : DG} {w : DGs} {ws us : List Nat} (h : SG X ws e g) (t : SGs X us es w)
    (hs : (assignEach (e :: es) X.env).map (·.2) = assign e X.env :: (assignEach es X.env).map (·.2) := by rfl) : SGs X (ws ++ us) (e :: es) (gsCons g w) := by
  obtain ⟨g1, p1, f1⟩ := h
  obtain ⟨g2, p2, f2⟩ := t
  refine ⟨_, pgs_cons p1 p2 hs, fun vs ds σ H ρ O k Q s r hw q => ?_⟩
  cases r with
  | nil => exact hw.elim
  | @cons v vs d ds r1 r2 =>
    have nown : d.own = true → ∀ a, Pt v d a → ¬ Sl ρ σ a := fun e => by cases r1 <;> cases e
    refine ⟨v, vs, rfl, f1 v d σ H ρ O _ _ s (.rep r1) nown hw fun ρ' σ' s' sl' ot' ln' hk => ?_⟩
    refine f2 vs ds σ' H ρ' O _ _ s' r2 hk fun ρ2 σ2 s2 sl2 ot2 ln2 hk2 => ?_
    refine q ρ2 σ2 s2 ((sl'.gs r1.nown).trans sl2) (fun i hi => ?_) (ln2.trans ln') hk2
    · rw [ot2 i fun z => hi (List.mem_append_right _ z), ot' i fun z => hi (List.mem_append_left _ z)]
def gT (w : DGs) (n : Nat) (d : D) (k : Rho → Prop) (ρ : Rho) : Prop := match d with
  | .tup ds => ds.length = n ∧ w ds k ρ
  | _ => False
theorem sg_tup {es : List Expr} {kk n : Nat} {w : DGs} {ws : List Nat} (hc : X.calm = true) (h : SGs X ws es w) (hn : (assignEach es X.env).length = n := by rfl) (hst : (assignEach es X.env).findIdx? (·.1) = none := by rfl) : SG X ws (.Tuple es kk pos) (gT w n) := by
  obtain ⟨g, p, f⟩ := h
  refine ⟨_, pg_tup hc p hn hst, fun v d σ H ρ O k Q s vo nn hw q => ?_⟩
  cases d <;> try exact False.elim hw
  obtain ⟨a, vs, rfl, h1, r⟩ := vo.tup
  have hw : _ ∧ _ := hw
  refine ⟨a, vs, rfl, h1, by rw [r.length]; exact hw.1, ?_⟩
  exact f vs _ σ H ρ O _ _ s r hw.2 fun ρ' σ' s' sl' ot' ln' hk => q ρ' σ' s' sl'.gr ot' ln' hk
end
def Items (K : PySem.W.Frag) (J : It) (H : Hp) (O S : Addr → Prop) (items : List D) : Prop :=
  ∀ (H1 : Hp) (O1 : Addr → Prop), Own H1 O1 → Ext S H O H1 O1 → ∀ i : Nat,
    (∀ d, items[i]? = some d → J.go i H1 ∧ ∀ x H2, J.yld i H1 x H2 → Ext no H1 O1 H2 O1 ∧ Own H2 O1 ∧ Rep K H2 O1 x d) ∧ (items.length ≤ i → J.stop i H1)
abbrev DI := (List D → Rho → Prop) → Rho → Prop
def SI (X : Cx) (tg iter : Expr) (w : DI) : Prop :=
  ∃ wi, PI X tg iter wi ∧ ∀ (σ : St) (H : Hp) (ρ : Rho) (O : Addr → Prop) (k : List D → Rho → Prop) (R : It → Hp → Prop), Sr X.K ρ σ H O → w k ρ →
    (∀ J H' ρ' O' items, After X.K ρ σ H O ρ' H' O' → Items X.K J H' O' (Sl ρ' σ) items → k items ρ' → R J H') → wi σ H R
section
variable {K : PySem.W.Frag} {H H1 : Hp} {O O1 S : Addr → Prop} {a : Addr} {vs : List V} {ds : List D}
theorem items_L (hS : Lsts H O S) (hs : ∀ H1 O1, Ext S H O H1 O1 → SqL K H1 a vs) (r : Reps K H O vs ds) : Items K (Itl K a) H O S ds := by
  intro H1 O1 own e i
  have q := hs H1 O1 e
  have r1 := r.ext e hS
  refine ⟨fun d hd => ?_, fun hl => ⟨vs, q, by rw [r.length]; exact hl⟩⟩
  obtain ⟨v, hv, rv⟩ := r1.get hd
  refine ⟨⟨vs, v, q, hv⟩, fun x H2 ⟨e2, hx⟩ => ?_⟩
  subst e2
  have ev := hx vs q
  rw [hv] at ev
  cases ev
  exact ⟨.refl, own, rv⟩
theorem items_T (hS : Lsts H O S) (h : SqT K H a vs) (r : Reps K H O vs ds) : Items K (Itt K a) H O S ds := by
  intro H1 O1 own e i
  have q := sqT_ext e hS h
  have r1 := r.ext e hS
  refine ⟨fun d hd => ?_, fun hl => ⟨vs, q, by rw [r.length]; exact hl⟩⟩
  obtain ⟨v, hv, rv⟩ := r1.get hd
  refine ⟨⟨vs, v, q, hv⟩, fun x H2 ⟨e2, hx⟩ => ?_⟩
  subst e2
  have ev := hx vs q
  rw [hv] at ev
  cases ev
  exact ⟨.refl, own, rv⟩
end
section
variable {X : Cx} {tg e e2 : Expr} {pos p : Pos}
def iAny (K : PySem.W.Frag) (te : TE) : TI := fun σ H R => te σ H fun x H1 => (∃ a, x = .ref a ∧ (((∃ xs, SqL K H1 a xs) ∧ R (Itl K a) H1) ∨ ((∃ xs, SqT K H1 a xs) ∧ R (Itt K a) H1))) ∨ ∃ z, x = .str z ∧ R (Its z) H1
theorem pi_any {te : TE} (he : PE X e te) : PI X tg e (iAny X.K te) := by
  refine ⟨fun pins s σ H R I h => ?_⟩
  refine thn (he.run pins s σ H _ I h) fun v s1 ⟨x, H1, I1, r1, q1⟩ => ?_
  rcases q1 with ⟨a, rfl, ⟨⟨xs, hq⟩, q⟩ | ⟨⟨xs, hq⟩, q⟩⟩ | ⟨z, rfl, q⟩
  · cases r1
    obtain ⟨its, rv, p, hz⟩ := I1.list hq
    refine wpAny_pyIter_list p.isList ?_
    refine ⟨s1.heap.objs.size, [s1.heap.objs.size], _, _, H1, rfl, I1.kept (t' := s1.toks) fun b o e => Heap.get?_push_of_some _ e, turn_list a _, ⟨_, Heap.get?_push_size _ rfl, rfl, rfl⟩, fun b hb => ?_, q⟩
    have e : b = s1.heap.objs.size := by simpa using hb
    subst e
    exact I1.fpOk (Nat.le_refl _) (I1.hok.fresh (Nat.le_refl _))
  · cases r1
    obtain ⟨its, rv, p, hz⟩ := I1.tuple hq
    refine wpAny_pyIter_tuple (show s1.heap.IsTuple a its.toArray from p) ?_
    refine ⟨s1.heap.objs.size, [s1.heap.objs.size], _, _, H1, rfl, I1.kept (t' := s1.toks) fun b o e => Heap.get?_push_of_some _ e, turn_tuple a _, ⟨_, Heap.get?_push_size _ rfl, rfl, rfl⟩, fun b hb => ?_, q⟩
    have e : b = s1.heap.objs.size := by simpa using hb
    subst e
    exact I1.fpOk (Nat.le_refl _) (I1.hok.fresh (Nat.le_refl _))
  · obtain ⟨t, rfl⟩ := r1
    cases ha : z.cps.all (· < 128)
    · exact wpAny_pyIter_wide ha (pi_one (tk := s1.toks) I1 _ (turn_str _ z t "str_iterator" (.inr rfl)) ⟨_, Heap.get?_push_size _ rfl, rfl, rfl⟩ q)
    · exact wpAny_pyIter_ascii ha (pi_one (tk := s1.toks) I1 _ (turn_str _ z t "str_ascii_iterator" (.inl rfl)) ⟨_, Heap.get?_push_size _ rfl, rfl, rfl⟩ q)
theorem items_S {K : PySem.W.Frag} {H : Hp} {O S : Addr → Prop} {z : Str} : Items K (Its z) H O S (z.cps.toList.map fun c => D.str ⟨#[c]⟩) := by
  intro H1 O1 own e i
  refine ⟨fun d hd => ?_, fun hl => ?_⟩
  · rw [List.getElem?_map] at hd
    cases hc : z.cps.toList[i]? with
    | none => rw [hc] at hd; cases hd
    | some c =>
      rw [hc] at hd
      cases hd
      have hc' : z.cps[i]? = some c := by rw [← Array.getElem?_toList]; exact hc
      refine ⟨?_, fun x H2 ⟨e2, c2, h2, ex⟩ => ?_⟩
      · have := (List.getElem?_eq_some_iff.mp hc).1
        show i < z.cps.size
        simpa using this
      · subst e2 ex
        rw [hc'] at h2
        cases h2
        exact ⟨.refl, own, .str _⟩
  · show z.cps.size ≤ i
    simpa using hl
def kIt (k : List D → Rho → Prop) (d : D) (ρ : Rho) : Prop := match d with
  | .tup xs => k xs ρ
  | .lst _ xs => k xs ρ
  | .scr xs => k xs ρ
  | .str z => k (z.cps.toList.map fun c => D.str ⟨#[c]⟩) ρ
  | _ => False
def iOf (w : DE) (k : List D → Rho → Prop) (ρ : Rho) : Prop := w (kIt k) ρ
theorem si_of {w : DE} (h : SE X e w) : SI X tg e (iOf w) := by
  obtain ⟨t, p, f⟩ := h
  refine ⟨_, pi_any p, fun σ H ρ O k R s hw q => ?_⟩
  refine f σ H ρ O _ _ s hw fun v H1 ρ1 O1 d a vo hk => ?_
  have L := a.sr.lsts
  cases d <;> try exact False.elim hk
  · rw [vo.val.str]
    exact .inr ⟨_, rfl, q _ H1 ρ1 O1 _ a items_S hk⟩
  · obtain ⟨b, vs, rfl, h1, r⟩ := vo.val.tup
    exact .inl ⟨b, rfl, .inr ⟨⟨vs, h1⟩, q _ H1 ρ1 O1 _ a (items_T L h1 r) hk⟩⟩
  · rename_i o ds
    cases vo.val with
    | @own b u ds oo h r =>
      obtain ⟨vs, rfl, r'⟩ := r.lst_of'
      have ns : ¬ Sl ρ1 σ b := a.nsl s (vo.new b r.o (.inl rfl))
      have r := r'
      exact .inl ⟨b, rfl, .inl ⟨⟨vs, .of h⟩, q _ H1 ρ1 O1 _ a (items_L L (fun H2 O2 e => .of (e.keep b _ h ns).1) r) hk⟩⟩
    | rep r =>
      cases r with
      | @lst b vs ds h n r => exact .inl ⟨b, rfl, .inl ⟨⟨vs, .of h⟩, q _ H1 ρ1 O1 _ a (items_L L (fun H2 O2 e => .of (rd_ext e L h n).1) r) hk⟩⟩
  · cases vo.val with
    | rep r =>
      cases r with
      | @scr b vs ds h r => exact .inl ⟨b, rfl, .inl ⟨⟨vs, h.sqL⟩, q _ H1 ρ1 O1 _ a (items_L L (fun H2 O2 e => (scr_ext e L h).sqL) r) hk⟩⟩
    | own _ _ r => cases r
def rangeD (lo : Int) (n : Nat) : List D := (List.range n).map fun i => D.int (lo + (i : Nat))
theorem items_R {K : PySem.W.Frag} {H : Hp} {O S : Addr → Prop} {lo : Int} {n : Nat} : Items K (Itr lo n) H O S (rangeD lo n) := by
  intro H1 O1 own e i
  refine ⟨fun d hd => ?_, fun hl => by
    show n ≤ i
    unfold rangeD at hl; simpa using hl⟩
  unfold rangeD at hd
  rw [List.getElem?_map] at hd
  cases hc : (List.range n)[i]? with
  | none => rw [hc] at hd; cases hd
  | some c =>
    rw [hc] at hd
    cases hd
    obtain ⟨h1, h2⟩ := List.getElem?_eq_some_iff.mp hc
    rw [List.getElem_range] at h2
    subst h2
    refine ⟨show i < n by simpa using h1, fun x H2 ⟨e2, ex⟩ => ?_⟩
    subst e2 ex
    exact ⟨.refl, own, .int _⟩
def i62 (j : Int) : Prop := -(2 ^ 62) ≤ j ∧ j < 2 ^ 62
def gR1 (ds : List D) (k : List D → Prop) : Prop := match ds with
  | [.int j] => i62 j ∧ k (rangeD 0 j.toNat)
  | _ => False
def gR2 (ds : List D) (k : List D → Prop) : Prop := match ds with
  | [.int i, .int j] => (i62 i ∧ i62 j) ∧ k (rangeD i (j - i).toNat)
  | _ => False
def kVs (k : List D → Rho → Prop) (ρ : Rho) (d : List D) : Prop := k d ρ
def kR (g : List D → (List D → Prop) → Prop) (k : List D → Rho → Prop) (os : List DOp) (ρ : Rho) : Prop := onSome (rdAll ρ os) fun ds => g ds (kVs k ρ)
def iR (g : List D → (List D → Prop) → Prop) (w : DA) (k : List D → Rho → Prop) (ρ : Rho) : Prop := w (kR g k) ρ
theorem si_range1 {a : Expr} {w : DA} (hg : Gl X "range") (hm : X.mg "range" = none) (h : SA X [a] w) (hs : starEach [a] X.env = [(false, eval a X.env)] := by rfl) : SI X tg (.Call (.Name "range" p) [a] [] pos) (iR gR1 w) := by
  obtain ⟨t, pt, f⟩ := h
  refine ⟨_, pi_range1 hg hm pt hs, fun σ H ρ O k R s hw q => ?_⟩
  refine f σ H ρ O _ _ s hw fun vs H1 ρ1 O1 os a c _ hk => ?_
  obtain ⟨ds, e, hk⟩ := hk.ex
  have v := c.vals a.sr e
  unfold gR1 at hk
  split at hk
  · obtain ⟨u, rfl, h⟩ := v.one
    exact ⟨_, by rw [h.int], hk.1.1, hk.1.2, q _ H1 ρ1 O1 _ a items_R hk.2⟩
  · exact hk.elim
def zipD : List D → List D → List D
  | x :: xs, y :: ys => .tup [x, y] :: zipD xs ys
  | _, _ => []
theorem zipD_get : ∀ {xs ys : List D} {i : Nat} {d : D}, (zipD xs ys)[i]? = some d → ∃ x y, d = .tup [x, y] ∧ xs[i]? = some x ∧ ys[i]? = some y
  | [], _, _, _, h => by simp [zipD] at h
  | _ :: _, [], _, _, h => by simp [zipD] at h
  | x :: xs, y :: ys, 0, d, h => by simp [zipD] at h; exact ⟨x, y, h.symm, rfl, rfl⟩
  | x :: xs, y :: ys, i + 1, d, h => by
    have h : (zipD xs ys)[i]? = some d := by simpa [zipD] using h
    obtain ⟨x', y', e, h1, h2⟩ := zipD_get h
    exact ⟨x', y', e, by simpa using h1, by simpa using h2⟩
theorem zipD_len : ∀ {xs ys : List D} {i : Nat}, (zipD xs ys).length ≤ i → xs.length ≤ i ∨ ys.length ≤ i
  | [], _, _, _ => .inl (Nat.zero_le _)
  | _ :: _, [], _, _ => .inr (Nat.zero_le _)
  | x :: xs, y :: ys, i, h => by
    have h : (zipD xs ys).length + 1 ≤ i := h
    cases i with
    | zero => omega
    | succ i =>
      rcases zipD_len (xs := xs) (ys := ys) (i := i) (by omega) with z | z
      · exact .inl (Nat.succ_le_succ z)
      · exact .inr (Nat.succ_le_succ z)
theorem items_Z {K : PySem.W.Frag} {H : Hp} {O S : Addr → Prop} {a b : Addr} {vs ws : List V} {xs ys : List D} (hS : Lsts H O S) (h1 : ∀ H1 O1, Ext S H O H1 O1 → SqL K H1 a vs) (h2 : ∀ H1 O1, Ext S H O H1 O1 → SqL K H1 b ws) (r1 : Reps K H O vs xs) (r2 : Reps K H O ws ys) : Items K (Itz K a b) H O S (zipD xs ys) := by
  intro H1 O1 own e i
  have q1 := h1 H1 O1 e
  have q2 := h2 H1 O1 e
  have s1 := r1.ext e hS
  have s2 := r2.ext e hS
  refine ⟨fun d hd => ?_, fun hl => ⟨vs, ws, q1, q2, by rw [r1.length, r2.length]; exact zipD_len hl⟩⟩
  obtain ⟨x, y, rfl, hx, hy⟩ := zipD_get hd
  obtain ⟨v, hv, rv⟩ := s1.get hx
  obtain ⟨w, hw, rw'⟩ := s2.get hy
  refine ⟨⟨vs, ws, v, w, q1, q2, hv, hw⟩, fun z H2 ⟨T, v', w', ez, hT, eh, g1, g2⟩ => ?_⟩
  subst ez eh
  have e1 := g1 vs q1
  have e2 := g2 ws q2
  rw [hv] at e1; cases e1
  rw [hw] at e2; cases e2
  exact ⟨ext_new hT, own_new own hT, .tup (.of upd_same) (Reps.fresh hT (.cons rv (.cons rw' .nil)))⟩
theorem items_ZT {K : PySem.W.Frag} {H : Hp} {O S : Addr → Prop} {a b : Addr} {vs ws : List V} {xs ys : List D} (hS : Lsts H O S) (h1 : SqT K H a vs) (h2 : SqT K H b ws) (r1 : Reps K H O vs xs) (r2 : Reps K H O ws ys) : Items K (RZ.ItzT K a b) H O S (zipD xs ys) := by
  intro H1 O1 own e i
  have q1 := sqT_ext e hS h1
  have q2 := sqT_ext e hS h2
  have s1 := r1.ext e hS
  have s2 := r2.ext e hS
  refine ⟨fun d hd => ?_, fun hl => ⟨vs, ws, q1, q2, by rw [r1.length, r2.length]; exact zipD_len hl⟩⟩
  obtain ⟨x, y, rfl, hx, hy⟩ := zipD_get hd
  obtain ⟨v, hv, rv⟩ := s1.get hx
  obtain ⟨w, hw, rw'⟩ := s2.get hy
  refine ⟨⟨vs, ws, v, w, q1, q2, hv, hw⟩, fun z H2 ⟨T, v', w', ez, hT, eh, g1, g2⟩ => ?_⟩
  subst ez eh
  have e1 := g1 vs q1
  have e2 := g2 ws q2
  rw [hv] at e1; cases e1
  rw [hw] at e2; cases e2
  exact ⟨ext_new hT, own_new own hT, .tup (.of upd_same) (Reps.fresh hT (.cons rv (.cons rw' .nil)))⟩
theorem Reps.two {K : PySem.W.Frag} {H : Hp} {O : Addr → Prop} {vs : List V} {d e : D} (h : Reps K H O vs [d, e]) : ∃ v w, vs = [v, w] ∧ Rep K H O v d ∧ Rep K H O w e := by
  cases h with | cons h t => cases t with | cons h' t => cases t; exact ⟨_, _, rfl, h, h'⟩
theorem Reps.one {K : PySem.W.Frag} {H : Hp} {O : Addr → Prop} {vs : List V} {d : D} (h : Reps K H O vs [d]) : ∃ v, vs = [v] ∧ Rep K H O v d := by
  cases h with | cons h t => cases t; exact ⟨_, rfl, h⟩
theorem Rep.sqL {K : PySem.W.Frag} {H : Hp} {O S : Addr → Prop} {v : V} {d : D} {xs : List D} (hS : Lsts H O S) (r : Rep K H O v d) (e : d.sql = some xs) : ∃ a vs, v = .ref a ∧ (∀ H1 O1, Ext S H O H1 O1 → SqL K H1 a vs) ∧ Reps K H O vs xs := by
  cases r with
  | lst h n r => cases e; exact ⟨_, _, rfl, fun H1 O1 e => .of (rd_ext e hS h n).1, r⟩
  | scr h r => cases e; exact ⟨_, _, rfl, fun H1 O1 e => (scr_ext e hS h).sqL, r⟩
  | _ => cases e
def gZ (ds : List D) (k : List D → Prop) : Prop := match ds with
  | [.tup xs, .tup ys] => k (zipD xs ys)
  | [.lst _ xs, .lst _ ys] => k (zipD xs ys)
  | [.scr xs, .lst _ ys] => k (zipD xs ys)
  | [.lst _ xs, .scr ys] => k (zipD xs ys)
  | _ => False
def kZ (k : List D → Rho → Prop) (ds : List D) (ρ : Rho) : Prop := gZ ds (kVs k ρ)
def iZ (w : DA) (k : List D → Rho → Prop) (ρ : Rho) : Prop := w (kTake (kZ k)) ρ
def enumD (n : Nat) : List D → List D
  | [] => []
  | x :: r => .tup [.int (n : Nat), x] :: enumD (n + 1) r
def gE (ds : List D) (k : List D → Prop) : Prop := match ds with
  | [.lst _ xs] => k (enumD 0 xs)
  | [.scr xs] => k (enumD 0 xs)
  | _ => False
def kE (k : List D → Rho → Prop) (ds : List D) (ρ : Rho) : Prop := gE ds (kVs k ρ)
def iE (w : DA) (k : List D → Rho → Prop) (ρ : Rho) : Prop := w (kTake (kE k)) ρ
end
end Bx
namespace Bx
variable [TabC]
open PySem L2
structure DEnds where
  nx : Rho → Prop
  rt : D → Rho → Prop
  bk : Rho → Prop
  ct : Rho → Prop
  /-- what is wanted of an exception -/
  ex : D → Rho → Prop := fun _ _ => False
abbrev DS := DEnds → Rho → Prop
structure RelE (K : PySem.W.Frag) (ios : List Nat) (ρ0 : Rho) (σ0 : St) (H0 : Hp) (O0 : Addr → Prop) (D : Ends) (E : DEnds) : Prop where
  nx : ∀ ρ σ H O, Stp K ios ρ0 σ0 H0 O0 ρ σ H O → E.nx ρ → D.nx σ H
  bk : ∀ ρ σ H O, Stp K ios ρ0 σ0 H0 O0 ρ σ H O → E.bk ρ → D.bk σ H
  ct : ∀ ρ σ H O, Stp K ios ρ0 σ0 H0 O0 ρ σ H O → E.ct ρ → D.ct σ H
  rt : ∀ ρ σ H O v d, Stp K ios ρ0 σ0 H0 O0 ρ σ H O → Val K H O v d → (d.own = true → ∀ a, Pt v d a → ¬ Sl ρ σ a ∧ ∀ u, H0 a = some u → ∃ i, rget ρ i = none ∧ Sl0 ρ0 σ0 (i, a)) → E.rt d ρ → D.rt v H
theorem RelE.step {K : PySem.W.Frag} {ios : List Nat} {ρ0 ρ1 : Rho} {σ0 σ1 : St} {H0 H1 : Hp} {O0 O1 : Addr → Prop} {D : Ends} {E : DEnds} (r : RelE K ios ρ0 σ0 H0 O0 D E) (s : Stp K ios ρ0 σ0 H0 O0 ρ1 σ1 H1 O1) : RelE K ios ρ1 σ1 H1 O1 D E :=
  ⟨fun ρ σ H O t h => r.nx ρ σ H O (s.trans t) h, fun ρ σ H O t h => r.bk ρ σ H O (s.trans t) h, fun ρ σ H O t h => r.ct ρ σ H O (s.trans t) h, fun ρ σ H O v d t q n h => r.rt ρ σ H O v d (s.trans t) q (fun e a ea => by
    obtain ⟨n1, n2⟩ := n e a ea
    refine ⟨n1, fun u hu => ?_⟩
    obtain ⟨u1, g1⟩ := s.dom a u hu
    obtain ⟨i, ni, z⟩ := n2 u1 g1
    exact ⟨i, ni, Classical.byContradiction fun c => s.keep0 (i, a) u hu c z⟩) h⟩
def SS (X : Cx) (ios : List Nat) (st : Stmt) (w : DS) : Prop :=
  ∃ t, PS X st t ∧ ∀ (σ : St) (H : Hp) (ρ : Rho) (O : Addr → Prop) (D : Ends) (E : DEnds), Sr X.K ρ σ H O → RelE X.K ios ρ σ H O D E → w E ρ → t D σ H
def SSs (X : Cx) (ios : List Nat) (st : List Stmt) (w : DS) : Prop :=
  ∃ t, PSs X st t ∧ ∀ (σ : St) (H : Hp) (ρ : Rho) (O : Addr → Prop) (D : Ends) (E : DEnds), Sr X.K ρ σ H O → RelE X.K ios ρ σ H O D E → w E ρ → t D σ H
def tE (K : PySem.W.Frag) (w : DE) : TE := fun σ H R => ∃ ρ O k, Sr K ρ σ H O ∧ w k ρ ∧ ∀ v H' ρ' O' d, After K ρ σ H O ρ' H' O' → VOk K H H' O' v d → k d ρ' → R v H'
def tTt (K : PySem.W.Frag) (w : DT) : TT := fun σ H R => ∃ ρ O k, Sr K ρ σ H O ∧ w k ρ ∧ ∀ b H' ρ' O', After K ρ σ H O ρ' H' O' → k b ρ' → R b H'
def tGg (K : PySem.W.Frag) (ws : List Nat) (w : DG) : TG := fun v σ H Q => ∃ d ρ O k, Sr K ρ σ H O ∧ Val K H O v d ∧ (d.own = true → ∀ a, Pt v d a → ¬ Sl ρ σ a) ∧ w d k ρ ∧
  ∀ ρ' σ', Sr K ρ' σ' H O → Gr ρ σ ρ' σ' v d → (∀ i, i ∉ ws → σ'[i]? = σ[i]?) → σ'.length = σ.length → k ρ' → Q σ' H
section
variable {X : Cx} {e : Expr}
theorem SE.pe {w : DE} (h : SE X e w) : PE X e (tE X.K w) := by
  obtain ⟨t, p, f⟩ := h
  exact ⟨fun pins s σ H Q I ⟨ρ, O, k, sr, hw, q⟩ => p.run pins s σ H Q I (f σ H ρ O k Q sr hw q)⟩
theorem ST.pt {w : DT} (h : ST X e w) : PT X e (tTt X.K w) := by
  obtain ⟨t, p, f⟩ := h
  exact ⟨fun pins s σ H Q I ⟨ρ, O, k, sr, hw, q⟩ => p.run pins s σ H Q I (f σ H ρ O k Q sr hw q)⟩
theorem SG.pg {w : DG} {ws : List Nat} (h : SG X ws e w) : PG X e (tGg X.K ws w) := by
  obtain ⟨t, p, f⟩ := h
  exact ⟨fun pins s σ H v u Q I r ⟨d, ρ, O, k, sr, vo, n, hw, q⟩ => p.run pins s σ H v u Q I r (f v d σ H ρ O k Q sr vo n hw q)⟩
end
section
variable {X : Cx} {ios : List Nat} {st : Stmt} {rest : List Stmt} {e : Expr} {pos : Pos} {w u : DS}
def dNext (E : DEnds) (ρ : Rho) : Prop := E.nx ρ
def dSeq (w u : DS) (E : DEnds) (ρ : Rho) : Prop := w ⟨u E, E.rt, E.bk, E.ct, E.ex⟩ ρ
theorem sss_nil : SSs X ios [] dNext := ⟨_, pss_nil, fun σ H ρ O D E s r h => r.nx _ _ _ _ (.refl s) h⟩
theorem sss_cons (h1 : SS X ios st w) (h2 : SSs X ios rest u) : SSs X ios (st :: rest) (dSeq w u) := by
  obtain ⟨t1, p1, f1⟩ := h1
  obtain ⟨t2, p2, f2⟩ := h2
  refine ⟨_, pss_cons p1 p2, fun σ H ρ O D E s r h => ?_⟩
  refine f1 σ H ρ O _ ⟨u E, E.rt, E.bk, E.ct, E.ex⟩ s ⟨fun ρ1 σ1 H1 O1 t q => ?_, r.bk, r.ct, r.rt⟩ h
  exact f2 σ1 H1 ρ1 O1 D E t.sr (r.step t) q
theorem sss_one (h1 : SS X ios st w) : SSs X ios [st] w := by
  obtain ⟨t1, p1, f1⟩ := h1
  exact ⟨_, pss_one p1, f1⟩
def dBreak (E : DEnds) (ρ : Rho) : Prop := E.bk ρ
def dCont (E : DEnds) (ρ : Rho) : Prop := E.ct ρ
def kExp (nx : Rho → Prop) (_ : D) (ρ : Rho) : Prop := nx ρ
def dExp (w : DE) (E : DEnds) (ρ : Rho) : Prop := w (kExp E.nx) ρ
theorem ss_expr {w : DE} (h : SE X e w) (hs : swapsWith e none pos.line X.env = pure false := by rfl) : SS X ios (.Expr e pos) (dExp w) := by
  obtain ⟨t, p, f⟩ := h
  refine ⟨_, ps_expr p hs, fun σ H ρ O D E s r h => ?_⟩
  exact f σ H ρ O _ _ s h fun v H' ρ' O' d a _ hk => r.nx _ _ _ _ a.stp hk
def dRet (w : DE) (E : DEnds) (ρ : Rho) : Prop := w E.rt ρ
theorem ss_ret {w : DE} (h : SE X e w) : SS X ios (.Return (some e) pos) (dRet w) := by
  obtain ⟨t, p, f⟩ := h
  refine ⟨_, ps_ret p, fun σ H ρ O D E s r h => ?_⟩
  refine f σ H ρ O _ _ s h fun v H' ρ' O' d a vo hk => r.rt _ _ _ _ v d a.stp vo.val (fun e x ex => ?_) hk
  have hn := vo.new x e ex
  exact ⟨a.nsl s hn, fun u hu => by rw [hn] at hu; cases hu⟩
def dRetV (i : Nat) (E : DEnds) (ρ : Rho) : Prop := onSome (rget ρ i) fun d => E.rt d (rset ρ i none)
theorem Sr.drop {K : PySem.W.Frag} {ρ : Rho} {σ : St} {H : Hp} {O : Addr → Prop} {i : Nat} (s : Sr K ρ σ H O) : Sr K (rset ρ i none) σ H O := by
  refine ⟨by rw [rset_len]; exact s.len, fun j d h => ?_, fun j k xs ys v w a h1 o1 h2 o2 => ?_, s.own, s.tab⟩
  · rcases get_rset h with ⟨_, e, _⟩ | ⟨_, h⟩
    · cases e
    · exact s.slot j d h
  · rcases get_rset h1 with ⟨_, e, _⟩ | ⟨_, h1⟩
    · cases e
    · rcases get_rset h2 with ⟨_, e, _⟩ | ⟨_, h2⟩
      · cases e
      · exact s.uniq j k xs ys v w a h1 o1 h2 o2
theorem sl_drop {ρ : Rho} {σ : St} {i : Nat} {a : Addr} (h : Sl (rset ρ i none) σ a) : Sl ρ σ a := by
  obtain ⟨j, xs, w, h1, ho, h2, hp⟩ := h
  rcases get_rset h1 with ⟨_, e, _⟩ | ⟨_, h1⟩
  · cases e
  · exact ⟨j, xs, w, h1, ho, h2, hp⟩
theorem sl0_drop {ρ : Rho} {σ : St} {i : Nat} {a : Nat × Addr} (h : Sl0 (rset ρ i none) σ a) : Sl0 ρ σ a := by
  obtain ⟨xs, w, h1, ho, h2, hp⟩ := h
  rcases get_rset h1 with ⟨_, e, _⟩ | ⟨_, h1⟩
  · cases e
  · exact ⟨xs, w, h1, ho, h2, hp⟩
theorem rget_drop : ∀ {ρ : Rho} {i : Nat}, rget (rset ρ i none) i = none
  | [], _ => rfl
  | _ :: _, 0 => rfl
  | _ :: r, n + 1 => rget_drop (ρ := r) (i := n)
theorem ss_retV {i : Nat} (h : PE X e (tVar i)) : SS X ios (.Return (some e) pos) (dRetV i) := by
  refine ⟨_, ps_ret h, fun σ H ρ O D E s r h => ?_⟩
  obtain ⟨d, ed, hk⟩ := onSome.ex h
  obtain ⟨v, h1, vo⟩ := s.slot i d (rget_get ed)
  refine ⟨v, h1, ?_⟩
  refine r.rt _ _ _ _ v _ ⟨s.drop, fun a u hu n _ => ⟨hu, Iff.rfl, fun z => n (sl_drop z)⟩, fun a u hu n z => n (sl0_drop z), fun a u hu => ⟨u, hu⟩, fun _ _ => rfl, .refl⟩ vo (fun e a ea => ?_) hk
  refine ⟨fun ⟨j, xs, w, g1, go, g2, gp⟩ => ?_, fun u _ => ⟨i, rget_drop, d, v, rget_get ed, e, h1, ea⟩⟩
  rcases get_rset g1 with ⟨_, e, _⟩ | ⟨nj, g1⟩
  · cases e
  · exact nj (s.uniq j i _ _ _ _ _ g1 go (rget_get ed) e g2 h1 gp ea)
def dRetN (E : DEnds) (ρ : Rho) : Prop := E.rt .non ρ
def kIfS (a b : DS) (E : DEnds) (c : Bool) (ρ : Rho) : Prop := pick c (a E) (b E) ρ
def dIfS (t : DT) (a b : DS) (E : DEnds) (ρ : Rho) : Prop := t (kIfS a b E) ρ
theorem ss_if {c : Expr} {a b : List Stmt} {t : DT} (hc : ST X c t) (ha : SSs X ios a w) (hb : SSs X ios b u) : SS X ios (.If c a b pos) (dIfS t w u) := by
  obtain ⟨t, p, f⟩ := hc
  obtain ⟨t1, p1, f1⟩ := ha
  obtain ⟨t2, p2, f2⟩ := hb
  refine ⟨_, ps_if p p1 p2, fun σ H ρ O D E s r h => ?_⟩
  refine f σ H ρ O _ _ s h fun b H' ρ' O' a hk => ?_
  cases b with
  | true => exact iteT (f1 σ H' ρ' O' D E a.sr (r.step a.stp) hk)
  | false => exact iteF (f2 σ H' ρ' O' D E a.sr (r.step a.stp) hk)
def kAsg (i : Nat) (nx : Rho → Prop) (d : D) (ρ : Rho) : Prop := nx (rset ρ i (some d))
def dAsg (i : Nat) (w : DE) (E : DEnds) (ρ : Rho) : Prop := w (kAsg i E.nx) ρ
theorem After.store {K : PySem.W.Frag} {ios : List Nat} {ρ ρ1 : Rho} {σ : St} {H H1 : Hp} {O O1 : Addr → Prop} {i : Nat} {v : V} {d : D} (s : Sr K ρ σ H O) (a : After K ρ σ H O ρ1 H1 O1) (vo : VOk K H H1 O1 v d) (hi : i ∉ ios) : Stp K ios ρ σ H O (rset ρ1 i (some d)) (σ.set i (some v)) H1 O1 := by
  refine ⟨a.sr.store vo.val fun e x ex => a.nsl s (vo.new x e ex), fun x u hu n nt => ?_, fun x u hu n z => ?_, a.ext.dom, fun j hj => ?_, a.ext.tt⟩
  · obtain ⟨h1, h2⟩ := a.ext.keep x u hu n
    refine ⟨h1, h2, fun z => ?_⟩
    rcases sl_store z a.sr.len with z | ⟨z1, z2⟩
    · exact n (a.sub x z)
    · rw [vo.new x z1 z2] at hu; cases hu
  · rcases sl0_store z a.sr.len with z | ⟨z1, z2⟩
    · exact n (a.sub0 x z)
    · rw [vo.new x.2 z1 z2] at hu; cases hu
  · rw [List.getElem?_set_ne (by intro e; subst e; exact hi hj)]
theorem ss_set {i : Nat} {x : Str} {w : DE} {pos' : Pos} (hN : X.N.Nodup) (hi : X.N[i]? = some x) (hx : Loc X.env.scope x) (h : SE X e w) (hio : i ∉ ios := by decide) (hs : swapsWith e (some (.Name x pos')) pos.line X.env = pure false := by rfl) (hf : X.fn x = true ∨ X.env.scope.names.lookup x = some .local := by first | exact .inl rfl | exact .inr rfl | assumption) :
    SS X ios (.Assign [.Name x pos'] e pos) (dAsg i w) := by
  obtain ⟨t, p, f⟩ := h
  refine ⟨_, ps_set hN hi hx p hs hf, fun σ H ρ O D E s r h => ?_⟩
  exact f σ H ρ O _ _ s h fun v H' ρ' O' d a vo hk => r.nx _ _ _ _ (a.store s vo hio) hk
def kAsgG (g : DG) (nx : Rho → Prop) (d : D) (ρ : Rho) : Prop := g d nx ρ
def dAsgG (g : DG) (w : DE) (E : DEnds) (ρ : Rho) : Prop := w (kAsgG g E.nx) ρ
theorem ss_asg {tg : Expr} {ws : List Nat} {g : DG} {w : DE} (h : SE X e w) (hg : SG X ws tg g) (hio : ∀ i ∈ ios, i ∉ ws := by decide) (hs : swapsWithSole [tg] e pos.line X.env = pure false := by rfl) (hw : swappedStores [tg] e X.env = pure none := by rfl)
    (h1 : (assignEach [tg] X.env).map (·.2) = [assign tg X.env] := by rfl) : SS X ios (.Assign [tg] e pos) (dAsgG g w) := by
  obtain ⟨t, p, f⟩ := h
  obtain ⟨t2, p2, f2⟩ := hg
  refine ⟨_, ps_asg p p2 hs hw h1, fun σ H ρ O D E s r h => ?_⟩
  refine f σ H ρ O _ _ s h fun v H1 ρ1 O1 d a vo hk => ?_
  refine f2 v d σ H1 ρ1 O1 _ _ a.sr vo.val (fun e x ex => a.nsl s (vo.new x e ex)) hk fun ρ' σ' s' sl ot ln hk2 => ?_
  refine r.nx _ _ _ O1 ⟨s', fun x u hu n nt => ?_, fun x u hu n z => ?_, a.ext.dom, fun j hj => ot j (hio j hj), a.ext.tt⟩ hk2
  · obtain ⟨h1, h2⟩ := a.ext.keep x u hu n
    refine ⟨h1, h2, fun z => ?_⟩
    rcases sl.1 x z with z | ⟨z1, z2⟩
    · exact n (a.sub x z)
    · rw [vo.new x z1 z2] at hu; cases hu
  · rcases sl.2 x z with z | ⟨z1, z2⟩
    · exact n (a.sub0 x z)
    · rw [vo.new x.2 z1 z2] at hu; cases hu
def kPar2b (i j : Nat) (nx : Rho → Prop) (d d' : D) (ρ : Rho) : Prop := nx (rset (rset ρ i (some d)) j (some d'))
def kPar2 (i j : Nat) (b : DE) (nx : Rho → Prop) (d : D) (ρ : Rho) : Prop := b (kPar2b i j nx d) ρ
def dPar2 (i j : Nat) (a b : DE) (E : DEnds) (ρ : Rho) : Prop := a (kPar2 i j b E.nx) ρ
theorem ss_par2 {i j : Nat} {x y : Str} {a b : Expr} {wa wb : DE} {px py pt pt2 : Pos} {kt k2 : Nat} (hc : X.calm = true) (hN : X.N.Nodup) (hi : X.N[i]? = some x) (hj : X.N[j]? = some y) (hij : i ≠ j)
    (hx : X.env.scope.names.lookup x = some .local) (hy : X.env.scope.names.lookup y = some .local) (ha : SE X a wa) (hb : SE X b wb) (hio : ∀ z ∈ ios, z ≠ i ∧ z ≠ j := by decide)
    (hw : swappedStores [.Tuple [.Name x px, .Name y py] kt pt] (.Tuple [a, b] k2 pt2) X.env = pure (some [x, y]))
    (hs : swapsWithSole [.Tuple [.Name x px, .Name y py] kt pt] (.Tuple [a, b] k2 pt2) pos.line X.env = pure false := by rfl)
    (s1 : starEach [a, b] X.env = (false, eval a X.env) :: starEach [b] X.env := by rfl) (s2 : starEach [b] X.env = (false, eval b X.env) :: starEach [] X.env := by rfl) :
    SS X ios (.Assign [.Tuple [.Name x px, .Name y py] kt pt] (.Tuple [a, b] k2 pt2) pos) (dPar2 i j wa wb) := by
  obtain ⟨ta, pa, fa⟩ := ha
  obtain ⟨tb, pb, fb⟩ := hb
  refine ⟨_, ps_par hc hN hi hj hij hx hy (pa_cons pa (pa_cons pb pa_nil s2) s1) hw hs, fun σ H ρ O D E s r h => ?_⟩
  refine fa σ H ρ O _ _ s h fun v H1 ρ1 O1 d a1 v1 h1 => ?_
  refine fb σ H1 ρ1 O1 _ _ a1.sr h1 fun v' H2 ρ2 O2 d' a2 v2 h2 => ?_
  refine ⟨v, v', rfl, ?_⟩
  have a12 := a1.trans a2
  have v1' : VOk X.K H H2 O2 v d := v1.then s a1 a2
  have S1 := a12.store (i := i) (ios := ios) s v1' fun z => (hio i z).1 rfl
  have n2 : d'.own = true → ∀ a, Pt v' d' a → ¬ Sl (rset ρ2 i (some d)) (σ.set i (some v)) a := fun e a ea z => by
    have hn := v2.new a e ea
    rcases sl_store z a2.sr.len with z | ⟨z1, z2⟩
    · exact a2.nsl a1.sr hn z
    · obtain ⟨_, u, h, _⟩ := v1.val.pt z1 z2
      rw [hn] at h; cases h
  refine r.nx _ _ _ O2 ⟨S1.sr.store v2.val n2, fun b u hu n nt => ?_, fun b u hu n z => ?_, S1.dom, fun k hk => ?_, S1.tt⟩ h2
  · obtain ⟨g1, g2, g3⟩ := S1.keep b u hu n
    refine ⟨g1, g2, fun z => ?_⟩
    rcases sl_store z S1.sr.len with z | ⟨z1, z2⟩
    · exact g3 z
    · have hn := a1.back _ (v2.new b z1 z2)
      rw [hn] at hu; cases hu
  · rcases sl0_store z S1.sr.len with z | ⟨z1, z2⟩
    · exact S1.keep0 b u hu n z
    · have hn := a1.back _ (v2.new b.2 z1 z2)
      rw [hn] at hu; cases hu
  · rw [List.getElem?_set_ne (fun e => (hio k hk).2 e.symm), List.getElem?_set_ne (fun e => (hio k hk).1 e.symm)]
def kAugS (i : Nat) (nx : Rho → Prop) (ρ : Rho) (d : D) : Prop := nx (rset ρ i (some d))
def kAug (g : G2) (i : Nat) (nx : Rho → Prop) (y : DOp) (ρ : Rho) : Prop := onSome (rget ρ i) fun dx => onSome (rd ρ y) fun dy => g dx dy (kAugS i nx ρ)
def dAug (g : G2) (i : Nat) (o : DO) (E : DEnds) (ρ : Rho) : Prop := onSome (rget ρ i) fun _ => o (kAug g i E.nx) ρ
def kWh (b : DS) (E : DEnds) (next : Rho → Prop) (c : Bool) (ρ : Rho) : Prop := pick c (b ⟨next, E.rt, E.nx, next, E.ex⟩) E.nx ρ
def kForB (b : DS) (E : DEnds) (next : Rho → Prop) (ρ : Rho) : Prop := b ⟨next, E.rt, E.nx, next, E.ex⟩ ρ
def forGo (g : DG) (b : DS) (E : DEnds) : List D → Rho → Prop
  | [], ρ => E.nx ρ
  | x :: r, ρ => g x (kForB b E (forGo g b E r)) ρ
def kFor (g : DG) (b : DS) (E : DEnds) (items : List D) (ρ : Rho) : Prop := forGo g b E items ρ
def dFor (i : DI) (g : DG) (b : DS) (E : DEnds) (ρ : Rho) : Prop := i (kFor g b E) ρ
theorem ss_for {iter tg : Expr} {body : List Stmt} {i : DI} {g : DG} {ws : List Nat} (hp : PassesOwn (model X.prog X.w) X.A X.env X.xe) (hc : X.calm = true) (hi : SI X tg iter i) (hg : SG X ws tg g) (hb : SSs X ios body w) (hio : ∀ i ∈ ios, i ∉ ws := by decide)
    (hs : ∀ x, foldedSetIterable iter X.env x = pure x := by intro _; rfl) : SS X ios (.For tg iter body [] pos) (dFor i g w) := by
  obtain ⟨ti, pi, fi⟩ := hi
  obtain ⟨tg, pg, fg⟩ := hg
  obtain ⟨tb, pb, fb⟩ := hb
  refine ⟨_, ps_for hp hc pi pg pb hs, fun σ0 H0 ρ0 O0 D E s0 r h => ?_⟩
  refine fi σ0 H0 ρ0 O0 _ _ s0 h fun J H1 ρ1 O1 items a it hk => ?_
  have st1 : Stp X.K ios ρ0 σ0 H0 O0 ρ1 σ0 H1 O1 := a.stp
  refine ⟨fun n m σ H => m = items.length - n ∧ ∃ ρ O, Stp X.K ios ρ1 σ0 H1 O1 ρ σ H O ∧ forGo g w E (items.drop n) ρ, ⟨_, rfl, ρ1, O1, .refl a.sr, hk⟩, fun n m σ H ⟨em, ρ, O, st, h⟩ => ?_⟩
  have itn := it H O st.sr.own st.ext n
  cases e : items.drop n with
  | nil =>
    rw [e] at h
    refine .inl ⟨itn.2 (by simpa using e), ?_⟩
    exact r.nx _ _ _ _ (st1.trans st) h
  | cons d rst =>
    rw [e] at h
    have hd : items[n]? = some d := by
      have := congrArg (·[0]?) e
      simpa using this
    have hlt : n < items.length := (List.getElem?_eq_some_iff.mp hd).1
    have er : rst = items.drop (n + 1) := by
      have := congrArg List.tail e
      simpa using this.symm
    obtain ⟨go, yl⟩ := itn.1 d hd
    refine .inr ⟨go, fun σ' H' => ∃ ρ O, Stp X.K ios ρ1 σ0 H1 O1 ρ σ' H' O ∧ forGo g w E rst ρ, fun σ' H' ⟨ρ', O', t, q⟩ => ⟨items.length - (n + 1), by omega, rfl, ρ', O', t, by rw [← er]; exact q⟩, fun x H2 y => ?_⟩
    obtain ⟨e2, own2, rx⟩ := yl x H2 y
    have a2 := st.sr.ext0 e2 own2
    have nown : d.own = true → ∀ a, Pt x d a → ¬ Sl ρ σ a := fun e => by cases rx <;> cases e
    refine fg x d σ H2 ρ O _ _ a2.sr (.rep rx) nown h fun ρ3 σ3 s3 sl ot ln hk3 => ?_
    have st3 : Stp X.K ios ρ1 σ0 H1 O1 ρ3 σ3 H2 O := st.trans ((a2.stp (ios := ios)).trans ⟨s3, fun b u hu nb _ => ⟨hu, Iff.rfl, fun z => (sl.1 b z).elim nb fun ⟨z1, _⟩ => (by cases rx <;> cases z1)⟩, fun b u hu nb z => (sl.2 b z).elim nb fun ⟨z1, _⟩ => (by cases rx <;> cases z1), fun b u hu => ⟨u, hu⟩, fun j hj => ot j (hio j hj), .refl⟩)
    have r3 := r.step (st1.trans st3)
    exact fb σ3 H2 ρ3 O _ ⟨_, E.rt, E.nx, _, E.ex⟩ s3 ⟨fun ρ4 σ4 H4 O4 t4 q => ⟨ρ4, O4, st3.trans t4, q⟩, r3.nx, fun ρ4 σ4 H4 O4 t4 q => ⟨ρ4, O4, st3.trans t4, q⟩, r3.rt⟩ hk3
end
end Bx
namespace Bx
variable [TabC]
open PySem PySem.Spec PyProof.Rows L2
structure RoomG (k : Nat) (A : Around) : Prop where
  rm : Room k A
  gd : A.guards = some []
theorem RoomG.mono {j k : Nat} {A : Around} (r : RoomG k A) (h : j ≤ k) : RoomG j A := ⟨r.rm.mono h, r.gd⟩
theorem RoomG.deeper {k : Nat} {A : Around} (r : RoomG (k + 1) A) (env : Env) : RoomG k (A.deeper env) := ⟨r.rm.deeper env, r.gd⟩
theorem RoomG.in1 {k : Nat} {A : Around} (r : RoomG (k + 1) A) : RoomG k A.in1 := ⟨r.rm.in1, r.gd⟩
theorem RoomG.units {k : Nat} {A : Around} (r : RoomG k A) : A.units + 64 < cLine := r.rm.units
structure FnG (P : Program) (w : World) (K : PySem.W.Frag) (mg : Str → Option Value) (base : Heap) (k : Nat) (f : Addr) (fd : FuncData) (ps : List Str) (sp : Sp) : Prop where
  len : ∀ vs H Q E, sp vs H Q E → vs.length = ps.length
  run : ∀ (A : Around) (outer : List Env) (s : Shared) (H : Hp) (args : Args) (us : List Value) (vs : List V) (Q : VK) (E : XK), RoomG k A → Env0 P w K mg base A outer s H → BindsTo s fd args (ps.zip us) → Vals vs us → sp vs H Q E →
    codeAny (model P w) A (.call (.ref f) args) (CR CX0 outer P w H s Q E) s
section
variable {P : Program} {w : World} {K : PySem.W.Frag} {mg : Str → Option Value} {base : Heap}
theorem FnG.mono {j k : Nat} {f : Addr} {fd : FuncData} {ps : List Str} {sp : Sp} (F : FnG P w K mg base j f fd ps sp) (h : j ≤ k) : FnG P w K mg base k f fd ps sp :=
  ⟨F.len, fun A outer s H args us vs Q E hr => F.run A outer s H args us vs Q E (hr.mono h)⟩
theorem end_of {N : List Str} {qual : Str} {scope : Scope} {f : Addr} {cdv : Value} {A : Around} {outer : List Env} {s : Shared} {H : Hp} {E : XK} {Q : VK} {fl : Flow} {s' : Shared}
    (h : SP (cxOf CX0 P w K mg base N qual scope f cdv A outer s H E) [] { nx := fun _ H' => Q .non H', rt := Q } fl s') : ∃ u, (match fl with | .ret u => u | _ => Value.none) = u ∧ CE outer P w H s Q u s' ∧ (fl = .next ∨ fl = .ret u) := by
  cases fl with
  | brk => obtain ⟨_, _, _, q⟩ := h; exact q.elim
  | cont => obtain ⟨_, _, _, q⟩ := h; exact q.elim
  | next =>
    obtain ⟨σ', H', J, q⟩ := h
    exact ⟨_, rfl, ⟨.non, H', J.os, J.bare, J.base, J.hok, rfl, q⟩, .inl rfl⟩
  | ret u =>
    obtain ⟨v, σ', H', J, rv, q⟩ := h
    exact ⟨_, rfl, ⟨v, H', J.os, J.bare, J.base, J.hok, rv, q⟩, .inr rfl⟩
theorem fnG_of {x qual : Str} {st : Stmt} {f : Addr} {fd : FuncData} {N ps : List Str} {k : Nat} {sp : Sp} (F : Fun K x qual st f fd) (S : FnScope N ps (defScope st)) (len : ∀ vs H Q E, sp vs H Q E → vs.length = ps.length)
    (hb : ∀ (cdv : Value) (A : Around) (outer : List Env) (s : Shared) (H : Hp) (vs : List V) (Q : VK) (E : XK), RoomG k (A.deeper (envOfC qual (defScope st) s.heap.objs.size f cdv)) → sp vs H Q E →
      ∃ t, PSs (cxOf CX0 P w K mg base N qual (defScope st) f cdv A outer s H E).nox (defBody st) t ∧ t { nx := fun _ H' => Q .non H', rt := Q } (start N vs) H) : FnG P w K mg base (k + 1) f fd ps sp := by
  obtain ⟨oc, od, kV, doc, pm, an, cdv, ct, osl, rfl, lk, hcd⟩ := F.ex
  constructor
  · exact len
  intro A outer s H args us vs Q E hr e0 hbd rv hsp
  have heap0 : K.In s.heap := e0.mod.kin.keeps fun b o e => (e0.bs b o e).1
  obtain ⟨t, pt, ht⟩ := hb cdv A outer s H vs Q E (hr.deeper _) hsp
  refine codeAny_call_function hr.rm.depth (heap0 _ _ lk) rfl S.co S.gen rfl (PySem.W.codeRec_of heap0 hcd) (hbd _ _ _ _ (wpAny_newFunctionEnv_cells S.kind (fun z hz => ?_) fun env he s1 y => ?_))
  · obtain ⟨n, v⟩ := z
    rcases S.par n (List.of_mem_zip hz).1 with g | g
    · exact .inl g
    · exact .inr ⟨g, PySem.W.cellsFrom_some _ _ _ (.inl g)⟩
  · cases he
    refine ⟨(e0.mod.nolimit.keeps fun b o e => (e0.bs b o e).1).keeps y.toInCall.keep, codeAny_func (wpAny_mono (pt.nox.run [] s1 (start N vs) H _ (inv_start S hr.rm.hd e0 (len _ _ _ _ hsp) rv y) ht) (fun fl s' h => ?_) fun e s' h => h)⟩
    obtain ⟨u, eu, ce, hf⟩ := end_of h
    rcases hf with rfl | rfl
    · cases eu; exact ce
    · exact ce
end
section
variable {X : Cx} {k : Nat} {f : Addr} {fd : FuncData} {ps : List Str} {sp : Sp} {x : Str} {p pos : Pos} {e : Expr} {es : List Expr} {t : TA}
theorem run_fnG {pins : List (Addr × Obj)} {σ : L2.St} {H : Hp} {s : Shared} {Q : VK} {us : List Value} {vs : List V} (F : FnG X.prog X.w X.K X.mg X.base k f fd ps sp) (hr : RoomG k X.A) (hb : Binds X.K fd ps [])
    (I : Inv X pins σ H s) (r : Vals vs us) (h : sp vs H Q E0) : wpAny (model X.prog X.w) X.A (call (.ref f) us) (EP X pins σ Q) X.xe s := by
  have hl : (us ++ []).length = ps.length := by rw [List.append_nil, ← r.length]; exact F.len _ _ _ _ h
  have hb2 := hb s us I.kIn hl
  rw [List.append_nil] at hb2
  refine wpAny_call (codeAny_mono (F.run X.A X.stack s H ⟨us, []⟩ us vs Q E0 hr I.env0 hb2 r h) fun r s' hq => ?_)
  match r, hq with
  | .error _, hq => exact hq.elim
  | .ok (.ret _), hq => exact I.after hq
  | .ok .next, hq => exact hq.elim
  | .ok .brk, hq => exact hq.elim
  | .ok .cont, hq => exact hq.elim
theorem pe_callG (F : FnG X.prog X.w X.K X.mg X.base k f fd ps sp) (hr : RoomG k X.A) (hg : Gl X x) (hm : X.mg x = some (.ref f)) (hk : PySem.W.keepIn X.K (.ref f) = true) (hb : Binds X.K fd ps [])
    (ha : PA X (e :: es) t) (hdb : (x == ("__debug__" : Str)) = false := by decide) (he : starEach (e :: es) X.env = (false, eval e X.env) :: starEach es X.env := by rfl) (hpl : (backTo pos (starEach es X.env)).any (·.1) = false := by rfl) :
    PE X (.Call (.Name x p) (e :: es) [] pos) (tCall sp [] E0 t) :=
  ⟨fun pins s σ H Q I h => wpAny_Call_Name_kw (ld_glob I hg hm (PySem.W.callWith_K (h₀ := X.base) I.ok.mod.kin hk (thn (ha.run pos pins s σ H _ I h) fun us s1 ⟨vs, H1, I1, r, q⟩ => ⟨I1.kIn, run_fnG F hr hb I1 r (by simpa using q)⟩) he hpl) hdb)⟩
end
theorem end_call {P : Program} {w : World} {K : PySem.W.Frag} {mg mb : Str → Option Value} {k : Nat} {fa a : Addr} {fd : FuncData} {x : Str} {sp : Sp} {s₁ : Shared} {vs : List Value} {ns : List Int}
    (KX : K.In s₁.heap) (hns : s₁.heap.Ns mainGlobals mg) (hb : s₁.heap.Ns builtinsNs mb) (hbb : ∀ x : Str, x ≠ "__name__" → mb x = bootBuiltins x) (hlim : s₁.heap.NoLimit) (hg : s₁.gens = #[])
    (ha : s₁.heap.get? a = some { cls := .type "list", data := .seq vs.toArray }) (hi : IntsAre vs ns) (hl : ns.length ≤ sizeLine) (hr : Room k callerA)
    (F : ∀ base : Heap, K.In base → base.Ns mainGlobals mg → FnG P w K mg base k fa fd [x] sp) (hbind : ∀ (s : Shared) (u : Value), BindsTo s fd ⟨[u], []⟩ [(x, u)])
    (hsp : ∀ H : Hp, Only H → SqL K H a (ns.map V.int) → sp [.ref a] H (fun v _ => v = .bl true) E0) :
    codeAny (model P w) callerA (.call (.ref fa) ⟨[.ref a], []⟩) (fun r s' => r = .ok (.ret (.bool true)) ∧ OldK s₁.heap s'.heap ∧ s'.os = s₁.os ∧ AllBare s'.gens) s₁ := by
  have rv := vals_ints hi
  obtain ⟨oa, eo⟩ : ∃ o : Obj, o = { cls := .type "list", data := .seq vs.toArray } := ⟨_, rfl⟩
  obtain ⟨H, hH⟩ : ∃ H : Hp, ∀ b, H b = if b = a ∧ K.lookup a = none then some (.frz oa (.lst (ns.map V.int))) else none := ⟨fun b => if b = a ∧ K.lookup a = none then some (.frz oa (.lst (ns.map V.int))) else none, fun _ => rfl⟩
  have only : ∀ b u, H b = some u → b = a ∧ K.lookup a = none ∧ u = .frz oa (.lst (ns.map V.int)) := fun b u e => by
    rw [hH] at e
    split at e
    · rename_i c
      cases e
      exact ⟨c.1, c.2, rfl⟩
    · cases e
  have hOnly : Only H := fun b => by
    cases e : H b with
    | none => exact .inl rfl
    | some u => exact .inr ⟨_, _, by rw [(only b u e).2.2]⟩
  have free : ∀ {b : Addr} {o : Obj}, s₁.heap.get? b = some o → (∀ xs n, o.data ≠ .seq xs n) → H b = none := fun {b o} e d => by
    cases q : H b with
    | none => rfl
    | some u =>
      rw [(only b u q).1, ha] at e
      cases e
      exact absurd rfl (d _ _)
  have hNs : ∀ {b : Addr} {m : Str → Option Value}, s₁.heap.Ns b m → (hidT s₁.heap H).Ns b m := fun {b m} ⟨o, es, ep, e, d, r⟩ => ⟨o, es, ep, hidT_get e (free e fun _ _ z => by rw [d] at z; cases z), d, r⟩
  have hKb : K.In (hidT s₁.heap H) := fun b o e => hidT_get (KX b o e) (by
    cases q : H b with
    | none => rfl
    | some u =>
      obtain ⟨rfl, z, _⟩ := only b u q
      rw [z] at e; cases e)
  have hok : HOk P w H s₁.heap := fun b u e => by
    obtain ⟨rfl, _, rfl⟩ := only b u e
    subst eo
    exact ⟨ha, by rw [List.length_map]; exact hl, vs, _, rv, ha⟩
  have hsq : SqL K H a (ns.map V.int) := by
    cases hk : K.lookup a with
    | none => exact .inl (.inr ⟨oa, by rw [hH, if_pos ⟨rfl, hk⟩]⟩)
    | some o =>
      have e := KX a o hk
      rw [ha] at e
      cases e
      exact .inr ⟨_, vs.toArray, _, hk, rfl, rfl, rfl, by rw [List.size_toArray, hi.length]; exact hl, by simpa using rv⟩
  have hM : Mod K mg (hidT s₁.heap H) := ⟨hKb, hNs hns, ⟨mb, hNs hb, hbb⟩, let ⟨mc, h1, h2⟩ := hlim; ⟨mc, hNs h1, h2⟩⟩
  have e0 : Env0 P w K mg (hidT s₁.heap H) callerA [] s₁ H := ⟨rfl, hM, fun b o e => of_hidT e, Nat.le_of_eq (hidT_size _ _), trivial, fun b hb => absurd hb (List.not_mem_nil), hok, .of_eq hg⟩
  refine codeAny_mono ((F _ hKb (hNs hns)).run callerA [] s₁ H ⟨[.ref a], []⟩ [.ref a] [.ref a] _ _ ⟨hr, rfl⟩ e0 (hbind s₁ (.ref a)) (.cons rfl .nil) (hsp H hOnly hsq)) fun r s' h => ?_
  match r, h with
  | .error _, h => exact h.elim
  | .ok .next, h => exact h.elim
  | .ok .brk, h => exact h.elim
  | .ok .cont, h => exact h.elim
  | .ok (.ret u), h =>
    obtain ⟨v, H', os, bare, un, hok', r', q⟩ := h
    subst q
    cases (show u = Value.bool true from r')
    refine ⟨rfl, .of_keep fun b o e => ?_, os, bare⟩
    cases q : H b with
    | none => exact un.keep b o e q (List.not_mem_nil) (List.not_mem_nil)
    | some u =>
      obtain ⟨rfl, _, rfl⟩ := only b u q
      have e1 := (hok' b _ (un.frzs b _ _ q)).1
      have e2 := (hok b _ q).1
      rw [e] at e2; cases e2
      exact e1
theorem walk_G {l : PySem.W.OpenLaw} {n k : Nat} {q : Program} {loose : List Str} {XP : (Str → Option Value) → Heap → Prop} {YP : World → Heap → Prop} {d : DefRec} {K : Params → PySem.W.Frag} {sp : World → Sp} {x : Str}
    (hn : l.most = some n) (hn2 : n ≤ sizeLine) (hdf : d.params.defaults = []) (hr : Room k callerA) (hY : ∀ (w : World) (h : Heap), YP w h → (K w.params).In h)
    (F : ∀ (w : World) (mg : Str → Option Value) (fa : Addr) (h : Heap), (K w.params).In h → h.Ns mainGlobals mg → mg d.name = some (.ref fa) →
      ∃ fd : FuncData, (∀ (s : Shared) (u : Value), BindsTo s fd ⟨[u], []⟩ [(x, u)]) ∧ ∀ base : Heap, (K w.params).In base → base.Ns mainGlobals mg → FnG l.prog w (K w.params) mg base k fa fd [x] (sp w))
    (hsp : ∀ (w : World) (H : Hp) (a : Addr) (ns : List Int), ns.length ≤ n → Only H → SqL (K w.params) H a (ns.map V.int) → sp w [.ref a] H (fun v _ => v = .bl true) E0) :
    PySem.W.WalkO q loose XP YP l.row.toRowW d [] (fun f vs => PySem.call f vs) :=
  Att.attach_call hn hdf fun w s₀ s₁ mg mb fa o pm cd doc a vs ns G Y ho hd hcd hmg hobj hints hlen hg => by
    obtain ⟨fd, hb, hF⟩ := F w mg fa _ (hY w _ Y) G.T.g hmg
    exact end_call (hY w _ Y) G.T.g G.T.b G.T.builtins G.T.nolimit hg hobj hints (Nat.le_trans hlen hn2) hr hF hb fun H hO hS => hsp w H a ns hlen hO hS
end Bx
namespace Bx
variable [TabC]
open PySem PySem.Spec PyProof.Rows L2
abbrev PSpec := List D → (D → List D → Prop) → Prop
def outsOf : List Nat → Rho → Option (List D)
  | [], _ => some []
  | i :: r, ρ => match rget ρ i with
    | some (.lst o xs) => (outsOf r ρ).map (.lst o xs :: ·)
    | some (.obj o c xs) => (outsOf r ρ).map (.obj o c xs :: ·)
    | some (.ob2 c xs) => (outsOf r ρ).map (.ob2 c xs :: ·)
    | _ => none
def endsOf (ios : List Nat) (P : D → List D → Prop) : DEnds :=
  ⟨fun ρ => onSome (outsOf ios ρ) (P .non), fun d ρ => onSome (outsOf ios ρ) (P d), fun _ => False, fun _ => False, fun _ _ => False⟩
def initR (n : Nat) (ds : List D) : Rho := ds.map some ++ List.replicate (n - ds.length) none
def OutOk (K : PySem.W.Frag) (H : Hp) (S : Addr → Prop) (H' : Hp) (O' : Addr → Prop) (vs : List V) : List Nat → List D → Prop
  | [], [] => True
  | i :: r, e :: es => (∃ v, vs[i]? = some v ∧ Val K H' O' v e ∧ ∀ a ∈ e.bxs, H a = none ∨ S a) ∧ OutOk K H S H' O' vs r es
  | _, _ => False
def spD (K : PySem.W.Frag) (ios : List Nat) (W : PSpec) : Sp := fun vs H Q _ => ∃ (ds : List D) (O : Addr → Prop) (P : D → List D → Prop), Sr K (ds.map some) (vs.map some) H O ∧ (∀ k d, ds[k]? = some d → d.own = true → k ∈ ios) ∧ W ds P ∧
  ∀ v H' O' d outs, Ext (Sl (ds.map some) (vs.map some)) H O H' O' → Own H' O' → VOk K H H' O' v d → OutOk K H (Sl (ds.map some) (vs.map some)) H' O' vs ios outs → P d outs → Q v H'
theorem getmap {α β : Type} {f : α → β} {l : List α} {i : Nat} {b : β} (h : (l.map f)[i]? = some b) : ∃ a, l[i]? = some a ∧ f a = b := by
  rw [List.getElem?_map] at h
  exact Option.map_eq_some_iff.mp h
theorem init_get {n : Nat} {ds : List D} {i : Nat} {d : D} : (initR n ds)[i]? = some (some d) ↔ (ds.map some)[i]? = some (some d) := by
  unfold initR
  constructor
  · intro h
    by_cases hl : i < (ds.map some).length
    · rw [List.getElem?_append_left hl] at h; exact h
    · rw [List.getElem?_append_right (by omega), List.getElem?_replicate] at h
      split at h <;> cases h
  · intro h
    have hl := (List.getElem?_eq_some_iff.mp h).1
    rw [List.getElem?_append_left hl]; exact h
theorem start_get {N : List Str} {vs : List V} {i : Nat} {v : V} : (L2.start N vs)[i]? = some (some v) ↔ (vs.map some)[i]? = some (some v) := by
  unfold L2.start
  constructor
  · intro h
    by_cases hl : i < (vs.map some).length
    · rw [List.getElem?_append_left hl] at h; exact h
    · rw [List.getElem?_append_right (by omega), List.getElem?_replicate] at h
      split at h <;> cases h
  · intro h
    have hl := (List.getElem?_eq_some_iff.mp h).1
    rw [List.getElem?_append_left hl]; exact h
theorem init_sl {N : List Str} {vs : List V} {ds : List D} {a : Addr} : Sl (initR N.length ds) (L2.start N vs) a ↔ Sl (ds.map some) (vs.map some) a :=
  ⟨fun ⟨i, xs, w, h1, ho, h2, hp⟩ => ⟨i, xs, w, init_get.mp h1, ho, start_get.mp h2, hp⟩, fun ⟨i, xs, w, h1, ho, h2, hp⟩ => ⟨i, xs, w, init_get.mpr h1, ho, start_get.mpr h2, hp⟩⟩
theorem init_sr {K : PySem.W.Frag} {N : List Str} {vs : List V} {ds : List D} {H : Hp} {O : Addr → Prop} (s : Sr K (ds.map some) (vs.map some) H O) : Sr K (initR N.length ds) (L2.start N vs) H O := by
  have len : ds.length = vs.length := by have := s.len; simpa using this
  refine ⟨by unfold initR L2.start; simp [len], fun i d h => ?_, fun i j xs ys v w a h1 o1 h2 o2 h3 h4 => s.uniq i j xs ys v w a (init_get.mp h1) o1 (init_get.mp h2) o2 (start_get.mp h3) (start_get.mp h4), s.own, s.tab⟩
  obtain ⟨v, h1, h2⟩ := s.slot i d (init_get.mp h)
  exact ⟨v, start_get.mpr h1, h2⟩
theorem outs_ok {K : PySem.W.Frag} {vs : List V} {ρ : Rho} {σ σ0 : L2.St} {H0 H : Hp} {S O : Addr → Prop} (s : Sr K ρ σ H O) (hb : ∀ a, Sl ρ σ a → H0 a = none ∨ S a) (h0 : ∀ (i : Nat) (v : V), σ0[i]? = some (some v) → vs[i]? = some v) : ∀ {ios : List Nat} {outs : List D}, (∀ i ∈ ios, σ[i]? = σ0[i]?) → outsOf ios ρ = some outs → OutOk K H0 S H O vs ios outs
  | [], outs, _, h => by cases h; trivial
  | i :: r, outs, hs, h => by
    have one : ∀ e, rget ρ i = some e → ∃ v, vs[i]? = some v ∧ Val K H O v e ∧ ∀ a ∈ e.bxs, H0 a = none ∨ S a := fun e ee => by
      obtain ⟨v, h1, h2⟩ := s.slot i _ (rget_get ee)
      refine ⟨v, h0 i v (by rw [← hs i List.mem_cons_self]; exact h1), h2, fun a ha => hb a ⟨i, _, v, rget_get ee, ?_, h1, .inr ha⟩⟩
      cases e <;> first | rfl | cases ha
    unfold outsOf at h
    split at h
    · rename_i o xs e
      obtain ⟨l, e2, e3⟩ := Option.map_eq_some_iff.mp h
      subst e3
      exact ⟨one _ e, outs_ok s hb h0 (fun j hj => hs j (List.mem_cons_of_mem _ hj)) e2⟩
    · rename_i o c xs e
      obtain ⟨l, e2, e3⟩ := Option.map_eq_some_iff.mp h
      subst e3
      exact ⟨one _ e, outs_ok s hb h0 (fun j hj => hs j (List.mem_cons_of_mem _ hj)) e2⟩
    · rename_i c xs e
      obtain ⟨l, e2, e3⟩ := Option.map_eq_some_iff.mp h
      subst e3
      exact ⟨one _ e, outs_ok s hb h0 (fun j hj => hs j (List.mem_cons_of_mem _ hj)) e2⟩
    · cases h
theorem outs_lst {ρ : Rho} : ∀ {ios : List Nat} {outs : List D}, outsOf ios ρ = some outs → ∀ i ∈ ios, ∃ d, rget ρ i = some d
  | [], _, _, _, hi => by cases hi
  | i :: r, outs, h, j, hj => by
    have both : (∃ d, rget ρ i = some d) ∧ ∃ l, outsOf r ρ = some l := by
      unfold outsOf at h
      split at h
      · rename_i o xs e
        obtain ⟨l, e2, _⟩ := Option.map_eq_some_iff.mp h
        exact ⟨⟨_, e⟩, l, e2⟩
      · rename_i o c xs e
        obtain ⟨l, e2, _⟩ := Option.map_eq_some_iff.mp h
        exact ⟨⟨_, e⟩, l, e2⟩
      · rename_i c xs e
        obtain ⟨l, e2, _⟩ := Option.map_eq_some_iff.mp h
        exact ⟨⟨_, e⟩, l, e2⟩
      · cases h
    rcases List.mem_cons.mp hj with rfl | hj
    · exact both.1
    · obtain ⟨l, e2⟩ := both.2
      exact outs_lst e2 j hj
theorem Stp.olds {K : PySem.W.Frag} {ios : List Nat} {ρ ρ' : Rho} {σ σ' : L2.St} {H H' : Hp} {O O' : Addr → Prop} (st : Stp K ios ρ σ H O ρ' σ' H' O') (a : Addr) (z : Sl ρ' σ' a) : H a = none ∨ Sl ρ σ a := by
  cases hu : H a with
  | none => exact .inl rfl
  | some u =>
    refine .inr (Classical.byContradiction fun c => ?_)
    obtain ⟨_, u', g, w⟩ := st.sr.lsts a z
    refine (st.keep' a u hu c fun ps e => ?_).2.2 z
    subst e
    obtain ⟨ps', g'⟩ := st.tt.2 a ps hu
    rw [g'] at g; cases g; cases w
theorem fin_ok {K : PySem.W.Frag} {ios : List Nat} {N : List Str} {vs : List V} {ds : List D} {H : Hp} {O : Addr → Prop} {P : D → List D → Prop} {Q : VK} (hio : ∀ k d, ds[k]? = some d → d.own = true → k ∈ ios)
    (q : ∀ v H' O' d outs, Ext (Sl (ds.map some) (vs.map some)) H O H' O' → Own H' O' → VOk K H H' O' v d → OutOk K H (Sl (ds.map some) (vs.map some)) H' O' vs ios outs → P d outs → Q v H')
    (ρ : Rho) (σ : L2.St) (H' : Hp) (O' : Addr → Prop) (v : V) (d : D) (st : Stp K ios (initR N.length ds) (L2.start N vs) H O ρ σ H' O') (vo : Val K H' O' v d) (n : d.own = true → ∀ a, Pt v d a → ¬ Sl ρ σ a ∧ ∀ u, H a = some u → ∃ i, rget ρ i = none ∧ Sl0 (initR N.length ds) (L2.start N vs) (i, a)) (h : onSome (outsOf ios ρ) (P d)) : Q v H' := by
  have h0 : ∀ (i : Nat) (v : V), (L2.start N vs)[i]? = some (some v) → vs[i]? = some v := fun i v e => by
    obtain ⟨a, h1, h2⟩ := getmap (start_get.mp e)
    cases h2; exact h1
  obtain ⟨outs, eo, h⟩ := h.ex
  refine q v H' O' d outs (st.ext.mono fun a z => init_sl.mp z) st.sr.own ⟨vo, fun a e ea => ?_⟩ (outs_ok st.sr (fun a z => (st.olds a z).imp id init_sl.mp) h0 st.io eo) h
  obtain ⟨n1, n2⟩ := n e a ea
  cases hu : H a with
  | none => rfl
  | some u =>
    obtain ⟨i, ni, xs, w, h1, ho, h2, hp⟩ := n2 u hu
    have hi : i ∈ ios := by
      obtain ⟨d', g1, g2⟩ := getmap (init_get.mp h1)
      cases g2
      exact hio i xs g1 ho
    obtain ⟨d2, e2⟩ := outs_lst eo i hi
    rw [ni] at e2; cases e2
abbrev bX (P : Program) (w : World) (K : PySem.W.Frag) (mg : Str → Option Value) (base : Heap) (N : List Str) (qual : Str) (scope : Scope) (f : Addr) (cdv : Value) (A : Around) (outer : List Env) (s : Shared) (H : Hp) (E : XK) : Cx :=
  (cxOf CX0 P w K mg base N qual scope f cdv A outer s H E).nox
section
variable {P : Program} {w : World} {K : PySem.W.Frag} {mg : Str → Option Value} {base : Heap}
def bodyW (ios : List Nat) (n m : Nat) (b : DS) : PSpec := fun ds P => ds.length = m ∧ b (endsOf ios P) (initR n ds)
theorem fnD {x qual : Str} {st : Stmt} {f : Addr} {fd : FuncData} {N ps : List Str} {k : Nat} {ios : List Nat} {b : DS} {W : PSpec} (F : Fun K x qual st f fd) (S : FnScope N ps (defScope st))
    (hb : ∀ (cdv : Value) (A : Around) (outer : List Env) (s : Shared) (H : Hp) (E : XK), RoomG k (A.deeper (envOfC qual (defScope st) s.heap.objs.size f cdv)) → SSs (bX P w K mg base N qual (defScope st) f cdv A outer s H E) ios (defBody st) b)
    (hW : ∀ ds Q, W ds Q → bodyW ios N.length ps.length b ds Q) : FnG P w K mg base (k + 1) f fd ps (spD K ios W) := by
  refine fnG_of F S (fun vs H Q E h => ?_) (fun cdv A outer s H vs Q E hr h => ?_)
  · obtain ⟨ds, O, Pd, sr, _, h, _⟩ := h
    have l := (hW _ _ h).1
    have := sr.len
    simp at this
    omega
  · obtain ⟨ds, O, Pd, sr, hio, h, q⟩ := h
    obtain ⟨t, p, g⟩ := hb cdv A outer s H E hr
    refine ⟨t, p, ?_⟩
    have s0 := init_sr (N := N) sr
    have fin := fun ρ σ H' O' v d => fin_ok (N := N) hio q ρ σ H' O' v d
    refine g (L2.start N vs) H (initR N.length ds) O _ _ s0 ⟨fun ρ σ H' O' st h => ?_, fun _ _ _ _ _ z => False.elim z, fun _ _ _ _ _ z => False.elim z, fun ρ σ H' O' v d st vo n h => fin ρ σ H' O' v d st vo n h⟩ (hW _ _ h).2
    exact fin ρ σ H' O' .non .non st (.rep .non) (fun e => by cases e) h
end
section
variable {X : Cx} {e : Expr} {es : List Expr} {x : Str} {p pos : Pos} {k : Nat} {f : Addr} {fd : FuncData} {ps : List Str} {W : PSpec}
theorem sr_reps {K : PySem.W.Frag} {H : Hp} {O : Addr → Prop} {vs : List V} {ds : List D} (own : Own H O) (tab : TabsOk H) (r : Reps K H O vs ds) : Sr K (ds.map some) (vs.map some) H O ∧ ∀ a, ¬ Sl (ds.map some) (vs.map some) a := by
  have nol : ∀ (i : Nat) (d : D), (ds.map some)[i]? = some (some d) → d.own = false := fun i d h => by
    obtain ⟨d, h1, h2⟩ := getmap h
    cases h2
    obtain ⟨v, _, q⟩ := r.get h1
    exact q.nown
  refine ⟨⟨by simp [r.length], fun i d h => ?_, fun i j xs ys v w a h ho => (by rw [nol i xs h] at ho; cases ho), own, tab⟩, fun a ⟨i, xs, w, h, ho, _⟩ => (by rw [nol i xs h] at ho; cases ho)⟩
  obtain ⟨d', h1, h2⟩ := getmap h
  cases h2
  obtain ⟨v, hv, q⟩ := r.get h1
  exact ⟨v, by rw [List.getElem?_map, hv]; rfl, .rep q⟩
def kRet (k : D → Rho → Prop) (ρ : Rho) (d : D) (_ : List D) : Prop := k d ρ
def kCall (W : PSpec) (k : D → Rho → Prop) (ds : List D) (ρ : Rho) : Prop := W ds (kRet k ρ)
def dCall (W : PSpec) (w : DA) (k : D → Rho → Prop) (ρ : Rho) : Prop := w (kTake (kCall W k)) ρ
theorem call_ok {t : TA} {w : DA}
    (f : ∀ (σ : L2.St) (H : Hp) (ρ : Rho) (O : Addr → Prop) (k : List DOp → Rho → Prop) (R : List V → Hp → Prop), Sr X.K ρ σ H O → w k ρ →
    (∀ vs H' ρ' O' os, After X.K ρ σ H O ρ' H' O' → OOks X.K σ H H' O' vs os → vs.length = es.length → k os ρ' → R vs H') → t σ H R) :
    ∀ (σ : L2.St) (H : Hp) (ρ : Rho) (O : Addr → Prop) (k : D → Rho → Prop) (R : VK), Sr X.K ρ σ H O → dCall W w k ρ →
    (∀ v H' ρ' O' d, After X.K ρ σ H O ρ' H' O' → VOk X.K H H' O' v d → k d ρ' → R v H') → tCall (spD X.K [] W) [] E0 t σ H R := by
  intro σ H ρ O k R s hw q
  refine f σ H ρ O _ _ s hw fun vs H1 ρ1 O1 os a c _ hk => ?_
  obtain ⟨ds, ρ2, O2, l, a2, r, hk⟩ := take_ok s c (fun _ z => z) a hk
  obtain ⟨sr, nsl⟩ := sr_reps a2.sr.own a2.sr.tab r
  show spD X.K [] W (vs ++ []) H1 R E0
  rw [List.append_nil]
  refine ⟨ds, O2, _, sr, fun i xs h ho => ?_, hk, fun v H' O' d outs e own vo _ h => ?_⟩
  · obtain ⟨v, _, q⟩ := r.get h
    rw [q.nown] at ho; cases ho
  · have e0 : Ext no H1 O2 H' O' := e.mono fun b z => nsl b z
    exact q v H' ρ2 O' d (a2.trans (a2.sr.ext0 e0 own)) (vo.back a2.back) h
theorem se_call {w : DA} (F : FnG X.prog X.w X.K X.mg X.base k f fd ps (spD X.K [] W)) (hr : RoomG k X.A) (hg : Gl X x) (hm : X.mg x = some (.ref f)) (hk : PySem.W.keepIn X.K (.ref f) = true) (hb : Binds X.K fd ps [])
    (ha : SA X (e :: es) w) (hdb : (x == ("__debug__" : Str)) = false := by decide) (he : starEach (e :: es) X.env = (false, eval e X.env) :: starEach es X.env := by rfl) (hpl : (backTo pos (starEach es X.env)).any (·.1) = false := by rfl) :
    SE X (.Call (.Name x p) (e :: es) [] pos) (dCall W w) := by
  obtain ⟨t, pt, f⟩ := ha
  exact ⟨_, pe_callG F hr hg hm hk hb pt hdb he hpl, call_ok f⟩
def ownL (ρ : Rho) (i : Nat) : Option (List D) := match rget ρ i with
  | some (.lst true xs) => some xs
  | _ => none
theorem ownL_eq {ρ : Rho} {i : Nat} {xs : List D} (h : ownL ρ i = some xs) : rget ρ i = some (.lst true xs) := by
  unfold ownL at h
  split at h
  · rename_i ys e
    cases h; exact e
  · cases h
def tkIO (i : Nat) : Nat → List DOp → (List D → Rho → Prop) → Rho → Prop
  | 0, .s j :: r, k, ρ => j = i ∧ tkOps r (kTk .non k) ρ
  | n + 1, .s j :: r, k, ρ => match rget ρ j with
    | some d => tkIO i n r (kTk d.frz k) (rset ρ j (some d.frz))
    | none => False
  | n + 1, .d x :: r, k, ρ => tkIO i n r (kTk x.frz k) ρ
  | _, _, _, _ => False
def nb1 : D → Prop → Prop
  | .ob2 _ _, _ => False
  | _, p => p
theorem nb_lst {o : Bool} {xs : List D} {p : Prop} : nb1 (.lst o xs) p = p := rfl
theorem nb_obj {o : Bool} {c : List Str} {xs : List D} {p : Prop} : nb1 (.obj o c xs) p = p := rfl
theorem nb_of {d : D} {p : Prop} (h : nb1 d p) : d.bxs = [] ∧ p := by
  cases d <;> first | exact ⟨rfl, h⟩ | exact h.elim
def kRetIO (i : Nat) (k : D → Rho → Prop) (ρ : Rho) (d : D) (outs : List D) : Prop := match outs with
  | [e] => nb1 e (k d (rset ρ i (some e)))
  | _ => False
def kCallIO (n i : Nat) (W : PSpec) (k : D → Rho → Prop) (ds : List D) (ρ : Rho) : Prop := onSome (ownL ρ i) fun xs => W (ds.set n (.lst true xs)) (kRetIO i k ρ)
theorem tkOps_mono {k k' : List D → Rho → Prop} (h : ∀ ds ρ, k ds ρ → k' ds ρ) : ∀ {os : List DOp} {ρ : Rho}, tkOps os k ρ → tkOps os k' ρ := by
  intro os
  induction os generalizing k k' with
  | nil => intro ρ z; exact h _ _ z
  | cons o r ih =>
    intro ρ z
    cases o with
    | s j =>
      unfold tkOps at z ⊢
      cases e : rget ρ j with
      | none => rw [e] at z; exact z.elim
      | some d => rw [e] at z; exact ih (fun ds ρ' y => h _ _ y) z
    | d x => unfold tkOps at z ⊢; exact ih (fun ds ρ' y => h _ _ y) z
theorem tkIO_mono {i : Nat} {k k' : List D → Rho → Prop} (h : ∀ ds ρ, k ds ρ → k' ds ρ) : ∀ {n : Nat} {os : List DOp} {ρ : Rho}, tkIO i n os k ρ → tkIO i n os k' ρ := by
  intro n os
  induction os generalizing k k' n with
  | nil => intro ρ z; cases n <;> exact z
  | cons o r ih =>
    intro ρ z
    cases n with
    | zero =>
      cases o with
      | s j => exact ⟨z.1, tkOps_mono (fun ds ρ' y => h _ _ y) z.2⟩
      | d x => exact z.elim
    | succ n =>
      cases o with
      | s j =>
        unfold tkIO at z ⊢
        cases e : rget ρ j with
        | none => rw [e] at z; exact z.elim
        | some d => rw [e] at z; exact ih (fun ds ρ' y => h _ _ y) z
      | d x => unfold tkIO at z ⊢; exact ih (fun ds ρ' y => h _ _ y) z
def kTakeIO (n i : Nat) (k : List D → Rho → Prop) (os : List DOp) (ρ : Rho) : Prop := tkIO i n os k ρ
def dCallIO (n i : Nat) (W : PSpec) (w : DA) (k : D → Rho → Prop) (ρ : Rho) : Prop := w (kTakeIO n i (kCallIO n i W k)) ρ
inductive RepsBut (K : PySem.W.Frag) (σ : L2.St) (H : Hp) (O : Addr → Prop) (i : Nat) : Nat → List V → List D → Prop
  | here {v : V} {vs : List V} {d : D} {ds : List D} : σ[i]? = some (some v) → Reps K H O vs ds → RepsBut K σ H O i 0 (v :: vs) (d :: ds)
  | there {n : Nat} {v : V} {vs : List V} {d : D} {ds : List D} : Rep K H O v d → RepsBut K σ H O i n vs ds → RepsBut K σ H O i (n + 1) (v :: vs) (d :: ds)
theorem takeIO_ok {K : PySem.W.Frag} {ρ : Rho} {σ : L2.St} {H H1 : Hp} {O O1 : Addr → Prop} {i : Nat} (s : Sr K ρ σ H O) : ∀ {n : Nat} {os : List DOp} {vs : List V} {ρ2 : Rho} {O2 : Addr → Prop} {k : List D → Rho → Prop}, OOks K σ H H1 O1 vs os → (∀ a, O2 a → O1 a) → After K ρ σ H O ρ2 H1 O2 → tkIO i n os k ρ2 →
    ∃ ds ρ3 O3, (∀ a, O3 a → O2 a) ∧ After K ρ σ H O ρ3 H1 O3 ∧ RepsBut K σ H1 O3 i n vs ds ∧ k ds ρ3
  | 0, .s j :: r, _, ρ2, O2, k, .cons q t, l, a, h => by
    obtain ⟨ej, h⟩ := h
    subst ej
    obtain ⟨ds, ρ4, O4, l4, a4, r4, h4⟩ := take_ok s t l a h
    exact ⟨_, ρ4, O4, l4, a4, .here q r4, h4⟩
  | n + 1, .s j :: r, _, ρ2, O2, k, .cons q t, l, a, h => by
    unfold tkIO at h
    cases e : rget ρ2 j with
    | none => rw [e] at h; exact h.elim
    | some d =>
      rw [e] at h
      obtain ⟨O3, l3, a3, v, h1, rv⟩ := After.freeze_slot s a e
      have q : σ[j]? = some (some _) := q
      rw [q] at h1; cases h1
      obtain ⟨ds, ρ4, O4, l4, a4, r4, h4⟩ := takeIO_ok s t (fun b z => l b (l3 b z)) a3 h
      exact ⟨_, ρ4, O4, fun b z => l3 b (l4 b z), a4, .there (rv.less l4) r4, h4⟩
  | n + 1, .d x :: r, _, ρ2, O2, k, .cons q t, l, a, h => by
    unfold tkIO at h
    obtain ⟨O3, l3, a3, rv⟩ := After.freeze_val s a (O2 := O1) q l
    obtain ⟨ds, ρ4, O4, l4, a4, r4, h4⟩ := takeIO_ok s t (fun b z => l b (l3 b z)) a3 h
    exact ⟨_, ρ4, O4, fun b z => l3 b (l4 b z), a4, .there (rv.less l4) r4, h4⟩
  | 0, .d x :: r, _, _, _, _, _, _, _, h => h.elim
  | _, [], _, _, _, _, _, _, _, h => by cases ‹Nat› <;> exact h.elim
theorem RepsBut.len {K : PySem.W.Frag} {σ : L2.St} {H : Hp} {O : Addr → Prop} {i : Nat} : ∀ {n : Nat} {vs : List V} {ds : List D}, RepsBut K σ H O i n vs ds → vs.length = ds.length ∧ n < vs.length
  | _, _, _, .here _ r => by simp [r.length]
  | _, _, _, .there _ r => by have := RepsBut.len r; simp; omega
theorem RepsBut.at {K : PySem.W.Frag} {σ : L2.St} {H : Hp} {O : Addr → Prop} {i : Nat} : ∀ {n : Nat} {vs : List V} {ds : List D}, RepsBut K σ H O i n vs ds → ∃ v, vs[n]? = some v ∧ σ[i]? = some (some v)
  | _, _, _, .here h _ => ⟨_, rfl, h⟩
  | _, _, _, .there _ r => by obtain ⟨v, h1, h2⟩ := RepsBut.at r; exact ⟨v, by simpa using h1, h2⟩
theorem RepsBut.get {K : PySem.W.Frag} {σ : L2.St} {H : Hp} {O : Addr → Prop} {i : Nat} : ∀ {n : Nat} {vs : List V} {ds : List D} {j : Nat} {d : D}, RepsBut K σ H O i n vs ds → j ≠ n → ds[j]? = some d → ∃ v, vs[j]? = some v ∧ Rep K H O v d
  | _, _, _, 0, _, .here _ _, h, _ => absurd rfl h
  | _, _, _, j + 1, d, .here _ r, _, e => by obtain ⟨v, h1, h2⟩ := r.get (i := j) (d := d) (by simpa using e); exact ⟨v, by simpa using h1, h2⟩
  | _, _, _, 0, d, .there q _, _, e => by simp at e; subst e; exact ⟨_, rfl, q⟩
  | _, _, _, j + 1, d, .there _ r, h, e => by obtain ⟨v, h1, h2⟩ := RepsBut.get (j := j) (d := d) r (by omega) (by simpa using e); exact ⟨v, by simpa using h1, h2⟩
theorem callIO_core {n i : Nat} {σ : L2.St} {H H1 : Hp} {ρ ρ1 : Rho} {O O1 : Addr → Prop} {k : D → Rho → Prop} {kR : D → Rho → D → List D → Prop} {R : VK} {vs : List V} {os : List DOp} {own1 : Rho → Option D} (h1 : ∀ ρ y, own1 ρ = some y → rget ρ i = some y ∧ y.own = true)
    (hR : ∀ y ρ d outs, kR y ρ d outs → ∃ e, outs = [e] ∧ (∀ a ∈ e.bxs, a ∈ y.bxs) ∧ k d (rset ρ i (some e)))
    (s : Sr X.K ρ σ H O) (q : ∀ v H' ρ' O' d, After X.K ρ σ H O ρ' H' O' → VOk X.K H H' O' v d → k d ρ' → R v H')
    (a : After X.K ρ σ H O ρ1 H1 O1) (c : OOks X.K σ H H1 O1 vs os) (hk : tkIO i n os (fun ds ρ => onSome (own1 ρ) fun y => W (ds.set n y) (kR y ρ)) ρ1) : spD X.K [n] W vs H1 R E0 := by
  obtain ⟨ds, ρ2, O2, l, a2, r, hk⟩ := takeIO_ok s c (fun _ z => z) a hk
  obtain ⟨y, eo, hk⟩ := onSome.ex hk
  obtain ⟨eo, oy⟩ := h1 _ _ eo
  obtain ⟨v0, hv0, hs0⟩ := r.at
  obtain ⟨vx, g1, g2⟩ := a2.sr.slot i _ (rget_get eo)
  rw [hs0] at g1; cases g1
  obtain ⟨len, hn⟩ := r.len
  cases g2 with
  | rep r => rw [r.nown] at oy; cases oy
  | @own b u _ o hb rb =>
  have only : ∀ (j : Nat) (z : D), ((ds.set n y).map some)[j]? = some (some z) → z.own = true → j = n := fun j z h ho => by
    obtain ⟨d, h1, h2⟩ := getmap h
    cases h2
    by_cases e : j = n
    · exact e
    · rw [List.getElem?_set_ne (Ne.symm e)] at h1
      obtain ⟨v, _, q⟩ := r.get e h1
      rw [q.nown] at ho; cases ho
  have hvn : (vs.map some)[n]? = some (some (V.ref b)) := by rw [List.getElem?_map, hv0]; rfl
  have sl : ∀ c, Sl ((ds.set n y).map some) (vs.map some) c → Pt (.ref b) y c := fun c ⟨j, z, w, h1, ho, h2, hp⟩ => by
    have e := only j z h1 ho
    subst e
    rw [hvn] at h2
    cases h2
    obtain ⟨d', g1, g2⟩ := getmap h1
    cases g2
    rw [List.getElem?_set_self (by omega)] at g1
    cases g1
    exact hp
  have sr : Sr X.K ((ds.set n y).map some) (vs.map some) H1 O2 := by
    refine ⟨by simp [len], fun j d h => ?_, fun j1 j2 xs1 ys1 w1 w2 c h1 q1 h2 q2 _ _ _ _ => (only j1 xs1 h1 q1).trans (only j2 ys1 h2 q2).symm, a2.sr.own, a2.sr.tab⟩
    by_cases e : j = n
    · subst e
      obtain ⟨d', h1, h2⟩ := getmap h
      cases h2
      rw [List.getElem?_set_self (by omega)] at h1
      cases h1
      exact ⟨_, hvn, .own o hb rb⟩
    · obtain ⟨d', h1, h2⟩ := getmap h
      cases h2
      rw [List.getElem?_set_ne (Ne.symm e)] at h1
      obtain ⟨v, hv, q⟩ := r.get e h1
      exact ⟨v, by rw [List.getElem?_map, hv]; rfl, .rep q⟩
  refine ⟨_, O2, _, sr, fun j ys h ho => ?_, hk, fun v H' O' d outs e own vo out h => ?_⟩
  · have := only j ys (by rw [List.getElem?_map, h]; rfl) ho
    simp [this]
  · obtain ⟨eo', rfl, hbx, h⟩ := hR _ _ _ _ h
    obtain ⟨⟨v', h1, h2, _⟩, _⟩ := out
    rw [hv0] at h1; cases h1
    have inb : ∀ c, Pt (.ref b) y c → Sl ρ2 σ c := fun c z => ⟨i, _, _, rget_get eo, oy, hs0, z⟩
    have e1 : Ext (Pt (.ref b) y) H1 O2 H' O' := e.mono sl
    have L1 : Lsts H1 O2 (Pt (.ref b) y) := fun c z => a2.sr.lsts c (inb c z)
    have up : ∀ c, Pt (.ref b) eo' c → Pt (.ref b) y c := fun c z => z.imp id (hbx c)
    have a3 : After X.K ρ2 σ H1 O2 (rset ρ2 i (some eo')) H' O' := by
      refine ⟨⟨by rw [rset_len]; exact a2.sr.len, fun j d' z => ?_, fun j1 j2 xs1 ys1 w1 w2 c z1 q1 z2 q2 z3 z4 z5 z6 => ?_, own, e1.tt.1 a2.sr.tab⟩, e1.mono fun c z => inb c z, fun c ⟨j, ys, w, z1, zo, z2, zp⟩ => ?_, fun ⟨j, c⟩ ⟨ys, w, z1, zo, z2, zp⟩ => ?_⟩
      · rcases get_rset z with ⟨ej, ez, _⟩ | ⟨nj, z⟩
        · subst ej; cases ez
          exact ⟨_, hs0, h2⟩
        · obtain ⟨u, y1, y2⟩ := a2.sr.slot j d' z
          refine ⟨u, y1, ?_⟩
          cases y2 with
          | rep r => exact .rep (r.ext e1 L1)
          | @own c ws' ys o' hc rc =>
            have nc : ∀ p, Pt (.ref c) d' p → ¬ Pt (.ref b) y p := fun p zp z' => nj (a2.sr.uniq j i _ _ _ _ _ z rc.o (rget_get eo) oy y1 hs0 zp z')
            obtain ⟨k1, k2⟩ := e1.keep c _ hc (nc c (.inl rfl)) rc.h.nt
            exact .own (k2.mpr o') k1 (rc.ext e1 L1 fun p hp => nc p (.inr hp))
      · rcases get_rset z1 with ⟨e1', ez1, _⟩ | ⟨n1, y1⟩
        · rcases get_rset z2 with ⟨e2', _, _⟩ | ⟨n2, y2⟩
          · rw [e1', e2']
          · rw [e1', hs0] at z3; cases z3
            cases ez1
            exact absurd (a2.sr.uniq j2 i _ _ _ _ _ y2 q2 (rget_get eo) oy z4 hs0 z6 (up c z5)) n2
        · rcases get_rset z2 with ⟨e2', ez2, _⟩ | ⟨n2, y2⟩
          · rw [e2', hs0] at z4; cases z4
            cases ez2
            exact absurd (a2.sr.uniq j1 i _ _ _ _ _ y1 q1 (rget_get eo) oy z3 hs0 z5 (up c z6)) n1
          · exact a2.sr.uniq j1 j2 xs1 ys1 w1 w2 c y1 q1 y2 q2 z3 z4 z5 z6
      · rcases get_rset z1 with ⟨ej, ez, _⟩ | ⟨nj, z1⟩
        · subst ej
          rw [hs0] at z2; cases z2; cases ez
          exact inb c (up c zp)
        · exact ⟨j, ys, w, z1, zo, z2, zp⟩
      · rcases get_rset z1 with ⟨ej, ez, _⟩ | ⟨nj, z1⟩
        · subst ej
          rw [hs0] at z2; cases z2; cases ez
          exact ⟨_, _, rget_get eo, oy, hs0, up _ zp⟩
        · exact ⟨ys, w, z1, zo, z2, zp⟩
    exact q v H' _ O' d (a2.trans a3) (vo.back a2.back) h
theorem retIO_bx {i : Nat} {k : D → Rho → Prop} (y : D) (ρ : Rho) (d : D) (outs : List D) (h : kRetIO i k ρ d outs) : ∃ e, outs = [e] ∧ (∀ a ∈ e.bxs, a ∈ y.bxs) ∧ k d (rset ρ i (some e)) := by
  unfold kRetIO at h
  split at h
  · obtain ⟨h1, h2⟩ := nb_of h
    exact ⟨_, rfl, fun a ha => (by rw [h1] at ha; cases ha), h2⟩
  · exact h.elim
theorem callIO_ok {t : TA} {w : DA} {n i : Nat}
    (f : ∀ (σ : L2.St) (H : Hp) (ρ : Rho) (O : Addr → Prop) (k : List DOp → Rho → Prop) (R : List V → Hp → Prop), Sr X.K ρ σ H O → w k ρ →
    (∀ vs H' ρ' O' os, After X.K ρ σ H O ρ' H' O' → OOks X.K σ H H' O' vs os → vs.length = es.length → k os ρ' → R vs H') → t σ H R) :
    ∀ (σ : L2.St) (H : Hp) (ρ : Rho) (O : Addr → Prop) (k : D → Rho → Prop) (R : VK), Sr X.K ρ σ H O → dCallIO n i W w k ρ →
    (∀ v H' ρ' O' d, After X.K ρ σ H O ρ' H' O' → VOk X.K H H' O' v d → k d ρ' → R v H') → tCall (spD X.K [n] W) [] E0 t σ H R := by
  intro σ H ρ O k R s hw q
  refine f σ H ρ O _ _ s hw fun vs H1 ρ1 O1 os a c _ hk => ?_
  show spD X.K [n] W (vs ++ []) H1 R E0
  rw [List.append_nil]
  refine callIO_core (kR := fun _ => kRetIO i k) (own1 := fun ρ => (ownL ρ i).map (D.lst true)) (fun ρ y h => ?_) retIO_bx s q a c (tkIO_mono (fun ds ρ h => ?_) hk)
  · obtain ⟨xs, e1, rfl⟩ := Option.map_eq_some_iff.mp h
    exact ⟨ownL_eq e1, rfl⟩
  · obtain ⟨xs, e1, h⟩ := onSome.ex (show onSome (ownL ρ i) (fun xs => W (ds.set n (.lst true xs)) (kRetIO i k ρ)) from h)
    simp only [e1, Option.map_some]
    exact h
theorem se_callIO {w : DA} {n i : Nat} (F : FnG X.prog X.w X.K X.mg X.base k f fd ps (spD X.K [n] W)) (hr : RoomG k X.A) (hg : Gl X x) (hm : X.mg x = some (.ref f)) (hk : PySem.W.keepIn X.K (.ref f) = true) (hb : Binds X.K fd ps [])
    (ha : SA X (e :: es) w) (hdb : (x == ("__debug__" : Str)) = false := by decide) (he : starEach (e :: es) X.env = (false, eval e X.env) :: starEach es X.env := by rfl) (hpl : (backTo pos (starEach es X.env)).any (·.1) = false := by rfl) :
    SE X (.Call (.Name x p) (e :: es) [] pos) (dCallIO n i W w) := by
  obtain ⟨t, pt, f⟩ := ha
  exact ⟨_, pe_callG F hr hg hm hk hb pt hdb he hpl, callIO_ok f⟩
end
theorem mutU {K : PySem.W.Frag} {ρ : Rho} {σ : L2.St} {H : Hp} {O : Addr → Prop} {i : Nat} {a : Addr} {x y : D} {u : HO} (s : Sr K ρ σ H O) (h : rget ρ i = some x) (hx : x.own = true) (hs : σ[i]? = some (some (.ref a))) (hxy : y.bxs = x.bxs := by rfl)
    (r : ∀ H' O', Ext (fun c => c = a) H O H' O' → (Lsts H O fun c => c = a) → OwR K H' O' u y) :
    After K ρ σ H O (rset ρ i (some y)) (upd H a u) O := by
  have ina : Sl ρ σ a := ⟨i, x, _, rget_get h, hx, hs, .inl rfl⟩
  obtain ⟨oa, u0, ha, hu0⟩ := s.lsts a ina
  have e1 : Ext (fun c => c = a) H O (upd H a u) O := ⟨fun c u hc n _ => ⟨by rw [upd_ne n]; exact hc, Iff.rfl⟩, fun c u hc => by
    by_cases e : c = a
    · subst e; exact ⟨_, upd_same⟩
    · exact ⟨u, by rw [upd_ne e]; exact hc⟩, .own ha hu0⟩
  have L1 : Lsts H O fun c => c = a := fun c z => by subst z; exact ⟨oa, _, ha, hu0⟩
  have r1 := r _ _ e1 L1
  have up : ∀ c, Pt (.ref a) y c → Pt (.ref a) x c := fun c z => z.imp id fun z => by rw [hxy] at z; exact z
  refine ⟨⟨by rw [rset_len]; exact s.len, fun j d q => ?_, fun j1 j2 xs1 ys1 w1 w2 c z1 q1 z2 q2 z3 z4 z5 z6 => ?_, fun c z => ?_, e1.tt.1 s.tab⟩, e1.mono fun c z => by subst z; exact ina, fun c ⟨j, zs, w, z1, zo, z2, zp⟩ => ?_, fun ⟨j, c⟩ ⟨zs, w, z1, zo, z2, zp⟩ => ?_⟩
  · rcases get_rset q with ⟨ej, ez, _⟩ | ⟨nj, q⟩
    · subst ej; cases ez
      exact ⟨_, hs, .own oa upd_same r1⟩
    · obtain ⟨u, y1, y2⟩ := s.slot j d q
      refine ⟨u, y1, ?_⟩
      cases y2 with
      | rep r => exact .rep (r.ext e1 L1)
      | @own c ws' zs o' hc rc =>
        have nc : ∀ p, Pt (.ref c) d p → p ≠ a := fun p zp z' => nj (s.uniq j i _ _ _ _ p q rc.o (rget_get h) hx y1 hs zp (.inl (by rw [z'])))
        exact .own o' (by rw [upd_ne (nc c (.inl rfl))]; exact hc) (rc.ext e1 L1 fun p hp => nc p (.inr hp))
  · rcases get_rset z1 with ⟨e1', ez, _⟩ | ⟨n1, y1⟩
    · rcases get_rset z2 with ⟨e2', _, _⟩ | ⟨n2, y2⟩
      · rw [e1', e2']
      · rw [e1', hs] at z3; cases z3; cases ez
        exact absurd (s.uniq j2 i _ _ _ _ _ y2 q2 (rget_get h) hx z4 hs z6 (up c z5)) n2
    · rcases get_rset z2 with ⟨e2', ez, _⟩ | ⟨n2, y2⟩
      · rw [e2', hs] at z4; cases z4; cases ez
        exact absurd (s.uniq j1 i _ _ _ _ _ y1 q1 (rget_get h) hx z3 hs z5 (up c z6)) n1
      · exact s.uniq j1 j2 xs1 ys1 w1 w2 c y1 q1 y2 q2 z3 z4 z5 z6
  · by_cases e : c = a
    · subst e; exact ⟨_, upd_same, r1.h⟩
    · obtain ⟨vs, q, w⟩ := s.own c z
      exact ⟨vs, by rw [upd_ne e]; exact q, w⟩
  · rcases get_rset z1 with ⟨ej, ez, _⟩ | ⟨_, z1⟩
    · subst ej
      rw [hs] at z2; cases z2; cases ez
      exact ⟨_, x, _, rget_get h, hx, hs, up c zp⟩
    · exact ⟨j, zs, w, z1, zo, z2, zp⟩
  · rcases get_rset z1 with ⟨ej, ez, _⟩ | ⟨_, z1⟩
    · subst ej
      rw [hs] at z2; cases z2; cases ez
      exact ⟨x, _, rget_get h, hx, hs, up c zp⟩
    · exact ⟨zs, w, z1, zo, z2, zp⟩
theorem mut_slot {K : PySem.W.Frag} {ρ : Rho} {σ : L2.St} {H : Hp} {O : Addr → Prop} {i : Nat} {a : Addr} {xs ys : List D} {ws : List V} (s : Sr K ρ σ H O) (h : rget ρ i = some (.lst true xs)) (hs : σ[i]? = some (some (.ref a))) (r : Reps K H O ws ys) :
    After K ρ σ H O (rset ρ i (some (.lst true ys))) (upd H a (.lst ws)) O := mutU s h rfl hs (r := fun _ _ e L => .lst (r.ext e L))
section
variable {X : Cx} {e o : Expr} {es : List Expr} {x : Str} {p pos apos cpos : Pos}
theorem slot_own {K : PySem.W.Frag} {ρ : Rho} {σ : L2.St} {H : Hp} {O : Addr → Prop} {i : Nat} {xs : List D} (s : Sr K ρ σ H O) (h : ownL ρ i = some xs) : ∃ a vs, σ[i]? = some (some (.ref a)) ∧ H a = some (.lst vs) ∧ Reps K H O vs xs := by
  obtain ⟨v, h1, h2⟩ := s.slot i _ (rget_get (ownL_eq h))
  cases h2 with
  | rep r => cases r
  | own _ h r => obtain ⟨vs, rfl, q⟩ := r.lst_of; exact ⟨_, _, h1, h, q⟩
def kApp (i : Nat) (k : D → Rho → Prop) (d : D) (ρ : Rho) : Prop := onSome (ownL ρ i) fun xs => xs.length < sizeLine ∧ k .non (rset ρ i (some (.lst true (xs ++ [d.frz]))))
def dApp (i : Nat) (w : DE) (k : D → Rho → Prop) (ρ : Rho) : Prop := onSome (ownL ρ i) fun _ => w (kApp i k) ρ
theorem se_append {i : Nat} {w : DE} (hv : PE X o (tVar i)) (h : SE X e w) (hbase : attributeBase o "append" X.env (eval o X.env) = eval o X.env := by rfl)
    (hfew : ((backTo cpos (starEach [e] X.env)).all (fun x => !x.1) && (backToKw cpos (keywordEach [] X.env)).all (fun x => x.1.isSome)
      && decide (([e] : List Expr).length + ([] : List Keyword).length + (if ([] : List Keyword).isEmpty then 0 else 1) < 30)) = true := by rfl)
    (hline : (apos.endLine == cpos.line) = true := by rfl) (hs : starEach [e] X.env = (false, eval e X.env) :: starEach [] X.env := by rfl) :
    SE X (.Call (.Attribute o "append" apos) [e] [] cpos) (dApp i w) := by
  obtain ⟨t, pe, f⟩ := h
  refine ⟨_, pe_bm PySem.F.plainAttrs_list PySem.F.slot_list_append PySem.F.type_list_append mt_append hv (pa_cons pe pa_nil hs) hbase hfew hline hs rfl, fun σ H ρ O k R s hw q => ?_⟩
  obtain ⟨xs, ex, hw⟩ := onSome.ex hw
  obtain ⟨a, vs, hs1, ha, r⟩ := slot_own s ex
  refine ⟨.ref a, hs1, .inl ⟨rfl, _, .of ha⟩, f σ H ρ O _ _ s hw fun v H1 ρ1 O1 d a1 vo hk => ?_⟩
  obtain ⟨ys, ey, hk⟩ := onSome.ex hk
  obtain ⟨O2, l2, a2, rv⟩ := After.freeze_val s a1 vo fun _ z => z
  obtain ⟨a', ws, hs2, ha2, r2⟩ := slot_own a2.sr ey
  rw [hs1] at hs2; cases hs2
  refine ⟨a, ws, v, rfl, rfl, ha2, by rw [r2.length]; exact hk.1, ?_⟩
  have m := mut_slot a2.sr (ownL_eq ey) hs1 (r2.append (.cons rv .nil))
  exact q _ _ _ _ _ (a2.trans m) (.rep .non) hk.2
def dPop (i : Nat) (k : D → Rho → Prop) (ρ : Rho) : Prop := onSome (ownL ρ i) fun xs => onSome xs.getLast? fun d => k d (rset ρ i (some (.lst true xs.dropLast)))
theorem Reps.dropLast {K : PySem.W.Frag} {H : Hp} {O : Addr → Prop} {vs : List V} {ds : List D} (h : Reps K H O vs ds) : Reps K H O vs.dropLast ds.dropLast := by
  rw [List.dropLast_eq_take, List.dropLast_eq_take, h.length]
  exact h.take _
variable {ios : List Nat}
def kSub2 (i : Nat) (d : D) (nx : Rho → Prop) (y : DOp) (ρ : Rho) : Prop := onSome (rd ρ y) fun dy => onSome (ownL ρ i) fun xs => match dy with
  | .int j => onSome (ixN xs.length j) fun n => nx (rset ρ i (some (.lst true (xs.set n d.frz))))
  | _ => False
def kSub1 (i : Nat) (b : DO) (nx : Rho → Prop) (d : D) (ρ : Rho) : Prop := onSome (ownL ρ i) fun _ => b (kSub2 i d nx) ρ
def dSub (i : Nat) (w : DE) (b : DO) (E : DEnds) (ρ : Rho) : Prop := w (kSub1 i b E.nx) ρ
theorem ss_sub {i : Nat} {w : DE} {b : DO} {ix : Expr} {spos : Pos} (hv : PE X o (tVar i)) (h : SE X e w) (hb : SO X ix b) (hs : swapsWithSole [.Subscript o ix spos] e pos.line X.env = pure false := by rfl) (hw : swappedStores [.Subscript o ix spos] e X.env = pure none := by rfl)
    (h1 : (assignEach [.Subscript o ix spos] X.env).map (·.2) = [assign (.Subscript o ix spos) X.env] := by rfl)
    (ha : ∀ v, assign (.Subscript o ix spos) X.env v = (do
      let ov ← holding [v] (eval o X.env)
      let iv ← holding [v, ov] (eval ix X.env)
      standAt spos
      holding [v, ov, iv] (setItem ov iv v)
      release [v, ov, iv] []) := by intro _; rfl) : SS X ios (.Assign [.Subscript o ix spos] e pos) (dSub i w b) := by
  obtain ⟨t, p, f⟩ := h
  obtain ⟨t2, p2, f2⟩ := hb
  refine ⟨_, ps_asg p (pg_sub hv p2 set_list ha) hs hw h1, fun σ H ρ O D E s r h => ?_⟩
  refine f σ H ρ O _ _ s h fun v H1 ρ1 O1 d a1 vo hk => ?_
  obtain ⟨xs0, ex0, hk⟩ := onSome.ex hk
  obtain ⟨a0, vs0, hs1, _, _⟩ := slot_own a1.sr ex0
  refine ⟨.ref a0, hs1, f2 σ H1 ρ1 O1 _ _ a1.sr hk fun y H2 ρ2 O2 oy a2 c2 h2 => ?_⟩
  obtain ⟨dy, ey, h2⟩ := onSome.ex h2
  obtain ⟨xs, ex, h2⟩ := onSome.ex h2
  have a12 := a1.trans a2
  cases dy <;> try exact False.elim h2
  obtain ⟨n, en, h2⟩ := onSome.ex h2
  have vy := (c2.val a2.sr ey).int
  obtain ⟨O3, l3, a3, rv⟩ := After.freeze_val s a12 (vo.then s a1 a2) fun _ z => z
  obtain ⟨a', ws, hs2, ha2, r2⟩ := slot_own a3.sr ex
  rw [hs1] at hs2; cases hs2
  refine ⟨a0, ws, _, n, rfl, vy, ha2, by rw [r2.length]; exact en, ?_⟩
  have m := mut_slot a3.sr (ownL_eq ex) hs1 (r2.set rv n)
  exact r.nx _ _ _ _ (a3.trans m).stp h2
end
end Bx
namespace PySem.W
open PySem PySem.Calls PySem.NumText PyProof.Rows
namespace KIN
set_option maxHeartbeats 1000000 in
theorem wp_text2 {M : Model} {A : Around} {E : Value → Shared → Prop} {s : Shared} {Q : Value → Shared → Prop} {v : Value} {text : List Nat} {n : Int} (hd : s.heap.NoDigits)
    (hs : ¬ (text.takeWhile (· != 0)).length ≤ 640) (hr : (int_private% "readNumeral") 4300 10 (text.takeWhile (· != 0)) = (int_private% "Numeral.value") n)
    (ha : ((text.takeWhile (· != 0)).length == text.length) = true) (h : Q (.int n s.toks) { s with toks := s.toks + 1 }) :
    wpAny M A ((int_private% "intFromText") v text 10) Q E s := by
  obtain ⟨mc, hns, hnone⟩ := hd
  obtain ⟨hp, g, d, tk, os⟩ := s
  have lim : ∀ (A : Around) (Q : Nat → Shared → Prop) (E : Value → Shared → Prop) (s : Shared), s.heap = hp → Q 4300 s → wpAny M A PySem.Builtin.intMaxStrDigits Q E s := by
    intro A Q E s e q
    unfold PySem.Builtin.intMaxStrDigits
    refine wpAny_bind (wpAny_nsGet (by rw [e]; exact hns) ?_)
    rw [hnone]
    exact wpAny_pure q
  repeat (any_goals (first
    | assumption
    | (with_reducible refine wpAny_ite_false (decide_eq_false hs) ?_)
    | (with_reducible refine wpAny_ite_true (decide_eq_true ha) ?_)
    | (with_reducible refine wpAny_bind (lim _ _ _ _ rfl ?_))
    | (with_reducible refine lim _ _ _ _ rfl ?_)
    | wp_step))
  all_goals (try rw [hr])
  all_goals (try dsimp only)
  repeat (any_goals (first
    | assumption
    | (with_reducible refine wpAny_ite_true (decide_eq_true ha) ?_)
    | wp_step))
set_option maxHeartbeats 8000000 in
theorem meets_text2 {x : PySem.Str} {u : Tok} {n : Int} (hl : ¬ (numSeenOf x).length ≤ 640) (hz : x.length ≤ sizeLine) (hn : PySem.intText? x = some n) :
    Meets (Builtin.«int.__new__» ⟨[.type "int", .str x u], []⟩) (fun A R s => s.heap.NoDigits ∧ (Made.int n).post (fun v s' => R (.ok (.ret v)) s') s) :=
  .of_wp fun prog w A R s hS => by
    obtain ⟨hd, h⟩ := hS
    obtain ⟨hp, g, d, tk, os⟩ := s
    have f1 := F.conv_sub_int
    have f2 := F.madeHere_int
    have f3 := str_int
    have f4 := str_idx
    have f5 := str_trunc
    have f6 : typeOf (.str x u) = pure (.type "str") := rfl
    have hr : (int_private% "readNumeral") 4300 10 (numSeenOf x) = (int_private% "Numeral.value") n ∧ ((numSeenOf x).length == (numTextOf x).length) = true := by
      rcases read4300 x hz with ⟨m, h1, h2, h3⟩ | ⟨h1, _⟩
      · rw [hn] at h1
        injection h1 with h1
        subst h1
        exact ⟨h3, h2⟩
      · rw [hn] at h1
        cases h1
    have hk := Hid.mk (And.intro hd (And.intro hl hr))
    clear hl hr hn hd hz
    repeat (any_goals (first
      | assumption
      | ((with_reducible show wpAny _ _ ((int_private% "intFromText") _ _ _) _ _ _); refine wp_text2 (by exact hk.out.1) hk.out.2.1 hk.out.2.2.1 hk.out.2.2.2 ?_)
      | wp_step))
    all_goals first | exact ⟨_, rfl, h⟩ | skip
theorem call_text2 {prog : Program} {w : World} {A : Around} {E : Value → Shared → Prop} {s : Shared} {Q : Value → Shared → Prop} {x : PySem.Str} {t : Tok} {n : Int} (hd : s.heap.NoDigits) (hs : (numSeenOf x).length = x.length) (hn : PySem.intText? x = some n) (hz : x.length ≤ sizeLine) (h : Q (.int n s.toks) { s with toks := s.toks + 1 }) :
    wpAny (model prog w) A (call (.type "int") [.str x t]) Q E s := by
  by_cases hl : x.length ≤ 640
  · exact call_text hn hl h
  · exact call_int_1 (meets_text2 (by rw [hs]; exact hl) hz hn) ⟨hd, rfl, h⟩
end KIN
end PySem.W
namespace Bx
variable [TabC]
open PySem PySem.Spec PyProof.Rows L2
section
variable {X : Cx}
def HasDigits (K : PySem.W.Frag) : Prop := PySem.W.nsIn K cStatics "sys.int_max_str_digits" = some none
theorem call_int_text (hD : HasDigits X.K) : CallR X (.type "int") (fun xs H Q => ∃ a n, xs = [.str a] ∧ PySem.intText? a = some n ∧ ((numSeenOf a).length = a.length ∧ a.length ≤ sizeLine) ∧ Q (.int n) H) := by
  intro pins s σ H xs us Q I rs h
  obtain ⟨a, n, rfl, hn, hl, h⟩ := h
  cases rs with
  | cons r1 rs =>
    cases rs
    obtain ⟨t, rfl⟩ := r1
    obtain ⟨mc, hns, _⟩ := I.nolimit
    exact PySem.W.KIN.call_text2 ⟨mc, hns, PySem.W.ns_none_of I.kIn hns hD⟩ hl.1 hn hl.2 ⟨.int n, H, I.tok _, ⟨_, rfl⟩, h⟩
def gInt : GL
  | [.int i], k => k (.int i)
  | [.bl b], k => k (.int (if b then 1 else 0))
  | [.str a], k => ((numSeenOf a).length = a.length ∧ a.length ≤ sizeLine) ∧ onSome (PySem.intText? a) fun n => k (.int n)
  | _, _ => False
theorem calld_int (hD : HasDigits X.K) : CallD X (.type "int") gInt := by
  refine ⟨_, call_int1.or (call_int_text hD), fun H O xs ds k R own vs g f => ?_⟩
  unfold gInt at g
  split at g
  · obtain ⟨v, rfl, h⟩ := vs.one
    exact .inl (.inl ⟨_, by rw [h.int], fin_id own f (.int _) g⟩)
  · obtain ⟨v, rfl, h⟩ := vs.one
    exact .inl (.inr ⟨_, by rw [h.bl], fin_id own f (.int _) g⟩)
  · obtain ⟨v, rfl, h⟩ := vs.one
    obtain ⟨n, e, g2⟩ := onSome.ex g.2
    exact .inr ⟨_, n, by rw [h.str], e, g.1, fin_id own f (.int _) g2⟩
  · exact g.elim
def repS (x : Str) (n : Nat) : Str := ⟨(List.replicate n x.cps.toList).flatten.toArray⟩
theorem fold_rep (x : Array Nat) : ∀ (n : Nat) (acc : Array Nat), (List.replicate n x).foldl (· ++ ·) acc = acc ++ (List.replicate n x.toList).flatten.toArray
  | 0, acc => by simp
  | n + 1, acc => by
    rw [List.replicate_succ, List.foldl_cons, fold_rep x n, List.replicate_succ, List.flatten_cons]
    apply Array.ext'
    simp
theorem len_rep (xs : List Nat) : ∀ k : Nat, (List.replicate k xs).flatten.length = k * xs.length
  | 0 => by simp
  | k + 1 => by
    rw [List.replicate_succ, List.flatten_cons, List.length_append, len_rep xs k, Nat.succ_mul, Nat.add_comm]
theorem op_mul_str : OpR X (binaryOp .Mult) (fun x y H Q => ∃ (a : Str) (n : Int), x = .str a ∧ y = .int n ∧ 1 < n ∧ n < 2 ^ 32 ∧ 0 < a.length ∧ a.length * n.toNat ≤ sizeLine ∧ Q (.str (repS a n.toNat)) H) := by
  intro pins s σ H x y v u Q I rx ry h
  obtain ⟨a, n, rfl, rfl, h1, h2, h3, h4, q⟩ := h
  obtain ⟨t, rfl⟩ := rx
  obtain ⟨t', rfl⟩ := ry
  have e : (List.replicate n.toNat a.cps).foldl (· ++ ·) #[] = (List.replicate n.toNat a.cps.toList).flatten.toArray := by
    rw [fold_rep]; simp
  have hz := sizeLine_eq
  have hal : a.length ≤ a.length * n.toNat := Nat.le_mul_of_pos_right _ (by omega)
  have hc : ¬ (n == 1 || a.length == 0) = true := by
    simp only [Bool.or_eq_true, beq_iff_eq]
    omega
  refine PySem.P.mul_str ?_ (fun _ _ => ?_) (fun _ _ => ?_) ?_
  · rw [decide_eq_false (by omega), decide_eq_false (by omega)]; rfl
  · have h5 : (2 ^ 30 : Int) ≤ (2 ^ 63 - 1) / n := by
      rw [Int.le_ediv_iff_mul_le (by omega)]
      omega
    omega
  · show decide (a.length * n.toNat > sizeLine) = false
    exact decide_eq_false (by omega)
  · rw [if_neg (by omega), if_neg hc, e]
    refine ⟨?_, .str _, H, I.tok _, ⟨_, rfl⟩, q⟩
    show (List.replicate n.toNat a.cps.toList).flatten.toArray.size ≤ sizeLine
    have : (List.replicate n.toNat a.cps.toList).flatten.length = n.toNat * a.length := len_rep a.cps.toList n.toNat
    rw [List.size_toArray, this, Nat.mul_comm]
    exact h4
def gMul2 : G2
  | .str a, .int n, k => (1 < n ∧ n < 2 ^ 32 ∧ 0 < a.length ∧ a.length * n.toNat ≤ sizeLine) ∧ k (.str (repS a n.toNat))
  | x, y, k => gMul x y k
theorem opd_mul2 : OpD X (binaryOp .Mult) gMul2 := by
  obtain ⟨r, o1, o2⟩ := opd_mul (X := X)
  refine ⟨_, o1.or op_mul_str, fun H O x y dx dy k R own vx vy g f => ?_⟩
  unfold gMul2 at g
  split at g
  · exact .inr ⟨_, _, vx.str, vy.int, g.1.1, g.1.2.1, g.1.2.2.1, g.1.2.2.2, fin_id own f (.str _) g.2⟩
  · exact .inl (o2 H O x y _ _ k R own vx vy g f)
end
end Bx
namespace Bx
variable [TabC]
open PySem PySem.Spec PyProof.Rows L2
def wipeR : Rho → List Nat → Rho
  | ρ, [] => ρ
  | ρ, v :: vs => rset (wipeR ρ vs) v none
def oldD : Option D → Option D
  | some (.lst true _) => none
  | some (.odc _ _) => none
  | some (.obj true _ _) => none
  | some (.ob2 _ _) => none
  | o => o
def backR (ρ1 : Rho) : Rho → List Nat → Rho
  | ρ, [] => ρ
  | ρ, v :: vs => rset (backR ρ1 ρ vs) v (oldD (rget ρ1 v))
def tAll (k : Bool → Rho → Prop) (ρ : Rho) : Prop := k true ρ
def kCo3 (vs : List Nat) (go : List D → Rho → Prop) (acc : List D) (d : D) (ρ : Rho) : Prop := match d with
  | .lst _ xs => go (acc ++ [.lst false xs]) (wipeR ρ vs)
  | .odc ks xs => go (acc ++ [.dic ks xs]) (wipeR ρ vs)
  | .obj _ c xs => go (acc ++ [.obj false c xs]) (wipeR ρ vs)
  | .ob2 c xs => go (acc ++ [.obj false c (xs.map unb)]) (wipeR ρ vs)
  | d => go (acc ++ [d]) (wipeR ρ vs)
def kCo2 (vs : List Nat) (elt : DE) (go : List D → Rho → Prop) (acc : List D) (b : Bool) (ρ : Rho) : Prop := pick b (elt (kCo3 vs go acc)) (fun ρ => go acc (wipeR ρ vs)) ρ
def kCo1 (vs : List Nat) (cond : DT) (elt : DE) (go : List D → Rho → Prop) (acc : List D) (ρ : Rho) : Prop := cond (kCo2 vs elt go acc) ρ
def coGo (vs : List Nat) (tg : DG) (cond : DT) (elt : DE) (ρ1 : Rho) (k : D → Rho → Prop) : List D → List D → Rho → Prop
  | [], acc, ρ => k (.lst true acc) (backR ρ1 ρ vs)
  | x :: r, acc, ρ => tg x (kCo1 vs cond elt (coGo vs tg cond elt ρ1 k r) acc) ρ
def kCo (vs : List Nat) (tg : DG) (cond : DT) (elt : DE) (k : D → Rho → Prop) (items : List D) (ρ : Rho) : Prop := items.length ≤ sizeLine ∧ coGo vs tg cond elt ρ k items [] (wipeR ρ vs)
def dComp (i : DI) (vs : List Nat) (tg : DG) (cond : DT) (elt : DE) (k : D → Rho → Prop) (ρ : Rho) : Prop := i (kCo vs tg cond elt k) ρ
section
variable {K : PySem.W.Frag} {ρ ρ1 ρ' : Rho} {σ : L2.St} {H H1 H' : Hp} {O O1 O' : Addr → Prop}
theorem wipeR_len : ∀ vs : List Nat, (wipeR ρ vs).length = ρ.length
  | [] => rfl
  | v :: vs => by unfold wipeR; rw [rset_len, wipeR_len vs]
theorem wipeR_get : ∀ {vs : List Nat} {i : Nat} {d : D}, (wipeR ρ vs)[i]? = some (some d) → ρ[i]? = some (some d) ∧ i ∉ vs
  | [], _, _, h => ⟨h, by simp⟩
  | v :: vs, i, d, h => by
    unfold wipeR at h
    rcases get_rset h with ⟨_, e, _⟩ | ⟨n, h⟩
    · cases e
    · obtain ⟨h1, h2⟩ := wipeR_get h
      exact ⟨h1, by simp only [List.mem_cons, not_or]; exact ⟨n, h2⟩⟩
theorem wipe_not : ∀ {vs : List Nat} {i : Nat}, i ∉ vs → (wipe σ vs)[i]? = σ[i]?
  | [], _, _ => rfl
  | v :: vs, i, h => by
    simp only [List.mem_cons, not_or] at h
    unfold wipe
    rw [List.getElem?_set_ne (Ne.symm h.1), wipe_not h.2]
theorem wipe_in : ∀ {vs : List Nat} {i : Nat}, i ∈ vs → (wipe σ vs)[i]? = if i < σ.length then some none else none
  | v :: vs, i, h => by
    unfold wipe
    by_cases e : v = i
    · subst e
      by_cases hl : v < σ.length
      · rw [if_pos hl, List.getElem?_set_self (by rw [wipe_length]; exact hl)]
      · rw [if_neg hl, List.getElem?_eq_none (by rw [List.length_set, wipe_length]; omega)]
    · rw [List.getElem?_set_ne e]
      exact wipe_in ((List.mem_cons.mp h).resolve_left (Ne.symm e))
theorem sr_wipe (vs : List Nat) {σ' : L2.St} (s : Sr K ρ σ' H O) (e : wipe σ' vs = wipe σ vs) : Sr K (wipeR ρ vs) (wipe σ vs) H O := by
  have g : ∀ i, i ∉ vs → (wipe σ vs)[i]? = σ'[i]? := fun i hi => by rw [← e, wipe_not hi]
  refine ⟨by rw [wipeR_len, ← e, wipe_length]; exact s.len, fun i d h => ?_, fun i j xs ys v w a h1 o1 h2 o2 h3 h4 => ?_, s.own, s.tab⟩
  · obtain ⟨h1, h2⟩ := wipeR_get h
    rw [g i h2]
    exact s.slot i d h1
  · obtain ⟨h1, n1⟩ := wipeR_get h1
    obtain ⟨h2, n2⟩ := wipeR_get h2
    rw [g i n1] at h3
    rw [g j n2] at h4
    exact s.uniq i j xs ys v w a h1 o1 h2 o2 h3 h4
theorem sl_wipe (vs : List Nat) {σ' : L2.St} (e : wipe σ' vs = wipe σ vs) : Gs ρ σ' (wipeR ρ vs) (wipe σ vs) := by
  refine ⟨fun a ⟨i, xs, w, h1, ho, h2, hp⟩ => ?_, fun ⟨i, a⟩ ⟨xs, w, h1, ho, h2, hp⟩ => ?_⟩
  · obtain ⟨h1, n1⟩ := wipeR_get h1
    rw [← e, wipe_not n1] at h2
    exact ⟨i, xs, w, h1, ho, h2, hp⟩
  · obtain ⟨h1, n1⟩ := wipeR_get h1
    rw [← e, wipe_not n1] at h2
    exact ⟨xs, w, h1, ho, h2, hp⟩
theorem backR_len : ∀ vs : List Nat, (backR ρ1 ρ vs).length = ρ.length
  | [] => rfl
  | v :: vs => by unfold backR; rw [rset_len, backR_len vs]
theorem backR_get : ∀ {vs : List Nat} {i : Nat} {d : D}, (backR ρ1 ρ vs)[i]? = some (some d) → (i ∈ vs ∧ rget ρ1 i = some d ∧ d.own = false) ∨ (i ∉ vs ∧ ρ[i]? = some (some d))
  | [], _, _, h => .inr ⟨by simp, h⟩
  | v :: vs, i, d, h => by
    unfold backR at h
    rcases get_rset h with ⟨ei, e, _⟩ | ⟨n, h⟩
    · subst ei
      refine .inl ⟨List.mem_cons_self, ?_⟩
      unfold oldD at e
      split at e
      · cases e
      · cases e
      · cases e
      · cases e
      · rename_i hn hn2 hn3 hn4
        refine ⟨e.symm, ?_⟩
        cases d with
        | lst o xs =>
          cases o with
          | false => rfl
          | true => exact absurd e.symm (by intro z; exact hn xs z)
        | odc ks xs => exact absurd e.symm (by intro z; exact hn2 ks xs z)
        | obj o c xs =>
          cases o with
          | false => rfl
          | true => exact absurd e.symm (by intro z; exact hn3 c xs z)
        | ob2 c xs => exact absurd e.symm (by intro z; exact hn4 c xs z)
        | _ => rfl
    · rcases backR_get h with ⟨h1, h2⟩ | ⟨h1, h2⟩
      · exact .inl ⟨List.mem_cons_of_mem _ h1, h2⟩
      · exact .inr ⟨by simp only [List.mem_cons, not_or]; exact ⟨n, h1⟩, h2⟩
theorem sr_back (vs : List Nat) (s1 : Sr K ρ1 σ H1 O1) (s : Sr K ρ (wipe σ vs) H O) (e : Ext (Sl ρ1 σ) H1 O1 H O) (sub : Gs ρ1 σ ρ (wipe σ vs)) : After K ρ1 σ H1 O1 (backR ρ1 ρ vs) H O := by
  have own : ∀ {i : Nat} {d : D}, (backR ρ1 ρ vs)[i]? = some (some d) → d.own = true → i ∉ vs ∧ ρ[i]? = some (some d) := fun {i xs} h ho => by
    rcases backR_get h with ⟨_, _, z⟩ | z
    · rw [z] at ho; cases ho
    · exact z
  refine ⟨⟨by rw [backR_len, s.len, wipe_length], fun i d h => ?_, fun i j xs ys v w a h1 o1 h2 o2 h3 h4 => ?_, s.own, s.tab⟩, e, fun a ⟨i, xs, w, h1, o1, h2, hp⟩ => ?_, fun ⟨i, a⟩ ⟨xs, w, h1, o1, h2, hp⟩ => ?_⟩
  · rcases backR_get h with ⟨hi, h1, ho⟩ | ⟨hi, h1⟩
    · obtain ⟨v, g1, g2⟩ := s1.slot i d (rget_get h1)
      refine ⟨v, g1, ?_⟩
      cases g2 with
      | rep r => exact .rep (r.ext e s1.lsts)
      | own _ _ r => rw [r.o] at ho; cases ho
    · obtain ⟨v, g1, g2⟩ := s.slot i d h1
      rw [wipe_not hi] at g1
      exact ⟨v, g1, g2⟩
  · obtain ⟨n1, h1⟩ := own h1 o1
    obtain ⟨n2, h2⟩ := own h2 o2
    exact s.uniq i j xs ys v w a h1 o1 h2 o2 (by rw [wipe_not n1]; exact h3) (by rw [wipe_not n2]; exact h4)
  · obtain ⟨n1, h1⟩ := own h1 o1
    exact sub.1 a ⟨i, xs, w, h1, o1, by rw [wipe_not n1]; exact h2, hp⟩
  · obtain ⟨n1, h1⟩ := own h1 o1
    exact sub.2 (i, a) ⟨xs, w, h1, o1, by rw [wipe_not n1]; exact h2, hp⟩
end
section
variable {X : Cx} {elt tg iter : Expr} {ifs : List Expr} {scope : Scope} {own : List (Str × Nat)} {pos : Pos}
def SF (X : Cx) (ifs : List Expr) (w : DT) : Prop :=
  ∃ t, PTs X ifs t ∧ ∀ (σ : L2.St) (H : Hp) (ρ : Rho) (O : Addr → Prop) (k : Bool → Rho → Prop) (R : Bool → Hp → Prop), Sr X.K ρ σ H O → w k ρ →
    (∀ b H' ρ' O', After X.K ρ σ H O ρ' H' O' → k b ρ' → R b H') → t σ H R
theorem sf_nil : SF X [] tAll := ⟨_, pts_nil, fun σ H ρ O k R s h q => q true H ρ O (.refl s) h⟩
theorem SF.pt {w : DT} (h : SF X ifs w) : PTs X ifs (tTt X.K w) := by
  obtain ⟨t, p, f⟩ := h
  exact ⟨fun pins s σ H Q I ⟨ρ, O, k, sr, hw, q⟩ => p.run pins s σ H Q I (f σ H ρ O k Q sr hw q)⟩
theorem frz_go {vs : List Nat} {go : List D → Rho → Prop} {acc : List D} {d : D} {ρ : Rho} (h : kCo3 vs go acc d ρ) : go (acc ++ [d.frz]) (wipeR ρ vs) := by
  cases d <;> exact h
theorem comp_ok {i : DI} {ws : List Nat} {g : DG} {cond : DT} {w : DE} {wi : TI}
    (fi : ∀ (σ : L2.St) (H : Hp) (ρ : Rho) (O : Addr → Prop) (k : List D → Rho → Prop) (R : It → Hp → Prop), Sr X.K ρ σ H O → i k ρ →
      (∀ J H' ρ' O' items, After X.K ρ σ H O ρ' H' O' → Items X.K J H' O' (Sl ρ' σ) items → k items ρ' → R J H') → wi σ H R)
    (hw : ∀ i ∈ ws, i ∈ own.map (·.2)) :
    ∀ (σ : L2.St) (H : Hp) (ρ : Rho) (O : Addr → Prop) (k : D → Rho → Prop) (R : VK), Sr X.K ρ σ H O → dComp i (own.map (·.2)) g cond w k ρ →
    (∀ v H' ρ' O' d, After X.K ρ σ H O ρ' H' O' → VOk X.K H H' O' v d → k d ρ' → R v H') → tLc wi (tGg X.K ws g) (tTt X.K cond) (tE X.K w) (own.map (·.2)) σ H R := by
  intro σ H ρ O k R s h q
  generalize own.map (·.2) = vs at hw h ⊢
  refine fi σ H ρ O _ _ s h fun J H1 ρ1 O1 items a1 it hk => ?_
  obtain ⟨hz, hk⟩ := hk
  intro Dp hD
  have hDs : ¬ Sl ρ1 σ Dp := a1.sr.nsl hD
  refine ⟨fun n m Hc => m = items.length - n ∧ ∃ (ρc : Rho) (Oc : Addr → Prop) (acc : List D) (vacc : List V), Sr X.K ρc (wipe σ vs) Hc Oc ∧ Ext (Sl ρ1 σ) H1 O1 Hc Oc ∧ Gs ρ1 σ ρc (wipe σ vs) ∧
      Hc Dp = some (.lst vacc) ∧ Oc Dp ∧ Reps X.K Hc Oc vacc acc ∧ acc.length ≤ n ∧ coGo vs g cond w ρ1 k (items.drop n) acc ρc, ⟨_, rfl, wipeR ρ1 vs, adO O1 Dp, [], [], ?_, ?_, ?_, upd_same, .inr rfl, .nil, Nat.le_refl _, hk⟩, fun n m Hc hm => ?_⟩
  · exact sr_wipe vs (a1.sr.ext0 (ext_own (o := .lst []) hD) (own_own a1.sr.own hD)).sr rfl
  · exact (ext_own hD).mono fun _ z => z.elim
  · exact sl_wipe vs rfl
  · obtain ⟨em, ρc, Oc, acc, vacc, sc, ec, sub, hc, oc, rc, hl, hgo⟩ := hm
    have itn := it Hc Oc sc.own ec n
    cases e : items.drop n with
    | nil =>
      rw [e] at hgo
      refine .inl ⟨itn.2 (by simpa using e), ?_⟩
      have ab := sr_back vs a1.sr sc ec sub
      exact q _ _ _ _ _ (a1.trans ab) ⟨.own oc hc (.lst rc), fun a _ ea => by rcases ea with ea | ea <;> cases ea; exact a1.back _ hD⟩ hgo
    | cons d rst =>
      rw [e] at hgo
      have hd : items[n]? = some d := by
        have := congrArg (·[0]?) e
        simpa using this
      have hlt : n < items.length := (List.getElem?_eq_some_iff.mp hd).1
      have er : items.drop (n + 1) = rst := by
        have := congrArg List.tail e
        simpa using this
      obtain ⟨go, yl⟩ := itn.1 d hd
      refine .inr ⟨go, fun Hn => ∃ (ρc : Rho) (Oc : Addr → Prop) (acc : List D) (vacc : List V), Sr X.K ρc (wipe σ vs) Hn Oc ∧ Ext (Sl ρ1 σ) H1 O1 Hn Oc ∧ Gs ρ1 σ ρc (wipe σ vs) ∧
        Hn Dp = some (.lst vacc) ∧ Oc Dp ∧ Reps X.K Hn Oc vacc acc ∧ acc.length ≤ n + 1 ∧ coGo vs g cond w ρ1 k rst acc ρc, fun Hn ⟨r1, r2, r3, r4, r5⟩ => ⟨items.length - (n + 1), by omega, rfl, r1, r2, r3, r4, by rw [er]; exact r5⟩, fun x H2 y => ?_⟩
      obtain ⟨e2, own2, rx⟩ := yl x H2 y
      have a2 := sc.ext0 e2 own2
      have nown : d.own = true → ∀ a, Pt x d a → ¬ Sl ρc (wipe σ vs) a := fun e => by cases rx <;> cases e
      have hgo : g d (kCo1 vs cond w (coGo vs g cond w ρ1 k rst) acc) ρc := hgo
      -- the new list stands by itself
      have nDc : ¬ Sl ρc (wipe σ vs) Dp := fun z => hDs (sub.1 _ z)
      refine ⟨d, ρc, Oc, _, a2.sr, .rep rx, nown, hgo, fun ρ3 σ3 s3 sl3 ot3 ln3 hk3 => ?_⟩
      have wq : wipe σ3 vs = wipe σ vs := by
        refine List.ext_getElem? fun j => ?_
        by_cases hj : j ∈ vs
        · rw [wipe_in hj, wipe_in hj, ln3, wipe_length]
        · rw [wipe_not hj, wipe_not hj, ot3 j fun z => hj (hw j z), wipe_not hj]
      refine ⟨wq, ρ3, Oc, _, s3, hk3, fun b H4 ρ4 O4 a4 hk4 => ?_⟩
      have sub3 : Gs ρ1 σ ρ3 σ3 := ⟨fun a z => (sl3.1 a z).elim (sub.1 a) fun ⟨z1, _⟩ => (by cases rx <;> cases z1), fun a z => (sl3.2 a z).elim (sub.2 a) fun ⟨z1, _⟩ => by cases rx <;> cases z1⟩
      have nD3 : ¬ Sl ρ3 σ3 Dp := fun z => hDs (sub3.1 _ z)
      have h2D := (e2.keep Dp _ hc id)
      have r2D : Reps X.K H2 Oc vacc acc := rc.ext e2 fun _ z => z.elim
      have e12 : Ext (Sl ρ1 σ) H1 O1 H2 Oc := ec.trans (fun a u hu z => z.elim) e2
      have k4 := a4.ext.keep Dp _ h2D.1 nD3
      have o2D : Oc Dp := oc
      have r4D : Reps X.K H4 O4 vacc acc := r2D.ext a4.ext s3.lsts
      have e14 : Ext (Sl ρ1 σ) H1 O1 H4 O4 := e12.trans (fun a u hu z => sub3.1 a z) a4.ext
      have sub4 : Gs ρ1 σ ρ4 σ3 := ⟨fun a z => sub3.1 a (a4.sub a z), fun a z => sub3.2 a (a4.sub0 a z)⟩
      cases b with
      | false =>
        refine iteF ⟨wipeR ρ4 vs, O4, acc, vacc, sr_wipe vs a4.sr wq, e14, ⟨fun a z => sub4.1 a ((sl_wipe vs wq).1 a z), fun a z => sub4.2 a ((sl_wipe vs wq).2 a z)⟩, k4.1, k4.2.mpr o2D, r4D, Nat.le_succ_of_le hl, hk4⟩
      | true =>
        refine iteT ⟨ρ4, O4, _, a4.sr, hk4, fun yv H5 ρ5 O5 dy a5 vo5 hk5 => ?_⟩
        obtain ⟨O6, l6, a6, ry⟩ := After.freeze_val a4.sr a5 vo5 fun _ z => z
        have nD4 : ¬ Sl ρ4 σ3 Dp := fun z => hDs (sub4.1 _ z)
        have k5 := a6.ext.keep Dp _ k4.1 nD4
        have o6 : O6 Dp := k5.2.mpr (k4.2.mpr o2D)
        have r6 : Reps X.K H5 O6 vacc acc := r4D.ext a6.ext a4.sr.lsts
        have e16 : Ext (Sl ρ1 σ) H1 O1 H5 O6 := e14.trans (fun a u hu z => sub4.1 a z) a6.ext
        refine ⟨vacc, k5.1, ?_, ?_⟩
        · rw [r6.length]; omega
        · have eD : Ext (fun c => c = Dp) H5 O6 (upd H5 Dp (.lst (vacc ++ [yv]))) O6 := ⟨fun c u hc n _ => ⟨by rw [upd_ne n]; exact hc, Iff.rfl⟩, fun c u hc => by
            by_cases e : c = Dp
            · subst e; exact ⟨_, upd_same⟩
            · exact ⟨u, by rw [upd_ne e]; exact hc⟩, .own k5.1 .lst⟩
          have LD : Lsts H5 O6 fun c => c = Dp := fun c z => by subst z; exact ⟨o6, _, k5.1, .lst⟩
          have s6 := sr_wipe vs a6.sr wq
          have nD6 : ¬ Sl (wipeR ρ5 vs) (wipe σ vs) Dp := fun z => hDs (sub4.1 _ (a6.sub _ ((sl_wipe vs wq).1 _ z)))
          refine ⟨wipeR ρ5 vs, O6, acc ++ [dy.frz], vacc ++ [yv], ⟨s6.len, fun j d' z => ?_, s6.uniq, fun c z => ?_, TabsOk.own k5.1 .lst s6.tab⟩, ?_, ⟨fun a z => sub4.1 a (a6.sub a ((sl_wipe vs wq).1 a z)), fun a z => sub4.2 a (a6.sub0 a ((sl_wipe vs wq).2 a z))⟩, upd_same, o6, (r6.append (.cons ry .nil)).ext eD LD, by rw [List.length_append]; exact Nat.succ_le_succ hl, frz_go hk5⟩
          · obtain ⟨u, y1, y2⟩ := s6.slot j d' z
            refine ⟨u, y1, ?_⟩
            cases y2 with
            | rep r => exact .rep (r.ext eD LD)
            | @own c ws' zs o' hc rc' =>
              have nc : ∀ p, Pt (.ref c) d' p → p ≠ Dp := fun p zp z' => nD6 ⟨j, _, _, z, rc'.o, y1, by rw [← z']; exact zp⟩
              exact .own o' (by rw [upd_ne (nc c (.inl rfl))]; exact hc) (rc'.ext eD LD fun p hp => nc p (.inr hp))
          · by_cases e : c = Dp
            · subst e; exact ⟨_, upd_same, .lst⟩
            · obtain ⟨vs', q', w'⟩ := s6.own c z
              exact ⟨vs', by rw [upd_ne e]; exact q', w'⟩
          · refine ⟨fun c u hu n nt => ?_, fun c u hu => ?_, e16.tt.trans (.own k5.1 .lst)⟩
            · obtain ⟨g1, g2⟩ := e16.keep c u hu n
              have nc : c ≠ Dp := ne_of_none hu hD
              exact ⟨by rw [upd_ne nc]; exact g1, g2⟩
            · obtain ⟨u', g⟩ := e16.dom c u hu
              have nc : c ≠ Dp := ne_of_none hu hD
              exact ⟨u', by rw [upd_ne nc]; exact g⟩
theorem se_comp {i : DI} {ws : List Nat} {g : DG} {cond : DT} {w : DE} (hc : X.calm = true) (hN : X.N.Nodup) (hi : SI X tg iter i) (ok : BlkOk X.N X.env.scope scope own)
    (hg : ∀ (s : Shared) (H : Hp) (C : Addr) (cl : List (Str × Addr)) (fp : List Addr), SG (X.blk s H scope (compEnvC scope cl C X.env) fp) ws tg g)
    (ht : ∀ (s : Shared) (H : Hp) (C : Addr) (cl : List (Str × Addr)) (fp : List Addr), SF (X.blk s H scope (compEnvC scope cl C X.env) fp) ifs cond)
    (he : ∀ (s : Shared) (H : Hp) (C : Addr) (cl : List (Str × Addr)) (fp : List Addr), SE (X.blk s H scope (compEnvC scope cl C X.env) fp) elt w)
    (hw : ∀ i ∈ ws, i ∈ own.map (·.2) := by decide) (hs : ∀ x, foldedSetIterable iter X.env x = pure x := by intro _; rfl) :
    SE X (.ListComp elt [⟨tg, iter, ifs, 0⟩] scope pos) (dComp i (own.map (·.2)) g cond w) := by
  obtain ⟨ti, pi, fi⟩ := hi
  exact ⟨_, pe_lc (g := tGg X.K ws g) (tt := tTt X.K cond) (te := tE X.K w) hc hN pi ok (fun s H C cl fp => (hg s H C cl fp).pg) (fun s H C cl fp => (ht s H C cl fp).pt) (fun s H C cl fp => (he s H C cl fp).pe) hs, comp_ok fi hw⟩
end
end Bx
namespace Bx
variable [TabC]
open PySem PySem.Spec PyProof.Rows L2
section
variable {X : Cx} {ios : List Nat} {pos : Pos}
def kPar3c (i j l : Nat) (nx : Rho → Prop) (d d' d'' : D) (ρ : Rho) : Prop := nx (rset (rset (rset ρ i (some d)) j (some d')) l (some d''))
def kPar3b (i j l : Nat) (c : DE) (nx : Rho → Prop) (d d' : D) (ρ : Rho) : Prop := c (kPar3c i j l nx d d') ρ
def kPar3 (i j l : Nat) (b c : DE) (nx : Rho → Prop) (d : D) (ρ : Rho) : Prop := b (kPar3b i j l c nx d) ρ
def dPar3 (i j l : Nat) (a b c : DE) (E : DEnds) (ρ : Rho) : Prop := a (kPar3 i j l b c E.nx) ρ
end
theorem bb_len : bootBuiltins "len" = some (.builtin "len") := by decide +kernel
theorem bb_max : bootBuiltins "max" = some (.builtin "max") := by decide +kernel
theorem bb_min : bootBuiltins "min" = some (.builtin "min") := by decide +kernel
theorem bb_all : bootBuiltins "all" = some (.builtin "all") := by decide +kernel
theorem bb_int : bootBuiltins "int" = some (.type "int") := by decide +kernel
theorem bb_bool : bootBuiltins "bool" = some (.type "bool") := by decide +kernel
theorem bb_str : bootBuiltins "str" = some (.type "str") := by decide +kernel
theorem bb_tuple : bootBuiltins "tuple" = some (.type "tuple") := by decide +kernel
theorem ty_int : tysOk "int" = true := by decide +kernel
theorem ty_bool : tysOk "bool" = true := by decide +kernel
theorem ty_str : tysOk "str" = true := by decide +kernel
theorem ty_tuple : tysOk "tuple" = true := by decide +kernel
theorem fn_zero {P : Program} {w : World} {K : PySem.W.Frag} {mg : Str → Option Value} {base : Heap} {f : Addr} {fd : FuncData} {k : Nat} {ps : List Str} {ios : List Nat} {W : PSpec} (h : ∀ ds Q, ¬ W ds Q) : FnG P w K mg base k f fd ps (spD K ios W) := by
  have no : ∀ vs H Q E, ¬ spD K ios W vs H Q E := fun vs H Q E ⟨ds, O, Pd, _, _, z, _⟩ => h _ _ z
  exact ⟨fun vs H Q E h => absurd h (no vs H Q E), fun A outer s H args us vs Q E _ _ _ _ h => absurd h (no vs H Q E)⟩
end Bx
namespace Bx
variable [TabC]
open PySem PySem.Spec PyProof.Rows L2
def CLaw : PSpec := fun ds Q => ∃ ns : List Int, ds = [.scr (ns.map D.int)] ∧ ns.length ≤ 63 ∧ Q (.bl true) []
theorem law_start {K : PySem.W.Frag} {H : Hp} {a : Addr} {ns : List Int} {E : XK} (hl : ns.length ≤ 63) (hO : Only H) (hS : SqL K H a (ns.map V.int)) (tab : TabsOk H := by intro P q h; cases h) : spD K [] CLaw [.ref a] H (fun v _ => v = .bl true) E := by
  have hs : Scr K H a (ns.map V.int) := by
    rcases hS with (h | ⟨o, h⟩) | h
    · rcases hO a with z | ⟨o, xs, z⟩
      · rw [h] at z; cases z
      · rw [h] at z; cases z
    · exact .inl ⟨o, h⟩
    · exact .inr h
  have own : Own H no := fun _ z => z.elim
  have r : Reps K H no [.ref a] [.scr (ns.map D.int)] := .cons (.scr hs (Reps.of_ints ns)) .nil
  obtain ⟨sr, _⟩ := sr_reps own tab r
  refine ⟨_, no, fun d _ => d = .bl true, sr, fun k xs h ho => ?_, ⟨ns, rfl, hl, rfl⟩, fun v H' O' d outs _ _ vo _ h => ?_⟩
  · obtain ⟨v, _, q⟩ := r.get h
    rw [q.nown] at ho; cases ho
  · subst h
    exact vo.val.bl
end Bx
namespace Bx
variable [TabC]
open PySem PySem.Spec PyProof.Rows L2
section
variable {X : Cx}
def gIAdd : G2 := gII0 fun i j => .int (i + j)
def gISub : G2 := gII0 fun i j => .int (i - j)
def gIMul : G2 := gII CMul fun i j => .int (i * j)
end
end Bx
namespace Bx
open PySem PySem.Spec PyProof.Rows L2
theorem ends_rt {ios : List Nat} {P : D → List D → Prop} {d : D} {ρ : Rho} : (endsOf ios P).rt d ρ = onSome (outsOf ios ρ) (P d) := rfl
theorem ends_nx {ios : List Nat} {P : D → List D → Prop} {ρ : Rho} : (endsOf ios P).nx ρ = onSome (outsOf ios ρ) (P .non) := rfl
theorem onSome_some {α : Type} {a : α} {k : α → Prop} : onSome (some a) k = k a := rfl
theorem outs0 {ρ : Rho} : outsOf [] ρ = some [] := rfl
theorem rget_s {x : Option D} {r : Rho} {n : Nat} : rget (x :: r) (n + 1) = rget r n := rfl
theorem rget_0 {x : Option D} {r : Rho} : rget (x :: r) 0 = x := rfl
theorem rset_s {x d : Option D} {r : Rho} {n : Nat} : rset (x :: r) (n + 1) d = x :: rset r n d := rfl
theorem rset_0 {x d : Option D} {r : Rho} : rset (x :: r) 0 d = d :: r := rfl
theorem frz_lst {o : Bool} {xs : List D} : (D.lst o xs).frz = .lst false xs := rfl
theorem frz_tup {xs : List D} : (D.tup xs).frz = .tup xs := rfl
theorem frz_int {i : Int} : (D.int i).frz = .int i := rfl
theorem frz_bl {i : Bool} : (D.bl i).frz = .bl i := rfl
theorem frz_str {i : Str} : (D.str i).frz = .str i := rfl
theorem frz_scr {xs : List D} : (D.scr xs).frz = .scr xs := rfl
theorem frz_dic {ks : List Key} {xs : List D} : (D.dic ks xs).frz = .dic ks xs := rfl
theorem frz_non : D.non.frz = .non := rfl
theorem i62_of {j : Int} (h1 : -1000000000000 ≤ j) (h2 : j ≤ 1000000000000) : i62 j := ⟨by omega, by omega⟩
theorem for_rule {g : DG} {b : DS} {E : DEnds} (I : List D → Rho → Prop) {items : List D} {ρ : Rho} (h0 : I items ρ) (hn : ∀ ρ, I [] ρ → E.nx ρ)
    (hs : ∀ x r ρ (N : Rho → Prop), I (x :: r) ρ → (∀ ρ', I r ρ' → N ρ') → g x (kForB b E N) ρ) : forGo g b E items ρ := by
  induction items generalizing ρ with
  | nil => exact hn ρ h0
  | cons x r ih => exact hs x r ρ _ h0 fun ρ' h' => ih h'
theorem comp_rule {vs : List Nat} {tg : DG} {cond : DT} {elt : DE} {ρ1 : Rho} {k : D → Rho → Prop} (I : List D → List D → Rho → Prop) {items : List D} {ρ : Rho} (h0 : I items [] ρ) (hn : ∀ acc ρ, I [] acc ρ → k (.lst true acc) (backR ρ1 ρ vs))
    (hs : ∀ x r acc ρ (N : List D → Rho → Prop), I (x :: r) acc ρ → (∀ acc' ρ', I r acc' ρ' → N acc' ρ') → tg x (kCo1 vs cond elt N acc) ρ) : coGo vs tg cond elt ρ1 k items [] ρ := by
  have go : ∀ items acc ρ, I items acc ρ → coGo vs tg cond elt ρ1 k items acc ρ := fun items => by
    induction items with
    | nil => exact fun acc ρ h => hn acc ρ h
    | cons x r ih => exact fun acc ρ h => hs x r acc ρ _ h fun acc' ρ' h' => ih acc' ρ' h'
  exact go items [] ρ h0
end Bx
namespace Bx
open PySem L2
theorem atI_nat' {α : Type} {xs : List α} {i : Int} (h0 : 0 ≤ i) : atI xs i = xs[i.toNat]? := by
  unfold atI ixN
  rw [if_pos h0]
  by_cases h : i < xs.length
  · rw [if_pos h]; rfl
  · rw [if_neg h]
    rw [List.getElem?_eq_none (by omega)]; rfl
theorem atI_map {α β : Type} {f : α → β} {xs : List α} {i : Nat} {a : α} (h : xs[i]? = some a) : atI (xs.map f) (i : Int) = some (f a) := by
  rw [atI_nat' (by omega)]
  simp [h]
theorem atI_int {row : List Int} {i : Nat} (h : i < row.length) : atI (row.map D.int) (i : Int) = some (.int (row.getD i 0)) := by
  refine atI_map ?_
  rw [List.getD_eq_getElem?_getD, List.getElem?_eq_getElem h]; rfl
theorem cdiv2 {i : Int} : CDiv i 2 := ⟨by decide, by decide⟩
end Bx
namespace Bx
open PySem L2
open PySem.NumText (AllDigits digitsVal)
theorem seen_digits {x : Str} (h : AllDigits x.cps.toList) : (numSeenOf x).length = x.length := by
  have h1 : x.cps.all (· < 128) = true := by
    rw [← Array.all_toList]
    exact List.all_eq_true.mpr fun c hc => decide_eq_true (by have := h c hc; omega)
  have h2 : numTextOf x = x.cps.toList := if_pos h1
  have h3 : ∀ l : List Nat, (∀ c ∈ l, 48 ≤ c ∧ c ≤ 57) → l.takeWhile (· != 0) = l := fun l => by
    induction l with
    | nil => exact fun _ => rfl
    | cons c r ih =>
      intro hc
      have := hc c List.mem_cons_self
      rw [List.takeWhile_cons, if_pos (by simp; omega), ih fun d hd => hc d (List.mem_cons_of_mem _ hd)]
  show ((numTextOf x).takeWhile (· != 0)).length = x.length
  rw [h2, h3 _ h]
  exact Array.length_toList
theorem foldl_ge : ∀ (l : List Nat) (a b : Nat), a ≤ b → a ≤ l.foldl (fun acc c => acc * 10 + (c - 48)) b
  | [], _, _, h => h
  | c :: r, a, b, h => foldl_ge r a _ (by show a ≤ b * 10 + (c - 48); omega)
theorem big_text {n : Nat} (h0 : 0 < n) (h1 : n ≤ 4200) : ∃ m : Int, 0 < m ∧ PySem.intText? (("1" : Str) ++ repS "0" n) = some m ∧ (numSeenOf (("1" : Str) ++ repS "0" n)).length = (("1" : Str) ++ repS "0" n).length ∧ (("1" : Str) ++ repS "0" n).length = n + 1 := by
  have e : (("1" : Str) ++ repS "0" n).cps.toList = 49 :: List.replicate n 48 := by
    have a : (("1" : Str) ++ repS "0" n).cps = ("1" : Str).cps ++ (repS "0" n).cps := rfl
    rw [a]
    unfold repS
    have b : (("0" : Str)).cps.toList = [48] := by decide
    have c : (("1" : Str)).cps.toList = [49] := by decide
    rw [Array.toList_append, b, c]
    simp
  have d : AllDigits (("1" : Str) ++ repS "0" n).cps.toList := by
    rw [e]
    intro c hc
    rcases List.mem_cons.mp hc with rfl | hc
    · decide
    · rw [(List.mem_replicate.mp hc).2]; decide
  have hl : (("1" : Str) ++ repS "0" n).length = n + 1 := by
    have : (("1" : Str) ++ repS "0" n).length = (("1" : Str) ++ repS "0" n).cps.toList.length := Array.length_toList.symm
    rw [this, e]; simp
  refine ⟨_, ?_, PySem.intText_digits d (by rw [e]; simp) (by omega), seen_digits d, hl⟩
  rw [e]
  unfold digitsVal
  have := foldl_ge (List.replicate n 48) 1 1 (Nat.le_refl _)
  show (0 : Int) < ((List.foldl _ _ _ : Nat) : Int)
  rw [List.foldl_cons]
  show (0 : Int) < ((List.foldl (fun acc c => acc * 10 + (c - 48)) 1 (List.replicate n 48) : Nat) : Int)
  omega
end Bx
namespace Bx
open PySem L2
theorem big_ok {p : Int → Prop} (h : ∀ m : Int, 0 < m → p m) : ((1 : Int) < 4000 ∧ (4000 : Int) < 2 ^ 32 ∧ 0 < ("0" : Str).length ∧ ("0" : Str).length * Int.toNat 4000 ≤ sizeLine) ∧ ("1" : Str).length + (repS "0" (Int.toNat 4000)).length ≤ sizeLine ∧
    ((numSeenOf (("1" : Str) ++ repS "0" (Int.toNat 4000))).length = (("1" : Str) ++ repS "0" (Int.toNat 4000)).length ∧ (("1" : Str) ++ repS "0" (Int.toNat 4000)).length ≤ sizeLine) ∧ onSome (PySem.intText? (("1" : Str) ++ repS "0" (Int.toNat 4000))) p := by
  obtain ⟨m, m0, m1, m2, m3⟩ := big_text (n := 4000) (by decide) (by decide)
  have e4 : ((4000 : Int)).toNat = 4000 := rfl
  have sl := sizeLine_eq
  rw [e4]
  have s0 : ("0" : Str).length = 1 := by decide
  have s1 : ("1" : Str).length = 1 := by decide
  have l4 : (repS "0" 4000).length = 4000 := by
    have : (repS "0" 4000).length = (List.replicate 4000 ("0" : Str).cps.toList).flatten.length := by
      show (List.replicate 4000 ("0" : Str).cps.toList).flatten.toArray.size = _
      rw [List.size_toArray]
    rw [this, len_rep]
    rfl
  rw [m1]
  exact ⟨⟨by decide, by decide, by rw [s0]; decide, by rw [s0, sl]; decide⟩, by rw [s1, l4, sl]; decide, ⟨m2, by rw [m3, sl]; decide⟩, h m m0⟩
end Bx
namespace Bx
theorem it_NoneType_tuple : isTy "NoneType" "tuple" = false := by decide
theorem it_NoneType_int : isTy "NoneType" "int" = false := by decide
theorem it_NoneType_bool : isTy "NoneType" "bool" = false := by decide
theorem it_NoneType_str : isTy "NoneType" "str" = false := by decide
theorem it_NoneType_list : isTy "NoneType" "list" = false := by decide
theorem it_NoneType_dict : isTy "NoneType" "dict" = false := by decide
theorem it_bool_tuple : isTy "bool" "tuple" = false := by decide
theorem it_bool_int : isTy "bool" "int" = true := by decide
theorem it_bool_bool : isTy "bool" "bool" = true := by decide
theorem it_bool_str : isTy "bool" "str" = false := by decide
theorem it_bool_list : isTy "bool" "list" = false := by decide
theorem it_bool_dict : isTy "bool" "dict" = false := by decide
theorem it_int_tuple : isTy "int" "tuple" = false := by decide
theorem it_int_int : isTy "int" "int" = true := by decide
theorem it_int_bool : isTy "int" "bool" = false := by decide
theorem it_int_str : isTy "int" "str" = false := by decide
theorem it_int_list : isTy "int" "list" = false := by decide
theorem it_int_dict : isTy "int" "dict" = false := by decide
theorem it_str_tuple : isTy "str" "tuple" = false := by decide
theorem it_str_int : isTy "str" "int" = false := by decide
theorem it_str_bool : isTy "str" "bool" = false := by decide
theorem it_str_str : isTy "str" "str" = true := by decide
theorem it_str_list : isTy "str" "list" = false := by decide
theorem it_str_dict : isTy "str" "dict" = false := by decide
theorem it_dict_tuple : isTy "dict" "tuple" = false := by decide
theorem it_dict_int : isTy "dict" "int" = false := by decide
theorem it_dict_bool : isTy "dict" "bool" = false := by decide
theorem it_dict_str : isTy "dict" "str" = false := by decide
theorem it_dict_list : isTy "dict" "list" = false := by decide
theorem it_dict_dict : isTy "dict" "dict" = true := by decide
theorem it_tuple_tuple : isTy "tuple" "tuple" = true := by decide
theorem it_tuple_int : isTy "tuple" "int" = false := by decide
theorem it_tuple_bool : isTy "tuple" "bool" = false := by decide
theorem it_tuple_str : isTy "tuple" "str" = false := by decide
theorem it_tuple_list : isTy "tuple" "list" = false := by decide
theorem it_tuple_dict : isTy "tuple" "dict" = false := by decide
theorem it_list_tuple : isTy "list" "tuple" = false := by decide
theorem it_list_int : isTy "list" "int" = false := by decide
theorem it_list_bool : isTy "list" "bool" = false := by decide
theorem it_list_str : isTy "list" "str" = false := by decide
theorem it_list_list : isTy "list" "list" = true := by decide
theorem it_list_dict : isTy "list" "dict" = false := by decide
end Bx
set_option maxHeartbeats 4000000
namespace Bx
variable [TabC]
open PySem PySem.Spec PyProof.Rows L2
section
variable {X : Cx}
def gIsB : G2
  | .bl a, .bl b, k => k (.bl (a == b))
  | _, _, _ => False
def gNotB : G2
  | .bl a, .bl b, k => k (.bl (a != b))
  | _, _, _ => False
def gTMul : G2
  | .tup xs, .int j, k => (xs ≠ [] ∧ 0 ≤ j ∧ j ≤ 1000 ∧ xs.length ≤ 1000) ∧ k (.tup (List.replicate j.toNat xs).flatten)
  | _, _, _ => False
end
end Bx
set_option maxHeartbeats 4000000
namespace Bx
variable [TabC]
open PySem PySem.Spec PyProof.Rows L2
structure SK where
  wk : String
  S : Heap → Addr → Array Value → Prop
  V : PySem.W.Frag → Hp → Addr → List L2.V → Prop
  sExt : ∀ {h h' : Heap} {a b : Addr} {xs : Array Value}, S h a xs → Heap.ExtBut b h h' → a ≠ b → S h' a xs
  sPush : ∀ {h : Heap} {a : Addr} {xs : Array Value} (o : Obj), S h a xs → S (h.push o) a xs
  lt : ∀ {h : Heap} {a : Addr} {xs : Array Value}, S h a xs → a < h.objs.size
  read : ∀ {X : Cx} {pins : List (Addr × Obj)} {σ : L2.St} {H : Hp} {s : Shared} {a : Addr} {xs : List L2.V}, Inv X pins σ H s → V X.K H a xs → ∃ its : List Value, Vals xs its ∧ S s.heap a its.toArray
  inj : ∀ {X : Cx} {pins : List (Addr × Obj)} {σ : L2.St} {H : Hp} {s : Shared} {a : Addr} {xs ys : List L2.V}, Inv X pins σ H s → V X.K H a xs → V X.K H a ys → xs = ys
  item : ∀ {prog : Program} {w : World} {A : Around} {E : Value → Shared → Prop} {s : Shared} {it l : Addr} {i : Nat} {xs : Array Value} {x : Value} {Q : Value → Shared → Prop},
    (∃ o, s.heap.get? it = some o ∧ o.cls = .type wk ∧ o.data = .fields #[.ref l, .int i 0]) → S s.heap l xs → xs[i]? = some x →
    (∀ h', (∃ o, h'.get? it = some o ∧ o.cls = .type wk ∧ o.data = .fields #[.ref l, .int (i + 1 : Nat) 0]) → Heap.SameBut it s.heap h' → Q x { s with heap := h' }) → wpAny (model prog w) A (Builtin.SmallTypes.nextOf (.ref it)) Q E s
  done : ∀ {prog : Program} {w : World} {A : Around} {E : Value → Shared → Prop} {s : Shared} {it l : Addr} {i : Nat} {xs : Array Value} {Q : Value → Shared → Prop}, A.handled = none →
    (∃ o, s.heap.get? it = some o ∧ o.cls = .type wk ∧ o.data = .fields #[.ref l, .int i 0]) → S s.heap l xs → xs[i]? = none →
    (∀ h' e, Heap.ExtBut it s.heap h' → (∃ o, h'.get? e = some o ∧ o.cls = .type "StopIteration") → E (.ref e) { s with heap := h' }) → wpAny (model prog w) A (Builtin.SmallTypes.nextOf (.ref it)) Q E s
  start : ∀ {prog : Program} {w : World} {A : Around} {E : Value → Shared → Prop} {s : Shared} {l : Addr} {xs : Array Value} {Q : Value → Shared → Prop}, S s.heap l xs →
    Q (.ref s.heap.objs.size) { s with heap := s.heap.push { cls := .type wk, data := .fields #[.ref l, .int 0 0] } } → wpAny (model prog w) A (pyIter (.ref l)) Q E s
abbrev skT : SK where
  wk := "tuple_iterator"
  S := fun h a xs => h.IsTuple a xs
  V := fun K H a xs => SqT K H a xs
  sExt := fun x e n => x.extBut e n
  sPush := fun o x => x.push o
  lt := fun ⟨_, e, _⟩ => Heap.lt_size e
  read := fun I h => let ⟨its, r, p, _⟩ := I.tuple h; ⟨its, r, p⟩
  inj := fun I h h' => I.tuple_inj h h'
  item := fun a b c d => RZ.nextOf_tuple_item a b c d
  done := fun h a b c d => RZ.nextOf_tuple_end h a b c d
  start := fun a q => wpAny_pyIter_tuple a q
abbrev skL : SK where
  wk := "list_iterator"
  S := fun h a xs => h.IsList a xs
  V := fun K H a xs => SqL K H a xs
  sExt := fun x e n => x.extBut e n
  sPush := fun o x => x.push o
  lt := fun ⟨_, e, _⟩ => Heap.lt_size e
  read := fun I h => let ⟨its, r, p, _⟩ := I.list h; ⟨its, r, p.isList⟩
  inj := fun I h h' => I.list_inj h h'
  item := fun a b c d => wpAny_nextOf_list_item a b c d
  done := fun h a b c d => wpAny_nextOf_list_end h a b c d
  start := fun a q => wpAny_pyIter_list a q
def SK.W (k : SK) (h : Heap) (it l : Addr) (i : Nat) : Prop := ∃ o, h.get? it = some o ∧ o.cls = .type k.wk ∧ o.data = .fields #[.ref l, .int i 0]
theorem SK.W.at {k : SK} {h h' : Heap} {it l : Addr} {i : Nat} (x : k.W h it l i) (e : ∀ o, h.get? it = some o → h'.get? it = some o) : k.W h' it l i := let ⟨o, ho, r⟩ := x; ⟨o, e o ho, r⟩
theorem SK.W.ext {k : SK} {h h' : Heap} {it b l : Addr} {i : Nat} (x : k.W h it l i) (e : Heap.ExtBut b h h') (n : it ≠ b) : k.W h' it l i := x.at fun o q => e it o n q
section
variable {prog : Program} {w : World} {A : Around} {E : Value → Shared → Prop} {s : Shared} (p q : SK)
theorem zx_item {z TI TO i1 i2 l1 l2 : Addr} {k1 k2 : Nat} {xs ys : Array Value} {x y a b : Value} {Q : Value → Shared → Prop} (D : ZipApart z TI TO i1 i2 l1 l2) (hz : IsZip s.heap z TI TO .none) (hI : IsPair s.heap TI (.ref i1) (.ref i2)) (hO : IsPair s.heap TO a b)
    (w1 : p.W s.heap i1 l1 k1) (w2 : q.W s.heap i2 l2 k2) (s1 : p.S s.heap l1 xs) (s2 : q.S s.heap l2 ys) (hx : xs[k1]? = some x) (hy : ys[k2]? = some y)
    (hQ : ∀ h', IsZip h' z TI TO (rawInt s.heap.objs.size) → IsPair h' TO x y → p.W h' i1 l1 (k1 + 1) → q.W h' i2 l2 (k2 + 1) → IsPair h' s.heap.objs.size x y → h'.objs.size = s.heap.objs.size + 1 →
      (∀ c o, c ≠ z → c ≠ TO → c ≠ i1 → c ≠ i2 → s.heap.get? c = some o → h'.get? c = some o) → Q (.ref s.heap.objs.size) { s with heap := h' }) :
    wpAny (model prog w) A (Builtin.«zip.__next__» ⟨[.ref z], []⟩) (fun fin s' => ∃ v, fin = .done (.ret v) ∧ Q v s') E s := by
  show wpAny _ _ (field (.ref z) 2 >>= _) _ _ _; refine wpAny_bind (wpAny_field hz rfl (x := .bool false) rfl ?_)
  show wpAny _ _ (field (.ref z) 3 >>= _) _ _ _; refine wpAny_bind (wpAny_field hz rfl (x := .ref TI) rfl ?_); refine wpAny_bind (wpAny_seqItems hI rfl ?_)
  show wpAny _ _ (Builtin.SmallTypes.ownedTupleIsFree (.ref z) >>= _) _ _ _; refine wpAny_bind ?_; unfold Builtin.SmallTypes.ownedTupleIsFree
  refine wpAny_bind (wpAny_field hz rfl (x := .none) rfl (wpAny_pure ?_)); simp only [if_true]; refine wpAny_bind (wpAny_rule ?_); refine wpAny_bind (wpAny_field hz rfl (x := .ref TO) rfl ?_)
  refine wpAny_bind (wpAny_setField_rec hz (by simp) fun g1 z1 e1 => ?_); replace z1 : IsZip g1 z TI TO .ellipsis := z1
  refine wpAny_bind ?_; simp only [List.zipIdx_cons, List.zipIdx_nil, List.forIn_cons, List.forIn_nil]; refine wpAny_bind (wpAny_bind (wpAny_onRaise ?_))
  show wpAny _ _ (Builtin.SmallTypes.nextOf (.ref i1) >>= _) _ _ _
  refine wpAny_bind (p.item (w1.ext e1.extBut D.i1z) (p.sExt s1 e1.extBut D.l1z) hx fun g2 v1 e2 => wpAny_pure ?_); replace v1 : p.W g2 i1 l1 (k1 + 1) := v1
  have o2 : IsPair g2 TO a b := e2.extBut _ _ D.TOi1 (e1.extBut _ _ D.TOz hO)
  refine wpAny_bind (wpAny_seqItems o2 rfl ?_); refine wpAny_bind (wpAny_updateSeq_pair o2 fun g3 o3 e3 => ?_); replace o3 : IsPair g3 TO x b := o3
  refine wpAny_bind (wpAny_letGo (wpAny_pure ?_)); refine wpAny_bind (wpAny_bind (wpAny_onRaise ?_))
  show wpAny _ _ (Builtin.SmallTypes.nextOf (.ref i2) >>= _) _ _ _
  refine wpAny_bind (q.item (((w2.ext e1.extBut D.i2z).ext e2.extBut D.i12.symm).ext e3.extBut D.TOi2.symm) (q.sExt (q.sExt (q.sExt s2 e1.extBut D.l2z) e2.extBut D.l2i1) e3.extBut D.l2TO) hy fun g4 v2 e4 => wpAny_pure ?_)
  replace v2 : q.W g4 i2 l2 (k2 + 1) := v2
  have o4 : IsPair g4 TO x b := e4.extBut _ _ D.TOi2 o3
  refine wpAny_bind (wpAny_seqItems o4 rfl ?_); refine wpAny_bind (wpAny_updateSeq_pair o4 fun g5 o5 e5 => ?_); replace o5 : IsPair g5 TO x y := o5
  refine wpAny_bind (wpAny_letGo (wpAny_pure (wpAny_pure ?_))); refine wpAny_bind (wpAny_seqItems o5 rfl ?_); refine wpAny_bind (wpAny_newTuple ?_)
  have sz : g5.objs.size = s.heap.objs.size := by rw [e5.1, e4.1, e3.1, e2.1, e1.1]
  have z5 : IsZip g5 z TI TO .ellipsis := e5.extBut _ _ D.TOz.symm (e4.extBut _ _ D.i2z.symm (e3.extBut _ _ D.TOz.symm (e2.extBut _ _ D.i1z.symm z1)))
  have keep : ∀ c o, c ≠ z → c ≠ TO → c ≠ i1 → c ≠ i2 → s.heap.get? c = some o → g5.get? c = some o := fun c o c1 c2 c3 c4 e => e5.extBut _ _ c2 (e4.extBut _ _ c4 (e3.extBut _ _ c2 (e2.extBut _ _ c3 (e1.extBut _ _ c1 e))))
  have v15 : p.W g5 i1 l1 (k1 + 1) := ((v1.ext e3.extBut D.TOi1.symm).ext e4.extBut D.i12).ext e5.extBut D.TOi1.symm
  have v25 : q.W g5 i2 l2 (k2 + 1) := v2.ext e5.extBut D.TOi2.symm
  have ltz : z < g5.objs.size := Heap.lt_size z5
  show wpAny _ _ (Builtin.SmallTypes.ownedTupleHandOut (.ref z) (.ref g5.objs.size) >>= _) _ _ _; refine wpAny_bind ?_; unfold Builtin.SmallTypes.ownedTupleHandOut
  have z6 : IsZip (g5.push { cls := .type "tuple", data := .seq #[x, y] }) z TI TO .ellipsis := Heap.get?_push_of_some _ z5
  refine wpAny_bind (wpAny_setField_rec z6 (by simp) fun g7 z7 e7 => ?_); replace z7 : IsZip g7 z TI TO (rawInt g5.objs.size) := z7
  refine wpAny_setField_rec z7 (by simp) fun g8 z8 e8 => ?_; replace z8 : IsZip g8 z TI TO (rawInt g5.objs.size) := z8
  have up : ∀ c o, c ≠ z → g5.get? c = some o → g8.get? c = some o := fun c o c1 e => e8.extBut _ _ c1 (e7.extBut _ _ c1 (Heap.get?_push_of_some _ e))
  have t8 : IsPair g8 g5.objs.size x y := e8.extBut _ _ (Nat.ne_of_gt ltz) (e7.extBut _ _ (Nat.ne_of_gt ltz) (Heap.get?_push_size _ rfl))
  have l8 : g8.objs.size = g5.objs.size + 1 := by rw [e8.1, e7.1, Heap.size_push]
  rw [sz] at z8 t8 l8; refine wpAny_pure ⟨_, rfl, ?_⟩; show Q (.ref g5.objs.size) _; rw [sz]
  exact hQ g8 z8 (up _ _ D.TOz o5) (v15.at fun o e => up _ o D.i1z e) (v25.at fun o e => up _ o D.i2z e) t8 l8 fun c o c1 c2 c3 c4 e => up c o c1 (keep c o c1 c2 c3 c4 e)
theorem zx_end {z TI TO i1 i2 l1 l2 : Addr} {k1 k2 : Nat} {xs ys : Array Value} {a b : Value} {Q : Fin → Shared → Prop} (hh : A.handled = none) (D : ZipApart z TI TO i1 i2 l1 l2) (hz : IsZip s.heap z TI TO .none) (hI : IsPair s.heap TI (.ref i1) (.ref i2)) (hO : IsPair s.heap TO a b)
    (w1 : p.W s.heap i1 l1 k1) (w2 : q.W s.heap i2 l2 k2) (s1 : p.S s.heap l1 xs) (s2 : q.S s.heap l2 ys) (hend : xs[k1]? = none ∨ ys[k2]? = none)
    (hE : ∀ h' e, (∀ c o, c ≠ z → c ≠ TO → c ≠ i1 → c ≠ i2 → s.heap.get? c = some o → h'.get? c = some o) → (∃ o, h'.get? e = some o ∧ o.cls = .type "StopIteration") → E (.ref e) { s with heap := h' }) : wpAny (model prog w) A (Builtin.«zip.__next__» ⟨[.ref z], []⟩) Q E s := by
  show wpAny _ _ (field (.ref z) 2 >>= _) _ _ _; refine wpAny_bind (wpAny_field hz rfl (x := .bool false) rfl ?_)
  show wpAny _ _ (field (.ref z) 3 >>= _) _ _ _; refine wpAny_bind (wpAny_field hz rfl (x := .ref TI) rfl ?_); refine wpAny_bind (wpAny_seqItems hI rfl ?_)
  show wpAny _ _ (Builtin.SmallTypes.ownedTupleIsFree (.ref z) >>= _) _ _ _; refine wpAny_bind ?_; unfold Builtin.SmallTypes.ownedTupleIsFree
  refine wpAny_bind (wpAny_field hz rfl (x := .none) rfl (wpAny_pure ?_)); simp only [if_true]; refine wpAny_bind (wpAny_rule ?_); refine wpAny_bind (wpAny_field hz rfl (x := .ref TO) rfl ?_)
  refine wpAny_bind (wpAny_setField_rec hz (by simp) fun g1 z1 e1 => ?_); replace z1 : IsZip g1 z TI TO .ellipsis := z1
  refine wpAny_bind ?_; simp only [List.zipIdx_cons, List.zipIdx_nil, List.forIn_cons, List.forIn_nil]; refine wpAny_bind (wpAny_bind (wpAny_onRaise ?_))
  show wpAny _ _ (Builtin.SmallTypes.nextOf (.ref i1) >>= _) _ _ _
  cases hx : xs[k1]? with
  | none =>
    refine wpAny_bind (p.done hh (w1.ext e1.extBut D.i1z) (p.sExt s1 e1.extBut D.l1z) hx fun g2 e e2 he => ?_); obtain ⟨oe, hoe, hce⟩ := he
    have z2 : IsZip g2 z TI TO .ellipsis := e2 _ _ D.i1z.symm z1
    have ne : e ≠ z := fun x => by subst x; rw [z2] at hoe; cases hoe; simp at hce
    refine wpAny_setField_rec z2 (by simp) fun g3 _ e3 => hE g3 e (fun c o c1 _ c3 _ x => e3.extBut _ _ c1 (e2 _ _ c3 (e1.extBut _ _ c1 x))) ⟨oe, e3.extBut _ _ ne hoe, hce⟩
  | some x =>
    have hy : ys[k2]? = none := by rcases hend with h | h; rw [hx] at h; cases h; exact h
    refine wpAny_bind (p.item (w1.ext e1.extBut D.i1z) (p.sExt s1 e1.extBut D.l1z) hx fun g2 v1 e2 => wpAny_pure ?_)
    have o2 : IsPair g2 TO a b := e2.extBut _ _ D.TOi1 (e1.extBut _ _ D.TOz hO)
    refine wpAny_bind (wpAny_seqItems o2 rfl ?_); refine wpAny_bind (wpAny_updateSeq_pair o2 fun g3 o3 e3 => ?_)
    refine wpAny_bind (wpAny_letGo (wpAny_pure ?_)); refine wpAny_bind (wpAny_bind (wpAny_onRaise ?_))
    show wpAny _ _ (Builtin.SmallTypes.nextOf (.ref i2) >>= _) _ _ _
    refine wpAny_bind (q.done hh (((w2.ext e1.extBut D.i2z).ext e2.extBut D.i12.symm).ext e3.extBut D.TOi2.symm) (q.sExt (q.sExt (q.sExt s2 e1.extBut D.l2z) e2.extBut D.l2i1) e3.extBut D.l2TO) hy fun g4 e e4 he => ?_)
    obtain ⟨oe, hoe, hce⟩ := he
    have z4 : IsZip g4 z TI TO .ellipsis := e4 _ _ D.i2z.symm (e3.extBut _ _ D.TOz.symm (e2.extBut _ _ D.i1z.symm z1))
    have ne : e ≠ z := fun x => by subst x; rw [z4] at hoe; cases hoe; simp at hce
    refine wpAny_setField_rec z4 (by simp) fun g5 _ e5 => hE g5 e (fun c o c1 c2 c3 c4 x => e5.extBut _ _ c1 (e4 _ _ c4 (e3.extBut _ _ c2 (e2.extBut _ _ c3 (e1.extBut _ _ c1 x))))) ⟨oe, e5.extBut _ _ ne hoe, hce⟩
theorem zx_next {z TI TO i1 i2 l1 l2 : Addr} {k1 k2 : Nat} {xs ys : Array Value} {x y a b : Value} {Q : Option Value → Shared → Prop} (D : ZipApart z TI TO i1 i2 l1 l2) (hz : IsZip s.heap z TI TO .none) (hI : IsPair s.heap TI (.ref i1) (.ref i2)) (hO : IsPair s.heap TO a b)
    (w1 : p.W s.heap i1 l1 k1) (w2 : q.W s.heap i2 l2 k2) (s1 : p.S s.heap l1 xs) (s2 : q.S s.heap l2 ys) (hx : xs[k1]? = some x) (hy : ys[k2]? = some y)
    (hQ : ∀ h', IsZip h' z TI TO (rawInt s.heap.objs.size) → IsPair h' TO x y → p.W h' i1 l1 (k1 + 1) → q.W h' i2 l2 (k2 + 1) → IsPair h' s.heap.objs.size x y → h'.objs.size = s.heap.objs.size + 1 →
      (∀ c o, c ≠ z → c ≠ TO → c ≠ i1 → c ≠ i2 → s.heap.get? c = some o → h'.get? c = some o) → Q (some (.ref s.heap.objs.size)) { s with heap := h' }) : wpAny (model prog w) A (pyNext (.ref z)) Q E s := by
  have hT : s.TypeIs (.ref z) "zip" := ⟨_, hz, rfl⟩
  unfold pyNext
  exact wpAny_bind (wpAny_attempt (wpAny_callSpecial?_slot (name := Str.ofString "__next__") hT F.slot_zip_next (wpAny_call_entry F.slot_zip_next hT F.entry_zip_next (zx_item p q D hz hI hO w1 w2 s1 s2 hx hy fun h' a1 a2 a3 a4 a5 a6 a7 => wpAny_pure (hQ h' a1 a2 a3 a4 a5 a6 a7)) (F.args_zip_next_1 _))))
theorem zx_stop {z TI TO i1 i2 l1 l2 : Addr} {k1 k2 : Nat} {xs ys : Array Value} {a b : Value} {Q : Option Value → Shared → Prop} (hh : A.handled = none) (D : ZipApart z TI TO i1 i2 l1 l2) (hz : IsZip s.heap z TI TO .none) (hI : IsPair s.heap TI (.ref i1) (.ref i2)) (hO : IsPair s.heap TO a b)
    (w1 : p.W s.heap i1 l1 k1) (w2 : q.W s.heap i2 l2 k2) (s1 : p.S s.heap l1 xs) (s2 : q.S s.heap l2 ys) (hend : xs[k1]? = none ∨ ys[k2]? = none)
    (hQ : ∀ h', (∀ c o, c ≠ z → c ≠ TO → c ≠ i1 → c ≠ i2 → s.heap.get? c = some o → h'.get? c = some o) → Q none { s with heap := h' }) : wpAny (model prog w) A (pyNext (.ref z)) Q E s := by
  have hT : s.TypeIs (.ref z) "zip" := ⟨_, hz, rfl⟩
  unfold pyNext
  refine wpAny_bind (wpAny_attempt (wpAny_callSpecial?_slot (name := Str.ofString "__next__") hT F.slot_zip_next (wpAny_call_entry F.slot_zip_next hT F.entry_zip_next (zx_end p q hh D hz hI hO w1 w2 s1 s2 hend fun h' e hk he => ?_) (F.args_zip_next_1 _))))
  obtain ⟨o, ho, hc⟩ := he
  exact wpAny_bind (wpAny_isInstance (T := "StopIteration") (b := true) ⟨o, ho, hc⟩ isSubtype_stop (wpAny_pure (hQ _ hk)))
abbrev zxH (p q : SK) (h : Heap) (l1 l2 : Addr) : Heap := ((((h.push { cls := .type p.wk, data := .fields #[.ref l1, .int 0 0] }).push { cls := .type q.wk, data := .fields #[.ref l2, .int 0 0] }).push { cls := .type "tuple", data := .seq #[.ref h.objs.size, .ref (h.push { cls := .type p.wk, data := .fields #[.ref l1, .int 0 0] }).objs.size] }).push { cls := .type "tuple", data := .seq #[.none, .none] })
theorem zx_new (l1 l2 : Addr) (xs ys : Array Value) (hp : p = skT ∧ q = skL ∨ p = skL ∧ q = skT) : Meets (Builtin.«zip.__new__» ⟨[.type "zip", .ref l1, .ref l2], []⟩) (fun _ R s => p.S s.heap l1 xs ∧ q.S s.heap l2 ys ∧
      R (.ok (.ret (.ref (zxH p q s.heap l1 l2).objs.size))) { s with heap := (zxH p q s.heap l1 l2).push { cls := .type "zip", data := .fields #[.none, .bool false, .bool false, .ref ((s.heap.push { cls := .type p.wk, data := .fields #[.ref l1, .int 0 0] }).push { cls := .type q.wk, data := .fields #[.ref l2, .int 0 0] }).objs.size,
        .ref (((s.heap.push { cls := .type p.wk, data := .fields #[.ref l1, .int 0 0] }).push { cls := .type q.wk, data := .fields #[.ref l2, .int 0 0] }).push { cls := .type "tuple", data := .seq #[.ref s.heap.objs.size, .ref (s.heap.push { cls := .type p.wk, data := .fields #[.ref l1, .int 0 0] }).objs.size] }).objs.size] } }) :=
  .of_wp fun prog w A R s h => by
    obtain ⟨hp', g, d, tk, os⟩ := s; obtain ⟨a1, a2, h⟩ := h
    have hsub := sub_zip
    rcases hp with ⟨rfl, rfl⟩ | ⟨rfl, rfl⟩
    · have b1 : Heap.IsTuple (Shared.heap ⟨hp', g, d, tk, os⟩) l1 xs := a1
      have b2 : Heap.IsList (Shared.heap ⟨hp'.push { cls := .type "tuple_iterator", data := .fields #[.ref l1, .int 0 0] }, g, d, tk, os⟩) l2 ys := Heap.IsList.push a2 _
      wp_walk using wpAny_pyIter_tuple b1, wpAny_pyIter_list b2; exact ⟨_, rfl, h⟩
    · have b1 : Heap.IsList (Shared.heap ⟨hp', g, d, tk, os⟩) l1 xs := a1
      have b2 : Heap.IsTuple (Shared.heap ⟨hp'.push { cls := .type "list_iterator", data := .fields #[.ref l1, .int 0 0] }, g, d, tk, os⟩) l2 ys := Heap.IsTuple.push a2 _
      wp_walk using wpAny_pyIter_list b1, wpAny_pyIter_tuple b2; exact ⟨_, rfl, h⟩
end
end Bx
set_option maxHeartbeats 4000000
namespace Bx
variable [TabC]
open PySem PySem.Spec PyProof.Rows L2
section
variable {prog : Program} {w : World} {A : Around} {E : Value → Shared → Prop} {s : Shared} (p q : SK)
theorem zx_call {l1 l2 : Addr} {xs ys : Array Value} {Q : Value → Shared → Prop} (hp : p = skT ∧ q = skL ∨ p = skL ∧ q = skT) (h1 : p.S s.heap l1 xs) (h2 : q.S s.heap l2 ys)
    (h : ∀ h', IsZip h' (s.heap.objs.size + 4) (s.heap.objs.size + 2) (s.heap.objs.size + 3) .none → IsPair h' (s.heap.objs.size + 2) (.ref s.heap.objs.size) (.ref (s.heap.objs.size + 1)) → IsPair h' (s.heap.objs.size + 3) .none .none → p.W h' s.heap.objs.size l1 0 → q.W h' (s.heap.objs.size + 1) l2 0 →
      (∀ c o, s.heap.get? c = some o → h'.get? c = some o) → Q (.ref (s.heap.objs.size + 4)) { s with heap := h' }) : wpAny (model prog w) A (call (.type "zip") [.ref l1, .ref l2]) Q E s := by
  refine callType_new F.called_zip (by decide) (F.typeCall_zip_2 _ _) (F.newCall_zip_2 _ _) (fun obj => F.args_object_init_3 obj _ _) F.entry_zip_new (zx_new p q l1 l2 xs ys hp) ⟨h1, h2, ?_⟩
  have up1 : ∀ (h : Heap) (o : Obj), (h.push o).objs.size = h.objs.size + 1 := fun h o => Heap.size_push ..
  have keep : ∀ (h : Heap) (o : Obj) (c : Addr) (ob : Obj), h.get? c = some ob → (h.push o).get? c = some ob := fun h o c ob x => Heap.get?_push_of_some _ x
  have new : ∀ (h : Heap) (o : Obj) (n : Nat), h.objs.size = n → o.isFreed = false → (h.push o).get? n = some o := fun h o n e f => e ▸ Heap.get?_push_size _ f
  have e4 : (zxH p q s.heap l1 l2).objs.size = s.heap.objs.size + 4 := by simp only [up1]
  show _ ∧ _
  rw [e4]
  refine ⟨⟨_, new _ _ _ e4 rfl, rfl⟩, h _ ?_ ?_ ?_ ⟨{ cls := .type p.wk, data := .fields #[.ref l1, .int 0 0] }, ?_, rfl, rfl⟩ ⟨{ cls := .type q.wk, data := .fields #[.ref l2, .int 0 0] }, ?_, rfl, rfl⟩ fun c o x => keep _ _ _ _ (keep _ _ _ _ (keep _ _ _ _ (keep _ _ _ _ (keep _ _ _ _ x))))⟩
  · have x := new (zxH p q s.heap l1 l2) { cls := .type "zip", data := .fields #[.none, .bool false, .bool false, .ref (s.heap.objs.size + 2), .ref (s.heap.objs.size + 3)] } _ e4 rfl
    simp only [up1] at x ⊢
    exact x
  · refine keep _ _ _ _ (keep _ _ _ _ ?_)
    have x := new ((s.heap.push { cls := .type p.wk, data := .fields #[.ref l1, .int 0 0] }).push { cls := .type q.wk, data := .fields #[.ref l2, .int 0 0] }) { cls := .type "tuple", data := .seq #[.ref s.heap.objs.size, .ref (s.heap.objs.size + 1)] } (s.heap.objs.size + 2) (by simp only [up1]) rfl
    simp only [up1] at x ⊢
    exact x
  · exact keep _ _ _ _ (new _ _ _ (by simp only [up1]) rfl)
  · exact keep _ _ _ _ (keep _ _ _ _ (keep _ _ _ _ (keep _ _ _ _ (new _ _ _ rfl rfl))))
  · exact keep _ _ _ _ (keep _ _ _ _ (keep _ _ _ _ (new _ _ _ (by simp only [up1]) rfl)))
def ItX (K : PySem.W.Frag) (p q : SK) (a b : Addr) : It :=
  ⟨fun i H => ∃ (xs ys : List V) (x y : V), p.V K H a xs ∧ q.V K H b ys ∧ xs[i]? = some x ∧ ys[i]? = some y, fun i H v H' => ∃ T x y, v = .ref T ∧ H T = none ∧ H' = upd H T (.tup [x, y]) ∧ (∀ xs, p.V K H a xs → xs[i]? = some x) ∧ ∀ ys, q.V K H b ys → ys[i]? = some y, fun i H => ∃ xs ys : List V, p.V K H a xs ∧ q.V K H b ys ∧ (xs.length ≤ i ∨ ys.length ≤ i)⟩
theorem five {α : Type} {a b c d e x : α} {P : α → Prop} (h : x ∈ [a, b, c, d, e]) (ha : P a) (hb : P b) (hc : P c) (hd : P d) (he : P e) : P x := by
  simp only [List.mem_cons, List.not_mem_nil, or_false] at h
  rcases h with rfl | rfl | rfl | rfl | rfl <;> assumption
theorem turn_X {P : Program} {w : World} {K : PySem.W.Frag} {elts : List Expr} {kk : Nat} {tpos : Pos} {a b z TI TO i1 i2 : Addr} (D : ZipApart z TI TO i1 i2 a b) :
    Turn P w K (.Tuple elts kk tpos) (ItX K p q a b) [z, TI, TO, i1, i2] z (fun i h => IsZip h z TI TO .none ∧ IsPair h TI (.ref i1) (.ref i2) ∧ (∃ x y, IsPair h TO x y) ∧ p.W h i1 a i ∧ q.W h i2 b i) where
  mem := List.mem_cons_self
  obj := fun i h ⟨hz, hI, ⟨x, y, hO⟩, ⟨o1, e1, _, d1⟩, ⟨o2, e2, _, d2⟩⟩ c hc => five (P := fun c => ∃ o, h.get? c = some o ∧ ∀ v, o.data ≠ .cell v) hc ⟨_, hz, fun v q => nomatch q⟩ ⟨_, hI, fun v q => nomatch q⟩ ⟨_, hO, fun v q => nomatch q⟩ ⟨o1, e1, fun v q => by rw [d1] at q; cases q⟩ ⟨o2, e2, fun v q => by rw [d2] at q; cases q⟩
  keep := fun i h h' ⟨hz, hI, ⟨x, y, hO⟩, w1, w2⟩ k => ⟨k z (by simp) _ hz, k TI (by simp) _ hI, ⟨x, y, k TO (by simp) _ hO⟩, w1.at fun o q => k i1 (by simp) o q, w2.at fun o q => k i2 (by simp) o q⟩
  item := by
    intro X hP hw hK hc i pins s σ H E I hf ⟨hz, hI, ⟨x0, y0, hO⟩, w1, w2⟩ ⟨xs, ys, x, y, q1, q2, hx, hy⟩
    subst hP hw hK
    obtain ⟨its, r1, s1⟩ := p.read I q1
    obtain ⟨its2, r2, s2⟩ := q.read I q2
    obtain ⟨u, hu, ru⟩ := r1.get hx
    obtain ⟨u2, hu2, ru2⟩ := r2.get hy
    have ltz : z < s.heap.objs.size := Heap.lt_size hz
    refine zx_next p q D hz hI hO w1 w2 s1 s2 (x := u) (y := u2) (by simpa using hu) (by simpa using hu2) fun h' z' o' v1 v2 hT hsz hk => ?_
    refine ⟨_, rfl, wpAny_letOwnedTupleGo_zip (s := { s with heap := h' }) z' fun g z'' sb => ?_⟩
    have T2 : g.get? s.heap.objs.size = some { cls := .type "tuple", data := .seq #[u, u2] } := (sb.2 _ (Nat.ne_of_gt ltz)).trans hT
    have new : ObjOk X.prog X.w (upd H s.heap.objs.size (.tup [x, y])) g s.heap.objs.size (.tup [x, y]) := ⟨by show 2 ≤ sizeLine; decide, [u, u2], .cons ru (.cons ru2 .nil), ⟨_, T2, rfl, _, rfl⟩⟩
    have I1 : Inv X pins σ (upd H s.heap.objs.size (.tup [x, y])) { s with heap := g } := I.turnedNew (t' := s.toks) (ch := [z, TI, TO, i1, i2]) (fun c o hb q => (sb.2 c (fun q' => hb (by simp [q']))).trans (hk c o (fun q' => hb (by simp [q'])) (fun q' => hb (by simp [q'])) (fun q' => hb (by simp [q'])) (fun q' => hb (by simp [q'])) q)) hf (Nat.le_refl _) new
    refine ⟨.ref s.heap.objs.size, _, I1, rfl, ⟨_, x, y, rfl, I.hok.fresh (Nat.le_refl _), rfl, fun l hl => by rw [p.inj I hl q1]; exact hx, fun l hl => by rw [q.inj I hl q2]; exact hy⟩, ⟨z'', (sb.2 _ D.TIz).trans (hk _ _ D.TIz D.TITO D.TIi1 D.TIi2 hI), ⟨u, u2, (sb.2 _ D.TOz).trans o'⟩, v1.at fun o q => (sb.2 _ D.i1z).trans q, v2.at fun o q => (sb.2 _ D.i2z).trans q⟩, fun c hcm => ?_⟩
    have hlt : c < s.heap.objs.size := five (P := fun c => c < s.heap.objs.size) hcm ltz (Heap.lt_size hI) (Heap.lt_size hO) (let ⟨_, e1, _⟩ := w1; Heap.lt_size e1) (let ⟨_, e2, _⟩ := w2; Heap.lt_size e2)
    rw [upd_ne (Nat.ne_of_lt hlt)]; exact (hf c hcm).1
  done := by
    intro X hP hw hK hc i pins s σ H E I hf ⟨hz, hI, ⟨x0, y0, hO⟩, w1, w2⟩ ⟨xs, ys, q1, q2, hend⟩
    subst hP hw hK
    obtain ⟨its, r1, s1⟩ := p.read I q1
    obtain ⟨its2, r2, s2⟩ := q.read I q2
    have l1 := r1.length
    have l2 := r2.length
    have he : its.toArray[i]? = none ∨ its2.toArray[i]? = none := hend.imp (fun q => by simp; omega) (fun q => by simp; omega)
    exact zx_stop p q (I.ok.hd hc) D hz hI hO w1 w2 s1 s2 he fun h' hk => ⟨rfl, I.turnedL (t' := s.toks) (ch := [z, TI, TO, i1, i2]) (fun c o hb q => hk c o (fun q' => hb (by simp [q'])) (fun q' => hb (by simp [q'])) (fun q' => hb (by simp [q'])) (fun q' => hb (by simp [q'])) q) hf⟩
  self := fun A i s Q E st h => wpAny_pyIter_zip st.1 h
def iZipX (K : PySem.W.Frag) (ta : TA) : TI := fun σ H R => ta σ H fun vs H1 => ∃ a b xs ys, vs = [.ref a, .ref b] ∧ ((SqT K H1 a xs ∧ SqL K H1 b ys ∧ R (ItX K skT skL a b) H1) ∨ (SqL K H1 a xs ∧ SqT K H1 b ys ∧ R (ItX K skL skT a b) H1) ∨ (SqL K H1 a xs ∧ SqL K H1 b ys ∧ R (Itz K a b) H1) ∨ (SqT K H1 a xs ∧ SqT K H1 b ys ∧ R (RZ.ItzT K a b) H1))
theorem pi_zipX {X : Cx} {e e2 : Expr} {ta : TA} {p pos tpos : Pos} {elts : List Expr} {kk : Nat} (hg : Gl X "zip") (hm : X.mg "zip" = none) (ha : PA X [e, e2] ta)
    (hs : starEach [e, e2] X.env = (false, eval e X.env) :: starEach [e2] X.env := by rfl) (hpl : (backTo pos (starEach [e2] X.env)).any (·.1) = false := by rfl) : PI X (.Tuple elts kk tpos) (.Call (.Name "zip" p) [e, e2] [] pos) (iZipX X.K ta) := by
  refine ⟨fun pins s σ H R I h => Call_ (ld_blt I hg hm PyProof.Rows.boot_zip (PyProof.Rows.callWith_type1 (thn (ha.run pos pins s σ H _ I h) fun us s1 ⟨vs, H1, I1, r1, q1⟩ => ?_) hs hpl))⟩
  obtain ⟨a, b, xs, ys, ex, q1⟩ := q1
  subst ex
  cases r1 with | cons r rr => cases rr with | cons r' rr => cases rr; cases r; cases r'; (
    have lt4 : ∀ c, c ∈ [s1.heap.objs.size + 4, s1.heap.objs.size + 2, s1.heap.objs.size + 3, s1.heap.objs.size, s1.heap.objs.size + 1] → FpOk X pins H1 c := fun c hcm =>
      five (P := fun c => s1.heap.objs.size ≤ c → FpOk X pins H1 c) hcm (fun h => I1.fpOk h (I1.hok.fresh h)) (fun h => I1.fpOk h (I1.hok.fresh h)) (fun h => I1.fpOk h (I1.hok.fresh h)) (fun h => I1.fpOk h (I1.hok.fresh h)) (fun h => I1.fpOk h (I1.hok.fresh h))
        (five (P := fun c => s1.heap.objs.size ≤ c) hcm (Nat.le_add_right _ _) (Nat.le_add_right _ _) (Nat.le_add_right _ _) (Nat.le_refl _) (Nat.le_add_right _ _))
    have mixed : ∀ (p q : SK), (p = skT ∧ q = skL ∨ p = skL ∧ q = skT) → p.V X.K H1 a xs → q.V X.K H1 b ys → R (ItX X.K p q a b) H1 → wpAny (model X.prog X.w) X.A (call (.type "zip") [.ref a, .ref b]) (fun v s2 => wpAny (model X.prog X.w) X.A (pyIter v) (PIE X pins σ (.Tuple elts kk tpos) R) X.xe s2) X.xe s1 := fun p q hp v1 v2 hR => by
      obtain ⟨its, _, p1⟩ := p.read I1 v1
      obtain ⟨its2, _, p2⟩ := q.read I1 v2
      refine zx_call p q hp p1 p2 fun h' z' hI hO w1 w2 hk => wpAny_pyIter_zip z' ?_
      exact ⟨s1.heap.objs.size + 4, [s1.heap.objs.size + 4, s1.heap.objs.size + 2, s1.heap.objs.size + 3, s1.heap.objs.size, s1.heap.objs.size + 1], _, _, H1, rfl, I1.kept (t' := s1.toks) hk, turn_X p q (PySem.W.ktu_apart s1.heap.objs.size a b (p.lt p1) (q.lt p2)), ⟨z', hI, ⟨_, _, hO⟩, w1, w2⟩, lt4, hR⟩
    rcases q1 with ⟨v1, v2, q⟩ | ⟨v1, v2, q⟩ | ⟨v1, v2, q⟩ | ⟨v1, v2, q⟩
    · exact mixed skT skL (.inl ⟨rfl, rfl⟩) v1 v2 q
    · exact mixed skL skT (.inr ⟨rfl, rfl⟩) v1 v2 q
    · obtain ⟨its, _, p1, _⟩ := I1.list v1
      obtain ⟨its2, _, p2, _⟩ := I1.list v2
      refine call_zip_2 p1.isList p2.isList fun h' z' hI hO w1 w2 _ hk => wpAny_pyIter_zip z' ?_
      exact ⟨s1.heap.objs.size + 4, [s1.heap.objs.size + 4, s1.heap.objs.size + 2, s1.heap.objs.size + 3, s1.heap.objs.size, s1.heap.objs.size + 1], _, _, H1, rfl, I1.kept (t' := s1.toks) hk, turn_zip (PySem.W.ktu_apart s1.heap.objs.size a b p1.lt p2.lt), ⟨z', hI, ⟨_, _, hO⟩, w1, w2⟩, lt4, q⟩
    · obtain ⟨its, _, p1, _⟩ := I1.tuple v1
      obtain ⟨its2, _, p2, _⟩ := I1.tuple v2
      refine RZ.call_zipT (show s1.heap.IsTuple a its.toArray from p1) (show s1.heap.IsTuple b its2.toArray from p2) fun h' z' hI hO w1 w2 _ hk => wpAny_pyIter_zip z' ?_
      exact ⟨s1.heap.objs.size + 4, [s1.heap.objs.size + 4, s1.heap.objs.size + 2, s1.heap.objs.size + 3, s1.heap.objs.size, s1.heap.objs.size + 1], _, _, H1, rfl, I1.kept (t' := s1.toks) hk, RZ.turn_zipT (PySem.W.ktu_apart s1.heap.objs.size a b (let ⟨_, e, _⟩ := p1; Heap.lt_size e) (let ⟨_, e, _⟩ := p2; Heap.lt_size e)), ⟨z', hI, ⟨_, _, hO⟩, w1, w2⟩, lt4, q⟩)
end
theorem items_X {K : PySem.W.Frag} {p q : SK} {H : Hp} {O S : Addr → Prop} {a b : Addr} {vs ws : List V} {xs ys : List D} (hS : Lsts H O S) (h1 : ∀ H1 O1, Ext S H O H1 O1 → p.V K H1 a vs) (h2 : ∀ H1 O1, Ext S H O H1 O1 → q.V K H1 b ws) (r1 : Reps K H O vs xs) (r2 : Reps K H O ws ys) : Items K (ItX K p q a b) H O S (zipD xs ys) := by
  intro H1 O1 own e i
  have q1 := h1 H1 O1 e
  have q2 := h2 H1 O1 e
  have s1 := r1.ext e hS
  have s2 := r2.ext e hS
  refine ⟨fun d hd => ?_, fun hl => ⟨vs, ws, q1, q2, by rw [r1.length, r2.length]; exact zipD_len hl⟩⟩
  obtain ⟨x, y, rfl, hx, hy⟩ := zipD_get hd
  obtain ⟨v, hv, rv⟩ := s1.get hx
  obtain ⟨w, hw, rw'⟩ := s2.get hy
  refine ⟨⟨vs, ws, v, w, q1, q2, hv, hw⟩, fun z H2 ⟨T, v', w', ez, hT, eh, g1, g2⟩ => ?_⟩
  subst ez eh
  have e1 := g1 vs q1
  have e2 := g2 ws q2
  rw [hv] at e1; cases e1
  rw [hw] at e2; cases e2
  exact ⟨ext_new hT, own_new own hT, .tup (.of upd_same) (Reps.fresh hT (.cons rv (.cons rw' .nil)))⟩
def gZX (ds : List D) (k : List D → Prop) : Prop := match ds with
  | [.tup xs, .tup ys] => k (zipD xs ys)
  | [.tup xs, .lst _ ys] => k (zipD xs ys)
  | [.tup xs, .scr ys] => k (zipD xs ys)
  | [.lst _ xs, .tup ys] => k (zipD xs ys)
  | [.scr xs, .tup ys] => k (zipD xs ys)
  | [.lst _ xs, .lst _ ys] => k (zipD xs ys)
  | [.scr xs, .lst _ ys] => k (zipD xs ys)
  | [.lst _ xs, .scr ys] => k (zipD xs ys)
  | _ => False
def kZX (k : List D → Rho → Prop) (ds : List D) (ρ : Rho) : Prop := gZX ds (kVs k ρ)
def iZX (w : DA) (k : List D → Rho → Prop) (ρ : Rho) : Prop := w (kTake (kZX k)) ρ
section
variable {X : Cx} {e e2 : Expr} {pos p : Pos}
theorem si_zipX {elts : List Expr} {kk : Nat} {tpos : Pos} {w : DA} (hg : Gl X "zip") (hm : X.mg "zip" = none) (h : SA X [e, e2] w)
    (hs : starEach [e, e2] X.env = (false, eval e X.env) :: starEach [e2] X.env := by rfl) (hpl : (backTo pos (starEach [e2] X.env)).any (·.1) = false := by rfl) : SI X (.Tuple elts kk tpos) (.Call (.Name "zip" p) [e, e2] [] pos) (iZX w) := by
  obtain ⟨t, pt, f⟩ := h
  refine ⟨_, pi_zipX hg hm pt hs hpl, fun σ H ρ O k R s hw q => ?_⟩
  refine f σ H ρ O _ _ s hw fun vs H1 ρ1 O1 os a c _ hk => ?_
  obtain ⟨ds, ρ2, O2, l, a2, r, hk⟩ := take_ok s c (fun _ z => z) a hk
  have L := a2.sr.lsts
  have tl : ∀ {d e : D} {xs ys : List D}, ds = [d, e] → d = .tup xs → e.sql = some ys → k (zipD xs ys) ρ2 → iZipX X.K (fun _ _ Q => Q vs H1) σ H1 R := fun {d e xs ys} e0 e1 e2 hq => by
    subst e0 e1
    obtain ⟨u, u', rfl, h1, h2⟩ := r.two
    cases h1 with
    | tup g1 s1 =>
      obtain ⟨b', bs', rfl, p2, s2⟩ := h2.sqL L e2
      exact ⟨_, b', _, bs', rfl, .inl ⟨g1, p2 _ _ .refl, q _ H1 ρ2 O2 _ a2 (items_X (p := skT) (q := skL) L (fun H1 O1 e => sqT_ext e L g1) p2 s1 s2) hq⟩⟩
  have lt : ∀ {d e : D} {xs ys : List D}, ds = [d, e] → d.sql = some xs → e = .tup ys → k (zipD xs ys) ρ2 → iZipX X.K (fun _ _ Q => Q vs H1) σ H1 R := fun {d e xs ys} e0 e1 e2 hq => by
    subst e0 e2
    obtain ⟨u, u', rfl, h1, h2⟩ := r.two
    obtain ⟨b', bs', rfl, p2, s2⟩ := h1.sqL L e1
    cases h2 with
    | tup g1 s1 => exact ⟨b', _, bs', _, rfl, .inr (.inl ⟨p2 _ _ .refl, g1, q _ H1 ρ2 O2 _ a2 (items_X (p := skL) (q := skT) L p2 (fun H1 O1 e => sqT_ext e L g1) s2 s1) hq⟩)⟩
  have ll : ∀ {d e : D} {xs ys : List D}, ds = [d, e] → d.sql = some xs → e.sql = some ys → k (zipD xs ys) ρ2 → iZipX X.K (fun _ _ Q => Q vs H1) σ H1 R := fun {d e xs ys} e0 e1 e2 hq => by
    subst e0
    obtain ⟨u, u', rfl, h1, h2⟩ := r.two
    obtain ⟨b, bs, rfl, p1, s1⟩ := h1.sqL L e1
    obtain ⟨b', bs', rfl, p2, s2⟩ := h2.sqL L e2
    exact ⟨b, b', bs, bs', rfl, .inr (.inr (.inl ⟨p1 _ _ .refl, p2 _ _ .refl, q _ H1 ρ2 O2 _ a2 (items_Z L p1 p2 s1 s2) hq⟩))⟩
  have hk : gZX ds (kVs k ρ2) := hk
  unfold gZX at hk
  split at hk
  · obtain ⟨u, u', rfl, h1, h2⟩ := r.two
    cases h1 with
    | tup g1 s1 =>
      cases h2 with
      | tup g2 s2 => exact ⟨_, _, _, _, rfl, .inr (.inr (.inr ⟨g1, g2, q _ H1 ρ2 O2 _ a2 (items_ZT L g1 g2 s1 s2) hk⟩))⟩
  · exact tl rfl rfl rfl hk
  · exact tl rfl rfl rfl hk
  · exact lt rfl rfl rfl hk
  · exact lt rfl rfl rfl hk
  · exact ll rfl rfl rfl hk
  · exact ll rfl rfl rfl hk
  · exact ll rfl rfl rfl hk
  · exact hk.elim
end
end Bx
namespace Bx
variable [TabC]
open PySem PySem.Spec PyProof.Rows L2
mutual
def KD (K : PySem.W.Frag) : D → Value → Prop
  | .non, u => u = .none
  | .bl b, u => u = .bool b
  | .int i, u => ∃ t, u = .int i t
  | .str x, u => ∃ t, u = .str x t
  | .tup ds, u => ∃ a o its n, u = .ref a ∧ K.lookup a = some o ∧ o.cls = .type "tuple" ∧ o.data = .seq its n ∧ its.size ≤ sizeLine ∧ KDs K ds its.toList
  | _, _ => False
def KDs (K : PySem.W.Frag) : List D → List Value → Prop
  | [], us => us = []
  | d :: r, us => ∃ u w, us = u :: w ∧ KD K d u ∧ KDs K r w
end
mutual
theorem KD.rep {K : PySem.W.Frag} : ∀ (d : D) (u : Value), KD K d u → ∃ v, RelV v u ∧ ∀ H O, Rep K H O v d
  | .non, u, h => ⟨.non, h, fun _ _ => .non⟩
  | .bl b, u, h => ⟨.bl b, h, fun _ _ => .bl b⟩
  | .int i, u, h => ⟨.int i, h, fun _ _ => .int i⟩
  | .str x, u, h => ⟨.str x, h, fun _ _ => .str x⟩
  | .tup ds, u, h => by
    unfold KD at h
    obtain ⟨a, o, its, n, rfl, h1, h2, h3, h4, h5⟩ := h
    obtain ⟨vs, r, p⟩ := KDs.reps ds _ h5
    exact ⟨.ref a, rfl, fun H O => .tup (.inr ⟨o, its, n, h1, h2, h3, h4, r⟩) (p H O)⟩
  | .lst _ _, u, h => by unfold KD at h; exact h.elim
  | .scr _, u, h => by unfold KD at h; exact h.elim
  | .dic _ _, u, h => by unfold KD at h; exact h.elim
  | .odc _ _, u, h => by unfold KD at h; exact h.elim
  | .obj _ _ _, u, h => by unfold KD at h; exact h.elim
theorem KDs.reps {K : PySem.W.Frag} : ∀ (ds : List D) (us : List Value), KDs K ds us → ∃ vs, Vals vs us ∧ ∀ H O, Reps K H O vs ds
  | [], us, h => by
    unfold KDs at h
    subst h
    exact ⟨[], .nil, fun _ _ => .nil⟩
  | d :: r, us, h => by
    unfold KDs at h
    obtain ⟨u, w, rfl, h1, h2⟩ := h
    obtain ⟨v, rv, pv⟩ := KD.rep d u h1
    obtain ⟨vs, rs, ps⟩ := KDs.reps r w h2
    exact ⟨v :: vs, .cons rv rs, fun H O => .cons (pv H O) (ps H O)⟩
end
theorem se_kd {X : Cx} {x : Str} {d : D} {pos : Pos} (hg : Gl X x) (h : ∃ u, X.mg x = some u ∧ KD X.K d u) (hd : (x == ("__debug__" : Str)) = false := by decide) : SE X (.Name x pos) (dC d) := by
  obtain ⟨u, hm, k⟩ := h
  obtain ⟨v, r, p⟩ := KD.rep d u k
  exact ⟨_, pe_glob hg hm r hd, fun σ H ρ O k R s w q => q v H ρ O d (.refl s) (.rep (p H O)) w⟩
end Bx
namespace Bx
variable [TabC]
open PySem PySem.Spec PyProof.Rows L2
abbrev dLe (a b : D) : Bool := PySem.W.dataLe false D.pd a b
def srtOk (ds : List D) : Prop := PySem.W.AllAlike (ds.map D.pd) ∧ PySem.W.Sortable (ds.map D.pd) ∧ ∀ d ∈ ds, d.pd.depth ≤ 60
mutual
theorem alike_ndc : ∀ {d : D}, PySem.W.alike d.pd d.pd = true → d.ndc = true
  | .non, _ | .bl _, _ | .int _, _ | .str _, _ => by simp [D.ndc]
  | .tup xs, h => by
    simp only [D.pd, PySem.W.alike] at h
    simp only [D.ndc]
    exact alikes_ndc h
  | .lst _ xs, h => by
    simp only [D.pd, PySem.W.alike] at h
    simp only [D.ndc]
    exact alikes_ndc h
  | .scr xs, h => by
    simp only [D.pd, PySem.W.alike] at h
    simp only [D.ndc]
    exact alikes_ndc h
  | .dic _ _, h => by simp [D.pd, PySem.W.alike] at h
  | .odc _ _, h => by simp [D.pd, PySem.W.alike] at h
  | .obj _ _ _, h => by simp [D.pd, PySem.W.alike] at h
theorem alikes_ndc : ∀ {ds : List D}, PySem.W.alikeAll (D.pds ds) (D.pds ds) = true → D.ndcs ds = true
  | [], _ => by simp [D.ndcs]
  | x :: r, h => by
    simp only [D.pds, PySem.W.alikeAll, Bool.and_eq_true] at h
    simp only [D.ndcs, Bool.and_eq_true]
    exact ⟨alike_ndc h.1, alikes_ndc h.2⟩
end
section
open PySem.Calls PySem.W
variable {prog : Program} {w : World} {A : Around} {E : Value → Shared → Prop} {s : Shared}
end
section
variable {X : Cx}
def gSorted : GL
  | [d], k => onSome d.seq fun xs => srtOk xs ∧ k (.lst true (xs.mergeSort dLe))
  | _, _ => False
end
end Bx
namespace Bx
variable [TabC]
open PySem PySem.Spec PyProof.Rows L2
section
variable {X : Cx} {o e : Expr} {apos cpos : Pos}
def kExt (i : Nat) (k : D → Rho → Prop) (d : D) (ρ : Rho) : Prop := onSome (ownL ρ i) fun xs => match d with
  | .lst _ ys => xs.length + ys.length ≤ sizeLine ∧ k .non (rset ρ i (some (.lst true (xs ++ ys))))
  | _ => False
def dExt (i : Nat) (w : DE) (k : D → Rho → Prop) (ρ : Rho) : Prop := onSome (ownL ρ i) fun _ => w (kExt i k) ρ
end
end Bx
namespace Bx
variable [TabC]
open PySem PySem.Spec PyProof.Rows L2
section
variable {X : Cx} {pos : Pos}
structure SDs (X : Cx) (pos : Pos) (keys : List (Option Expr)) (values : List Expr) (ents : List (Str × Int)) : Prop where
  run : PPs X pos keys values (ents.map fun p => (tC (.str p.1), tC (.int p.2)))
end
def asKV : List D → Option (List (Key × D))
  | [] => some []
  | .tup [.int i, v] :: r => (asKV r).map ((.inl i, v) :: ·)
  | .tup [.str i, v] :: r => (asKV r).map ((.inr i, v) :: ·)
  | _ :: _ => none
def putD (l : List (Key × D)) (k : Key) (v : D) : List (Key × D) :=
  if (l.any fun kv => decide (kv.1 = k)) = true then l.map (fun kv => if kv.1 = k then (kv.1, v) else kv) else l ++ [(k, v)]
def mergeD (l more : List (Key × D)) : List (Key × D) := more.foldl (fun acc kv => putD acc kv.1 kv.2) l
def dicD (l : List (Key × D)) : D := .dic (l.map (·.1)) (l.map (·.2))
section
variable {K : PySem.W.Frag} {H : Hp} {O : Addr → Prop}
abbrev RK (K : PySem.W.Frag) (H : Hp) (O : Addr → Prop) : List (Key × V) → List (Key × D) → Prop := Paired fun a b => a.1 = b.1 ∧ Rep K H O a.2 b.2
theorem RK.keys : ∀ {kvs : List (Key × V)} {l : List (Key × D)}, RK K H O kvs l → kvs.map (·.1) = l.map (·.1)
  | _, _, .nil => rfl
  | _, _, .cons h t => by rw [List.map_cons, List.map_cons, h.1, RK.keys t]
theorem RK.vals : ∀ {kvs : List (Key × V)} {l : List (Key × D)}, RK K H O kvs l → Reps K H O (kvs.map (·.2)) (l.map (·.2))
  | _, _, .nil => .nil
  | _, _, .cons h t => .cons h.2 (RK.vals t)
theorem RK.any {k : Key} : ∀ {kvs : List (Key × V)} {l : List (Key × D)}, RK K H O kvs l → (kvs.any fun kv => decide (kv.1 = k)) = l.any fun kv => decide (kv.1 = k)
  | _, _, .nil => rfl
  | _, _, .cons h t => by rw [List.any_cons, List.any_cons, h.1, RK.any t]
theorem RK.snoc {a : Key × V} {b : Key × D} (h : a.1 = b.1 ∧ Rep K H O a.2 b.2) : ∀ {kvs : List (Key × V)} {l : List (Key × D)}, RK K H O kvs l → RK K H O (kvs ++ [a]) (l ++ [b])
  | _, _, .nil => .cons h .nil
  | _, _, .cons g t => .cons g (RK.snoc h t)
theorem RK.upd {k : Key} {v : V} {d : D} (r : Rep K H O v d) : ∀ {kvs : List (Key × V)} {l : List (Key × D)}, RK K H O kvs l → RK K H O (kvs.map fun kv => if kv.1 = k then (kv.1, v) else kv) (l.map fun kv => if kv.1 = k then (kv.1, d) else kv)
  | _, _, .nil => .nil
  | _, _, .cons (a := a) (b := b) h t => by
    rw [List.map_cons, List.map_cons]
    refine .cons ?_ (RK.upd r t)
    by_cases e : a.1 = k
    · rw [if_pos e, if_pos (h.1 ▸ e)]; exact ⟨h.1, r⟩
    · rw [if_neg e, if_neg (h.1 ▸ e)]; exact h
theorem RK.put {k : Key} {v : V} {d : D} (r : Rep K H O v d) {kvs : List (Key × V)} {l : List (Key × D)} (h : RK K H O kvs l) : RK K H O (putK kvs k v) (putD l k d) := by
  unfold putK putD
  rw [h.any]
  split
  · exact h.upd r
  · exact h.snoc ⟨rfl, r⟩
end
def gDict : GL
  | [d], k => onSome (d.sql.bind asKV) fun l => k (dicD (mergeD [] l))
  | _, _ => False
section
variable {X : Cx}
end
theorem putD_no {l : List (Key × D)} {k : Key} {v : D} (h : k ∉ l.map (·.1)) : putD l k v = l ++ [(k, v)] := by
  unfold putD
  rw [if_neg]
  intro e
  obtain ⟨p, hp, e⟩ := List.any_eq_true.mp e
  exact h (List.mem_map.mpr ⟨p, hp, of_decide_eq_true e⟩)
theorem mergeD_nodup : ∀ {more l : List (Key × D)}, ((l ++ more).map (·.1)).Nodup → mergeD l more = l ++ more
  | [], l, _ => by simp [mergeD]
  | p :: more, l, h => by
    show mergeD (putD l p.1 p.2) more = _
    have hn : p.1 ∉ l.map (·.1) := fun hp => by
      rw [List.map_append] at h
      exact (List.nodup_append.mp h).2.2 _ hp _ (by simp) rfl
    rw [putD_no hn, mergeD_nodup (by simpa using h)]
    simp
end Bx
namespace Bx
variable [TabC]
open PySem PySem.Spec PyProof.Rows L2
section
variable {X : Cx} {x : Str} {p pos : Pos} {k : Nat} {f : Addr} {fd : FuncData} {ps : List Str} {W : PSpec}
end
end Bx
namespace Bx
variable [TabC]
open PySem PySem.Spec PyProof.Rows L2
def D.flat : D → Option V
  | .non => some .non
  | .bl b => some (.bl b)
  | .int i => some (.int i)
  | .str x => some (.str x)
  | _ => none
def asFlat : List D → Option (List V)
  | [] => some []
  | d :: r => d.flat.bind fun v => (asFlat r).map (v :: ·)
theorem Val.flat {K : PySem.W.Frag} {H : Hp} {O : Addr → Prop} {v u : V} {d : D} (h : Val K H O v d) (e : d.flat = some u) : v = u ∧ flatV u = true := by
  cases h with
  | own _ _ r => cases r <;> cases e
  | rep r => cases r <;> cases e <;> exact ⟨rfl, rfl⟩
theorem Reps.flat {K : PySem.W.Frag} {H : Hp} {O : Addr → Prop} : ∀ {vs us : List V} {ds : List D}, Reps K H O vs ds → asFlat ds = some us → vs = us ∧ us.all flatV = true
  | _, _, [], .nil, e => by cases e; exact ⟨rfl, rfl⟩
  | _, _, d :: r, .cons h t, e => by
    obtain ⟨u, e1, e⟩ := Option.bind_eq_some_iff.mp e
    obtain ⟨l, e2, e⟩ := Option.map_eq_some_iff.mp e
    subst e
    obtain ⟨rfl, f1⟩ := Val.flat (.rep h) e1
    obtain ⟨rfl, f2⟩ := Reps.flat t e2
    exact ⟨rfl, by rw [List.all_cons, f1, f2]; rfl⟩
def gInG (neg : Bool) : G2
  | .int i, .dic ks vs, k => k (.bl (xor neg (dget ks vs (.inl i)).isSome))
  | .str i, .dic ks vs, k => k (.bl (xor neg (dget ks vs (.inr i)).isSome))
  | x, .tup ys, k => onSome x.flat fun u => onSome (asFlat ys) fun us => k (.bl (xor neg (inV u us)))
  | x, .lst _ ys, k => onSome x.flat fun u => onSome (asFlat ys) fun us => k (.bl (xor neg (inV u us)))
  | .int i, .odc ks vs, k => k (.bl (xor neg (dget ks vs (.inl i)).isSome))
  | .str i, .odc ks vs, k => k (.bl (xor neg (dget ks vs (.inr i)).isSome))
  | _, _, _ => False
def gIn : G2 := gInG false
def gNin : G2 := gInG true
section
variable {X : Cx}
def rInDK (neg : Bool) : R2 := fun x y H Q => ∃ (a : Addr) (kvs : List (Key × V)) (k : Key), y = .ref a ∧ x = L2.kV k ∧ H a = some (.dK kvs) ∧ Q (.bl (xor neg (valV kvs k).isSome)) H
theorem op_ninDK (hu : X.A.units + 64 < cLine) : OpR X (compareOp .NotIn) (rInDK true) := by
  intro pins s σ H x y v u Q I rx ry h
  obtain ⟨a, kvs, k, rfl, rfl, e, q⟩ := h
  cases ry
  exact d_notIn (by omega) I (DGet.k e) rx fun s3 I3 => ⟨.bl _, H, I3, rfl, by simpa using q⟩
theorem dget_some {K : PySem.W.Frag} {H : Hp} {O : Addr → Prop} : ∀ {kvs : List (Key × V)} {ds : List D} {k : Key}, Reps K H O (kvs.map (·.2)) ds → (dget (kvs.map (·.1)) ds k).isSome = (valV kvs k).isSome
  | [], _, _, .nil => rfl
  | p :: kvs, _, k, .cons r t => by
    simp only [List.map_cons, dget]
    by_cases e : p.1 = k
    · rw [if_pos e, valV_pos e]; rfl
    · rw [if_neg e, valV_neg e]; exact dget_some t
theorem in_ok {neg : Bool} {H : Hp} {O : Addr → Prop} {x y : V} {dx dy : D} {k : D → Prop} {R : VK} (own : Own H O) (vx : Val X.K H O x dx) (vy : Val X.K H O y dy) (g : gInG neg dx dy k) (f : Fin0 X H O k R) :
    rInDK neg x y H R ∨ rIn X.K neg x y H R := by
  have fin : ∀ {u : V} {us vs : List V} {ys : List D} {a : Addr}, dx.flat = some u → asFlat ys = some us → Reps X.K H O vs ys → k (.bl (xor neg (inV u us))) → y = .ref a → (SqL X.K H a vs ∨ SqT X.K H a vs) → rIn X.K neg x y H R := fun {u us vs ys a} e1 e2 r h ey hq => by
    obtain ⟨rfl, f1⟩ := vx.flat e1
    obtain ⟨rfl, f2⟩ := r.flat e2
    refine ⟨a, vs, ey, hq, f1, f2, ?_⟩
    rw [show (if neg = true then !inV x vs else inV x vs) = (neg ^^ inV x vs) by cases neg <;> simp]
    exact fin_id own f (.bl _) h
  unfold gInG at g
  split at g
  · obtain ⟨a, kvs, rfl, h1, rfl, r1⟩ := vy.dic
    refine .inl ⟨a, kvs, .inl _, rfl, vx.int, h1, ?_⟩
    rw [← dget_some r1]
    exact fin_id own f (.bl _) g
  · obtain ⟨a, kvs, rfl, h1, rfl, r1⟩ := vy.dic
    refine .inl ⟨a, kvs, .inr _, rfl, vx.str, h1, ?_⟩
    rw [← dget_some r1]
    exact fin_id own f (.bl _) g
  · obtain ⟨u, e1, g⟩ := g.ex
    obtain ⟨us, e2, g⟩ := g.ex
    obtain ⟨a, vs, rfl, h1, r1⟩ := vy.tup
    exact .inr (fin e1 e2 r1 g rfl (.inr h1))
  · obtain ⟨u, e1, g⟩ := g.ex
    obtain ⟨us, e2, g⟩ := g.ex
    obtain ⟨a, vs, rfl, h1, r1⟩ := vy.lst
    exact .inr (fin e1 e2 r1 g rfl (.inl (.of h1)))
  · obtain ⟨a, kvs, rfl, h1, rfl, r1⟩ := vy.odc
    refine .inl ⟨a, kvs, .inl _, rfl, vx.int, h1, ?_⟩
    rw [← dget_some r1]
    exact fin_id own f (.bl _) g
  · obtain ⟨a, kvs, rfl, h1, rfl, r1⟩ := vy.odc
    refine .inl ⟨a, kvs, .inr _, rfl, vx.str, h1, ?_⟩
    rw [← dget_some r1]
    exact fin_id own f (.bl _) g
  · exact g.elim
theorem opd_nin (hu : X.A.units + 64 < cLine) : OpD X (compareOp .NotIn) gNin :=
  ⟨_, (op_ninDK hu).or op_notIn_seq, fun H O x y dx dy k R own vx vy g f => in_ok own vx vy g f⟩
end
def gStr : GL
  | [.int i], k => i.natAbs.log2 < 1920 ∧ k (.str (toString i))
  | [.str a], k => k (.str a)
  | _, _ => False
section
variable {X : Cx}
end
end Bx
namespace Bx
variable [TabC]
open PySem PySem.Spec PyProof.Rows L2
def gEqE : G2
  | .tup xs, .tup [], k => k (.bl xs.isEmpty)
  | x, y, k => gEq x y k
section
variable {X : Cx}
end
end Bx
namespace Bx
variable [TabC]
open PySem PySem.Spec PyProof.Rows L2
section
variable {K : PySem.W.Frag} {H H1 : Hp} {O O1 S : Addr → Prop} {a : Addr} {vs : List V} {ds : List D}
end
section
variable {X : Cx} {tg e : Expr} {pos p : Pos}
def kRev (k : List D → Rho → Prop) (d : D) (ρ : Rho) : Prop := match d with
  | .tup xs => k xs.reverse ρ
  | .lst _ xs => k xs.reverse ρ
  | _ => False
def iRev (w : DE) (k : List D → Rho → Prop) (ρ : Rho) : Prop := w (kRev k) ρ
end
section
variable {X : Cx} {o : Expr} {pos : Pos} {ios : List Nat}
def kSubs (i : Nat) (b1 b2 : DO) (nx : Rho → Prop) (d : D) (ρ : Rho) : Prop := match d with
  | .tup [x, y] => kSub1 i b1 (kSub1 i b2 nx y) x ρ
  | _ => False
def dSubs (i : Nat) (w : DE) (b1 b2 : DO) (E : DEnds) (ρ : Rho) : Prop := w (kSubs i b1 b2 E.nx) ρ
end
end Bx
namespace HT
open PySem PySem.Spec PyProof.Rows PySem.Builtin
section
variable {prog : Program} {w : World} {A : Around} {E : Value → Shared → Prop} {s : Shared}
end
end HT
namespace Bx
variable [TabC]
open PySem PySem.Spec PyProof.Rows L2
section
variable {X : Cx}
def kRvs (k : D → Rho → Prop) (d : D) (ρ : Rho) : Prop := match d with
  | .tup xs => k (.tup xs.reverse) ρ
  | .lst _ xs => k (.lst true xs.reverse) ρ
  | _ => False
def dRvs (w : DE) (k : D → Rho → Prop) (ρ : Rho) : Prop := w (kRvs k) ρ
end
end Bx
namespace Bx
variable [TabC]
open PySem PySem.Spec PyProof.Rows L2
section
variable {X : Cx} {a b o : Expr} {pos apos cpos : Pos}
def kUpper (k : D → Rho → Prop) (d : D) (ρ : Rho) : Prop := match d with
  | .str x => x.length ≤ 5592405 ∧ k (.str (Txt.upper x)) ρ
  | _ => False
def dUpper (w : DE) (k : D → Rho → Prop) (ρ : Rho) : Prop := w (kUpper k) ρ
def D.isDic : D → Bool
  | .dic _ _ => true
  | .odc _ _ => true
  | _ => false
def dgetO (ks : List Key) (vs : List D) (q : Key) : D := (dget ks vs q).getD .non
def gGet : G2
  | .dic ks vs, .str i, k => k (dgetO ks vs (.inr i))
  | .odc ks vs, .str i, k => k (dgetO ks vs (.inr i))
  | .dic ks vs, .int i, k => k (dgetO ks vs (.inl i))
  | .odc ks vs, .int i, k => k (dgetO ks vs (.inl i))
  | _, _, _ => False
def kGet2 (x : DOp) (k : D → Rho → Prop) (y : DOp) (ρ : Rho) : Prop := onSome (rd ρ x) fun dx => onSome (rd ρ y) fun dy => gGet dx dy (kV k ρ)
def kGet1 (b : DO) (k : D → Rho → Prop) (x : DOp) (ρ : Rho) : Prop := onSome (rd ρ x) fun dx => dx.isDic = true ∧ b (kGet2 x k) ρ
def dGet1 (wa wb : DO) (k : D → Rho → Prop) (ρ : Rho) : Prop := wa (kGet1 wb k) ρ
end
end Bx
namespace Bx
variable [TabC]
open PySem PySem.Spec PyProof.Rows L2
def gBool : GL
  | [.int i], k => k (.bl (i != 0))
  | [.bl b], k => k (.bl b)
  | _, _ => False
section
variable {X : Cx}
end
end Bx
namespace Bx
variable [TabC]
open PySem PySem.Spec PyProof.Rows L2
section
variable {X : Cx} {e : Expr} {p pos : Pos}
def kIsi2 (T U : String) (k : D → Rho → Prop) (x : DOp) (ρ : Rho) : Prop := onSome (rd ρ x) fun d => k (.bl (isTy d.ty T || isTy d.ty U)) ρ
def dIsi2 (T U : String) (o : DO) (k : D → Rho → Prop) (ρ : Rho) : Prop := o (kIsi2 T U k) ρ
end
end Bx
namespace Bx
variable [TabC]
open PySem PySem.Spec PyProof.Rows L2
def keyOk (W : PSpec) (kf : D → D) (xs : List D) : Prop := ∀ x ∈ xs, W [x] (fun r _ => r = kf x) ∧ (kf x).own = false
section
variable {X : Cx} {k : Nat} {f : Addr} {fd : FuncData} {x : Str} {W : PSpec}
def gSortK (W : PSpec) : GL
  | [d], k => onSome d.sql fun xs => ∃ kf : D → D, keyOk W kf xs ∧ srtOk (xs.map kf) ∧ k (.lst true (xs.mergeSort fun a b => dLe (kf a) (kf b)))
  | _, _ => False
end
end Bx
namespace Bx
variable [TabC]
open PySem PySem.Spec PyProof.Rows L2
def shOk (d : D) : Prop := d.ndc = true ∧ d.pd.showable = true ∧ d.pd.depth ≤ 60 ∧ d.pd.shown.length ≤ sizeLine
mutual
theorem ndc_nod : ∀ {d : D}, d.ndc = true → d.pd.hasDict = false
  | .non, _ | .bl _, _ | .int _, _ | .str _, _ => by simp [D.pd, PyData.hasDict]
  | .tup xs, h => by
    simp only [D.ndc] at h
    simp only [D.pd, PyData.hasDict]
    exact ndcs_nod h
  | .lst _ xs, h => by
    simp only [D.ndc] at h
    simp only [D.pd, PyData.hasDict]
    exact ndcs_nod h
  | .scr xs, h => by
    simp only [D.ndc] at h
    simp only [D.pd, PyData.hasDict]
    exact ndcs_nod h
  | .dic _ _, h => by simp [D.ndc] at h
  | .odc _ _, h => by simp [D.ndc] at h
  | .obj _ _ _, h => by simp [D.ndc] at h
theorem ndcs_nod : ∀ {ds : List D}, D.ndcs ds = true → PyData.hasDictAll (D.pds ds) = false
  | [], _ => by simp [D.pds, PyData.hasDictAll]
  | x :: r, h => by
    simp only [D.ndcs, Bool.and_eq_true] at h
    simp only [D.pds, PyData.hasDictAll, Bool.or_eq_false_iff]
    exact ⟨ndc_nod h.1, ndcs_nod h.2⟩
end
def isSeq : D → Bool
  | .tup _ => true
  | .lst _ _ => true
  | _ => false
def gStr2 : GL
  | [.int i], k => i.natAbs.log2 < 1920 ∧ k (.str (toString i))
  | [.str a], k => k (.str a)
  | [.tup xs], k => shOk (.tup xs) ∧ k (.str (D.tup xs).pd.shown)
  | [.lst o xs], k => shOk (.lst o xs) ∧ k (.str (D.lst o xs).pd.shown)
  | _, _ => False
def gRepr : GL
  | [.int i], k => i.natAbs.log2 < 1920 ∧ k (.str (toString i))
  | [.non], k => k (.str "None")
  | [.bl b], k => k (.str (if b then "True" else "False"))
  | [.str a], k => (reprText a).length ≤ sizeLine ∧ k (.str (reprText a))
  | [.tup xs], k => shOk (.tup xs) ∧ k (.str (D.tup xs).pd.shown)
  | [.lst o xs], k => shOk (.lst o xs) ∧ k (.str (D.lst o xs).pd.shown)
  | _, _ => False
def rShow (X : Cx) : List V → Hp → VK → Prop := fun xs H Q => ∃ (a : Addr) (d : D), xs = [.ref a] ∧ Dp X.K H (.ref a) d.pd ∧ shOk d ∧ Q (.str d.pd.shown) H
section
variable {X : Cx}
theorem cr_str {k : Nat} (hr : RoomG k X.A) : CallR X (.type "str") (rShow X) := by
  intro pins s σ H vs us Q I r h
  obtain ⟨a, d, rfl, hd, ⟨h1, h2, h3, h4⟩, q⟩ := h
  obtain rfl := Vals.ref1 r
  obtain ⟨as, rd⟩ := Dp.reads I _ _ _ hd (show RelV (.ref a) (.ref a) from rfl)
  exact str_of_reads rd h2 (PyData.noDict_hsm (ndc_nod h1)) hr.gd (by have := hr.units; omega) (fun _ _ e => e) (fun h' u tk hk => ⟨.str _, H, I.kept hk, ⟨u, rfl⟩, q⟩) h4
theorem show_seq {H : Hp} {O : Addr → Prop} {v : V} {d : D} (h : Val X.K H O v d) (hs : isSeq d = true) (hn : d.ndc = true) : ∃ a, v = .ref a ∧ Dp X.K H (.ref a) d.pd := by
  cases d with
  | tup xs =>
    cases h with
    | rep r =>
      have hd := r.dp hn
      cases r with
      | tup h r => exact ⟨_, rfl, hd⟩
    | own _ _ r => cases r
  | lst o xs =>
    cases h with
    | rep r =>
      have hd := r.dp hn
      cases r with
      | lst h n r => exact ⟨_, rfl, hd⟩
    | own o' ha r => exact ⟨_, rfl, (Val.own o' ha r).dp hn⟩
  | _ => cases hs
theorem calld_str2 {k : Nat} (hr : RoomG k X.A) : CallD X (.type "str") gStr2 := by
  refine ⟨_, (call_str_int.or SkE.call_str_str).or (cr_str hr), fun H O xs ds k R own vs g f => ?_⟩
  unfold gStr2 at g
  split at g
  · obtain ⟨v, rfl, h⟩ := vs.one
    exact .inl (.inl ⟨_, by rw [h.int], g.1, fin_id own f (.str _) g.2⟩)
  · obtain ⟨v, rfl, h⟩ := vs.one
    exact .inl (.inr ⟨_, by rw [h.str], fin_id own f (.str _) g⟩)
  · obtain ⟨v, rfl, h⟩ := vs.one
    obtain ⟨a, rfl, hd⟩ := show_seq h rfl g.1.1
    exact .inr ⟨a, _, rfl, hd, g.1, fin_id own f (.str _) g.2⟩
  · obtain ⟨v, rfl, h⟩ := vs.one
    obtain ⟨a, rfl, hd⟩ := show_seq h rfl g.1.1
    exact .inr ⟨a, _, rfl, hd, g.1, fin_id own f (.str _) g.2⟩
  · exact g.elim
end
end Bx
namespace Bx
variable [TabC]
open PySem PySem.Spec PyProof.Rows L2
def gEqT : G2
  | .str x, .str y, k => k (.bl (x == y))
  | x, y, k => gEq x y k
def gNeT : G2
  | .str x, .str y, k => k (.bl (!(x == y)))
  | x, y, k => gNe x y k
section
variable {X : Cx}
end
end Bx
namespace Bx
variable [TabC]
open PySem PySem.Spec PyProof.Rows L2
def dNever (_ : DEnds) (_ : Rho) : Prop := False
section
variable {X : Cx} {ios : List Nat}
def gSortRev : GL
  | [d], k => onSome (d.sql.bind asInts) fun ns => ∀ ns' : List Int, ns'.Perm ns → ns'.Pairwise (· ≥ ·) → k (.lst true (ns'.map .int))
  | _, _ => False
end
end Bx
namespace Bx
variable [TabC]
open PySem PySem.Spec PyProof.Rows L2
def odcD (l : List (Key × D)) : D := .odc (l.map (·.1)) (l.map (·.2))
section
variable {X : Cx} {pos : Pos}
end
section
variable {X : Cx} {pos : Pos}
def kOdc (ks : List Str) (k : D → Rho → Prop) (ds : List D) (ρ : Rho) : Prop := k (.odc (ks.map .inr) ds) ρ
def dOdc (ks : List Str) (w : DA) (k : D → Rho → Prop) (ρ : Rho) : Prop := w (kTake (kOdc ks k)) ρ
def kDicF (ks : List Str) (k : D → Rho → Prop) (ds : List D) (ρ : Rho) : Prop := k (.dic (ks.map .inr) ds) ρ
def dDic (ks : List Str) (w : DA) (k : D → Rho → Prop) (ρ : Rho) : Prop := w (kTake (kDicF ks k)) ρ
end
section
variable {X : Cx}
end
section
variable {X : Cx} {o e : Expr} {apos cpos : Pos}
def kUpd (i : Nat) (k : D → Rho → Prop) (d : D) (ρ : Rho) : Prop := match rget ρ i, d with
  | some (.odc ks xs), .dic ks2 ys => xs.length + ys.length ≤ sizeLine ∧ k .non (rset ρ i (some (odcD (mergeD (ks.zip xs) (ks2.zip ys)))))
  | _, _ => False
def isOdc : Option D → Bool
  | some (.odc _ _) => true
  | _ => false
def dUpd (i : Nat) (w : DE) (k : D → Rho → Prop) (ρ : Rho) : Prop := isOdc (rget ρ i) = true ∧ w (kUpdF i k) ρ
where kUpdF (i : Nat) (k : D → Rho → Prop) (d : D) (ρ : Rho) : Prop := kUpd i k d.frz ρ
end
end Bx
namespace Bx
variable [TabC]
open PySem PySem.Spec PyProof.Rows L2
section
variable {X : Cx} {k : Nat} {f C : Addr} {fd : FuncData} {ps : List Str} {sp : Sp} {x m : Str} {p pos apos : Pos} {e o : Expr} {es : List Expr} {t : TA} {ta : TE} {pl : Sem Bool}
theorem rr (a : Addr) : RelV (V.ref a) (Value.ref a) := rfl
end
section
variable {X : Cx} {W : PSpec}
end
def isO (c : List Str) : D → Option (List D)
  | .obj _ c' vs => if c' = c then some vs else none
  | _ => none
def ownO (c : List Str) (ρ : Rho) (i : Nat) : Option (List D) := match rget ρ i with
  | some (.obj true c' vs) => if c' = c then some vs else none
  | _ => none
def putN : List D → Nat → D → Option (List D)
  | [], 0, d => some [d]
  | [], _ + 1, _ => none
  | _ :: r, 0, d => some (d :: r)
  | x :: r, j + 1, d => (putN r j d).map (x :: ·)
def getN : List D → Nat → Option D
  | [], _ => none
  | x :: _, 0 => some x
  | _ :: r, n + 1 => getN r n
theorem Val.obj {K : PySem.W.Frag} {H : Hp} {O : Addr → Prop} {v : V} {b : Bool} {c : List Str} {ds : List D} (h : Val K H O v (.obj b c ds)) : ∃ a C dx fs, v = .ref a ∧ H a = some (.ins C dx fs) ∧ Ins K c C fs ∧ Reps K H O (fs.map (·.2)) ds := by
  cases h with
  | rep r => cases r with | obj h _ i r => exact ⟨_, _, _, _, rfl, h, i, r⟩
  | own _ h r => cases r with | ins i r => exact ⟨_, _, _, _, rfl, h, i, r⟩
theorem ClsF.eq {K : PySem.W.Frag} {c : List Str} {C C' : Addr} (h : ClsF K c C) (h' : ClsF K c C') : C = C' := by
  have := h.cl.symm.trans h'.cl
  injection this with this
  injection this with this
  injection this
section
variable {X : Cx} {e o : Expr} {es : List Expr} {p pos apos : Pos} {k : Nat} {f : Addr} {fd : FuncData} {ps : List Str} {W : PSpec}
def kFld (c : List Str) (j : Nat) (k : D → Rho → Prop) (x : DOp) (ρ : Rho) : Prop := onSome (rd ρ x) fun d => onSome (isO c d) fun vs => onSome (getN vs j) fun y => k y ρ
def dFld (c : List Str) (j : Nat) (w : DO) (k : D → Rho → Prop) (ρ : Rho) : Prop := w (kFld c j k) ρ
variable {ios : List Nat}
def kFldS (c : List Str) (j i : Nat) (nx : Rho → Prop) (d : D) (ρ : Rho) : Prop := onSome (ownO c ρ i) fun vs => onSome (putN vs j d.frz) fun ws => ws.length ≤ 900 ∧ nx (rset ρ i (some (.obj true c ws)))
def dFldS (c : List Str) (j i : Nat) (w : DE) (E : DEnds) (ρ : Rho) : Prop := w (kFldS c j i E.nx) ρ
def kMakeE (k : D → Rho → Prop) (ρ : Rho) (d : D) (outs : List D) : Prop := match outs with
  | [e] => d = .non ∧ k e ρ
  | _ => False
def kMake (c : List Str) (W : PSpec) (k : D → Rho → Prop) (ds : List D) (ρ : Rho) : Prop := W (.obj true c [] :: ds) (kMakeE k ρ)
def dMake (c : List Str) (W : PSpec) (w : DA) (k : D → Rho → Prop) (ρ : Rho) : Prop := w (kTake (kMake c W k)) ρ
def kMeth (c : List Str) (w : DA) (k : List DOp → Rho → Prop) (x : DOp) (ρ : Rho) : Prop := onSome (rd ρ x) fun d => onSome (isO c d) fun _ => w (kA2 x k) ρ
def dMeth (c : List Str) (W : PSpec) (o : DO) (w : DA) (k : D → Rho → Prop) (ρ : Rho) : Prop := o (kMeth c w (kTake (kCall W k))) ρ
def kMethIO (i : Nat) (k : List DOp → Rho → Prop) (os : List DOp) (ρ : Rho) : Prop := k (.s i :: os) ρ
def kCallO (c : List Str) (i : Nat) (W : PSpec) (k : D → Rho → Prop) (ds : List D) (ρ : Rho) : Prop := onSome (ownO c ρ i) fun vs => W (ds.set 0 (.obj true c vs)) (kRetIO i k ρ)
def dMethIO (c : List Str) (i : Nat) (W : PSpec) (w : DA) (k : D → Rho → Prop) (ρ : Rho) : Prop := onSome (ownO c ρ i) fun _ => w (kMethIO i (kTakeIO 0 i (kCallO c i W k))) ρ
end
end Bx
namespace Bx
variable [TabC]
open PySem L2
theorem sub7 {K : PySem.W.Frag} {C : Addr} (h1 : PySem.W.subIn K (.ref C) (.type "NoneType") = some false) (h2 : PySem.W.subIn K (.ref C) (.type "bool") = some false) (h3 : PySem.W.subIn K (.ref C) (.type "int") = some false)
    (h4 : PySem.W.subIn K (.ref C) (.type "str") = some false) (h5 : PySem.W.subIn K (.ref C) (.type "tuple") = some false) (h6 : PySem.W.subIn K (.ref C) (.type "list") = some false) (h7 : PySem.W.subIn K (.ref C) (.type "dict") = some false) :
    ∀ T ∈ kTypes, PySem.W.subIn K (.ref C) (.type T) = some false := fun T h => by
  simp only [kTypes, List.mem_cons, List.not_mem_nil, or_false] at h
  rcases h with rfl | rfl | rfl | rfl | rfl | rfl | rfl <;> assumption
theorem isO_self {b : Bool} {c : List Str} {vs : List D} : isO c (.obj b c vs) = some vs := if_pos rfl
theorem ownO_0 {c : List Str} {vs : List D} {r : Rho} : ownO c (some (.obj true c vs) :: r) 0 = some vs := if_pos rfl
theorem ownO_s {c : List Str} {x : Option D} {r : Rho} {n : Nat} : ownO c (x :: r) (n + 1) = ownO c r n := rfl
theorem putN_z {d : D} : putN [] 0 d = some [d] := rfl
theorem putN_0 {x d : D} {r : List D} : putN (x :: r) 0 d = some (d :: r) := rfl
theorem putN_s {x d : D} {r : List D} {n : Nat} : putN (x :: r) (n + 1) d = (putN r n d).map (x :: ·) := rfl
theorem getN_0 {x : D} {r : List D} : getN (x :: r) 0 = some x := rfl
theorem getN_s {x : D} {r : List D} {n : Nat} : getN (x :: r) (n + 1) = getN r n := rfl
theorem frz_obj {b : Bool} {c : List Str} {vs : List D} : (D.obj b c vs).frz = .obj false c vs := rfl
theorem outs_1 {P : D → List D → Prop} {d : D} {b : Bool} {c : List Str} {vs : List D} {r : Rho} : outsOf [0] (some (.obj b c vs) :: r) = some [.obj b c vs] := rfl
end Bx
namespace RL
open PySem PySem.Spec PyProof.Rows L2 RT
section
variable {prog : Program} {w : World} {A : Around} {E : Value → Shared → Prop} {s : Shared}
end
section
variable {prog : Program} {w : World} {A : Around} {E : Value → Shared → Prop} {s : Shared}
section
variable {R : Result → Shared → Prop}
end
section
variable {R : Result → Shared → Prop}
end
end
section
variable {X : Cx}
end
end RL
namespace Bx
variable [TabC]
open PySem PySem.Spec PyProof.Rows L2
section
variable {X : Cx}
def kLrv (k : D → Rho → Prop) (d : D) (ρ : Rho) : Prop := match d with
  | .tup xs => k (.lst true xs.reverse) ρ
  | _ => False
def dLrv (w : DE) (k : D → Rho → Prop) (ρ : Rho) : Prop := w (kLrv k) ρ
end
end Bx
namespace Bx
def u1_dNext := @Bx.dNext.eq_1
def u1_dSeq := @Bx.dSeq.eq_1
def u1_dBreak := @Bx.dBreak.eq_1
def u1_dCont := @Bx.dCont.eq_1
def u1_kExp := @Bx.kExp.eq_1
def u1_dExp := @Bx.dExp.eq_1
def u1_dRet := @Bx.dRet.eq_1
def u1_dRetV := @Bx.dRetV.eq_1
def u1_dRetN := @Bx.dRetN.eq_1
def u1_kIfS := @Bx.kIfS.eq_1
def u1_dIfS := @Bx.dIfS.eq_1
def u1_kAsg := @Bx.kAsg.eq_1
def u1_dAsg := @Bx.dAsg.eq_1
def u1_kAsgG := @Bx.kAsgG.eq_1
def u1_dAsgG := @Bx.dAsgG.eq_1
def u1_kPar2b := @Bx.kPar2b.eq_1
def u1_kPar2 := @Bx.kPar2.eq_1
def u1_dPar2 := @Bx.dPar2.eq_1
def u1_kPar3c := @Bx.kPar3c.eq_1
def u1_kPar3b := @Bx.kPar3b.eq_1
def u1_kPar3 := @Bx.kPar3.eq_1
def u1_dPar3 := @Bx.dPar3.eq_1
def u1_kAugS := @Bx.kAugS.eq_1
def u1_kAug := @Bx.kAug.eq_1
def u1_dAug := @Bx.dAug.eq_1
def u1_oVar := @Bx.oVar.eq_1
def u1_dVar := @Bx.dVar.eq_1
def u1_dC := @Bx.dC.eq_1
def u1_kOp := @Bx.kOp.eq_1
def u1_oVal := @Bx.oVal.eq_1
def u1_aNil := @Bx.aNil.eq_1
def u1_kA2 := @Bx.kA2.eq_1
def u1_kA1 := @Bx.kA1.eq_1
def u1_aCons := @Bx.aCons.eq_1
def u1_kTake := @Bx.kTake.eq_1
def u1_kTk := @Bx.kTk.eq_1
def u1_tkOps := @Bx.tkOps.eq_1
def u2_tkOps := @Bx.tkOps.eq_2
def u3_tkOps := @Bx.tkOps.eq_3
def u1_kTup := @Bx.kTup.eq_1
def u1_kLst := @Bx.kLst.eq_1
def u1_dTup := @Bx.dTup.eq_1
def u1_dLst := @Bx.dLst.eq_1
def u1_kB2 := @Bx.kB2.eq_1
def u1_kB1 := @Bx.kB1.eq_1
def u1_dBin := @Bx.dBin.eq_1
def u1_kU := @Bx.kU.eq_1
def u1_dUn := @Bx.dUn.eq_1
def u1_kBl := @Bx.kBl.eq_1
def u2_kBl := @Bx.kBl.eq_2
def u1_tVal := @Bx.tVal.eq_1
def u1_kAnd := @Bx.kAnd.eq_1
def u1_tAnd := @Bx.tAnd.eq_1
def u1_kOr := @Bx.kOr.eq_1
def u1_tOr := @Bx.tOr.eq_1
def u1_kNot := @Bx.kNot.eq_1
def u1_tNot := @Bx.tNot.eq_1
def u1_kAndV := @Bx.kAndV.eq_1
def u2_kAndV := @Bx.kAndV.eq_2
def u1_dAnd := @Bx.dAnd.eq_1
def u1_kOrV := @Bx.kOrV.eq_1
def u2_kOrV := @Bx.kOrV.eq_2
def u1_dOr := @Bx.dOr.eq_1
def u1_kNotV := @Bx.kNotV.eq_1
def u2_kNotV := @Bx.kNotV.eq_2
def u1_dNot := @Bx.dNot.eq_1
def u1_kIf := @Bx.kIf.eq_1
def u1_dIf := @Bx.dIf.eq_1
def u1_kC3 := @Bx.kC3.eq_1
def u1_kC2b := @Bx.kC2b.eq_1
def u1_kC2a := @Bx.kC2a.eq_1
def u2_kC2a := @Bx.kC2a.eq_2
def u1_kC2 := @Bx.kC2.eq_1
def u1_kC1 := @Bx.kC1.eq_1
def u1_dChain := @Bx.dChain.eq_1
def u1_kCB := @Bx.kCB.eq_1
def u1_dCB := @Bx.dCB.eq_1
def u1_kIsi := @Bx.kIsi.eq_1
def u1_dIsi := @Bx.dIsi.eq_1
def u1_pNo := @Bx.pNo.eq_1
def u1_kPI := @Bx.kPI.eq_1
def u2_kPI := @Bx.kPI.eq_2
def u1_pInt := @Bx.pInt.eq_1
def u1_kS3 := @Bx.kS3.eq_1
def u1_kS2 := @Bx.kS2.eq_1
def u1_kS1 := @Bx.kS1.eq_1
def u1_dSl := @Bx.dSl.eq_1
def u1_gN := @Bx.gN.eq_1
def u1_gsNil := @Bx.gsNil.eq_1
def u2_gsNil := @Bx.gsNil.eq_2
def u1_kGs := @Bx.kGs.eq_1
def u1_gsCons := @Bx.gsCons.eq_1
def u2_gsCons := @Bx.gsCons.eq_2
def u1_gT := @Bx.gT.eq_1
def u2_gT := @Bx.gT.eq_2
def u1_kIt := @Bx.kIt.eq_1
def u2_kIt := @Bx.kIt.eq_2
def u3_kIt := @Bx.kIt.eq_3
def u4_kIt := @Bx.kIt.eq_4
def u5_kIt := @Bx.kIt.eq_5
def u1_iOf := @Bx.iOf.eq_1
def u1_kR := @Bx.kR.eq_1
def u1_iR := @Bx.iR.eq_1
def u1_kZ := @Bx.kZ.eq_1
def u1_iZ := @Bx.iZ.eq_1
def u1_kE := @Bx.kE.eq_1
def u1_iE := @Bx.iE.eq_1
def u1_kVs := @Bx.kVs.eq_1
def u1_kV := @Bx.kV.eq_1
def u1_kApp := @Bx.kApp.eq_1
def u1_dApp := @Bx.dApp.eq_1
def u1_dPop := @Bx.dPop.eq_1
def u1_kSub1 := @Bx.kSub1.eq_1
def u1_kSub2 := @Bx.kSub2.eq_1
def u1_dSub := @Bx.dSub.eq_1
def u1_kTakeIO := @Bx.kTakeIO.eq_1
def u1_tkIO := @Bx.tkIO.eq_1
def u2_tkIO := @Bx.tkIO.eq_2
def u3_tkIO := @Bx.tkIO.eq_3
def u4_tkIO := @Bx.tkIO.eq_4
def u1_kCallIO := @Bx.kCallIO.eq_1
def u1_dCallIO := @Bx.dCallIO.eq_1
def u1_kRetIO := @Bx.kRetIO.eq_1
def u2_kRetIO := @Bx.kRetIO.eq_2
def u1_kRet := @Bx.kRet.eq_1
def u1_kCall := @Bx.kCall.eq_1
def u1_dCall := @Bx.dCall.eq_1
def u1_kFor := @Bx.kFor.eq_1
def u1_dFor := @Bx.dFor.eq_1
def u1_kForB := @Bx.kForB.eq_1
def u1_kWh := @Bx.kWh.eq_1
def u1_kCo := @Bx.kCo.eq_1
def u1_dComp := @Bx.dComp.eq_1
def u1_kCo1 := @Bx.kCo1.eq_1
def u1_kCo2 := @Bx.kCo2.eq_1
def u1_kCo3 := @Bx.kCo3.eq_1
def u2_kCo3 := @Bx.kCo3.eq_5
def u1_tAll := @Bx.tAll.eq_1
def u1_gAdd := @Bx.gAdd.eq_1
def u2_gAdd := @Bx.gAdd.eq_2
def u3_gAdd := @Bx.gAdd.eq_3
def u4_gAdd := @Bx.gAdd.eq_4
def u5_gAdd := @Bx.gAdd.eq_5
def u1_gII := @Bx.gII.eq_1
def u2_gII := @Bx.gII.eq_2
def u1_gII0 := @Bx.gII0.eq_1
def u2_gII0 := @Bx.gII0.eq_2
def u1_gSub := @Bx.gSub.eq_1
def u1_gMul2 := @Bx.gMul2.eq_1
def u2_gMul2 := @Bx.gMul2.eq_2
def u1_gMul := @Bx.gMul.eq_1
def u2_gMul := @Bx.gMul.eq_2
def u3_gMul := @Bx.gMul.eq_3
def u1_gDiv := @Bx.gDiv.eq_1
def u1_gMod := @Bx.gMod.eq_1
def u1_gPow := @Bx.gPow.eq_1
def u1_gShl := @Bx.gShl.eq_1
def u1_gShr := @Bx.gShr.eq_1
def u1_gAnd := @Bx.gAnd.eq_1
def u1_gNeg := @Bx.gNeg.eq_1
def u2_gNeg := @Bx.gNeg.eq_2
def u1_gLt := @Bx.gLt.eq_1
def u1_gLe := @Bx.gLe.eq_1
def u1_gGt := @Bx.gGt.eq_1
def u1_gGe := @Bx.gGe.eq_1
def u1_gIsN := @Bx.gIsN.eq_1
def u2_gIsN := @Bx.gIsN.eq_2
def u1_gNotN := @Bx.gNotN.eq_1
def u2_gNotN := @Bx.gNotN.eq_2
def u1_gEq := @Bx.gEq.eq_1
def u1_gNe := @Bx.gNe.eq_1
def u1_gIx := @Bx.gIx.eq_1
def u2_gIx := @Bx.gIx.eq_2
def u3_gIx := @Bx.gIx.eq_3
def u4_gIx := @Bx.gIx.eq_4
def u5_gIx := @Bx.gIx.eq_5
def u6_gIx := @Bx.gIx.eq_6
def u1_gLen := @Bx.gLen.eq_1
def u2_gLen := @Bx.gLen.eq_2
def u3_gLen := @Bx.gLen.eq_3
def u1_gAbs := @Bx.gAbs.eq_1
def u2_gAbs := @Bx.gAbs.eq_2
def u1_gSum := @Bx.gSum.eq_1
def u2_gSum := @Bx.gSum.eq_2
def u1_gMax := @Bx.gMax.eq_1
def u2_gMax := @Bx.gMax.eq_2
def u3_gMax := @Bx.gMax.eq_3
def u1_gMin := @Bx.gMin.eq_1
def u2_gMin := @Bx.gMin.eq_2
def u3_gMin := @Bx.gMin.eq_3
def u1_gAll := @Bx.gAll.eq_1
def u2_gAll := @Bx.gAll.eq_2
def u1_gAny := @Bx.gAny.eq_1
def u2_gAny := @Bx.gAny.eq_2
def u1_gInt := @Bx.gInt.eq_1
def u2_gInt := @Bx.gInt.eq_2
def u3_gInt := @Bx.gInt.eq_3
def u4_gInt := @Bx.gInt.eq_4
def u1_gList := @Bx.gList.eq_1
def u2_gList := @Bx.gList.eq_2
def u1_gTuple := @Bx.gTuple.eq_1
def u2_gTuple := @Bx.gTuple.eq_2
def u1_gSl := @Bx.gSl.eq_1
def u2_gSl := @Bx.gSl.eq_2
def u3_gSl := @Bx.gSl.eq_3
def u4_gSl := @Bx.gSl.eq_4
def u5_gSl := @Bx.gSl.eq_5
def u1_gR1 := @Bx.gR1.eq_1
def u2_gR1 := @Bx.gR1.eq_2
def u1_gR2 := @Bx.gR2.eq_1
def u2_gR2 := @Bx.gR2.eq_2
def u1_gZ := @Bx.gZ.eq_1
def u2_gZ := @Bx.gZ.eq_2
def u3_gZ := @Bx.gZ.eq_3
def u4_gZ := @Bx.gZ.eq_4
def u5_gZ := @Bx.gZ.eq_5
def u1_gE := @Bx.gE.eq_1
def u2_gE := @Bx.gE.eq_2
def u3_gE := @Bx.gE.eq_3
def u1_gIAdd := @Bx.gIAdd.eq_1
def u1_gISub := @Bx.gISub.eq_1
def u1_gIMul := @Bx.gIMul.eq_1
def u_onSome_some := @Bx.onSome_some
def u_pick_true := @Bx.pick_true
def u_pick_false := @Bx.pick_false
def u_ends_rt := @Bx.ends_rt
def u_ends_nx := @Bx.ends_nx
def u1_gIsB := @Bx.gIsB.eq_1
def u2_gIsB := @Bx.gIsB.eq_2
def u1_gNotB := @Bx.gNotB.eq_1
def u2_gNotB := @Bx.gNotB.eq_2
def u1_gTMul := @Bx.gTMul.eq_1
def u2_gTMul := @Bx.gTMul.eq_2
def u1_iZX := @Bx.iZX.eq_1
def u1_kZX := @Bx.kZX.eq_1
def u1_gZX := @Bx.gZX.eq_1
def u2_gZX := @Bx.gZX.eq_2
def u3_gZX := @Bx.gZX.eq_3
def u4_gZX := @Bx.gZX.eq_4
def u5_gZX := @Bx.gZX.eq_5
def u6_gZX := @Bx.gZX.eq_6
def u7_gZX := @Bx.gZX.eq_7
def u8_gZX := @Bx.gZX.eq_8
def u9_gZX := @Bx.gZX.eq_9
def u1_gSorted := @Bx.gSorted.eq_1
def u2_gSorted := @Bx.gSorted.eq_2
def u1_kExt := @Bx.kExt.eq_1
def u1_dExt := @Bx.dExt.eq_1
def u1_gDict := @Bx.gDict.eq_1
def u2_gDict := @Bx.gDict.eq_2
def u1_gIn := @Bx.gIn.eq_1
def u1_gNin := @Bx.gNin.eq_1
def u1_gInG := @Bx.gInG.eq_1
def u2_gInG := @Bx.gInG.eq_2
def u3_gInG := @Bx.gInG.eq_3
def u4_gInG := @Bx.gInG.eq_4
def u1_flat := @Bx.D.flat.eq_1
def u2_flat := @Bx.D.flat.eq_2
def u3_flat := @Bx.D.flat.eq_3
def u4_flat := @Bx.D.flat.eq_4
def u1_asFlat := @Bx.asFlat.eq_1
def u2_asFlat := @Bx.asFlat.eq_2
def u1_gStr := @Bx.gStr.eq_1
def u2_gStr := @Bx.gStr.eq_2
def u1_gEqE := @Bx.gEqE.eq_1
def u2_gEqE := @Bx.gEqE.eq_2
def u1_kRev := @Bx.kRev.eq_1
def u2_kRev := @Bx.kRev.eq_2
def u1_iRev := @Bx.iRev.eq_1
def u1_kSubs := @Bx.kSubs.eq_1
def u1_dSubs := @Bx.dSubs.eq_1
def u1_kRvs := @Bx.kRvs.eq_1
def u2_kRvs := @Bx.kRvs.eq_2
def u1_dRvs := @Bx.dRvs.eq_1
def u1_kLrv := @Bx.kLrv.eq_1
def u1_dLrv := @Bx.dLrv.eq_1
def u1_kUpper := @Bx.kUpper.eq_1
def u1_dUpper := @Bx.dUpper.eq_1
def u1_dgetO := @Bx.dgetO.eq_1
def u1_gGet := @Bx.gGet.eq_1
def u2_gGet := @Bx.gGet.eq_2
def u1_kGet2 := @Bx.kGet2.eq_1
def u1_kGet1 := @Bx.kGet1.eq_1
def u1_dGet1 := @Bx.dGet1.eq_1
def u1_isDic := @Bx.D.isDic.eq_1
def u2_isDic := @Bx.D.isDic.eq_2
def u1_gBool := @Bx.gBool.eq_1
def u2_gBool := @Bx.gBool.eq_2
def u1_kIsi2 := @Bx.kIsi2.eq_1
def u1_dIsi2 := @Bx.dIsi2.eq_1
def u1_gStr2 := @Bx.gStr2.eq_1
def u2_gStr2 := @Bx.gStr2.eq_2
def u3_gStr2 := @Bx.gStr2.eq_3
def u4_gStr2 := @Bx.gStr2.eq_4
def u1_gRepr := @Bx.gRepr.eq_1
def u2_gRepr := @Bx.gRepr.eq_2
def u3_gRepr := @Bx.gRepr.eq_3
def u4_gRepr := @Bx.gRepr.eq_4
def u5_gRepr := @Bx.gRepr.eq_5
def u6_gRepr := @Bx.gRepr.eq_6
def u1_gSortK := @Bx.gSortK.eq_1
def u1_gEqT := @Bx.gEqT.eq_1
def u1_gNeT := @Bx.gNeT.eq_1
def u1_gSortRev := @Bx.gSortRev.eq_1
def u1_dNever := @Bx.dNever.eq_1
def u7_gIx := @Bx.gIx.eq_7
def u8_gIx := @Bx.gIx.eq_8
def u5_gInG := @Bx.gInG.eq_5
def u6_gInG := @Bx.gInG.eq_6
def u3_gGet := @Bx.gGet.eq_3
def u4_gGet := @Bx.gGet.eq_4
def u1_kOdc := @Bx.kOdc.eq_1
def u1_dOdc := @Bx.dOdc.eq_1
def u1_kDicF := @Bx.kDicF.eq_1
def u1_dDic := @Bx.dDic.eq_1
def u1_kUpd := @Bx.kUpd.eq_1
def u1_isOdc := @Bx.isOdc.eq_1
def u1_dUpd := @Bx.dUpd.eq_1
def u1_kUpdF := @Bx.dUpd.kUpdF.eq_1
theorem frz_odc {ks : List L2.Key} {vs : List D} : (D.odc ks vs).frz = .dic ks vs := rfl
def u_frz_odc := @frz_odc
def u1_kFld := @Bx.kFld.eq_1
def u1_dFld := @Bx.dFld.eq_1
def u1_kFldS := @Bx.kFldS.eq_1
def u1_dFldS := @Bx.dFldS.eq_1
def u1_kMake := @Bx.kMake.eq_1
def u1_dMake := @Bx.dMake.eq_1
def u1_kMeth := @Bx.kMeth.eq_1
def u1_dMeth := @Bx.dMeth.eq_1
def u1_kMethIO := @Bx.kMethIO.eq_1
def u1_kCallO := @Bx.kCallO.eq_1
def u1_dMethIO := @Bx.dMethIO.eq_1
def u1_kMakeE := @Bx.kMakeE.eq_1
def u_isO_self := @Bx.isO_self
def u_ownO_0 := @Bx.ownO_0
def u_ownO_s := @Bx.ownO_s
def u_putN_z := @Bx.putN_z
def u_putN_0 := @Bx.putN_0
def u_putN_s := @Bx.putN_s
def u_getN_0 := @Bx.getN_0
def u_getN_s := @Bx.getN_s
def u_frz_obj := @Bx.frz_obj
def u_outs_1 := @Bx.outs_1
def u_nb_lst := @Bx.nb_lst
def u_nb_obj := @Bx.nb_obj
theorem it_object_tuple : isTy "object" "tuple" = false := by decide
def u_it_object_tuple := @it_object_tuple
theorem it_object_int : isTy "object" "int" = false := by decide
def u_it_object_int := @it_object_int
theorem it_object_bool : isTy "object" "bool" = false := by decide
def u_it_object_bool := @it_object_bool
theorem it_object_str : isTy "object" "str" = false := by decide
def u_it_object_str := @it_object_str
theorem it_object_list : isTy "object" "list" = false := by decide
def u_it_object_list := @it_object_list
theorem it_object_dict : isTy "object" "dict" = false := by decide
def u_it_object_dict := @it_object_dict
def u1_lenN := @Bx.D.lenN.eq_1
def u2_lenN := @Bx.D.lenN.eq_2
def u3_lenN := @Bx.D.lenN.eq_3
def u4_lenN := @Bx.D.lenN.eq_4
def u5_lenN := @Bx.D.lenN.eq_5
end Bx
namespace Bx
theorem x_bind_some {α β : Type} {a : α} {f : α → Option β} : (some a).bind f = f a := rfl
theorem x_omap_some {α β : Type} {a : α} {f : α → β} : (some a).map f = some (f a) := rfl
theorem x_length_cons {α : Type} {a : α} {l : List α} : (a :: l).length = l.length + 1 := rfl
theorem x_length_nil {α : Type} : ([] : List α).length = 0 := rfl
theorem x_map_cons {α β : Type} {f : α → β} {a : α} {l : List α} : (a :: l).map f = f a :: l.map f := rfl
theorem x_map_nil {α β : Type} {f : α → β} : ([] : List α).map f = [] := rfl
theorem x_set_zero {α : Type} {a x : α} {l : List α} : (a :: l).set 0 x = x :: l := rfl
theorem x_set_succ {α : Type} {a x : α} {l : List α} {n : Nat} : (a :: l).set (n + 1) x = a :: l.set n x := rfl
theorem x_length_map {α β : Type} {f : α → β} {l : List α} : (l.map f).length = l.length := List.length_map f
theorem x_rep_zero {α : Type} {a : α} : List.replicate 0 a = [] := rfl
theorem x_rep_succ {α : Type} {a : α} {n : Nat} : List.replicate (n + 1) a = a :: List.replicate n a := rfl
theorem x_cons_append {α : Type} {a : α} {l m : List α} : a :: l ++ m = a :: (l ++ m) := rfl
theorem x_nil_append {α : Type} {l : List α} : [] ++ l = l := rfl
def g0 := (And.intro (And.intro (And.intro (And.intro (@u1_dNext) (@u1_dSeq)) (And.intro (@u1_dBreak) (@u1_dCont))) (And.intro (And.intro (@u1_kExp) (@u1_dExp)) (And.intro (@u1_dRet) (@u1_dRetV)))) (And.intro (And.intro (And.intro (@u1_dRetN) (@u1_kIfS)) (And.intro (@u1_dIfS) (@u1_kAsg))) (And.intro (And.intro (@u1_dAsg) (@u1_kAsgG)) (And.intro (@u1_dAsgG) (@u1_kPar2b)))))
def g1 := (And.intro (And.intro (And.intro (And.intro (@u1_kPar2) (@u1_dPar2)) (And.intro (@u1_kPar3c) (@u1_kPar3b))) (And.intro (And.intro (@u1_kPar3) (@u1_dPar3)) (And.intro (@u1_kAugS) (@u1_kAug)))) (And.intro (And.intro (And.intro (@u1_dAug) (@u1_oVar)) (And.intro (@u1_dVar) (@u1_dC))) (And.intro (And.intro (@u1_kOp) (@u1_oVal)) (And.intro (@u1_aNil) (@u1_kA2)))))
def g2 := (And.intro (And.intro (And.intro (And.intro (@u1_kA1) (@u1_aCons)) (And.intro (@u1_kTake) (@u1_kTk))) (And.intro (And.intro (@u1_tkOps) (@u2_tkOps)) (And.intro (@u3_tkOps) (@u1_kTup)))) (And.intro (And.intro (And.intro (@u1_kLst) (@u1_dTup)) (And.intro (@u1_dLst) (@u1_kB2))) (And.intro (And.intro (@u1_kB1) (@u1_dBin)) (And.intro (@u1_kU) (@u1_dUn)))))
def g3 := (And.intro (And.intro (And.intro (And.intro (@u1_kBl) (@u2_kBl)) (And.intro (@u1_tVal) (@u1_kAnd))) (And.intro (And.intro (@u1_tAnd) (@u1_kOr)) (And.intro (@u1_tOr) (@u1_kNot)))) (And.intro (And.intro (And.intro (@u1_tNot) (@u1_kAndV)) (And.intro (@u2_kAndV) (@u1_dAnd))) (And.intro (And.intro (@u1_kOrV) (@u2_kOrV)) (And.intro (@u1_dOr) (@u1_kNotV)))))
def g4 := (And.intro (And.intro (And.intro (And.intro (@u2_kNotV) (@u1_dNot)) (And.intro (@u1_kIf) (@u1_dIf))) (And.intro (And.intro (@u1_kC3) (@u1_kC2b)) (And.intro (@u1_kC2a) (@u2_kC2a)))) (And.intro (And.intro (And.intro (@u1_kC2) (@u1_kC1)) (And.intro (@u1_dChain) (@u1_kCB))) (And.intro (And.intro (@u1_dCB) (@u1_kIsi)) (And.intro (@u1_dIsi) (@u1_pNo)))))
def g5 := (And.intro (And.intro (And.intro (And.intro (@u1_kPI) (@u2_kPI)) (And.intro (@u1_pInt) (@u1_kS3))) (And.intro (And.intro (@u1_kS2) (@u1_kS1)) (And.intro (@u1_dSl) (@u1_gN)))) (And.intro (And.intro (And.intro (@u1_gsNil) (@u2_gsNil)) (And.intro (@u1_kGs) (@u1_gsCons))) (And.intro (And.intro (@u2_gsCons) (@u1_gT)) (And.intro (@u2_gT) (@u1_kIt)))))
def g6 := (And.intro (And.intro (And.intro (And.intro (@u2_kIt) (@u3_kIt)) (And.intro (@u4_kIt) (@u5_kIt))) (And.intro (And.intro (@u1_iOf) (@u1_kR)) (And.intro (@u1_iR) (@u1_kZ)))) (And.intro (And.intro (And.intro (@u1_iZ) (@u1_kE)) (And.intro (@u1_iE) (@u1_kVs))) (And.intro (And.intro (@u1_kV) (@u1_kApp)) (And.intro (@u1_dApp) (@u1_dPop)))))
def g7 := (And.intro (And.intro (And.intro (And.intro (@u1_kSub1) (@u1_kSub2)) (And.intro (@u1_dSub) (@u1_kTakeIO))) (And.intro (And.intro (@u1_tkIO) (@u2_tkIO)) (And.intro (@u3_tkIO) (@u4_tkIO)))) (And.intro (And.intro (And.intro (@u1_kCallIO) (@u1_dCallIO)) (And.intro (@Bx.ownL.eq_1) (@u1_kRetIO))) (And.intro (And.intro (@u2_kRetIO) (@u1_kRet)) (And.intro (@u1_kCall) (@u1_dCall)))))
def g8 := (And.intro (And.intro (And.intro (And.intro (@u1_kFor) (@u1_dFor)) (And.intro (@u1_kForB) (@u1_kWh))) (And.intro (And.intro (@u1_kCo) (@u1_dComp)) (And.intro (@u1_kCo1) (@u1_kCo2)))) (And.intro (And.intro (And.intro (@u1_kCo3) (@u2_kCo3)) (And.intro (@u1_tAll) (@u1_gAdd))) (And.intro (And.intro (@u2_gAdd) (@u3_gAdd)) (And.intro (@u4_gAdd) (@u5_gAdd)))))
def g9 := (And.intro (And.intro (And.intro (And.intro (@u1_gII) (@u2_gII)) (And.intro (@u1_gII0) (@u2_gII0))) (And.intro (And.intro (@u1_gSub) (@u1_gMul2)) (And.intro (@u2_gMul2) (@u1_gMul)))) (And.intro (And.intro (And.intro (@u2_gMul) (@u3_gMul)) (And.intro (@u1_gDiv) (@u1_gMod))) (And.intro (And.intro (@u1_gPow) (@u1_gShl)) (And.intro (@u1_gShr) (@u1_gAnd)))))
def g10 := (And.intro (And.intro (And.intro (And.intro (@u1_gNeg) (@u2_gNeg)) (And.intro (@u1_gLt) (@u1_gLe))) (And.intro (And.intro (@u1_gGt) (@u1_gGe)) (And.intro (@u1_gIsN) (@u2_gIsN)))) (And.intro (And.intro (And.intro (@u1_gNotN) (@u2_gNotN)) (And.intro (@u1_gEq) (@u1_gNe))) (And.intro (And.intro (@u1_gIx) (@u2_gIx)) (And.intro (@u3_gIx) (@u4_gIx)))))
def g11 := (And.intro (And.intro (And.intro (And.intro (@u5_gIx) (@u6_gIx)) (And.intro (@u7_gIx) (@u8_gIx))) (And.intro (And.intro (@u1_gLen) (@u2_gLen)) (And.intro (@u3_gLen) (@u1_gAbs)))) (And.intro (And.intro (And.intro (@u2_gAbs) (@u1_gSum)) (And.intro (@u2_gSum) (@u1_gMax))) (And.intro (And.intro (@u2_gMax) (@u3_gMax)) (And.intro (@u1_gMin) (@u2_gMin)))))
def g12 := (And.intro (And.intro (And.intro (And.intro (@u3_gMin) (@u1_gAll)) (And.intro (@u2_gAll) (@u1_gAny))) (And.intro (And.intro (@u2_gAny) (@u1_gInt)) (And.intro (@u2_gInt) (@u3_gInt)))) (And.intro (And.intro (And.intro (@u4_gInt) (@u1_gList)) (And.intro (@u2_gList) (@u1_gTuple))) (And.intro (And.intro (@u2_gTuple) (@u1_gSl)) (And.intro (@u2_gSl) (@u3_gSl)))))
def g13 := (And.intro (And.intro (And.intro (And.intro (@u4_gSl) (@u5_gSl)) (And.intro (@u1_gR1) (@u2_gR1))) (And.intro (And.intro (@u1_gR2) (@u2_gR2)) (And.intro (@u1_gZ) (@u2_gZ)))) (And.intro (And.intro (And.intro (@u3_gZ) (@u4_gZ)) (And.intro (@u5_gZ) (@u1_gE))) (And.intro (And.intro (@u2_gE) (@u3_gE)) (And.intro (@u1_gIAdd) (@u1_gISub)))))
def g14 := (And.intro (And.intro (And.intro (And.intro (@u1_gIMul) (@Bx.rget_s)) (And.intro (@Bx.rget_0) (@Bx.rset_s))) (And.intro (And.intro (@Bx.rset_0) (@Bx.rd.eq_1)) (And.intro (@Bx.rd.eq_2) (@Bx.rdAll.eq_1)))) (And.intro (And.intro (And.intro (@Bx.rdAll.eq_2) (@u_onSome_some)) (And.intro (@Bx.frz_lst) (@Bx.frz_tup))) (And.intro (And.intro (@Bx.frz_int) (@Bx.frz_bl)) (And.intro (@Bx.frz_str) (@Bx.frz_scr)))))
def g15 := (And.intro (And.intro (And.intro (And.intro (@Bx.frz_non) (@Bx.frz_dic)) (And.intro (@Bx.D.isNon.eq_1) (@Bx.D.isNon.eq_2))) (And.intro (And.intro (@Bx.D.seq.eq_1) (@Bx.D.seq.eq_2)) (And.intro (@Bx.D.seq.eq_3) (@Bx.D.seq.eq_4)))) (And.intro (And.intro (And.intro (@Bx.D.sql.eq_1) (@Bx.D.sql.eq_2)) (And.intro (@Bx.D.sql.eq_3) (@Bx.D.ty.eq_1))) (And.intro (And.intro (@Bx.D.ty.eq_2) (@Bx.D.ty.eq_3)) (And.intro (@Bx.D.ty.eq_4) (@Bx.D.ty.eq_5)))))
def g16 := (And.intro (And.intro (And.intro (And.intro (@Bx.D.ty.eq_6) (@Bx.D.ty.eq_7)) (And.intro (@Bx.D.ty.eq_8) (@Bx.D.ty.eq_9))) (And.intro (And.intro (@Bx.D.ty.eq_10) (@Bx.D.ty.eq_11)) (And.intro (@Bx.D.ty.eq_12) (@Bx.D.ty.eq_13)))) (And.intro (And.intro (And.intro (@u_pick_true) (@u_pick_false)) (And.intro (@u_ends_rt) (@u_ends_nx))) (And.intro (And.intro (@Bx.outs0) (@Bx.outsOf.eq_1)) (And.intro (@Bx.outsOf.eq_2) (@Bx.wipeR.eq_1)))))
def g17 := (And.intro (And.intro (And.intro (And.intro (@Bx.wipeR.eq_2) (@Bx.backR.eq_1)) (And.intro (@Bx.backR.eq_2) (@Bx.it_NoneType_tuple))) (And.intro (And.intro (@Bx.it_NoneType_int) (@Bx.it_NoneType_bool)) (And.intro (@Bx.it_NoneType_str) (@Bx.it_NoneType_list)))) (And.intro (And.intro (And.intro (@Bx.it_NoneType_dict) (@Bx.it_bool_tuple)) (And.intro (@Bx.it_bool_int) (@Bx.it_bool_bool))) (And.intro (And.intro (@Bx.it_bool_str) (@Bx.it_bool_list)) (And.intro (@Bx.it_bool_dict) (@Bx.it_int_tuple)))))
def g18 := (And.intro (And.intro (And.intro (And.intro (@Bx.it_int_int) (@Bx.it_int_bool)) (And.intro (@Bx.it_int_str) (@Bx.it_int_list))) (And.intro (And.intro (@Bx.it_int_dict) (@Bx.it_str_tuple)) (And.intro (@Bx.it_str_int) (@Bx.it_str_bool)))) (And.intro (And.intro (And.intro (@Bx.it_str_str) (@Bx.it_str_list)) (And.intro (@Bx.it_str_dict) (@Bx.it_dict_tuple))) (And.intro (And.intro (@Bx.it_dict_int) (@Bx.it_dict_bool)) (And.intro (@Bx.it_dict_str) (@Bx.it_dict_list)))))
def g19 := (And.intro (And.intro (And.intro (And.intro (@Bx.it_dict_dict) (@Bx.it_tuple_tuple)) (And.intro (@Bx.it_tuple_int) (@Bx.it_tuple_bool))) (And.intro (And.intro (@Bx.it_tuple_str) (@Bx.it_tuple_list)) (And.intro (@Bx.it_tuple_dict) (@Bx.it_list_tuple)))) (And.intro (And.intro (And.intro (@Bx.it_list_int) (@Bx.it_list_bool)) (And.intro (@Bx.it_list_str) (@Bx.it_list_list))) (And.intro (And.intro (@Bx.it_list_dict) (@Bx.initR.eq_1)) (And.intro (@u1_gIsB) (@u2_gIsB)))))
def g20 := (And.intro (And.intro (And.intro (And.intro (@u1_gNotB) (@u2_gNotB)) (And.intro (@u1_gTMul) (@u2_gTMul))) (And.intro (And.intro (@u1_iZX) (@u1_kZX)) (And.intro (@u1_gZX) (@u2_gZX)))) (And.intro (And.intro (And.intro (@u3_gZX) (@u4_gZX)) (And.intro (@u5_gZX) (@u6_gZX))) (And.intro (And.intro (@u7_gZX) (@u8_gZX)) (And.intro (@u9_gZX) (@u1_gSorted)))))
def g21 := (And.intro (And.intro (And.intro (And.intro (@u2_gSorted) (@u1_kExt)) (And.intro (@u1_dExt) (@u1_gDict))) (And.intro (And.intro (@u2_gDict) (@u1_gIn)) (And.intro (@u1_gNin) (@u1_gInG)))) (And.intro (And.intro (And.intro (@u2_gInG) (@u3_gInG)) (And.intro (@u4_gInG) (@u5_gInG))) (And.intro (And.intro (@u6_gInG) (@u1_flat)) (And.intro (@u2_flat) (@u3_flat)))))
def g22 := (And.intro (And.intro (And.intro (And.intro (@u4_flat) (@u1_asFlat)) (And.intro (@u2_asFlat) (@u1_gStr))) (And.intro (And.intro (@u2_gStr) (@u1_gEqE)) (And.intro (@u2_gEqE) (@u1_kRev)))) (And.intro (And.intro (And.intro (@u2_kRev) (@u1_iRev)) (And.intro (@u1_kSubs) (@u1_dSubs))) (And.intro (And.intro (@u1_kRvs) (@u2_kRvs)) (And.intro (@u1_dRvs) (@u1_kLrv)))))
def g23 := (And.intro (And.intro (And.intro (And.intro (@u1_dLrv) (@u1_kUpper)) (And.intro (@u1_dUpper) (@u1_dgetO))) (And.intro (And.intro (@u1_gGet) (@u2_gGet)) (And.intro (@u3_gGet) (@u4_gGet)))) (And.intro (And.intro (And.intro (@u1_kGet2) (@u1_kGet1)) (And.intro (@u1_dGet1) (@u1_isDic))) (And.intro (And.intro (@u2_isDic) (@u1_gBool)) (And.intro (@u2_gBool) (@u1_kIsi2)))))
def g24 := (And.intro (And.intro (And.intro (And.intro (@u1_dIsi2) (@u1_gStr2)) (And.intro (@u2_gStr2) (@u3_gStr2))) (And.intro (And.intro (@u4_gStr2) (@u1_gRepr)) (And.intro (@u2_gRepr) (@u3_gRepr)))) (And.intro (And.intro (And.intro (@u4_gRepr) (@u5_gRepr)) (And.intro (@u6_gRepr) (@u1_gSortK))) (And.intro (And.intro (@u1_gEqT) (@u1_gNeT)) (And.intro (@u1_gSortRev) (@u1_dNever)))))
def g25 := (And.intro (And.intro (And.intro (And.intro (@u1_kOdc) (@u1_dOdc)) (And.intro (@u1_kDicF) (@u1_dDic))) (And.intro (And.intro (@u1_kUpd) (@u1_isOdc)) (And.intro (@u1_dUpd) (@u1_kUpdF)))) (And.intro (And.intro (And.intro (@u_frz_odc) (@u1_kFld)) (And.intro (@u1_dFld) (@u1_kFldS))) (And.intro (And.intro (@u1_dFldS) (@u1_kMake)) (And.intro (@u1_dMake) (@u1_kMeth)))))
def g26 := (And.intro (And.intro (And.intro (And.intro (@u1_dMeth) (@u1_kMethIO)) (And.intro (@u1_kCallO) (@u1_dMethIO))) (And.intro (And.intro (@u1_kMakeE) (@u_isO_self)) (And.intro (@u_ownO_0) (@u_ownO_s)))) (And.intro (And.intro (And.intro (@u_putN_z) (@u_putN_0)) (And.intro (@u_putN_s) (@u_getN_0))) (And.intro (And.intro (@u_getN_s) (@u_frz_obj)) (And.intro (@u_outs_1) (@u_nb_lst)))))
def g27 := (And.intro (And.intro (And.intro (And.intro (@u_nb_obj) (@u_it_object_tuple)) (And.intro (@u_it_object_int) (@u_it_object_bool))) (And.intro (And.intro (@u_it_object_str) (@u_it_object_list)) (And.intro (@u_it_object_dict) (@u1_lenN)))) (And.intro (And.intro (And.intro (@u2_lenN) (@u3_lenN)) (And.intro (@u4_lenN) (@u5_lenN))) (And.intro (And.intro (@x_bind_some) (@x_omap_some)) (And.intro (@x_length_cons) (@x_length_nil)))))
def g28 := (And.intro (And.intro (And.intro (And.intro (@x_map_cons) (@x_map_nil)) (And.intro (@x_set_zero) (@x_set_succ))) (And.intro (And.intro (@x_length_map) (@x_rep_zero)) (And.intro (@x_rep_succ) (@x_cons_append)))) (And.intro (And.intro (And.intro (@x_nil_append) (@Bool.not_true)) (And.intro (@Bool.not_false) (@decide_true))) (And.intro (And.intro (@decide_false) (@true_and)) (And.intro (@and_true) (@Bool.and_true)))))
def g29 := (And.intro (@Bool.true_and) (And.intro (@Bool.and_false) (@Bool.false_and)))
def go := (And.intro (And.intro (And.intro (And.intro (g0) (And.intro (g1) (g2))) (And.intro (And.intro (g3) (g4)) (And.intro (g5) (g6)))) (And.intro (And.intro (And.intro (g7) (g8)) (And.intro (g9) (g10))) (And.intro (And.intro (g11) (g12)) (And.intro (g13) (g14))))) (And.intro (And.intro (And.intro (g15) (And.intro (g16) (g17))) (And.intro (And.intro (g18) (g19)) (And.intro (g20) (g21)))) (And.intro (And.intro (And.intro (g22) (g23)) (And.intro (g24) (g25))) (And.intro (And.intro (g26) (g27)) (And.intro (g28) (g29))))))
end Bx
namespace Bx
open PySem L2
def wCell : DS :=
  (dSeq (dIfS (tVal (dBin gLt (oVar 1) (oVal (dCB gLen (aCons (oVar 0) aNil)))))
    (dRet (dBin gIx (oVar 0) (oVar 1)))
    dNext)
    (dRet (dC (.int 0))))
def sCell : PSpec := fun ds Q => ∃ (ns : List Int) (k : Int), ds = [.scr (ns.map .int), .int k] ∧ 0 ≤ k ∧ ∀ r : Int, Q (.int r) []
theorem imp_cell : ∀ ds Q, sCell ds Q → bodyW [] 2 2 wCell ds Q := by
  rintro ds Q ⟨ns, k, rfl, h0, q⟩
  refine ⟨rfl, ?_⟩
  simp only [wCell, Bx.go]
  refine pick_by (fun h => ?_) (fun h => ?_)
  · have h := of_decide_eq_true h
    simp only [Bx.go]
    obtain ⟨j, rfl⟩ : ∃ j : Nat, k = j := ⟨k.toNat, by omega⟩
    rw [atI_int (by omega)]
    exact q _
  · simp only [Bx.go]
    exact q 0
def wLeft (C__law_cell_at : PSpec) : DS :=
  (dSeq (dAsg 2 (dCall C__law_cell_at (aCons (oVar 0) (aCons (oVal (dBin gMod (oVar 1) (oVal (dCB gMax (aCons (oVal (dC (.int 1))) (aCons (oVal (dCB gLen (aCons (oVar 0) aNil))) aNil)))))) aNil))))
    (dSeq (dAsg 3 (dBin gMod (oVal (dBin gMul2 (oVal (dBin gAdd (oVal (dBin gAdd (oVal (dBin gMod (oVar 2) (oVal (dC (.int 2147483629))))) (oVal (dBin gMul2 (oVal (dBin gMul2 (oVal (dC (.int 7919))) (oVar 1))) (oVar 1))))) (oVal (dC (.int 11))))) (oVal (dC (.int 48271))))) (oVal (dC (.int 2147483647)))))
    (dRet (dLst (aCons (oVal (dBin gMod (oVal (dBin gMul2 (oVar 2) (oVal (dCB gInt (aCons (oVal (dBin gGe (oVar 2) (oVal (dBin gPow (oVal (dC (.int 10))) (oVal (dC (.int 18))))))) aNil))))) (oVal (dCB gInt (aCons (oVal (dBin gAdd (oVal (dC (.str "1"))) (oVal (dBin gMul2 (oVal (dC (.str "0"))) (oVal (dC (.int 4000))))))) aNil))))) (aCons (oVar 3) aNil))))))
def sLeft : PSpec := fun ds Q => ∃ (ns : List Int) (k : Int), ds = [.scr (ns.map .int), .int k] ∧ ns.length ≤ 63 ∧ 0 ≤ k ∧ k ≤ 1000 ∧ ∀ a s : Int, Q (.lst true [.int a, .int s]) []
theorem imp_left : ∀ ds Q, sLeft ds Q → bodyW [] 4 2 (wLeft sCell) ds Q := by
  rintro ds Q ⟨ns, k, rfl, hl, h0, h1, q⟩
  refine ⟨rfl, ?_⟩
  simp only [wLeft, Bx.go]
  have hm : (0 : Int) < if (ns.length : Int) > 1 then (ns.length : Int) else 1 := by split <;> omega
  refine ⟨hm, ns, _, rfl, Int.emod_nonneg _ (by omega), fun r => ?_⟩
  simp only [Bx.go]
  refine ⟨by decide, .inl (by omega), .inl (by omega), .inr (.inl (by omega)), by decide, ⟨by decide, by decide, by decide⟩, .inr (.inl (by split <;> decide)), big_ok fun m m0 => ⟨m0, q _ _⟩⟩
def wPick : DS :=
  (dSeq (dIfS (tVal (dBin gGt (oVal (dBin gIx (oVar 0) (oVal (dC (.int 0))))) (oVal (dC (.int 0)))))
    (dSeq (dAsg 2 (dBin gMod (oVal (dBin gIx (oVar 0) (oVal (dC (.int 0))))) (oVar 1)))
    (dSeq (dSub 0 (dBin gDiv (oVal (dBin gIx (oVar 0) (oVal (dC (.int 0))))) (oVar 1)) (oVal (dC (.int 0))))
    (dRetV 2)))
    dNext)
    (dSeq (dSub 0 (dBin gMod (oVal (dBin gAdd (oVal (dBin gMul2 (oVal (dBin gIx (oVar 0) (oVal (dC (.int 1))))) (oVal (dC (.int 48271))))) (oVal (dC (.int 12345))))) (oVal (dC (.int 2147483647)))) (oVal (dC (.int 1))))
    (dRet (dBin gMod (oVal (dBin gMod (oVal (dBin gMul2 (oVal (dBin gIx (oVar 0) (oVal (dC (.int 1))))) (oVal (dBin gIx (oVar 0) (oVal (dC (.int 1))))))) (oVal (dC (.int 1999999973))))) (oVar 1)))))
def sPick : PSpec := fun ds Q => ∃ (a s m : Int), ds = [.lst true [.int a, .int s], .int m] ∧ 0 < m ∧ m < 1000000 ∧ ∀ r a' s' : Int, 0 ≤ r → r < m → Q (.int r) [.lst true [.int a', .int s']]
theorem imp_pick : ∀ ds Q, sPick ds Q → bodyW [0] 3 2 wPick ds Q := by
  rintro ds Q ⟨a, s, m, rfl, h0, h1, q⟩
  refine ⟨rfl, ?_⟩
  simp only [wPick, Bx.go]
  have e0 : ∀ x y : Int, atI [D.int x, D.int y] 0 = some (.int x) := fun _ _ => rfl
  have e1 : ∀ x y : Int, atI [D.int x, D.int y] 1 = some (.int y) := fun _ _ => rfl
  have x0 : ixN 2 0 = some 0 := rfl
  have x1 : ixN 2 1 = some 1 := rfl
  simp only [e0, e1, Bx.go]
  refine pick_by (fun h => ?_) (fun h => ?_)
  · simp only [e0, e1, x0, x1, Nat.zero_add, Bx.go]
    exact ⟨h0, ⟨h0, by omega⟩, q _ _ _ (Int.emod_nonneg _ (by omega)) (Int.emod_lt_of_pos _ h0)⟩
  · simp only [e0, e1, x0, x1, Nat.zero_add, Bx.go]
    refine ⟨.inr (.inl ⟨by decide, by decide⟩), by decide, ?_, by decide, h0, q _ _ _ (Int.emod_nonneg _ (by omega)) (Int.emod_lt_of_pos _ h0)⟩
    have z1 := Int.emod_nonneg (s * 48271 + 12345) (show (2147483647 : Int) ≠ 0 by decide)
    have z2 := Int.emod_lt_of_pos (s * 48271 + 12345) (show (0 : Int) < 2147483647 by decide)
    exact .inl ⟨by omega, by omega⟩
def wSame (C : PSpec) : DS :=
  (dSeq (dIfS (tVal (dIsi "tuple" (oVar 1)))
    (dSeq (dIfS (tOr (tNot (tVal (dIsi "tuple" (oVar 0)))) (tVal (dBin gNe (oVal (dCB gLen (aCons (oVar 0) aNil))) (oVal (dCB gLen (aCons (oVar 1) aNil))))))
    (dRet (dC (.bl false)))
    dNext)
    (dRet (dCB gAll (aCons (oVal (dComp (iZX (aCons (oVar 0) (aCons (oVar 1) aNil))) [2, 3] (gT (gsCons (gN 2) (gsCons (gN 3) gsNil)) 2) tAll (dCall C (aCons (oVar 2) (aCons (oVar 3) aNil))))) aNil))))
    dNext)
    (dSeq (dIfS (tVal (dBin gIsN (oVar 1) (oVal (dC .non))))
    (dRet (dBin gIsN (oVar 0) (oVal (dC .non))))
    dNext)
    (dSeq (dIfS (tVal (dIsi "str" (oVar 1)))
    (dRet (dAnd (dIsi "str" (oVar 0)) (dBin gEq (oVar 0) (oVar 1))))
    dNext)
    (dSeq (dIfS (tOr (tVal (dIsi "bool" (oVar 1))) (tVal (dIsi "bool" (oVar 0))))
    (dRet (dAnd (dIsi "bool" (oVar 0)) (dAnd (dIsi "bool" (oVar 1)) (dBin gEq (oVar 0) (oVar 1)))))
    dNext)
    (dRet (dAnd (dIsi "int" (oVar 0)) (dBin gEq (oVar 0) (oVar 1))))))))
def okS : Nat → D → Prop
  | 0, _ => False
  | n + 1, .tup xs => xs.length ≤ sizeLine ∧ ∀ x ∈ xs, okS n x
  | _ + 1, .int _ => True
  | _ + 1, .bl _ => True
  | _ + 1, .non => True
  | _ + 1, .str z => (PyData.str z).canLay0 = true
  | _ + 1, _ => False
theorem okS.frz {n : Nat} {y : D} (h : okS n y) : y.frz = y := by
  cases y with
  | lst o xs => cases n <;> exact h.elim
  | odc _ _ => cases n <;> exact h.elim
  | obj _ _ _ => cases n <;> exact h.elim
  | ob2 _ _ => cases n <;> exact h.elim
  | exc _ _ => cases n <;> exact h.elim
  | _ => rfl
def sSame : Nat → PSpec
  | 0 => fun _ _ => False
  | n + 1 => fun ds Q => ∃ y : D, ds = [y, y] ∧ okS (n + 1) y ∧ Q (.bl true) []
theorem eqv_int (i j : Int) : D.eqv (.int i) (.int j) = (i == j) := by unfold D.eqv D.pd PyData.eqv; rfl
theorem eqOk_int (i j : Int) : D.eqOk (.int i) (.int j) := by
  refine ⟨?_, ?_, ?_⟩
  · simp [D.pd, PyData.canLay0]
  · simp [D.pd, PyData.canLay0]
  · simp [D.pd, PyData.depth]
theorem eqv_bl (i j : Bool) : D.eqv (.bl i) (.bl j) = (i == j) := by unfold D.eqv D.pd PyData.eqv; rfl
theorem eqOk_bl (i j : Bool) : D.eqOk (.bl i) (.bl j) := by
  refine ⟨?_, ?_, ?_⟩
  · simp [D.pd, PyData.canLay0]
  · simp [D.pd, PyData.canLay0]
  · simp [D.pd, PyData.depth]
theorem eqv_str (i j : Str) : D.eqv (.str i) (.str j) = (i == j) := by unfold D.eqv D.pd PyData.eqv; rfl
theorem eqOk_str {i j : Str} (h1 : (PyData.str i).canLay0 = true) (h2 : (PyData.str j).canLay0 = true) : D.eqOk (.str i) (.str j) := by
  refine ⟨by unfold D.pd; exact h1, by unfold D.pd; exact h2, ?_⟩
  simp [D.pd, PyData.depth]
theorem bls_true : ∀ n : Nat, asBls (List.replicate n (D.bl true)) = some (List.replicate n true)
  | 0 => rfl
  | n + 1 => by
    rw [List.replicate_succ]
    show (asBls (List.replicate n (D.bl true))).map (true :: ·) = _
    rw [bls_true n]; rfl
theorem zip_same {xs ys : List D} {x : D} {r : List D} (h : zipD xs ys = x :: r) : ∃ a b as bs, xs = a :: as ∧ ys = b :: bs ∧ x = .tup [a, b] ∧ r = zipD as bs := by
  cases xs with
  | nil => simp [zipD] at h
  | cons a as =>
    cases ys with
    | nil => simp [zipD] at h
    | cons b bs =>
      simp only [zipD, List.cons.injEq] at h
      exact ⟨a, b, as, bs, rfl, rfl, h.1.symm, h.2.symm⟩
theorem zipD_len' : ∀ {xs ys : List D}, (zipD xs ys).length ≤ xs.length
  | [], _ => Nat.zero_le _
  | _ :: _, [] => Nat.zero_le _
  | x :: xs, y :: ys => Nat.succ_le_succ zipD_len'
theorem imp_same (n : Nat) : ∀ ds Q, sSame (n + 1) ds Q → bodyW [] 4 2 (wSame (sSame n)) ds Q := by
  rintro ds Q ⟨y, rfl, hy, q⟩
  refine ⟨rfl, ?_⟩
  have eq (i : Int) : (i == i) = true := by simp
  cases y with
  | int i =>
    simp only [wSame, Bx.go]
    exact ⟨eqOk_int _ _, by simp only [eqv_int, eq, Bx.go]; exact q⟩
  | non =>
    simp only [wSame, Bx.go]
    exact q
  | bl b =>
    simp only [wSame, Bx.go]
    exact ⟨eqOk_bl _ _, by simp only [eqv_bl, beq_self_eq_true, Bx.go]; exact q⟩
  | str z =>
    simp only [wSame, Bx.go]
    exact ⟨eqOk_str hy hy, by simp only [eqv_str, beq_self_eq_true, Bx.go]; exact q⟩
  | tup xs =>
    simp only [wSame, Bx.go]
    refine ⟨eqOk_int _ _, ?_⟩
    simp only [eqv_int, eq, Bx.go]
    refine ⟨Nat.le_trans zipD_len' hy.1, ?_⟩
    refine comp_rule (fun items acc ρ => ρ = [some (.tup xs), some (.tup xs), none, none] ∧ (∃ r, items = zipD r r ∧ ∀ x ∈ r, x ∈ xs) ∧ ∃ k, acc = List.replicate k (.bl true)) ⟨rfl, ⟨xs, rfl, fun _ h => h⟩, 0, rfl⟩ ?_ ?_
    · rintro acc ρ ⟨rfl, _, k, rfl⟩
      simp only [bls_true, Bx.go]
      rw [show (List.replicate k true).all id = true by simp]
      exact q
    · rintro x r acc ρ N ⟨rfl, ⟨l, hl, hm⟩, k, rfl⟩ hN
      obtain ⟨a, b, as, bs, e1, e2, rfl, rfl⟩ := zip_same hl.symm
      subst e1
      cases e2
      have ha := hy.2 a (hm a List.mem_cons_self)
      obtain ⟨m, rfl⟩ : ∃ m, n = m + 1 := by
        cases n with
        | zero => exact ha.elim
        | succ m => exact ⟨m, rfl⟩
      have hf := ha.frz
      simp only [hf, Bx.go]
      refine ⟨a, rfl, ha, ?_⟩
      simp only [hf, Bx.go]
      refine hN _ _ ⟨rfl, ⟨as, rfl, fun x hx => hm x (List.mem_cons_of_mem _ hx)⟩, k + 1, ?_⟩
      rw [List.replicate_succ']
  | lst o xs => exact hy.elim
  | scr xs => exact hy.elim
  | dic ks xs => exact hy.elim
  | odc ks xs => exact hy.elim
  | obj _ _ _ => exact hy.elim
  | ob2 _ _ => exact hy.elim
  | exc _ _ => exact hy.elim
  | box _ _ => exact hy.elim
end Bx
namespace Bx
open PySem L2
theorem rangeD_mem {lo : Int} {n : Nat} {x : D} (h : x ∈ rangeD lo n) : ∃ i : Int, x = .int i ∧ lo ≤ i ∧ i < lo + n := by
  unfold rangeD at h
  obtain ⟨i, hi, rfl⟩ := List.mem_map.mp h
  have := List.mem_range.mp hi
  exact ⟨_, rfl, by omega, by omega⟩
theorem rangeD_len {lo : Int} {n : Nat} : (rangeD lo n).length = n := by unfold rangeD; simp
theorem atI_of {ns : List Int} {r : Int} (p : Int → Prop) (hp : ∀ n ∈ ns, p n) (h0 : 0 ≤ r) (h1 : r < ns.length) : ∃ v, atI (ns.map D.int) r = some (.int v) ∧ p v := by
  have h : r.toNat < ns.length := by omega
  refine ⟨ns[r.toNat], ?_, hp _ (List.getElem_mem h)⟩
  rw [atI_nat' h0, List.getElem?_map, List.getElem?_eq_getElem h]; rfl
theorem atI_mem {xs : List D} {r : Int} (h0 : 0 ≤ r) (h1 : r < xs.length) : ∃ d, d ∈ xs ∧ atI xs r = some d := by
  have h : r.toNat < xs.length := by omega
  refine ⟨xs[r.toNat], List.getElem_mem h, ?_⟩
  rw [atI_nat' h0, List.getElem?_eq_getElem h]
end Bx
namespace Bx
open PySem L2
theorem pds_ints : ∀ ns : List Int, D.pds (ns.map D.int) = ns.map PyData.int
  | [] => by simp [D.pds]
  | n :: r => by simp only [List.map_cons, D.pds, D.pd, pds_ints r]
theorem lay_ints : ∀ ns : List Int, PyData.canLayAll0 (ns.map PyData.int) = true
  | [] => by simp [PyData.canLayAll0]
  | n :: r => by simp [PyData.canLayAll0, PyData.canLay0, lay_ints r]
theorem dep_ints : ∀ ns : List Int, PyData.depthAll (ns.map PyData.int) = 0
  | [] => by simp [PyData.depthAll]
  | n :: r => by simp [PyData.depthAll, PyData.depth, dep_ints r]
theorem eqvAll_ints : ∀ a b : List Int, PyData.eqvAll (a.map PyData.int) (b.map PyData.int) = (a == b)
  | [], [] => by simp [PyData.eqvAll]
  | [], _ :: _ => by simp [PyData.eqvAll]
  | _ :: _, [] => by simp [PyData.eqvAll]
  | x :: a, y :: b => by
    simp only [List.map_cons, PyData.eqvAll, PyData.eqv, eqvAll_ints a b]
    rfl
theorem eqv_ints (a b : List Int) : D.eqv (.tup (a.map .int)) (.tup (b.map .int)) = (a == b) := by
  unfold D.eqv
  simp only [D.pd, pds_ints, PyData.eqv, eqvAll_ints]
theorem lay_tup_ints (a : List Int) : (D.tup (a.map .int)).pd.canLay0 = true := by simp only [D.pd, pds_ints, PyData.canLay0, lay_ints]
theorem eqOk_ints (a b : List Int) : D.eqOk (.tup (a.map .int)) (.tup (b.map .int)) := by
  refine ⟨lay_tup_ints a, lay_tup_ints b, ?_⟩
  simp only [D.pd, pds_ints, PyData.depth, dep_ints]
  decide
end Bx
namespace Bx
open PySem L2
theorem asInts_f {α : Type} (f : α → Int) : ∀ l : List α, asInts (l.map fun x => D.int (f x)) = some (l.map f)
  | [] => rfl
  | x :: r => by
    rw [List.map_cons]
    show (asInts (r.map fun x => D.int (f x))).map (f x :: ·) = _
    rw [asInts_f f r]; rfl
theorem asBls_f {α : Type} (f : α → Bool) : ∀ l : List α, asBls (l.map fun x => D.bl (f x)) = some (l.map f)
  | [] => rfl
  | x :: r => by
    rw [List.map_cons]
    show (asBls (r.map fun x => D.bl (f x))).map (f x :: ·) = _
    rw [asBls_f f r]; rfl
end Bx
namespace Bx
open PySem L2
theorem rangeD_cons {lo : Int} {n : Nat} : rangeD lo (n + 1) = .int lo :: rangeD (lo + 1) n := by
  unfold rangeD
  rw [List.range_succ_eq_map, List.map_cons, List.map_map]
  congr 1
  · simp
  · refine List.map_congr_left fun i _ => ?_
    simp only [Function.comp_def]
    congr 1
    omega
end Bx
namespace Bx
open PySem L2
theorem seq_cut {a b : DS} {E : DEnds} {ρ : Rho} (P : Rho → Prop) (h1 : ∀ R : Rho → Prop, (∀ ρ', P ρ' → R ρ') → a ⟨R, E.rt, E.bk, E.ct, E.ex⟩ ρ) (h2 : ∀ ρ', P ρ' → b E ρ') : dSeq a b E ρ := h1 (b E) h2
end Bx
namespace Bx
open PySem L2
theorem a0 {x y z : D} : atI [x, y, z] 0 = some x := rfl
theorem a1 {x y z : D} : atI [x, y, z] 1 = some y := rfl
theorem a2 {x y z : D} : atI [x, y, z] 2 = some z := rfl
theorem n30 : ixN (1 + 1 + 1) 0 = some 0 := rfl
theorem n31 : ixN (1 + 1 + 1) 1 = some 1 := rfl
theorem n32 : ixN (1 + 1 + 1) 2 = some 2 := rfl
def hnd (n : Nat) (xs : List D) : Prop := ∃ a b c : Int, xs = [.int a, .int b, .int c] ∧ 0 ≤ c ∧ c ≤ n
def sTake : PSpec := fun ds Q => ∃ (h : List D) (n : Nat) (m : Int), ds = [.lst true h, .int m] ∧ hnd n h ∧ n ≤ 10 ^ 15 ∧ 0 < m ∧ m < 1000000 ∧ ∀ (r : Int) (h' : List D), 0 ≤ r → r < m → hnd (n + 1) h' → Q (.int r) [.lst true h']
end Bx
namespace Bx
open PySem L2
theorem p0 {x y : D} : atI [x, y] 0 = some x := rfl
theorem p1 {x y : D} : atI [x, y] 1 = some y := rfl
theorem hnd.mono {n m : Nat} {d : List D} (h : hnd n d) (l : n ≤ m) : hnd m d := by
  obtain ⟨a, b, c, e, h0, h1⟩ := h
  exact ⟨a, b, c, e, h0, by omega⟩
end Bx
namespace Bx
open PySem L2
def okE : Nat → D → Prop
  | _, .non => True
  | _, .bl _ => True
  | _, .int _ => True
  | _, .str z => (PyData.str z).canLay0 = true
  | n + 1, .tup xs => ∀ x ∈ xs, okE n x
  | n + 1, .lst _ xs => ∀ x ∈ xs, okE n x
  | _, _ => False
theorem pds_map : ∀ xs : List D, D.pds xs = xs.map D.pd
  | [] => by simp [D.pds]
  | x :: r => by simp only [D.pds, List.map_cons, pds_map r]
theorem layAll {xs : List D} : (∀ x ∈ xs, x.pd.canLay0 = true) → PyData.canLayAll0 (D.pds xs) = true := by
  induction xs with
  | nil => intro _; simp [D.pds, PyData.canLayAll0]
  | cons x r ih => intro h; simp only [D.pds, PyData.canLayAll0]; rw [h x List.mem_cons_self, ih fun y hy => h y (List.mem_cons_of_mem _ hy)]; rfl
theorem depAll {n : Nat} {xs : List D} : (∀ x ∈ xs, x.pd.depth ≤ n) → PyData.depthAll (D.pds xs) ≤ n := by
  induction xs with
  | nil => intro _; simp [D.pds, PyData.depthAll]
  | cons x r ih => intro h; simp only [D.pds, PyData.depthAll]; have := h x List.mem_cons_self; have := ih fun y hy => h y (List.mem_cons_of_mem _ hy); omega
theorem eqvAll_refl {xs : List D} : (∀ x ∈ xs, PyData.eqv x.pd x.pd = true) → PyData.eqvAll (D.pds xs) (D.pds xs) = true := by
  induction xs with
  | nil => intro _; simp [D.pds, PyData.eqvAll]
  | cons x r ih => intro h; simp only [D.pds, PyData.eqvAll]; rw [h x List.mem_cons_self, ih fun y hy => h y (List.mem_cons_of_mem _ hy)]; rfl
theorem okE.lay : ∀ {n : Nat} {y : D}, okE n y → y.pd.canLay0 = true
  | _, .non, _ => by simp [D.pd, PyData.canLay0]
  | _, .bl _, _ => by simp [D.pd, PyData.canLay0]
  | _, .int _, _ => by simp [D.pd, PyData.canLay0]
  | _, .str _, h => by unfold okE at h; unfold D.pd; exact h
  | 0, .tup _, h => by unfold okE at h; exact h.elim
  | 0, .lst _ _, h => by unfold okE at h; exact h.elim
  | n + 1, .tup xs, h => by
    unfold okE at h; simp only [D.pd, PyData.canLay0]
    exact layAll fun x hx => okE.lay (h x hx)
  | n + 1, .lst _ xs, h => by
    unfold okE at h; simp only [D.pd, PyData.canLay0]
    exact layAll fun x hx => okE.lay (h x hx)
  | 0, .scr _, h => by unfold okE at h; exact h.elim
  | 0, .dic _ _, h => by unfold okE at h; exact h.elim
  | 0, .odc _ _, h => by unfold okE at h; exact h.elim
  | 0, .obj _ _ _, h => by unfold okE at h; exact h.elim
  | 0, .ob2 _ _, h => by unfold okE at h; exact h.elim
  | 0, .exc _ _, h => by unfold okE at h; exact h.elim
  | 0, .box _ _, h => by unfold okE at h; exact h.elim
  | _ + 1, .scr _, h => by unfold okE at h; exact h.elim
  | _ + 1, .dic _ _, h => by unfold okE at h; exact h.elim
  | _ + 1, .odc _ _, h => by unfold okE at h; exact h.elim
  | _ + 1, .obj _ _ _, h => by unfold okE at h; exact h.elim
  | _ + 1, .ob2 _ _, h => by unfold okE at h; exact h.elim
  | _ + 1, .exc _ _, h => by unfold okE at h; exact h.elim
  | _ + 1, .box _ _, h => by unfold okE at h; exact h.elim
theorem okE.dep : ∀ {n : Nat} {y : D}, okE n y → y.pd.depth ≤ n
  | _, .non, _ => by simp [D.pd, PyData.depth]
  | _, .bl _, _ => by simp [D.pd, PyData.depth]
  | _, .int _, _ => by simp [D.pd, PyData.depth]
  | _, .str _, _ => by simp [D.pd, PyData.depth]
  | 0, .tup _, h => by unfold okE at h; exact h.elim
  | 0, .lst _ _, h => by unfold okE at h; exact h.elim
  | n + 1, .tup xs, h => by
    unfold okE at h; simp only [D.pd, PyData.depth]
    exact Nat.succ_le_succ (depAll fun x hx => okE.dep (h x hx))
  | n + 1, .lst _ xs, h => by
    unfold okE at h; simp only [D.pd, PyData.depth]
    exact Nat.succ_le_succ (depAll fun x hx => okE.dep (h x hx))
  | 0, .scr _, h => by unfold okE at h; exact h.elim
  | 0, .dic _ _, h => by unfold okE at h; exact h.elim
  | 0, .odc _ _, h => by unfold okE at h; exact h.elim
  | 0, .obj _ _ _, h => by unfold okE at h; exact h.elim
  | 0, .ob2 _ _, h => by unfold okE at h; exact h.elim
  | 0, .exc _ _, h => by unfold okE at h; exact h.elim
  | 0, .box _ _, h => by unfold okE at h; exact h.elim
  | _ + 1, .scr _, h => by unfold okE at h; exact h.elim
  | _ + 1, .dic _ _, h => by unfold okE at h; exact h.elim
  | _ + 1, .odc _ _, h => by unfold okE at h; exact h.elim
  | _ + 1, .obj _ _ _, h => by unfold okE at h; exact h.elim
  | _ + 1, .ob2 _ _, h => by unfold okE at h; exact h.elim
  | _ + 1, .exc _ _, h => by unfold okE at h; exact h.elim
  | _ + 1, .box _ _, h => by unfold okE at h; exact h.elim
theorem okE.refl : ∀ {n : Nat} {y : D}, okE n y → PyData.eqv y.pd y.pd = true
  | _, .non, _ => by simp [D.pd, PyData.eqv]
  | _, .bl _, _ => by simp [D.pd, PyData.eqv]
  | _, .int _, _ => by simp [D.pd, PyData.eqv]
  | _, .str _, _ => by simp [D.pd, PyData.eqv]
  | 0, .tup _, h => by unfold okE at h; exact h.elim
  | 0, .lst _ _, h => by unfold okE at h; exact h.elim
  | n + 1, .tup xs, h => by
    unfold okE at h; simp only [D.pd, PyData.eqv]
    exact eqvAll_refl fun x hx => okE.refl (h x hx)
  | n + 1, .lst _ xs, h => by
    unfold okE at h; simp only [D.pd, PyData.eqv]
    exact eqvAll_refl fun x hx => okE.refl (h x hx)
  | 0, .scr _, h => by unfold okE at h; exact h.elim
  | 0, .dic _ _, h => by unfold okE at h; exact h.elim
  | 0, .odc _ _, h => by unfold okE at h; exact h.elim
  | 0, .obj _ _ _, h => by unfold okE at h; exact h.elim
  | 0, .ob2 _ _, h => by unfold okE at h; exact h.elim
  | 0, .exc _ _, h => by unfold okE at h; exact h.elim
  | 0, .box _ _, h => by unfold okE at h; exact h.elim
  | _ + 1, .scr _, h => by unfold okE at h; exact h.elim
  | _ + 1, .dic _ _, h => by unfold okE at h; exact h.elim
  | _ + 1, .odc _ _, h => by unfold okE at h; exact h.elim
  | _ + 1, .obj _ _ _, h => by unfold okE at h; exact h.elim
  | _ + 1, .ob2 _ _, h => by unfold okE at h; exact h.elim
  | _ + 1, .exc _ _, h => by unfold okE at h; exact h.elim
  | _ + 1, .box _ _, h => by unfold okE at h; exact h.elim
theorem eqOk_of {n m : Nat} {x y : D} (hx : okE n x) (hy : okE m y) (h : n ≤ 64) : D.eqOk x y := ⟨hx.lay, hy.lay, by have := hx.dep; omega⟩
theorem eqv_refl {n : Nat} {x : D} (h : okE n x) : D.eqv x x = true := h.refl
end Bx
namespace Bx
open PySem L2
def wSame2 (C : PSpec) : DS :=
  (dSeq (dIfS (tVal (dIsi "tuple" (oVar 1)))
    (dSeq (dIfS (tOr (tNot (tVal (dIsi "tuple" (oVar 0)))) (tVal (dBin gNe (oVal (dCB gLen (aCons (oVar 0) aNil))) (oVal (dCB gLen (aCons (oVar 1) aNil))))))
    (dRet (dC (.bl false)))
    dNext)
    (dRet (dCB gAll (aCons (oVal (dComp (iZX (aCons (oVar 0) (aCons (oVar 1) aNil))) [2, 3] (gT (gsCons (gN 2) (gsCons (gN 3) gsNil)) 2) tAll (dCall C (aCons (oVar 2) (aCons (oVar 3) aNil))))) aNil))))
    dNext)
    (dSeq (dIfS (tVal (dBin gIsN (oVar 1) (oVal (dC .non))))
    (dRet (dBin gIsN (oVar 0) (oVal (dC .non))))
    dNext)
    (dSeq (dIfS (tOr (tVal (dIsi "bool" (oVar 1))) (tVal (dIsi "bool" (oVar 0))))
    (dRet (dAnd (dIsi "bool" (oVar 1)) (dAnd (dIsi "bool" (oVar 0)) (dBin gEq (oVar 0) (oVar 1)))))
    dNext)
    (dSeq (dIfS (tVal (dIsi "str" (oVar 1)))
    (dRet (dAnd (dIsi "str" (oVar 0)) (dBin gEq (oVar 0) (oVar 1))))
    dNext)
    (dRet (dAnd (dIsi "int" (oVar 0)) (dBin gEq (oVar 0) (oVar 1))))))))
theorem imp_same2 (n : Nat) : ∀ ds Q, sSame (n + 1) ds Q → bodyW [] 4 2 (wSame2 (sSame n)) ds Q := by
  rintro ds Q ⟨y, rfl, hy, q⟩
  refine ⟨rfl, ?_⟩
  have eq (i : Int) : (i == i) = true := by simp
  cases y with
  | int i =>
    simp only [wSame2, Bx.go]
    exact ⟨eqOk_int _ _, by simp only [eqv_int, eq, Bx.go]; exact q⟩
  | non =>
    simp only [wSame2, Bx.go]
    exact q
  | bl b =>
    simp only [wSame2, Bx.go]
    exact ⟨eqOk_bl _ _, by simp only [eqv_bl, beq_self_eq_true, Bx.go]; exact q⟩
  | str z =>
    simp only [wSame2, Bx.go]
    exact ⟨eqOk_str hy hy, by simp only [eqv_str, beq_self_eq_true, Bx.go]; exact q⟩
  | tup xs =>
    simp only [wSame2, Bx.go]
    refine ⟨eqOk_int _ _, ?_⟩
    simp only [eqv_int, eq, Bx.go]
    refine ⟨Nat.le_trans zipD_len' hy.1, ?_⟩
    refine comp_rule (fun items acc ρ => ρ = [some (.tup xs), some (.tup xs), none, none] ∧ (∃ r, items = zipD r r ∧ ∀ x ∈ r, x ∈ xs) ∧ ∃ k, acc = List.replicate k (.bl true)) ⟨rfl, ⟨xs, rfl, fun _ h => h⟩, 0, rfl⟩ ?_ ?_
    · rintro acc ρ ⟨rfl, _, k, rfl⟩
      simp only [bls_true, Bx.go]
      rw [show (List.replicate k true).all id = true by simp]
      exact q
    · rintro x r acc ρ N ⟨rfl, ⟨l, hl, hm⟩, k, rfl⟩ hN
      obtain ⟨a, b, as, bs, e1, e2, rfl, rfl⟩ := zip_same hl.symm
      subst e1
      cases e2
      have ha := hy.2 a (hm a List.mem_cons_self)
      obtain ⟨m, rfl⟩ : ∃ m, n = m + 1 := by
        cases n with
        | zero => exact ha.elim
        | succ m => exact ⟨m, rfl⟩
      have hf := ha.frz
      simp only [hf, Bx.go]
      refine ⟨a, rfl, ha, ?_⟩
      simp only [hf, Bx.go]
      refine hN _ _ ⟨rfl, ⟨as, rfl, fun x hx => hm x (List.mem_cons_of_mem _ hx)⟩, k + 1, ?_⟩
      rw [List.replicate_succ']
  | lst o xs => exact hy.elim
  | scr xs => exact hy.elim
  | dic ks xs => exact hy.elim
  | odc ks xs => exact hy.elim
  | obj _ _ _ => exact hy.elim
  | ob2 _ _ => exact hy.elim
  | exc _ _ => exact hy.elim
  | box _ _ => exact hy.elim
end Bx
namespace Bx
open PySem L2
theorem at0 {x : D} {xs : List D} : atI (x :: xs) 0 = some x := by
  rw [atI_nat' (by decide)]; rfl
end Bx
namespace Bx
open PySem L2
theorem zipD_map {α β : Type} (f : α → D) (g : β → D) : ∀ (xs : List α) (ys : List β), zipD (xs.map f) (ys.map g) = (xs.zip ys).map fun p => .tup [f p.1, g p.2]
  | [], _ => by simp [zipD]
  | _ :: _, [] => by simp [zipD]
  | x :: xs, y :: ys => by simp only [List.map_cons, zipD, List.zip_cons_cons, zipD_map f g xs ys]
theorem for_each {α : Type} {g : DG} {b : DS} {E : DEnds} (xs : List α) (f : α → D) (I : List α → Rho → Prop) {ρ : Rho} (h0 : I [] ρ)
    (hs : ∀ dn x r ρ (N : Rho → Prop), xs = dn ++ x :: r → I dn ρ → (∀ ρ', I (dn ++ [x]) ρ' → N ρ') → g (f x) (kForB b E N) ρ) (hn : ∀ ρ, I xs ρ → E.nx ρ) : forGo g b E (xs.map f) ρ := by
  refine for_rule (fun items ρ => ∃ dn r, xs = dn ++ r ∧ items = r.map f ∧ I dn ρ) ⟨[], xs, rfl, rfl, h0⟩ ?_ ?_
  · rintro ρ ⟨dn, r, e, e2, i⟩
    have er : r = [] := by simpa using e2.symm
    subst er
    rw [List.append_nil] at e
    subst e
    exact hn ρ i
  · rintro x it ρ N ⟨dn, r, e, e2, i⟩ hN
    cases r with
    | nil => simp at e2
    | cons y r =>
    simp only [List.map_cons, List.cons.injEq] at e2
    obtain ⟨rfl, rfl⟩ := e2
    exact hs dn y r ρ N e i fun ρ' i' => hN ρ' ⟨dn ++ [y], r, by simp [e], rfl, i'⟩
theorem co_each {α : Type} {vs : List Nat} {tg : DG} {cond : DT} {elt : DE} {ρ1 : Rho} {k : D → Rho → Prop} (xs : List α) (f : α → D) (I : List α → List D → Rho → Prop) {ρ : Rho} (h0 : I [] [] ρ)
    (hs : ∀ dn x r acc ρ (N : List D → Rho → Prop), xs = dn ++ x :: r → I dn acc ρ → (∀ acc' ρ', I (dn ++ [x]) acc' ρ' → N acc' ρ') → tg (f x) (kCo1 vs cond elt N acc) ρ)
    (hn : ∀ acc ρ, I xs acc ρ → k (.lst true acc) (backR ρ1 ρ vs)) : coGo vs tg cond elt ρ1 k (xs.map f) [] ρ := by
  refine comp_rule (fun items acc ρ => ∃ dn r, xs = dn ++ r ∧ items = r.map f ∧ I dn acc ρ) ⟨[], xs, rfl, rfl, h0⟩ ?_ ?_
  · rintro acc ρ ⟨dn, r, e, e2, i⟩
    have er : r = [] := by simpa using e2.symm
    subst er
    rw [List.append_nil] at e
    subst e
    exact hn acc ρ i
  · rintro x it acc ρ N ⟨dn, r, e, e2, i⟩ hN
    cases r with
    | nil => simp at e2
    | cons y r =>
    simp only [List.map_cons, List.cons.injEq] at e2
    obtain ⟨rfl, rfl⟩ := e2
    exact hs dn y r acc ρ N e i fun acc' ρ' i' => hN acc' ρ' ⟨dn ++ [y], r, by simp [e], rfl, i'⟩
section
variable {α : Type} {vs : List Nat} {tg : DG} {cond : DT} {elt : DE} {ρ1 : Rho} {k : D → Rho → Prop}
theorem co_sel (xs : List α) (f : α → D) (sel : α → List D) {ρ : Rho} (hs : ∀ x ∈ xs, ∀ acc (N : List D → Rho → Prop), N (acc ++ sel x) ρ → tg (f x) (kCo1 vs cond elt N acc) ρ)
    (hk : k (.lst true (xs.flatMap sel)) (backR ρ1 ρ vs)) : coGo vs tg cond elt ρ1 k (xs.map f) [] ρ := by
  refine co_each xs f (fun dn acc ρ' => ρ' = ρ ∧ acc = dn.flatMap sel) ⟨rfl, rfl⟩ ?_ ?_
  · rintro dn x r acc ρ' N e ⟨rfl, rfl⟩ hN
    exact hs x (by rw [e]; simp) _ _ (hN _ _ ⟨rfl, by simp⟩)
  · rintro acc ρ' ⟨rfl, rfl⟩
    exact hk
theorem co_map (xs : List α) (f : α → D) (g : α → D) {ρ : Rho} (hs : ∀ x ∈ xs, ∀ acc (N : List D → Rho → Prop), N (acc ++ [g x]) ρ → tg (f x) (kCo1 vs cond elt N acc) ρ)
    (hk : k (.lst true (xs.map g)) (backR ρ1 ρ vs)) : coGo vs tg cond elt ρ1 k (xs.map f) [] ρ := by
  refine co_sel xs f (fun x => [g x]) hs ?_
  rw [show xs.flatMap (fun x => [g x]) = xs.map g by
    clear hs hk
    induction xs with
    | nil => rfl
    | cons x r ih => simp [ih]]
  exact hk
end
theorem rangeD_nat (n : Nat) : rangeD 0 n = (List.range n).map fun i : Nat => D.int (i : Int) := by unfold rangeD; exact List.map_congr_left fun i _ => by rw [Int.zero_add]
end Bx
namespace Zb
open PySem PySem.Spec PyProof.Rows L2 Bx
abbrev Eg := Option (Int × Bool)
def eD : Eg → D
  | none => .non
  | some (n, b) => .tup [.int n, .bl b]
def sD (s : Eg × Eg) : D := .tup [eD s.1, eD s.2]
def fl : Eg → Int → Bool
  | none, _ => true
  | some (x, b), n => decide (x < n) || ((n == x) && b)
def fh : Eg → Int → Bool
  | none, _ => true
  | some (x, b), n => decide (n < x) || ((n == x) && b)
def fitB : List (Eg × Eg) → List Int → Bool
  | s :: r, n :: ns => (fl s.1 n && fh s.2 n) && fitB r ns
  | _, _ => true
def C_fits : PSpec := fun ds Q => ∃ (b : List (Eg × Eg)) (p : List Int), ds = [.tup (b.map sD), .tup (p.map .int)] ∧ b.length ≤ 1000 ∧ Q (.bl (fitB b p)) []
def C__law_take : PSpec := sTake
def C__law_pool : PSpec := fun ds Q => ∃ (h : List D) (n : Nat), ds = [.lst true h] ∧ hnd n h ∧ n ≤ 10 ^ 14 ∧ ∀ (l : List Int) (h' : List D), l ≠ [] → l.length ≤ 9 → hnd (n + 3) h' → Q (.lst true (l.map .int)) [.lst true h']
def C__law_end : PSpec := fun ds Q => ∃ (h : List D) (n : Nat) (l : List Int), ds = [.lst true h, .lst false (l.map .int)] ∧ hnd n h ∧ n ≤ 10 ^ 14 ∧ l ≠ [] ∧ l.length ≤ 9 ∧ ∀ (e : Eg) (h' : List D), hnd (n + 4) h' → Q (eD e) [.lst true h']
def C__law_span : PSpec := fun ds Q => ∃ (h : List D) (n : Nat) (l : List Int), ds = [.lst true h, .lst false (l.map .int)] ∧ hnd n h ∧ n ≤ 10 ^ 13 ∧ l ≠ [] ∧ l.length ≤ 9 ∧ ∀ (s : Eg × Eg) (h' : List D), hnd (n + 9) h' → Q (sD s) [.lst true h']
def poolD (l : List Int) : D := .lst false (l.map .int)
def Pools (ps : List (List Int)) : Prop := ∀ l ∈ ps, l ≠ [] ∧ l.length ≤ 9
def C__law_box : PSpec := fun ds Q => ∃ (h : List D) (n : Nat) (ps : List (List Int)), ds = [.lst true h, .lst false (ps.map poolD)] ∧ hnd n h ∧ n ≤ 10 ^ 12 ∧ Pools ps ∧ ps.length ≤ 4 ∧ ∀ (b : List (Eg × Eg)) (h' : List D), b.length = ps.length → hnd (n + 36) h' → Q (.tup (b.map sD)) [.lst true h']
abbrev Pr := Option Int × Option Int
def oD : Option Int → D
  | none => .non
  | some i => .int i
def pD (p : Pr) : D := .tup [oD p.1, oD p.2]
def pl (s : Eg × Eg) : Pr := (match s.1 with | none => none | some (x, b) => some (x + if b then 0 else 1), match s.2 with | none => none | some (x, b) => some (x - if b then 0 else 1))
def cr : Pr → Bool
  | (some a, some b) => decide (b < a)
  | _ => false
def plainOf (ps : List Pr) : List Pr := if ps.any cr then ps.map fun _ => (some 1, some 0) else ps
def C_plain_of : PSpec := fun ds Q => ∃ ps : List Pr, (ds = [.lst false (ps.map pD)] ∨ ds = [.tup (ps.map pD)]) ∧ ps.length ≤ 1000 ∧ Q (.tup ((plainOf ps).map pD)) []
def C_plain_box : PSpec := fun ds Q => ∃ b : List (Eg × Eg), ds = [.tup (b.map sD)] ∧ b.length ≤ 1000 ∧ Q (.tup ((plainOf (b.map pl)).map pD)) []
def sh : Option Int → Eg
  | none => none
  | some n => some (n, true)
def gr : Option Int → Option Int → Option Int
  | none, b => b
  | some a, none => some a
  | some a, some b => some (if a < b then b else a)
def le : Option Int → Option Int → Option Int
  | none, b => b
  | some a, none => some a
  | some a, some b => some (if b < a then b else a)
def cm (p q : Pr) : Pr := (gr p.1 q.1, le p.2 q.2)
def com (ps qs : List Pr) : List Pr := plainOf (List.zipWith cm ps qs)
def C_lies_within : PSpec := fun ds Q => ∃ ps qs : List Pr, ds = [.tup (ps.map pD), .tup (qs.map pD)] ∧ ps.length ≤ 1000 ∧ Q (.bl (decide (com ps qs = ps))) []
def C_lie_apart : PSpec := fun ds Q => ∃ ps qs : List Pr, ds = [.tup (ps.map pD), .tup (qs.map pD)] ∧ ps.length ≤ 1000 ∧ Q (.bl (decide (com ps qs = ps.map fun _ => (some 1, some 0)))) []
def plc (l : List Int) : D := .tup (l.map .int)
def Bnd (ls : List (List Int)) (d : Nat) (bs : List Pr) : Prop := bs.length = d ∧ ∀ i, i < d → ∃ m M : Int, bs[i]? = some (some m, some M) ∧ m ∈ ls.map (·.getD i 0) ∧ M ∈ ls.map (·.getD i 0) ∧ ∀ y ∈ ls.map (·.getD i 0), m ≤ y ∧ y ≤ M
def C_bounds : PSpec := fun ds Q => ∃ (ls : List (List Int)) (d : Nat), ds = [.tup (ls.map plc)] ∧ ls ≠ [] ∧ ls.length ≤ 1000 ∧ d ≤ 1000 ∧ (∀ l ∈ ls, l.length = d) ∧ ∀ bs, Bnd ls d bs → Q (.tup (bs.map pD)) []
def isW : D → Bool
  | .int _ => true
  | _ => false
def pnum (d : D) : Bool := d.isNon || isW d
def isPair : D → Bool
  | .tup [a, b] => pnum a && pnum b
  | _ => false
def C_is_whole : PSpec := fun ds Q => ∃ d : D, ds = [d] ∧ Q (.bl (isW d)) []
def C_is_pair : PSpec := fun ds Q => ∃ d : D, ds = [d] ∧ Q (.bl (isPair d)) []
def C_is_plain : PSpec := fun ds Q => ∃ (ps : List Pr), ds = [.tup (ps.map pD), .int ps.length] ∧ ps.length ≤ 1000 ∧ Q (.bl (decide (plainOf ps = ps))) []
def w__law_pool : DS :=
  (dSeq (dAsg 1 (dBin gIx (oVal (dLst (aCons (oVal (dC (.int 0))) (aCons (oVal (dUn gNeg (oVal (dC (.int 3))))) (aCons (oVal (dBin gPow (oVal (dC (.int 10))) (oVal (dC (.int 6))))) (aCons (oVal (dUn gNeg (oVal (dBin gPow (oVal (dC (.int 10))) (oVal (dC (.int 17))))))) (aCons (oVal (dBin gMul2 (oVal (dC (.int 9))) (oVal (dBin gPow (oVal (dC (.int 10))) (oVal (dC (.int 17))))))) (aCons (oVal (dBin gSub (oVal (dC (.int 1))) (oVal (dBin gPow (oVal (dC (.int 10))) (oVal (dC (.int 17))))))) aNil)))))))) (oVal (dCallIO 0 0 C__law_take (aCons (oVar 0) (aCons (oVal (dC (.int 6))) aNil))))))
    (dSeq (dAsg 2 (dBin gIx (oVal (dLst (aCons (oVal (dC (.int 1))) (aCons (oVal (dC (.int 1))) (aCons (oVal (dC (.int 2))) (aCons (oVal (dC (.int 7))) aNil)))))) (oVal (dCallIO 0 0 C__law_take (aCons (oVar 0) (aCons (oVal (dC (.int 4))) aNil))))))
    (dRet (dComp (iR gR1 (aCons (oVal (dBin gIx (oVal (dLst (aCons (oVal (dC (.int 1))) (aCons (oVal (dC (.int 2))) (aCons (oVal (dC (.int 4))) (aCons (oVal (dC (.int 9))) aNil)))))) (oVal (dCallIO 0 0 C__law_take (aCons (oVar 0) (aCons (oVal (dC (.int 4))) aNil)))))) aNil)) [3] (gN 3) tAll (dBin gAdd (oVar 1) (oVal (dBin gMul2 (oVar 2) (oVar 3))))))))
abbrev B__law_pool : PSpec := bodyW [0] 4 1 w__law_pool
def w__law_end : DS :=
  (dSeq (dAsg 2 (dBin gAdd (oVal (dBin gIx (oVar 1) (oVal (dCallIO 0 0 C__law_take (aCons (oVar 0) (aCons (oVal (dCB gLen (aCons (oVar 1) aNil))) aNil)))))) (oVal (dBin gIx (oVal (dLst (aCons (oVal (dC (.int 0))) (aCons (oVal (dC (.int 0))) (aCons (oVal (dC (.int 1))) (aCons (oVal (dUn gNeg (oVal (dC (.int 1))))) (aCons (oVal (dC (.int 0))) (aCons (oVal (dC (.int 3))) aNil)))))))) (oVal (dCallIO 0 0 C__law_take (aCons (oVar 0) (aCons (oVal (dC (.int 6))) aNil))))))))
    (dRet (dBin gIx (oVal (dLst (aCons (oVal (dTup (aCons (oVar 2) (aCons (oVal (dBin gEq (oVal (dCallIO 0 0 C__law_take (aCons (oVar 0) (aCons (oVal (dC (.int 2))) aNil)))) (oVal (dC (.int 0))))) aNil)))) (aCons (oVal (dC .non)) aNil)))) (oVal (dCB gInt (aCons (oVal (dBin gEq (oVal (dCallIO 0 0 C__law_take (aCons (oVar 0) (aCons (oVal (dC (.int 5))) aNil)))) (oVal (dC (.int 0))))) aNil))))))
abbrev B__law_end : PSpec := bodyW [0] 3 2 w__law_end
def w__law_box : DS :=
  (dRet (dCB gTuple (aCons (oVal (dComp (iOf (dVar 1)) [2] (gN 2) tAll (dCallIO 0 0 C__law_span (aCons (oVar 0) (aCons (oVar 2) aNil))))) aNil)))
abbrev B__law_box : PSpec := bodyW [0] 3 2 w__law_box
def w_bounds : DS :=
  (dSeq (dAsg 1 (dComp (iR gR1 (aCons (oVal (dCB gLen (aCons (oVal (dBin gIx (oVar 0) (oVal (dC (.int 0))))) aNil))) aNil)) [2] (gN 2) tAll (dComp (iOf (dVar 0)) [3] (gN 3) tAll (dBin gIx (oVar 3) (oVar 2)))))
    (dRet (dCB gTuple (aCons (oVal (dComp (iOf (dVar 1)) [4] (gN 4) tAll (dTup (aCons (oVal (dCB gMin (aCons (oVar 4) aNil))) (aCons (oVal (dCB gMax (aCons (oVar 4) aNil))) aNil))))) aNil))))
abbrev B_bounds : PSpec := bodyW [] 5 1 w_bounds
def w_is_whole : DS :=
  (dRet (dAnd (dIsi "int" (oVar 0)) (dNot (dIsi "bool" (oVar 0)))))
abbrev B_is_whole : PSpec := bodyW [] 1 1 w_is_whole
def w_is_plain : DS :=
  (dSeq (dIfS (tOr (tNot (tVal (dIsi "tuple" (oVar 0)))) (tOr (tVal (dBin gNe (oVal (dCB gLen (aCons (oVar 0) aNil))) (oVar 1))) (tNot (tVal (dCB gAll (aCons (oVal (dComp (iOf (dVar 0)) [2] (gN 2) tAll (dCall C_is_pair (aCons (oVar 2) aNil)))) aNil))))))
    (dRet (dC (.bl false)))
    dNext)
    (dRet (dBin gEq (oVal (dCall C_plain_of (aCons (oVar 0) aNil))) (oVar 0))))
abbrev B_is_plain : PSpec := bodyW [] 3 2 w_is_plain
def inP (p : Pr) (n : Int) : Bool := (match p.1 with | none => true | some a => decide (a ≤ n)) && (match p.2 with | none => true | some b => decide (n ≤ b))
def memP : List Pr → List Int → Bool
  | p :: ps, n :: ns => inP p n && memP ps ns
  | _, _ => true
theorem fl_pl (l h : Eg) (n : Int) : fl l n = (match (pl (l, h)).1 with | none => true | some a => decide (a ≤ n)) := by
  cases l with
  | none => rfl
  | some l =>
    obtain ⟨x, b⟩ := l
    cases b
    · simp only [fl, pl, Bool.and_false, Bool.or_false, Bool.false_eq_true, if_false]
      exact decide_eq_decide.mpr (by omega)
    · simp only [fl, pl, Bool.and_true, if_true, Int.add_zero]
      by_cases h1 : x < n
      · rw [decide_eq_true h1, decide_eq_true (by omega)]; rfl
      · by_cases h2 : n = x
        · subst h2; simp
        · rw [decide_eq_false h1, decide_eq_false (by omega)]; simpa using h2
theorem fh_pl (l h : Eg) (n : Int) : fh h n = (match (pl (l, h)).2 with | none => true | some a => decide (n ≤ a)) := by
  cases h with
  | none => rfl
  | some h =>
    obtain ⟨x, b⟩ := h
    cases b
    · simp only [fh, pl, Bool.and_false, Bool.or_false, Bool.false_eq_true, if_false]
      exact decide_eq_decide.mpr (by omega)
    · simp only [fh, pl, Bool.and_true, if_true, Int.sub_zero]
      by_cases h1 : n < x
      · rw [decide_eq_true h1, decide_eq_true (by omega)]; rfl
      · by_cases h2 : n = x
        · subst h2; simp
        · rw [decide_eq_false h1, decide_eq_false (by omega)]; simpa using h2
def ept (ps : List Pr) : List Pr := ps.map fun _ => (some 1, some 0)
theorem plain_len (ps : List Pr) : (plainOf ps).length = ps.length := by unfold plainOf; split <;> simp
theorem cm_self (p : Pr) : cm p p = p := by
  obtain ⟨a, b⟩ := p
  cases a <;> cases b <;> simp [cm, gr, le]
theorem zip_self : ∀ ps : List Pr, List.zipWith cm ps ps = ps
  | [] => rfl
  | p :: ps => by rw [List.zipWith_cons_cons, cm_self, zip_self ps]
theorem eD_frz (e : Eg) : (eD e).frz = eD e := by
  cases e <;> rfl
theorem imp__law_pool : ∀ ds Q, C__law_pool ds Q → B__law_pool ds Q := by
  rintro ds Q ⟨h, n, rfl, hh, hn, q⟩
  refine ⟨rfl, ?_⟩
  have sl := sizeLine_eq
  simp only [w__law_pool, Bx.go]
  refine ⟨⟨by decide, by decide, by decide⟩, ⟨by decide, by decide, by decide⟩, ⟨by decide, by decide, by decide⟩, .inl (by decide), ⟨by decide, by decide, by decide⟩, h, n, 6, rfl, hh, by omega, by decide, by decide, fun r h h0 h1 hh => ?_⟩
  obtain ⟨f, ef, _⟩ := atI_of (ns := [0, -3, 10 ^ Int.toNat 6, -10 ^ Int.toNat 17, 9 * 10 ^ Int.toNat 17, 1 - 10 ^ Int.toNat 17]) (fun _ => True) (fun _ _ => trivial) h0 (by simpa using h1)
  simp only [List.map] at ef
  simp only [ef, Bx.go]
  refine ⟨h, _, 4, rfl, hh, by omega, by decide, by decide, fun r h h0 h1 hh => ?_⟩
  obtain ⟨a, ea, ha⟩ := atI_of (ns := [1, 1, 2, 7]) (fun v => 0 ≤ v ∧ v ≤ 7) (by decide) h0 (by simpa using h1)
  simp only [List.map] at ea
  simp only [ea, Bx.go]
  refine ⟨h, _, 4, rfl, hh, by omega, by decide, by decide, fun r h h0 h1 hh => ?_⟩
  obtain ⟨c, ec, hc⟩ := atI_of (ns := [1, 2, 4, 9]) (fun v => 1 ≤ v ∧ v ≤ 9) (by decide) h0 (by simpa using h1)
  simp only [List.map] at ec
  simp only [ec, Bx.go]
  refine ⟨i62_of (by omega) (by omega), by rw [rangeD_len]; omega, ?_⟩
  refine comp_rule (fun items acc ρ => ∃ l : List Int, acc = l.map .int ∧ (l.length : Int) + items.length = c ∧ (∀ x ∈ items, ∃ i : Int, x = .int i) ∧ ρ = [some (.lst true h), some (.int f), some (.int a), none]) ⟨[], rfl, by rw [rangeD_len]; simp; omega, fun x hx => let ⟨i, e, _⟩ := rangeD_mem hx; ⟨i, e⟩, rfl⟩ ?_ ?_
  · rintro acc ρ ⟨l, rfl, el, _, rfl⟩
    simp only [backR, Bx.go]
    simp only [List.length_nil] at el
    refine q l h (fun e => ?_) (by omega) hh
    subst e
    simp at el; omega
  · rintro x r acc ρ N ⟨l, rfl, el, hx, rfl⟩ hN
    obtain ⟨i, rfl⟩ := hx x List.mem_cons_self
    simp only [Bx.go]
    refine ⟨.inl ⟨by omega, by omega⟩, ?_⟩
    exact hN _ _ ⟨l ++ [f + a * i], by simp, by simp at el ⊢; omega, fun x h => hx x (List.mem_cons_of_mem _ h), rfl⟩
theorem imp__law_end : ∀ ds Q, C__law_end ds Q → B__law_end ds Q := by
  rintro ds Q ⟨h, n, l, rfl, hh, hn, l0, l9, q⟩
  refine ⟨rfl, ?_⟩
  have lp : 0 < l.length := List.length_pos_iff.mpr l0
  simp only [w__law_end, Bx.go]
  refine ⟨h, n, l.length, rfl, hh, by omega, by omega, by omega, fun r h h0 h1 hh => ?_⟩
  obtain ⟨v, ev, _⟩ := atI_of (ns := l) (fun _ => True) (fun _ _ => trivial) h0 h1
  simp only [ev, Bx.go]
  refine ⟨h, _, 6, rfl, hh, by omega, by decide, by decide, fun r h h0 h1 hh => ?_⟩
  obtain ⟨f, ef, _⟩ := atI_of (ns := [0, 0, 1, -1, 0, 3]) (fun _ => True) (fun _ _ => trivial) h0 (by simpa using h1)
  simp only [List.map] at ef
  simp only [ef, Bx.go]
  refine ⟨h, _, 2, rfl, hh, by omega, by decide, by decide, fun r h h0 h1 hh => ?_⟩
  simp only [eqv_int, Bx.go]
  refine ⟨eqOk_int _ _, h, _, 5, rfl, hh, by omega, by decide, by decide, fun r2 h h0 h1 hh => ?_⟩
  simp only [eqv_int, Bx.go]
  refine ⟨eqOk_int _ _, ?_⟩
  cases r2 == 0
  · simp only [Bool.false_eq_true, if_false, p0, Bx.go]
    exact q (some (v + f, r == 0)) h hh
  · simp only [if_true, p1, Bx.go]
    exact q none h hh
theorem imp__law_box : ∀ ds Q, C__law_box ds Q → B__law_box ds Q := by
  rintro ds Q ⟨h, n, ps, rfl, hh, hn, hp, hl, q⟩
  refine ⟨rfl, ?_⟩
  have sl := sizeLine_eq
  simp only [w__law_box, Bx.go]
  have pz : ∀ l, (poolD l).frz = poolD l := fun _ => rfl
  refine ⟨by omega, ?_⟩
  refine comp_rule (fun items acc ρ => ∃ (h : List D) (b : List (Eg × Eg)) (r : List (List Int)), items = r.map poolD ∧ acc = b.map sD ∧ (∀ l ∈ r, l ∈ ps) ∧ b.length + r.length = ps.length ∧ hnd (n + 9 * b.length) h ∧ ρ = [some (.lst true h), some (.lst false (ps.map poolD)), none]) ⟨h, [], ps, rfl, rfl, fun _ h => h, by simp, hh, rfl⟩ ?_ ?_
  · rintro acc ρ ⟨h, b, r, e, rfl, _, el, hh, rfl⟩
    have er : r = [] := by simpa using e.symm
    subst er
    simp only [backR, Bx.go]
    simp only [List.length_nil] at el
    exact q b h (by omega) (hh.mono (by omega))
  · rintro x it acc ρ N ⟨h, b, r, e, rfl, hm, el, hh, rfl⟩ hN
    cases r with
    | nil => simp at e
    | cons l r =>
    simp only [List.map_cons, List.cons.injEq] at e
    obtain ⟨rfl, rfl⟩ := e
    obtain ⟨h1, h2⟩ := hp l (hm l List.mem_cons_self)
    simp only [List.length_cons] at el
    simp only [pz, Bx.go]
    refine ⟨h, _, l, rfl, hh, by omega, h1, h2, fun s h hh => ?_⟩
    have sz : (sD s).frz = sD s := rfl
    simp only [sz, Bx.go]
    exact hN _ _ ⟨h, b ++ [s], r, rfl, by simp, fun l hl => hm l (List.mem_cons_of_mem _ hl), by simp; omega, hh.mono (by simp; omega), rfl⟩
theorem empties (b : List (Eg × Eg)) : (List.replicate (Int.toNat (b.length : Int)) [D.tup [D.int 1, D.int 0]]).flatten = List.map pD ((b.map pl).map fun _ => ((some 1, some 0) : Pr)) := by
  rw [Int.toNat_natCast]
  induction b with
  | nil => rfl
  | cons x b ih => rw [List.length_cons, List.replicate_succ, List.flatten_cons, ih]; rfl
theorem okQ (ps : List Pr) : okE 2 (.tup (ps.map pD)) := by
  intro x hx
  obtain ⟨⟨a, b⟩, _, rfl⟩ := List.mem_map.mp hx
  intro y hy
  simp only [List.mem_cons, List.not_mem_nil, or_false] at hy
  rcases hy with rfl | rfl
  · cases a <;> simp [oD, okE]
  · cases b <;> simp [oD, okE]
theorem oz (o : Option Int) : (oD o).frz = oD o := by cases o <;> rfl
theorem eqv_o (a b : Option Int) : PyData.eqv (oD a).pd (oD b).pd = decide (a = b) := by
  cases a <;> cases b <;> simp [oD, D.pd, PyData.eqv]
  rw [Bool.eq_iff_iff]; simp
theorem eqv_p (a b : Pr) : PyData.eqv (pD a).pd (pD b).pd = decide (a = b) := by
  obtain ⟨a1, a2⟩ := a
  obtain ⟨b1, b2⟩ := b
  unfold pD
  simp only [D.pd, D.pds, PyData.eqv, PyData.eqvAll, eqv_o, Bool.and_true]
  rw [Bool.eq_iff_iff]
  simp
theorem eqv_ps : ∀ a b : List Pr, D.eqv (.tup (a.map pD)) (.tup (b.map pD)) = decide (a = b) := fun a b => by
  unfold D.eqv
  simp only [D.pd, PyData.eqv]
  induction a generalizing b with
  | nil => cases b <;> simp [D.pds, PyData.eqvAll]
  | cons x a ih =>
    cases b with
    | nil => simp [D.pds, PyData.eqvAll]
    | cons y b =>
      simp only [List.map_cons, D.pds, PyData.eqvAll, eqv_p, ih b]
      rw [Bool.eq_iff_iff]
      simp
def col (ls : List (List Int)) (i : Nat) : List Int := ls.map (·.getD i 0)
theorem row_comp {ls : List (List Int)} {d k : Nat} (hk : k < d) (hl : ls.length ≤ 1000) (hall : ∀ l ∈ ls, l.length = d) (K : D → Rho → Prop) (x1 x4 : Option D) (hK : K (.lst true ((col ls k).map .int)) [some (.tup (ls.map plc)), x1, some (.int k), none, x4]) :
    dComp (iOf (dVar 0)) [3] (gN 3) tAll (dBin gIx (oVar 3) (oVar 2)) K [some (.tup (ls.map plc)), x1, some (.int k), none, x4] := by
  have sl := sizeLine_eq
  have pz : ∀ p, (plc p).frz = plc p := fun _ => rfl
  simp only [Bx.go]
  refine ⟨by omega, comp_rule (fun items acc ρ => ∃ (dn r : List (List Int)), ls = dn ++ r ∧ items = r.map plc ∧ acc = (col dn k).map .int ∧ ρ = [some (.tup (ls.map plc)), x1, some (.int k), none, x4]) ⟨[], ls, rfl, rfl, rfl, rfl⟩ ?_ ?_⟩
  · rintro acc ρ ⟨dn, r, e1, e2, rfl, rfl⟩
    have er : r = [] := by simpa using e2.symm
    subst er
    rw [List.append_nil] at e1
    subst e1
    simp only [backR, Bx.go]
    exact hK
  · rintro x it acc ρ N ⟨dn, r, e1, e2, rfl, rfl⟩ hN
    cases r with
    | nil => simp at e2
    | cons y r =>
    simp only [List.map_cons, List.cons.injEq] at e2
    obtain ⟨rfl, rfl⟩ := e2
    have ly : y.length = d := hall y (by rw [e1]; simp)
    simp only [plc, Bx.go]
    rw [atI_int (by omega)]
    simp only [Bx.go]
    exact hN _ _ ⟨dn ++ [y], r, by simp [e1], rfl, by simp [col], rfl⟩
theorem imp_bounds : ∀ ds Q, C_bounds ds Q → B_bounds ds Q := by
  rintro ds Q ⟨ls, d, rfl, h0, hl, hd, hall, q⟩
  refine ⟨rfl, ?_⟩
  have sl := sizeLine_eq
  have cl : ∀ k, 0 < (col ls k).length := fun k => by simp [col]; exact List.length_pos_iff.mpr h0
  refine seq_cut (fun ρ => ρ = [some (.tup (ls.map plc)), some (.lst true ((List.range d).map fun i => .lst false ((col ls i).map .int))), none, none, none]) (fun R hR => ?_) ?_
  · obtain ⟨l0, r, rfl⟩ : ∃ l r, ls = l :: r := by
      cases ls with
      | nil => exact absurd rfl h0
      | cons l r => exact ⟨l, r, rfl⟩
    have ll := hall l0 List.mem_cons_self
    have at1 : atI ((l0 :: r).map plc) 0 = some (plc l0) := at0
    have gl : ∀ K : D → Prop, gLen [plc l0] K = K (.int l0.length) := fun K => by simp only [plc, Bx.go]
    simp only [at0, gl, Bx.go]
    rw [ll]
    refine ⟨i62_of (by omega) (by omega), by rw [rangeD_len]; omega, ?_⟩
    refine comp_rule (fun items acc ρ => ∃ k : Nat, k ≤ d ∧ items = rangeD k (d - k) ∧ acc = (List.range k).map (fun i => .lst false ((col (l0 :: r) i).map .int)) ∧ ρ = [some (.tup ((l0 :: r).map plc)), none, none, none, none]) ⟨0, by omega, by simp, rfl, rfl⟩ ?_ ?_
    · rintro acc ρ ⟨k, hk, e, rfl, rfl⟩
      have : d - k = 0 := by
        have := congrArg List.length e
        rw [rangeD_len] at this
        exact this.symm
      have : k = d := by omega
      subst this
      simp only [backR, Bx.go]
      exact hR _ rfl
    · rintro x it acc ρ N ⟨k, hk, e, rfl, rfl⟩ hN
      obtain ⟨j, hj⟩ : ∃ j, d - k = j + 1 := by
        cases h : d - k with
        | zero => rw [h] at e; simp [rangeD] at e
        | succ j => exact ⟨j, rfl⟩
      rw [hj, rangeD_cons] at e
      simp only [List.cons.injEq] at e
      obtain ⟨rfl, rfl⟩ := e
      simp only [u1_gN, u1_kCo1, u1_tAll, u1_kCo2, rset_s, rset_0, u_pick_true]
      refine row_comp (by omega) hl hall _ _ _ ?_
      simp only [Bx.go]
      refine hN _ _ ⟨k + 1, by omega, by rw [show d - (k + 1) = j by omega]; rfl, by rw [List.range_succ]; simp, rfl⟩
  rintro _ rfl
  simp only [Bx.go]
  refine ⟨by rw [List.length_range]; omega, ?_⟩
  refine comp_rule (fun items acc ρ => ∃ (k : Nat) (bs : List Pr), k ≤ d ∧ items = (List.range' k (d - k)).map (fun i => .lst false ((col ls i).map .int)) ∧ acc = bs.map pD ∧ bs.length = k ∧ (∀ i, i < k → ∃ m M : Int, bs[i]? = some (some m, some M) ∧ m ∈ col ls i ∧ M ∈ col ls i ∧ ∀ y ∈ col ls i, m ≤ y ∧ y ≤ M) ∧ ρ = [some (.tup (ls.map plc)), some (.lst false ((List.range d).map fun i => .lst false ((col ls i).map .int))), none, none, none]) ⟨0, [], by omega, by rw [List.range_eq_range']; rfl, rfl, rfl, fun i hi => absurd hi (Nat.not_lt_zero _), rfl⟩ ?_ ?_
  · rintro acc ρ ⟨k, bs, hk, e, rfl, lb, hb, rfl⟩
    have : d - k = 0 := by
      have := congrArg List.length e
      simpa using this.symm
    have : k = d := by omega
    subst this
    simp only [backR, Bx.go]
    exact q bs ⟨lb, hb⟩
  · rintro x it acc ρ N ⟨k, bs, hk, e, rfl, lb, hb, rfl⟩ hN
    obtain ⟨j, hj⟩ : ∃ j, d - k = j + 1 := by
      cases h : d - k with
      | zero => rw [h] at e; simp at e
      | succ j => exact ⟨j, rfl⟩
    rw [hj, List.range'_succ, List.map_cons] at e
    simp only [List.cons.injEq] at e
    obtain ⟨rfl, rfl⟩ := e
    simp only [asInts_map, Bx.go]
    refine ⟨cl k, fun m hm1 hm2 => ?_⟩
    try simp only [asInts_map, Bx.go]
    refine ⟨cl k, fun M hM1 hM2 => ?_⟩
    try simp only [Bx.go]
    refine hN _ _ ⟨k + 1, bs ++ [(some m, some M)], by omega, by rw [show d - (k + 1) = j by omega], by simp [pD, oD], by simp; exact lb, fun i hi => ?_, rfl⟩
    by_cases h : i < k
    · obtain ⟨m', M', e, r⟩ := hb i h
      exact ⟨m', M', by rw [List.getElem?_append_left (by omega)]; exact e, r⟩
    · have : i = k := by omega
      subst this
      exact ⟨m, M, by rw [List.getElem?_append_right (by omega), lb]; simp, hm1, hM1, fun y hy => ⟨hm2 y hy, hM2 y hy⟩⟩
theorem imp_is_whole : ∀ ds Q, C_is_whole ds Q → B_is_whole ds Q := by
  rintro ds Q ⟨d, rfl, q⟩
  refine ⟨rfl, ?_⟩
  cases d <;> simp only [w_is_whole, D.ty, Bx.go] <;> exact q
theorem isPair_pD (p : Pr) : isPair (pD p) = true := by
  obtain ⟨a, b⟩ := p
  cases a <;> cases b <;> rfl
theorem imp_is_plain : ∀ ds Q, C_is_plain ds Q → B_is_plain ds Q := by
  rintro ds Q ⟨ps, rfl, hl, q⟩
  refine ⟨rfl, ?_⟩
  have sl := sizeLine_eq
  have pz : ∀ p, (pD p).frz = pD p := fun _ => rfl
  simp only [w_is_plain, Bx.go]
  refine ⟨eqOk_int _ _, ?_⟩
  rw [eqv_int, beq_self_eq_true]
  simp only [Bx.go]
  refine ⟨by omega, co_map ps pD (fun _ => .bl true) (fun p hp acc N hN => ?_) ?_⟩
  · simp only [pz, Bx.go]
    refine ⟨pD p, rfl, ?_⟩
    rw [isPair_pD]
    simp only [Bx.go]
    exact hN
  · rw [List.map_const']
    simp only [bls_true, backR, Bx.go]
    rw [show (List.replicate ps.length true).all id = true by simp]
    simp only [Bx.go]
    refine ⟨ps, .inr rfl, hl, ?_⟩
    simp only [Bx.go]
    refine ⟨eqOk_of (okQ _) (okQ _) (by decide), ?_⟩
    rw [eqv_ps]
    exact q
end Zb
namespace Zp
open PySem PySem.Spec PyProof.Rows L2 Bx Zb
def isPlace : D → Int → Bool
  | .tup xs, n => ((xs.length : Int) == n) && xs.all isW
  | _, _ => false
def isEnd : D → Bool
  | .non => true
  | .tup [a, .bl _] => isW a
  | _ => false
def isSpan : D → Bool
  | .tup [a, b] => isEnd a && isEnd b
  | _ => false
def isBox : D → Int → Bool
  | .tup xs, n => ((xs.length : Int) == n) && xs.all isSpan
  | _, _ => false
abbrev C_is_whole : PSpec := Zb.C_is_whole
abbrev C__law_whole : PSpec := Zb.C_is_whole
def C_is_place : PSpec := fun ds Q => ∃ (d : D) (n : Int), ds = [d, .int n] ∧ n ≤ 1000 ∧ Q (.bl (isPlace d n)) []
def C_is_end : PSpec := fun ds Q => ∃ d : D, ds = [d] ∧ Q (.bl (isEnd d)) []
def C_is_span : PSpec := fun ds Q => ∃ d : D, ds = [d] ∧ Q (.bl (isSpan d)) []
def C_is_box : PSpec := fun ds Q => ∃ (d : D) (n : Int), ds = [d, .int n] ∧ n ≤ 1000 ∧ Q (.bl (isBox d n)) []
def C__law_odd : PSpec := fun ds Q => ds = [] ∧ ∀ xs : List D, xs.length ≤ 100 → Q (.lst true xs) []
def w_is_end : DS :=
  (dSeq (dIfS (tVal (dBin gIsN (oVar 0) (oVal (dC .non))))
    (dRet (dC (.bl true)))
    dNext)
    (dRet (dAnd (dIsi "tuple" (oVar 0)) (dAnd (dBin gEq (oVal (dCB gLen (aCons (oVar 0) aNil))) (oVal (dC (.int 2)))) (dAnd (dCall C_is_whole (aCons (oVal (dBin gIx (oVar 0) (oVal (dC (.int 0))))) aNil)) (dIsi "bool" (oVal (dBin gIx (oVar 0) (oVal (dC (.int 1)))))))))))
abbrev B_is_end : PSpec := bodyW [] 1 1 w_is_end
def w_is_span : DS :=
  (dRet (dAnd (dIsi "tuple" (oVar 0)) (dAnd (dBin gEq (oVal (dCB gLen (aCons (oVar 0) aNil))) (oVal (dC (.int 2)))) (dAnd (dCall C_is_end (aCons (oVal (dBin gIx (oVar 0) (oVal (dC (.int 0))))) aNil)) (dCall C_is_end (aCons (oVal (dBin gIx (oVar 0) (oVal (dC (.int 1))))) aNil))))))
abbrev B_is_span : PSpec := bodyW [] 1 1 w_is_span
def w_is_box : DS :=
  (dRet (dAnd (dIsi "tuple" (oVar 0)) (dAnd (dBin gEq (oVal (dCB gLen (aCons (oVar 0) aNil))) (oVar 1)) (dCB gAll (aCons (oVal (dComp (iOf (dVar 0)) [2] (gN 2) tAll (dCall C_is_span (aCons (oVar 2) aNil)))) aNil)))))
abbrev B_is_box : PSpec := bodyW [] 3 2 w_is_box
def w__law_odd : DS :=
  (dSeq (dAsg 0 (dLst (aCons (oVal (dC .non)) (aCons (oVal (dC (.bl true))) (aCons (oVal (dC (.bl false))) (aCons (oVal (dC (.int 0))) (aCons (oVal (dUn gNeg (oVal (dC (.int 1))))) (aCons (oVal (dC (.int 7))) (aCons (oVal (dC (.str ""))) (aCons (oVal (dC (.str "box"))) (aCons (oVal (dTup aNil)) (aCons (oVal (dLst aNil)) (aCons (oVal (dC (.dic [] []))) (aCons (oVal (dTup (aCons (oVal (dC .non)) aNil))) (aCons (oVal (dTup (aCons (oVal (dTup aNil)) aNil))) (aCons (oVal (dTup (aCons (oVal (dTup (aCons (oVal (dC .non)) (aCons (oVal (dC .non)) aNil)))) aNil))) (aCons (oVal (dLst (aCons (oVal (dTup (aCons (oVal (dTup (aCons (oVal (dC (.int 0))) (aCons (oVal (dC (.bl true))) aNil)))) (aCons (oVal (dC .non)) aNil)))) aNil))) aNil)))))))))))))))))
    (dSeq (dAsg 0 (dBin gAdd (oVar 0) (oVal (dLst (aCons (oVal (dTup (aCons (oVal (dC (.int 0))) aNil))) (aCons (oVal (dTup (aCons (oVal (dC (.int 0))) (aCons (oVal (dC (.int 0))) aNil)))) (aCons (oVal (dLst (aCons (oVal (dC (.int 0))) aNil))) (aCons (oVal (dTup (aCons (oVal (dC (.bl true))) aNil))) (aCons (oVal (dTup (aCons (oVal (dC (.str "0"))) aNil))) (aCons (oVal (dTup (aCons (oVal (dTup (aCons (oVal (dC (.int 0))) (aCons (oVal (dC (.bl true))) aNil)))) aNil))) (aCons (oVal (dTup (aCons (oVal (dTup (aCons (oVal (dTup (aCons (oVal (dC (.int 0))) (aCons (oVal (dC (.bl true))) aNil)))) (aCons (oVal (dC .non)) aNil)))) aNil))) (aCons (oVal (dTup (aCons (oVal (dTup (aCons (oVal (dTup (aCons (oVal (dC (.int 0))) (aCons (oVal (dC (.int 1))) aNil)))) (aCons (oVal (dC .non)) aNil)))) aNil))) aNil))))))))))))
    (dSeq (dAsg 0 (dBin gAdd (oVar 0) (oVal (dLst (aCons (oVal (dTup (aCons (oVal (dTup (aCons (oVal (dC (.int 0))) (aCons (oVal (dC .non)) aNil)))) aNil))) (aCons (oVal (dTup (aCons (oVal (dTup (aCons (oVal (dTup (aCons (oVal (dC (.int 0))) (aCons (oVal (dC (.bl true))) aNil)))) aNil))) aNil))) (aCons (oVal (dTup (aCons (oVal (dTup (aCons (oVal (dC .non)) (aCons (oVal (dC .non)) (aCons (oVal (dC .non)) aNil))))) aNil))) (aCons (oVal (dTup (aCons (oVal (dTup (aCons (oVal (dTup (aCons (oVal (dC (.bl true))) (aCons (oVal (dC (.bl true))) aNil)))) (aCons (oVal (dC .non)) aNil)))) aNil))) aNil))))))))
    (dSeq (dAsg 0 (dBin gAdd (oVar 0) (oVal (dLst (aCons (oVal (dTup (aCons (oVal (dTup (aCons (oVal (dTup (aCons (oVal (dC .non)) (aCons (oVal (dC (.bl true))) aNil)))) (aCons (oVal (dC .non)) aNil)))) aNil))) aNil)))))
    (dSeq (dAsg 0 (dBin gAdd (oVar 0) (oVal (dLst (aCons (oVal (dTup (aCons (oVal (dTup (aCons (oVal (dTup (aCons (oVal (dC (.str "0"))) (aCons (oVal (dC (.bl true))) aNil)))) (aCons (oVal (dC .non)) aNil)))) aNil))) (aCons (oVal (dTup (aCons (oVal (dTup (aCons (oVal (dLst (aCons (oVal (dC (.int 0))) (aCons (oVal (dC (.bl true))) aNil)))) (aCons (oVal (dC .non)) aNil)))) aNil))) (aCons (oVal (dTup (aCons (oVal (dLst (aCons (oVal (dC .non)) (aCons (oVal (dC .non)) aNil)))) aNil))) (aCons (oVal (dTup (aCons (oVal (dTup (aCons (oVal (dTup (aCons (oVal (dC (.int 0))) (aCons (oVal (dC (.bl true))) (aCons (oVal (dC (.int 1))) aNil))))) (aCons (oVal (dC .non)) aNil)))) aNil))) aNil))))))))
    (dRet (dBin gAdd (oVar 0) (oVal (dLst (aCons (oVal (dC (.dic [.inr "box"] [.int 1]))) aNil))))))))))
abbrev B__law_odd : PSpec := bodyW [] 1 0 w__law_odd
theorem isW_frz (d : D) : isW d.frz = isW d := by cases d <;> rfl
theorem isEnd_frz (d : D) : isEnd d.frz = isEnd d := by cases d <;> rfl
theorem isSpan_frz (d : D) : isSpan d.frz = isSpan d := by cases d <;> rfl
theorem all_f (f : D → Bool) (xs : List D) : (xs.map f).all id = xs.all f := by rw [List.all_map]; rfl
theorem two_of {xs : List D} (h : ((xs.length : Int) == 2) = true) : ∃ a b, xs = [a, b] := by
  have h : xs.length = 2 := by
    have := eq_of_beq h
    omega
  match xs, h with
  | [a, b], _ => exact ⟨a, b, rfl⟩
theorem isBox_no {xs : List D} {n : Int} (h : ((xs.length : Int) == n) = false) : isBox (.tup xs) n = false := by simp only [isBox, h, Bool.false_and]
theorem isSpan_no {xs : List D} (h : ((xs.length : Int) == 2) = false) : isSpan (.tup xs) = false := by
  match xs, h with
  | [], _ => rfl
  | [a], _ => rfl
  | [a, b], h => simp at h
  | a :: b :: c :: r, _ => rfl
theorem isEnd_no {xs : List D} (h : ((xs.length : Int) == 2) = false) : isEnd (.tup xs) = false := by
  match xs, h with
  | [], _ => rfl
  | [a], _ => rfl
  | [a, b], h => simp at h
  | a :: b :: c :: r, _ => cases b <;> rfl
theorem imp_is_end : ∀ ds Q, C_is_end ds Q → B_is_end ds Q := by
  rintro ds Q ⟨d, rfl, q⟩
  refine ⟨rfl, ?_⟩
  cases d with
  | tup xs =>
    simp only [w_is_end, Bx.go]
    refine ⟨eqOk_int _ _, ?_⟩
    rw [eqv_int]
    cases h : ((xs.length : Int) == 2)
    · simp only [Bx.go]
      rw [isEnd_no h] at q
      exact q
    · obtain ⟨a, b, rfl⟩ := two_of h
      simp only [p0, Bx.go]
      refine ⟨_, rfl, ?_⟩
      rw [isW_frz]
      cases hw : isW a
      · simp only [Bx.go]
        have : isEnd (.tup [a, b]) = false := by cases b <;> simp [isEnd, hw]
        rw [this] at q
        exact q
      · simp only [p1, Bx.go]
        have : isEnd (.tup [a, b]) = isTy b.ty "bool" := by cases b <;> simp [isEnd, hw, D.ty] <;> rfl
        rw [this] at q
        exact q
  | _ => simp only [w_is_end, Bx.go]; exact q
theorem imp_is_span : ∀ ds Q, C_is_span ds Q → B_is_span ds Q := by
  rintro ds Q ⟨d, rfl, q⟩
  refine ⟨rfl, ?_⟩
  cases d with
  | tup xs =>
    simp only [w_is_span, Bx.go]
    refine ⟨eqOk_int _ _, ?_⟩
    rw [eqv_int]
    cases h : ((xs.length : Int) == 2)
    · simp only [Bx.go]
      rw [isSpan_no h] at q
      exact q
    · obtain ⟨a, b, rfl⟩ := two_of h
      simp only [p0, Bx.go]
      refine ⟨_, rfl, ?_⟩
      rw [isEnd_frz]
      cases hw : isEnd a
      · simp only [Bx.go]
        simp only [isSpan, hw, Bool.false_and] at q
        exact q
      · simp only [p1, Bx.go]
        refine ⟨_, rfl, ?_⟩
        rw [isEnd_frz]
        simp only [isSpan, hw, Bool.true_and] at q
        exact q
  | _ => simp only [w_is_span, Bx.go]; exact q
theorem imp_is_box : ∀ ds Q, C_is_box ds Q → B_is_box ds Q := by
  rintro ds Q ⟨d, n, rfl, hn, q⟩
  refine ⟨rfl, ?_⟩
  have sl := sizeLine_eq
  cases d with
  | tup xs =>
    simp only [w_is_box, Bx.go]
    refine ⟨eqOk_int _ _, ?_⟩
    rw [eqv_int]
    cases h : ((xs.length : Int) == n)
    · simp only [Bx.go]
      rw [isBox_no h] at q
      exact q
    · have h' := eq_of_beq h
      simp only [Bx.go]
      rw [← List.map_id xs]
      refine ⟨by simp; omega, co_map xs id (fun x => .bl (isSpan x)) (fun x hx acc N hN => ?_) ?_⟩
      · simp only [id, Bx.go]
        refine ⟨_, rfl, ?_⟩
        rw [isSpan_frz]
        simp only [Bx.go]
        exact hN
      · simp only [asBls_f, backR, Bx.go]
        rw [all_f]
        simp only [isBox, h, Bool.true_and] at q
        exact q
  | _ => simp only [w_is_box, Bx.go]; exact q
theorem imp__law_odd : ∀ ds Q, C__law_odd ds Q → B__law_odd ds Q := by
  rintro ds Q ⟨rfl, q⟩
  refine ⟨rfl, ?_⟩
  have sl := sizeLine_eq
  simp only [w__law_odd, Bx.go]
  refine ⟨by decide, by decide, by decide, by decide, by decide, ?_⟩
  exact q _ (by simp)
abbrev C_plain_of : PSpec := Zb.C_plain_of
abbrev C_is_pair : PSpec := Zb.C_is_pair
def C__law_plain : PSpec := Zb.C_plain_box
def w__law_plain : DS :=
  (dSeq (dAsg 1 (dLst aNil))
    (dSeq (dFor (iOf (dVar 0)) (gT (gsCons (gN 2) (gsCons (gN 3) gsNil)) 2)
    (dSeq (dAsg 4 (dIf (tVal (dBin gIsN (oVar 2) (oVal (dC .non)))) (dC .non) (dBin gSub (oVal (dBin gAdd (oVal (dBin gIx (oVar 2) (oVal (dC (.int 0))))) (oVal (dC (.int 1))))) (oVal (dCB gInt (aCons (oVal (dBin gIx (oVar 2) (oVal (dC (.int 1))))) aNil))))))
    (dSeq (dAsg 5 (dIf (tVal (dBin gIsN (oVar 3) (oVal (dC .non)))) (dC .non) (dBin gAdd (oVal (dBin gSub (oVal (dBin gIx (oVar 3) (oVal (dC (.int 0))))) (oVal (dC (.int 1))))) (oVal (dCB gInt (aCons (oVal (dBin gIx (oVar 3) (oVal (dC (.int 1))))) aNil))))))
    (dExp (dApp 1 (dTup (aCons (oVar 4) (aCons (oVar 5) aNil))))))))
    (dSeq (dIfS (tVal (dCB gAny (aCons (oVal (dComp (iOf (dVar 1)) [4, 5] (gT (gsCons (gN 4) (gsCons (gN 5) gsNil)) 2) tAll (dAnd (dBin gNotN (oVar 4) (oVal (dC .non))) (dAnd (dBin gNotN (oVar 5) (oVal (dC .non))) (dBin gGt (oVar 4) (oVar 5)))))) aNil)))
    (dRet (dBin gTMul (oVal (dTup (aCons (oVal (dTup (aCons (oVal (dC (.int 1))) (aCons (oVal (dC (.int 0))) aNil)))) aNil))) (oVal (dCB gLen (aCons (oVar 1) aNil)))))
    dNext)
    (dRet (dCB gTuple (aCons (oVar 1) aNil))))))
abbrev B__law_plain : PSpec := bodyW [] 6 1 w__law_plain
theorem imp__law_plain : ∀ ds Q, C__law_plain ds Q → B__law_plain ds Q := by
  rintro ds Q ⟨b, rfl, hl, q⟩
  refine ⟨rfl, ?_⟩
  have sl := sizeLine_eq
  have pz : ∀ p, (pD p).frz = pD p := fun _ => rfl
  have oz : ∀ o, (oD o).frz = oD o := fun o => by cases o <;> rfl
  simp only [w__law_plain, Bx.go]
  refine for_rule (fun items ρ => ∃ (dn r : List (Eg × Eg)) (x2 x3 x4 x5 : Option D), b = dn ++ r ∧ items = r.map sD ∧ ρ = [some (.tup (b.map sD)), some (.lst true (dn.map fun s => pD (pl s))), x2, x3, x4, x5]) ⟨[], b, _, _, _, _, rfl, rfl, rfl⟩ ?_ ?_
  · rintro ρ ⟨dn, r, x2, x3, x4, x5, e1, e2, rfl⟩
    have er : r = [] := by simpa using e2.symm
    subst er
    rw [List.append_nil] at e1
    subst e1
    dsimp only
    refine seq_cut (fun ρ => (b.map pl).any cr = false ∧ ∃ x4 x5 : Option D, ρ = [some (.tup (b.map sD)), some (.lst false (b.map fun s => pD (pl s))), x2, x3, x4, x5]) (fun R hR => ?_) ?_
    · simp only [Bx.go]
      refine ⟨by omega, comp_rule (fun items acc ρ => ∃ (dn r : List (Eg × Eg)), b = dn ++ r ∧ items = r.map (fun s => pD (pl s)) ∧ acc = dn.map (fun s => .bl (cr (pl s))) ∧ ρ = [some (.tup (b.map sD)), some (.lst false (b.map fun s => pD (pl s))), x2, x3, none, none]) ⟨[], b, rfl, rfl, rfl, rfl⟩ ?_ ?_⟩
      · rintro acc ρ ⟨dn, r, e1, e2, rfl, rfl⟩
        have er : r = [] := by simpa using e2.symm
        subst er
        rw [List.append_nil] at e1
        subst e1
        simp only [asBls_f, backR, Bx.go]
        have ea : (b.map fun s => cr (pl s)).any id = (b.map pl).any cr := by rw [List.any_map, List.any_map]; rfl
        rw [ea]
        unfold plainOf at q
        cases hc : (b.map pl).any cr
        · simp only [Bx.go]
          exact hR _ ⟨hc, _, _, rfl⟩
        · rw [hc] at q
          simp only [Bx.go]
          have hb0 : b ≠ [] := fun e => by subst e; simp at hc
          have hb1 : 0 < b.length := List.length_pos_iff.mpr hb0
          refine ⟨⟨by simp, by omega, by omega, by simp⟩, ?_⟩
          have q : Q (.tup (List.map pD ((b.map pl).map fun _ => ((some 1, some 0) : Pr)))) [] := q
          have e := empties b
          rw [e]
          exact q
      · rintro x it acc ρ N ⟨dn, r, e1, e2, rfl, rfl⟩ hN
        cases r with
        | nil => simp at e2
        | cons y r =>
        simp only [List.map_cons, List.cons.injEq] at e2
        obtain ⟨rfl, rfl⟩ := e2
        have hN := hN (dn.map (fun s => .bl (cr (pl s))) ++ [.bl (cr (pl y))]) _ ⟨dn ++ [y], r, by simp [e1], rfl, by simp, rfl⟩
        generalize pl y = p at hN ⊢
        obtain ⟨u, v⟩ := p
        cases u with
        | none =>
          simp only [pD, oD, Bx.go]
          exact hN
        | some u =>
          cases v with
          | none =>
            simp only [pD, oD, Bx.go]
            exact hN
          | some v =>
            simp only [pD, oD, Bx.go]
            exact hN
    rintro _ ⟨hc, x4, x5, rfl⟩
    unfold plainOf at q
    rw [hc] at q
    have q : Q (.tup (List.map pD (b.map pl))) [] := q
    rw [List.map_map] at q
    simp only [Bx.go]
    exact q
  · rintro x it ρ N ⟨dn, r, x2, x3, x4, x5, e1, e2, rfl⟩ hN
    have hl2 : dn.length + r.length ≤ 1000 := by rw [e1] at hl; simpa using hl
    cases r with
    | nil => simp at e2
    | cons s r =>
    simp only [List.map_cons, List.cons.injEq] at e2
    obtain ⟨rfl, rfl⟩ := e2
    obtain ⟨l, h⟩ := s
    simp only [List.length_cons] at hl2
    simp only [sD, eD_frz, u1_gT, u2_gT, u1_gsCons, u2_gsCons, u1_gsNil, u2_gsNil, u1_kGs, u1_gN, u1_kForB, rset_s, rset_0, rget_s, rget_0, D.seq, D.sql, u_onSome_some, frz_tup, frz_int, frz_bl, frz_lst, frz_str, frz_non, frz_scr, List.length_cons, List.length_nil, List.map_cons, List.map_nil, Option.bind_some, true_and, and_true]
    refine seq_cut (fun ρ => ρ = [some (.tup (b.map sD)), some (.lst true (dn.map fun s => pD (pl s))), some (eD l), some (eD h), some (oD (pl (l, h)).1), x5]) (fun R hR => ?_) ?_
    · have hR := hR _ rfl
      cases l with
      | none =>
        simp only [eD, pl, oD, Bx.go] at hR ⊢
        exact hR
      | some l =>
        obtain ⟨x, c⟩ := l
        simp only [eD, pl, oD, p0, p1, Bx.go] at hR ⊢
        cases c
        · simp only [Bool.false_eq_true, if_false] at hR ⊢
          rw [show x + 1 - 0 = x + 1 by omega]; exact hR
        · simp only [if_true] at hR ⊢
          rw [show x + 1 - 1 = x + 0 by omega]; exact hR
    rintro _ rfl
    refine seq_cut (fun ρ => ρ = [some (.tup (b.map sD)), some (.lst true (dn.map fun s => pD (pl s))), some (eD l), some (eD h), some (oD (pl (l, h)).1), some (oD (pl (l, h)).2)]) (fun R hR => ?_) ?_
    · have hR := hR _ rfl
      generalize oD (pl (l, h)).1 = z at hR ⊢
      cases h with
      | none =>
        simp only [eD, pl, oD, Bx.go] at hR ⊢
        exact hR
      | some h =>
        obtain ⟨x, c⟩ := h
        simp only [eD, pl, oD, p0, p1, Bx.go] at hR ⊢
        cases c
        · simp only [Bool.false_eq_true, if_false] at hR ⊢
          rw [show x - 1 + 0 = x - 1 by omega]; exact hR
        · simp only [if_true] at hR ⊢
          rw [show x - 1 + 1 = x - 0 by omega]; exact hR
    rintro _ rfl
    simp only [oz, Bx.go]
    refine ⟨by omega, hN _ ⟨dn ++ [(l, h)], r, some (eD l), some (eD h), some (oD (pl (l, h)).1), some (oD (pl (l, h)).2), by simp [e1], rfl, by simp [pD]⟩⟩
theorem fl_pl (l h : Eg) (n : Int) : fl l n = (match (pl (l, h)).1 with | none => true | some a => decide (a ≤ n)) := by
  cases l with
  | none => rfl
  | some l =>
    obtain ⟨x, b⟩ := l
    cases b
    · simp only [fl, pl, Bool.and_false, Bool.or_false, Bool.false_eq_true, if_false]
      exact decide_eq_decide.mpr (by omega)
    · simp only [fl, pl, Bool.and_true, if_true, Int.add_zero]
      by_cases h1 : x < n
      · rw [decide_eq_true h1, decide_eq_true (by omega)]; rfl
      · by_cases h2 : n = x
        · subst h2; simp
        · rw [decide_eq_false h1, decide_eq_false (by omega)]; simpa using h2
theorem fh_pl (l h : Eg) (n : Int) : fh h n = (match (pl (l, h)).2 with | none => true | some a => decide (n ≤ a)) := by
  cases h with
  | none => rfl
  | some h =>
    obtain ⟨x, b⟩ := h
    cases b
    · simp only [fh, pl, Bool.and_false, Bool.or_false, Bool.false_eq_true, if_false]
      exact decide_eq_decide.mpr (by omega)
    · simp only [fh, pl, Bool.and_true, if_true, Int.sub_zero]
      by_cases h1 : n < x
      · rw [decide_eq_true h1, decide_eq_true (by omega)]; rfl
      · by_cases h2 : n = x
        · subst h2; simp
        · rw [decide_eq_false h1, decide_eq_false (by omega)]; simpa using h2
def C__law_same : Nat → PSpec := sSame
theorem zero__law_same : ∀ ds Q, ¬ C__law_same 0 ds Q := fun _ _ h => h
def w__law_same (n : Nat) : DS :=
  (dSeq (dIfS (tVal (dIsi "tuple" (oVar 1)))
    (dSeq (dIfS (tOr (tNot (tVal (dIsi "tuple" (oVar 0)))) (tVal (dBin gNe (oVal (dCB gLen (aCons (oVar 0) aNil))) (oVal (dCB gLen (aCons (oVar 1) aNil))))))
    (dRet (dC (.bl false)))
    dNext)
    (dRet (dCB gAll (aCons (oVal (dComp (iZX (aCons (oVar 0) (aCons (oVar 1) aNil))) [2, 3] (gT (gsCons (gN 2) (gsCons (gN 3) gsNil)) 2) tAll (dCall (C__law_same n) (aCons (oVar 2) (aCons (oVar 3) aNil))))) aNil))))
    dNext)
    (dSeq (dIfS (tVal (dBin gIsN (oVar 1) (oVal (dC .non))))
    (dRet (dBin gIsN (oVar 0) (oVal (dC .non))))
    dNext)
    (dSeq (dIfS (tOr (tVal (dIsi "bool" (oVar 1))) (tVal (dIsi "bool" (oVar 0))))
    (dRet (dAnd (dIsi "bool" (oVar 1)) (dAnd (dIsi "bool" (oVar 0)) (dBin gEq (oVar 0) (oVar 1)))))
    dNext)
    (dSeq (dIfS (tVal (dIsi "str" (oVar 1)))
    (dRet (dAnd (dIsi "str" (oVar 0)) (dBin gEq (oVar 0) (oVar 1))))
    dNext)
    (dRet (dAnd (dIsi "int" (oVar 0)) (dBin gEq (oVar 0) (oVar 1))))))))
abbrev B__law_same (n : Nat) : PSpec := bodyW [] 4 2 (w__law_same n)
theorem imp__law_same (n : Nat) : ∀ ds Q, C__law_same (n + 1) ds Q → B__law_same n ds Q := imp_same2 n
def C__law_same1 : Nat → PSpec := sSame
theorem zero__law_same1 : ∀ ds Q, ¬ C__law_same1 0 ds Q := fun _ _ h => h
def w__law_same1 (n : Nat) : DS :=
  (dSeq (dIfS (tVal (dIsi "tuple" (oVar 1)))
    (dSeq (dIfS (tOr (tNot (tVal (dIsi "tuple" (oVar 0)))) (tVal (dBin gNe (oVal (dCB gLen (aCons (oVar 0) aNil))) (oVal (dCB gLen (aCons (oVar 1) aNil))))))
    (dRet (dC (.bl false)))
    dNext)
    (dRet (dCB gAll (aCons (oVal (dComp (iZX (aCons (oVar 0) (aCons (oVar 1) aNil))) [2, 3] (gT (gsCons (gN 2) (gsCons (gN 3) gsNil)) 2) tAll (dCall (C__law_same1 n) (aCons (oVar 2) (aCons (oVar 3) aNil))))) aNil))))
    dNext)
    (dSeq (dIfS (tVal (dBin gIsN (oVar 1) (oVal (dC .non))))
    (dRet (dBin gIsN (oVar 0) (oVal (dC .non))))
    dNext)
    (dSeq (dIfS (tVal (dIsi "str" (oVar 1)))
    (dRet (dAnd (dIsi "str" (oVar 0)) (dBin gEq (oVar 0) (oVar 1))))
    dNext)
    (dSeq (dIfS (tOr (tVal (dIsi "bool" (oVar 1))) (tVal (dIsi "bool" (oVar 0))))
    (dRet (dAnd (dIsi "bool" (oVar 0)) (dAnd (dIsi "bool" (oVar 1)) (dBin gEq (oVar 0) (oVar 1)))))
    dNext)
    (dRet (dAnd (dIsi "int" (oVar 0)) (dBin gEq (oVar 0) (oVar 1))))))))
abbrev B__law_same1 (n : Nat) : PSpec := bodyW [] 4 2 (w__law_same1 n)
theorem imp__law_same1 (n : Nat) : ∀ ds Q, C__law_same1 (n + 1) ds Q → B__law_same1 n ds Q := imp_same n
def numO : D → Option Int
  | .int i => some i
  | _ => none
def toPr : D → Pr
  | .tup [a, b] => (numO a, numO b)
  | _ => (none, none)
theorem num_o {d : D} (h : pnum d = true) : d = oD (numO d) := by
  cases d <;> first | rfl | cases h
theorem pair_p {d : D} (h : isPair d = true) : d = pD (toPr d) := by
  cases d with
  | tup xs =>
    match xs, h with
    | [a, b], h =>
      simp only [isPair, Bool.and_eq_true] at h
      show D.tup [a, b] = .tup [oD (numO a), oD (numO b)]
      rw [← num_o h.1, ← num_o h.2]
    | a :: b :: c :: r, h => simp [isPair] at h
  | _ => cases h
theorem pairs_p {xs : List D} (h : xs.all isPair = true) : xs = (xs.map toPr).map pD := by
  rw [List.map_map]
  refine (List.map_id xs).symm.trans (List.map_congr_left fun x hx => ?_)
  exact pair_p (List.all_eq_true.mp h x hx)
def isPlain : D → Int → Bool
  | .tup xs, n => ((xs.length : Int) == n) && (xs.all isPair && decide (plainOf (xs.map toPr) = xs.map toPr))
  | _, _ => false
def C_is_plain : PSpec := fun ds Q => ∃ (d : D) (n : Int), ds = [d, .int n] ∧ n ≤ 1000 ∧ Q (.bl (isPlain d n)) []
def w_is_plain : DS :=
  (dSeq (dIfS (tOr (tNot (tVal (dIsi "tuple" (oVar 0)))) (tOr (tVal (dBin gNe (oVal (dCB gLen (aCons (oVar 0) aNil))) (oVar 1))) (tNot (tVal (dCB gAll (aCons (oVal (dComp (iOf (dVar 0)) [2] (gN 2) tAll (dCall C_is_pair (aCons (oVar 2) aNil)))) aNil))))))
    (dRet (dC (.bl false)))
    dNext)
    (dRet (dBin gEq (oVal (dCall C_plain_of (aCons (oVar 0) aNil))) (oVar 0))))
abbrev B_is_plain : PSpec := bodyW [] 3 2 w_is_plain
theorem isPlain_no {xs : List D} {n : Int} (h : ((xs.length : Int) == n) = false) : isPlain (.tup xs) n = false := by simp only [isPlain, h, Bool.false_and]
theorem isPair_frz (d : D) : isPair d.frz = isPair d := by cases d <;> rfl
theorem imp_is_plain : ∀ ds Q, C_is_plain ds Q → B_is_plain ds Q := by
  rintro ds Q ⟨d, n, rfl, hn, q⟩
  refine ⟨rfl, ?_⟩
  have sl := sizeLine_eq
  cases d with
  | tup xs =>
    simp only [w_is_plain, Bx.go]
    refine ⟨eqOk_int _ _, ?_⟩
    rw [eqv_int]
    cases h : ((xs.length : Int) == n)
    · simp only [Bx.go]
      rw [isPlain_no h] at q
      exact q
    · have h' := eq_of_beq h
      simp only [Bx.go]
      rw [← List.map_id xs]
      refine ⟨by simp; omega, co_map xs id (fun x => .bl (isPair x)) (fun x hx acc N hN => ?_) ?_⟩
      · simp only [id, Bx.go]
        refine ⟨_, rfl, ?_⟩
        rw [isPair_frz]
        simp only [Bx.go]
        exact hN
      · simp only [asBls_f, backR, Bx.go]
        rw [all_f]
        simp only [isPlain, h, Bool.true_and] at q
        cases h2 : xs.all isPair
        · rw [h2] at q
          simp only [Bx.go]
          exact q
        · rw [h2] at q
          simp only [List.map_id, Bx.go]
          have e := pairs_p h2
          generalize xs.map toPr = ps at e q
          subst e
          refine ⟨ps, .inr rfl, by simp at h'; omega, ?_⟩
          simp only [Bx.go]
          refine ⟨eqOk_of (okQ _) (okQ _) (by decide), ?_⟩
          rw [eqv_ps]
          exact q
  | _ => simp only [w_is_plain, Bx.go]; exact q
theorem empt_int (n : Int) (ps : List Pr) (h : (ps.length : Int) = n) : (List.replicate (Int.toNat n) [D.tup [D.int 1, D.int 0]]).flatten = (ept ps).map pD := by
  subst h
  rw [Int.toNat_natCast]
  induction ps with
  | nil => rfl
  | cons x b ih => rw [List.length_cons, List.replicate_succ, List.flatten_cons, ih]; rfl
end Zp
namespace Zm
open PySem PySem.Spec PyProof.Rows L2 Bx Zb Zp
def isSpot : D → Int → Bool
  | .int i, n => decide (0 ≤ i) && decide (i < n)
  | _, _ => false
abbrev C_is_place : PSpec := Zp.C_is_place
abbrev okZ (z : Str) : Prop := (PyData.str z).canLay0 = true
def C_is_spot : PSpec := fun ds Q => ∃ (d : D) (n : Int), ds = [d, .int n] ∧ Q (.bl (isSpot d n)) []
abbrev C__law_whole : PSpec := C_is_spot
def C__law_left : PSpec := fun ds Q => ∃ (ns : List Int) (k : Int), ds = [.scr (ns.map .int), .int k] ∧ ns.length ≤ 63 ∧ 0 ≤ k ∧ k ≤ 1000 ∧ ∀ h : List D, hnd 0 h → Q (.lst true h) []
def C__law_pick : PSpec := sTake
def w__law_left : DS :=
  (dSeq (dAsg 2 (dC (.int 0)))
    (dSeq (dIfS (tVal (dBin gGt (oVal (dCB gLen (aCons (oVar 0) aNil))) (oVal (dC (.int 0)))))
    (dAsg 2 (dBin gIx (oVar 0) (oVal (dBin gMod (oVar 1) (oVal (dCB gLen (aCons (oVar 0) aNil)))))))
    dNext)
    (dSeq (dAsg 3 (dBin gMul2 (oVal (dBin gMod (oVal (dCB gAbs (aCons (oVar 2) aNil))) (oVal (dBin gPow (oVal (dC (.int 10))) (oVal (dC (.int 60))))))) (oVal (dCB gInt (aCons (oVal (dBin gGe (oVal (dCB gAbs (aCons (oVar 2) aNil))) (oVal (dBin gPow (oVal (dC (.int 10))) (oVal (dC (.int 18))))))) aNil)))))
    (dRet (dLst (aCons (oVar 3) (aCons (oVal (dBin gMod (oVal (dBin gMul2 (oVal (dBin gAdd (oVal (dBin gAdd (oVal (dBin gMod (oVar 2) (oVal (dC (.int 2305843009213693951))))) (oVal (dBin gMul2 (oVal (dBin gMul2 (oVal (dC (.int 7919))) (oVar 1))) (oVar 1))))) (oVal (dC (.int 11))))) (oVal (dC (.int 48271))))) (oVal (dC (.int 2147483647))))) (aCons (oVal (dC (.int 0))) aNil))))))))
abbrev B__law_left : PSpec := bodyW [] 4 2 w__law_left
def w__law_pick : DS :=
  (dSeq (dIfS (tVal (dBin gGt (oVal (dBin gIx (oVar 0) (oVal (dC (.int 0))))) (oVal (dC (.int 0)))))
    (dSeq (dAsg 2 (dBin gMod (oVal (dBin gIx (oVar 0) (oVal (dC (.int 0))))) (oVar 1)))
    (dSeq (dSub 0 (dBin gDiv (oVal (dBin gIx (oVar 0) (oVal (dC (.int 0))))) (oVar 1)) (oVal (dC (.int 0))))
    (dRetV 2)))
    dNext)
    (dSeq (dSub 0 (dBin gAdd (oVal (dBin gIx (oVar 0) (oVal (dC (.int 2))))) (oVal (dC (.int 1)))) (oVal (dC (.int 2))))
    (dSeq (dSub 0 (dBin gMod (oVal (dBin gAdd (oVal (dBin gAdd (oVal (dBin gMul2 (oVal (dBin gIx (oVar 0) (oVal (dC (.int 1))))) (oVal (dC (.int 48271))))) (oVal (dC (.int 12345))))) (oVal (dBin gIx (oVar 0) (oVal (dC (.int 2))))))) (oVal (dC (.int 2147483647)))) (oVal (dC (.int 1))))
    (dRet (dBin gMod (oVal (dBin gDiv (oVal (dBin gMod (oVal (dBin gMul2 (oVal (dBin gIx (oVar 0) (oVal (dC (.int 1))))) (oVal (dBin gIx (oVar 0) (oVal (dC (.int 1))))))) (oVal (dC (.int 1999999973))))) (oVal (dC (.int 64))))) (oVar 1))))))
abbrev B__law_pick : PSpec := bodyW [0] 3 2 w__law_pick
theorem isPlace_frz (d : D) (n : Int) : isPlace d.frz n = isPlace d n := by cases d <;> rfl
theorem q0 {x y z : D} : atI [x, y, z] 0 = some x := rfl
theorem q1 {x y z : D} : atI [x, y, z] 1 = some y := rfl
theorem q2 {x y z : D} : atI [x, y, z] 2 = some z := rfl
theorem len2 {xs : List D} (h : xs.length = 2) : ∃ a b, xs = [a, b] := by
  match xs, h with
  | [a, b], _ => exact ⟨a, b, rfl⟩
theorem imp__law_left : ∀ ds Q, C__law_left ds Q → B__law_left ds Q := by
  rintro ds Q ⟨ns, k, rfl, hl, k0, k1, q⟩
  refine ⟨rfl, ?_⟩
  refine seq_cut (fun ρ => ρ = [some (.scr (ns.map .int)), some (.int k), some (.int 0), none]) (fun R hR => ?_) ?_
  · simp only [Bx.go]
    exact hR _ rfl
  rintro _ rfl
  refine seq_cut (fun ρ => ∃ v : Int, ρ = [some (.scr (ns.map .int)), some (.int k), some (.int v), none]) (fun R hR => ?_) ?_
  · simp only [Bx.go]
    refine pick_by (fun h => ?_) (fun h => ?_)
    · have h := of_decide_eq_true h
      obtain ⟨v, ev, _⟩ := atI_of (ns := ns) (r := k % (ns.length : Int)) (fun _ => True) (fun _ _ => trivial) (Int.emod_nonneg _ (by omega)) (Int.emod_lt_of_pos _ (by omega))
      simp only [ev, Bx.go]
      exact ⟨by omega, hR _ ⟨v, rfl⟩⟩
    · simp only [Bx.go]
      exact hR _ ⟨0, rfl⟩
  rintro _ ⟨v, rfl⟩
  simp only [Bx.go]
  refine ⟨⟨by decide, by decide, by decide⟩, by decide, ⟨by decide, by decide, by decide⟩, .inr (.inl (by split <;> first | decide | (split <;> decide))), by decide, .inl ⟨by omega, by omega⟩, .inl ⟨by omega, by omega⟩, .inr (.inl ⟨by decide, by decide⟩), by decide, q _ ⟨_, _, _, rfl, by decide, by decide⟩⟩
theorem imp__law_pick : ∀ ds Q, C__law_pick ds Q → B__law_pick ds Q := by
  rintro ds Q ⟨h, n, m, rfl, ⟨a, b, c, rfl, c0, c1⟩, hn, m0, m1, q⟩
  refine ⟨rfl, ?_⟩
  simp only [w__law_pick, a0, Bx.go]
  refine pick_by (fun h => ?_) (fun h => ?_)
  · simp only [a0, n30, Nat.zero_add, Bx.go]
    exact ⟨m0, ⟨m0, by omega⟩, q _ _ (Int.emod_nonneg _ (by omega)) (Int.emod_lt_of_pos _ m0) ⟨_, _, _, rfl, by omega, by omega⟩⟩
  · simp only [a0, a1, a2, n31, n32, Nat.zero_add, Bx.go]
    have z1 := Int.emod_nonneg (b * 48271 + 12345 + (c + 1)) (show (2147483647 : Int) ≠ 0 by decide)
    have z2 := Int.emod_lt_of_pos (b * 48271 + 12345 + (c + 1)) (show (0 : Int) < 2147483647 by decide)
    refine ⟨.inr (.inl ⟨by decide, by decide⟩), by decide, .inl ⟨by omega, by omega⟩, by decide, ⟨by decide, by decide⟩, m0, ?_⟩
    exact q _ _ (Int.emod_nonneg _ (by omega)) (Int.emod_lt_of_pos _ m0) ⟨_, _, _, rfl, by omega, by omega⟩
end Zm
namespace Zh
open PySem PySem.Spec PyProof.Rows L2 Bx Zb Zp Zm
inductive Stp where
  | shift (l : List Int) | mirror (i : Nat) | swap (i j : Nat)
def okP (d : Nat) : Stp → Prop
  | .shift l => l.length = d
  | .mirror i => i < d
  | .swap i j => i < d ∧ j < d
abbrev Th := Int × List Int × Int
def thD (t : Th) : D := .tup [.int t.1, .tup (t.2.1.map .int), .int t.2.2]
def houseD (d : Nat) (ts : List Th) : D := .tup [.int d, .tup (ts.map thD)]
structure House (d : Nat) (ts : List Th) : Prop where
  len : ts.length ≤ 300
  num : ∀ t ∈ ts, t.2.1.length = d
  nat : ∀ t ∈ ts, 0 ≤ t.1
  ris : ts.Pairwise fun a b => a.1 < b.1
def swpL {α : Type} (xs : List α) (i j : Nat) : List α := match xs[i]?, xs[j]? with
  | some a, some b => (xs.set i b).set j a
  | _, _ => xs
def placeB : Stp → List Int → List Int
  | .shift l, p => List.zipWith (fun a b => a + b) p l
  | .mirror i, p => p.set i (0 - p.getD i 0)
  | .swap i j, p => swpL p i j
def shE (e : Eg) (m : Int) : Eg := e.map fun x => (x.1 + m, x.2)
def miE (e : Eg) : Eg := e.map fun x => (0 - x.1, x.2)
abbrev Bx1 := List (Eg × Eg)
def boxB : Stp → Bx1 → Bx1
  | .shift l, b => List.zipWith (fun s m => (shE s.1 m, shE s.2 m)) b l
  | .mirror i, b => b.set i (miE (b.getD i (none, none)).2, miE (b.getD i (none, none)).1)
  | .swap i j, b => swpL b i j
abbrev C__law_pick : PSpec := Zm.C__law_pick
def C__law_house : PSpec := fun ds Q => ∃ (h : List D) (n : Nat), ds = [.lst true h] ∧ hnd n h ∧ n ≤ 10 ^ 14 ∧ ∀ (d : Nat) (ts : List Th) (h' : List D), 1 ≤ d → d ≤ 4 → ts.length ≤ 30 → House d ts → hnd (n + 400) h' → Q (houseD d ts) [.lst true h']
def C__law_number : PSpec := fun ds Q => ∃ (h : List D) (n d i : Nat) (ts : List Th), ds = [.lst true h, houseD d ts, .int i] ∧ hnd n h ∧ n ≤ 10 ^ 14 ∧ i < d ∧ House d ts ∧ ∀ (v : Int) (h' : List D), hnd (n + 2) h' → Q (.int v) [.lst true h']
def C__law_box : PSpec := fun ds Q => ∃ (h : List D) (n d : Nat) (ts : List Th), ds = [.lst true h, houseD d ts] ∧ hnd n h ∧ n ≤ 10 ^ 13 ∧ d ≤ 4 ∧ House d ts ∧ ∀ (b : Bx1) (h' : List D), b.length = d → hnd (n + 28) h' → Q (.tup (b.map sD)) [.lst true h']
def w__law_house : DS :=
  (dSeq (dAsg 1 (dBin gIx (oVal (dLst (aCons (oVal (dC (.int 1))) (aCons (oVal (dC (.int 2))) (aCons (oVal (dC (.int 2))) (aCons (oVal (dC (.int 3))) (aCons (oVal (dC (.int 3))) (aCons (oVal (dC (.int 4))) aNil)))))))) (oVal (dCallIO 0 0 C__law_pick (aCons (oVar 0) (aCons (oVal (dC (.int 6))) aNil))))))
    (dSeq (dAsgG (gT (gsCons (gN 2) (gsCons (gN 3) gsNil)) 2) (dTup (aCons (oVal (dBin gIx (oVal (dLst (aCons (oVal (dC (.int 1))) (aCons (oVal (dC (.int 2))) (aCons (oVal (dC (.int 3))) (aCons (oVal (dC (.int 5))) (aCons (oVal (dC (.int 9))) (aCons (oVal (dC (.int 40))) aNil)))))))) (oVal (dCallIO 0 0 C__law_pick (aCons (oVar 0) (aCons (oVal (dC (.int 6))) aNil)))))) (aCons (oVal (dBin gIx (oVal (dLst (aCons (oVal (dC (.int 1))) (aCons (oVal (dC (.int 1))) (aCons (oVal (dC (.int 3))) (aCons (oVal (dBin gPow (oVal (dC (.int 10))) (oVal (dC (.int 15))))) aNil)))))) (oVal (dCallIO 0 0 C__law_pick (aCons (oVar 0) (aCons (oVal (dC (.int 4))) aNil)))))) aNil))))
    (dSeq (dPar2 4 5 (dLst aNil) (dCallIO 0 0 C__law_pick (aCons (oVar 0) (aCons (oVal (dC (.int 3))) aNil))))
    (dSeq (dFor (iR gR1 (aCons (oVal (dBin gIx (oVal (dLst (aCons (oVal (dC (.int 0))) (aCons (oVal (dC (.int 1))) (aCons (oVal (dC (.int 2))) (aCons (oVal (dC (.int 3))) (aCons (oVal (dC (.int 4))) (aCons (oVal (dC (.int 6))) (aCons (oVal (dC (.int 8))) (aCons (oVal (dC (.int 12))) (aCons (oVal (dC (.int 20))) (aCons (oVal (dC (.int 30))) aNil)))))))))))) (oVal (dCallIO 0 0 C__law_pick (aCons (oVar 0) (aCons (oVal (dC (.int 10))) aNil)))))) aNil)) (gN 6)
    (dSeq (dAsg 7 (dCB gTuple (aCons (oVal (dComp (iR gR1 (aCons (oVar 1) aNil)) [9] (gN 9) tAll (dBin gMul2 (oVal (dBin gSub (oVal (dCallIO 0 0 C__law_pick (aCons (oVar 0) (aCons (oVal (dBin gAdd (oVal (dBin gMul2 (oVal (dC (.int 2))) (oVar 2))) (oVal (dC (.int 1))))) aNil)))) (oVar 2))) (oVar 3)))) aNil)))
    (dSeq (dIfS (tAnd (tVal (dBin gNe (oVar 4) (oVal (dLst aNil)))) (tVal (dBin gEq (oVal (dCallIO 0 0 C__law_pick (aCons (oVar 0) (aCons (oVal (dC (.int 6))) aNil)))) (oVal (dC (.int 0))))))
    (dAsg 7 (dBin gIx (oVal (dBin gIx (oVar 4) (oVal (dCallIO 0 0 C__law_pick (aCons (oVar 0) (aCons (oVal (dCB gLen (aCons (oVar 4) aNil))) aNil)))))) (oVal (dC (.int 1)))))
    dNext)
    (dSeq (dAsg 8 (dBin gIx (oVal (dLst (aCons (oVal (dBin gPow (oVal (dC (.int 10))) (oVal (dC (.int 17))))) (aCons (oVal (dUn gNeg (oVal (dBin gPow (oVal (dC (.int 10))) (oVal (dC (.int 17))))))) aNil)))) (oVal (dCallIO 0 0 C__law_pick (aCons (oVar 0) (aCons (oVal (dC (.int 2))) aNil))))))
    (dSeq (dExp (dApp 4 (dTup (aCons (oVar 5) (aCons (oVar 7) (aCons (oVal (dBin gIx (oVal (dLst (aCons (oVal (dBin gSub (oVal (dCallIO 0 0 C__law_pick (aCons (oVar 0) (aCons (oVal (dC (.int 5))) aNil)))) (oVal (dC (.int 2))))) (aCons (oVal (dBin gSub (oVal (dCallIO 0 0 C__law_pick (aCons (oVar 0) (aCons (oVal (dC (.int 1000))) aNil)))) (oVal (dC (.int 500))))) (aCons (oVar 8) aNil))))) (oVal (dCallIO 0 0 C__law_pick (aCons (oVar 0) (aCons (oVal (dC (.int 3))) aNil)))))) aNil))))))
    (dAsg 5 (dBin gAdd (oVal (dBin gAdd (oVar 5) (oVal (dC (.int 1))))) (oVal (dBin gIx (oVal (dLst (aCons (oVal (dC (.int 0))) (aCons (oVal (dC (.int 0))) (aCons (oVal (dC (.int 1))) (aCons (oVal (dC (.int 7))) (aCons (oVal (dC (.int 40))) aNil))))))) (oVal (dCallIO 0 0 C__law_pick (aCons (oVar 0) (aCons (oVal (dC (.int 5))) aNil)))))))))))))
    (dRet (dTup (aCons (oVar 1) (aCons (oVal (dCB gTuple (aCons (oVar 4) aNil))) aNil))))))))
abbrev B__law_house : PSpec := bodyW [0] 10 1 w__law_house
def w__law_number : DS :=
  (dSeq (dAsg 3 (dBin gAdd (oVal (dComp (iOf (dBin gIx (oVar 1) (oVal (dC (.int 1))))) [4] (gN 4) tAll (dBin gIx (oVal (dBin gIx (oVar 4) (oVal (dC (.int 1))))) (oVar 2)))) (oVal (dLst (aCons (oVal (dC (.int 0))) aNil)))))
    (dRet (dBin gAdd (oVal (dBin gIx (oVar 3) (oVal (dCallIO 0 0 C__law_pick (aCons (oVar 0) (aCons (oVal (dCB gLen (aCons (oVar 3) aNil))) aNil)))))) (oVal (dBin gIx (oVal (dLst (aCons (oVal (dC (.int 0))) (aCons (oVal (dC (.int 0))) (aCons (oVal (dC (.int 0))) (aCons (oVal (dC (.int 1))) (aCons (oVal (dUn gNeg (oVal (dC (.int 1))))) (aCons (oVal (dC (.int 2))) aNil)))))))) (oVal (dCallIO 0 0 C__law_pick (aCons (oVar 0) (aCons (oVal (dC (.int 6))) aNil)))))))))
abbrev B__law_number : PSpec := bodyW [0] 5 3 w__law_number
def w__law_box : DS :=
  (dSeq (dAsg 2 (dLst aNil))
    (dSeq (dFor (iR gR1 (aCons (oVal (dBin gIx (oVar 1) (oVal (dC (.int 0))))) aNil)) (gN 3)
    (dSeq (dPar2 4 5 (dCallIO 0 0 C__law_number (aCons (oVar 0) (aCons (oVar 1) (aCons (oVar 3) aNil)))) (dCallIO 0 0 C__law_number (aCons (oVar 0) (aCons (oVar 1) (aCons (oVar 3) aNil)))))
    (dSeq (dIfS (tAnd (tVal (dBin gGt (oVar 4) (oVar 5))) (tVal (dBin gGt (oVal (dCallIO 0 0 C__law_pick (aCons (oVar 0) (aCons (oVal (dC (.int 5))) aNil)))) (oVal (dC (.int 0))))))
    (dPar2 4 5 (dVar 5) (dVar 4))
    dNext)
    (dSeq (dAsg 6 (dBin gIx (oVal (dLst (aCons (oVal (dC .non)) (aCons (oVal (dTup (aCons (oVar 4) (aCons (oVal (dC (.bl true))) aNil)))) (aCons (oVal (dTup (aCons (oVar 4) (aCons (oVal (dC (.bl false))) aNil)))) (aCons (oVal (dTup (aCons (oVar 4) (aCons (oVal (dC (.bl true))) aNil)))) aNil)))))) (oVal (dCallIO 0 0 C__law_pick (aCons (oVar 0) (aCons (oVal (dC (.int 4))) aNil))))))
    (dExp (dApp 2 (dTup (aCons (oVar 6) (aCons (oVal (dBin gIx (oVal (dLst (aCons (oVal (dC .non)) (aCons (oVal (dTup (aCons (oVar 5) (aCons (oVal (dC (.bl true))) aNil)))) (aCons (oVal (dTup (aCons (oVar 5) (aCons (oVal (dC (.bl false))) aNil)))) (aCons (oVal (dTup (aCons (oVar 5) (aCons (oVal (dC (.bl true))) aNil)))) aNil)))))) (oVal (dCallIO 0 0 C__law_pick (aCons (oVar 0) (aCons (oVal (dC (.int 4))) aNil)))))) aNil)))))))))
    (dRet (dCB gTuple (aCons (oVar 2) aNil)))))
abbrev B__law_box : PSpec := bodyW [0] 7 2 w__law_box
theorem cut_take {xs : List D} {i : Nat} : Bx.cutD xs none (some (i : Int)) = xs.take i := by
  unfold Bx.cutD
  rw [HT.sIx_none, HT.sIx_nat, List.drop_zero, Nat.sub_zero]
  by_cases h : i ≤ xs.length
  · rw [Nat.min_eq_left h]
  · rw [Nat.min_eq_right (by omega), List.take_of_length_le (Nat.le_refl _), List.take_of_length_le (by omega)]
theorem cut_drop {xs : List D} {i : Nat} : Bx.cutD xs (some (i : Int)) none = xs.drop i := by
  unfold Bx.cutD
  rw [HT.sIx_none, HT.sIx_nat]
  by_cases h : i ≤ xs.length
  · rw [Nat.min_eq_left h, List.take_of_length_le (by simp)]
  · rw [Nat.min_eq_right (by omega), List.drop_of_length_le (Nat.le_refl _), List.drop_of_length_le (by omega)]; simp
theorem swpL_len {α : Type} (xs : List α) (i j : Nat) : (swpL xs i j).length = xs.length := by
  unfold swpL
  split <;> simp
theorem swpL_at {α : Type} {xs : List α} {i j : Nat} (hi : i < xs.length) (hj : j < xs.length) : swpL xs i j = (xs.set i xs[j]).set j xs[i] := by
  unfold swpL
  rw [List.getElem?_eq_getElem hi, List.getElem?_eq_getElem hj]
theorem swpL_swpL {α : Type} {xs : List α} {i j : Nat} (hi : i < xs.length) (hj : j < xs.length) : swpL (swpL xs i j) i j = xs := by
  rw [swpL_at (by rw [swpL_len]; exact hi) (by rw [swpL_len]; exact hj)]
  refine List.ext_getElem (by simp [swpL_len]) fun k h1 h2 => ?_
  simp only [swpL_at hi hj, List.getElem_set]
  by_cases e1 : j = k
  · subst e1
    by_cases e2 : j = i
    · subst e2; simp
    · simp [e2]
  · by_cases e2 : i = k
    · subst e2; simp [e1]
    · simp [e1, e2]
theorem eD_frz (e : Eg) : (eD e).frz = eD e := by cases e <;> rfl
theorem okE_th (t : Th) : okE 2 (thD t) := by
  intro x hx
  simp only [List.mem_cons, List.not_mem_nil, or_false] at hx
  rcases hx with rfl | rfl | rfl
  · trivial
  · intro y hy
    obtain ⟨i, _, rfl⟩ := List.mem_map.mp hy; trivial
  · trivial
theorem okE_lth (o : Bool) (ts : List Th) : okE 3 (.lst o (ts.map thD)) := by
  intro x hx
  obtain ⟨t, _, rfl⟩ := List.mem_map.mp hx
  exact okE_th t
theorem ne_nil_th (ts : List Th) : D.eqv (.lst true (ts.map thD)) (.lst true []) = ts.isEmpty := by
  cases ts with
  | nil => exact eqv_refl (okE_lth true [])
  | cons t ts =>
    unfold D.eqv
    simp [D.pd, D.pds, PyData.eqv, PyData.eqvAll]
theorem House.snoc {d : Nat} {ts : List Th} {t : Th} (h : House d ts) (l : ts.length < 300) (n : t.2.1.length = d) (z : 0 ≤ t.1) (r : ∀ s ∈ ts, s.1 < t.1) : House d (ts ++ [t]) := by
  refine ⟨by simp; omega, fun s hs => ?_, fun s hs => ?_, ?_⟩
  · rcases List.mem_append.mp hs with hs | hs
    · exact h.num s hs
    · simp at hs; subst hs; exact n
  · rcases List.mem_append.mp hs with hs | hs
    · exact h.nat s hs
    · simp at hs; subst hs; exact z
  · rw [List.pairwise_append]
    refine ⟨h.ris, by simp, fun a ha b hb => ?_⟩
    simp at hb; subst hb; exact r a ha
theorem imp__law_house : ∀ ds Q, C__law_house ds Q → B__law_house ds Q := by
  rintro ds Q ⟨h, n, rfl, hh, hn, q⟩
  refine ⟨rfl, ?_⟩
  have sl := sizeLine_eq
  refine seq_cut (fun ρ => ∃ (h : List D) (d : Nat), 1 ≤ d ∧ d ≤ 4 ∧ hnd (n + 1) h ∧ ρ = [some (.lst true h), some (.int d), none, none, none, none, none, none, none, none]) (fun R hR => ?_) ?_
  · simp only [Bx.go]
    refine ⟨h, n, 6, rfl, hh, by omega, by decide, by decide, fun r h h0 h1 hh => ?_⟩
    obtain ⟨v, ev, hv⟩ := atI_of (ns := [1, 2, 2, 3, 3, 4]) (fun v => 1 ≤ v ∧ v ≤ 4) (by decide) h0 (by simpa using h1)
    simp only [List.map] at ev
    simp only [ev, Bx.go]
    exact hR _ ⟨h, v.toNat, by omega, by omega, hh, by rw [Int.toNat_of_nonneg (by omega)]⟩
  rintro _ ⟨h, d, d1, d4, hh, rfl⟩
  refine seq_cut (fun ρ => ∃ (h : List D) (w f : Int), 1 ≤ w ∧ w ≤ 40 ∧ 1 ≤ f ∧ f ≤ 10 ^ 15 ∧ hnd (n + 3) h ∧ ρ = [some (.lst true h), some (.int d), some (.int w), some (.int f), none, none, none, none, none, none]) (fun R hR => ?_) ?_
  · simp only [Bx.go]
    refine ⟨h, _, 6, rfl, hh, by omega, by decide, by decide, fun r h h0 h1 hh => ?_⟩
    obtain ⟨w, ew, hw⟩ := atI_of (ns := [1, 2, 3, 5, 9, 40]) (fun v => 1 ≤ v ∧ v ≤ 40) (by decide) h0 (by simpa using h1)
    simp only [List.map] at ew
    simp only [ew, Bx.go]
    refine ⟨⟨by decide, by decide, by decide⟩, h, _, 4, rfl, hh, by omega, by decide, by decide, fun r h h0 h1 hh => ?_⟩
    obtain ⟨f, ef, hf⟩ := atI_of (ns := [1, 1, 3, 10 ^ Int.toNat 15]) (fun v => 1 ≤ v ∧ v ≤ 10 ^ 15) (by decide) h0 (by simpa using h1)
    simp only [List.map] at ef
    simp only [ef, Bx.go]
    exact hR _ ⟨h, w, f, hw.1, hw.2, hf.1, hf.2, hh, rfl⟩
  rintro _ ⟨h, w, f, w1, w2, f1, f2, hh, rfl⟩
  refine seq_cut (fun ρ => ∃ (h : List D) (nm : Int), 0 ≤ nm ∧ hnd (n + 4) h ∧ ρ = [some (.lst true h), some (.int d), some (.int w), some (.int f), some (.lst true []), some (.int nm), none, none, none, none]) (fun R hR => ?_) ?_
  · simp only [Bx.go]
    refine ⟨h, _, 3, rfl, hh, by omega, by decide, by decide, fun r h h0 h1 hh => ?_⟩
    simp only [Bx.go]
    exact hR _ ⟨h, r, h0, hh, rfl⟩
  rintro _ ⟨h, nm, nm0, hh, rfl⟩
  refine seq_cut (fun ρ => ∃ (h : List D) (ts : List Th) (x5 x6 x7 x8 x9 : Option D), ts.length ≤ 30 ∧ House d ts ∧ hnd (n + 400) h ∧ ρ = [some (.lst true h), some (.int d), some (.int w), some (.int f), some (.lst true (ts.map thD)), x5, x6, x7, x8, x9]) (fun R hR => ?_) ?_
  · simp only [Bx.go]
    refine ⟨h, _, 10, rfl, hh, by omega, by decide, by decide, fun r h h0 h1 hh => ?_⟩
    obtain ⟨m, em, hm⟩ := atI_of (ns := [0, 1, 2, 3, 4, 6, 8, 12, 20, 30]) (fun v => 0 ≤ v ∧ v ≤ 30) (by decide) h0 (by simpa using h1)
    simp only [List.map] at em
    simp only [em, Bx.go]
    refine ⟨i62_of (by omega) (by omega), ?_⟩
    rw [rangeD_nat]
    refine for_each (List.range m.toNat) _ (fun dn ρ => ∃ (h : List D) (ts : List Th) (nm : Int) (x6 x7 x8 x9 : Option D), ts.length = dn.length ∧ House d ts ∧ 0 ≤ nm ∧ (∀ s ∈ ts, s.1 < nm) ∧ hnd (n + 5 + 12 * dn.length) h ∧ ρ = [some (.lst true h), some (.int d), some (.int w), some (.int f), some (.lst true (ts.map thD)), some (.int nm), x6, x7, x8, x9])
      ⟨h, [], nm, _, _, _, _, rfl, ⟨by simp, fun _ h => absurd h List.not_mem_nil, fun _ h => absurd h List.not_mem_nil, .nil⟩, nm0, fun _ h => absurd h List.not_mem_nil, hh, rfl⟩ ?_ ?_
    · rintro dn x r ρ N e ⟨h, ts, nm, x6, x7, x8, x9, tl, ht, nm0, hr, hh, rfl⟩ hN
      have e := congrArg List.length e
      simp at e
      obtain ⟨c, hc⟩ : ∃ c, c = n + 5 + 12 * dn.length := ⟨_, rfl⟩
      rw [← hc] at hh
      simp only [u1_gT, u2_gT, u1_gsCons, u2_gsCons, u1_gsNil, u2_gsNil, u1_kGs, u1_gN, u1_kForB, rset_s, rset_0, rget_s, rget_0, D.seq, D.sql, u_onSome_some, frz_tup, frz_int, frz_bl, frz_lst, frz_str, frz_non, frz_scr, List.length_cons, List.length_nil, List.map_cons, List.map_nil, Option.bind_some, true_and, and_true]
      refine seq_cut (fun ρ => ∃ (h : List D) (p : List Int) (x9 : Option D), p.length = d ∧ hnd (c + 4) h ∧ ρ = [some (.lst true h), some (.int d), some (.int w), some (.int f), some (.lst true (ts.map thD)), some (.int nm), some (.int (x : Nat)), some (.tup (p.map .int)), x8, x9]) (fun R hR => ?_) ?_
      · simp only [Bx.go]
        refine ⟨i62_of (by omega) (by omega), by rw [rangeD_len]; omega, ?_⟩
        rw [rangeD_nat]
        refine co_each (List.range (Int.toNat d)) _ (fun dm acc ρ => ∃ (h : List D) (p : List Int), acc = p.map .int ∧ p.length = dm.length ∧ hnd (c + dm.length) h ∧ ρ = [some (.lst true h), some (.int d), some (.int w), some (.int f), some (.lst true (ts.map thD)), some (.int nm), some (.int (x : Nat)), x7, x8, none]) ⟨h, [], rfl, rfl, hh, rfl⟩ ?_ ?_
        · rintro dm y r acc ρ N e2 ⟨h, p, rfl, pl, hh, rfl⟩ hN
          have e2 := congrArg List.length e2
          simp at e2
          simp only [Bx.go]
          refine ⟨.inl ⟨by omega, by omega⟩, h, _, 2 * w + 1, rfl, hh, by omega, by omega, by omega, fun r h h0 h1 hh => ?_⟩
          simp only [Bx.go]
          exact ⟨.inl ⟨by omega, by omega⟩, hN _ _ ⟨h, p ++ [(r - w) * f], by simp, by simp [pl], hh.mono (by simp; omega), rfl⟩⟩
        · rintro acc ρ ⟨h, p, rfl, pl, hh, rfl⟩
          simp only [backR, Bx.go]
          simp at pl hh
          exact hR _ ⟨h, p, _, pl, hh.mono (by omega), rfl⟩
      clear x7 x9
      rintro _ ⟨h, p, x9, pl, hh, rfl⟩
      refine seq_cut (fun ρ => ∃ (h : List D) (p : List Int), p.length = d ∧ hnd (c + 6) h ∧ ρ = [some (.lst true h), some (.int d), some (.int w), some (.int f), some (.lst true (ts.map thD)), some (.int nm), some (.int (x : Nat)), some (.tup (p.map .int)), x8, x9]) (fun R hR => ?_) ?_
      · simp only [ne_nil_th, Bx.go]
        refine ⟨eqOk_of (okE_lth true ts) (okE_lth true []) (by decide), ?_⟩
        cases he : ts.isEmpty
        · have t0 : 0 < ts.length := by cases ts <;> simp at he ⊢
          simp only [eqv_int, Bx.go]
          refine ⟨h, _, 6, rfl, hh, by omega, by decide, by decide, fun r h _ _ hh => ?_⟩
          simp only [eqv_int, Bx.go]
          refine ⟨eqOk_int _ _, ?_⟩
          refine pick_by (fun _ => ?_) (fun _ => ?_)
          · simp only [Bx.go]
            refine ⟨h, _, ts.length, rfl, hh, by omega, by omega, by omega, fun r h h0 h1 hh => ?_⟩
            have hr' : r.toNat < ts.length := by omega
            have er := atI_map (f := thD) (List.getElem?_eq_getElem hr')
            rw [Int.toNat_of_nonneg h0] at er
            have hp := ht.num _ (List.getElem_mem hr')
            simp only [er, thD, q1, Bx.go]
            exact hR _ ⟨h, _, hp, hh, rfl⟩
          · simp only [Bx.go]
            exact hR _ ⟨h, p, pl, hh.mono (by omega), rfl⟩
        · simp only [Bx.go]
          exact hR _ ⟨h, p, pl, hh.mono (by omega), rfl⟩
      clear pl p hh h
      rintro _ ⟨h, p, pl, hh, rfl⟩
      refine seq_cut (fun ρ => ∃ (h : List D) (fa : Int), hnd (c + 7) h ∧ ρ = [some (.lst true h), some (.int d), some (.int w), some (.int f), some (.lst true (ts.map thD)), some (.int nm), some (.int (x : Nat)), some (.tup (p.map .int)), some (.int fa), x9]) (fun R hR => ?_) ?_
      · simp only [Bx.go]
        refine ⟨⟨by decide, by decide, by decide⟩, ⟨by decide, by decide, by decide⟩, h, _, 2, rfl, hh, by omega, by decide, by decide, fun r h h0 h1 hh => ?_⟩
        obtain ⟨v, ev, _⟩ := atI_of (ns := [10 ^ Int.toNat 17, -10 ^ Int.toNat 17]) (fun _ => True) (fun _ _ => trivial) h0 (by simpa using h1)
        simp only [List.map] at ev
        simp only [ev, Bx.go]
        exact hR _ ⟨h, v, hh, rfl⟩
      rintro _ ⟨h, fa, hh, rfl⟩
      refine seq_cut (fun ρ => ∃ (h : List D) (wo : Int), hnd (c + 10) h ∧ ρ = [some (.lst true h), some (.int d), some (.int w), some (.int f), some (.lst true ((ts ++ [(nm, p, wo)]).map thD)), some (.int nm), some (.int (x : Nat)), some (.tup (p.map .int)), some (.int fa), x9]) (fun R hR => ?_) ?_
      · simp only [Bx.go]
        refine ⟨h, _, 5, rfl, hh, by omega, by decide, by decide, fun r1 h _ _ hh => ?_⟩
        simp only [Bx.go]
        refine ⟨h, _, 1000, rfl, hh, by omega, by decide, by decide, fun r2 h _ _ hh => ?_⟩
        simp only [Bx.go]
        refine ⟨h, _, 3, rfl, hh, by omega, by decide, by decide, fun r3 h h0 h1 hh => ?_⟩
        obtain ⟨v, ev, _⟩ := atI_of (ns := [r1 - 2, r2 - 500, fa]) (fun _ => True) (fun _ _ => trivial) h0 (by simpa using h1)
        simp only [List.map] at ev
        simp only [ev, Bx.go]
        exact ⟨by omega, hR _ ⟨h, v, hh, by rw [List.map_append]; rfl⟩⟩
      rintro _ ⟨h, wo, hh, rfl⟩
      simp only [Bx.go]
      refine ⟨h, _, 5, rfl, hh, by omega, by decide, by decide, fun r h h0 h1 hh => ?_⟩
      obtain ⟨v, ev, hv⟩ := atI_of (ns := [0, 0, 1, 7, 40]) (fun v => 0 ≤ v) (by decide) h0 (by simpa using h1)
      simp only [List.map] at ev
      simp only [ev, Bx.go]
      refine hN _ ⟨h, ts ++ [(nm, p, wo)], _, _, _, _, _, by simp [tl], ht.snoc (by omega) pl nm0 hr, by omega, fun s hs => ?_, hh.mono (by simp; omega), rfl⟩
      rcases List.mem_append.mp hs with hs | hs
      · have := hr s hs; omega
      · simp at hs; subst hs; show nm < _; omega
    · rintro ρ ⟨h, ts, nm, x6, x7, x8, x9, tl, ht, nm0, hr, hh, rfl⟩
      simp at tl hh
      exact hR _ ⟨h, ts, _, _, _, _, _, by omega, ht, hh.mono (by omega), rfl⟩
  rintro _ ⟨h, ts, x5, x6, x7, x8, x9, tl, ht, hh, rfl⟩
  simp only [Bx.go]
  exact q d ts h d1 d4 tl ht hh
theorem imp__law_number : ∀ ds Q, C__law_number ds Q → B__law_number ds Q := by
  rintro ds Q ⟨h, n, d, i, ts, rfl, hh, hn, hi, ht, q⟩
  refine ⟨rfl, ?_⟩
  have sl := sizeLine_eq
  have tl := ht.len
  refine seq_cut (fun ρ => ∃ (x4 : Option D) (l : List Int), l.length = ts.length + 1 ∧ ρ = [some (.lst true h), some (houseD d ts), some (.int i), some (.lst true (l.map .int)), x4]) (fun R hR => ?_) ?_
  · simp only [houseD, p1, Bx.go]
    refine ⟨by omega, co_map ts thD (fun t => .int (t.2.1.getD i 0)) (fun t htm acc N hN => ?_) ?_⟩
    · have lt := ht.num t htm
      have ei := atI_int (row := t.2.1) (i := i) (by omega)
      simp only [thD, q1, ei, Bx.go]
      exact hN
    · simp only [backR, Bx.go]
      rw [show (ts.map fun t => D.int (t.2.1.getD i 0)) = (ts.map fun t => t.2.1.getD i 0).map .int by rw [List.map_map]; rfl]
      refine ⟨by omega, hR _ ⟨_, (ts.map fun t => t.2.1.getD i 0) ++ [0], by simp, by rw [List.map_append]; rfl⟩⟩
  rintro _ ⟨x4, l, ll, rfl⟩
  simp only [Bx.go]
  refine ⟨h, n, l.length, rfl, hh, by omega, by omega, by omega, fun r h h0 h1 hh => ?_⟩
  obtain ⟨v, ev, _⟩ := atI_of (ns := l) (fun _ => True) (fun _ _ => trivial) h0 h1
  simp only [ev, Bx.go]
  refine ⟨h, _, 6, rfl, hh, by omega, by decide, by decide, fun r h h0 h1 hh => ?_⟩
  obtain ⟨u, eu, _⟩ := atI_of (ns := [0, 0, 0, 1, -1, 2]) (fun _ => True) (fun _ _ => trivial) h0 (by simpa using h1)
  simp only [List.map] at eu
  simp only [eu, Bx.go]
  exact q _ h hh
theorem end_at (x : Int) {r : Int} (h0 : 0 ≤ r) (h1 : r < 4) : ∃ e : Eg, atI [D.non, .tup [.int x, .bl true], .tup [.int x, .bl false], .tup [.int x, .bl true]] r = some (eD e) := by
  have : r = 0 ∨ r = 1 ∨ r = 2 ∨ r = 3 := by omega
  rcases this with rfl | rfl | rfl | rfl
  · exact ⟨none, rfl⟩
  · exact ⟨some (x, true), rfl⟩
  · exact ⟨some (x, false), rfl⟩
  · exact ⟨some (x, true), rfl⟩
theorem imp__law_box : ∀ ds Q, C__law_box ds Q → B__law_box ds Q := by
  rintro ds Q ⟨h, n, d, ts, rfl, hh, hn, d4, ht, q⟩
  refine ⟨rfl, ?_⟩
  have sl := sizeLine_eq
  have hz : (houseD d ts).frz = houseD d ts := rfl
  have h0' : gIx (houseD d ts) (.int 0) = gIx (houseD d ts) (.int 0) := rfl
  refine seq_cut (fun ρ => ρ = [some (.lst true h), some (houseD d ts), some (.lst true []), none, none, none, none]) (fun R hR => ?_) ?_
  · simp only [Bx.go]
    exact hR _ rfl
  rintro _ rfl
  refine seq_cut (fun ρ => ∃ (h : List D) (b : Bx1) (x3 x4 x5 x6 : Option D), b.length = d ∧ hnd (n + 28) h ∧ ρ = [some (.lst true h), some (houseD d ts), some (.lst true (b.map sD)), x3, x4, x5, x6]) (fun R hR => ?_) ?_
  · have gi : ∀ K, gIx (houseD d ts) (.int 0) K = K (.int d) := fun K => by
      unfold houseD
      simp only [p0, Bx.go]
    simp only [gi, Bx.go]
    refine ⟨i62_of (by omega) (by omega), ?_⟩
    rw [rangeD_nat]
    refine for_each (List.range (Int.toNat d)) _ (fun dn ρ => ∃ (h : List D) (b : Bx1) (x3 x4 x5 x6 : Option D), b.length = dn.length ∧ hnd (n + 7 * dn.length) h ∧ ρ = [some (.lst true h), some (houseD d ts), some (.lst true (b.map sD)), x3, x4, x5, x6]) ⟨h, [], _, _, _, _, rfl, hh, rfl⟩ ?_ ?_
    · rintro dn x r ρ N e ⟨h, b, x3, x4, x5, x6, bl, hh, rfl⟩ hN
      have xd : x < d := by
        have : x ∈ List.range (Int.toNat d) := by rw [e]; simp
        have := List.mem_range.mp this
        omega
      have e := congrArg List.length e
      simp at e
      obtain ⟨c, hc⟩ : ∃ c, c = n + 7 * dn.length := ⟨_, rfl⟩
      rw [← hc] at hh
      simp only [u1_gT, u2_gT, u1_gsCons, u2_gsCons, u1_gsNil, u2_gsNil, u1_kGs, u1_gN, u1_kForB, rset_s, rset_0, rget_s, rget_0, D.seq, D.sql, u_onSome_some, frz_tup, frz_int, frz_bl, frz_lst, frz_str, frz_non, frz_scr, List.length_cons, List.length_nil, List.map_cons, List.map_nil, Option.bind_some, true_and, and_true]
      refine seq_cut (fun ρ => ∃ (h : List D) (a b' : Int), hnd (c + 4) h ∧ ρ = [some (.lst true h), some (houseD d ts), some (.lst true (b.map sD)), some (.int (x : Nat)), some (.int a), some (.int b'), x6]) (fun R hR => ?_) ?_
      · simp only [hz, Bx.go]
        refine ⟨h, _, d, x, ts, rfl, hh, by omega, xd, ht, fun a h hh => ?_⟩
        simp only [hz, Bx.go]
        refine ⟨h, _, d, x, ts, rfl, hh, by omega, xd, ht, fun b' h hh => ?_⟩
        simp only [Bx.go]
        exact hR _ ⟨h, a, b', hh, rfl⟩
      rintro _ ⟨h, a, b', hh, rfl⟩
      refine seq_cut (fun ρ => ∃ (h : List D) (a b' : Int), hnd (c + 5) h ∧ ρ = [some (.lst true h), some (houseD d ts), some (.lst true (b.map sD)), some (.int (x : Nat)), some (.int a), some (.int b'), x6]) (fun R hR => ?_) ?_
      · simp only [Bx.go]
        refine pick_by (fun _ => ?_) (fun _ => ?_)
        · simp only [Bx.go]
          refine ⟨h, _, 5, rfl, hh, by omega, by decide, by decide, fun r h _ _ hh => ?_⟩
          simp only [Bx.go]
          refine pick_by (fun _ => ?_) (fun _ => ?_)
          · simp only [Bx.go]
            exact hR _ ⟨h, b', a, hh, rfl⟩
          · simp only [Bx.go]
            exact hR _ ⟨h, a, b', hh, rfl⟩
        · simp only [Bx.go]
          exact hR _ ⟨h, a, b', hh.mono (by omega), rfl⟩
      clear hh h a b'
      rintro _ ⟨h, a, b', hh, rfl⟩
      refine seq_cut (fun ρ => ∃ (h : List D) (e1 : Eg), hnd (c + 6) h ∧ ρ = [some (.lst true h), some (houseD d ts), some (.lst true (b.map sD)), some (.int (x : Nat)), some (.int a), some (.int b'), some (eD e1)]) (fun R hR => ?_) ?_
      · simp only [Bx.go]
        refine ⟨h, _, 4, rfl, hh, by omega, by decide, by decide, fun r h h0 h1 hh => ?_⟩
        obtain ⟨e1, ee⟩ := end_at a h0 h1
        simp only [ee, Bx.go]
        exact hR _ ⟨h, e1, hh, rfl⟩
      rintro _ ⟨h, e1, hh, rfl⟩
      simp only [eD_frz, Bx.go]
      refine ⟨h, _, 4, rfl, hh, by omega, by decide, by decide, fun r h h0 h1 hh => ?_⟩
      obtain ⟨e2, ee⟩ := end_at b' h0 h1
      simp only [ee, eD_frz, Bx.go]
      refine ⟨by omega, hN _ ⟨h, b ++ [(e1, e2)], _, _, _, _, by simp [bl], hh.mono (by simp; omega), by rw [List.map_append]; rfl⟩⟩
    · rintro ρ ⟨h, b, x3, x4, x5, x6, bl, hh, rfl⟩
      simp at bl hh
      exact hR _ ⟨h, b, _, _, _, _, bl, hh.mono (by omega), rfl⟩
  rintro _ ⟨h, b, x3, x4, x5, x6, bl, hh, rfl⟩
  simp only [Bx.go]
  exact q b h bl hh
end Zh
namespace Zf
open PySem PySem.Spec PyProof.Rows L2 Bx Zb Zp Zm Zh
def absI (i : Int) : Int := if i < 0 then -i else i
def stepsL (p q : List Int) : Int := (List.zipWith (fun a b => absI (a - b)) p q).sum
def fitT (b : Bx1) (ts : List Th) : List Th := ts.filter fun t => fitB b t.2.1
def geO : Option Int → Int → Bool
  | none, _ => true
  | some a, n => !decide (n < a)
def leO : Option Int → Int → Bool
  | none, _ => true
  | some a, n => !decide (a < n)
def insB (es : List (Int × Int)) (ps : List Pr) : Bool := (ps.headD (none, none) != (some 1, some 0)) && (es.zip ps).all fun x => geO x.2.1 x.1.1 && leO x.2.2 x.1.2
def edgD (e : Int × Int) : D := .tup [.int e.1, .int e.2]
abbrev C_fits : PSpec := Zb.C_fits
def C_steps : PSpec := fun ds Q => ∃ (p q : List Int), ds = [.tup (p.map .int), .tup (q.map .int)] ∧ p.length ≤ 1000 ∧ Q (.int (stepsL p q)) []
def C_things_in : PSpec := fun ds Q => ∃ (d : Nat) (ts : List Th) (b : Bx1), ds = [houseD d ts, .tup (b.map sD)] ∧ ts.length ≤ 1000 ∧ b.length ≤ 1000 ∧ Q (.lst true ((fitT b ts).map thD)) []
def C__law_plain : PSpec := fun ds Q => ∃ b : Bx1, ds = [.tup (b.map sD)] ∧ 1 ≤ b.length ∧ b.length ≤ 1000 ∧ Q (.tup ((plainOf (b.map pl)).map pD)) []
def C__law_inside : PSpec := fun ds Q => ∃ (es : List (Int × Int)) (ps : List Pr), (ds = [.lst false (es.map edgD), .tup (ps.map pD)] ∨ ds = [.tup (es.map edgD), .tup (ps.map pD)]) ∧ 1 ≤ ps.length ∧ ps.length ≤ 1000 ∧ es.length ≤ 1000 ∧ Q (.bl (insB es ps)) []
def C__law_fits : PSpec := fun ds Q => ∃ (ps : List Pr) (p : List Int), ds = [.tup (ps.map pD), .tup (p.map .int)] ∧ 1 ≤ ps.length ∧ ps.length = p.length ∧ p.length ≤ 1000 ∧ plainOf ps = ps ∧ Q (.bl (memP ps p)) []
def w__law_plain : DS :=
  (dSeq (dAsg 1 (dLst aNil))
    (dSeq (dFor (iOf (dVar 0)) (gT (gsCons (gN 2) (gsCons (gN 3) gsNil)) 2)
    (dSeq (dAsg 4 (dIf (tVal (dBin gIsN (oVar 2) (oVal (dC .non)))) (dC .non) (dBin gAdd (oVal (dBin gIx (oVar 2) (oVal (dC (.int 0))))) (oVal (dCB gInt (aCons (oVal (dNot (dBin gIx (oVar 2) (oVal (dC (.int 1)))))) aNil))))))
    (dSeq (dAsg 5 (dIf (tVal (dBin gIsN (oVar 3) (oVal (dC .non)))) (dC .non) (dBin gSub (oVal (dBin gIx (oVar 3) (oVal (dC (.int 0))))) (oVal (dCB gInt (aCons (oVal (dNot (dBin gIx (oVar 3) (oVal (dC (.int 1)))))) aNil))))))
    (dSeq (dIfS (tAnd (tVal (dBin gNotN (oVar 4) (oVal (dC .non)))) (tAnd (tVal (dBin gNotN (oVar 5) (oVal (dC .non)))) (tVal (dBin gGt (oVar 4) (oVar 5)))))
    (dRet (dBin gTMul (oVal (dTup (aCons (oVal (dTup (aCons (oVal (dC (.int 1))) (aCons (oVal (dC (.int 0))) aNil)))) aNil))) (oVal (dCB gLen (aCons (oVar 0) aNil)))))
    dNext)
    (dExp (dApp 1 (dTup (aCons (oVar 4) (aCons (oVar 5) aNil)))))))))
    (dRet (dCB gTuple (aCons (oVar 1) aNil)))))
abbrev B__law_plain : PSpec := bodyW [] 6 1 w__law_plain
theorem imp__law_plain : ∀ ds Q, C__law_plain ds Q → B__law_plain ds Q := by
  rintro ds Q ⟨b, rfl, b1, bl, q⟩
  refine ⟨rfl, ?_⟩
  have sl := sizeLine_eq
  have oz : ∀ o, (oD o).frz = oD o := fun o => by cases o <;> rfl
  have fz : (plainOf (b.map pl)) = if (b.map pl).any cr then (b.map pl).map fun _ => ((some 1, some 0) : Pr) else b.map pl := rfl
  simp only [w__law_plain, Bx.go]
  refine for_each b sD (fun dn ρ => (dn.map pl).any cr = false ∧ ∃ x2 x3 x4 x5, ρ = [some (.tup (b.map sD)), some (.lst true ((dn.map pl).map pD)), x2, x3, x4, x5]) ⟨rfl, _, _, _, _, rfl⟩ ?_ ?_
  · rintro dn s r ρ N e ⟨hd, x2, x3, x4, x5, rfl⟩ hN
    obtain ⟨l, h⟩ := s
    have hc : cr (pl (l, h)) = true → (b.map pl).any cr = true := fun hc => by rw [e]; simp [hc]
    have el := congrArg List.length e
    simp at el
    simp only [sD, Zb.eD_frz, u1_gT, u2_gT, u1_gsCons, u2_gsCons, u1_gsNil, u2_gsNil, u1_kGs, u1_gN, u1_kForB, rset_s, rset_0, rget_s, rget_0, D.seq, D.sql, u_onSome_some, frz_tup, frz_int, frz_bl, frz_lst, frz_str, frz_non, frz_scr, List.length_cons, List.length_nil, List.map_cons, List.map_nil, Option.bind_some, true_and, and_true]
    refine seq_cut (fun ρ => ρ = [some (.tup (b.map sD)), some (.lst true ((dn.map pl).map pD)), some (eD l), some (eD h), some (oD (pl (l, h)).1), x5]) (fun R hR => ?_) ?_
    · have hR := hR _ rfl
      cases l with
      | none => simp only [eD, pl, oD, Bx.go] at hR ⊢; exact hR
      | some l =>
        obtain ⟨x, c⟩ := l
        simp only [eD, pl, oD, p0, p1, Bx.go] at hR ⊢
        cases c <;> simpa using hR
    rintro _ rfl
    refine seq_cut (fun ρ => ρ = [some (.tup (b.map sD)), some (.lst true ((dn.map pl).map pD)), some (eD l), some (eD h), some (oD (pl (l, h)).1), some (oD (pl (l, h)).2)]) (fun R hR => ?_) ?_
    · have hR := hR _ rfl
      generalize oD (pl (l, h)).1 = z at hR ⊢
      cases h with
      | none => simp only [eD, pl, oD, Bx.go] at hR ⊢; exact hR
      | some h =>
        obtain ⟨x, c⟩ := h
        simp only [eD, pl, oD, p0, p1, Bx.go] at hR ⊢
        cases c <;> simpa using hR
    rintro _ rfl
    refine seq_cut (fun ρ => cr (pl (l, h)) = false ∧ ρ = [some (.tup (b.map sD)), some (.lst true ((dn.map pl).map pD)), some (eD l), some (eD h), some (oD (pl (l, h)).1), some (oD (pl (l, h)).2)]) (fun R hR => ?_) ?_
    · obtain ⟨⟨p, p'⟩, hp⟩ : ∃ p, p = pl (l, h) := ⟨_, rfl⟩
      rw [← hp] at hR hc ⊢
      have hq : cr (p, p') = true → Q (.tup ((ept (b.map pl)).map pD)) [] := fun h => by
        rw [fz, hc h] at q
        exact q
      cases p with
      | none => simp only [oD, Bx.go]; exact hR _ ⟨rfl, rfl⟩
      | some p =>
        cases p' with
        | none => simp only [oD, Bx.go]; exact hR _ ⟨rfl, rfl⟩
        | some p' =>
          simp only [oD, Bx.go]
          refine pick_by (fun h => ?_) (fun h => ?_)
          · simp only [Bx.go]
            refine ⟨⟨by simp, by omega, by omega, by decide⟩, ?_⟩
            rw [empt_int _ (b.map pl) (by simp)]
            exact hq h
          · simp only [Bx.go]
            exact hR _ ⟨h, rfl⟩
    rintro _ ⟨hcr, rfl⟩
    simp only [oz, Bx.go]
    refine ⟨by omega, hN _ ⟨by rw [List.map_append, List.any_append, hd]; simp [hcr], _, _, _, _, by rw [List.map_append, List.map_append]; rfl⟩⟩
  · rintro ρ ⟨hd, x2, x3, x4, x5, rfl⟩
    simp only [Bx.go]
    rw [fz, hd] at q
    exact q
theorem with_swp {α β γ : Type} (f : α → β → γ) {p : List α} {q : List β} {i j : Nat} (hi : i < p.length) (hj : j < p.length) (hl : p.length = q.length) : List.zipWith f (swpL p i j) (swpL q i j) = swpL (List.zipWith f p q) i j := by
  have li : i < (List.zipWith f p q).length := by rw [List.length_zipWith]; omega
  have lj : j < (List.zipWith f p q).length := by rw [List.length_zipWith]; omega
  rw [swpL_at hi hj, swpL_at (xs := q) (by omega) (by omega), swpL_at li lj]
  refine List.ext_getElem (by simp) fun k h1 h2 => ?_
  simp only [List.getElem_zipWith, List.getElem_set]
  by_cases e1 : j = k
  · simp [e1]
  · by_cases e2 : i = k
    · simp [e1, e2]
    · simp [e1, e2]
theorem mem_swp1 {α : Type} {xs : List α} {i j : Nat} {x : α} (h : x ∈ swpL xs i j) : x ∈ xs := by
  unfold swpL at h
  split at h
  · rename_i a b ea eb
    rcases List.mem_or_eq_of_mem_set h with h | rfl
    · rcases List.mem_or_eq_of_mem_set h with h | rfl
      · exact h
      · exact List.mem_of_getElem? eb
    · exact List.mem_of_getElem? ea
  · exact h
theorem mem_swp {α : Type} {xs : List α} {i j : Nat} {x : α} (hi : i < xs.length) (hj : j < xs.length) : x ∈ swpL xs i j ↔ x ∈ xs :=
  ⟨mem_swp1, fun h => by
    have e := swpL_swpL hi hj
    rw [← e] at h
    exact mem_swp1 h⟩
theorem all_swp {α : Type} {f : α → Bool} {xs : List α} {i j : Nat} (hi : i < xs.length) (hj : j < xs.length) : (swpL xs i j).all f = xs.all f := by
  rw [Bool.eq_iff_iff, List.all_eq_true, List.all_eq_true]
  exact ⟨fun h x hx => h x ((mem_swp hi hj).mpr hx), fun h x hx => h x ((mem_swp hi hj).mp hx)⟩
def sfit (s : Eg × Eg) (n : Int) : Bool := fl s.1 n && fh s.2 n
theorem fitB_with : ∀ (b : Bx1) (p : List Int), fitB b p = (List.zipWith sfit b p).all id
  | [], _ => by simp [fitB]
  | _ :: _, [] => by simp [fitB]
  | s :: b, n :: p => by simp only [fitB, List.zipWith_cons_cons, List.all_cons, fitB_with b p]; rfl
theorem fl_sh (e : Eg) (n m : Int) : fl (shE e m) (n + m) = fl e n := by
  cases e with
  | none => rfl
  | some e =>
    obtain ⟨x, c⟩ := e
    simp only [shE, Option.map_some, fl]
    rw [show decide (x + m < n + m) = decide (x < n) from decide_eq_decide.mpr (by omega), show (n + m == x + m) = (n == x) by rw [Bool.eq_iff_iff]; simp]
theorem fh_sh (e : Eg) (n m : Int) : fh (shE e m) (n + m) = fh e n := by
  cases e with
  | none => rfl
  | some e =>
    obtain ⟨x, c⟩ := e
    simp only [shE, Option.map_some, fh]
    rw [show decide (n + m < x + m) = decide (n < x) from decide_eq_decide.mpr (by omega), show (n + m == x + m) = (n == x) by rw [Bool.eq_iff_iff]; simp]
theorem fl_mi (e : Eg) (n : Int) : fl (miE e) (0 - n) = fh e n := by
  cases e with
  | none => rfl
  | some e =>
    obtain ⟨x, c⟩ := e
    simp only [miE, Option.map_some, fl, fh]
    rw [show decide (0 - x < 0 - n) = decide (n < x) from decide_eq_decide.mpr (by omega), show (0 - n == 0 - x) = (n == x) by rw [Bool.eq_iff_iff]; simp]
theorem fh_mi (e : Eg) (n : Int) : fh (miE e) (0 - n) = fl e n := by
  cases e with
  | none => rfl
  | some e =>
    obtain ⟨x, c⟩ := e
    simp only [miE, Option.map_some, fl, fh]
    rw [show decide (0 - n < 0 - x) = decide (x < n) from decide_eq_decide.mpr (by omega), show (0 - n == 0 - x) = (n == x) by rw [Bool.eq_iff_iff]; simp]
theorem fit_step {s : Stp} {b : Bx1} {p : List Int} (h : okP b.length s) (hl : b.length = p.length) : fitB (boxB s b) (placeB s p) = fitB b p := by
  rw [fitB_with, fitB_with]
  cases s with
  | shift l =>
    have h : l.length = b.length := h
    congr 1
    simp only [placeB, boxB]
    refine List.ext_getElem (by simp [h, hl]) fun k h1 h2 => ?_
    simp only [List.getElem_zipWith, sfit, fl_sh, fh_sh]
  | mirror i =>
    have h : i < b.length := h
    congr 1
    simp only [placeB, boxB]
    refine List.ext_getElem (by simp) fun k h1 h2 => ?_
    simp only [List.getElem_zipWith, List.getElem_set]
    by_cases e : i = k
    · subst e
      rw [if_pos rfl, if_pos rfl, List.getD_eq_getElem?_getD, List.getD_eq_getElem?_getD, List.getElem?_eq_getElem h, List.getElem?_eq_getElem (by omega)]
      simp only [sfit, Option.getD_some, fl_mi, fh_mi]
      exact Bool.and_comm _ _
    · rw [if_neg e, if_neg e]
  | swap i j =>
    obtain ⟨hi, hj⟩ : i < b.length ∧ j < b.length := h
    simp only [placeB, boxB]
    rw [with_swp _ hi hj hl, all_swp (by rw [List.length_zipWith]; omega) (by rw [List.length_zipWith]; omega)]
end Zf
namespace Zq
open PySem PySem.Spec PyProof.Rows L2 Bx Zb Zp Zm Zh
def nm : D → Int
  | .tup (.int a :: _) => a
  | _ => 0
def ris (l : List Int) : Bool := (l.zip l.tail).all fun p => decide (p.1 < p.2)
def thin (d : D) : Prop := ∀ a ts, d = .tup [a, .tup ts] → ts.length ≤ 1000
abbrev C_is_whole : PSpec := Zb.C_is_whole
abbrev C__law_whole : PSpec := Zb.C_is_whole
abbrev C_is_place : PSpec := Zp.C_is_place
def sok : Nat → D → Bool
  | _, .str z => PyData.strOk z
  | n + 1, .tup xs => xs.all (sok n)
  | n + 1, .lst _ xs => xs.all (sok n)
  | _, _ => true
def C__law_odd : PSpec := fun ds Q => ds = [] ∧ ∀ xs : List D, xs.length ≤ 100 → (∀ x ∈ xs, thin x) → (∀ x ∈ xs, sok 5 x = true) → Q (.lst true xs) []
abbrev C__law_take : PSpec := Zb.C__law_take
abbrev C__law_pool : PSpec := Zb.C__law_pool
def Small (ts : List Th) : Prop := ∀ t ∈ ts, t.1 ≤ 10 ^ 17 + 1000 ∧ -10 ^ 17 ≤ t.2.2 ∧ t.2.2 ≤ 10 ^ 17
def C__law_house : PSpec := fun ds Q => ∃ (h : List D) (n d m : Nat), ds = [.lst true h, .int d, .int m] ∧ hnd n h ∧ n ≤ 10 ^ 13 ∧ d ≤ 4 ∧ ∀ (ts : List Th) (ps : List (List Int)) (h' : List D), ts.length ≤ m → ts.length ≤ 60 → House d ts → Small ts → Pools ps → ps.length = d → hnd (n + 500) h' → Q (.tup [houseD d ts, .lst false (ps.map poolD)]) [.lst true h']
def w__law_odd : DS :=
  (dSeq (dAsg 0 (dLst (aCons (oVal (dC .non)) (aCons (oVal (dC (.bl true))) (aCons (oVal (dC (.bl false))) (aCons (oVal (dC (.int 0))) (aCons (oVal (dUn gNeg (oVal (dC (.int 1))))) (aCons (oVal (dC (.int 7))) (aCons (oVal (dC (.str ""))) (aCons (oVal (dC (.str "box"))) (aCons (oVal (dTup aNil)) (aCons (oVal (dLst aNil)) (aCons (oVal (dC (.dic [] []))) (aCons (oVal (dTup (aCons (oVal (dC .non)) aNil))) (aCons (oVal (dTup (aCons (oVal (dTup aNil)) aNil))) (aCons (oVal (dTup (aCons (oVal (dTup (aCons (oVal (dC .non)) (aCons (oVal (dC .non)) aNil)))) aNil))) (aCons (oVal (dLst (aCons (oVal (dTup (aCons (oVal (dTup (aCons (oVal (dC (.int 0))) (aCons (oVal (dC (.bl true))) aNil)))) (aCons (oVal (dC .non)) aNil)))) aNil))) aNil)))))))))))))))))
    (dSeq (dAsg 0 (dBin gAdd (oVar 0) (oVal (dLst (aCons (oVal (dTup (aCons (oVal (dC (.int 0))) aNil))) (aCons (oVal (dTup (aCons (oVal (dC (.int 0))) (aCons (oVal (dC (.int 0))) aNil)))) (aCons (oVal (dLst (aCons (oVal (dC (.int 0))) aNil))) (aCons (oVal (dTup (aCons (oVal (dC (.bl true))) aNil))) (aCons (oVal (dTup (aCons (oVal (dC (.str "0"))) aNil))) (aCons (oVal (dTup (aCons (oVal (dTup (aCons (oVal (dC (.int 0))) (aCons (oVal (dC (.bl true))) aNil)))) aNil))) (aCons (oVal (dTup (aCons (oVal (dTup (aCons (oVal (dTup (aCons (oVal (dC (.int 0))) (aCons (oVal (dC (.bl true))) aNil)))) (aCons (oVal (dC .non)) aNil)))) aNil))) (aCons (oVal (dTup (aCons (oVal (dTup (aCons (oVal (dTup (aCons (oVal (dC (.int 0))) (aCons (oVal (dC (.int 1))) aNil)))) (aCons (oVal (dC .non)) aNil)))) aNil))) aNil))))))))))))
    (dSeq (dAsg 0 (dBin gAdd (oVar 0) (oVal (dLst (aCons (oVal (dTup (aCons (oVal (dTup (aCons (oVal (dC (.int 0))) (aCons (oVal (dC .non)) aNil)))) aNil))) (aCons (oVal (dTup (aCons (oVal (dTup (aCons (oVal (dTup (aCons (oVal (dC (.int 0))) (aCons (oVal (dC (.bl true))) aNil)))) aNil))) aNil))) (aCons (oVal (dTup (aCons (oVal (dTup (aCons (oVal (dC .non)) (aCons (oVal (dC .non)) (aCons (oVal (dC .non)) aNil))))) aNil))) (aCons (oVal (dTup (aCons (oVal (dTup (aCons (oVal (dTup (aCons (oVal (dC (.bl true))) (aCons (oVal (dC (.bl true))) aNil)))) (aCons (oVal (dC .non)) aNil)))) aNil))) aNil))))))))
    (dSeq (dAsg 0 (dBin gAdd (oVar 0) (oVal (dLst (aCons (oVal (dTup (aCons (oVal (dTup (aCons (oVal (dTup (aCons (oVal (dC .non)) (aCons (oVal (dC (.bl true))) aNil)))) (aCons (oVal (dC .non)) aNil)))) aNil))) aNil)))))
    (dSeq (dAsg 0 (dBin gAdd (oVar 0) (oVal (dLst (aCons (oVal (dTup (aCons (oVal (dTup (aCons (oVal (dTup (aCons (oVal (dC (.str "0"))) (aCons (oVal (dC (.bl true))) aNil)))) (aCons (oVal (dC .non)) aNil)))) aNil))) (aCons (oVal (dTup (aCons (oVal (dTup (aCons (oVal (dLst (aCons (oVal (dC (.int 0))) (aCons (oVal (dC (.bl true))) aNil)))) (aCons (oVal (dC .non)) aNil)))) aNil))) (aCons (oVal (dTup (aCons (oVal (dLst (aCons (oVal (dC .non)) (aCons (oVal (dC .non)) aNil)))) aNil))) (aCons (oVal (dTup (aCons (oVal (dTup (aCons (oVal (dTup (aCons (oVal (dC (.int 0))) (aCons (oVal (dC (.bl true))) (aCons (oVal (dC (.int 1))) aNil))))) (aCons (oVal (dC .non)) aNil)))) aNil))) aNil))))))))
    (dRet (dBin gAdd (oVar 0) (oVal (dLst (aCons (oVal (dC (.dic [.inr "box"] [.int 1]))) aNil))))))))))
abbrev B__law_odd : PSpec := bodyW [] 1 0 w__law_odd
def w__law_house : DS :=
  (dSeq (dAsg 3 (dComp (iR gR1 (aCons (oVar 1) aNil)) [11] (gN 11) tAll (dCallIO 0 0 C__law_pool (aCons (oVar 0) aNil))))
    (dSeq (dAsg 4 (dLst (aCons (oVal (dLst (aCons (oVal (dC (.int 0))) aNil))) (aCons (oVal (dLst (aCons (oVal (dC (.int 1))) (aCons (oVal (dC (.int 2))) (aCons (oVal (dC (.int 3))) aNil))))) (aCons (oVal (dLst (aCons (oVal (dUn gNeg (oVal (dC (.int 5))))) (aCons (oVal (dC (.int 5))) (aCons (oVal (dC (.int 0))) (aCons (oVal (dC (.int 5))) aNil)))))) (aCons (oVal (dLst (aCons (oVal (dBin gPow (oVal (dC (.int 10))) (oVal (dC (.int 17))))) (aCons (oVal (dUn gNeg (oVal (dBin gPow (oVal (dC (.int 10))) (oVal (dC (.int 17))))))) (aCons (oVal (dC (.int 7))) aNil))))) (aCons (oVal (dComp (iR gR1 (aCons (oVal (dC (.int 40))) aNil)) [9] (gN 9) tAll (dBin gSub (oVal (dBin gMul2 (oVal (dC (.int 3))) (oVar 9))) (oVal (dC (.int 20)))))) aNil)))))))
    (dSeq (dAsg 5 (dBin gIx (oVar 4) (oVal (dCallIO 0 0 C__law_take (aCons (oVar 0) (aCons (oVal (dC (.int 5))) aNil))))))
    (dSeq (dAsg 6 (dCB gMin (aCons (oVar 2) (aCons (oVal (dBin gIx (oVal (dLst (aCons (oVal (dC (.int 0))) (aCons (oVal (dC (.int 1))) (aCons (oVal (dC (.int 2))) (aCons (oVal (dC (.int 3))) (aCons (oVal (dC (.int 6))) (aCons (oVal (dC (.int 9))) (aCons (oVal (dC (.int 14))) (aCons (oVal (dC (.int 30))) (aCons (oVal (dC (.int 60))) aNil))))))))))) (oVal (dCallIO 0 0 C__law_take (aCons (oVar 0) (aCons (oVal (dC (.int 9))) aNil)))))) aNil))))
    (dSeq (dAsg 7 (dBin gIx (oVal (dLst (aCons (oVal (dC (.int 0))) (aCons (oVal (dC (.int 3))) (aCons (oVal (dBin gPow (oVal (dC (.int 10))) (oVal (dC (.int 17))))) aNil))))) (oVal (dCallIO 0 0 C__law_take (aCons (oVar 0) (aCons (oVal (dC (.int 3))) aNil))))))
    (dSeq (dAsg 8 (dLst aNil))
    (dSeq (dFor (iR gR1 (aCons (oVar 6) aNil)) (gN 9)
    (dSeq (dAsg 10 (dCB gTuple (aCons (oVal (dComp (iOf (dVar 3)) [12] (gN 12) tAll (dBin gIx (oVar 12) (oVal (dCallIO 0 0 C__law_take (aCons (oVar 0) (aCons (oVal (dCB gLen (aCons (oVar 12) aNil))) aNil))))))) aNil)))
    (dSeq (dExp (dApp 8 (dTup (aCons (oVar 7) (aCons (oVar 10) (aCons (oVal (dBin gIx (oVar 5) (oVal (dCallIO 0 0 C__law_take (aCons (oVar 0) (aCons (oVal (dCB gLen (aCons (oVar 5) aNil))) aNil)))))) aNil))))))
    (dAsg 7 (dBin gAdd (oVal (dBin gAdd (oVar 7) (oVal (dC (.int 1))))) (oVal (dCallIO 0 0 C__law_take (aCons (oVar 0) (aCons (oVal (dC (.int 3))) aNil)))))))))
    (dRet (dTup (aCons (oVal (dTup (aCons (oVar 1) (aCons (oVal (dCB gTuple (aCons (oVar 8) aNil))) aNil)))) (aCons (oVar 3) aNil)))))))))))
abbrev B__law_house : PSpec := bodyW [0] 13 3 w__law_house
theorem isPlace_frz (d : D) (n : Int) : isPlace d.frz n = isPlace d n := by cases d <;> rfl
theorem imp__law_house : ∀ ds Q, C__law_house ds Q → B__law_house ds Q := by
  rintro ds Q ⟨h, n, d, m, rfl, hh, hn, hd, q⟩
  refine ⟨rfl, ?_⟩
  have sl := sizeLine_eq
  refine seq_cut (fun ρ => ∃ (h : List D) (ps : List (List Int)), Pools ps ∧ ps.length = d ∧ hnd (n + 12) h ∧ ρ = [some (.lst true h), some (.int d), some (.int m), some (.lst true (ps.map poolD)), none, none, none, none, none, none, none, none, none]) (fun R hR => ?_) ?_
  · simp only [Bx.go]
    refine ⟨i62_of (by omega) (by omega), by rw [rangeD_len]; omega, ?_⟩
    rw [rangeD_nat]
    refine co_each (List.range (Int.toNat d)) _ (fun dn acc ρ => ∃ (h : List D) (ps : List (List Int)), acc = ps.map poolD ∧ Pools ps ∧ ps.length = dn.length ∧ hnd (n + 3 * ps.length) h ∧ ρ = [some (.lst true h), some (.int d), some (.int m), none, none, none, none, none, none, none, none, none, none]) ⟨h, [], rfl, fun _ h => absurd h List.not_mem_nil, rfl, hh, rfl⟩ ?_ ?_
    · rintro dn y r acc ρ N e ⟨h, ps, rfl, hp, el, hh, rfl⟩ hN
      have e := congrArg List.length e
      simp at e
      simp only [Bx.go]
      refine ⟨h, _, rfl, hh, by omega, fun l h l0 l9 hh => ?_⟩
      simp only [Bx.go]
      refine hN _ _ ⟨h, ps ++ [l], by simp [poolD], fun m hm => ?_, by simp [el], hh.mono (by simp; omega), rfl⟩
      rcases List.mem_append.mp hm with hm | hm
      · exact hp m hm
      · simp at hm; subst hm; exact ⟨l0, l9⟩
    · rintro acc ρ ⟨h, ps, rfl, hp, el, hh, rfl⟩
      simp only [backR, Bx.go]
      simp at el
      exact hR _ ⟨h, ps, hp, el, hh.mono (by omega), rfl⟩
  rintro _ ⟨h, ps, hp, pl, hh, rfl⟩
  refine seq_cut (fun ρ => ∃ rows : List (List Int), rows.length = 5 ∧ (∀ l ∈ rows, l ≠ [] ∧ l.length ≤ 40 ∧ ∀ w ∈ l, -10 ^ 17 ≤ w ∧ w ≤ 10 ^ 17) ∧ ρ = [some (.lst true h), some (.int d), some (.int m), some (.lst true (ps.map poolD)), some (.lst true (rows.map poolD)), none, none, none, none, none, none, none, none]) (fun R hR => ?_) ?_
  · simp only [Bx.go]
    refine ⟨⟨by decide, by decide, by decide⟩, ⟨by decide, by decide, by decide⟩, i62_of (by decide) (by decide), by rw [rangeD_len]; omega, ?_⟩
    rw [rangeD_nat]
    refine co_map (List.range (Int.toNat 40)) _ (fun k => .int (3 * (k : Nat) - 20)) (fun x hx acc N hN => ?_) ?_
    · have := List.mem_range.mp hx
      simp only [Bx.go]
      exact ⟨.inl ⟨by omega, by omega⟩, hN⟩
    · simp only [backR, Bx.go]
      refine hR _ ⟨[[0], [1, 2, 3], [-5, 5, 0, 5], [10 ^ Int.toNat 17, -10 ^ Int.toNat 17, 7], (List.range (Int.toNat 40)).map fun k : Nat => 3 * (k : Int) - 20], rfl, by decide +kernel, ?_⟩
      simp only [List.map_cons, List.map_nil, poolD, List.map_map]
      rfl
  rintro _ ⟨rows, rl, hr, rfl⟩
  refine seq_cut (fun ρ => ∃ (h : List D) (l : List Int), (l ≠ [] ∧ l.length ≤ 40 ∧ ∀ w ∈ l, -10 ^ 17 ≤ w ∧ w ≤ 10 ^ 17) ∧ hnd (n + 13) h ∧ ρ = [some (.lst true h), some (.int d), some (.int m), some (.lst true (ps.map poolD)), some (.lst true (rows.map poolD)), some (poolD l), none, none, none, none, none, none, none]) (fun R hR => ?_) ?_
  · simp only [Bx.go]
    refine ⟨h, _, 5, rfl, hh, by omega, by decide, by decide, fun r h h0 h1 hh => ?_⟩
    have hr' : r.toNat < rows.length := by omega
    have er := atI_map (f := poolD) (List.getElem?_eq_getElem hr')
    rw [Int.toNat_of_nonneg h0] at er
    simp only [er, Bx.go]
    exact hR _ ⟨h, _, hr _ (List.getElem_mem hr'), hh, rfl⟩
  rintro _ ⟨h, l, ⟨l0, l4, lw⟩, hh, rfl⟩
  refine seq_cut (fun ρ => ∃ (h : List D) (k : Nat), k ≤ m ∧ k ≤ 60 ∧ hnd (n + 14) h ∧ ρ = [some (.lst true h), some (.int d), some (.int m), some (.lst true (ps.map poolD)), some (.lst true (rows.map poolD)), some (poolD l), some (.int k), none, none, none, none, none, none]) (fun R hR => ?_) ?_
  · simp only [Bx.go]
    refine ⟨h, _, 9, rfl, hh, by omega, by decide, by decide, fun r h h0 h1 hh => ?_⟩
    obtain ⟨v, ev, hv⟩ := atI_of (ns := [0, 1, 2, 3, 6, 9, 14, 30, 60]) (fun v => 0 ≤ v ∧ v ≤ 60) (by decide) h0 (by simpa using h1)
    simp only [List.map] at ev
    simp only [ev, Bx.go]
    by_cases hv' : v < (m : Int)
    · simp only [if_pos hv']
      exact hR _ ⟨h, v.toNat, by omega, by omega, hh, by rw [Int.toNat_of_nonneg hv.1]⟩
    · simp only [if_neg hv']
      exact hR _ ⟨h, m, by omega, by omega, hh, rfl⟩
  rintro _ ⟨h, k, km, k60, hh, rfl⟩
  refine seq_cut (fun ρ => ∃ (h : List D) (nm : Int), 0 ≤ nm ∧ nm ≤ 10 ^ 17 ∧ hnd (n + 15) h ∧ ρ = [some (.lst true h), some (.int d), some (.int m), some (.lst true (ps.map poolD)), some (.lst true (rows.map poolD)), some (poolD l), some (.int k), some (.int nm), none, none, none, none, none]) (fun R hR => ?_) ?_
  · simp only [Bx.go]
    refine ⟨⟨by decide, by decide, by decide⟩, h, _, 3, rfl, hh, by omega, by decide, by decide, fun r h h0 h1 hh => ?_⟩
    obtain ⟨v, ev, hv⟩ := atI_of (ns := [0, 3, 10 ^ Int.toNat 17]) (fun v => 0 ≤ v ∧ v ≤ 10 ^ 17) (by decide +kernel) h0 (by simpa using h1)
    simp only [List.map] at ev
    simp only [ev, Bx.go]
    exact hR _ ⟨h, v, hv.1, hv.2, hh, rfl⟩
  rintro _ ⟨h, nm, nm0, nm1, hh, rfl⟩
  simp only [Bx.go]
  refine ⟨i62_of (by omega) (by omega), ?_⟩
  rw [rangeD_nat]
  refine for_each (List.range (Int.toNat k)) _ (fun dn ρ => ∃ (o : Bool) (h : List D) (ts : List Th) (nm : Int) (x9 x10 x11 x12 : Option D), ts.length = dn.length ∧ House d ts ∧ Small ts ∧ 0 ≤ nm ∧ nm ≤ 10 ^ 17 + 3 * dn.length ∧ (∀ s ∈ ts, s.1 < nm) ∧ hnd (n + 15 + 6 * dn.length) h ∧ ρ = [some (.lst true h), some (.int d), some (.int m), some (.lst o (ps.map poolD)), some (.lst true (rows.map poolD)), some (poolD l), some (.int k), some (.int nm), some (.lst true (ts.map thD)), x9, x10, x11, x12])
      ⟨true, h, [], nm, _, _, _, _, rfl, ⟨by simp, fun _ h => absurd h List.not_mem_nil, fun _ h => absurd h List.not_mem_nil, .nil⟩, fun _ h => absurd h List.not_mem_nil, nm0, by simpa using nm1, fun _ h => absurd h List.not_mem_nil, hh, rfl⟩ ?_ ?_
  · rintro dn x r ρ N e ⟨o, h, ts, nm, x9, x10, x11, x12, tl, ht, hs, nm0, nm1, hr, hh, rfl⟩ hN
    have e := congrArg List.length e
    simp at e
    obtain ⟨c, hc⟩ : ∃ c, c = n + 15 + 6 * dn.length := ⟨_, rfl⟩
    rw [← hc] at hh
    simp only [u1_gT, u2_gT, u1_gsCons, u2_gsCons, u1_gsNil, u2_gsNil, u1_kGs, u1_gN, u1_kForB, rset_s, rset_0, rget_s, rget_0, D.seq, D.sql, u_onSome_some, frz_tup, frz_int, frz_bl, frz_lst, frz_str, frz_non, frz_scr, List.length_cons, List.length_nil, List.map_cons, List.map_nil, Option.bind_some, true_and, and_true]
    refine seq_cut (fun ρ => ∃ (h : List D) (p : List Int) (x12 : Option D), p.length = d ∧ hnd (c + 4) h ∧ ρ = [some (.lst true h), some (.int d), some (.int m), some (.lst false (ps.map poolD)), some (.lst true (rows.map poolD)), some (poolD l), some (.int k), some (.int nm), some (.lst true (ts.map thD)), some (.int (x : Nat)), some (.tup (p.map .int)), x11, x12]) (fun R hR => ?_) ?_
    · simp only [Bx.go]
      refine ⟨by omega, ?_⟩
      refine co_each ps poolD (fun dm acc ρ => ∃ (h : List D) (p : List Int), acc = p.map .int ∧ p.length = dm.length ∧ hnd (c + dm.length) h ∧ ρ = [some (.lst true h), some (.int d), some (.int m), some (.lst false (ps.map poolD)), some (.lst true (rows.map poolD)), some (poolD l), some (.int k), some (.int nm), some (.lst true (ts.map thD)), some (.int (x : Nat)), x10, x11, none]) ⟨h, [], rfl, rfl, hh, rfl⟩ ?_ ?_
      · rintro dm y r acc ρ N e2 ⟨h, p, rfl, pl', hh, rfl⟩ hN
        have hy := hp y (by rw [e2]; simp)
        have e2 := congrArg List.length e2
        simp at e2
        have y0 : 0 < y.length := List.length_pos_iff.mpr hy.1
        have fz : (poolD y).frz = poolD y := rfl
        simp only [fz, poolD, Bx.go]
        refine ⟨h, _, y.length, rfl, hh, by omega, by omega, by omega, fun r h h0 h1 hh => ?_⟩
        have hr' : r.toNat < y.length := by omega
        have er := atI_map (f := D.int) (List.getElem?_eq_getElem hr')
        rw [Int.toNat_of_nonneg h0] at er
        simp only [er, Bx.go]
        exact hN _ _ ⟨h, p ++ [_], by rw [List.map_append]; rfl, by simp [pl'], hh.mono (by simp; omega), rfl⟩
      · rintro acc ρ ⟨h, p, rfl, pl', hh, rfl⟩
        simp only [backR, Bx.go]
        exact hR _ ⟨h, p, _, by omega, hh.mono (by omega), rfl⟩
    clear x10 x12
    rintro _ ⟨h, p, x12, pl', hh, rfl⟩
    refine seq_cut (fun ρ => ∃ (h : List D) (wo : Int), -10 ^ 17 ≤ wo ∧ wo ≤ 10 ^ 17 ∧ hnd (c + 5) h ∧ ρ = [some (.lst true h), some (.int d), some (.int m), some (.lst false (ps.map poolD)), some (.lst true (rows.map poolD)), some (poolD l), some (.int k), some (.int nm), some (.lst true ((ts ++ [(nm, p, wo)]).map thD)), some (.int (x : Nat)), some (.tup (p.map .int)), x11, x12]) (fun R hR => ?_) ?_
    · have ll : 0 < l.length := List.length_pos_iff.mpr l0
      simp only [poolD, Bx.go]
      refine ⟨h, _, l.length, rfl, hh, by omega, by omega, by omega, fun r h h0 h1 hh => ?_⟩
      have hr' : r.toNat < l.length := by omega
      have er := atI_map (f := D.int) (List.getElem?_eq_getElem hr')
      rw [Int.toNat_of_nonneg h0] at er
      have hw := lw _ (List.getElem_mem hr')
      simp only [er, Bx.go]
      exact ⟨by omega, hR _ ⟨h, _, hw.1, hw.2, hh, by rw [List.map_append]; rfl⟩⟩
    rintro _ ⟨h, wo, w0, w1, hh, rfl⟩
    simp only [Bx.go]
    refine ⟨h, _, 3, rfl, hh, by omega, by decide, by decide, fun r h h0 h1 hh => ?_⟩
    simp only [Bx.go]
    refine hN _ ⟨false, h, ts ++ [(nm, p, wo)], _, _, _, _, _, by simp [tl], ht.snoc (by omega) pl' nm0 hr, fun s hs' => ?_, by omega, by simp; omega, fun s hs => ?_, hh.mono (by simp; omega), rfl⟩
    · rcases List.mem_append.mp hs' with hs' | hs'
      · exact hs s hs'
      · simp at hs'; subst hs'; exact ⟨by show nm ≤ _; omega, w0, w1⟩
    rcases List.mem_append.mp hs with hs | hs
    · have := hr s hs; omega
    · simp at hs; subst hs; show nm < _; omega
  · rintro ρ ⟨o, h, ts, nm, x9, x10, x11, x12, tl, ht, hs, nm0, nm1, hr, hh, rfl⟩
    simp at tl hh
    dsimp only
    simp only [Bx.go]
    exact q ts ps h (by omega) (by omega) ht hs hp pl (hh.mono (by omega))
def thinB : D → Bool
  | .tup [_, .tup ts] => decide (ts.length ≤ 1000)
  | _ => true
theorem thin_of {d : D} (h : thinB d = true) : thin d := fun a ts e => by
  subst e
  exact of_decide_eq_true h
theorem imp__law_odd : ∀ ds Q, C__law_odd ds Q → B__law_odd ds Q := by
  rintro ds Q ⟨rfl, q⟩
  refine ⟨rfl, ?_⟩
  have sl := sizeLine_eq
  simp only [w__law_odd, Bx.go]
  refine ⟨by decide, by decide, by decide, by decide, by decide, ?_⟩
  exact q _ (by simp) (fun x hx => thin_of (List.all_eq_true.mp (by rfl) x hx)) (fun x hx => List.all_eq_true.mp (by decide +kernel) x hx)
end Zq
namespace Bx
open PySem PySem.Spec PyProof.Rows L2
theorem dLe_int (a b : Int) : dLe (.int a) (.int b) = decide (a ≤ b) := by
  have h := congrFun (congrFun (PySem.W.dataLe_int (fun b : Int => b)) a) b
  rw [← h]
  show PySem.W.dataLe false D.pd (.int a) (.int b) = _
  rw [PySem.W.dataLe_eq, PySem.W.dataLe_eq]
  rfl
theorem sort_ints (l : List Int) : (l.map D.int).mergeSort dLe = (l.mergeSort fun a b => decide (a ≤ b)).map D.int :=
  (List.map_mergeSort (fun a _ b _ => (dLe_int a b).symm)).symm
theorem srtOk_ints (l : List Int) : srtOk (l.map D.int) := by
  refine ⟨fun d hd d' hd' => ?_, .inr fun d hd => ?_, fun d hd => ?_⟩
  · rw [List.map_map] at hd hd'
    obtain ⟨i, _, rfl⟩ := List.mem_map.mp hd
    obtain ⟨j, _, rfl⟩ := List.mem_map.mp hd'
    simp [D.pd, PySem.W.alike]
  · rw [List.map_map] at hd
    obtain ⟨i, _, rfl⟩ := List.mem_map.mp hd
    simp [D.pd]
  · obtain ⟨i, _, rfl⟩ := List.mem_map.mp hd
    simp [D.pd, PyData.depth]
theorem sorted_pw (l : List Int) : (l.mergeSort fun a b => decide (a ≤ b)).Pairwise (· ≤ ·) := by
  have h := List.pairwise_mergeSort (le := fun a b : Int => decide (a ≤ b)) (fun a b c h1 h2 => by simp at *; omega) (fun a b => by simp; omega) l
  exact h.imp fun h => of_decide_eq_true h
end Bx
namespace Zr
open PySem PySem.Spec PyProof.Rows L2 Bx Zb Zp Zm Zh
def hd (a s : Int) : D := .lst true [.int a, .int s]
def smI (x : Int) : Prop := -(10 ^ 18) < x ∧ x < 10 ^ 18
structure HouseS (d : Nat) (ts : List Th) : Prop where
  hs : House d ts
  nm : ∀ t ∈ ts, t.1 ≤ 2000
  sm : ∀ t ∈ ts, (∀ x ∈ t.2.1, smI x) ∧ smI t.2.2
def C__law_cell_at : PSpec := sCell
def C__law_left : PSpec := sLeft
def C__law_pick : PSpec := sPick
def C__law_pool : PSpec := fun ds Q => ∃ a s : Int, ds = [hd a s] ∧ ∀ (l : List Int) (a' s' : Int), l ≠ [] → l.length ≤ 8 → (∀ x ∈ l, smI x) → Q (.lst true (l.map .int)) [hd a' s']
def C__law_number : PSpec := fun ds Q => ∃ (a s : Int) (l : List Int), ds = [hd a s, poolD l] ∧ l ≠ [] ∧ l.length ≤ 8 ∧ ∀ v a' s' : Int, v ∈ l → Q (.int v) [hd a' s']
def rows (x : D) (ts : List Th) : Prop := x = .tup (ts.map thD) ∨ x = .lst false (ts.map thD)
def rot (i d : Nat) (t : Th) : List Int := (List.range d).map fun k => t.2.1.getD ((i + k) % d) 0
def rowD (i d : Nat) (t : Th) : D := .tup [.tup ((rot i d t).map .int), .int t.1, thD t]
def byT (i d : Nat) (ts : List Th) : List Th := ts.mergeSort fun a b => dLe (rowD i d a) (rowD i d b)
theorem by_len (i d : Nat) (ts : List Th) : (byT i d ts).length = ts.length := List.length_mergeSort _
theorem by_mem {i d : Nat} {ts : List Th} {t : Th} : t ∈ byT i d ts ↔ t ∈ ts := List.mem_mergeSort
def nmsT (ts : List Th) : List Int := ts.map fun t => t.1
def C__law_by : PSpec := fun ds Q => ∃ (x : D) (ts : List Th) (i d : Nat), ds = [x, .int i] ∧ rows x ts ∧ ts.length ≤ 300 ∧ (∀ t ∈ ts, t.2.1.length = d) ∧ i < d ∧ d ≤ 4 ∧ Q (.lst true ((byT i d ts).map thD)) []
def C_things_by : PSpec := C__law_by
def C_key_by : PSpec := fun ds Q => ∃ (t : Th) (i d : Nat), ds = [thD t, .int i] ∧ t.2.1.length = d ∧ i < d ∧ d ≤ 4 ∧ Q (.tup ((rot i d t ++ [t.1]).map .int)) []
def C_names_of : PSpec := fun ds Q => ∃ (zs : List Th), ds = [.lst false (zs.map thD)] ∧ zs.length ≤ 300 ∧ Q (plc (nmsT zs)) []
inductive LT where
  | nil
  | mk (nms : List Int) (lo hi inn : LT)
def ltD : LT → D
  | .nil => .non
  | .mk nms lo hi inn => .tup [plc nms, ltD lo, ltD hi, ltD inn]
def asIs : D → Option (List Int)
  | .tup xs => asInts' xs
  | _ => none
where asInts' : List D → Option (List Int)
  | [] => some []
  | .int i :: r => (asInts' r).map (i :: ·)
  | _ :: _ => none
inductive SmD : D → Prop
  | tup {xs : List D} : xs.length ≤ 1000 → (∀ x ∈ xs, SmD x) → SmD (.tup xs)
  | oth {x : D} : (∀ xs, x ≠ .tup xs) → x.frz = x → SmD x
theorem SmD.frz {x : D} (h : SmD x) : x.frz = x := by
  cases h with
  | tup _ _ => rfl
  | oth _ h => exact h
def okT (d : Nat) (ts : List Th) : Prop := ts ≠ [] ∧ ts.length ≤ 200 ∧ ∀ t ∈ ts, t.2.1.length = d
def C_are_names : PSpec := fun ds Q => ∃ (x : D) (l : List Int), ds = [x, plc l] ∧ SmD x ∧ l.length ≤ 300 ∧ Q (.bl (asIs x == some l)) []
def w_key_by : DS :=
  (dSeq (dAsgG (gT (gsCons (gN 2) (gsCons (gN 3) (gsCons (gN 4) gsNil))) 3) (dVar 0))
    (dRet (dBin gAdd (oVal (dBin gAdd (oVal (dSl (oVar 3) (pInt (dVar 1)) pNo)) (oVal (dSl (oVar 3) pNo (pInt (dVar 1)))))) (oVal (dTup (aCons (oVar 2) aNil))))))
abbrev B_key_by : PSpec := bodyW [] 5 2 w_key_by
def w_are_names : DS :=
  (dSeq (dIfS (tOr (tNot (tVal (dIsi "tuple" (oVar 0)))) (tVal (dCB gAny (aCons (oVal (dComp (iOf (dVar 0)) [2] (gN 2) tAll (dOr (dIsi "bool" (oVar 2)) (dNot (dIsi "int" (oVar 2)))))) aNil))))
    (dRet (dC (.bl false)))
    dNext)
    (dRet (dBin gEq (oVar 0) (oVar 1))))
abbrev B_are_names : PSpec := bodyW [] 3 2 w_are_names
def w__law_cell_at : DS :=
  (dSeq (dIfS (tVal (dBin gLt (oVar 1) (oVal (dCB gLen (aCons (oVar 0) aNil)))))
    (dRet (dBin gIx (oVar 0) (oVar 1)))
    dNext)
    (dRet (dC (.int 0))))
abbrev B__law_cell_at : PSpec := bodyW [] 2 2 w__law_cell_at
def w__law_left : DS :=
  (dSeq (dAsg 2 (dCall C__law_cell_at (aCons (oVar 0) (aCons (oVal (dBin gMod (oVar 1) (oVal (dCB gMax (aCons (oVal (dC (.int 1))) (aCons (oVal (dCB gLen (aCons (oVar 0) aNil))) aNil)))))) aNil))))
    (dSeq (dAsg 3 (dBin gMod (oVal (dBin gMul2 (oVal (dBin gAdd (oVal (dBin gAdd (oVal (dBin gMod (oVar 2) (oVal (dC (.int 2147483629))))) (oVal (dBin gMul2 (oVal (dBin gMul2 (oVal (dC (.int 7919))) (oVar 1))) (oVar 1))))) (oVal (dC (.int 11))))) (oVal (dC (.int 48271))))) (oVal (dC (.int 2147483647)))))
    (dRet (dLst (aCons (oVal (dBin gMod (oVal (dBin gMul2 (oVar 2) (oVal (dCB gInt (aCons (oVal (dBin gGe (oVar 2) (oVal (dBin gPow (oVal (dC (.int 10))) (oVal (dC (.int 18))))))) aNil))))) (oVal (dCB gInt (aCons (oVal (dBin gAdd (oVal (dC (.str "1"))) (oVal (dBin gMul2 (oVal (dC (.str "0"))) (oVal (dC (.int 4000))))))) aNil))))) (aCons (oVar 3) aNil))))))
abbrev B__law_left : PSpec := bodyW [] 4 2 w__law_left
def w__law_pick : DS :=
  (dSeq (dIfS (tVal (dBin gGt (oVal (dBin gIx (oVar 0) (oVal (dC (.int 0))))) (oVal (dC (.int 0)))))
    (dSeq (dAsg 2 (dBin gMod (oVal (dBin gIx (oVar 0) (oVal (dC (.int 0))))) (oVar 1)))
    (dSeq (dSub 0 (dBin gDiv (oVal (dBin gIx (oVar 0) (oVal (dC (.int 0))))) (oVar 1)) (oVal (dC (.int 0))))
    (dRetV 2)))
    dNext)
    (dSeq (dSub 0 (dBin gMod (oVal (dBin gAdd (oVal (dBin gMul2 (oVal (dBin gIx (oVar 0) (oVal (dC (.int 1))))) (oVal (dC (.int 48271))))) (oVal (dC (.int 12345))))) (oVal (dC (.int 2147483647)))) (oVal (dC (.int 1))))
    (dRet (dBin gMod (oVal (dBin gMod (oVal (dBin gMul2 (oVal (dBin gIx (oVar 0) (oVal (dC (.int 1))))) (oVal (dBin gIx (oVar 0) (oVal (dC (.int 1))))))) (oVal (dC (.int 1999999973))))) (oVar 1)))))
abbrev B__law_pick : PSpec := bodyW [0] 3 2 w__law_pick
def w__law_pool : DS :=
  (dSeq (dAsg 1 (dBin gIx (oVal (dLst (aCons (oVal (dC (.int 0))) (aCons (oVal (dUn gNeg (oVal (dC (.int 3))))) (aCons (oVal (dBin gPow (oVal (dC (.int 10))) (oVal (dC (.int 16))))) (aCons (oVal (dUn gNeg (oVal (dBin gPow (oVal (dC (.int 10))) (oVal (dC (.int 16))))))) (aCons (oVal (dC (.int 7))) aNil))))))) (oVal (dCallIO 0 0 C__law_pick (aCons (oVar 0) (aCons (oVal (dC (.int 5))) aNil))))))
    (dSeq (dAsg 2 (dBin gIx (oVal (dLst (aCons (oVal (dC (.int 1))) (aCons (oVal (dC (.int 1))) (aCons (oVal (dC (.int 2))) (aCons (oVal (dC (.int 3))) (aCons (oVal (dC (.int 1000))) (aCons (oVal (dBin gPow (oVal (dC (.int 10))) (oVal (dC (.int 15))))) aNil)))))))) (oVal (dCallIO 0 0 C__law_pick (aCons (oVar 0) (aCons (oVal (dC (.int 6))) aNil))))))
    (dRet (dComp (iR gR1 (aCons (oVal (dBin gIx (oVal (dLst (aCons (oVal (dC (.int 1))) (aCons (oVal (dC (.int 2))) (aCons (oVal (dC (.int 3))) (aCons (oVal (dC (.int 5))) (aCons (oVal (dC (.int 8))) (aCons (oVal (dC (.int 8))) aNil)))))))) (oVal (dCallIO 0 0 C__law_pick (aCons (oVar 0) (aCons (oVal (dC (.int 6))) aNil)))))) aNil)) [3] (gN 3) tAll (dBin gAdd (oVar 1) (oVal (dBin gMul2 (oVar 2) (oVar 3))))))))
abbrev B__law_pool : PSpec := bodyW [0] 4 1 w__law_pool
def w__law_number : DS :=
  (dRet (dBin gIx (oVar 1) (oVal (dCallIO 0 0 C__law_pick (aCons (oVar 0) (aCons (oVal (dCB gLen (aCons (oVar 1) aNil))) aNil))))))
abbrev B__law_number : PSpec := bodyW [0] 2 2 w__law_number
def w__law_by : DS :=
  (dSeq (dAsg 2 (dLst aNil))
    (dSeq (dFor (iOf (dVar 0)) (gN 3)
    (dSeq (dAsg 4 (dBin gIx (oVar 3) (oVal (dC (.int 1)))))
    (dExp (dApp 2 (dTup (aCons (oVal (dCB gTuple (aCons (oVal (dComp (iR gR1 (aCons (oVal (dCB gLen (aCons (oVar 4) aNil))) aNil)) [5] (gN 5) tAll (dBin gIx (oVar 4) (oVal (dBin gMod (oVal (dBin gAdd (oVar 1) (oVar 5))) (oVal (dCB gLen (aCons (oVar 4) aNil)))))))) aNil))) (aCons (oVal (dBin gIx (oVar 3) (oVal (dC (.int 0))))) (aCons (oVar 3) aNil))))))))
    (dRet (dComp (iOf (dCB gSorted (aCons (oVar 2) aNil))) [6] (gN 6) tAll (dBin gIx (oVar 6) (oVal (dC (.int 2))))))))
abbrev B__law_by : PSpec := bodyW [] 7 2 w__law_by
theorem imp__law_cell_at : ∀ ds Q, C__law_cell_at ds Q → B__law_cell_at ds Q := imp_cell
theorem imp__law_left : ∀ ds Q, C__law_left ds Q → B__law_left ds Q := imp_left
theorem imp__law_pick : ∀ ds Q, C__law_pick ds Q → B__law_pick ds Q := imp_pick
theorem imp__law_pool : ∀ ds Q, C__law_pool ds Q → B__law_pool ds Q := by
  rintro ds Q ⟨a, s, rfl, q⟩
  refine ⟨rfl, ?_⟩
  have sl := sizeLine_eq
  refine seq_cut (fun ρ => ∃ (a s x : Int), -(10 ^ 16) ≤ x ∧ x ≤ 10 ^ 16 ∧ ρ = [some (hd a s), some (.int x), none, none]) (fun R hR => ?_) ?_
  · simp only [hd, Bx.go]
    refine ⟨⟨by decide, by decide, by decide⟩, ⟨by decide, by decide, by decide⟩, a, s, 5, rfl, by decide, by decide, fun r a s h0 h1 => ?_⟩
    obtain ⟨v, ev, hv⟩ := atI_of (ns := [0, -3, 10 ^ Int.toNat 16, -10 ^ Int.toNat 16, 7]) (fun v => -(10 ^ 16) ≤ v ∧ v ≤ 10 ^ 16) (by decide +kernel) h0 (by simpa using h1)
    simp only [List.map] at ev
    simp only [ev, Bx.go]
    exact hR _ ⟨a, s, v, hv.1, hv.2, rfl⟩
  rintro _ ⟨a, s, x, x0, x1, rfl⟩
  refine seq_cut (fun ρ => ∃ (a s y : Int), 0 ≤ y ∧ y ≤ 10 ^ 15 ∧ ρ = [some (hd a s), some (.int x), some (.int y), none]) (fun R hR => ?_) ?_
  · simp only [hd, Bx.go]
    refine ⟨⟨by decide, by decide, by decide⟩, a, s, 6, rfl, by decide, by decide, fun r a s h0 h1 => ?_⟩
    obtain ⟨v, ev, hv⟩ := atI_of (ns := [1, 1, 2, 3, 1000, 10 ^ Int.toNat 15]) (fun v => 0 ≤ v ∧ v ≤ 10 ^ 15) (by decide +kernel) h0 (by simpa using h1)
    simp only [List.map] at ev
    simp only [ev, Bx.go]
    exact hR _ ⟨a, s, v, hv.1, hv.2, rfl⟩
  rintro _ ⟨a, s, y, y0, y1, rfl⟩
  simp only [hd, Bx.go]
  refine ⟨a, s, 6, rfl, by decide, by decide, fun r a s h0 h1 => ?_⟩
  obtain ⟨m, em, hm⟩ := atI_of (ns := [1, 2, 3, 5, 8, 8]) (fun v => 1 ≤ v ∧ v ≤ 8) (by decide) h0 (by simpa using h1)
  simp only [List.map] at em
  simp only [em, Bx.go]
  refine ⟨i62_of (by omega) (by omega), by rw [rangeD_len]; omega, ?_⟩
  rw [rangeD_nat]
  refine co_map (List.range m.toNat) _ (fun k : Nat => .int (x + y * k)) (fun k hk acc N hN => ?_) ?_
  · have := List.mem_range.mp hk
    simp only [Bx.go]
    exact ⟨.inr (.inl ⟨by omega, by omega⟩), hN⟩
  · simp only [backR, Bx.go]
    have := q ((List.range m.toNat).map fun k : Nat => x + y * (k : Int)) a s (by
      intro e
      have := congrArg List.length e
      simp at this
      omega) (by simp; omega) (fun z hz => by
      obtain ⟨k, hk, rfl⟩ := List.mem_map.mp hz
      have hk := List.mem_range.mp hk
      have h1 : y * (k : Int) ≤ 10 ^ 15 * 8 := Int.le_trans (Int.mul_le_mul_of_nonneg_right y1 (by omega)) (Int.mul_le_mul_of_nonneg_left (by omega) (by decide))
      have h2 : 0 ≤ y * (k : Int) := Int.mul_nonneg y0 (by omega)
      constructor <;> omega)
    rw [List.map_map] at this
    exact this
theorem imp__law_number : ∀ ds Q, C__law_number ds Q → B__law_number ds Q := by
  rintro ds Q ⟨a, s, l, rfl, l0, l8, q⟩
  refine ⟨rfl, ?_⟩
  have y0 : 0 < l.length := List.length_pos_iff.mpr l0
  simp only [w__law_number, hd, poolD, Bx.go]
  refine ⟨a, s, l.length, rfl, by omega, by omega, fun r a s h0 h1 => ?_⟩
  obtain ⟨v, ev, hv⟩ := atI_of (ns := l) (fun v => v ∈ l) (fun _ h => h) h0 h1
  simp only [ev, Bx.go]
  exact q v a s hv
theorem HouseS.snoc {d : Nat} {ts : List Th} {t : Th} (h : HouseS d ts) (l : ts.length < 300) (n : t.2.1.length = d) (z : 0 ≤ t.1) (r : ∀ s ∈ ts, s.1 < t.1) (b : t.1 ≤ 2000) (m : (∀ x ∈ t.2.1, smI x) ∧ smI t.2.2) : HouseS d (ts ++ [t]) :=
  ⟨h.hs.snoc l n z r, fun s hs => by
    rcases List.mem_append.mp hs with hs | hs
    · exact h.nm s hs
    · simp at hs; subst hs; exact b, fun s hs => by
    rcases List.mem_append.mp hs with hs | hs
    · exact h.sm s hs
    · simp at hs; subst hs; exact m⟩
theorem row_pd (i d : Nat) (t : Th) : (rowD i d t).pd = .tuple [.tuple ((rot i d t).map .int), .int t.1, .tuple [.int t.1, .tuple (t.2.1.map .int), .int t.2.2]] := by
  simp only [rowD, thD, D.pd, D.pds, pds_ints]
theorem row_alike (i d : Nat) (t u : Th) : PySem.W.alike (rowD i d t).pd (rowD i d u).pd = true := by
  simp only [row_pd, PySem.W.alike, PySem.W.alikeAll, PySem.W.alike_ints, Bool.and_true]
theorem okE_row (i d : Nat) (t : Th) : okE 3 (rowD i d t) := by
  intro x hx
  simp only [List.mem_cons, List.not_mem_nil, or_false] at hx
  rcases hx with rfl | rfl | rfl
  · intro y hy
    obtain ⟨j, _, rfl⟩ := List.mem_map.mp hy; trivial
  · trivial
  · exact okE_th t
theorem row_srt (i d : Nat) (ts : List Th) : srtOk (ts.map (rowD i d)) := by
  refine ⟨fun x hx y hy => ?_, .inl fun x hx => ?_, fun x hx => ?_⟩
  · rw [List.map_map] at hx hy
    obtain ⟨t, _, rfl⟩ := List.mem_map.mp hx
    obtain ⟨u, _, rfl⟩ := List.mem_map.mp hy
    exact row_alike i d t u
  · rw [List.map_map] at hx
    obtain ⟨t, _, rfl⟩ := List.mem_map.mp hx
    exact ⟨_, _, row_pd i d t⟩
  · obtain ⟨t, _, rfl⟩ := List.mem_map.mp hx
    have := (okE_row i d t).dep
    omega
theorem sort_row (i d : Nat) (ts : List Th) : (ts.map (rowD i d)).mergeSort dLe = (byT i d ts).map (rowD i d) :=
  (List.map_mergeSort (r := fun a b => dLe (rowD i d a) (rowD i d b)) (s := dLe) (f := rowD i d) (fun a _ b _ => rfl)).symm
theorem imp__law_by : ∀ ds Q, C__law_by ds Q → B__law_by ds Q := by
  rintro ds Q ⟨x, ts, i, d, rfl, hx, tl, ht, hi, d4, q⟩
  refine ⟨rfl, ?_⟩
  have sl := sizeLine_eq
  rcases hx with rfl | rfl
  all_goals
    simp only [w__law_by, Bx.go]
    refine for_each ts thD (fun dn ρ => ∃ (xx : D) (x3 x4 x5 x6 : Option D), ρ = [some xx, some (.int i), some (.lst true (dn.map (rowD i d))), x3, x4, x5, x6]) ⟨_, _, _, _, _, rfl⟩ ?_ ?_
    · rintro dn t r ρ N e ⟨xx, x3, x4, x5, x6, rfl⟩ hN
      have mt : t ∈ ts := by rw [e]; simp
      have lt := ht t mt
      have e := congrArg List.length e
      simp at e
      simp only [thD, q0, q1, Bx.go]
      rw [lt]
      refine ⟨i62_of (by omega) (by omega), by rw [rangeD_len]; omega, ?_⟩
      rw [rangeD_nat]
      refine co_map (List.range (Int.toNat d)) _ (fun k : Nat => .int (t.2.1.getD ((i + k) % d) 0)) (fun k hk acc N hN => ?_) ?_
      · have hk := List.mem_range.mp hk
        have hm : (i + k) % d < t.2.1.length := by rw [lt]; exact Nat.mod_lt _ (by omega)
        have em := atI_int (row := t.2.1) (i := (i + k) % d) hm
        push_cast at em
        simp only [Bx.go]
        refine ⟨by omega, ?_⟩
        rw [lt]
        simp only [em, Bx.go]
        exact hN
      · simp only [thD, q0, backR, Bx.go]
        have er : rowD i d t = .tup [.tup ((List.range (Int.toNat d)).map fun k : Nat => .int (t.2.1.getD ((i + k) % d) 0)), .int t.1, .tup [.int t.1, .tup (t.2.1.map .int), .int t.2.2]] := by
          simp only [rowD, rot, thD, List.map_map, Int.toNat_natCast]
          rfl
        exact ⟨by omega, hN _ ⟨_, _, _, _, _, by rw [List.map_append, List.map_cons, List.map_nil, er]⟩⟩
    · rintro ρ ⟨xx, x3, x4, x5, x6, rfl⟩
      simp only [Bx.go]
      refine ⟨row_srt i d ts, ?_⟩
      rw [sort_row]
      refine ⟨by simp [by_len]; omega, co_map (byT i d ts) (rowD i d) thD (fun t hm acc N hN => ?_) ?_⟩
      · simp only [rowD, q2, Bx.go]
        exact hN
      · simp only [backR, Bx.go]
        exact q
def toksI (p : List Int) : List (Int ⊕ List Nat) := p.flatMap fun x => [.inl 1, .inl x]
theorem toks_ints : ∀ (p : List Int) (r : List PyData), PySem.W.keyToksAll (p.map PyData.int ++ r) = toksI p ++ PySem.W.keyToksAll r
  | [], _ => rfl
  | a :: p, r => by
    show PySem.W.keyToksAll (PyData.int a :: (p.map PyData.int ++ r)) = .inl 1 :: .inl a :: (toksI p ++ PySem.W.keyToksAll r)
    rw [← toks_ints p r]
    simp only [PySem.W.keyToksAll, PySem.W.keyToks, List.cons_append, List.nil_append]
theorem lex_pre : ∀ (p q : List Int) (x1 y1 x2 y2 : List (Int ⊕ List Nat)), p.length = q.length → lexLt itemOrd x1 y1 = lexLt itemOrd x2 y2 → lexLt itemOrd (toksI p ++ x1) (toksI q ++ y1) = lexLt itemOrd (toksI p ++ x2) (toksI q ++ y2)
  | [], [], _, _, _, _, _, h => h
  | [], _ :: _, _, _, _, _, h, _ => by simp at h
  | _ :: _, [], _, _, _, _, h, _ => by simp at h
  | a :: p, b :: q, x1, y1, x2, y2, l, h => by
    show lexLt itemOrd (.inl 1 :: .inl a :: (toksI p ++ x1)) (.inl 1 :: .inl b :: (toksI q ++ y1)) = lexLt itemOrd (.inl 1 :: .inl a :: (toksI p ++ x2)) (.inl 1 :: .inl b :: (toksI q ++ y2))
    rw [lex_self, lex_self, lex_cons, lex_cons, lex_pre p q x1 y1 x2 y2 (by simpa using l) h]
def keyD (i d : Nat) (t : Th) : D := .tup [.tup ((rot i d t ++ [t.1]).map .int), thD t]
theorem rot_len (i d : Nat) (t : Th) : (rot i d t).length = d := by simp [rot]
theorem rot_eq {i d : Nat} {t : Th} (h : t.2.1.length = d) (hi : i < d) : rot i d t = t.2.1.drop i ++ t.2.1.take i := by
  apply List.ext_getElem
  · simp [rot]; omega
  · intro k h1 h2
    rw [rot_len] at h1
    simp only [rot, List.getElem_map, List.getElem_range]
    rw [List.getElem_append]
    by_cases hk : k < (t.2.1.drop i).length
    · rw [dif_pos hk, List.getElem_drop]
      rw [List.length_drop] at hk
      rw [Nat.mod_eq_of_lt (by omega), List.getD_eq_getElem?_getD, List.getElem?_eq_getElem (by omega), Option.getD_some]
    · rw [dif_neg hk, List.getElem_take]
      rw [List.length_drop] at hk
      have e : (i + k) % d = k - (t.2.1.drop i).length := by
        rw [List.length_drop, Nat.mod_eq_sub_mod (by omega), Nat.mod_eq_of_lt (by omega)]
        omega
      simp only [e]
      rw [List.getD_eq_getElem?_getD, List.getElem?_eq_getElem (by rw [List.length_drop]; omega), Option.getD_some]
theorem imp_key_by : ∀ ds Q, C_key_by ds Q → B_key_by ds Q := by
  rintro ds Q ⟨t, i, d, rfl, lt, hi, d4, q⟩
  refine ⟨rfl, ?_⟩
  have sl := sizeLine_eq
  rw [rot_eq lt hi, List.map_append, List.map_append, List.map_drop, List.map_take] at q
  simp only [w_key_by, thD, Bx.go]
  rw [Zh.cut_drop, Zh.cut_take]
  exact ⟨by simp; omega, by simp; omega, q⟩
theorem asInts_map (l : List Int) : asIs.asInts' (l.map .int) = some l := by
  induction l with
  | nil => rfl
  | cons a l ih => simp [asIs.asInts', ih]
theorem asInts_some : ∀ {xs : List D} {l : List Int}, asIs.asInts' xs = some l → xs = l.map .int
  | [], l, h => by simp [asIs.asInts'] at h; subst h; rfl
  | .int i :: r, l, h => by
    simp only [asIs.asInts', Option.map_eq_some_iff] at h
    obtain ⟨a, h1, rfl⟩ := h
    rw [asInts_some h1]; rfl
  | .non :: _, _, h => by simp [asIs.asInts'] at h
  | .bl _ :: _, _, h => by simp [asIs.asInts'] at h
  | .str _ :: _, _, h => by simp [asIs.asInts'] at h
  | .tup _ :: _, _, h => by simp [asIs.asInts'] at h
  | .lst _ _ :: _, _, h => by simp [asIs.asInts'] at h
  | .scr _ :: _, _, h => by simp [asIs.asInts'] at h
  | .dic _ _ :: _, _, h => by simp [asIs.asInts'] at h
  | .odc _ _ :: _, _, h => by simp [asIs.asInts'] at h
  | .obj _ _ _ :: _, _, h => by simp [asIs.asInts'] at h
  | .ob2 _ _ :: _, _, h => by simp [asIs.asInts'] at h
  | .exc _ _ :: _, _, h => by simp [asIs.asInts'] at h
  | .box _ _ :: _, _, h => by simp [asIs.asInts'] at h
def isI : D → Bool
  | .int _ => true
  | _ => false
theorem asInts_all : ∀ {xs : List D}, (∀ x ∈ xs, isI x = true) → ∃ l : List Int, xs = l.map .int
  | [], _ => ⟨[], rfl⟩
  | x :: xs, h => by
    obtain ⟨l, e⟩ := asInts_all fun y hy => h y (List.mem_cons_of_mem _ hy)
    have := h x List.mem_cons_self
    cases x <;> simp [isI] at this
    exact ⟨_ :: l, by rw [e]; rfl⟩
theorem asInts_none : ∀ {xs : List D}, (∃ x ∈ xs, isI x = false) → asIs.asInts' xs = none
  | [], h => by simp at h
  | x :: xs, ⟨y, hy, hf⟩ => by
    cases e : asIs.asInts' (x :: xs) with
    | none => rfl
    | some l =>
      have := asInts_some e
      rw [this] at hy
      obtain ⟨i, _, rfl⟩ := List.mem_map.mp hy
      simp [isI] at hf
theorem imp_are_names : ∀ ds Q, C_are_names ds Q → B_are_names ds Q := by
  rintro ds Q ⟨x, l, rfl, hx, ll, q⟩
  refine ⟨rfl, ?_⟩
  have sl := sizeLine_eq
  cases hx with
  | oth hne hf =>
    have e : asIs x = none := by
      cases x <;> first | rfl | exact absurd rfl (hne _)
    rw [e] at q
    cases x <;> first | exact absurd rfl (hne _) | (simp only [w_are_names, Bx.go]; exact q)
  | @tup xs h1 h2 =>
    simp only [w_are_names, Bx.go]
    refine ⟨by omega, ?_⟩
    rw [show coGo [2] (gN 2) tAll (dOr (dIsi "bool" (oVar 2)) (dNot (dIsi "int" (oVar 2)))) = coGo [2] (gN 2) tAll (dOr (dIsi "bool" (oVar 2)) (dNot (dIsi "int" (oVar 2)))) from rfl, ← List.map_id xs]
    refine co_map xs id (fun x => .bl (!isI x)) (fun x hx acc N hN => ?_) ?_
    · have hf := (h2 x hx).frz
      cases x <;> (try simp only [D.frz] at hf) <;> (try injection hf with hf) <;> (try subst hf) <;> (simp only [id, Bx.go]; exact hN)
    · simp only [backR, Bx.go]
      rw [asBls_f (fun x => !isI x) xs]
      simp only [Bx.go]
      refine pick_by (fun h => ?_) (fun h => ?_)
      · have e : asIs (.tup xs) = none := asInts_none (by
          obtain ⟨b, hb, hb2⟩ := List.any_eq_true.mp h
          obtain ⟨x, hx, rfl⟩ := List.mem_map.mp hb
          exact ⟨x, hx, by simpa using hb2⟩)
        rw [e] at q
        simp only [Bx.go]
        exact q
      · obtain ⟨m, rfl⟩ := asInts_all (xs := xs) fun x hx => by
          have := List.any_eq_false.mp h _ (List.mem_map_of_mem (f := fun x => !isI x) hx)
          simpa using this
        have e : asIs (.tup (m.map .int)) = some m := asInts_map m
        rw [e] at q
        simp only [List.map_id, plc, Bx.go]
        refine ⟨eqOk_ints m l, ?_⟩
        rw [eqv_ints]
        exact q
theorem ltD_frz (T : LT) : (ltD T).frz = ltD T := by cases T <;> rfl
theorem okT.sub {d : Nat} {ts zs : List Th} (h : okT d ts) (h0 : 0 < zs.length) (hl : zs.length ≤ 200) (hm : ∀ t ∈ zs, t ∈ ts) : okT d zs := ⟨List.length_pos_iff.mp h0, hl, fun t m => h.2.2 t (hm t m)⟩
theorem okT.pos {d : Nat} {ts : List Th} (h : okT d ts) : 0 < ts.length := List.length_pos_iff.mpr h.1
theorem okT.by {i d : Nat} {ts : List Th} (h : okT d ts) : okT d (byT i d ts) := h.sub (by rw [by_len]; exact h.pos) (by rw [by_len]; exact h.2.1) fun t m => by_mem.mp m
theorem okT.take {d k : Nat} {ts : List Th} (h : okT d ts) (h0 : 0 < k) : okT d (ts.take k) := h.sub (by rw [List.length_take]; have := h.pos; omega) (by rw [List.length_take]; have := h.2.1; omega) fun t m => List.mem_of_mem_take m
theorem okT.drop {d k : Nat} {ts : List Th} (h : okT d ts) (h0 : k < ts.length) : okT d (ts.drop k) := h.sub (by rw [List.length_drop]; omega) (by rw [List.length_drop]; have := h.2.1; omega) fun t m => List.mem_of_mem_drop m
theorem len4 {α : Type} {xs : List α} (h : xs.length = 4) : ∃ a b c e, xs = [a, b, c, e] := by
  match xs, h with
  | [a, b, c, e], _ => exact ⟨a, b, c, e, rfl⟩
theorem e4 : (D.int ((0 + 1 + 1 + 1 + 1 : Nat) : Int)).eqv (.int 4) = true := by rw [eqv_int]; rfl
theorem eN {n : Nat} (h : n ≠ 4) : (D.int (n : Int)).eqv (.int 4) = false := by rw [eqv_int]; simp; omega
def LT.nm : LT → List Int
  | .nil => []
  | .mk nms _ _ _ => nms
end Zr
namespace Zs
open PySem PySem.Spec PyProof.Rows L2 Bx Zb Zp Zm Zh Zf Zq Zr
def boxD (b : Bx1) : D := .tup (b.map sD)
inductive Wd where
  | count | sum | least | most | all | first | best | near
  deriving DecidableEq
def ws : Wd → Str
  | .count => "count" | .sum => "sum" | .least => "least" | .most => "most" | .all => "all" | .first => "first" | .best => "best" | .near => "near"
inductive Ask where
  | a0 (w : Wd) (b : Bx1) (h : w = .count ∨ w = .sum ∨ w = .least ∨ w = .most ∨ w = .all)
  | a1 (w : Wd) (b : Bx1) (k : Nat) (h : w = .first ∨ w = .best)
  | a2 (b : Bx1) (p : List Int) (k : Nat)
def Ask.box : Ask → Bx1
  | .a0 _ b _ => b
  | .a1 _ b _ _ => b
  | .a2 b _ _ => b
def askD : Ask → D
  | .a0 w b _ => .tup [.str (ws w), boxD b]
  | .a1 w b k _ => .tup [.str (ws w), boxD b, .int k]
  | .a2 b p k => .tup [.str (ws .near), boxD b, plc p, .int k]
def kyP (t : Th) : D := .tup [plc t.2.1, .int t.1]
def kyW (t : Th) : D := .tup [.int t.2.2, .int t.1]
def kyD (t : Th) : D := .tup [.int (-t.2.2), .int t.1]
def kyN (p : List Int) (t : Th) : D := .tup [.int (stepsL t.2.1 p), .int t.1, thD t]
def srt (ky : Th → D) (ts : List Th) : List Th := ts.mergeSort fun a b => dLe (ky a) (ky b)
def nmF : List Th → D
  | [] => .non
  | t :: _ => .int t.1
def ansT (ts : List Th) : Ask → D
  | .a0 .count _ _ => .int ts.length
  | .a0 .sum _ _ => .int (ts.map fun t => t.2.2).sum
  | .a0 .least _ _ => nmF (srt kyW ts)
  | .a0 .most _ _ => nmF (srt kyD ts)
  | .a0 .all _ _ => plc (nmsT (srt kyP ts))
  | .a1 .first _ k _ => plc (nmsT ((srt kyP ts).take k))
  | .a1 .best _ k _ => plc (nmsT ((srt kyD ts).take k))
  | .a2 _ p k => plc (nmsT ((srt (kyN p) ts).take k))
  | _ => .non
abbrev C_names_of : PSpec := Zr.C_names_of
abbrev C_steps : PSpec := Zf.C_steps
abbrev C_things_in : PSpec := Zf.C_things_in
def C_answer : PSpec := fun ds Q => ∃ (d : Nat) (ts : List Th) (a : Ask), ds = [houseD d ts, askD a] ∧ ts.length ≤ 300 ∧ (∀ t ∈ ts, t.2.1.length ≤ 1000) ∧ a.box.length ≤ 1000 ∧ Q (ansT (fitT a.box ts) a) []
def kfD : D → D
  | .tup [n, _, .int w] => .tup [.int (-w), n]
  | d => d
theorem kyD_pd (t : Th) : (kyD t).pd = .tuple [.int (-t.2.2), .int t.1] := by simp only [kyD, D.pd, D.pds]
theorem kyN_pd (p : List Int) (t : Th) : (kyN p t).pd = .tuple [.int (stepsL t.2.1 p), .int t.1, .tuple [.int t.1, .tuple (t.2.1.map .int), .int t.2.2]] := by simp only [kyN, thD, D.pd, D.pds, pds_ints]
section
variable (a : Wd)
end
theorem plc_frz (l : List Int) : (plc l).frz = plc l := rfl
end Zs
namespace Zl
open PySem PySem.Spec PyProof.Rows L2 Bx Zb Zp Zm Zh Zf Zq Zr Zs
abbrev C__law_pick : PSpec := Zr.C__law_pick
abbrev C_plain_box : PSpec := Zb.C_plain_box
abbrev C__law_number : PSpec := Zr.C__law_number
abbrev C__law_plain : PSpec := Zf.C__law_plain
def C__law_end : PSpec := fun ds Q => ∃ (a s : Int) (l : List Int), ds = [hd a s, poolD l] ∧ l ≠ [] ∧ l.length ≤ 8 ∧ ∀ (e : Eg) (a' s' : Int), Q (eD e) [hd a' s']
def C__law_box : PSpec := fun ds Q => ∃ (a s : Int) (d : Nat) (l : List Int), ds = [hd a s, .int d, poolD l] ∧ l ≠ [] ∧ l.length ≤ 8 ∧ d ≤ 4 ∧ ∀ (b : Bx1) (a' s' : Int), b.length = d → Q (.tup (b.map sD)) [hd a' s']
def _root_.Zr.LT.dep : LT → Nat
  | .nil => 0
  | .mk _ a b c => 1 + max a.dep (max b.dep c.dep)
def Lay (pl : Int → List Int) (kn : Int → Prop) (d : Nat) : LT → Nat → Prop
  | .nil, _ => False
  | .mk nms lo hi inn, i => i < d ∧ nms ≠ [] ∧ (∀ n ∈ nms, kn n) ∧ nms.Pairwise (fun a b => (pl a).getD i 0 ≤ (pl b).getD i 0) ∧
    (1 < nms.length → Lay pl kn d lo i ∧ Lay pl kn d hi i ∧ lo.nm.length + hi.nm.length = nms.length) ∧ (if i + 1 < d then Lay pl kn d inn (i + 1) ∧ inn.nm.length = nms.length else inn = .nil)
def ltO : Option Int → Int → Bool
  | none, _ => false
  | some a, n => decide (n < a)
def gtO : Option Int → Int → Bool
  | none, _ => false
  | some a, n => decide (a < n)
def askT (pl : Int → List Int) (ps : List Pr) : LT → Nat → List (List Int) × Int
  | .nil, _ => ([], 0)
  | .mk nms lo hi inn, i =>
    let f := (pl (nms.headD 0)).getD i 0
    let l := (pl (nms.getLastD 0)).getD i 0
    let p := ps.getD i (none, none)
    if ltO p.1 l || gtO p.2 f then ([], 1)
    else if !ltO p.1 f && !gtO p.2 l then
      (match inn with | .nil => ([nms], 1) | .mk .. => ((askT pl ps inn (i + 1)).1, 1 + (askT pl ps inn (i + 1)).2))
    else ((askT pl ps lo i).1 ++ (askT pl ps hi i).1, 1 + (askT pl ps lo i).2 + (askT pl ps hi i).2)
def knows (ks : List Key) (vs : List D) (d : Nat) (pl : Int → List Int) (n : Int) : Prop := dget ks vs (.inl n) = some (plc (pl n)) ∧ (pl n).length = d
def C_walk_layer (n : Nat) : PSpec := fun ds Q => ∃ (ks : List Key) (vs : List D) (d i : Nat) (pl : Int → List Int) (ps : List Pr) (T : LT) (tk : List (List Int)), ds = [.dic ks vs, ltD T, .tup (ps.map pD), .int i, .lst true (tk.map plc)] ∧
  Lay pl (knows ks vs d pl) d T i ∧ ps.length = d ∧ d ≤ 4 ∧ T.dep ≤ n ∧ T.nm.length ≤ 300 ∧ tk.length + T.nm.length ≤ 1000 ∧ Q (.int (askT pl ps T i).2) [.lst true ((tk ++ (askT pl ps T i).1).map plc)]
def C__law_asked : Nat → PSpec := C_walk_layer
abbrev lv__law_asked : Nat := 208
def tkD (pl : Int → List Int) (ps : List Pr) (T : LT) : D := match T with
  | .nil => .tup [.tup [], .int 0]
  | .mk .. => .tup [.tup ((askT pl ps T 0).1.map plc), .int (askT pl ps T 0).2]
def plOf (ts : List Th) (n : Int) : List Int := ((ts.find? fun t => t.1 == n).map fun t => t.2.1).getD []
def inH (ts : List Th) (n : Int) : Prop := n ∈ ts.map fun t => t.1
def C_taken_by_layers : PSpec := fun ds Q => ∃ (d : Nat) (ts : List Th) (T : LT) (b : Bx1), ds = [houseD d ts, ltD T, .tup (b.map sD)] ∧ House d ts ∧ ts.length ≤ 300 ∧ 1 ≤ d ∧ d ≤ 4 ∧ b.length = d ∧ (T = .nil ∨ Lay (plOf ts) (inH ts) d T 0) ∧ T.dep ≤ 208 ∧ T.nm.length ≤ 300 ∧
  Q (tkD (plOf ts) (plainOf (b.map pl)) T) []
def C__law_taken : PSpec := C_taken_by_layers
def w__law_end : DS :=
  (dSeq (dIfS (tVal (dBin gEq (oVal (dCallIO 0 0 C__law_pick (aCons (oVar 0) (aCons (oVal (dC (.int 3))) aNil)))) (oVal (dC (.int 0)))))
    (dRet (dC .non))
    dNext)
    (dRet (dTup (aCons (oVal (dBin gAdd (oVal (dCallIO 0 0 C__law_number (aCons (oVar 0) (aCons (oVar 1) aNil)))) (oVal (dBin gIx (oVal (dLst (aCons (oVal (dC (.int 0))) (aCons (oVal (dC (.int 0))) (aCons (oVal (dC (.int 0))) (aCons (oVal (dC (.int 1))) (aCons (oVal (dUn gNeg (oVal (dC (.int 1))))) aNil))))))) (oVal (dCallIO 0 0 C__law_pick (aCons (oVar 0) (aCons (oVal (dC (.int 5))) aNil)))))))) (aCons (oVal (dBin gEq (oVal (dCallIO 0 0 C__law_pick (aCons (oVar 0) (aCons (oVal (dC (.int 2))) aNil)))) (oVal (dC (.int 0))))) aNil)))))
abbrev B__law_end : PSpec := bodyW [0] 2 2 w__law_end
def w__law_box : DS :=
  (dSeq (dAsg 3 (dLst aNil))
    (dSeq (dAsg 4 (dCallIO 0 0 C__law_pick (aCons (oVar 0) (aCons (oVal (dC (.int 2))) aNil))))
    (dSeq (dFor (iR gR1 (aCons (oVar 1) aNil)) (gN 5)
    (dSeq (dPar2 6 7 (dCallIO 0 0 C__law_end (aCons (oVar 0) (aCons (oVar 2) aNil))) (dCallIO 0 0 C__law_end (aCons (oVar 0) (aCons (oVar 2) aNil))))
    (dSeq (dIfS (tAnd (tVal (dBin gEq (oVar 4) (oVal (dC (.int 0))))) (tAnd (tVal (dBin gNotN (oVar 6) (oVal (dC .non)))) (tAnd (tVal (dBin gNotN (oVar 7) (oVal (dC .non)))) (tVal (dBin gGt (oVal (dBin gIx (oVar 6) (oVal (dC (.int 0))))) (oVal (dBin gIx (oVar 7) (oVal (dC (.int 0))))))))))
    (dPar2 6 7 (dVar 7) (dVar 6))
    dNext)
    (dExp (dApp 3 (dTup (aCons (oVar 6) (aCons (oVar 7) aNil))))))))
    (dRet (dCB gTuple (aCons (oVar 3) aNil))))))
abbrev B__law_box : PSpec := bodyW [0] 8 3 w__law_box
def w__law_taken : DS :=
  (dSeq (dIfS (tVal (dBin gIsN (oVar 1) (oVal (dC .non))))
    (dRet (dTup (aCons (oVal (dTup aNil)) (aCons (oVal (dC (.int 0))) aNil))))
    dNext)
    (dSeq (dAsg 3 (dLst aNil))
    (dSeq (dAsg 4 (dCallIO 4 3 (C__law_asked lv__law_asked) (aCons (oVal (dCB gDict (aCons (oVal (dComp (iOf (dBin gIx (oVar 0) (oVal (dC (.int 1))))) [5, 6, 7] (gT (gsCons (gN 5) (gsCons (gN 6) (gsCons (gN 7) gsNil))) 3) tAll (dTup (aCons (oVar 5) (aCons (oVar 6) aNil))))) aNil))) (aCons (oVar 1) (aCons (oVal (dCall C__law_plain (aCons (oVar 2) aNil))) (aCons (oVal (dC (.int 0))) (aCons (oVar 3) aNil)))))))
    (dRet (dTup (aCons (oVal (dCB gTuple (aCons (oVar 3) aNil))) (aCons (oVar 4) aNil)))))))
abbrev B__law_taken : PSpec := bodyW [] 8 3 w__law_taken
theorem imp__law_end : ∀ ds Q, C__law_end ds Q → B__law_end ds Q := by
  rintro ds Q ⟨a, s, l, rfl, l0, l8, q⟩
  refine ⟨rfl, ?_⟩
  have fz : (poolD l).frz = poolD l := rfl
  simp only [w__law_end, hd, Bx.go]
  refine ⟨a, s, 3, rfl, by decide, by decide, fun r a s h0 h1 => ?_⟩
  simp only [Bx.go]
  refine ⟨eqOk_int _ _, ?_⟩
  refine pick_by (fun _ => ?_) (fun _ => ?_)
  · simp only [Bx.go]
    exact q none a s
  · simp only [fz, Bx.go]
    refine ⟨a, s, l, rfl, l0, l8, fun v a s _ => ?_⟩
    simp only [hd, Bx.go]
    refine ⟨a, s, 5, rfl, by decide, by decide, fun r a s h0 h1 => ?_⟩
    obtain ⟨u, eu, _⟩ := atI_of (ns := [0, 0, 0, 1, -1]) (fun _ => True) (fun _ _ => trivial) h0 (by simpa using h1)
    simp only [List.map] at eu
    simp only [eu, Bx.go]
    refine ⟨a, s, 2, rfl, by decide, by decide, fun r a s h0 h1 => ?_⟩
    simp only [Bx.go]
    refine ⟨eqOk_int _ _, ?_⟩
    exact q (some (v + u, _)) a s
theorem imp__law_box : ∀ ds Q, C__law_box ds Q → B__law_box ds Q := by
  rintro ds Q ⟨a, s, d, l, rfl, l0, l8, d4, q⟩
  refine ⟨rfl, ?_⟩
  have sl := sizeLine_eq
  have fz : (poolD l).frz = poolD l := rfl
  refine seq_cut (fun ρ => ρ = [some (hd a s), some (.int d), some (poolD l), some (.lst true []), none, none, none, none]) (fun R hR => ?_) ?_
  · simp only [Bx.go]
    exact hR _ rfl
  rintro _ rfl
  refine seq_cut (fun ρ => ∃ (a s tn : Int), ρ = [some (hd a s), some (.int d), some (poolD l), some (.lst true []), some (.int tn), none, none, none]) (fun R hR => ?_) ?_
  · simp only [hd, Bx.go]
    refine ⟨a, s, 2, rfl, by decide, by decide, fun r a s h0 h1 => ?_⟩
    simp only [Bx.go]
    exact hR _ ⟨a, s, r, rfl⟩
  clear a s
  rintro _ ⟨a, s, tn, rfl⟩
  simp only [Bx.go]
  refine ⟨i62_of (by omega) (by omega), ?_⟩
  rw [rangeD_nat]
  refine for_each (List.range (Int.toNat d)) _ (fun dn ρ => ∃ (a s : Int) (b : Bx1) (x5 x6 x7 : Option D), b.length = dn.length ∧ ρ = [some (hd a s), some (.int d), some (poolD l), some (.lst true (b.map sD)), some (.int tn), x5, x6, x7]) ⟨a, s, [], _, _, _, rfl, rfl⟩ ?_ ?_
  · rintro dn x r ρ N e ⟨a, s, b, x5, x6, x7, bl, rfl⟩ hN
    have e := congrArg List.length e
    simp at e
    simp only [u1_gT, u2_gT, u1_gsCons, u2_gsCons, u1_gsNil, u2_gsNil, u1_kGs, u1_gN, u1_kForB, rset_s, rset_0, rget_s, rget_0, D.seq, D.sql, u_onSome_some, frz_tup, frz_int, frz_bl, frz_lst, frz_str, frz_non, frz_scr, List.length_cons, List.length_nil, List.map_cons, List.map_nil, Option.bind_some, true_and, and_true]
    refine seq_cut (fun ρ => ∃ (a s : Int) (e1 e2 : Eg), ρ = [some (hd a s), some (.int d), some (poolD l), some (.lst true (b.map sD)), some (.int tn), some (.int (x : Nat)), some (eD e1), some (eD e2)]) (fun R hR => ?_) ?_
    · simp only [fz, hd, Bx.go]
      refine ⟨a, s, l, rfl, l0, l8, fun e1 a s => ?_⟩
      simp only [fz, hd, Zb.eD_frz, Bx.go]
      refine ⟨a, s, l, rfl, l0, l8, fun e2 a s => ?_⟩
      simp only [Zb.eD_frz, Bx.go]
      exact hR _ ⟨a, s, e1, e2, rfl⟩
    clear a s
    rintro _ ⟨a, s, e1, e2, rfl⟩
    refine seq_cut (fun ρ => ∃ (e1 e2 : Eg), ρ = [some (hd a s), some (.int d), some (poolD l), some (.lst true (b.map sD)), some (.int tn), some (.int (x : Nat)), some (eD e1), some (eD e2)]) (fun R hR => ?_) ?_
    · simp only [Bx.go]
      have id : R [some (hd a s), some (.int d), some (poolD l), some (.lst true (b.map sD)), some (.int tn), some (.int (x : Nat)), some (eD e1), some (eD e2)] := hR _ ⟨e1, e2, rfl⟩
      refine ⟨eqOk_int _ _, ?_⟩
      refine pick_by (fun _ => ?_) (fun _ => ?_)
      · cases e1 with
        | none =>
          simp only [eD, Bx.go]
          exact id
        | some e1 =>
          cases e2 with
          | none =>
            simp only [eD, Bx.go]
            exact id
          | some e2 =>
            simp only [eD, p0, Bx.go]
            refine pick_by (fun _ => ?_) (fun _ => ?_)
            · simp only [Bx.go]
              exact hR _ ⟨some e2, some e1, rfl⟩
            · simp only [Bx.go]
              exact id
      · simp only [Bx.go]
        exact id
    clear e1 e2
    rintro _ ⟨e1, e2, rfl⟩
    simp only [Zb.eD_frz, Bx.go]
    exact ⟨by omega, hN _ ⟨a, s, b ++ [(e1, e2)], _, _, _, by simp [bl], by rw [List.map_append]; rfl⟩⟩
  · rintro ρ ⟨a, s, b, x5, x6, x7, bl, rfl⟩
    simp at bl
    simp only [Bx.go]
    exact q b a s bl
section
variable {pl : Int → List Int} {ps : List Pr} {nms : List Int} {lo hi inn : LT} {i d : Nat} {kn : Int → Prop}
end
theorem dget_find : ∀ (ts : List Th) (n : Int), dget (ts.map fun t => (Sum.inl t.1 : Key)) (ts.map fun t => plc t.2.1) (.inl n) = (ts.find? fun t => t.1 == n).map fun t => plc t.2.1
  | [], _ => rfl
  | t :: r, n => by
    simp only [List.map_cons, dget, List.find?_cons]
    by_cases h : t.1 = n
    · rw [if_pos (by rw [h]), beq_iff_eq.mpr h]
      rfl
    · rw [if_neg (fun e => h (Sum.inl.inj e)), beq_false_of_ne h]
      exact dget_find r n
theorem pl_knows {d : Nat} {ts : List Th} (h : House d ts) {n : Int} (hn : inH ts n) : knows (ts.map fun t => (Sum.inl t.1 : Key)) (ts.map fun t => plc t.2.1) d (plOf ts) n := by
  obtain ⟨t, ht, e⟩ := List.mem_map.mp hn
  unfold knows plOf
  rw [dget_find]
  cases hf : ts.find? fun t => t.1 == n with
  | none => exact absurd (beq_iff_eq.mpr e) (List.find?_eq_none.mp hf t ht)
  | some u =>
    have := List.mem_of_find?_eq_some hf
    exact ⟨rfl, h.num u this⟩
theorem Lay.imp {pl : Int → List Int} {k1 k2 : Int → Prop} {d : Nat} (hk : ∀ n, k1 n → k2 n) : ∀ {T : LT} {i : Nat}, Lay pl k1 d T i → Lay pl k2 d T i
  | .nil, _, h => h.elim
  | .mk nms lo hi inn, i, ⟨hid, h0, h, hp, hL, hI⟩ => by
    refine ⟨hid, h0, fun n hn => hk n (h n hn), hp, fun h => ⟨Lay.imp hk (hL h).1, Lay.imp hk (hL h).2.1, (hL h).2.2⟩, ?_⟩
    by_cases hd : i + 1 < d
    · rw [if_pos hd] at hI ⊢
      exact ⟨Lay.imp hk hI.1, hI.2⟩
    · rw [if_neg hd] at hI ⊢
      exact hI
theorem pl_own {d : Nat} {ts : List Th} (h : House d ts) {t : Th} (ht : t ∈ ts) : plOf ts t.1 = t.2.1 := by
  unfold plOf
  have : ts.find? (fun u => u.1 == t.1) = some t := by
    have hp := h.ris
    clear h
    induction ts with
    | nil => exact absurd ht List.not_mem_nil
    | cons a r ih =>
      rcases List.mem_cons.mp ht with rfl | ht
      · rw [List.find?_cons, beq_self_eq_true]
      · have := (List.pairwise_cons.mp hp).1 t ht
        rw [List.find?_cons, beq_false_of_ne (by omega)]
        exact ih ht (List.pairwise_cons.mp hp).2
  rw [this]
  rfl
theorem nodup_keys {d : Nat} {ts : List Th} (h : House d ts) : (ts.map fun t => (Sum.inl t.1 : Key)).Nodup := by
  rw [List.Nodup, List.pairwise_map]
  exact h.ris.imp fun hab e => by have := Sum.inl.inj e; omega
theorem askv (ts : List Th) : asKV (ts.map fun t => D.tup [.int t.1, plc t.2.1]) = some (ts.map fun t => ((Sum.inl t.1 : Key), plc t.2.1)) := by
  induction ts with
  | nil => rfl
  | cons t r ih =>
    simp only [List.map_cons, asKV, ih, Option.map_some]
theorem dic_eq {d : Nat} {ts : List Th} (h : House d ts) : dicD (mergeD [] (ts.map fun t => ((Sum.inl t.1 : Key), plc t.2.1))) = .dic (ts.map fun t => (Sum.inl t.1 : Key)) (ts.map fun t => plc t.2.1) := by
  have hn := nodup_keys h
  have e : mergeD [] (ts.map fun t => ((Sum.inl t.1 : Key), plc t.2.1)) = ts.map fun t => ((Sum.inl t.1 : Key), plc t.2.1) := by
    rw [mergeD_nodup]
    · rfl
    · rw [List.nil_append, List.map_map]
      exact hn
  rw [e]
  unfold dicD
  rw [List.map_map, List.map_map]
  rfl
theorem imp__law_taken : ∀ ds Q, C__law_taken ds Q → B__law_taken ds Q := by
  rintro ds Q ⟨d, ts, T, b, rfl, h, tl, d1, d4, bl, hT, hd, hn, q⟩
  refine ⟨rfl, ?_⟩
  have sl := sizeLine_eq
  have hz : (houseD d ts).frz = houseD d ts := rfl
  cases T with
  | nil =>
    simp only [w__law_taken, ltD, Bx.go]
    exact q
  | mk nms lo hi inn =>
  have hT : Lay (plOf ts) (inH ts) d (.mk nms lo hi inn) 0 := hT.resolve_left (fun e => by cases e)
  obtain ⟨T, eT⟩ : ∃ T, T = Zr.LT.mk nms lo hi inn := ⟨_, rfl⟩
  refine seq_cut (fun ρ => ρ = [some (houseD d ts), some (ltD T), some (.tup (b.map sD)), none, none, none, none, none]) (fun R hR => ?_) ?_
  · simp only [ltD, Bx.go]
    exact hR _ (by rw [eT]; rfl)
  rintro _ rfl
  have q : Q (.tup [.tup ((askT (plOf ts) (plainOf (b.map Zb.pl)) T 0).1.map plc), .int (askT (plOf ts) (plainOf (b.map Zb.pl)) T 0).2]) [] := by rw [eT]; exact q
  rw [← eT] at hT hd hn
  have df : ∀ ks vs, (D.dic ks vs).frz = .dic ks vs := fun _ _ => rfl
  refine seq_cut (fun ρ => ρ = [some (houseD d ts), some (ltD T), some (.tup (b.map sD)), some (.lst true []), none, none, none, none]) (fun R hR => ?_) ?_
  · simp only [Bx.go]
    exact hR _ rfl
  rintro _ rfl
  refine seq_cut (fun ρ => ∃ x5 x6 x7 : Option D, ρ = [some (houseD d ts), some (ltD T), some (.tup (b.map sD)), some (.lst true ((askT (plOf ts) (plainOf (b.map Zb.pl)) T 0).1.map plc)), some (.int (askT (plOf ts) (plainOf (b.map Zb.pl)) T 0).2), x5, x6, x7]) (fun R hR => ?_) ?_
  · simp only [houseD, p1, Bx.go]
    refine ⟨by omega, co_each ts thD (fun dn acc ρ => acc = (dn.map fun t => D.tup [.int t.1, plc t.2.1]) ∧ ∃ x5 x6 x7 : Option D, ρ = [some (houseD d ts), some (ltD T), some (.tup (b.map sD)), some (.lst true []), none, x5, x6, x7]) ⟨rfl, _, _, _, rfl⟩ ?_ ?_⟩
    · rintro dn t r acc ρ N e ⟨rfl, x5, x6, x7, rfl⟩ hN
      simp only [thD, Bx.go]
      exact hN _ _ ⟨by rw [List.map_append]; rfl, _, _, _, rfl⟩
    · rintro acc ρ ⟨rfl, x5, x6, x7, rfl⟩
      simp only [backR, Bx.go]
      rw [askv]
      simp only [dic_eq h, hz, ltD_frz, df, Bx.go]
      refine ⟨b, rfl, by omega, by omega, ?_⟩
      simp only [hz, ltD_frz, df, Bx.go]
      refine ⟨_, _, d, 0, plOf ts, plainOf (b.map Zb.pl), T, [], rfl, Lay.imp (fun n hn => pl_knows h hn) hT, by rw [Zb.plain_len, List.length_map]; exact bl, d4, hd, hn, by simp; omega, ?_⟩
      simp only [Bx.go]
      exact hR _ ⟨_, _, _, rfl⟩
  rintro _ ⟨x5, x6, x7, rfl⟩
  simp only [Bx.go]
  exact q
end Zl
namespace Zn
open PySem PySem.Spec PyProof.Rows L2 Bx Zb Zp Zm Zh Zf Zq Zr Zs Zl
theorem by_perm (i d : Nat) (ts : List Th) : (byT i d ts).Perm ts := List.mergeSort_perm _ _
theorem inP_is (p : Pr) (n : Int) : inP p n = (!ltO p.1 n && !gtO p.2 n) := by
  obtain ⟨a, b⟩ := p
  cases a <;> cases b <;> simp only [inP, ltO, gtO, Bool.not_false, Bool.true_and, Bool.and_true]
  · rename_i b
    rw [Bool.eq_iff_iff]; simp
  · rename_i a
    rw [Bool.eq_iff_iff]; simp
  · rename_i a b
    rw [Bool.eq_iff_iff]; simp
end Zn
namespace Zo
open PySem PySem.Spec PyProof.Rows L2 Bx Zb Zp Zm Zh Zf Zq Zr Zs
theorem nle (x y : D) : (!dLe y x) = lexLt itemOrd (PySem.W.keyToks x.pd) (PySem.W.keyToks y.pd) := by
  show (!(!lexLt itemOrd (PySem.W.keyToks x.pd) (PySem.W.keyToks y.pd))) = _
  rw [Bool.not_not]
theorem lex_app (c x y : List (Int ⊕ List Nat)) : lexLt itemOrd (c ++ x) (c ++ y) = lexLt itemOrd x y := by
  induction c with
  | nil => rfl
  | cons a c ih => rw [List.cons_append, List.cons_append, lex_self, ih]
theorem lex_int {a b : Int} {x y : List (Int ⊕ List Nat)} : lexLt itemOrd (.inl a :: x) (.inl b :: y) = if a = b then lexLt itemOrd x y else decide (a < b) := by
  by_cases h : a = b
  · subst h
    rw [lex_self, if_pos rfl]
  · rw [if_neg h, lex_diff (fun e => h (Sum.inl.inj e))]
    rfl
theorem ltD_is (a b : Th) : (!dLe (kyD b) (kyD a)) = if a.2.2 = b.2.2 then decide (a.1 < b.1) else decide (b.2.2 < a.2.2) := by
  rw [nle, kyD_pd, kyD_pd]
  simp only [PySem.W.keyToks, PySem.W.keyToksAll, List.cons_append, List.nil_append]
  rw [lex_self, lex_int, lex_self, lex_int, lex_self]
  by_cases h : a.2.2 = b.2.2
  · rw [if_pos (by omega), if_pos h]
    split
    · rename_i e
      rw [e, lex_irrefl]
      simp
    · rfl
  · rw [if_neg (by omega), if_neg h, Bool.eq_iff_iff]
    simp only [decide_eq_true_eq]
    omega
theorem ltN_is (p : List Int) (a b : Th) (he : a.1 = b.1 → a = b) : (!dLe (kyN p b) (kyN p a)) = if stepsL a.2.1 p = stepsL b.2.1 p then decide (a.1 < b.1) else decide (stepsL a.2.1 p < stepsL b.2.1 p) := by
  rw [nle, kyN_pd, kyN_pd]
  simp only [PySem.W.keyToks, PySem.W.keyToksAll, List.cons_append, List.nil_append]
  rw [lex_self, lex_int, lex_self, lex_int]
  by_cases h : stepsL a.2.1 p = stepsL b.2.1 p
  · rw [if_pos h, if_pos h]
    split
    · rename_i e
      have := he e
      subst this
      rw [lex_irrefl]
      simp
    · rfl
  · rw [if_neg h, if_neg h]
theorem le_total (ky : Th → D) (a b : Th) : dLe (ky a) (ky b) = true ∨ dLe (ky b) (ky a) = true :=
  (PySem.W.sortLe_total (PyProof.Rows.listOrd PyProof.Rows.itemOrd) false (fun t : Th => PySem.W.keyToks (ky t).pd)).total a b
theorem le_trans {ky : Th → D} {a b c : Th} (h1 : dLe (ky a) (ky b) = true) (h2 : dLe (ky b) (ky c) = true) : dLe (ky a) (ky c) = true :=
  (PySem.W.sortLe_total (PyProof.Rows.listOrd PyProof.Rows.itemOrd) false (fun t : Th => PySem.W.keyToks (ky t).pd)).trans a b c h1 h2
theorem srt_pw (ky : Th → D) (ts : List Th) : (srt ky ts).Pairwise (fun a b => dLe (ky a) (ky b) = true) :=
  List.pairwise_mergeSort (le := fun a b : Th => dLe (ky a) (ky b)) (fun a b c h1 h2 => le_trans h1 h2) (fun a b => by
    rcases le_total ky a b with h | h
    · exact Bool.or_eq_true _ _ |>.mpr (.inl h)
    · exact Bool.or_eq_true _ _ |>.mpr (.inr h)) ts
section
variable {ky : Th → D}
end
theorem names_one {d : Nat} {ts : List Th} (h : House d ts) : ∀ a ∈ ts, ∀ b ∈ ts, a.1 = b.1 → a = b := by
  intro a ha b hb e
  have pw := h.ris
  clear h
  induction ts with
  | nil => exact absurd ha List.not_mem_nil
  | cons t ts ih =>
    have h1 := List.pairwise_cons.mp pw
    rcases List.mem_cons.mp ha with e1 | ha1
    · rcases List.mem_cons.mp hb with e2 | hb1
      · rw [e1, e2]
      · have := h1.1 b hb1; rw [e1] at e; omega
    · rcases List.mem_cons.mp hb with e2 | hb1
      · have := h1.1 a ha1; rw [e2] at e; omega
      · exact ih ha1 hb1 h1.2
end Zo
namespace Bx
open PySem PySem.Spec PyProof.Rows L2
mutual
def D.wt : D → Nat
  | .non => 4
  | .bl _ => 5
  | .int i => (toString i).length
  | .tup xs => 3 + D.wts xs
  | .lst _ xs => 3 + D.wts xs
  | .str _ => 40
  | _ => 0
def D.wts : List D → Nat
  | [] => 0
  | x :: r => x.wt + 2 + D.wts r
end
mutual
def D.sm : D → Bool
  | .non => true
  | .bl _ => true
  | .int i => decide (i.natAbs < 10 ^ 18)
  | .tup xs => D.sms xs
  | .lst _ xs => D.sms xs
  | .str x => decide ((reprText x).length ≤ 40)
  | _ => false
def D.sms : List D → Bool
  | [] => true
  | x :: r => x.sm && D.sms r
end
mutual
theorem sh_len : ∀ {d : D}, d.sm = true → d.pd.showable = true ∧ d.ndc = true ∧ d.pd.shown.length ≤ d.wt
  | .non, _ => ⟨by simp [D.pd, PyData.showable], by simp [D.ndc], by simp only [D.pd, PyData.shown, D.wt]; decide⟩
  | .bl b, _ => ⟨by simp [D.pd, PyData.showable], by simp [D.ndc], by simp only [D.pd, PyData.shown, D.wt]; cases b <;> decide⟩
  | .int i, h => by
    have h : i.natAbs < 10 ^ 18 := of_decide_eq_true (by simpa only [D.sm] using h)
    refine ⟨?_, by simp [D.ndc], ?_⟩
    · simp only [D.pd, PyData.showable]
      refine decide_eq_true ?_
      by_cases h0 : i.natAbs = 0
      · rw [h0]; decide
      · exact (Nat.log2_lt h0).mpr (Nat.lt_trans h (by decide +kernel))
    · simp only [D.pd, PyData.shown, D.wt]
      rw [PyProof.Rows.ofString_len]
      exact Nat.le_refl _
  | .tup xs, h => by
    simp only [D.sm] at h
    obtain ⟨a, b, c⟩ := shs_len h
    simp only [D.pd, PyData.showable, PyData.shown, D.ndc, D.wt]
    have := tupleText_len_le (PyData.shownAll (D.pds xs))
    exact ⟨a, b, by omega⟩
  | .lst o xs, h => by
    simp only [D.sm] at h
    obtain ⟨a, b, c⟩ := shs_len h
    simp only [D.pd, PyData.showable, PyData.shown, D.ndc, D.wt]
    have := listText_len_le (PyData.shownAll (D.pds xs))
    exact ⟨a, b, by omega⟩
  | .str x, h => by
    have h : (reprText x).length ≤ 40 := of_decide_eq_true (by simpa only [D.sm] using h)
    exact ⟨by simp [D.pd, PyData.showable], by simp [D.ndc], by simpa only [D.pd, PyData.shown, D.wt] using h⟩
  | .scr _, h => by simp [D.sm] at h
  | .dic _ _, h => by simp [D.sm] at h
  | .odc _ _, h => by simp [D.sm] at h
  | .obj _ _ _, h => by simp [D.sm] at h
theorem shs_len : ∀ {ds : List D}, D.sms ds = true → PyData.showableAll (D.pds ds) = true ∧ D.ndcs ds = true ∧ ((PyData.shownAll (D.pds ds)).map (·.length)).sum + 2 * (PyData.shownAll (D.pds ds)).length ≤ D.wts ds
  | [], _ => by simp [D.pds, PyData.showableAll, D.ndcs, PyData.shownAll, D.wts]
  | x :: r, h => by
    simp only [D.sms, Bool.and_eq_true] at h
    obtain ⟨a1, b1, c1⟩ := sh_len h.1
    obtain ⟨a2, b2, c2⟩ := shs_len h.2
    simp only [D.pds, PyData.showableAll, D.ndcs, PyData.shownAll, D.wts, Bool.and_eq_true, List.map_cons, List.sum_cons, List.length_cons]
    exact ⟨⟨a1, a2⟩, ⟨b1, b2⟩, by omega⟩
end
end Bx
namespace Zt
open PySem PySem.Spec PyProof.Rows L2 Bx Zb Zp Zm Zh Zf Zq Zr Zs Zl Zn Zo
inductive BT
  | leaf (t : Th)
  | node (l h : BT)
def BT.ths : BT → List Th
  | .leaf t => [t]
  | .node l h => l.ths ++ h.ths
def sN (l : List Int) : List Int := l.mergeSort fun a b => decide (a ≤ b)
def mnL (l : List Int) : Int := l.min?.getD 0
def mxL (l : List Int) : Int := l.max?.getD 0
def bnd (d : Nat) (zs : List Th) : List Pr := (List.range d).map fun i => (some (mnL (zs.map fun t => t.2.1.getD i 0)), some (mxL (zs.map fun t => t.2.1.getD i 0)))
def bdD (d : Nat) (zs : List Th) : D := .tup ((bnd d zs).map pD)
def btD (d : Nat) : BT → D
  | .leaf t => .tup [plc [t.1], bdD d [t], .non, .non]
  | .node l h => .tup [plc (sN (nmsT (l.ths ++ h.ths))), bdD d (l.ths ++ h.ths), btD d l, btD d h]
def plD (ts : List Th) : D := .dic (ts.map fun t => (Sum.inl t.1 : Key)) (ts.map fun t => plc t.2.1)
def turT (d : Nat) (zs : List Th) (i : Nat) : BT :=
  if h : 1 < zs.length then .node (turT d ((byT i d zs).take ((zs.length + 1) / 2)) ((i + 1) % d)) (turT d ((byT i d zs).drop ((zs.length + 1) / 2)) ((i + 1) % d))
  else .leaf (zs.headD (0, [], 0))
termination_by zs.length
decreasing_by
  · rw [List.length_take, by_len]; omega
  · rw [List.length_drop, by_len]; omega
structure Sub (d : Nat) (ts zs : List Th) : Prop where
  hs : House d ts
  mem : ∀ t ∈ zs, t ∈ ts
  nd : zs.Nodup
def Tr (d : Nat) (ts : List Th) (T : BT) : Prop := Sub d ts T.ths
abbrev C_is_whole : PSpec := Zb.C_is_whole
abbrev C_is_plain : PSpec := Zb.C_is_plain
def C_bounds : PSpec := fun ds Q => ∃ (d : Nat) (ls : List (List Int)) (zs : List Th), ds = [.lst false (ls.map plc)] ∧ ls ≠ [] ∧ ls.length ≤ 1000 ∧ d ≤ 4 ∧ (∀ l ∈ ls, l.length = d) ∧ (∀ x, x ∈ ls ↔ ∃ t ∈ zs, t.2.1 = x) ∧ Q (bdD d zs) []
abbrev C_names_of : PSpec := Zr.C_names_of
abbrev C_things_by : PSpec := Zr.C_things_by
def C_halved_up : PSpec := fun ds Q => ∃ n : Nat, ds = [.int n] ∧ Q (.int ((n + 1) / 2 : Nat)) []
def C_is_name : PSpec := fun ds Q => ∃ n : Int, ds = [.int n] ∧ 0 ≤ n ∧ Q (.bl true) []
def Ris (l : List Int) : Prop := l ≠ [] ∧ l.length ≤ 300 ∧ (∀ n ∈ l, 0 ≤ n) ∧ l.Pairwise (· < ·)
def C_are_names : PSpec := fun ds Q => ∃ l : List Int, ds = [plc l] ∧ Ris l ∧ Q (.bl true) []
def C__law_pick : PSpec := fun ds Q => ∃ (a s m : Int), ds = [.lst true [.int a, .int s], .int m] ∧ 0 < m ∧ m ≤ 1000000 ∧ ∀ r a' s' : Int, 0 ≤ r → r < m → Q (.int r) [.lst true [.int a', .int s']]
def C__law_number : PSpec := fun ds Q => ∃ (a s w : Int), ds = [hd a s, .int w] ∧ 0 ≤ w ∧ w < 4 ∧ ∀ v a' s' : Int, smI v → Q (.int v) [hd a' s']
def C__law_house : PSpec := fun ds Q => ∃ (a s : Int) (d : Nat) (sz : List Nat), ds = [hd a s, .int d, .lst false (sz.map fun n : Nat => .int n)] ∧ sz ≠ [] ∧ sz.length ≤ 20 ∧ (∀ n ∈ sz, n ≤ 100) ∧ d ≤ 4 ∧ ∀ (ts : List Th) (a' s' : Int), ts.length ∈ sz → HouseS d ts → Q (houseD d ts) [hd a' s']
def C__law_same (n : Nat) : PSpec := fun ds Q => ∃ y : D, ds = [y, y] ∧ okS n y ∧ n ≤ 64 ∧ Q (.bl true) []
abbrev lv__law_same : Nat := 60
theorem zero__law_same : ∀ ds Q, ¬ C__law_same 0 ds Q := fun _ _ ⟨y, _, h, _⟩ => by cases y <;> exact h
def C__law_bounds : PSpec := fun ds Q => ∃ (d : Nat) (ts zs : List Th), ds = [plD ts, .lst false ((nmsT zs).map .int)] ∧ Sub d ts zs ∧ zs ≠ [] ∧ d ≤ 4 ∧ Q (bdD d zs) []
def C__law_by : PSpec := fun ds Q => ∃ (d i : Nat) (ts zs : List Th), ds = [plD ts, .lst false ((nmsT zs).map .int), .int i] ∧ Sub d ts zs ∧ i < d ∧ d ≤ 4 ∧ Q (.lst true ((nmsT (byT i d zs)).map .int)) []
def C__law_turned (n : Nat) : PSpec := fun ds Q => ∃ (d i : Nat) (ts zs : List Th), ds = [plD ts, .lst false ((nmsT zs).map .int), .int i] ∧ Sub d ts zs ∧ zs ≠ [] ∧ 2 * zs.length ≤ 2 ^ n ∧ i < d ∧ d ≤ 4 ∧ Q (btD d (turT d zs i)) []
abbrev lv__law_turned : Nat := 11
theorem zero__law_turned : ∀ ds Q, ¬ C__law_turned 0 ds Q := fun _ _ ⟨_, _, _, zs, _, _, h, hn, _⟩ => h (List.length_eq_zero_iff.mp (by rw [Nat.pow_zero] at hn; omega))
theorem Sub.one {d : Nat} {ts zs : List Th} (h : Sub d ts zs) : ∀ a ∈ zs, ∀ b ∈ zs, a.1 = b.1 → a = b := fun a ha b hb => names_one h.hs a (h.mem a ha) b (h.mem b hb)
theorem Sub.num {d : Nat} {ts zs : List Th} (h : Sub d ts zs) : ∀ t ∈ zs, t.2.1.length = d := fun t m => h.hs.num t (h.mem t m)
theorem House.nd {d : Nat} {ts : List Th} (h : House d ts) : ts.Nodup := h.ris.imp fun hab e => by rw [e] at hab; omega
theorem Sub.perm {d : Nat} {ts zs : List Th} (h : Sub d ts zs) : (ts.filter fun t => decide (t.1 ∈ nmsT zs)).Perm zs := by
  refine (List.perm_ext_iff_of_nodup ((House.nd h.hs).filter _) h.nd).mpr fun t => ?_
  rw [List.mem_filter, decide_eq_true_iff]
  constructor
  · rintro ⟨m, n⟩
    obtain ⟨u, hu, e⟩ := List.mem_map.mp n
    rw [names_one h.hs t m u (h.mem u hu) e.symm]
    exact hu
  · exact fun m => ⟨h.mem t m, List.mem_map_of_mem m⟩
theorem Sub.len {d : Nat} {ts zs : List Th} (h : Sub d ts zs) : zs.length ≤ 300 := by
  rw [← h.perm.length_eq]
  exact Nat.le_trans (List.length_filter_le _ _) h.hs.len
theorem Sub.all {d : Nat} {ts : List Th} (h : House d ts) : Sub d ts ts := ⟨h, fun _ m => m, House.nd h⟩
theorem Sub.sub {d : Nat} {ts zs ws : List Th} (h : Sub d ts zs) (hm : ∀ t ∈ ws, t ∈ zs) (nd : ws.Nodup) : Sub d ts ws := ⟨h.hs, fun t m => h.mem t (hm t m), nd⟩
theorem Sub.by {d i : Nat} {ts zs : List Th} (h : Sub d ts zs) : Sub d ts (byT i d zs) := h.sub (fun _ m => by_mem.mp m) ((by_perm i d zs).nodup_iff.mpr h.nd)
theorem Sub.take {d k : Nat} {ts zs : List Th} (h : Sub d ts zs) : Sub d ts (zs.take k) := h.sub (fun _ m => List.mem_of_mem_take m) (h.nd.sublist (List.take_sublist _ _))
theorem Sub.drop {d k : Nat} {ts zs : List Th} (h : Sub d ts zs) : Sub d ts (zs.drop k) := h.sub (fun _ m => List.mem_of_mem_drop m) (h.nd.sublist (List.drop_sublist _ _))
theorem Sub.names {d : Nat} {ts zs : List Th} (h : Sub d ts zs) : (nmsT zs).Nodup := by
  unfold nmsT
  have one := h.one
  have nd := h.nd
  clear h
  induction zs with
  | nil => exact List.nodup_nil
  | cons t r ih =>
    obtain ⟨h1, h2⟩ := List.nodup_cons.mp nd
    refine List.nodup_cons.mpr ⟨fun m => ?_, ih (fun a ha b hb => one a (List.mem_cons_of_mem _ ha) b (List.mem_cons_of_mem _ hb)) h2⟩
    obtain ⟨u, hu, e⟩ := List.mem_map.mp m
    rw [one u (List.mem_cons_of_mem _ hu) t List.mem_cons_self e] at hu
    exact h1 hu
theorem rowT (i d : Nat) (t : Th) : PySem.W.keyToks (rowD i d t).pd = .inl 1 :: (toksI (rot i d t) ++ (.inl 0 :: .inl 1 :: .inl t.1 :: .inl 1 :: (PySem.W.keyToks (thD t).pd ++ [.inl 0]))) := by
  have := toks_ints (rot i d t) []
  rw [List.append_nil] at this
  have e : (rowD i d t).pd = .tuple [.tuple ((rot i d t).map .int), .int t.1, (thD t).pd] := by simp only [rowD, D.pd, D.pds, pds_ints]
  rw [e]
  simp only [PySem.W.keyToks, PySem.W.keyToksAll, this]
  simp only [PySem.W.keyToks, PySem.W.keyToksAll, List.cons_append, List.nil_append, List.append_assoc]
def prD (i d : Nat) (t : Th) : D := .tup [.tup ((rot i d t).map .int), .int t.1]
theorem prT (i d : Nat) (t : Th) : PySem.W.keyToks (prD i d t).pd = .inl 1 :: (toksI (rot i d t) ++ (.inl 0 :: .inl 1 :: .inl t.1 :: [.inl 0])) := by
  have := toks_ints (rot i d t) []
  rw [List.append_nil] at this
  have e : (prD i d t).pd = .tuple [.tuple ((rot i d t).map .int), .int t.1] := by simp only [prD, D.pd, D.pds, pds_ints]
  rw [e]
  simp only [PySem.W.keyToks, PySem.W.keyToksAll, this]
  simp only [PySem.W.keyToks, PySem.W.keyToksAll, List.cons_append, List.nil_append, List.append_assoc]
theorem pr_row {i d : Nat} {a b : Th} (h : a.1 = b.1 → a = b) : dLe (prD i d a) (prD i d b) = dLe (rowD i d a) (rowD i d b) := by
  show (!lexLt itemOrd (PySem.W.keyToks (prD i d b).pd) (PySem.W.keyToks (prD i d a).pd)) = (!lexLt itemOrd (PySem.W.keyToks (rowD i d b).pd) (PySem.W.keyToks (rowD i d a).pd))
  rw [prT, prT, rowT, rowT, lex_self, lex_self]
  congr 1
  refine lex_pre _ _ _ _ _ _ (by rw [rot_len, rot_len]) ?_
  rw [lex_self, lex_self, lex_self, lex_self]
  by_cases e : b.1 = a.1
  · rw [h e.symm, lex_irrefl, lex_irrefl]
  · rw [lex_int, if_neg e, lex_int, if_neg e]
theorem sort_pr {d i : Nat} {ts zs : List Th} (h : Sub d ts zs) : (zs.map (prD i d)).mergeSort dLe = (byT i d zs).map (prD i d) :=
  (List.map_mergeSort (r := fun a b => dLe (rowD i d a) (rowD i d b)) (s := dLe) (f := prD i d) (fun a ha b hb => (pr_row (h.one a ha b hb)).symm)).symm
theorem mn_mem {l : List Int} (h : l ≠ []) : mnL l ∈ l ∧ ∀ y ∈ l, mnL l ≤ y := by
  cases e : l.min? with
  | none => exact absurd (List.min?_eq_none_iff.mp e) h
  | some m =>
    unfold mnL
    rw [e]
    exact List.min?_eq_some_iff.mp e
theorem mx_mem {l : List Int} (h : l ≠ []) : mxL l ∈ l ∧ ∀ y ∈ l, y ≤ mxL l := by
  cases e : l.max? with
  | none => exact absurd (List.max?_eq_none_iff.mp e) h
  | some m =>
    unfold mxL
    rw [e]
    exact List.max?_eq_some_iff.mp e
theorem mn_is {l : List Int} {m : Int} (h1 : m ∈ l) (h2 : ∀ y ∈ l, m ≤ y) : m = mnL l := by
  have h := mn_mem (List.ne_nil_of_mem h1)
  have := h2 _ h.1
  have := h.2 _ h1
  omega
theorem mx_is {l : List Int} {m : Int} (h1 : m ∈ l) (h2 : ∀ y ∈ l, y ≤ m) : m = mxL l := by
  have h := mx_mem (List.ne_nil_of_mem h1)
  have := h2 _ h.1
  have := h.2 _ h1
  omega
theorem bnd_len (d : Nat) (zs : List Th) : (bnd d zs).length = d := by simp [bnd]
theorem bnd_at {d i : Nat} {zs : List Th} (h : i < d) : (bnd d zs)[i]? = some (some (mnL (zs.map fun t => t.2.1.getD i 0)), some (mxL (zs.map fun t => t.2.1.getD i 0))) := by
  simp [bnd, h]
theorem bnd_congr {d : Nat} {zs ws : List Th} (h : ∀ t, t ∈ zs ↔ t ∈ ws) (h0 : zs ≠ []) : bnd d zs = bnd d ws := by
  have h1 : ws ≠ [] := fun e => by
    cases zs with
    | nil => exact h0 rfl
    | cons t r => have := (h t).mp List.mem_cons_self; rw [e] at this; cases this
  unfold bnd
  refine List.map_congr_left fun i _ => ?_
  have mem : ∀ y, y ∈ zs.map (fun t => t.2.1.getD i 0) ↔ y ∈ ws.map fun t => t.2.1.getD i 0 := fun y => by
    simp only [List.mem_map]
    constructor
    · rintro ⟨t, ht, e⟩; exact ⟨t, (h t).mp ht, e⟩
    · rintro ⟨t, ht, e⟩; exact ⟨t, (h t).mpr ht, e⟩
  have n0 : zs.map (fun t => t.2.1.getD i 0) ≠ [] := by simpa using h0
  rw [mn_is ((mem _).mp (mn_mem n0).1) fun y hy => (mn_mem n0).2 y ((mem y).mpr hy), mx_is ((mem _).mp (mx_mem n0).1) fun y hy => (mx_mem n0).2 y ((mem y).mpr hy)]
theorem sN_mem {l : List Int} {n : Int} : n ∈ sN l ↔ n ∈ l := List.mem_mergeSort
theorem sN_perm (l : List Int) : (sN l).Perm l := List.mergeSort_perm _ _
theorem sN_len (l : List Int) : (sN l).length = l.length := List.length_mergeSort _
theorem sN_is {l m : List Int} (hp : m.Perm l) (hs : m.Pairwise (· ≤ ·)) : sN l = m :=
  List.Perm.eq_of_pairwise (le := fun a b : Int => a ≤ b) (fun a b _ _ h1 h2 => Int.le_antisymm h1 h2) (sorted_pw l) hs ((sN_perm l).trans hp.symm)
theorem sN_congr {l m : List Int} (h : m.Perm l) : sN l = sN m := sN_is ((sN_perm m).trans h) (sorted_pw m)
theorem nms_perm {zs ws : List Th} (h : zs.Perm ws) : (nmsT zs).Perm (nmsT ws) := h.map _
theorem tur_one {d i : Nat} {t : Th} : turT d [t] i = .leaf t := by rw [turT]; rfl
theorem tur_two {d i : Nat} {zs : List Th} (h : 1 < zs.length) : turT d zs i = .node (turT d ((byT i d zs).take ((zs.length + 1) / 2)) ((i + 1) % d)) (turT d ((byT i d zs).drop ((zs.length + 1) / 2)) ((i + 1) % d)) := by
  rw [turT, dif_pos h]
theorem tur_ths {d : Nat} : ∀ (n : Nat) (zs : List Th) (i : Nat), zs.length ≤ n → zs ≠ [] → (turT d zs i).ths.Perm zs
  | 0, zs, i, h, h0 => absurd (List.length_eq_zero_iff.mp (by omega)) h0
  | n + 1, zs, i, h, h0 => by
    by_cases c : 1 < zs.length
    · rw [tur_two c]
      have l1 : ((byT i d zs).take ((zs.length + 1) / 2)).length = (zs.length + 1) / 2 := by rw [List.length_take, by_len]; omega
      have l2 : ((byT i d zs).drop ((zs.length + 1) / 2)).length = zs.length - (zs.length + 1) / 2 := by rw [List.length_drop, by_len]
      have a := tur_ths (d := d) n _ ((i + 1) % d) (by omega) (fun e => by rw [e] at l1; simp at l1; omega : (byT i d zs).take ((zs.length + 1) / 2) ≠ [])
      have b := tur_ths (d := d) n _ ((i + 1) % d) (by omega) (fun e => by rw [e] at l2; simp at l2; omega : (byT i d zs).drop ((zs.length + 1) / 2) ≠ [])
      show List.Perm (_ ++ _) zs
      refine (a.append b).trans ?_
      rw [List.take_append_drop]
      exact by_perm i d zs
    · obtain ⟨t, rfl⟩ : ∃ t, zs = [t] := by
        cases zs with
        | nil => exact absurd rfl h0
        | cons t r => cases r with
          | nil => exact ⟨t, rfl⟩
          | cons _ _ => simp at c
      rw [tur_one]
      exact .refl _
theorem bt_ne (T : BT) : T.ths ≠ [] := by
  induction T with
  | leaf t => simp [BT.ths]
  | node l h ih _ => simp [BT.ths, ih]
theorem bt_parts (d : Nat) (T : BT) : ∃ lo hi, btD d T = .tup [plc (sN (nmsT T.ths)), bdD d T.ths, lo, hi] := by
  cases T with
  | leaf t => exact ⟨_, _, by unfold btD BT.ths; rw [show sN (nmsT [t]) = [t.1] from sN_is (.refl _) (by simp)]⟩
  | node l h => exact ⟨_, _, rfl⟩
theorem bt_frz (d : Nat) (T : BT) : (btD d T).frz = btD d T := by cases T <;> rfl
theorem pl_at {d : Nat} {ts : List Th} (h : House d ts) {t : Th} (ht : t ∈ ts) : dget (ts.map fun t => (Sum.inl t.1 : Key)) (ts.map fun t => plc t.2.1) (.inl t.1) = some (plc t.2.1) := by
  rw [(pl_knows h (List.mem_map.mpr ⟨t, ht, rfl⟩)).1, pl_own h ht]
def w_bounds : DS :=
  (dSeq (dAsg 1 (dComp (iR gR1 (aCons (oVal (dCB gLen (aCons (oVal (dBin gIx (oVar 0) (oVal (dC (.int 0))))) aNil))) aNil)) [2] (gN 2) tAll (dComp (iOf (dVar 0)) [3] (gN 3) tAll (dBin gIx (oVar 3) (oVar 2)))))
    (dRet (dCB gTuple (aCons (oVal (dComp (iOf (dVar 1)) [4] (gN 4) tAll (dTup (aCons (oVal (dCB gMin (aCons (oVar 4) aNil))) (aCons (oVal (dCB gMax (aCons (oVar 4) aNil))) aNil))))) aNil))))
abbrev B_bounds : PSpec := bodyW [] 5 1 w_bounds
def w_are_names : DS :=
  (dSeq (dIfS (tOr (tNot (tVal (dIsi "tuple" (oVar 0)))) (tOr (tVal (dBin gEqE (oVar 0) (oVal (dTup aNil)))) (tNot (tVal (dCB gAll (aCons (oVal (dComp (iOf (dVar 0)) [1] (gN 1) tAll (dCall C_is_name (aCons (oVar 1) aNil)))) aNil))))))
    (dRet (dC (.bl false)))
    dNext)
    (dRet (dCB gAll (aCons (oVal (dComp (iZX (aCons (oVar 0) (aCons (oVal (dSl (oVar 0) (pInt (dC (.int 1))) pNo)) aNil))) [2, 3] (gT (gsCons (gN 2) (gsCons (gN 3) gsNil)) 2) tAll (dBin gLt (oVar 2) (oVar 3)))) aNil))))
abbrev B_are_names : PSpec := bodyW [] 4 1 w_are_names
def w__law_pick : DS :=
  (dSeq (dIfS (tVal (dBin gGt (oVal (dBin gIx (oVar 0) (oVal (dC (.int 0))))) (oVal (dC (.int 0)))))
    (dSeq (dAsg 2 (dBin gMod (oVal (dBin gIx (oVar 0) (oVal (dC (.int 0))))) (oVar 1)))
    (dSeq (dSub 0 (dBin gDiv (oVal (dBin gIx (oVar 0) (oVal (dC (.int 0))))) (oVar 1)) (oVal (dC (.int 0))))
    (dRetV 2)))
    dNext)
    (dSeq (dSub 0 (dBin gMod (oVal (dBin gAdd (oVal (dBin gMul2 (oVal (dBin gIx (oVar 0) (oVal (dC (.int 1))))) (oVal (dC (.int 48271))))) (oVal (dC (.int 12345))))) (oVal (dC (.int 2147483647)))) (oVal (dC (.int 1))))
    (dRet (dBin gMod (oVal (dBin gMod (oVal (dBin gMul2 (oVal (dBin gIx (oVar 0) (oVal (dC (.int 1))))) (oVal (dBin gIx (oVar 0) (oVal (dC (.int 1))))))) (oVal (dC (.int 1999999973))))) (oVar 1)))))
abbrev B__law_pick : PSpec := bodyW [0] 3 2 w__law_pick
def w__law_number : DS :=
  (dSeq (dIfS (tVal (dBin gEq (oVar 1) (oVal (dC (.int 0)))))
    (dRet (dCallIO 0 0 C__law_pick (aCons (oVar 0) (aCons (oVal (dC (.int 3))) aNil))))
    dNext)
    (dSeq (dIfS (tVal (dBin gEq (oVar 1) (oVal (dC (.int 1)))))
    (dRet (dBin gSub (oVal (dCallIO 0 0 C__law_pick (aCons (oVar 0) (aCons (oVal (dC (.int 19))) aNil)))) (oVal (dC (.int 9)))))
    dNext)
    (dSeq (dIfS (tVal (dBin gEq (oVar 1) (oVal (dC (.int 2)))))
    (dRet (dBin gIx (oVal (dLst (aCons (oVal (dBin gSub (oVal (dBin gPow (oVal (dC (.int 10))) (oVal (dC (.int 18))))) (oVal (dC (.int 2))))) (aCons (oVal (dBin gSub (oVal (dC (.int 2))) (oVal (dBin gPow (oVal (dC (.int 10))) (oVal (dC (.int 18))))))) (aCons (oVal (dC (.int 0))) (aCons (oVal (dC (.int 1))) (aCons (oVal (dBin gAdd (oVal (dBin gPow (oVal (dC (.int 10))) (oVal (dC (.int 17))))) (oVal (dCallIO 0 0 C__law_pick (aCons (oVar 0) (aCons (oVal (dC (.int 3))) aNil)))))) aNil))))))) (oVal (dCallIO 0 0 C__law_pick (aCons (oVar 0) (aCons (oVal (dC (.int 5))) aNil))))))
    dNext)
    (dRet (dBin gSub (oVal (dCallIO 0 0 C__law_pick (aCons (oVar 0) (aCons (oVal (dBin gPow (oVal (dC (.int 10))) (oVal (dC (.int 6))))) aNil)))) (oVal (dC (.int 500000))))))))
abbrev B__law_number : PSpec := bodyW [0] 2 2 w__law_number
def w__law_house : DS :=
  (dSeq (dAsg 3 (dComp (iR gR1 (aCons (oVar 1) aNil)) [9] (gN 9) tAll (dCallIO 0 0 C__law_pick (aCons (oVar 0) (aCons (oVal (dC (.int 4))) aNil)))))
    (dSeq (dAsg 4 (dBin gIx (oVal (dLst (aCons (oVal (dC (.int 0))) (aCons (oVal (dC (.int 1))) (aCons (oVal (dC (.int 1))) (aCons (oVal (dC (.int 2))) aNil)))))) (oVal (dCallIO 0 0 C__law_pick (aCons (oVar 0) (aCons (oVal (dC (.int 4))) aNil))))))
    (dSeq (dAsg 5 (dLst aNil))
    (dSeq (dAsg 6 (dC (.int 0)))
    (dSeq (dFor (iR gR1 (aCons (oVal (dBin gIx (oVar 2) (oVal (dCallIO 0 0 C__law_pick (aCons (oVar 0) (aCons (oVal (dCB gLen (aCons (oVar 2) aNil))) aNil)))))) aNil)) (gN 7)
    (dSeq (dAsg 6 (dBin gAdd (oVal (dBin gAdd (oVar 6) (oVal (dCallIO 0 0 C__law_pick (aCons (oVar 0) (aCons (oVal (dC (.int 3))) aNil)))))) (oVal (dCB gInt (aCons (oVal (dBin gGt (oVar 7) (oVal (dC (.int 0))))) aNil)))))
    (dSeq (dAsg 8 (dCB gTuple (aCons (oVal (dComp (iOf (dVar 3)) [10] (gN 10) tAll (dCallIO 0 0 C__law_number (aCons (oVar 0) (aCons (oVar 10) aNil))))) aNil)))
    (dSeq (dIfS (tAnd (tVal (dBin gGt (oVar 7) (oVal (dC (.int 0))))) (tVal (dBin gEq (oVal (dCallIO 0 0 C__law_pick (aCons (oVar 0) (aCons (oVal (dC (.int 6))) aNil)))) (oVal (dC (.int 0))))))
    (dAsg 8 (dBin gIx (oVal (dBin gIx (oVar 5) (oVal (dCallIO 0 0 C__law_pick (aCons (oVar 0) (aCons (oVar 7) aNil)))))) (oVal (dC (.int 1)))))
    dNext)
    (dExp (dApp 5 (dTup (aCons (oVar 6) (aCons (oVar 8) (aCons (oVal (dCallIO 0 0 C__law_number (aCons (oVar 0) (aCons (oVar 4) aNil)))) aNil))))))))))
    (dRet (dTup (aCons (oVar 1) (aCons (oVal (dCB gTuple (aCons (oVar 5) aNil))) aNil)))))))))
abbrev B__law_house : PSpec := bodyW [0] 11 3 w__law_house
def w__law_same (n : Nat) : DS :=
  (dSeq (dIfS (tVal (dIsi2 "tuple" "list" (oVar 1)))
    (dSeq (dIfS (tVal (dBin gNe (oVal (dIsi "tuple" (oVar 0))) (oVal (dIsi "tuple" (oVar 1)))))
    (dRet (dC (.bl false)))
    dNext)
    (dSeq (dIfS (tOr (tVal (dBin gNe (oVal (dIsi "list" (oVar 0))) (oVal (dIsi "list" (oVar 1))))) (tVal (dBin gNe (oVal (dCB gLen (aCons (oVar 0) aNil))) (oVal (dCB gLen (aCons (oVar 1) aNil))))))
    (dRet (dC (.bl false)))
    dNext)
    (dRet (dCB gAll (aCons (oVal (dComp (iZX (aCons (oVar 0) (aCons (oVar 1) aNil))) [2, 3] (gT (gsCons (gN 2) (gsCons (gN 3) gsNil)) 2) tAll (dCall (C__law_same n) (aCons (oVar 2) (aCons (oVar 3) aNil))))) aNil)))))
    dNext)
    (dSeq (dIfS (tVal (dBin gNe (oVal (dIsi "bool" (oVar 0))) (oVal (dIsi "bool" (oVar 1)))))
    (dRet (dC (.bl false)))
    dNext)
    (dRet (dAnd (dBin gEq (oVal (dIsi "str" (oVar 0))) (oVal (dIsi "str" (oVar 1)))) (dBin gEq (oVar 0) (oVar 1))))))
abbrev B__law_same (n : Nat) : PSpec := bodyW [] 4 2 (w__law_same n)
def w__law_bounds : DS :=
  (dSeq (dAsg 2 (dComp (iR gR1 (aCons (oVal (dCB gLen (aCons (oVal (dBin gIx (oVar 0) (oVal (dBin gIx (oVar 1) (oVal (dC (.int 0))))))) aNil))) aNil)) [3] (gN 3) tAll (dComp (iOf (dVar 1)) [4] (gN 4) tAll (dBin gIx (oVal (dBin gIx (oVar 0) (oVar 4))) (oVar 3)))))
    (dRet (dCB gTuple (aCons (oVal (dComp (iOf (dVar 2)) [5] (gN 5) tAll (dTup (aCons (oVal (dCB gMin (aCons (oVar 5) aNil))) (aCons (oVal (dCB gMax (aCons (oVar 5) aNil))) aNil))))) aNil))))
abbrev B__law_bounds : PSpec := bodyW [] 6 2 w__law_bounds
def w__law_by : DS :=
  (dSeq (dAsg 3 (dCB gSorted (aCons (oVal (dComp (iOf (dVar 1)) [4] (gN 4) tAll (dTup (aCons (oVal (dBin gAdd (oVal (dSl (oVal (dBin gIx (oVar 0) (oVar 4))) (pInt (dVar 2)) pNo)) (oVal (dSl (oVal (dBin gIx (oVar 0) (oVar 4))) pNo (pInt (dVar 2)))))) (aCons (oVar 4) aNil))))) aNil)))
    (dRet (dComp (iOf (dVar 3)) [5, 4] (gT (gsCons (gN 5) (gsCons (gN 4) gsNil)) 2) tAll (dVar 4))))
abbrev B__law_by : PSpec := bodyW [] 6 3 w__law_by
def w__law_turned (n : Nat) : DS :=
  (dSeq (dAsg 3 (dTup (aCons (oVal (dCB gTuple (aCons (oVal (dCB gSorted (aCons (oVar 1) aNil))) aNil))) (aCons (oVal (dCall C__law_bounds (aCons (oVar 0) (aCons (oVar 1) aNil)))) aNil))))
    (dSeq (dIfS (tVal (dBin gEq (oVal (dCB gLen (aCons (oVar 1) aNil))) (oVal (dC (.int 1)))))
    (dRet (dBin gAdd (oVar 3) (oVal (dTup (aCons (oVal (dC .non)) (aCons (oVal (dC .non)) aNil))))))
    dNext)
    (dSeq (dAsg 4 (dCall C__law_by (aCons (oVar 0) (aCons (oVar 1) (aCons (oVar 2) aNil)))))
    (dSeq (dAsg 5 (dBin gDiv (oVal (dBin gAdd (oVal (dCB gLen (aCons (oVar 4) aNil))) (oVal (dC (.int 1))))) (oVal (dC (.int 2)))))
    (dSeq (dAsg 6 (dBin gMod (oVal (dBin gAdd (oVar 2) (oVal (dC (.int 1))))) (oVal (dCB gLen (aCons (oVal (dBin gIx (oVar 0) (oVal (dBin gIx (oVar 4) (oVal (dC (.int 0))))))) aNil)))))
    (dSeq (dAsg 7 (dCall (C__law_turned n) (aCons (oVar 0) (aCons (oVal (dSl (oVar 4) pNo (pInt (dVar 5)))) (aCons (oVar 6) aNil)))))
    (dRet (dBin gAdd (oVar 3) (oVal (dTup (aCons (oVar 7) (aCons (oVal (dCall (C__law_turned n) (aCons (oVar 0) (aCons (oVal (dSl (oVar 4) (pInt (dVar 5)) pNo)) (aCons (oVar 6) aNil))))) aNil))))))))))))
abbrev B__law_turned (n : Nat) : PSpec := bodyW [] 8 3 (w__law_turned n)
theorem all_true {α : Type} (l : List α) : asBls (l.map fun _ => D.bl true) = some (l.map fun _ => true) := by
  induction l with
  | nil => rfl
  | cons a l ih => simp only [List.map_cons, asBls, ih, Option.map_some]
theorem all_id {α : Type} (l : List α) : (l.map fun _ => true).all id = true := by simp
theorem zip_ris : ∀ {l : List Int}, l.Pairwise (· < ·) → ∀ p ∈ l.zip l.tail, p.1 < p.2
  | [], _, p, h => by simp at h
  | [a], _, p, h => by simp at h
  | a :: b :: l, hp, p, h => by
    simp only [List.tail_cons, List.zip_cons_cons, List.mem_cons] at h
    rcases h with rfl | h
    · exact (List.pairwise_cons.mp hp).1 b (by simp)
    · exact zip_ris (List.pairwise_cons.mp hp).2 p h
theorem imp_are_names : ∀ ds Q, C_are_names ds Q → B_are_names ds Q := by
  rintro ds Q ⟨l, rfl, ⟨l0, l3, ln, lp⟩, q⟩
  refine ⟨rfl, ?_⟩
  have sl := sizeLine_eq
  have e0 : (l.map D.int).isEmpty = false := by cases l <;> simp at l0 ⊢
  simp only [w_are_names, plc, e0, Bx.go]
  refine ⟨by omega, co_map l D.int (fun _ => .bl true) (fun n hn acc N hN => ?_) ?_⟩
  · simp only [Bx.go]
    refine ⟨n, rfl, ln n hn, ?_⟩
    simp only [Bx.go]
    exact hN
  · simp only [all_true, all_id, backR, Bx.go]
    rw [show Bx.cutD (l.map D.int) (some 1) none = l.tail.map D.int by rw [show (1 : Int) = ((1 : Nat) : Int) from rfl, Zh.cut_drop, ← List.map_drop, List.drop_one], zipD_map]
    refine ⟨by simp; omega, co_map (l.zip l.tail) (fun p => .tup [.int p.1, .int p.2]) (fun _ => .bl true) (fun p hp acc N hN => ?_) ?_⟩
    · have := zip_ris lp p hp
      simp only [this, Bx.go]
      exact hN
    · simp only [all_true, all_id, backR, Bx.go]
      exact q
def colL (ls : List (List Int)) (i : Nat) : List Int := ls.map (·.getD i 0)
theorem row_int {l : List Int} {i d : Nat} (h : l.length = d) (hi : i < d) (K : D → Prop) : gIx (plc l) (.int (i : Nat)) K = K (.int (l.getD i 0)) := by
  simp only [plc, Bx.go]
  rw [atI_int (by omega)]
  rfl
theorem bnd_rows {d : Nat} {ls : List (List Int)} {zs : List Th} (h0 : ls ≠ []) (hm : ∀ x, x ∈ ls ↔ ∃ t ∈ zs, t.2.1 = x) {i : Nat} (hi : i < d) : pD ((bnd d zs).getD i (none, none)) = .tup [.int (mnL (colL ls i)), .int (mxL (colL ls i))] := by
  have n0 : colL ls i ≠ [] := by simp [colL, h0]
  have mem : ∀ y, y ∈ colL ls i ↔ y ∈ zs.map fun t => t.2.1.getD i 0 := fun y => by
    rw [colL, List.mem_map, List.mem_map]
    constructor
    · rintro ⟨x, hx, rfl⟩
      obtain ⟨t, ht, rfl⟩ := (hm x).mp hx
      exact ⟨t, ht, rfl⟩
    · rintro ⟨t, ht, rfl⟩
      exact ⟨_, (hm _).mpr ⟨t, ht, rfl⟩, rfl⟩
  rw [List.getD_eq_getElem?_getD, bnd_at hi, ← mn_is ((mem _).mp (mn_mem n0).1) fun y hy => (mn_mem n0).2 y ((mem y).mpr hy), ← mx_is ((mem _).mp (mx_mem n0).1) fun y hy => (mx_mem n0).2 y ((mem y).mpr hy)]
  rfl
theorem bd_rng (d : Nat) (zs : List Th) : bdD d zs = .tup ((List.range d).map fun i => pD ((bnd d zs).getD i (none, none))) := by
  unfold bdD
  congr 1
  apply List.ext_getElem?
  intro i
  by_cases hi : i < d
  · rw [List.getElem?_map, List.getElem?_map, List.getElem?_range hi, bnd_at hi, Option.map_some, Option.map_some, List.getD_eq_getElem?_getD, bnd_at hi]
    rfl
  · rw [List.getElem?_eq_none (by rw [List.length_map, bnd_len]; omega), List.getElem?_eq_none (by simp; omega)]
theorem imp_bounds : ∀ ds Q, C_bounds ds Q → B_bounds ds Q := by
  rintro ds Q ⟨d, ls, zs, rfl, h0, hl, d4, hall, hm, q⟩
  refine ⟨rfl, ?_⟩
  have sl := sizeLine_eq
  have cl : ∀ k, colL ls k ≠ [] := fun k => by simp [colL, h0]
  refine seq_cut (fun ρ => ρ = [some (.lst false (ls.map plc)), some (.lst true ((List.range d).map fun i => .lst false ((colL ls i).map .int))), none, none, none]) (fun R hR => ?_) ?_
  · obtain ⟨l0, el, ll⟩ : ∃ l0, atI (ls.map plc) 0 = some (plc l0) ∧ l0.length = d := by
      cases ls with
      | nil => exact absurd rfl h0
      | cons l r => exact ⟨l, at0, hall l List.mem_cons_self⟩
    have gl : ∀ K : D → Prop, gLen [plc l0] K = K (.int l0.length) := fun K => by simp only [plc, Bx.go]
    simp only [el, gl, Bx.go]
    rw [ll, rangeD_nat, Int.toNat_natCast]
    refine ⟨i62_of (by omega) (by omega), by simp; omega, co_map (List.range d) (fun i : Nat => D.int i) (fun i => .lst false ((colL ls i).map .int)) (fun i hi acc N hN => ?_) ?_⟩
    · have hi := List.mem_range.mp hi
      simp only [Bx.go]
      refine ⟨by omega, co_map ls plc (fun l => .int (l.getD i 0)) (fun l hl' acc N hN => ?_) ?_⟩
      · simp only [row_int (hall l hl') hi, plc_frz, Bx.go]
        exact hN
      · simp only [backR, Bx.go]
        rw [show ls.map (fun l => D.int (l.getD i 0)) = (colL ls i).map .int by rw [colL, List.map_map]; rfl]
        exact hN
    · simp only [backR, Bx.go]
      exact hR _ rfl
  rintro _ rfl
  simp only [Bx.go]
  refine ⟨by simp; omega, co_map (List.range d) (fun i => D.lst false ((colL ls i).map .int)) (fun i => pD ((bnd d zs).getD i (none, none))) (fun i hi acc N hN => ?_) ?_⟩
  · have hi := List.mem_range.mp hi
    have hp : 0 < (colL ls i).length := List.length_pos_iff.mpr (cl i)
    rw [bnd_rows h0 hm hi] at hN
    simp only [Bx.asInts_map, Bx.go]
    refine ⟨hp, fun m m1 m2 => ⟨hp, fun M M1 M2 => ?_⟩⟩
    rw [← mn_is m1 m2, ← mx_is M1 M2] at hN
    exact hN
  · simp only [backR, Bx.go]
    rw [← bd_rng]
    exact q
theorem ix_pl {d : Nat} {ts : List Th} (h : House d ts) {t : Th} (ht : t ∈ ts) (K : D → Prop) : gIx (plD ts) (.int t.1) K = K (plc t.2.1) := by
  unfold plD
  simp only [pl_at h ht, Bx.go]
theorem pl_frz (ts : List Th) : (plD ts).frz = plD ts := rfl
theorem nms_len' (zs : List Th) : (nmsT zs).length = zs.length := by rw [nmsT, List.length_map]
theorem ints_map (zs : List Th) : (nmsT zs).map D.int = zs.map fun t => D.int t.1 := by rw [nmsT, List.map_map]; rfl
theorem imp__law_bounds : ∀ ds Q, C__law_bounds ds Q → B__law_bounds ds Q := by
  rintro ds Q ⟨d, ts, zs, rfl, h, h0, d4, q⟩
  refine ⟨rfl, ?_⟩
  have sl := sizeLine_eq
  have zl := h.len
  have hm : ∀ x, x ∈ zs.map (fun t => t.2.1) ↔ ∃ t ∈ zs, t.2.1 = x := fun x => List.mem_map
  have m0 : zs.map (fun t => t.2.1) ≠ [] := by simp [h0]
  have cl : ∀ k, colL (zs.map fun t => t.2.1) k ≠ [] := fun k => by simp [colL, h0]
  refine seq_cut (fun ρ => ρ = [some (plD ts), some (.lst false ((nmsT zs).map .int)), some (.lst true ((List.range d).map fun i => .lst false ((colL (zs.map fun t => t.2.1) i).map .int))), none, none, none]) (fun R hR => ?_) ?_
  · obtain ⟨t0, el, m0⟩ : ∃ t0, atI ((nmsT zs).map D.int) 0 = some (.int t0.1) ∧ t0 ∈ zs := by
      cases zs with
      | nil => exact absurd rfl h0
      | cons t r => exact ⟨t, at0, List.mem_cons_self⟩
    have gl : ∀ K : D → Prop, gLen [plc t0.2.1] K = K (.int d) := fun K => by simp only [plc, h.num t0 m0, Bx.go]
    simp only [el, ix_pl h.hs (h.mem t0 m0), gl, pl_frz, Bx.go]
    rw [rangeD_nat, Int.toNat_natCast]
    refine ⟨i62_of (by omega) (by omega), by simp; omega, co_map (List.range d) (fun i : Nat => D.int i) (fun i => .lst false ((colL (zs.map fun t => t.2.1) i).map .int)) (fun i hi acc N hN => ?_) ?_⟩
    · have hi := List.mem_range.mp hi
      simp only [Bx.go]
      refine ⟨by rw [nms_len']; omega, co_map (nmsT zs) D.int (fun n => .int ((plOf ts n).getD i 0)) (fun n hn acc N hN => ?_) ?_⟩
      · obtain ⟨t, ht, rfl⟩ := List.mem_map.mp hn
        rw [pl_own h.hs (h.mem t ht)] at hN
        simp only [ix_pl h.hs (h.mem t ht), row_int (h.num t ht) hi, pl_frz, plc_frz, Bx.go]
        exact hN
      · simp only [backR, Bx.go]
        rw [show (nmsT zs).map (fun n => D.int ((plOf ts n).getD i 0)) = (colL (zs.map fun t => t.2.1) i).map .int by
          rw [colL, nmsT, List.map_map, List.map_map, List.map_map]
          exact List.map_congr_left fun t ht => by simp only [Function.comp, pl_own h.hs (h.mem t ht)]]
        exact hN
    · simp only [backR, Bx.go]
      exact hR _ rfl
  rintro _ rfl
  simp only [Bx.go]
  refine ⟨by simp; omega, co_map (List.range d) (fun i => D.lst false ((colL (zs.map fun t => t.2.1) i).map .int)) (fun i => pD ((bnd d zs).getD i (none, none))) (fun i hi acc N hN => ?_) ?_⟩
  · have hi := List.mem_range.mp hi
    have hp : 0 < (colL (zs.map fun t => t.2.1) i).length := List.length_pos_iff.mpr (cl i)
    rw [bnd_rows m0 hm hi] at hN
    simp only [Bx.asInts_map, Bx.go]
    refine ⟨hp, fun m m1 m2 => ⟨hp, fun M M1 M2 => ?_⟩⟩
    rw [← mn_is m1 m2, ← mx_is M1 M2] at hN
    exact hN
  · simp only [backR, Bx.go]
    rw [← bd_rng]
    exact q
theorem sn_ne {zs : List Th} (h : zs ≠ []) : sN (nmsT zs) ≠ [] := fun e => by
  have := sN_len (nmsT zs)
  rw [e, nms_len'] at this
  exact h (List.length_eq_zero_iff.mp this.symm)
theorem atI_any' {α : Type} {f : α → D} {l : List α} {r : Int} (h0 : 0 ≤ r) (h1 : r < l.length) : ∃ x ∈ l, atI (l.map f) r = some (f x) := by
  have h : r.toNat < l.length := by omega
  refine ⟨l[r.toNat], List.getElem_mem h, ?_⟩
  rw [atI_nat' h0, List.getElem?_map, List.getElem?_eq_getElem h]; rfl
theorem imp__law_pick : ∀ ds Q, C__law_pick ds Q → B__law_pick ds Q := by
  rintro ds Q ⟨a, s, m, rfl, h0, h1, q⟩
  refine ⟨rfl, ?_⟩
  simp only [w__law_pick, Bx.go]
  have e0 : ∀ x y : Int, atI [D.int x, D.int y] 0 = some (.int x) := fun _ _ => rfl
  have e1 : ∀ x y : Int, atI [D.int x, D.int y] 1 = some (.int y) := fun _ _ => rfl
  have x0 : ixN 2 0 = some 0 := rfl
  have x1 : ixN 2 1 = some 1 := rfl
  simp only [e0, e1, Bx.go]
  refine pick_by (fun h => ?_) (fun h => ?_)
  · simp only [e0, e1, x0, x1, Nat.zero_add, Bx.go]
    exact ⟨h0, ⟨h0, by omega⟩, q _ _ _ (Int.emod_nonneg _ (by omega)) (Int.emod_lt_of_pos _ h0)⟩
  · simp only [e0, e1, x0, x1, Nat.zero_add, Bx.go]
    refine ⟨.inr (.inl ⟨by decide, by decide⟩), by decide, ?_, by decide, h0, q _ _ _ (Int.emod_nonneg _ (by omega)) (Int.emod_lt_of_pos _ h0)⟩
    have z1 := Int.emod_nonneg (s * 48271 + 12345) (show (2147483647 : Int) ≠ 0 by decide)
    have z2 := Int.emod_lt_of_pos (s * 48271 + 12345) (show (0 : Int) < 2147483647 by decide)
    exact .inl ⟨by omega, by omega⟩
theorem imp__law_number : ∀ ds Q, C__law_number ds Q → B__law_number ds Q := by
  rintro ds Q ⟨a, s, w, rfl, w0, w4, q⟩
  refine ⟨rfl, ?_⟩
  have hw : w = 0 ∨ w = 1 ∨ w = 2 ∨ w = 3 := by omega
  have e18 : (10 : Int) ^ Int.toNat 18 = 10 ^ 18 := rfl
  have e17 : (10 : Int) ^ Int.toNat 17 = 10 ^ 17 := rfl
  have e6 : (10 : Int) ^ Int.toNat 6 = 1000000 := rfl
  have o : ∀ i j : Int, D.eqOk (.int i) (.int j) := eqOk_int
  rcases hw with rfl | rfl | rfl | rfl
  · simp only [w__law_number, hd, Bx.go]
    refine ⟨o _ _, ?_⟩
    simp only [eqv_int, beq_self_eq_true, Bx.go]
    refine ⟨a, s, 3, rfl, by decide, by decide, fun r a s h0 h1 => ?_⟩
    simp only [Bx.go]
    exact q r a s ⟨by omega, by omega⟩
  · simp only [w__law_number, hd, Bx.go]
    refine ⟨o _ _, ?_⟩
    simp only [eqv_int, show ((1 : Int) == 0) = false from rfl, Bx.go]
    refine ⟨o _ _, ?_⟩
    simp only [eqv_int, beq_self_eq_true, Bx.go]
    refine ⟨a, s, 19, rfl, by decide, by decide, fun r a s h0 h1 => ?_⟩
    simp only [Bx.go]
    exact q (r - 9) a s ⟨by omega, by omega⟩
  · simp only [w__law_number, hd, Bx.go]
    refine ⟨o _ _, ?_⟩
    simp only [eqv_int, show ((2 : Int) == 0) = false from rfl, Bx.go]
    refine ⟨o _ _, ?_⟩
    simp only [eqv_int, show ((2 : Int) == 1) = false from rfl, Bx.go]
    refine ⟨o _ _, ?_⟩
    simp only [eqv_int, beq_self_eq_true, Bx.go]
    refine ⟨⟨by decide, by decide, by decide⟩, ⟨by decide, by decide, by decide⟩, ⟨by decide, by decide, by decide⟩, a, s, 3, rfl, by decide, by decide, fun r1 a s g0 g1 => ?_⟩
    simp only [Bx.go]
    refine ⟨a, s, 5, rfl, by decide, by decide, fun r a s h0 h1 => ?_⟩
    obtain ⟨v, ev, hv⟩ := atI_of (ns := [10 ^ Int.toNat 18 - 2, 2 - 10 ^ Int.toNat 18, 0, 1, 10 ^ Int.toNat 17 + r1]) smI (fun v hv => by
      simp only [List.mem_cons, List.not_mem_nil, or_false] at hv
      rw [e18, e17] at hv
      unfold smI
      rcases hv with rfl | rfl | rfl | rfl | rfl <;> constructor <;> omega) h0 (by simpa using h1)
    simp only [List.map] at ev
    simp only [ev, Bx.go]
    exact q v a s hv
  · simp only [w__law_number, hd, Bx.go]
    refine ⟨o _ _, ?_⟩
    simp only [eqv_int, show ((3 : Int) == 0) = false from rfl, Bx.go]
    refine ⟨o _ _, ?_⟩
    simp only [eqv_int, show ((3 : Int) == 1) = false from rfl, Bx.go]
    refine ⟨o _ _, ?_⟩
    simp only [eqv_int, show ((3 : Int) == 2) = false from rfl, Bx.go]
    refine ⟨⟨by decide, by decide, by decide⟩, a, s, 1000000, rfl, by decide, by decide, fun r a s h0 h1 => ?_⟩
    simp only [Bx.go]
    exact q (r - 500000) a s ⟨by omega, by omega⟩
theorem imp__law_house : ∀ ds Q, C__law_house ds Q → B__law_house ds Q := by
  rintro ds Q ⟨a, s, d, sz, rfl, z0, z20, zm, d4, q⟩
  refine ⟨rfl, ?_⟩
  have sl := sizeLine_eq
  obtain ⟨S, eS⟩ : ∃ S, S = D.lst false (sz.map fun n : Nat => D.int n) := ⟨_, rfl⟩
  have Sf : S.frz = S := by rw [eS]; rfl
  have gS : ∀ K : D → Prop, gLen [S] K = K (.int sz.length) := fun K => by rw [eS]; simp only [Bx.go]
  have at3 : ∀ {ns : List Int} {r : Int}, (∀ v ∈ ns, 0 ≤ v ∧ v < 4) → 0 ≤ r → r < ns.length → ∃ v, atI (ns.map D.int) r = some (.int v) ∧ 0 ≤ v ∧ v < 4 := fun hn h0 h1 => atI_of (fun v => 0 ≤ v ∧ v < 4) hn h0 h1
  rw [← eS]
  refine seq_cut (fun ρ => ∃ (a s : Int) (ws : List Int), ws.length = d ∧ (∀ w ∈ ws, 0 ≤ w ∧ w < 4) ∧ ρ = [some (hd a s), some (.int d), some S, some (.lst true (ws.map .int)), none, none, none, none, none, none, none]) (fun R hR => ?_) ?_
  · simp only [Bx.go]
    rw [rangeD_nat, Int.toNat_natCast]
    refine ⟨i62_of (by omega) (by omega), by simp; omega, co_each (List.range d) (fun i : Nat => D.int i) (fun dm acc ρ => ∃ (a s : Int) (p : List Int), acc = p.map .int ∧ p.length = dm.length ∧ (∀ w ∈ p, 0 ≤ w ∧ w < 4) ∧ ρ = [some (hd a s), some (.int d), some S, none, none, none, none, none, none, none, none]) ⟨a, s, [], rfl, rfl, fun _ h => absurd h List.not_mem_nil, rfl⟩ ?_ ?_⟩
    · rintro dm y r acc ρ N e2 ⟨a, s, p, rfl, pl', pS, rfl⟩ hN
      simp only [hd, Bx.go]
      refine ⟨a, s, 4, rfl, by decide, by decide, fun r a s h0 h1 => ?_⟩
      simp only [Bx.go]
      exact hN _ _ ⟨a, s, p ++ [r], by simp, by simp [pl'], fun x hx => by
        rcases List.mem_append.mp hx with hx | hx
        · exact pS x hx
        · simp at hx; subst hx; exact ⟨h0, h1⟩, rfl⟩
    · rintro acc ρ ⟨a, s, p, rfl, pl', pS, rfl⟩
      simp only [backR, Bx.go]
      simp at pl'
      exact hR _ ⟨a, s, p, pl', pS, rfl⟩
  clear a s
  rintro _ ⟨a, s, ws, wl, wS, rfl⟩
  refine seq_cut (fun ρ => ∃ (a s kd : Int), 0 ≤ kd ∧ kd < 4 ∧ ρ = [some (hd a s), some (.int d), some S, some (.lst true (ws.map .int)), some (.int kd), none, none, none, none, none, none]) (fun R hR => ?_) ?_
  · simp only [hd, Bx.go]
    refine ⟨a, s, 4, rfl, by decide, by decide, fun r a s h0 h1 => ?_⟩
    obtain ⟨v, ev, hv⟩ := at3 (ns := [0, 1, 1, 2]) (by decide) h0 (by simpa using h1)
    simp only [List.map] at ev
    simp only [ev, Bx.go]
    exact hR _ ⟨a, s, v, hv.1, hv.2, rfl⟩
  clear a s
  rintro _ ⟨a, s, kd, kd0, kd4, rfl⟩
  refine seq_cut (fun ρ => ρ = [some (hd a s), some (.int d), some S, some (.lst true (ws.map .int)), some (.int kd), some (.lst true []), none, none, none, none, none]) (fun R hR => ?_) ?_
  · simp only [Bx.go]
    exact hR _ rfl
  rintro _ rfl
  refine seq_cut (fun ρ => ρ = [some (hd a s), some (.int d), some S, some (.lst true (ws.map .int)), some (.int kd), some (.lst true []), some (.int 0), none, none, none, none]) (fun R hR => ?_) ?_
  · simp only [Bx.go]
    exact hR _ rfl
  rintro _ rfl
  refine seq_cut (fun ρ => ∃ (a s : Int) (ts : List Th) (w : D) (x6 x7 x8 x9 x10 : Option D), ts.length ∈ sz ∧ HouseS d ts ∧ ρ = [some (hd a s), some (.int d), some S, some w, some (.int kd), some (.lst true (ts.map thD)), x6, x7, x8, x9, x10]) (fun R hR => ?_) ?_
  · simp only [hd, gS, Bx.go]
    refine ⟨a, s, sz.length, rfl, by have := List.length_pos_iff.mpr z0; omega, by omega, fun r a s h0 h1 => ?_⟩
    obtain ⟨m, hm, er⟩ := atI_any' (f := fun n : Nat => D.int n) h0 h1
    have m100 := zm m hm
    have gx : ∀ K : D → Prop, gIx S (.int r) K = K (.int m) := fun K => by rw [eS]; simp only [er, Bx.go]
    simp only [gx, Bx.go]
    rw [rangeD_nat, Int.toNat_natCast]
    refine ⟨i62_of (by omega) (by omega), ?_⟩
    refine for_each (List.range m) (fun i : Nat => D.int i) (fun dn ρ => ∃ (a s nm : Int) (ts : List Th) (b : Bool) (x7 x8 x9 x10 : Option D), ts.length = dn.length ∧ HouseS d ts ∧ 0 ≤ nm ∧ nm ≤ 3 * dn.length ∧ (∀ t ∈ ts, t.1 ≤ nm) ∧ ρ = [some (hd a s), some (.int d), some S, some (.lst b (ws.map .int)), some (.int kd), some (.lst true (ts.map thD)), some (.int nm), x7, x8, x9, x10])
      ⟨a, s, 0, [], _, _, _, _, _, rfl, ⟨⟨by simp, fun _ h => absurd h List.not_mem_nil, fun _ h => absurd h List.not_mem_nil, .nil⟩, fun _ h => absurd h List.not_mem_nil, fun _ h => absurd h List.not_mem_nil⟩, by omega, by simp, fun _ h => absurd h List.not_mem_nil, rfl⟩ ?_ ?_
    · rintro dn x r ρ N e ⟨a, s, nm, ts, b, x7, x8, x9, x10, tl, ht, nm0, nm1, hr, rfl⟩ hN
      have ex : x = dn.length := by
        have : (List.range m)[dn.length]? = some x := by rw [e]; simp
        exact (List.getElem?_eq_some_iff.mp this).2.symm.trans (by simp)
      have e := congrArg List.length e
      simp at e
      simp only [u1_gT, u2_gT, u1_gsCons, u2_gsCons, u1_gsNil, u2_gsNil, u1_kGs, u1_gN, u1_kForB, rset_s, rset_0, rget_s, rget_0, D.seq, D.sql, u_onSome_some, frz_tup, frz_int, frz_bl, frz_lst, frz_str, frz_non, frz_scr, List.length_cons, List.length_nil, List.map_cons, List.map_nil, Option.bind_some, true_and, and_true]
      refine seq_cut (fun ρ => ∃ (a s nm' : Int), 0 ≤ nm' ∧ nm' ≤ nm + 3 ∧ (∀ t ∈ ts, t.1 < nm') ∧ ρ = [some (hd a s), some (.int d), some S, some (.lst b (ws.map .int)), some (.int kd), some (.lst true (ts.map thD)), some (.int nm'), some (.int (x : Nat)), x8, x9, x10]) (fun R hR => ?_) ?_
      · simp only [hd, Bx.go]
        refine ⟨a, s, 3, rfl, by decide, by decide, fun r a s h0 h1 => ?_⟩
        simp only [Bx.go]
        refine hR _ ⟨a, s, _, ?_, ?_, fun t ht' => ?_, rfl⟩
        · split <;> omega
        · split <;> omega
        · have h1 := hr t ht'
          have h2 : 0 < ts.length := List.length_pos_of_mem ht'
          have h3 : decide ((x : Int) > 0) = true := decide_eq_true (by omega)
          rw [h3]
          simp only [if_true]
          omega
      clear a s
      rintro _ ⟨a, s, nm', hnm, hnm3, hlt, rfl⟩
      refine seq_cut (fun ρ => ∃ (a s : Int) (b : Bool) (p : List Int) (x10 : Option D), p.length = d ∧ (∀ x ∈ p, smI x) ∧ ρ = [some (hd a s), some (.int d), some S, some (.lst b (ws.map .int)), some (.int kd), some (.lst true (ts.map thD)), some (.int nm'), some (.int (x : Nat)), some (plc p), x9, x10]) (fun R hR => ?_) ?_
      · simp only [Bx.go]
        refine ⟨by omega, co_each ws D.int (fun dm acc ρ => ∃ (a s : Int) (p : List Int), acc = p.map .int ∧ p.length = dm.length ∧ (∀ x ∈ p, smI x) ∧ ρ = [some (hd a s), some (.int d), some S, some (.lst false (ws.map .int)), some (.int kd), some (.lst true (ts.map thD)), some (.int nm'), some (.int (x : Nat)), x8, x9, none]) ⟨a, s, [], rfl, rfl, fun _ h => absurd h List.not_mem_nil, rfl⟩ ?_ ?_⟩
        · rintro dm y r acc ρ N e2 ⟨a, s, p, rfl, pl', pS, rfl⟩ hN
          have wy := wS y (by rw [e2]; simp)
          simp only [hd, Bx.go]
          refine ⟨a, s, y, rfl, wy.1, wy.2, fun v a s hv => ?_⟩
          simp only [Bx.go]
          exact hN _ _ ⟨a, s, p ++ [v], by simp, by simp [pl'], fun x hx => by
            rcases List.mem_append.mp hx with hx | hx
            · exact pS x hx
            · simp at hx; subst hx; exact hv, rfl⟩
        · rintro acc ρ ⟨a, s, p, rfl, pl', pS, rfl⟩
          simp only [backR, Bx.go]
          exact hR _ ⟨a, s, _, p, _, by omega, pS, rfl⟩
      clear a s b x10
      rintro _ ⟨a, s, b, p, x10, pl', pS, rfl⟩
      refine seq_cut (fun ρ => ∃ (a s : Int) (p : List Int), p.length = d ∧ (∀ x ∈ p, smI x) ∧ ρ = [some (hd a s), some (.int d), some S, some (.lst b (ws.map .int)), some (.int kd), some (.lst true (ts.map thD)), some (.int nm'), some (.int (x : Nat)), some (plc p), x9, x10]) (fun R hR => ?_) ?_
      · simp only [hd, Bx.go]
        refine pick_by (fun hx => ?_) (fun hx => ?_)
        · have x0 : (0 : Int) < x := of_decide_eq_true hx
          simp only [Bx.go]
          refine ⟨a, s, 6, rfl, by decide, by decide, fun r a s h0 h1 => ?_⟩
          simp only [Bx.go]
          refine ⟨eqOk_int _ _, ?_⟩
          refine pick_by (fun _ => ?_) (fun _ => ?_)
          · simp only [Bx.go]
            refine ⟨a, s, x, rfl, by omega, by omega, fun r a s h0 h1 => ?_⟩
            have hr' : r.toNat < ts.length := by omega
            have er := atI_map (f := thD) (List.getElem?_eq_getElem hr')
            rw [Int.toNat_of_nonneg h0] at er
            have hp := ht.hs.num _ (List.getElem_mem hr')
            have hp2 := (ht.sm _ (List.getElem_mem hr')).1
            simp only [er, thD, q1, Bx.go]
            exact hR _ ⟨a, s, _, hp, hp2, rfl⟩
          · simp only [Bx.go]
            exact hR _ ⟨a, s, p, pl', pS, rfl⟩
        · simp only [Bx.go]
          exact hR _ ⟨a, s, p, pl', pS, rfl⟩
      clear pl' pS p a s
      rintro _ ⟨a, s, p, pl', pS, rfl⟩
      simp only [hd, Bx.go]
      refine ⟨a, s, kd, rfl, kd0, kd4, fun wo a s hwo => ?_⟩
      simp only [plc_frz, Bx.go]
      refine ⟨by omega, hN _ ⟨a, s, nm', ts ++ [(nm', p, wo)], b, _, _, _, _, by simp [tl], ht.snoc (by omega) pl' (by omega) (fun t h => hlt t h) (by simp only; omega) ⟨pS, hwo⟩, by omega, by simp; omega, fun t h => ?_, by rw [List.map_append]; rfl⟩⟩
      rcases List.mem_append.mp h with h | h
      · have := hlt t h; omega
      · simp at h; subst h; exact Int.le_refl _
    · rintro ρ ⟨a, s, nm, ts, b, x7, x8, x9, x10, tl, ht, nm0, nm1, hr, rfl⟩
      simp at tl
      exact hR _ ⟨a, s, ts, _, _, _, _, _, _, by rw [tl]; exact hm, ht, rfl⟩
  clear a s
  rintro _ ⟨a, s, ts, w, x6, x7, x8, x9, x10, hm, ht, rfl⟩
  simp only [Bx.go]
  exact q ts a s hm ht
theorem imp__law_same (n : Nat) : ∀ ds Q, C__law_same (n + 1) ds Q → B__law_same n ds Q := by
  rintro ds Q ⟨y, rfl, hy, n64, q⟩
  refine ⟨rfl, ?_⟩
  have bb : ∀ b : Bool, (b == b) = true := fun b => by cases b <;> rfl
  have eq (i : Int) : (i == i) = true := by simp
  cases y with
  | int i =>
    simp only [w__law_same, Bool.or_false, Bool.or_true, Bool.false_or, Bool.or_self, Bx.go]
    refine ⟨eqOk_bl _ _, ?_⟩
    simp only [eqv_bl, bb, Bool.not_true, Bx.go]
    refine ⟨eqOk_bl _ _, ?_⟩
    try simp only [eqv_bl, bb, Bx.go]
    refine ⟨eqOk_int _ _, ?_⟩
    simp only [eqv_int, eq, Bx.go]
    exact q
  | non =>
    simp only [w__law_same, Bool.or_false, Bool.or_true, Bool.false_or, Bool.or_self, Bx.go]
    refine ⟨eqOk_bl _ _, ?_⟩
    simp only [eqv_bl, bb, Bool.not_true, Bx.go]
    refine ⟨eqOk_bl _ _, ?_⟩
    try simp only [eqv_bl, bb, Bx.go]
    refine ⟨eqOk_of (n := 1) (m := 1) trivial trivial (by decide), ?_⟩
    rw [eqv_refl (n := 1) (x := D.non) trivial]
    exact q
  | bl b =>
    simp only [w__law_same, Bool.or_false, Bool.or_true, Bool.false_or, Bool.or_self, Bx.go]
    refine ⟨eqOk_bl _ _, ?_⟩
    simp only [eqv_bl, bb, Bool.not_true, Bx.go]
    refine ⟨eqOk_bl _ _, ?_⟩
    try simp only [eqv_bl, bb, Bx.go]
    refine ⟨eqOk_bl _ _, ?_⟩
    try simp only [eqv_bl, bb, Bx.go]
    exact q
  | str z =>
    simp only [w__law_same, Bool.or_false, Bool.or_true, Bool.false_or, Bool.or_self, Bx.go]
    refine ⟨eqOk_bl _ _, ?_⟩
    simp only [eqv_bl, bb, Bool.not_true, Bx.go]
    refine ⟨eqOk_bl _ _, ?_⟩
    try simp only [eqv_bl, bb, Bx.go]
    refine ⟨eqOk_str hy hy, ?_⟩
    simp only [eqv_str, beq_self_eq_true, Bx.go]
    exact q
  | tup xs =>
    simp only [w__law_same, Bool.or_false, Bool.or_true, Bool.false_or, Bool.or_self, Bx.go]
    refine ⟨eqOk_bl _ _, ?_⟩
    try simp only [eqv_bl, bb, Bool.not_true, Bx.go]
    refine ⟨eqOk_bl _ _, ?_⟩
    try simp only [eqv_bl, bb, Bool.not_true, Bx.go]
    refine ⟨eqOk_int _ _, ?_⟩
    simp only [eqv_int, eq, Bool.not_true, Bx.go]
    refine ⟨Nat.le_trans zipD_len' hy.1, ?_⟩
    refine comp_rule (fun items acc ρ => ρ = [some (.tup xs), some (.tup xs), none, none] ∧ (∃ r, items = zipD r r ∧ ∀ x ∈ r, x ∈ xs) ∧ ∃ k, acc = List.replicate k (.bl true)) ⟨rfl, ⟨xs, rfl, fun _ h => h⟩, 0, rfl⟩ ?_ ?_
    · rintro acc ρ ⟨rfl, _, k, rfl⟩
      simp only [bls_true, Bx.go]
      rw [show (List.replicate k true).all id = true by simp]
      exact q
    · rintro x r acc ρ N ⟨rfl, ⟨l, hl, hm⟩, k, rfl⟩ hN
      obtain ⟨a, b, as, bs, e1, e2, rfl, rfl⟩ := zip_same hl.symm
      subst e1
      cases e2
      have ha := hy.2 a (hm a List.mem_cons_self)
      have hf := ha.frz
      simp only [hf, Bx.go]
      refine ⟨a, rfl, ha, by omega, ?_⟩
      simp only [hf, Bx.go]
      refine hN _ _ ⟨rfl, ⟨as, rfl, fun x hx => hm x (List.mem_cons_of_mem _ hx)⟩, k + 1, ?_⟩
      rw [List.replicate_succ']
  | lst o xs => exact hy.elim
  | scr xs => exact hy.elim
  | dic ks xs => exact hy.elim
  | odc ks xs => exact hy.elim
  | obj _ _ _ => exact hy.elim
  | ob2 _ _ => exact hy.elim
  | exc _ _ => exact hy.elim
  | box _ _ => exact hy.elim
theorem pr_srt (i d : Nat) (ts : List Th) : srtOk (ts.map (prD i d)) := by
  have e : ∀ t : Th, (prD i d t).pd = .tuple [.tuple ((rot i d t).map .int), .int t.1] := fun t => by
    simp only [prD, D.pd, D.pds, pds_ints]
  refine ⟨fun x hx y hy => ?_, .inl fun x hx => ?_, fun x hx => ?_⟩
  · rw [List.map_map] at hx hy
    obtain ⟨t, _, rfl⟩ := List.mem_map.mp hx
    obtain ⟨u, _, rfl⟩ := List.mem_map.mp hy
    simp only [Function.comp, e, PySem.W.alike, PySem.W.alikeAll, PySem.W.alike_ints, Bool.and_true]
  · rw [List.map_map] at hx
    obtain ⟨t, _, rfl⟩ := List.mem_map.mp hx
    exact ⟨_, _, e t⟩
  · obtain ⟨t, _, rfl⟩ := List.mem_map.mp hx
    have : okE 2 (prD i d t) := by
      intro x hx
      simp only [List.mem_cons, List.not_mem_nil, or_false] at hx
      rcases hx with rfl | rfl
      · intro y hy
        obtain ⟨j, _, rfl⟩ := List.mem_map.mp hy; trivial
      · trivial
    have := this.dep
    omega
theorem imp__law_by : ∀ ds Q, C__law_by ds Q → B__law_by ds Q := by
  rintro ds Q ⟨d, i, ts, zs, rfl, h, hi, d4, q⟩
  refine ⟨rfl, ?_⟩
  have sl := sizeLine_eq
  have zl := h.len
  simp only [w__law_by, Bx.go]
  refine ⟨by rw [nms_len']; omega, co_map (nmsT zs) D.int (fun n => .tup [.tup ((plOf ts n).drop i ++ (plOf ts n).take i |>.map .int), .int n]) (fun n hn acc N hN => ?_) ?_⟩
  · obtain ⟨t, ht, rfl⟩ := List.mem_map.mp hn
    rw [pl_own h.hs (h.mem t ht)] at hN
    have ln := h.num t ht
    simp only [ix_pl h.hs (h.mem t ht), pl_frz, plc, Bx.go]
    rw [Zh.cut_drop, Zh.cut_take, ← List.map_drop, ← List.map_take, ← List.map_append]
    exact ⟨by simp; omega, hN⟩
  · simp only [backR, Bx.go]
    rw [show (nmsT zs).map (fun n => D.tup [.tup ((plOf ts n).drop i ++ (plOf ts n).take i |>.map .int), .int n]) = zs.map (prD i d) by
      rw [nmsT, List.map_map]
      exact List.map_congr_left fun t ht => by
        simp only [Function.comp, pl_own h.hs (h.mem t ht), prD, rot_eq (h.num t ht) hi]]
    refine ⟨pr_srt i d zs, ?_⟩
    rw [sort_pr h]
    refine ⟨by simp [by_len]; omega, co_map (byT i d zs) (prD i d) (fun t => .int t.1) (fun t hm acc N hN => ?_) ?_⟩
    · simp only [prD, Bx.go]
      exact hN
    · simp only [backR, Bx.go]
      rw [ints_map] at q
      exact q
theorem imp__law_turned (n : Nat) : ∀ ds Q, C__law_turned (n + 1) ds Q → B__law_turned n ds Q := by
  rintro ds Q ⟨d, i, ts, zs, rfl, h, h0, hn, hi, d4, q⟩
  refine ⟨rfl, ?_⟩
  have sl := sizeLine_eq
  have zl := h.len
  have z0 := List.length_pos_iff.mpr h0
  refine seq_cut (fun ρ => ρ = [some (plD ts), some (.lst false ((nmsT zs).map .int)), some (.int i), some (.tup [plc (sN (nmsT zs)), bdD d zs]), none, none, none, none]) (fun R hR => ?_) ?_
  · simp only [pl_frz, Bx.go]
    refine ⟨srtOk_ints _, ?_⟩
    rw [sort_ints]
    refine ⟨d, ts, zs, rfl, h, h0, d4, ?_⟩
    simp only [show (bdD d zs).frz = bdD d zs from rfl, Bx.go]
    exact hR _ rfl
  rintro _ rfl
  by_cases c : zs.length = 1
  · obtain ⟨t, rfl⟩ : ∃ t, zs = [t] := by
      match zs, c with
      | [t], _ => exact ⟨t, rfl⟩
    simp only [nms_len', Bx.go]
    refine ⟨eqOk_int _ _, ?_⟩
    simp only [eqv_int, List.length_cons, List.length_nil, show ((((0 + 1 : Nat) : Int)) == 1) = true from rfl, Bx.go]
    refine ⟨by omega, ?_⟩
    rw [tur_one] at q
    rw [show sN (nmsT [t]) = [t.1] from sN_is (.refl _) (by simp)]
    exact q
  have z2 : 1 < zs.length := by omega
  have e1 : ((zs.length : Int) == 1) = false := by simp; omega
  refine seq_cut (fun ρ => ρ = [some (plD ts), some (.lst false ((nmsT zs).map .int)), some (.int i), some (.tup [plc (sN (nmsT zs)), bdD d zs]), none, none, none, none]) (fun R hR => ?_) ?_
  · simp only [nms_len', Bx.go]
    refine ⟨eqOk_int _ _, ?_⟩
    simp only [eqv_int, e1, Bx.go]
    exact hR _ rfl
  rintro _ rfl
  obtain ⟨R, eR⟩ : ∃ R, R = nmsT (byT i d zs) := ⟨_, rfl⟩
  have Rl : R.length = zs.length := by rw [eR, nms_len', by_len]
  refine seq_cut (fun ρ => ρ = [some (plD ts), some (.lst false ((nmsT zs).map .int)), some (.int i), some (.tup [plc (sN (nmsT zs)), bdD d zs]), some (.lst true (R.map .int)), none, none, none]) (fun W hR => ?_) ?_
  · simp only [pl_frz, Bx.go]
    refine ⟨d, i, ts, zs, rfl, h, hi, d4, ?_⟩
    simp only [Bx.go]
    rw [← eR]
    exact hR _ rfl
  rintro _ rfl
  obtain ⟨m, em⟩ : ∃ m, m = (zs.length + 1) / 2 := ⟨_, rfl⟩
  refine seq_cut (fun ρ => ρ = [some (plD ts), some (.lst false ((nmsT zs).map .int)), some (.int i), some (.tup [plc (sN (nmsT zs)), bdD d zs]), some (.lst true (R.map .int)), some (.int m), none, none]) (fun W hR => ?_) ?_
  · simp only [Rl, Bx.go]
    refine ⟨cdiv2, ?_⟩
    rw [show ((zs.length : Int) + 1) / 2 = (m : Nat) by omega]
    exact hR _ rfl
  rintro _ rfl
  refine seq_cut (fun ρ => ρ = [some (plD ts), some (.lst false ((nmsT zs).map .int)), some (.int i), some (.tup [plc (sN (nmsT zs)), bdD d zs]), some (.lst true (R.map .int)), some (.int m), some (.int ((i + 1) % d : Nat)), none]) (fun W hR => ?_) ?_
  · obtain ⟨t0, el, mt⟩ : ∃ t0, atI (R.map D.int) 0 = some (.int t0.1) ∧ t0 ∈ ts := by
      cases e : byT i d zs with
      | nil => rw [e] at eR; rw [eR] at Rl; simp [nmsT] at Rl; omega
      | cons t r =>
        refine ⟨t, ?_, h.mem t (by_mem.mp (by rw [e]; exact List.mem_cons_self))⟩
        rw [eR, e]; exact at0
    have gl : ∀ K : D → Prop, gLen [plc t0.2.1] K = K (.int d) := fun K => by simp only [plc, h.hs.num t0 mt, Bx.go]
    simp only [el, ix_pl h.hs mt, gl, pl_frz, Bx.go]
    refine ⟨by omega, ?_⟩
    rw [show ((i : Int) + 1) % (d : Int) = ((i + 1) % d : Nat) by simp]
    exact hR _ rfl
  rintro _ rfl
  have t1 : R.take m = nmsT ((byT i d zs).take m) := by rw [eR, nmsT, nmsT, List.map_take]
  have t2 : R.drop m = nmsT ((byT i d zs).drop m) := by rw [eR, nmsT, nmsT, List.map_drop]
  have l1 : ((byT i d zs).take m).length = m := by rw [List.length_take, by_len]; omega
  have l2 : ((byT i d zs).drop m).length = zs.length - m := by rw [List.length_drop, by_len]
  have n1 : (byT i d zs).take m ≠ [] := fun e => by rw [e] at l1; simp at l1; omega
  have n2 : (byT i d zs).drop m ≠ [] := fun e => by rw [e] at l2; simp at l2; omega
  have ha : (i + 1) % d < d := Nat.mod_lt _ (by omega)
  obtain ⟨hp1, hp2⟩ : 2 * ((byT i d zs).take m).length ≤ 2 ^ n ∧ 2 * ((byT i d zs).drop m).length ≤ 2 ^ n := by
    rw [l1, l2]
    cases n with
    | zero => rw [Nat.pow_succ, Nat.pow_zero] at hn; omega
    | succ n => rw [Nat.pow_succ, Nat.pow_succ] at hn; rw [Nat.pow_succ]; omega
  rw [tur_two z2, ← em] at q
  simp only [pl_frz, Bx.go]
  rw [Zh.cut_take, ← List.map_take]
  refine ⟨d, (i + 1) % d, ts, (byT i d zs).take m, by rw [t1], h.by.take, n1, hp1, ha, d4, ?_⟩
  simp only [bt_frz, pl_frz, Bx.go]
  rw [Zh.cut_drop, ← List.map_drop]
  refine ⟨d, (i + 1) % d, ts, (byT i d zs).drop m, by rw [t2], h.by.drop, n2, hp2, ha, d4, ?_⟩
  simp only [bt_frz, Bx.go]
  refine ⟨by omega, ?_⟩
  have p : ((turT d ((byT i d zs).take m) ((i + 1) % d)).ths ++ (turT d ((byT i d zs).drop m) ((i + 1) % d)).ths).Perm zs := by
    refine ((tur_ths _ _ _ (Nat.le_refl _) n1).append (tur_ths _ _ _ (Nat.le_refl _) n2)).trans ?_
    rw [List.take_append_drop]
    exact by_perm i d zs
  unfold btD at q
  rw [sN_congr (nms_perm p.symm), show bdD d ((turT d ((byT i d zs).take m) ((i + 1) % d)).ths ++ (turT d ((byT i d zs).drop m) ((i + 1) % d)).ths) = bdD d zs by unfold bdD; rw [bnd_congr (fun t => p.mem_iff) (by simp [bt_ne])]] at q
  exact q
theorem f0 {a b c e : D} : atI [a, b, c, e] 0 = some a := by rw [atI_nat' (by decide)]; rfl
theorem f1 {a b c e : D} : atI [a, b, c, e] 1 = some b := by rw [atI_nat' (by decide)]; rfl
def BT.sz : BT → Nat
  | .leaf _ => 1
  | .node l h => 1 + l.sz + h.sz
theorem ix0_bt {d : Nat} {T : BT} (K : D → Prop) : gIx (btD d T) (.int 0) K = K (plc (sN (nmsT T.ths))) := by
  obtain ⟨lo, hi, e⟩ := bt_parts d T
  rw [e]
  simp only [f0, Bx.go]
def BT.dep : BT → Nat
  | .leaf _ => 0
  | .node l h => 1 + max l.dep h.dep
end Zt
namespace Zu
open PySem PySem.Spec PyProof.Rows L2 Bx Zb Zp Zm Zh Zf Zq Zr Zs Zl Zn Zo Zt
def mnZ (zs : List Th) (i : Nat) : Int := mnL (zs.map fun t => t.2.1.getD i 0)
def mxZ (zs : List Th) (i : Nat) : Int := mxL (zs.map fun t => t.2.1.getD i 0)
def pN (ps : List Pr) (i : Nat) : Pr := ps.getD i (none, none)
def outZ (d : Nat) (zs : List Th) (ps : List Pr) : Bool := (List.range d).any fun i => ltO (pN ps i).1 (mxZ zs i) || gtO (pN ps i).2 (mnZ zs i) || cr (pN ps i)
def innZ (d : Nat) (zs : List Th) (ps : List Pr) : Bool := (List.range d).all fun i => !ltO (pN ps i).1 (mnZ zs i) && !gtO (pN ps i).2 (mxZ zs i)
def takT (d : Nat) (ps : List Pr) : BT → List (List Int) × Nat
  | .leaf t => if outZ d [t] ps then ([], 1) else ([[t.1]], 1)
  | .node l h => if outZ d (l.ths ++ h.ths) ps then ([], 1) else if innZ d (l.ths ++ h.ths) ps then ([sN (nmsT (l.ths ++ h.ths))], 1)
    else ((takT d ps l).1 ++ (takT d ps h).1, 1 + (takT d ps l).2 + (takT d ps h).2)
def fitP (d : Nat) (ps : List Pr) (t : Th) : Bool := (List.range d).all fun i => inP (pN ps i) (t.2.1.getD i 0)
def tkR (r : List (List Int) × Nat) : D := .tup [.tup (r.1.map plc), .int r.2]
abbrev C_plain_box : PSpec := Zb.C_plain_box
abbrev C_lie_apart : PSpec := Zb.C_lie_apart
abbrev C_lies_within : PSpec := Zb.C_lies_within
abbrev C__law_pick : PSpec := Zt.C__law_pick
abbrev C__law_bounds : PSpec := Zt.C__law_bounds
abbrev C__law_by : PSpec := Zt.C__law_by
def C__law_end : PSpec := fun ds Q => ∃ (a s : Int) (l : List Int), ds = [hd a s, .lst false (l.map .int)] ∧ l.length ≤ 300 ∧ ∀ (e : Eg) (a' s' : Int), Q (eD e) [hd a' s']
def C__law_box : PSpec := fun ds Q => ∃ (a s : Int) (d : Nat) (ts : List Th), ds = [hd a s, houseD d ts] ∧ House d ts ∧ d ≤ 4 ∧ ∀ (b : Bx1) (a' s' : Int), b.length = d → Q (.tup (b.map sD)) [hd a' s']
def C__law_plain : PSpec := fun ds Q => ∃ b : Bx1, ds = [.tup (b.map sD)] ∧ b.length ≤ 1000 ∧ ∀ o : Bool, Q (.lst o ((plainOf (b.map pl)).map pD)) []
def C__law_state : PSpec := fun ds Q => ∃ (d : Nat) (zs : List Th) (ps : List Pr), (ds = [bdD d zs, .lst false (ps.map pD)] ∨ ds = [.lst false ((List.range d).map fun i => D.tup [.int (mnZ zs i), .int (mxZ zs i)]), .lst false (ps.map pD)]) ∧ zs ≠ [] ∧ 1 ≤ d ∧ d ≤ 4 ∧ ps.length = d ∧ plainOf ps = ps ∧ Q (.int (if outZ d zs ps then 0 else if innZ d zs ps then 2 else 1)) []
def C__law_taken (n : Nat) : PSpec := fun ds Q => 0 < n ∧ ∃ (d : Nat) (x : D) (ps : List Pr), ds = [x, .lst false (ps.map pD)] ∧ 1 ≤ d ∧ d ≤ 4 ∧ ps.length = d ∧ plainOf ps = ps ∧ ((x = .non ∧ Q (tkR ([], 0)) []) ∨ ∃ T : BT, x = btD d T ∧ T.dep < n ∧ T.ths.length ≤ 300 ∧ Q (tkR (takT d ps T)) [])
theorem mn_le {zs : List Th} {t : Th} (h : t ∈ zs) (i : Nat) : mnZ zs i ≤ t.2.1.getD i 0 ∧ t.2.1.getD i 0 ≤ mxZ zs i := by
  have hm : t.2.1.getD i 0 ∈ zs.map (fun t => t.2.1.getD i 0) := List.mem_map_of_mem h
  exact ⟨(mn_mem (List.ne_nil_of_mem hm)).2 _ hm, (mx_mem (List.ne_nil_of_mem hm)).2 _ hm⟩
theorem bnd_z (d : Nat) (zs : List Th) : bnd d zs = (List.range d).map fun i => (some (mnZ zs i), some (mxZ zs i)) := rfl
theorem one_mn (t : Th) (i : Nat) : mnZ [t] i = t.2.1.getD i 0 ∧ mxZ [t] i = t.2.1.getD i 0 := by
  have h := mn_le (zs := [t]) (t := t) (by simp) i
  have n0 : ([t].map fun t : Th => t.2.1.getD i 0) ≠ [] := by simp
  have a := (mn_mem n0).1
  have b := (mx_mem n0).1
  simp only [List.map_cons, List.map_nil, List.mem_singleton] at a b
  exact ⟨a, b⟩
theorem one_fit (d : Nat) (ps : List Pr) (t : Th) : outZ d [t] ps = !fitP d ps t ∧ innZ d [t] ps = fitP d ps t := by
  have hin : ∀ i, inP (pN ps i) (t.2.1.getD i 0) = (!ltO (pN ps i).1 (t.2.1.getD i 0) && !gtO (pN ps i).2 (t.2.1.getD i 0)) := fun i => inP_is _ _
  constructor
  · unfold outZ fitP
    rw [List.not_all_eq_any_not]
    congr 1
    funext i
    rw [hin, (one_mn t i).1, (one_mn t i).2]
    generalize pN ps i = p
    obtain ⟨a, b⟩ := p
    cases a <;> cases b <;> simp [ltO, gtO, cr]
    omega
  · unfold innZ fitP
    congr 1
    funext i
    rw [hin, (one_mn t i).1, (one_mn t i).2]
theorem out_fit {d : Nat} {zs : List Th} {ps : List Pr} (h : outZ d zs ps = true) : ∀ t ∈ zs, fitP d ps t = false := fun t ht => by
  obtain ⟨i, hi, h⟩ := List.any_eq_true.mp h
  refine eq_false_of_ne_true fun z => ?_
  have z := List.all_eq_true.mp z i hi
  rw [inP_is] at z
  have mm := mn_le ht i
  generalize t.2.1.getD i 0 = n at mm z
  generalize pN ps i = p at h z
  obtain ⟨a, b⟩ := p
  cases a <;> cases b <;> simp [ltO, gtO, cr] at h z <;> omega
theorem tk_leaf (d : Nat) (ps : List Pr) (t : Th) : takT d ps (.leaf t) = if outZ d [t] ps then ([], 1) else ([[t.1]], 1) := by rw [takT]
theorem tk_node (d : Nat) (ps : List Pr) (l h : BT) : takT d ps (.node l h) = if outZ d (l.ths ++ h.ths) ps then ([], 1) else if innZ d (l.ths ++ h.ths) ps then ([sN (nmsT (l.ths ++ h.ths))], 1)
    else ((takT d ps l).1 ++ (takT d ps h).1, 1 + (takT d ps l).2 + (takT d ps h).2) := by rw [takT]
theorem tk_len (d : Nat) (ps : List Pr) : ∀ T : BT, (takT d ps T).1.length ≤ T.ths.length ∧ (takT d ps T).2 ≤ T.sz
  | .leaf t => by rw [tk_leaf]; split <;> simp [BT.ths, BT.sz]
  | .node l h => by
    have a := tk_len d ps l
    have b := tk_len d ps h
    have := List.length_pos_iff.mpr (bt_ne l)
    rw [tk_node, show (BT.node l h).ths = l.ths ++ h.ths from rfl, show (BT.node l h).sz = 1 + l.sz + h.sz from rfl, List.length_append]
    split
    · simp; omega
    · split
      · simp; omega
      · simp only [List.length_append]; omega
theorem leaf_in {d : Nat} {ps : List Pr} {t : Th} (h : outZ d [t] ps = false) : innZ d [t] ps = true := by
  obtain ⟨h1, h2⟩ := one_fit d ps t
  rw [h2]
  rw [h1] at h
  simpa using h
def w__law_end : DS :=
  (dSeq (dIfS (tVal (dBin gEq (oVal (dCallIO 0 0 C__law_pick (aCons (oVar 0) (aCons (oVal (dC (.int 4))) aNil)))) (oVal (dC (.int 0)))))
    (dRet (dC .non))
    dNext)
    (dSeq (dAsg 2 (dBin gAdd (oVal (dBin gIx (oVal (dBin gAdd (oVar 1) (oVal (dLst (aCons (oVal (dC (.int 0))) aNil))))) (oVal (dCallIO 0 0 C__law_pick (aCons (oVar 0) (aCons (oVal (dBin gAdd (oVal (dCB gLen (aCons (oVar 1) aNil))) (oVal (dC (.int 1))))) aNil)))))) (oVal (dBin gIx (oVal (dLst (aCons (oVal (dC (.int 0))) (aCons (oVal (dC (.int 0))) (aCons (oVal (dC (.int 1))) (aCons (oVal (dUn gNeg (oVal (dC (.int 1))))) aNil)))))) (oVal (dCallIO 0 0 C__law_pick (aCons (oVar 0) (aCons (oVal (dC (.int 4))) aNil))))))))
    (dRet (dTup (aCons (oVar 2) (aCons (oVal (dBin gEq (oVal (dCallIO 0 0 C__law_pick (aCons (oVar 0) (aCons (oVal (dC (.int 2))) aNil)))) (oVal (dC (.int 0))))) aNil))))))
abbrev B__law_end : PSpec := bodyW [0] 3 2 w__law_end
def w__law_box : DS :=
  (dSeq (dAsg 2 (dLst aNil))
    (dSeq (dFor (iR gR1 (aCons (oVal (dBin gIx (oVar 1) (oVal (dC (.int 0))))) aNil)) (gN 3)
    (dSeq (dAsg 4 (dComp (iOf (dBin gIx (oVar 1) (oVal (dC (.int 1))))) [7, 8, 9] (gT (gsCons (gN 7) (gsCons (gN 8) (gsCons (gN 9) gsNil))) 3) tAll (dBin gIx (oVar 8) (oVar 3))))
    (dSeq (dPar2 5 6 (dCallIO 0 0 C__law_end (aCons (oVar 0) (aCons (oVar 4) aNil))) (dCallIO 0 0 C__law_end (aCons (oVar 0) (aCons (oVar 4) aNil))))
    (dSeq (dIfS (tAnd (tVal (dBin gNotN (oVar 5) (oVal (dC .non)))) (tAnd (tVal (dBin gNotN (oVar 6) (oVal (dC .non)))) (tAnd (tVal (dBin gGt (oVal (dBin gIx (oVar 5) (oVal (dC (.int 0))))) (oVal (dBin gIx (oVar 6) (oVal (dC (.int 0))))))) (tVal (dBin gGt (oVal (dCallIO 0 0 C__law_pick (aCons (oVar 0) (aCons (oVal (dC (.int 6))) aNil)))) (oVal (dC (.int 0))))))))
    (dPar2 5 6 (dVar 6) (dVar 5))
    dNext)
    (dExp (dApp 2 (dTup (aCons (oVar 5) (aCons (oVar 6) aNil)))))))))
    (dRet (dCB gTuple (aCons (oVar 2) aNil)))))
abbrev B__law_box : PSpec := bodyW [0] 10 2 w__law_box
def w__law_plain : DS :=
  (dSeq (dAsg 1 (dLst aNil))
    (dSeq (dFor (iOf (dVar 0)) (gT (gsCons (gN 2) (gsCons (gN 3) gsNil)) 2)
    (dSeq (dAsg 4 (dIf (tVal (dBin gIsN (oVar 2) (oVal (dC .non)))) (dC .non) (dBin gAdd (oVal (dBin gIx (oVar 2) (oVal (dC (.int 0))))) (oVal (dCB gInt (aCons (oVal (dNot (dBin gIx (oVar 2) (oVal (dC (.int 1)))))) aNil))))))
    (dSeq (dAsg 5 (dIf (tVal (dBin gIsN (oVar 3) (oVal (dC .non)))) (dC .non) (dBin gSub (oVal (dBin gIx (oVar 3) (oVal (dC (.int 0))))) (oVal (dCB gInt (aCons (oVal (dNot (dBin gIx (oVar 3) (oVal (dC (.int 1)))))) aNil))))))
    (dExp (dApp 1 (dTup (aCons (oVar 4) (aCons (oVar 5) aNil))))))))
    (dSeq (dIfS (tVal (dCB gAny (aCons (oVal (dComp (iOf (dVar 1)) [4, 5] (gT (gsCons (gN 4) (gsCons (gN 5) gsNil)) 2) tAll (dAnd (dBin gNotN (oVar 4) (oVal (dC .non))) (dAnd (dBin gNotN (oVar 5) (oVal (dC .non))) (dBin gGt (oVar 4) (oVar 5)))))) aNil)))
    (dRet (dComp (iOf (dVar 1)) [6] (gN 6) tAll (dTup (aCons (oVal (dC (.int 1))) (aCons (oVal (dC (.int 0))) aNil)))))
    dNext)
    (dRetV 1))))
abbrev B__law_plain : PSpec := bodyW [] 7 1 w__law_plain
def w__law_taken (n : Nat) : DS :=
  (dSeq (dIfS (tVal (dBin gIsN (oVar 0) (oVal (dC .non))))
    (dRet (dTup (aCons (oVal (dTup aNil)) (aCons (oVal (dC (.int 0))) aNil))))
    dNext)
    (dSeq (dAsg 2 (dCall C__law_state (aCons (oVal (dBin gIx (oVar 0) (oVal (dC (.int 1))))) (aCons (oVar 1) aNil))))
    (dSeq (dIfS (tVal (dBin gNe (oVar 2) (oVal (dC (.int 1)))))
    (dRet (dTup (aCons (oVal (dIf (tVal (dBin gEq (oVar 2) (oVal (dC (.int 2))))) (dTup (aCons (oVal (dBin gIx (oVar 0) (oVal (dC (.int 0))))) aNil)) (dTup aNil))) (aCons (oVal (dC (.int 1))) aNil))))
    dNext)
    (dSeq (dPar2 3 4 (dCall (C__law_taken n) (aCons (oVal (dBin gIx (oVar 0) (oVal (dC (.int 2))))) (aCons (oVar 1) aNil))) (dCall (C__law_taken n) (aCons (oVal (dBin gIx (oVar 0) (oVal (dC (.int 3))))) (aCons (oVar 1) aNil))))
    (dRet (dTup (aCons (oVal (dBin gAdd (oVal (dBin gIx (oVar 3) (oVal (dC (.int 0))))) (oVal (dBin gIx (oVar 4) (oVal (dC (.int 0))))))) (aCons (oVal (dBin gAdd (oVal (dBin gAdd (oVal (dC (.int 1))) (oVal (dBin gIx (oVar 3) (oVal (dC (.int 1))))))) (oVal (dBin gIx (oVar 4) (oVal (dC (.int 1))))))) aNil))))))))
abbrev B__law_taken (n : Nat) : PSpec := bodyW [] 5 2 (w__law_taken n)
theorem imp__law_end : ∀ ds Q, C__law_end ds Q → B__law_end ds Q := by
  rintro ds Q ⟨a, s, l, rfl, ll, q⟩
  refine ⟨rfl, ?_⟩
  have sl := sizeLine_eq
  simp only [w__law_end, hd, Bx.go]
  refine ⟨a, s, 4, rfl, by decide, by decide, fun r a s h0 h1 => ?_⟩
  simp only [Bx.go]
  refine ⟨eqOk_int _ _, ?_⟩
  refine pick_by (fun _ => ?_) (fun _ => ?_)
  · simp only [Bx.go]
    exact q none a s
  · simp only [Bx.go]
    refine ⟨by simp; omega, a, s, l.length + 1, rfl, by omega, by omega, fun r a s h0 h1 => ?_⟩
    obtain ⟨v, ev, _⟩ := atI_of (ns := l ++ [0]) (fun _ => True) (fun _ _ => trivial) h0 (by simpa using h1)
    rw [List.map_append] at ev
    simp only [List.map] at ev
    simp only [ev, Bx.go]
    refine ⟨a, s, 4, rfl, by decide, by decide, fun r a s h0 h1 => ?_⟩
    obtain ⟨w, ew, _⟩ := atI_of (ns := [0, 0, 1, -1]) (fun _ => True) (fun _ _ => trivial) h0 (by simpa using h1)
    simp only [List.map] at ew
    simp only [ew, Bx.go]
    refine ⟨a, s, 2, rfl, by decide, by decide, fun r a s h0 h1 => ?_⟩
    simp only [Bx.go]
    refine ⟨eqOk_int _ _, ?_⟩
    exact q (some (v + w, _)) a s
theorem imp__law_box : ∀ ds Q, C__law_box ds Q → B__law_box ds Q := by
  rintro ds Q ⟨a, s, d, ts, rfl, h, d4, q⟩
  refine ⟨rfl, ?_⟩
  have sl := sizeLine_eq
  have tl := h.len
  have hz : (houseD d ts).frz = houseD d ts := rfl
  have gi0 : ∀ K, gIx (houseD d ts) (.int 0) K = K (.int d) := fun K => by
    unfold houseD
    simp only [p0, Bx.go]
  have gi1 : ∀ K, gIx (houseD d ts) (.int 1) K = K (.tup (ts.map thD)) := fun K => by
    unfold houseD
    simp only [p1, Bx.go]
  refine seq_cut (fun ρ => ρ = [some (hd a s), some (houseD d ts), some (.lst true []), none, none, none, none, none, none, none]) (fun R hR => ?_) ?_
  · simp only [Bx.go]
    exact hR _ rfl
  rintro _ rfl
  refine seq_cut (fun ρ => ∃ (a s : Int) (b : Bx1) (x3 x4 x5 x6 x7 x8 x9 : Option D), b.length = d ∧ ρ = [some (hd a s), some (houseD d ts), some (.lst true (b.map sD)), x3, x4, x5, x6, x7, x8, x9]) (fun R hR => ?_) ?_
  · simp only [gi0, Bx.go]
    rw [rangeD_nat, Int.toNat_natCast]
    refine ⟨i62_of (by omega) (by omega), ?_⟩
    refine for_each (List.range d) (fun i : Nat => D.int i) (fun dn ρ => ∃ (a s : Int) (b : Bx1) (x3 x4 x5 x6 x7 x8 x9 : Option D), b.length = dn.length ∧ ρ = [some (hd a s), some (houseD d ts), some (.lst true (b.map sD)), x3, x4, x5, x6, x7, x8, x9]) ⟨a, s, [], _, _, _, _, _, _, _, rfl, rfl⟩ ?_ ?_
    · rintro dn i r ρ N e ⟨a, s, b, x3, x4, x5, x6, x7, x8, x9, bl, rfl⟩ hN
      have hi : i < d := by
        have : i ∈ List.range d := by rw [e]; simp
        exact List.mem_range.mp this
      have e := congrArg List.length e
      simp at e
      simp only [u1_gT, u2_gT, u1_gsCons, u2_gsCons, u1_gsNil, u2_gsNil, u1_kGs, u1_gN, u1_kForB, rset_s, rset_0, rget_s, rget_0, D.seq, D.sql, u_onSome_some, frz_tup, frz_int, frz_bl, frz_lst, frz_str, frz_non, frz_scr, List.length_cons, List.length_nil, List.map_cons, List.map_nil, Option.bind_some, true_and, and_true]
      refine seq_cut (fun ρ => ∃ (x7 x8 x9 : Option D), ρ = [some (hd a s), some (houseD d ts), some (.lst true (b.map sD)), some (.int (i : Nat)), some (.lst true ((ts.map fun t => t.2.1.getD i 0).map .int)), x5, x6, x7, x8, x9]) (fun R hR => ?_) ?_
      · simp only [gi1, Bx.go]
        refine ⟨by omega, co_each ts thD (fun dm acc ρ => acc = (dm.map fun t => D.int (t.2.1.getD i 0)) ∧ ∃ x7 x8 x9 : Option D, ρ = [some (hd a s), some (houseD d ts), some (.lst true (b.map sD)), some (.int (i : Nat)), x4, x5, x6, x7, x8, x9]) ⟨rfl, _, _, _, rfl⟩ ?_ ?_⟩
        · rintro dm t r acc ρ N e2 ⟨rfl, x7, x8, x9, rfl⟩ hN
          have ht := h.num t (by rw [e2]; simp)
          have e3 := row_int (l := t.2.1) ht hi
          simp only [plc] at e3
          simp only [thD, e3, Bx.go]
          exact hN _ _ ⟨by rw [List.map_append]; rfl, _, _, _, rfl⟩
        · rintro acc ρ ⟨rfl, x7, x8, x9, rfl⟩
          simp only [backR, Bx.go]
          exact hR _ ⟨_, _, _, by rw [List.map_map]; rfl⟩
      clear x7 x8 x9
      rintro _ ⟨x7, x8, x9, rfl⟩
      refine seq_cut (fun ρ => ∃ (a s : Int) (e1 e2 : Eg) (o : Bool), ρ = [some (hd a s), some (houseD d ts), some (.lst true (b.map sD)), some (.int (i : Nat)), some (.lst o ((ts.map fun t => t.2.1.getD i 0).map .int)), some (eD e1), some (eD e2), x7, x8, x9]) (fun R hR => ?_) ?_
      · simp only [hd, Bx.go]
        refine ⟨a, s, _, rfl, by simp; omega, fun e1 a s => ?_⟩
        simp only [hd, Bx.go]
        refine ⟨a, s, _, rfl, by simp; omega, fun e2 a s => ?_⟩
        simp only [Bx.go]
        exact hR _ ⟨a, s, e1, e2, _, rfl⟩
      clear a s
      rintro _ ⟨a, s, e1, e2, o, rfl⟩
      refine seq_cut (fun ρ => ∃ (a s : Int) (e1 e2 : Eg), ρ = [some (hd a s), some (houseD d ts), some (.lst true (b.map sD)), some (.int (i : Nat)), some (.lst o ((ts.map fun t => t.2.1.getD i 0).map .int)), some (eD e1), some (eD e2), x7, x8, x9]) (fun R hR => ?_) ?_
      · cases e1 with
        | none =>
          simp only [eD, Bx.go]
          exact hR _ ⟨a, s, none, e2, rfl⟩
        | some p =>
          cases e2 with
          | none =>
            simp only [eD, Bx.go]
            exact hR _ ⟨a, s, some p, none, rfl⟩
          | some p2 =>
            simp only [eD, p0, hd, Bx.go]
            refine pick_by (fun _ => ?_) (fun _ => ?_)
            · simp only [Bx.go]
              refine ⟨a, s, 6, rfl, by decide, by decide, fun r a s h0 h1 => ?_⟩
              simp only [Bx.go]
              refine pick_by (fun _ => ?_) (fun _ => ?_)
              · simp only [Bx.go]
                exact hR _ ⟨a, s, some p2, some p, rfl⟩
              · simp only [Bx.go]
                exact hR _ ⟨a, s, some p, some p2, rfl⟩
            · simp only [Bx.go]
              exact hR _ ⟨a, s, some p, some p2, rfl⟩
      clear a s e1 e2
      rintro _ ⟨a, s, e1, e2, rfl⟩
      simp only [Zb.eD_frz, Bx.go]
      exact ⟨by omega, hN _ ⟨a, s, b ++ [(e1, e2)], _, _, _, _, _, _, _, by simp [bl], by rw [List.map_append]; rfl⟩⟩
    · rintro ρ ⟨a, s, b, x3, x4, x5, x6, x7, x8, x9, bl, rfl⟩
      simp at bl
      exact hR _ ⟨a, s, b, _, _, _, _, _, _, _, bl, rfl⟩
  clear a s
  rintro _ ⟨a, s, b, x3, x4, x5, x6, x7, x8, x9, bl, rfl⟩
  simp only [Bx.go]
  exact q b a s bl
theorem imp__law_plain : ∀ ds Q, C__law_plain ds Q → B__law_plain ds Q := by
  rintro ds Q ⟨b, rfl, bl, q⟩
  refine ⟨rfl, ?_⟩
  have sl := sizeLine_eq
  refine seq_cut (fun ρ => ρ = [some (.tup (b.map sD)), some (.lst true []), none, none, none, none, none]) (fun R hR => ?_) ?_
  · simp only [Bx.go]
    exact hR _ rfl
  rintro _ rfl
  refine seq_cut (fun ρ => ∃ (x2 x3 x4 x5 : Option D), ρ = [some (.tup (b.map sD)), some (.lst true ((b.map Zb.pl).map pD)), x2, x3, x4, x5, none]) (fun R hR => ?_) ?_
  · simp only [Bx.go]
    refine for_each b sD (fun dn ρ => ∃ (x2 x3 x4 x5 : Option D), ρ = [some (.tup (b.map sD)), some (.lst true ((dn.map Zb.pl).map pD)), x2, x3, x4, x5, none]) ⟨_, _, _, _, rfl⟩ ?_ ?_
    · rintro dn e r ρ N he ⟨x2, x3, x4, x5, rfl⟩ hN
      have he := congrArg List.length he
      simp at he
      obtain ⟨e1, e2⟩ := e
      simp only [sD, u1_gT, u2_gT, u1_gsCons, u2_gsCons, u1_gsNil, u2_gsNil, u1_kGs, u1_gN, u1_kForB, rset_s, rset_0, rget_s, rget_0, D.seq, D.sql, u_onSome_some, frz_tup, frz_int, frz_bl, frz_lst, frz_str, frz_non, frz_scr, List.length_cons, List.length_nil, List.map_cons, List.map_nil, Option.bind_some, true_and, and_true]
      refine seq_cut (fun ρ => ρ = [some (.tup (b.map sD)), some (.lst true ((dn.map Zb.pl).map pD)), some (eD e1), some (eD e2), some (oD (Zb.pl (e1, e2)).1), x5, none]) (fun R hR => ?_) ?_
      · cases e1 with
        | none =>
          simp only [eD, Bx.go]
          exact hR _ rfl
        | some p =>
          obtain ⟨n, bb⟩ := p
          simp only [eD, p0, p1, Bx.go]
          cases bb
          · exact hR _ rfl
          · exact hR _ rfl
      rintro _ rfl
      refine seq_cut (fun ρ => ρ = [some (.tup (b.map sD)), some (.lst true ((dn.map Zb.pl).map pD)), some (eD e1), some (eD e2), some (oD (Zb.pl (e1, e2)).1), some (oD (Zb.pl (e1, e2)).2), none]) (fun R hR => ?_) ?_
      · cases e2 with
        | none =>
          simp only [eD, Bx.go]
          exact hR _ rfl
        | some p =>
          obtain ⟨n, bb⟩ := p
          simp only [eD, p0, p1, Bx.go]
          cases bb
          · exact hR _ rfl
          · exact hR _ rfl
      rintro _ rfl
      have of : ∀ o, (oD o).frz = oD o := fun o => by cases o <;> rfl
      simp only [of, Bx.go]
      exact ⟨by first | omega | (simp; omega), hN _ ⟨_, _, _, _, by rw [List.map_append, List.map_append]; rfl⟩⟩
    · rintro ρ ⟨x2, x3, x4, x5, rfl⟩
      exact hR _ ⟨_, _, _, _, rfl⟩
  rintro _ ⟨x2, x3, x4, x5, rfl⟩
  have of : ∀ o, (oD o).frz = oD o := fun o => by cases o <;> rfl
  obtain ⟨ps, eps⟩ : ∃ ps, ps = b.map Zb.pl := ⟨_, rfl⟩
  have pl' : ps.length ≤ 1000 := by rw [eps, List.length_map]; exact bl
  rw [← eps] at q ⊢
  simp only [Bx.go]
  refine ⟨by first | omega | (simp; omega), co_map ps pD (fun p => .bl (cr p)) (fun p hp acc N hN => ?_) ?_⟩
  · obtain ⟨c, e⟩ := p
    cases c <;> cases e <;> (simp only [pD, oD, Bx.go]; exact hN)
  · simp only [asBls_f, backR, Bx.go]
    have ea : (ps.map cr).any id = ps.any cr := by rw [List.any_map]; rfl
    rw [ea]
    unfold plainOf at q
    cases hc : ps.any cr with
    | true =>
      rw [hc, if_pos rfl] at q
      simp only [Bx.go]
      refine ⟨by first | omega | (simp; omega), co_map ps pD (fun _ => .tup [.int 1, .int 0]) (fun p hp acc N hN => ?_) ?_⟩
      · simp only [Bx.go]
        exact hN
      · simp only [backR, Bx.go]
        have := q true
        rw [List.map_map] at this
        exact this
    | false =>
      rw [hc, if_neg (by decide)] at q
      simp only [Bx.go]
      exact q false
theorem cr_plain {ps : List Pr} (h : plainOf ps = ps) {p : Pr} (hp : p ∈ ps) : cr p = decide (p = (some 1, some 0)) := by
  by_cases e : p = (some 1, some 0)
  · rw [e]; rfl
  · rw [decide_eq_false e]
    refine eq_false_of_ne_true fun c => ?_
    unfold plainOf at h
    rw [if_pos (List.any_eq_true.mpr ⟨p, hp, c⟩)] at h
    rw [← h] at hp
    obtain ⟨_, _, e2⟩ := List.mem_map.mp hp
    exact e e2.symm
theorem pN_mem {ps : List Pr} {i : Nat} (h : i < ps.length) : pN ps i ∈ ps := by
  unfold pN
  rw [List.getD_eq_getElem?_getD, List.getElem?_eq_getElem h]
  exact List.getElem_mem h
theorem g2 {a b c e : D} : atI [a, b, c, e] 2 = some c := by rw [atI_nat' (by decide)]; rfl
theorem g3 {a b c e : D} : atI [a, b, c, e] 3 = some e := by rw [atI_nat' (by decide)]; rfl
theorem imp__law_taken (n : Nat) : ∀ ds Q, C__law_taken (n + 1) ds Q → B__law_taken n ds Q := by
  rintro ds Q ⟨_, d, x, ps, rfl, d1, d4, pl', hp, hx⟩
  refine ⟨rfl, ?_⟩
  have sl := sizeLine_eq
  obtain ⟨P, eP⟩ : ∃ P, P = D.lst false (ps.map pD) := ⟨_, rfl⟩
  have Pf : P.frz = P := by rw [eP]; rfl
  rw [← eP]
  rcases hx with ⟨rfl, q⟩ | ⟨T, rfl, hd, hl, q⟩
  · simp only [w__law_taken, Bx.go]
    exact q
  obtain ⟨lo, hi, eT⟩ := bt_parts d T
  have bf : (bdD d T.ths).frz = bdD d T.ths := rfl
  have tl := tk_len d ps T
  refine seq_cut (fun ρ => ρ = [some (btD d T), some P, none, none, none]) (fun R hR => ?_) ?_
  · simp only [eT, Bx.go]
    exact hR _ (by rw [eT])
  rintro _ rfl
  obtain ⟨st, est⟩ : ∃ st : Int, st = if outZ d T.ths ps then 0 else if innZ d T.ths ps then 2 else 1 := ⟨_, rfl⟩
  refine seq_cut (fun ρ => ρ = [some (btD d T), some P, some (.int st), none, none]) (fun R hR => ?_) ?_
  · simp only [eT, f1, bf, Pf, Bx.go]
    refine ⟨d, T.ths, ps, .inl (by rw [eP]), bt_ne T, d1, d4, pl', hp, ?_⟩
    rw [← est]
    simp only [Bx.go]
    exact hR _ (by rw [eT])
  rintro _ rfl
  have leafT : ∀ t, T = .leaf t → outZ d T.ths ps = false → innZ d T.ths ps = true := fun t e h => by
    rw [e] at h ⊢
    exact leaf_in h
  cases c1 : outZ d T.ths ps with
  | true =>
    rw [c1, if_pos rfl] at est
    subst est
    have eq' : takT d ps T = ([], 1) := by
      cases T with
      | leaf t => rw [tk_leaf]; rw [show (BT.leaf t).ths = [t] from rfl] at c1; rw [c1]; rfl
      | node l h => rw [tk_node]; rw [show (BT.node l h).ths = l.ths ++ h.ths from rfl] at c1; rw [c1]; rfl
    rw [eq'] at q
    simp only [Bx.go]
    refine ⟨eqOk_int _ _, ?_⟩
    simp only [eqv_int, show ((0 : Int) == 1) = false from rfl, Bool.not_false, Bx.go]
    refine ⟨eqOk_int _ _, ?_⟩
    simp only [eqv_int, show ((0 : Int) == 2) = false from rfl, Bx.go]
    exact q
  | false =>
    rw [c1, if_neg (by decide)] at est
    cases c2 : innZ d T.ths ps with
    | true =>
      rw [c2, if_pos rfl] at est
      subst est
      have eq' : takT d ps T = ([sN (nmsT T.ths)], 1) := by
        cases T with
        | leaf t =>
          rw [tk_leaf]; rw [show (BT.leaf t).ths = [t] from rfl] at c1 ⊢
          rw [c1, show sN (nmsT [t]) = [t.1] from sN_is (.refl _) (by simp)]; rfl
        | node l h => rw [tk_node]; rw [show (BT.node l h).ths = l.ths ++ h.ths from rfl] at c1 c2 ⊢; rw [c1, c2]; rfl
      rw [eq'] at q
      simp only [Bx.go]
      refine ⟨eqOk_int _ _, ?_⟩
      simp only [eqv_int, show ((2 : Int) == 1) = false from rfl, Bool.not_false, Bx.go]
      refine ⟨eqOk_int _ _, ?_⟩
      simp only [eqv_int, beq_self_eq_true, ix0_bt, show ∀ l, (plc l).frz = plc l from fun _ => rfl, Bx.go]
      exact q
    | false =>
      rw [c2, if_neg (by decide)] at est
      subst est
      cases T with
      | leaf t => exact absurd ((leafT t rfl c1).symm.trans c2) (by decide)
      | node l h =>
        rw [tk_node] at q
        rw [show (BT.node l h).ths = l.ths ++ h.ths from rfl] at c1 c2
        rw [c1, c2] at q
        simp only [Bool.false_eq_true, if_false] at q
        simp only [BT.dep] at hd
        simp only [BT.ths, List.length_append] at hl
        have la := tk_len d ps l
        have lb := tk_len d ps h
        have tf : ∀ r, (tkR r).frz = tkR r := fun _ => rfl
        have r0 : ∀ (r : List (List Int) × Nat) K, gIx (tkR r) (.int 0) K = K (.tup (r.1.map plc)) := fun r K => by simp only [tkR, p0, Bx.go]
        have r1 : ∀ (r : List (List Int) × Nat) K, gIx (tkR r) (.int 1) K = K (.int r.2) := fun r K => by simp only [tkR, p1, Bx.go]
        refine seq_cut (fun ρ => ρ = [some (btD d (.node l h)), some P, some (.int 1), none, none]) (fun R hR => ?_) ?_
        · simp only [Bx.go]
          refine ⟨eqOk_int _ _, ?_⟩
          simp only [eqv_int, beq_self_eq_true, Bool.not_true, Bx.go]
          exact hR _ rfl
        rintro _ rfl
        simp only [btD, g2, g3, bt_frz, Pf, Bx.go]
        refine ⟨by omega, d, btD d l, ps, by rw [eP], d1, d4, pl', hp, .inr ⟨l, rfl, by omega, by omega, ?_⟩⟩
        simp only [tf, bt_frz, Pf, Bx.go]
        refine ⟨by omega, d, btD d h, ps, by rw [eP, bt_frz]; rfl, d1, d4, pl', hp, .inr ⟨h, rfl, by omega, by omega, ?_⟩⟩
        simp only [tf, r0, r1, Bx.go]
        refine ⟨by first | omega | (simp; omega), ?_⟩
        unfold tkR at q
        rw [List.map_append] at q
        rw [show (1 : Int) + ((takT d ps l).2 : Nat) + ((takT d ps h).2 : Nat) = ((1 + (takT d ps l).2 + (takT d ps h).2 : Nat) : Int) by omega]
        exact q
end Zu
namespace Bx
open PySem PySem.Spec PyProof.Rows L2
mutual
def D.smB : D → Bool
  | .non => true
  | .bl _ => true
  | .int i => decide (i.natAbs < 10 ^ 30)
  | .tup xs => D.smsB xs
  | .lst _ xs => D.smsB xs
  | .str x => decide ((reprText x).length ≤ 40)
  | _ => false
def D.smsB : List D → Bool
  | [] => true
  | x :: r => x.smB && D.smsB r
end
mutual
theorem sh_lenB : ∀ {d : D}, d.smB = true → d.pd.showable = true ∧ d.ndc = true ∧ d.pd.shown.length ≤ d.wt
  | .non, _ => ⟨by simp [D.pd, PyData.showable], by simp [D.ndc], by simp only [D.pd, PyData.shown, D.wt]; decide⟩
  | .bl b, _ => ⟨by simp [D.pd, PyData.showable], by simp [D.ndc], by simp only [D.pd, PyData.shown, D.wt]; cases b <;> decide⟩
  | .int i, h => by
    have h : i.natAbs < 10 ^ 30 := of_decide_eq_true (by simpa only [D.smB] using h)
    refine ⟨?_, by simp [D.ndc], ?_⟩
    · simp only [D.pd, PyData.showable]
      refine decide_eq_true ?_
      by_cases h0 : i.natAbs = 0
      · rw [h0]; decide
      · exact (Nat.log2_lt h0).mpr (Nat.lt_trans h (by decide +kernel))
    · simp only [D.pd, PyData.shown, D.wt]
      rw [PyProof.Rows.ofString_len]
      exact Nat.le_refl _
  | .tup xs, h => by
    simp only [D.smB] at h
    obtain ⟨a, b, c⟩ := shs_lenB h
    simp only [D.pd, PyData.showable, PyData.shown, D.ndc, D.wt]
    have := tupleText_len_le (PyData.shownAll (D.pds xs))
    exact ⟨a, b, by omega⟩
  | .lst o xs, h => by
    simp only [D.smB] at h
    obtain ⟨a, b, c⟩ := shs_lenB h
    simp only [D.pd, PyData.showable, PyData.shown, D.ndc, D.wt]
    have := listText_len_le (PyData.shownAll (D.pds xs))
    exact ⟨a, b, by omega⟩
  | .str x, h => by
    have h : (reprText x).length ≤ 40 := of_decide_eq_true (by simpa only [D.smB] using h)
    exact ⟨by simp [D.pd, PyData.showable], by simp [D.ndc], by simpa only [D.pd, PyData.shown, D.wt] using h⟩
  | .scr _, h => by simp [D.smB] at h
  | .dic _ _, h => by simp [D.smB] at h
  | .odc _ _, h => by simp [D.smB] at h
  | .obj _ _ _, h => by simp [D.smB] at h
theorem shs_lenB : ∀ {ds : List D}, D.smsB ds = true → PyData.showableAll (D.pds ds) = true ∧ D.ndcs ds = true ∧ ((PyData.shownAll (D.pds ds)).map (·.length)).sum + 2 * (PyData.shownAll (D.pds ds)).length ≤ D.wts ds
  | [], _ => by simp [D.pds, PyData.showableAll, D.ndcs, PyData.shownAll, D.wts]
  | x :: r, h => by
    simp only [D.smsB, Bool.and_eq_true] at h
    obtain ⟨a1, b1, c1⟩ := sh_lenB h.1
    obtain ⟨a2, b2, c2⟩ := shs_lenB h.2
    simp only [D.pds, PyData.showableAll, D.ndcs, PyData.shownAll, D.wts, Bool.and_eq_true, List.map_cons, List.sum_cons, List.length_cons]
    exact ⟨⟨a1, a2⟩, ⟨b1, b2⟩, by omega⟩
end
end Bx
namespace Bx
variable [TabC]
open PySem PySem.Spec PyProof.Rows L2
section
variable {X : Cx} {pos : Pos}
end
end Bx
namespace Bx
variable [TabC]
open PySem PySem.Spec PyProof.Rows L2
section
variable {X : Cx}
end
end Bx
namespace Bx
variable [TabC]
open PySem PySem.Spec PyProof.Rows L2
section
variable {X : Cx}
end
end Bx
namespace HT
open PySem PySem.Spec PyProof.Rows PySem.Builtin
section
variable {prog : Program} {w : World} {A : Around} {E : Value → Shared → Prop} {s : Shared}
end
end HT
namespace Bx
variable [TabC]
open PySem PySem.Spec PyProof.Rows L2
section
variable {X : Cx}
end
end Bx
namespace Bx
variable [TabC]
open PySem PySem.Spec PyProof.Rows L2
section
variable {X : Cx}
end
end Bx
namespace BxD
open PySem PySem.SeqAt
open AutoSeq1 (wpAny_loadPart')
open MeetsSeq
end BxD
namespace Bx
variable [TabC]
open PySem PySem.Spec PyProof.Rows L2
section
variable {X : Cx}
end
end Bx
namespace Bx
variable [TabC]
open PySem PySem.Spec PyProof.Rows L2
section
variable {X : Cx}
end
end Bx
namespace Bx
variable [TabC]
open PySem PySem.Spec PyProof.Rows L2
section
variable {X : Cx} {o e : Expr} {pos pos' : Pos} {ios : List Nat}
end
end Bx
namespace BxS
open PySem PySem.Spec PyProof.Rows L2
abbrev eSet (w : World) : Obj := { cls := .type "set", dict := none, data := .set #[] 0 (.fresh 0 0 (!w.params.followText "set-order")) }
section
variable {P : Program} {w : World} {A : Around} {E : Value → Shared → Prop} {s : Shared}
set_option maxHeartbeats 3200000 in
theorem call_set_lstI {l : Addr} {items : Array Value} (ns : List Int) {Q : Value → Shared → Prop} (hh : A.handled = none) (hl : s.heap.IsList l items) (hit : IntsAre items.toList ns) (hb : ns.length + 1 < scanBound)
    (h : ∀ (h' : Heap) (tk c : Nat), SetR w h' s.heap.objs.size (fun j => decide (j ∈ ns)) c → c ≤ ns.length → (∀ b o, s.heap.get? b = some o → h'.get? b = some o) → Q (.ref s.heap.objs.size) { s with heap := h', toks := tk }) :
    wpAny (model P w) A (call (.type "set") [.ref l]) Q E s := by
  have hisz : items.size = ns.length := by simpa using IntsAre.length hit
  obtain ⟨c, tl, hmro⟩ := F.called_set.mro
  have hmade := F.called_set.made
  have hsub := F.called_set.sub
  refine wpAny_call (codeAny_of_tree ?_)
  show wpAny _ _ (callAny (.type "set") _) _ _ _
  refine wpAny_pure ⟨Code.quiet_builtin _ (by decide +kernel), codeAny_builtin F.entry_type_call ?_⟩
  rw [Around.under_plain (weight_type_call_type "set" [.ref l] []) rfl]
  have h1 := F.called_set.notType
  have h2 := F.called_set.canCreate
  have hct := F.typeCall_set_1 (.ref l)
  repeat (any_goals (first | assumption | wp_step))
  have gS : (s.heap.push (eSet w)).get? s.heap.objs.size = some (eSet w) := Heap.get?_push_size _ rfl
  refine codeAny_mono (code_set_led1 (.ref l) (E := E) (Q₁ := fun obj s₁ => obj = .ref s.heap.objs.size ∧ s₁ = { s with heap := s.heap.push (eSet w) }) ⟨rfl, rfl⟩) fun r s₁ hr => ?_
  match r, hr with
  | .error _, hr => exact hr
  | .ok (.ret obj), hr =>
    obtain ⟨rfl, rfl⟩ := hr
    have hT : Shared.TypeIs { s with heap := s.heap.push (eSet w) } (.ref s.heap.objs.size) "set" := ⟨_, gS, rfl⟩
    have hli := F.called_set.init.lookup
    have hbi := F.called_set.init.bind (.ref s.heap.objs.size)
    repeat (any_goals (first | assumption | wp_step))
    refine codeAny_mono (codeAny_call_builtin (R := wants (fun r s₂ => r = .none ∧ ∃ h' tk c, s₂ = { s with heap := h', toks := tk } ∧ SetR w h' s.heap.objs.size (fun j => decide (j ∈ ns)) c ∧ c ≤ ns.length ∧
        (∀ b o, s.heap.get? b = some o → h'.get? b = some o)) E) F.called_set.init.plain F.entry_set_init (check_set_init_1 hT ?_)) fun r₂ s₂ hr₂ => ?_
    · obtain ⟨⟨oc, od, oda, osl⟩, hol, hcl, nl, hdl⟩ := hl
      simp only at hcl hdl
      subst hcl hdl
      have hol' := Heap.get?_push_of_some (eSet w) hol
      have f1 := F.sub_list_set
      have f2 := F.sub_list_frozenset
      have f3 : (Value.type "list" == Value.type "dict") = false := by decide
      have hl1 : (s.heap.push (eSet w)).IsList l items := ⟨_, hol', rfl, nl, rfl⟩
      unfold Builtin.«set.__init__» noKeywords Builtin.Frozenset.updateFrom
      generalize hPI : pyIter = PI
      wp_walk
      subst hPI
      refine wpAny_pyIter_list hl1 (wpAny_bind (wpAny_runValue ?_))
      have lt0 : l < s.heap.objs.size := Heap.lt_size hol
      have lI : l ≠ (s.heap.push (eSet w)).objs.size := by rw [Heap.size_push]; exact Nat.ne_of_lt (Nat.lt_succ_of_lt lt0)
      have sF : s.heap.objs.size ∉ [(s.heap.push (eSet w)).objs.size, l] := by
        rw [Heap.size_push]
        simp only [List.mem_cons, List.not_mem_nil, or_false, not_or]
        exact ⟨Nat.ne_of_lt (Nat.lt_succ_self _), Nat.ne_of_gt lt0⟩
      have hh3 : A.in1.in1.in1.handled = none := by simp [hh]
      have val : ∀ (i : Nat) (v : Value), items[i]? = some v → ∃ k t, ns[i]? = some k ∧ v = .int k t := fun i v hv => by
        have hi : i < ns.length := by rw [← hisz]; exact (Array.getElem?_eq_some_iff.mp hv).1
        obtain ⟨t, e⟩ := IntsAre.int_at hit i v (by rw [Array.getElem?_toList]; exact hv)
        exact ⟨ns[i], t, List.getElem?_eq_getElem hi, by rw [e, List.getD_eq_getElem?_getD, List.getElem?_eq_getElem hi]; rfl⟩
      refine set_update_ints ((Walks.list hh3 _ l lI items).toS) s.heap.objs.size sF ns hisz hb val (items.size - 0) 0 _ (by omega) (Nat.zero_le _)
        ⟨⟨_, Heap.get?_push_size _ rfl, rfl, rfl⟩, (hl1.push _)⟩ ⟨0, Nat.le_refl 0, setR_new_at (Heap.get?_push_of_some _ gS)⟩ fun s' c' hm hc' hS' => ?_
      obtain ⟨h', g2, d', tk', os'⟩ := s'
      obtain rfl : g2 = s.gens := hm.gens
      obtain rfl : d' = s.drawn := hm.drawn
      obtain rfl : os' = s.os := hm.os
      show wpAny _ _ _ _ _ _
      refine wpAny_pure ?_
      show wpAny _ _ (ret Value.none) _ _ _
      refine wpAny_pure ⟨rfl, h', tk', c', rfl, hS', by omega, fun b o e => ?_⟩
      have b0 : b < s.heap.objs.size := Heap.lt_size e
      refine hm.heap b o (fun z => ?_) (Heap.get?_push_of_some _ (Heap.get?_push_of_some _ e))
      rw [Heap.size_push] at z
      simp only [List.mem_cons, List.not_mem_nil, or_false] at z
      rcases z with z | z
      · exact Nat.ne_of_lt b0 z
      · exact Nat.ne_of_lt (Nat.lt_succ_of_lt b0) z
    · match r₂, hr₂ with
      | .error _, hr₂ => exact hr₂
      | .ok (.ret v), hr₂ =>
        obtain ⟨rfl, h', tk, c', rfl, hS', hc', hk⟩ := hr₂
        repeat (any_goals (first | assumption | wp_step))
        exact h h' tk c' hS' hc' hk
end
end BxS
namespace Bx
variable [TabC]
open PySem PySem.Spec PyProof.Rows L2
def dd : List Int → List Int
  | [] => []
  | x :: r => if x ∈ r then dd r else x :: dd r
section
variable {X : Cx}
end
end Bx
namespace EnT
open PySem PySem.Spec PyProof.Rows L2 Bx
open AutoSeq1 (wpAny_loadPart')
section
variable {prog : Program} {w : World} {A : Around} {E : Value → Shared → Prop} {s : Shared} (k : SK)
end
set_option maxHeartbeats 1000000 in
theorem new_t (l : Addr) (items : Array Value) (n : Nat) (dct : Option Addr) (sl : Array (Option Value)) :
    Meets (Builtin.«enumerate.__new__» ⟨[.type "enumerate", .ref l], []⟩) (fun _ R s => s.heap.get? l = some { cls := .type "tuple", dict := dct, data := .seq items n, slots := sl } ∧
      R (.ok (.ret (.ref (s.heap.push { cls := .type "tuple_iterator", data := .fields #[.ref l, .int 0 0] }).objs.size)))
        { s with heap := (s.heap.push { cls := .type "tuple_iterator", data := .fields #[.ref l, .int 0 0] }).push { cls := .type "enumerate", data := .fields #[.none, .bool false, .ref s.heap.objs.size, rawInt 0, .none, .none] } }) :=
  .of_wp fun prog w A R s h => by
    obtain ⟨hp, g, d, tk, os⟩ := s; obtain ⟨hl, h⟩ := h
    have hsub := sub_enumerate
    have hL : Heap.IsTuple (Shared.heap ⟨hp, g, d, tk, os⟩) l items := ⟨_, hl, rfl, n, rfl⟩
    wp_walk using wpAny_loadPart' hl
    refine wpAny_stack_any fun st => wpAny_pure ?_
    split
    · rename_i c _ _ _ _ _
      cases (c == Value.type "enumerate")
      · wp_walk using wpAny_loadPart' hl, wpAny_pyIter_tuple hL
        exact ⟨_, rfl, h⟩
      · wp_walk using wpAny_loadPart' hl, wpAny_pyIter_tuple hL
        exact ⟨_, rfl, h⟩
    · wp_walk using wpAny_loadPart' hl, wpAny_pyIter_tuple hL
      exact ⟨_, rfl, h⟩
section
variable {prog : Program} {w : World} {A : Around} {E : Value → Shared → Prop} {s : Shared}
end
end EnT
namespace Bx
variable [TabC]
open PySem PySem.Spec PyProof.Rows L2
section
variable {X : Cx} {e : Expr} {p pos : Pos}
end
end Bx
namespace Bx
variable [TabC]
open PySem PySem.Spec PyProof.Rows L2
section
variable {X : Cx}
end
end Bx
set_option maxHeartbeats 1000000
namespace Bx
variable [TabC]
open PySem PySem.Spec PyProof.Rows L2 LamX
structure LamP (sc scope : Scope) (p : Str) : Prop where
  kind : scope.kind = .function
  co : scope.isCoroutine = false
  gen : scope.isGenerator = false
  par : scope.names.lookup p = some .local
  own : ∀ y ∈ scope.names, y.2 ≠ .cell
  free : ∀ y ∈ scope.names, y.2 = .free → sc.names.lookup y.1 = some .cell ∨ sc.names.lookup y.1 = some .free
theorem LamP.has {X : Cx} {scope : Scope} {p : Str} (L : LamP X.env.scope scope p) (ok : X.Ok) : ∀ y ∈ scope.names, y.2 = .free → ∃ c, X.env.cells.lookup y.1 = some c := fun y hy e => by
  rcases L.free y hy e with k | k
  · exact ok.has _ (.inl k)
  · exact ok.has _ (.inr k)
section
variable {X : Cx} {pins : List (Addr × Obj)} {σ : L2.St} {H : Hp} {s : Shared}
end
end Bx
set_option maxHeartbeats 1000000
namespace Bx
variable [TabC]
open PySem PySem.Spec PyProof.Rows L2 LamX
section
variable {X : Cx} {pins : List (Addr × Obj)} {σ : L2.St} {H : Hp} {s : Shared}
end
end Bx
set_option maxHeartbeats 1000000
namespace Bx
variable [TabC]
open PySem PySem.Spec PyProof.Rows L2 LamX
section
variable {X : Cx}
end
end Bx
set_option maxHeartbeats 2000000
namespace Bx
open PySem PySem.Spec PyProof.Rows L2 LamX
end Bx
namespace Bx
open PySem PySem.Spec PyProof.Rows L2
def evs {α : Type} : List α → List α
  | [] => []
  | [a] => [a]
  | a :: _ :: l => a :: evs l
variable [TabC]
section
variable {X : Cx}
theorem Reps.evs {K : PySem.W.Frag} {H : Hp} {O : Addr → Prop} : ∀ {vs : List V} {ds : List D}, Reps K H O vs ds → Reps K H O (evs vs) (evs ds)
  | _, _, .nil => .nil
  | _, _, .cons r .nil => .cons r .nil
  | _, _, .cons r (.cons _ t) => .cons r (Reps.evs t)
end
section
variable {P : Program} {w : World} {K : PySem.W.Frag} {mg : Str → Option Value} {base : Heap}
end
end Bx
namespace Bx
variable [TabC]
open PySem PySem.Spec PyProof.Rows L2
section
variable {X : Cx}
end
end Bx
namespace Zd
open PySem PySem.Spec PyProof.Rows L2 Bx Zb Zp Zm Zh Zf Zq Zr Zs Zl Zn Zo Zt
def smH (ts : List Th) : Prop := ∀ t ∈ ts, (∀ x ∈ t.2.1, -(10 ^ 18) ≤ x ∧ x ≤ 10 ^ 18) ∧ (-(10 ^ 18) ≤ t.2.2 ∧ t.2.2 ≤ 10 ^ 18) ∧ t.1 ≤ 10 ^ 6
def edg (d : Nat) (zs : List Th) : List (Int × Int) := (List.range d).map fun i => (mnL (zs.map fun t => t.2.1.getD i 0), mxL (zs.map fun t => t.2.1.getD i 0))
def stB (es : List (Int × Int)) (p : List Int) : Int := (List.zipWith (fun e n => max (max 0 (e.1 - n)) (n - e.2)) es p).sum
def wdD (ts : List Th) : D := .dic (ts.map fun t => (Sum.inl t.1 : Key)) (ts.map fun t => .int t.2.2)
def kdD : Option (List Int) → D
  | none => .tup [.str "best"]
  | some p => .tup [.str "near", plc p]
def keyN (d : Nat) (zs : List Th) : Option (List Int) → Int
  | none => 0 - mxL (zs.map fun t => t.2.2)
  | some p => stB (edg d zs) p
def nam0 (zs : List Th) : Int := (sN (nmsT zs)).headD 0
def keyD (d : Nat) (zs : List Th) (k : Option (List Int)) : D := .tup [.int (keyN d zs k), .int (nam0 zs)]
def kdOk : Option (List Int) → Prop
  | none => True
  | some p => p.length ≤ 1000
abbrev C__law_left : PSpec := Zm.C__law_left
abbrev C__law_pick : PSpec := Zm.C__law_pick
def C_steps_to : PSpec := fun ds Q => ∃ (e : D) (es : List (Int × Int)) (p : List Int), ds = [e, plc p] ∧ (e = .tup (es.map edgD) ∨ e = .lst false (es.map edgD)) ∧ es.length ≤ 1000 ∧ Q (.int (stB es p)) []
def C__law_steps : PSpec := C_steps_to
def C_worths_of : PSpec := fun ds Q => ∃ (d : Nat) (ts : List Th), ds = [houseD d ts] ∧ House d ts ∧ Q (wdD ts) []
def C_key_by : PSpec := fun ds Q => ∃ (d : Nat) (ts : List Th) (T : BT) (k : Option (List Int)), ds = [wdD ts, btD d T, kdD k] ∧ Tr d ts T ∧ d ≤ 4 ∧ kdOk k ∧ Q (keyD d T.ths k) []
def C_key_of : PSpec := fun ds Q => ∃ (d : Nat) (ts : List Th) (T : BT) (k : Option (List Int)), ds = [houseD d ts, btD d T, kdD k] ∧ Tr d ts T ∧ d ≤ 4 ∧ kdOk k ∧ Q (keyD d T.ths k) []
def C__law_key : PSpec := C_key_of
def C__law_house : PSpec := fun ds Q => ∃ (h : List D) (n : Nat), ds = [.lst true h] ∧ hnd n h ∧ n ≤ 10 ^ 14 ∧ ∀ (d : Nat) (ts : List Th) (h' : List D), 1 ≤ d → d ≤ 4 → ts.length ≤ 30 → House d ts → smH ts → hnd (n + 400) h' → Q (houseD d ts) [.lst true h']
def C__law_number : PSpec := fun ds Q => ∃ (h : List D) (n d i : Nat) (ts : List Th), ds = [.lst true h, houseD d ts, .int i] ∧ hnd n h ∧ n ≤ 10 ^ 14 ∧ i < d ∧ House d ts ∧ smH ts ∧ ∀ (v : Int) (h' : List D), -(10 ^ 18) - 1 ≤ v → v ≤ 10 ^ 18 + 2 → hnd (n + 2) h' → Q (.int v) [.lst true h']
def C__law_bounds : PSpec := fun ds Q => ∃ (d : Nat) (zs : List Th), ds = [.lst false (zs.map thD)] ∧ zs ≠ [] ∧ zs.length ≤ 1000 ∧ d ≤ 4 ∧ (∀ t ∈ zs, t.2.1.length = d) ∧ Q (bdD d zs) []
def C__law_same : PSpec := fun ds Q => ∃ (xs : List D) (n : Nat), ds = [.tup xs, .tup xs] ∧ okE n (.tup xs) ∧ n ≤ 50 ∧ shOk (.tup xs) ∧ Q (.bl true) []
def w_key_by : DS :=
  (dSeq (dAsgG (gT (gsCons (gN 3) (gsCons (gN 4) gsNil)) 2) (dSl (oVar 1) pNo (pInt (dC (.int 2)))))
    (dSeq (dIfS (tVal (dBin gEq (oVal (dBin gIx (oVar 2) (oVal (dC (.int 0))))) (oVal (dC (.str "near")))))
    (dRet (dTup (aCons (oVal (dCall C_steps_to (aCons (oVar 4) (aCons (oVal (dBin gIx (oVar 2) (oVal (dC (.int 1))))) aNil)))) (aCons (oVal (dBin gIx (oVar 3) (oVal (dC (.int 0))))) aNil))))
    dNext)
    (dRet (dTup (aCons (oVal (dBin gSub (oVal (dC (.int 0))) (oVal (dCB gMax (aCons (oVal (dComp (iOf (dVar 3)) [5] (gN 5) tAll (dBin gIx (oVar 0) (oVar 5)))) aNil))))) (aCons (oVal (dBin gIx (oVar 3) (oVal (dC (.int 0))))) aNil))))))
abbrev B_key_by : PSpec := bodyW [] 6 3 w_key_by
def w__law_house : DS :=
  (dSeq (dAsg 1 (dBin gIx (oVal (dLst (aCons (oVal (dC (.int 1))) (aCons (oVal (dC (.int 2))) (aCons (oVal (dC (.int 2))) (aCons (oVal (dC (.int 3))) (aCons (oVal (dC (.int 3))) (aCons (oVal (dC (.int 4))) aNil)))))))) (oVal (dCallIO 0 0 C__law_pick (aCons (oVar 0) (aCons (oVal (dC (.int 6))) aNil))))))
    (dSeq (dAsgG (gT (gsCons (gN 2) (gsCons (gN 3) gsNil)) 2) (dTup (aCons (oVal (dBin gIx (oVal (dLst (aCons (oVal (dC (.int 1))) (aCons (oVal (dC (.int 2))) (aCons (oVal (dC (.int 3))) (aCons (oVal (dC (.int 5))) (aCons (oVal (dC (.int 9))) (aCons (oVal (dC (.int 40))) aNil)))))))) (oVal (dCallIO 0 0 C__law_pick (aCons (oVar 0) (aCons (oVal (dC (.int 6))) aNil)))))) (aCons (oVal (dBin gIx (oVal (dLst (aCons (oVal (dC (.int 1))) (aCons (oVal (dC (.int 1))) (aCons (oVal (dC (.int 3))) (aCons (oVal (dBin gPow (oVal (dC (.int 10))) (oVal (dC (.int 15))))) aNil)))))) (oVal (dCallIO 0 0 C__law_pick (aCons (oVar 0) (aCons (oVal (dC (.int 4))) aNil)))))) aNil))))
    (dSeq (dPar2 4 5 (dLst aNil) (dCallIO 0 0 C__law_pick (aCons (oVar 0) (aCons (oVal (dC (.int 3))) aNil))))
    (dSeq (dFor (iR gR1 (aCons (oVal (dBin gIx (oVal (dLst (aCons (oVal (dC (.int 0))) (aCons (oVal (dC (.int 1))) (aCons (oVal (dC (.int 2))) (aCons (oVal (dC (.int 3))) (aCons (oVal (dC (.int 4))) (aCons (oVal (dC (.int 6))) (aCons (oVal (dC (.int 8))) (aCons (oVal (dC (.int 12))) (aCons (oVal (dC (.int 20))) (aCons (oVal (dC (.int 30))) aNil)))))))))))) (oVal (dCallIO 0 0 C__law_pick (aCons (oVar 0) (aCons (oVal (dC (.int 10))) aNil)))))) aNil)) (gN 6)
    (dSeq (dAsg 7 (dCB gTuple (aCons (oVal (dComp (iR gR1 (aCons (oVar 1) aNil)) [9] (gN 9) tAll (dBin gMul2 (oVal (dBin gSub (oVal (dCallIO 0 0 C__law_pick (aCons (oVar 0) (aCons (oVal (dBin gAdd (oVal (dBin gMul2 (oVal (dC (.int 2))) (oVar 2))) (oVal (dC (.int 1))))) aNil)))) (oVar 2))) (oVar 3)))) aNil)))
    (dSeq (dIfS (tAnd (tVal (dBin gNe (oVar 4) (oVal (dLst aNil)))) (tVal (dBin gEq (oVal (dCallIO 0 0 C__law_pick (aCons (oVar 0) (aCons (oVal (dC (.int 6))) aNil)))) (oVal (dC (.int 0))))))
    (dAsg 7 (dBin gIx (oVal (dBin gIx (oVar 4) (oVal (dCallIO 0 0 C__law_pick (aCons (oVar 0) (aCons (oVal (dCB gLen (aCons (oVar 4) aNil))) aNil)))))) (oVal (dC (.int 1)))))
    dNext)
    (dSeq (dAsg 8 (dBin gIx (oVal (dLst (aCons (oVal (dBin gPow (oVal (dC (.int 10))) (oVal (dC (.int 17))))) (aCons (oVal (dUn gNeg (oVal (dBin gPow (oVal (dC (.int 10))) (oVal (dC (.int 17))))))) aNil)))) (oVal (dCallIO 0 0 C__law_pick (aCons (oVar 0) (aCons (oVal (dC (.int 2))) aNil))))))
    (dSeq (dExp (dApp 4 (dTup (aCons (oVar 5) (aCons (oVar 7) (aCons (oVal (dBin gIx (oVal (dLst (aCons (oVal (dBin gSub (oVal (dCallIO 0 0 C__law_pick (aCons (oVar 0) (aCons (oVal (dC (.int 5))) aNil)))) (oVal (dC (.int 2))))) (aCons (oVal (dBin gSub (oVal (dCallIO 0 0 C__law_pick (aCons (oVar 0) (aCons (oVal (dC (.int 1000))) aNil)))) (oVal (dC (.int 500))))) (aCons (oVar 8) aNil))))) (oVal (dCallIO 0 0 C__law_pick (aCons (oVar 0) (aCons (oVal (dC (.int 3))) aNil)))))) aNil))))))
    (dAsg 5 (dBin gAdd (oVal (dBin gAdd (oVar 5) (oVal (dC (.int 1))))) (oVal (dBin gIx (oVal (dLst (aCons (oVal (dC (.int 0))) (aCons (oVal (dC (.int 0))) (aCons (oVal (dC (.int 1))) (aCons (oVal (dC (.int 7))) (aCons (oVal (dC (.int 40))) aNil))))))) (oVal (dCallIO 0 0 C__law_pick (aCons (oVar 0) (aCons (oVal (dC (.int 5))) aNil)))))))))))))
    (dRet (dTup (aCons (oVar 1) (aCons (oVal (dCB gTuple (aCons (oVar 4) aNil))) aNil))))))))
abbrev B__law_house : PSpec := bodyW [0] 10 1 w__law_house
def w__law_number : DS :=
  (dSeq (dAsg 3 (dBin gAdd (oVal (dComp (iOf (dBin gIx (oVar 1) (oVal (dC (.int 1))))) [4] (gN 4) tAll (dBin gIx (oVal (dBin gIx (oVar 4) (oVal (dC (.int 1))))) (oVar 2)))) (oVal (dLst (aCons (oVal (dC (.int 0))) aNil)))))
    (dRet (dBin gAdd (oVal (dBin gIx (oVar 3) (oVal (dCallIO 0 0 C__law_pick (aCons (oVar 0) (aCons (oVal (dCB gLen (aCons (oVar 3) aNil))) aNil)))))) (oVal (dBin gIx (oVal (dLst (aCons (oVal (dC (.int 0))) (aCons (oVal (dC (.int 0))) (aCons (oVal (dC (.int 0))) (aCons (oVal (dC (.int 1))) (aCons (oVal (dUn gNeg (oVal (dC (.int 1))))) (aCons (oVal (dC (.int 2))) aNil)))))))) (oVal (dCallIO 0 0 C__law_pick (aCons (oVar 0) (aCons (oVal (dC (.int 6))) aNil)))))))))
abbrev B__law_number : PSpec := bodyW [0] 5 3 w__law_number
def w__law_bounds : DS :=
  (dSeq (dAsg 1 (dComp (iOf (dVar 0)) [5] (gN 5) tAll (dBin gIx (oVar 5) (oVal (dC (.int 1))))))
    (dSeq (dAsg 2 (dLst aNil))
    (dSeq (dFor (iR gR1 (aCons (oVal (dCB gLen (aCons (oVal (dBin gIx (oVar 1) (oVal (dC (.int 0))))) aNil))) aNil)) (gN 3)
    (dSeq (dAsg 4 (dComp (iOf (dVar 1)) [6] (gN 6) tAll (dBin gIx (oVar 6) (oVar 3))))
    (dExp (dApp 2 (dTup (aCons (oVal (dCB gMin (aCons (oVar 4) aNil))) (aCons (oVal (dCB gMax (aCons (oVar 4) aNil))) aNil)))))))
    (dRet (dCB gTuple (aCons (oVar 2) aNil))))))
abbrev B__law_bounds : PSpec := bodyW [] 7 1 w__law_bounds
def w__law_same : DS :=
  (dRet (dAnd (dBin gEq (oVar 0) (oVar 1)) (dBin gEqT (oVal (dCB gRepr (aCons (oVar 0) aNil))) (oVal (dCB gRepr (aCons (oVar 1) aNil))))))
abbrev B__law_same : PSpec := bodyW [] 2 2 w__law_same
theorem bd_edg (d : Nat) (zs : List Th) : bdD d zs = .tup ((edg d zs).map edgD) := by
  unfold bdD bnd edg
  rw [List.map_map, List.map_map]
  rfl
theorem edg_len (d : Nat) (zs : List Th) : (edg d zs).length = d := by simp [edg]
theorem wd_at {d : Nat} {ts : List Th} (h : House d ts) {t : Th} (ht : t ∈ ts) : dget (ts.map fun t => (Sum.inl t.1 : Key)) (ts.map fun t => D.int t.2.2) (.inl t.1) = some (.int t.2.2) := by
  have hr := h.ris
  clear h
  induction ts with
  | nil => cases ht
  | cons s r ih =>
    rw [List.map_cons, List.map_cons]
    have hp := List.pairwise_cons.mp hr
    rcases List.mem_cons.mp ht with rfl | hm
    · simp [dget]
    · have h1 := hp.1 t hm
      have ne : ¬ (Sum.inl s.1 : Key) = Sum.inl t.1 := fun z => by injection z with z; omega
      have := ih hm hp.2
      simp only [dget] at this ⊢
      simp [ne, this]
theorem ix_wd {d : Nat} {ts : List Th} (h : House d ts) {t : Th} (ht : t ∈ ts) (K : D → Prop) : gIx (wdD ts) (.int t.1) K = K (.int t.2.2) := by
  simp only [wdD, wd_at h ht, Bx.go]
theorem wd_frz (ts : List Th) : (wdD ts).frz = wdD ts := rfl
theorem nam0_mem {zs : List Th} (h : zs ≠ []) : ∃ l, sN (nmsT zs) = nam0 zs :: l := by
  have := sn_ne h
  unfold nam0
  cases e : sN (nmsT zs) with
  | nil => exact absurd e this
  | cons a l => exact ⟨l, rfl⟩
theorem ix_nam0 {zs : List Th} (h : zs ≠ []) (K : D → Prop) : gIx (plc (sN (nmsT zs))) (.int 0) K = K (.int (nam0 zs)) := by
  obtain ⟨l, e⟩ := nam0_mem h
  rw [e]
  simp only [plc, List.map_cons, at0, Bx.go]
theorem big_mul {a b : Int} (h1 : -40 ≤ a) (h2 : a ≤ 40) (b1 : 1 ≤ b) (b2 : b ≤ 10 ^ 15) : -(10 ^ 18) ≤ a * b ∧ a * b ≤ 10 ^ 18 := by
  have e1 : a * b ≤ 40 * b := Int.mul_le_mul_of_nonneg_right h2 (by omega)
  have e2 : -40 * b ≤ a * b := Int.mul_le_mul_of_nonneg_right h1 (by omega)
  omega
theorem sm_snoc {ts : List Th} {nm wo : Int} {p : List Int} (h : smH ts) (pb : ∀ x ∈ p, -(10 ^ 18) ≤ x ∧ x ≤ 10 ^ 18) (wb : -(10 ^ 18) ≤ wo ∧ wo ≤ 10 ^ 18) (n : nm ≤ 10 ^ 6) : smH (ts ++ [(nm, p, wo)]) := fun t ht => by
  rcases List.mem_append.mp ht with ht | ht
  · exact h t ht
  · rw [List.mem_singleton.mp ht]
    exact ⟨pb, wb, n⟩
theorem num_sm {d i : Nat} {ts : List Th} (sm : smH ts) (ht : House d ts) (hi : i < d) {x : Int} (hx : x ∈ (ts.map fun t => t.2.1.getD i 0) ++ [0]) : -(10 ^ 18) ≤ x ∧ x ≤ 10 ^ 18 := by
  rcases List.mem_append.mp hx with hx | hx
  · obtain ⟨t, m, rfl⟩ := List.mem_map.mp hx
    have l := ht.num t m
    have e : t.2.1.getD i 0 = t.2.1[i]'(by omega) := by
      rw [List.getD_eq_getElem?_getD, List.getElem?_eq_getElem (by omega)]; rfl
    rw [e]
    exact (sm t m).1 _ (List.getElem_mem _)
  · rw [List.mem_singleton.mp hx]; decide
theorem imp__law_house : ∀ ds Q, C__law_house ds Q → B__law_house ds Q := by
  rintro ds Q ⟨h, n, rfl, hh, hn, q⟩
  refine ⟨rfl, ?_⟩
  have sl := sizeLine_eq
  refine seq_cut (fun ρ => ∃ (h : List D) (d : Nat), 1 ≤ d ∧ d ≤ 4 ∧ hnd (n + 1) h ∧ ρ = [some (.lst true h), some (.int d), none, none, none, none, none, none, none, none]) (fun R hR => ?_) ?_
  · simp only [Bx.go]
    refine ⟨h, n, 6, rfl, hh, by omega, by decide, by decide, fun r h h0 h1 hh => ?_⟩
    obtain ⟨v, ev, hv⟩ := atI_of (ns := [1, 2, 2, 3, 3, 4]) (fun v => 1 ≤ v ∧ v ≤ 4) (by decide) h0 (by simpa using h1)
    simp only [List.map] at ev
    simp only [ev, Bx.go]
    exact hR _ ⟨h, v.toNat, by omega, by omega, hh, by rw [Int.toNat_of_nonneg (by omega)]⟩
  rintro _ ⟨h, d, d1, d4, hh, rfl⟩
  refine seq_cut (fun ρ => ∃ (h : List D) (w f : Int), 1 ≤ w ∧ w ≤ 40 ∧ 1 ≤ f ∧ f ≤ 10 ^ 15 ∧ hnd (n + 3) h ∧ ρ = [some (.lst true h), some (.int d), some (.int w), some (.int f), none, none, none, none, none, none]) (fun R hR => ?_) ?_
  · simp only [Bx.go]
    refine ⟨h, _, 6, rfl, hh, by omega, by decide, by decide, fun r h h0 h1 hh => ?_⟩
    obtain ⟨w, ew, hw⟩ := atI_of (ns := [1, 2, 3, 5, 9, 40]) (fun v => 1 ≤ v ∧ v ≤ 40) (by decide) h0 (by simpa using h1)
    simp only [List.map] at ew
    simp only [ew, Bx.go]
    refine ⟨⟨by decide, by decide, by decide⟩, h, _, 4, rfl, hh, by omega, by decide, by decide, fun r h h0 h1 hh => ?_⟩
    obtain ⟨f, ef, hf⟩ := atI_of (ns := [1, 1, 3, 10 ^ Int.toNat 15]) (fun v => 1 ≤ v ∧ v ≤ 10 ^ 15) (by decide) h0 (by simpa using h1)
    simp only [List.map] at ef
    simp only [ef, Bx.go]
    exact hR _ ⟨h, w, f, hw.1, hw.2, hf.1, hf.2, hh, rfl⟩
  rintro _ ⟨h, w, f, w1, w2, f1, f2, hh, rfl⟩
  refine seq_cut (fun ρ => ∃ (h : List D) (nm : Int), 0 ≤ nm ∧ nm ≤ 3 ∧ hnd (n + 4) h ∧ ρ = [some (.lst true h), some (.int d), some (.int w), some (.int f), some (.lst true []), some (.int nm), none, none, none, none]) (fun R hR => ?_) ?_
  · simp only [Bx.go]
    refine ⟨h, _, 3, rfl, hh, by omega, by decide, by decide, fun r h h0 h1 hh => ?_⟩
    simp only [Bx.go]
    exact hR _ ⟨h, r, h0, by omega, hh, rfl⟩
  rintro _ ⟨h, nm, nm0, nm3, hh, rfl⟩
  refine seq_cut (fun ρ => ∃ (h : List D) (ts : List Th) (x5 x6 x7 x8 x9 : Option D), ts.length ≤ 30 ∧ House d ts ∧ smH ts ∧ hnd (n + 400) h ∧ ρ = [some (.lst true h), some (.int d), some (.int w), some (.int f), some (.lst true (ts.map thD)), x5, x6, x7, x8, x9]) (fun R hR => ?_) ?_
  · simp only [Bx.go]
    refine ⟨h, _, 10, rfl, hh, by omega, by decide, by decide, fun r h h0 h1 hh => ?_⟩
    obtain ⟨m, em, hm⟩ := atI_of (ns := [0, 1, 2, 3, 4, 6, 8, 12, 20, 30]) (fun v => 0 ≤ v ∧ v ≤ 30) (by decide) h0 (by simpa using h1)
    simp only [List.map] at em
    simp only [em, Bx.go]
    refine ⟨i62_of (by omega) (by omega), ?_⟩
    rw [rangeD_nat]
    refine for_each (List.range m.toNat) _ (fun dn ρ => ∃ (h : List D) (ts : List Th) (nm : Int) (x6 x7 x8 x9 : Option D), ts.length = dn.length ∧ House d ts ∧ smH ts ∧ (0 ≤ nm ∧ nm ≤ 3 + 41 * dn.length) ∧ (∀ s ∈ ts, s.1 < nm) ∧ hnd (n + 5 + 12 * dn.length) h ∧ ρ = [some (.lst true h), some (.int d), some (.int w), some (.int f), some (.lst true (ts.map thD)), some (.int nm), x6, x7, x8, x9])
      ⟨h, [], nm, _, _, _, _, rfl, ⟨by simp, fun _ h => absurd h List.not_mem_nil, fun _ h => absurd h List.not_mem_nil, .nil⟩, fun _ h => absurd h List.not_mem_nil, ⟨nm0, by simpa using nm3⟩, fun _ h => absurd h List.not_mem_nil, hh, rfl⟩ ?_ ?_
    · rintro dn x r ρ N e ⟨h, ts, nm, x6, x7, x8, x9, tl, ht, sm, ⟨nm0, nm4⟩, hr, hh, rfl⟩ hN
      have e := congrArg List.length e
      simp at e
      obtain ⟨c, hc⟩ : ∃ c, c = n + 5 + 12 * dn.length := ⟨_, rfl⟩
      rw [← hc] at hh
      simp only [u1_gT, u2_gT, u1_gsCons, u2_gsCons, u1_gsNil, u2_gsNil, u1_kGs, u1_gN, u1_kForB, rset_s, rset_0, rget_s, rget_0, D.seq, D.sql, u_onSome_some, frz_tup, frz_int, frz_bl, frz_lst, frz_str, frz_non, frz_scr, List.length_cons, List.length_nil, List.map_cons, List.map_nil, Option.bind_some, true_and, and_true]
      refine seq_cut (fun ρ => ∃ (h : List D) (p : List Int) (x9 : Option D), p.length = d ∧ (∀ x ∈ p, -(10 ^ 18) ≤ x ∧ x ≤ 10 ^ 18) ∧ hnd (c + 4) h ∧ ρ = [some (.lst true h), some (.int d), some (.int w), some (.int f), some (.lst true (ts.map thD)), some (.int nm), some (.int (x : Nat)), some (.tup (p.map .int)), x8, x9]) (fun R hR => ?_) ?_
      · simp only [Bx.go]
        refine ⟨i62_of (by omega) (by omega), by rw [rangeD_len]; omega, ?_⟩
        rw [rangeD_nat]
        refine co_each (List.range (Int.toNat d)) _ (fun dm acc ρ => ∃ (h : List D) (p : List Int), acc = p.map .int ∧ p.length = dm.length ∧ (∀ x ∈ p, -(10 ^ 18) ≤ x ∧ x ≤ 10 ^ 18) ∧ hnd (c + dm.length) h ∧ ρ = [some (.lst true h), some (.int d), some (.int w), some (.int f), some (.lst true (ts.map thD)), some (.int nm), some (.int (x : Nat)), x7, x8, none]) ⟨h, [], rfl, rfl, fun _ h => absurd h List.not_mem_nil, hh, rfl⟩ ?_ ?_
        · rintro dm y r acc ρ N e2 ⟨h, p, rfl, pl, pb, hh, rfl⟩ hN
          have e2 := congrArg List.length e2
          simp at e2
          simp only [Bx.go]
          refine ⟨.inl ⟨by omega, by omega⟩, h, _, 2 * w + 1, rfl, hh, by omega, by omega, by omega, fun r h h0 h1 hh => ?_⟩
          simp only [Bx.go]
          exact ⟨.inl ⟨by omega, by omega⟩, hN _ _ ⟨h, p ++ [(r - w) * f], by simp, by simp [pl], fun x hx => (List.mem_append.mp hx).elim (pb x) fun hx => by rw [List.mem_singleton.mp hx]; exact big_mul (by omega) (by omega) f1 f2, hh.mono (by simp; omega), rfl⟩⟩
        · rintro acc ρ ⟨h, p, rfl, pl, pb, hh, rfl⟩
          simp only [backR, Bx.go]
          simp at pl hh
          exact hR _ ⟨h, p, _, pl, pb, hh.mono (by omega), rfl⟩
      clear x7 x9
      rintro _ ⟨h, p, x9, pl, pb, hh, rfl⟩
      refine seq_cut (fun ρ => ∃ (h : List D) (p : List Int), p.length = d ∧ (∀ x ∈ p, -(10 ^ 18) ≤ x ∧ x ≤ 10 ^ 18) ∧ hnd (c + 6) h ∧ ρ = [some (.lst true h), some (.int d), some (.int w), some (.int f), some (.lst true (ts.map thD)), some (.int nm), some (.int (x : Nat)), some (.tup (p.map .int)), x8, x9]) (fun R hR => ?_) ?_
      · simp only [ne_nil_th, Bx.go]
        refine ⟨eqOk_of (okE_lth true ts) (okE_lth true []) (by decide), ?_⟩
        cases he : ts.isEmpty
        · have t0 : 0 < ts.length := by cases ts <;> simp at he ⊢
          simp only [eqv_int, Bx.go]
          refine ⟨h, _, 6, rfl, hh, by omega, by decide, by decide, fun r h _ _ hh => ?_⟩
          simp only [eqv_int, Bx.go]
          refine ⟨eqOk_int _ _, ?_⟩
          refine pick_by (fun _ => ?_) (fun _ => ?_)
          · simp only [Bx.go]
            refine ⟨h, _, ts.length, rfl, hh, by omega, by omega, by omega, fun r h h0 h1 hh => ?_⟩
            have hr' : r.toNat < ts.length := by omega
            have er := atI_map (f := thD) (List.getElem?_eq_getElem hr')
            rw [Int.toNat_of_nonneg h0] at er
            have hp := ht.num _ (List.getElem_mem hr')
            have hpb := (sm _ (List.getElem_mem hr')).1
            simp only [er, thD, q1, Bx.go]
            exact hR _ ⟨h, _, hp, hpb, hh, rfl⟩
          · simp only [Bx.go]
            exact hR _ ⟨h, p, pl, pb, hh.mono (by omega), rfl⟩
        · simp only [Bx.go]
          exact hR _ ⟨h, p, pl, pb, hh.mono (by omega), rfl⟩
      clear pb pl p hh h
      rintro _ ⟨h, p, pl, pb, hh, rfl⟩
      refine seq_cut (fun ρ => ∃ (h : List D) (fa : Int), (-(10 ^ 18) ≤ fa ∧ fa ≤ 10 ^ 18) ∧ hnd (c + 7) h ∧ ρ = [some (.lst true h), some (.int d), some (.int w), some (.int f), some (.lst true (ts.map thD)), some (.int nm), some (.int (x : Nat)), some (.tup (p.map .int)), some (.int fa), x9]) (fun R hR => ?_) ?_
      · simp only [Bx.go]
        refine ⟨⟨by decide, by decide, by decide⟩, ⟨by decide, by decide, by decide⟩, h, _, 2, rfl, hh, by omega, by decide, by decide, fun r h h0 h1 hh => ?_⟩
        obtain ⟨v, ev, hv⟩ := atI_of (ns := [10 ^ Int.toNat 17, -10 ^ Int.toNat 17]) (fun v => -(10 ^ 18) ≤ v ∧ v ≤ 10 ^ 18) (by decide) h0 (by simpa using h1)
        simp only [List.map] at ev
        simp only [ev, Bx.go]
        exact hR _ ⟨h, v, hv, hh, rfl⟩
      rintro _ ⟨h, fa, fb, hh, rfl⟩
      refine seq_cut (fun ρ => ∃ (h : List D) (wo : Int), (-(10 ^ 18) ≤ wo ∧ wo ≤ 10 ^ 18) ∧ hnd (c + 10) h ∧ ρ = [some (.lst true h), some (.int d), some (.int w), some (.int f), some (.lst true ((ts ++ [(nm, p, wo)]).map thD)), some (.int nm), some (.int (x : Nat)), some (.tup (p.map .int)), some (.int fa), x9]) (fun R hR => ?_) ?_
      · simp only [Bx.go]
        refine ⟨h, _, 5, rfl, hh, by omega, by decide, by decide, fun r1 h a0 a1 hh => ?_⟩
        simp only [Bx.go]
        refine ⟨h, _, 1000, rfl, hh, by omega, by decide, by decide, fun r2 h b0 b1 hh => ?_⟩
        simp only [Bx.go]
        refine ⟨h, _, 3, rfl, hh, by omega, by decide, by decide, fun r3 h h0 h1 hh => ?_⟩
        obtain ⟨v, ev, hv⟩ := atI_of (ns := [r1 - 2, r2 - 500, fa]) (fun v => -(10 ^ 18) ≤ v ∧ v ≤ 10 ^ 18) (by intro n hn; simp only [List.mem_cons, List.not_mem_nil, or_false] at hn; rcases hn with rfl | rfl | rfl <;> omega) h0 (by simpa using h1)
        simp only [List.map] at ev
        simp only [ev, Bx.go]
        exact ⟨by omega, hR _ ⟨h, v, hv, hh, by rw [List.map_append]; rfl⟩⟩
      rintro _ ⟨h, wo, wb, hh, rfl⟩
      simp only [Bx.go]
      refine ⟨h, _, 5, rfl, hh, by omega, by decide, by decide, fun r h h0 h1 hh => ?_⟩
      obtain ⟨v, ev, hv⟩ := atI_of (ns := [0, 0, 1, 7, 40]) (fun v => 0 ≤ v ∧ v ≤ 40) (by decide) h0 (by simpa using h1)
      simp only [List.map] at ev
      simp only [ev, Bx.go]
      refine hN _ ⟨h, ts ++ [(nm, p, wo)], _, _, _, _, _, by simp [tl], ht.snoc (by omega) pl nm0 hr, sm_snoc sm pb wb (by omega), ⟨by omega, by simp only [List.length_append, List.length_cons, List.length_nil]; omega⟩, fun s hs => ?_, hh.mono (by simp; omega), rfl⟩
      rcases List.mem_append.mp hs with hs | hs
      · have := hr s hs; omega
      · simp at hs; subst hs; show nm < _; omega
    · rintro ρ ⟨h, ts, nm, x6, x7, x8, x9, tl, ht, sm, nm0, hr, hh, rfl⟩
      simp at tl hh
      exact hR _ ⟨h, ts, _, _, _, _, _, by omega, ht, sm, hh.mono (by omega), rfl⟩
  rintro _ ⟨h, ts, x5, x6, x7, x8, x9, tl, ht, sm, hh, rfl⟩
  simp only [Bx.go]
  exact q d ts h d1 d4 tl ht sm hh
theorem imp__law_number : ∀ ds Q, C__law_number ds Q → B__law_number ds Q := by
  rintro ds Q ⟨h, n, d, i, ts, rfl, hh, hn, hi, ht, sm, q⟩
  refine ⟨rfl, ?_⟩
  have sl := sizeLine_eq
  have tl := ht.len
  refine seq_cut (fun ρ => ∃ (x4 : Option D) (l : List Int), l.length = ts.length + 1 ∧ (∀ x ∈ l, -(10 ^ 18) ≤ x ∧ x ≤ 10 ^ 18) ∧ ρ = [some (.lst true h), some (houseD d ts), some (.int i), some (.lst true (l.map .int)), x4]) (fun R hR => ?_) ?_
  · simp only [houseD, p1, Bx.go]
    refine ⟨by omega, co_map ts thD (fun t => .int (t.2.1.getD i 0)) (fun t htm acc N hN => ?_) ?_⟩
    · have lt := ht.num t htm
      have ei := atI_int (row := t.2.1) (i := i) (by omega)
      simp only [thD, q1, ei, Bx.go]
      exact hN
    · simp only [backR, Bx.go]
      rw [show (ts.map fun t => D.int (t.2.1.getD i 0)) = (ts.map fun t => t.2.1.getD i 0).map .int by rw [List.map_map]; rfl]
      refine ⟨by omega, hR _ ⟨_, (ts.map fun t => t.2.1.getD i 0) ++ [0], by simp, fun x hx => num_sm sm ht hi hx, by rw [List.map_append]; rfl⟩⟩
  rintro _ ⟨x4, l, ll, lb, rfl⟩
  simp only [Bx.go]
  refine ⟨h, n, l.length, rfl, hh, by omega, by omega, by omega, fun r h h0 h1 hh => ?_⟩
  obtain ⟨v, ev, hv⟩ := atI_of (ns := l) (fun v => -(10 ^ 18) ≤ v ∧ v ≤ 10 ^ 18) lb h0 h1
  simp only [ev, Bx.go]
  refine ⟨h, _, 6, rfl, hh, by omega, by decide, by decide, fun r h h0 h1 hh => ?_⟩
  obtain ⟨u, eu, hu⟩ := atI_of (ns := [0, 0, 0, 1, -1, 2]) (fun v => -1 ≤ v ∧ v ≤ 2) (by decide) h0 (by simpa using h1)
  simp only [List.map] at eu
  simp only [eu, Bx.go]
  exact q _ h (by omega) (by omega) hh
theorem find_nm {d : Nat} {ts : List Th} {T : BT} (h : Tr d ts T) {t : Th} (ht : t ∈ T.ths) : (T.ths.find? fun s => s.1 == t.1) = some t := by
  have h1 : Sub d ts T.ths := h
  cases e : T.ths.find? fun s => s.1 == t.1 with
  | none => exact absurd (List.find?_eq_none.mp e t ht) (by simp)
  | some s =>
    have a := List.find?_some e
    have b := List.mem_of_find?_eq_some e
    exact congrArg some (h1.one s b t ht (by simpa using a))
theorem cut4 (a b c e : D) : Bx.cutD [a, b, c, e] none (some 2) = [a, b] := by rfl
theorem onSome_some {α : Type} (a : α) (f : α → Prop) : onSome (some a) f = f a := rfl
theorem kind_at (d : Nat) (k : Option (List Int)) (K : D → Prop) : gIx (kdD k) (.int 0) K = K (.str (if k.isSome then "near" else "best")) := by
  cases k with
  | none => simp only [kdD, at0, Bx.go]; rfl
  | some p => simp only [kdD, at0, Bx.go]; rfl
theorem ix1_kd (p : List Int) (K : D → Prop) : gIx (kdD (some p)) (.int 1) K = K (plc p) := by
  simp only [kdD, p1, Bx.go]
theorem imp_key_by : ∀ ds Q, C_key_by ds Q → B_key_by ds Q := by
  rintro ds Q ⟨d, ts, T, k, rfl, h, d4, kok, q⟩
  refine ⟨rfl, ?_⟩
  have sl := sizeLine_eq
  have zl := h.len
  have n0 := bt_ne T
  have kf : (kdD k).frz = kdD k := by cases k <;> rfl
  obtain ⟨lo, hi, eT⟩ := bt_parts d T
  obtain ⟨N, eN⟩ : ∃ N, N = sN (nmsT T.ths) := ⟨_, rfl⟩
  have Nl : N.length = T.ths.length := by rw [eN, sN_len, nms_len']
  have Nm : ∀ n ∈ N, ∃ t ∈ T.ths, t.1 = n := fun n hn => List.mem_map.mp (sN_mem.mp (eN ▸ hn))
  have ix0 : ∀ K : D → Prop, gIx (plc N) (.int 0) K = K (.int (nam0 T.ths)) := fun K => by rw [eN]; exact ix_nam0 n0 K
  have N0 : N ≠ [] := eN ▸ sn_ne n0
  refine seq_cut (fun ρ => ρ = [some (wdD ts), some (btD d T), some (kdD k), some (plc N), some (bdD d T.ths), none]) (fun R hR => ?_) ?_
  · rw [eT, ← eN]
    rw [eT, ← eN] at hR
    simp only [Bx.go]
    rw [cut4]
    refine ⟨rfl, ?_⟩
    simp only [plc_frz, show (bdD d T.ths).frz = bdD d T.ths from rfl, Bx.go]
    exact hR _ rfl
  rintro _ rfl
  cases k with
  | some p =>
    refine seq_cut (fun _ => False) (fun R hR => ?_) (fun _ h => h.elim)
    simp only [kind_at d, Option.isSome_some, if_true, Bx.go]
    refine ⟨⟨by decide +kernel, by decide +kernel⟩, ?_⟩
    simp only [ix1_kd, ix0, show D.eqv (.str "near") (.str "near") = true from by decide +kernel, Bx.go]
    refine ⟨_, edg d T.ths, p, rfl, .inl (by rw [← bd_edg]; try rfl), by rw [edg_len]; omega, ?_⟩
    simp only [ix0, Bx.go]
    exact q
  | none =>
    refine seq_cut (fun ρ => ρ = [some (wdD ts), some (btD d T), some (kdD none), some (plc N), some (bdD d T.ths), none]) (fun R hR => ?_) ?_
    · simp only [kind_at d, Option.isSome_none, Bool.false_eq_true, if_false, Bx.go]
      refine ⟨⟨by decide +kernel, by decide +kernel⟩, ?_⟩
      simp only [show D.eqv (.str "best") (.str "near") = false from by decide +kernel, Bx.go]
      exact hR _ rfl
    rintro _ rfl
    simp only [wd_frz, plc_frz, ix0, Bx.go]
    simp only [plc, Bx.go]
    refine ⟨by omega, co_map N D.int (fun n => .int (((T.ths.find? fun t => t.1 == n).map (·.2.2)).getD 0)) (fun n hn acc K hK => ?_) ?_⟩
    · obtain ⟨t, ht, rfl⟩ := Nm n hn
      have ef : (T.ths.find? fun s => s.1 == t.1) = some t := find_nm h ht
      rw [ef] at hK
      simp only [ix_wd h.hs (h.mem t ht), wd_frz, plc_frz, Bx.go]
      exact hK
    · simp only [backR, Bx.go]
      rw [show N.map (fun n => D.int (((T.ths.find? fun t => t.1 == n).map (·.2.2)).getD 0)) = (N.map fun n => ((T.ths.find? fun t => t.1 == n).map (·.2.2)).getD 0).map .int by rw [List.map_map]; rfl]
      simp only [Bx.asInts_map, Bx.go]
      refine ⟨by rw [Nl]; exact List.length_pos_iff.mpr n0, fun m m1 m2 => ?_⟩
      have em : m = mxL (T.ths.map fun t => t.2.2) := by
        refine mx_is ?_ fun y hy => ?_
        · obtain ⟨n, hn, rfl⟩ := List.mem_map.mp m1
          obtain ⟨t, ht, rfl⟩ := Nm n hn
          rw [find_nm h ht]
          exact List.mem_map.mpr ⟨t, ht, rfl⟩
        · obtain ⟨t, ht, rfl⟩ := List.mem_map.mp hy
          refine m2 _ (List.mem_map.mpr ⟨t.1, ?_, ?_⟩)
          · rw [eN]; exact sN_mem.mpr (List.mem_map_of_mem ht)
          · rw [find_nm h ht]; rfl
      have ix0' : atI (N.map D.int) 0 = some (.int (nam0 T.ths)) := by
        obtain ⟨l, e⟩ := nam0_mem n0
        rw [eN, e]
        exact at0
      simp only [ix0', Bx.go]
      rw [em]
      exact q
theorem imp__law_bounds : ∀ ds Q, C__law_bounds ds Q → B__law_bounds ds Q := by
  rintro ds Q ⟨d, zs, rfl, h0, zl, d4, hd, q⟩
  refine ⟨rfl, ?_⟩
  have sl := sizeLine_eq
  have z0 := List.length_pos_iff.mpr h0
  refine seq_cut (fun ρ => ρ = [some (.lst false (zs.map thD)), some (.lst true (zs.map fun t => plc t.2.1)), none, none, none, none, none]) (fun R hR => ?_) ?_
  · simp only [Bx.go]
    refine ⟨by omega, co_map zs thD (fun t => plc t.2.1) (fun t ht acc K hK => ?_) ?_⟩
    · simp only [thD, q1, Bx.go]
      exact hK
    · simp only [backR, Bx.go]
      exact hR _ rfl
  rintro _ rfl
  refine seq_cut (fun ρ => ρ = [some (.lst false (zs.map thD)), some (.lst true (zs.map fun t => plc t.2.1)), some (.lst true []), none, none, none, none]) (fun R hR => ?_) ?_
  · simp only [Bx.go]
    exact hR _ rfl
  rintro _ rfl
  obtain ⟨t0, e0, m0⟩ : ∃ t0, atI (zs.map fun t => plc t.2.1) 0 = some (plc t0.2.1) ∧ t0 ∈ zs := by
    cases zs with
    | nil => exact absurd rfl h0
    | cons t r => exact ⟨t, at0, List.mem_cons_self⟩
  have gl : ∀ K : D → Prop, gLen [plc t0.2.1] K = K (.int d) := fun K => by simp only [plc, hd t0 m0, Bx.go]
  refine seq_cut (fun ρ => ∃ x1 x3 x4 x5 x6, ρ = [some (.lst false (zs.map thD)), x1, some (.lst true ((edg d zs).map edgD)), x3, x4, x5, x6]) (fun R hR => ?_) ?_
  · simp only [e0, gl, plc_frz, Bx.go]
    refine ⟨i62_of (by omega) (by omega), ?_⟩
    rw [rangeD_nat, Int.toNat_natCast]
    refine for_each (List.range d) (fun i : Nat => D.int i) (fun dn ρ => ∃ o x3 x4, ρ = [some (.lst false (zs.map thD)), some (.lst o (zs.map fun t => plc t.2.1)), some (.lst true ((dn.map fun i => (mnL (zs.map fun t => t.2.1.getD i 0), mxL (zs.map fun t => t.2.1.getD i 0))).map edgD)), x3, x4, none, none]) ⟨_, _, _, rfl⟩ ?_ ?_
    · rintro dn i r ρ N e ⟨o, x3, x4, rfl⟩ hN
      have hi : i < d := List.mem_range.mp (by rw [e]; simp)
      simp only [u1_gT, u2_gT, u1_gsCons, u2_gsCons, u1_gsNil, u2_gsNil, u1_kGs, u1_gN, u1_kForB, rset_s, rset_0, rget_s, rget_0, D.seq, D.sql, u_onSome_some, frz_tup, frz_int, frz_bl, frz_lst, frz_str, frz_non, frz_scr, List.length_cons, List.length_nil, List.map_cons, List.map_nil, Option.bind_some, true_and, and_true]
      refine seq_cut (fun ρ => ∃ o, ρ = [some (.lst false (zs.map thD)), some (.lst o (zs.map fun t => plc t.2.1)), some (.lst true ((dn.map fun i => (mnL (zs.map fun t => t.2.1.getD i 0), mxL (zs.map fun t => t.2.1.getD i 0))).map edgD)), some (.int (i : Nat)), some (.lst true (zs.map fun t => .int (t.2.1.getD i 0))), none, none]) (fun R hR => ?_) ?_
      · simp only [Bx.go]
        refine ⟨by omega, co_map zs (fun t => plc t.2.1) (fun t => .int (t.2.1.getD i 0)) (fun t ht acc K hK => ?_) ?_⟩
        · have lt := hd t ht
          simp only [row_int lt hi, plc_frz, Bx.go]
          exact hK
        · simp only [backR, Bx.go]
          exact hR _ ⟨_, rfl⟩
      rintro _ ⟨o2, rfl⟩
      have hp : 0 < (zs.map fun t => t.2.1.getD i 0).length := by rw [List.length_map]; exact z0
      simp only [asInts_f, Bx.go]
      refine ⟨by simpa using hp, fun m m1 m2 => ⟨by simpa using hp, fun M M1 M2 => ?_⟩⟩
      obtain rfl := mn_is m1 m2
      obtain rfl := mx_is M1 M2
      have dl : dn.length < sizeLine := by
        have := congrArg List.length e
        simp at this
        omega
      exact ⟨dl, hN _ ⟨_, _, _, by rw [List.map_append, List.map_append]; rfl⟩⟩
    · rintro ρ ⟨o, x3, x4, rfl⟩
      exact hR _ ⟨_, _, _, _, _, rfl⟩
  rintro _ ⟨x1, x3, x4, x5, x6, rfl⟩
  simp only [Bx.go]
  rw [bd_edg] at q
  exact q
def kfD (i : Nat) : D → D
  | .tup [.int n, .tup ps, _] => .tup [ps.getD i .non, .int n]
  | x => x
theorem f2 {a b c e : D} : atI [a, b, c, e] 2 = some c := rfl
theorem f3 {a b c e : D} : atI [a, b, c, e] 3 = some e := rfl
theorem imp__law_same : ∀ ds Q, C__law_same ds Q → B__law_same ds Q := by
  rintro ds Q ⟨xs, n, rfl, ok, n5, sh, q⟩
  refine ⟨rfl, ?_⟩
  simp only [w__law_same, Bx.go]
  refine ⟨eqOk_of ok ok (by omega), ?_⟩
  rw [eqv_refl ok]
  simp only [Bx.go]
  refine ⟨sh, ?_⟩
  refine ⟨sh, ?_⟩
  simp only [beq_self_eq_true, Bx.go]
  exact q
def kdB : Option (List Int) → Prop
  | none => True
  | some p => p.length ≤ 1000 ∧ ∀ x ∈ p, -(2 * 10 ^ 18) ≤ x ∧ x ≤ 2 * 10 ^ 18
theorem kdB.ok {k : Option (List Int)} (h : kdB k) : kdOk k := by
  cases k with
  | none => trivial
  | some p => exact h.1
def TrO (d : Nat) (ts : List Th) (x : D) : Prop := (ts = [] ∧ x = .non) ∨ ∃ T : BT, ts ≠ [] ∧ x = btD d T ∧ T.ths.Perm ts
theorem TrO.frz {d : Nat} {ts : List Th} {x : D} (h : TrO d ts x) : x.frz = x := by
  rcases h with ⟨_, rfl⟩ | ⟨T, _, rfl, _⟩
  · rfl
  · exact bt_frz d T
theorem TrO.tr {d : Nat} {ts : List Th} {T : BT} (ht : House d ts) (p : T.ths.Perm ts) : Tr d ts T := (Sub.all ht).sub (fun t m => p.mem_iff.mp m) (p.nodup_iff.mpr (House.nd ht))
end Zd
namespace Bx
variable [TabC]
open PySem PySem.Spec PyProof.Rows L2
section
variable {X : Cx} {o e : Expr} {apos cpos : Pos}
theorem Reps.eraseIdx {K : PySem.W.Frag} {H : Hp} {O : Addr → Prop} : ∀ {vs : List V} {ds : List D} (j : Nat), Reps K H O vs ds → Reps K H O (vs.eraseIdx j) (ds.eraseIdx j)
  | _, _, _, .nil => .nil
  | _, _, 0, .cons _ t => t
  | _, _, j + 1, .cons r t => .cons r (Reps.eraseIdx j t)
end
end Bx
namespace Ze
open PySem PySem.Spec PyProof.Rows L2 Bx Zb Zp Zm Zh Zf Zq Zr Zs Zl Zn Zo Zt Zu Zd
abbrev C_lie_apart : PSpec := Zb.C_lie_apart
abbrev C_lies_within : PSpec := Zb.C_lies_within
abbrev C_plain_box : PSpec := Zb.C_plain_box
abbrev C__law_inside : PSpec := Zf.C__law_inside
abbrev C__law_pick : PSpec := Zm.C__law_pick
abbrev C_is_count : PSpec := Zm.C_is_spot
abbrev C__law_whole : PSpec := Zm.C__law_whole
def beyZ (zs : List Th) (ps : List Pr) (i s : Nat) : Bool := decide (pN ps i = (some 1, some 0)) || (if s = 0 then ltO (pN ps i).1 (mxZ zs i) else gtO (pN ps i).2 (mnZ zs i))
def beyL (d : Nat) (zs : List Th) (ps : List Pr) : List Bool := (List.range (2 * d)).map fun k => beyZ zs ps (k / 2) (k % 2)
def fstK (d : Nat) (zs : List Th) (ps : List Pr) : Nat := (beyL d zs ps).idxOf true
abbrev Prt := List Int × Option Nat
def prtD : Prt → D
  | (p, none) => .tup [plc p, .str "in"]
  | (p, some k) => .tup [plc p, .str "out", .int (k / 2 : Nat), .int (k % 2 : Nat)]
def covT (d : Nat) (ps : List Pr) : List Int → BT → List Prt
  | p, .leaf t => if outZ d [t] ps then [(p, some (fstK d [t] ps))] else [(p, none)]
  | p, .node l h => if outZ d (l.ths ++ h.ths) ps then [(p, some (fstK d (l.ths ++ h.ths) ps))] else if innZ d (l.ths ++ h.ths) ps then [(p, none)]
    else covT d ps (p ++ [0]) l ++ covT d ps (p ++ [1]) h
def C_lies_out : PSpec := fun ds Q => ∃ (d : Nat) (zs : List Th) (ps : List Pr) (i s : Nat), ds = [bdD d zs, .tup (ps.map pD), .int i, .int s] ∧ ps.length = d ∧ i < d ∧ s < 2 ∧ Q (.bl (beyZ zs ps i s)) []
def C__law_beyond : PSpec := C_lies_out
def C_out_part : PSpec := fun ds Q => ∃ (d : Nat) (T : BT) (ps : List Pr) (p : List Int), ds = [btD d T, .tup (ps.map pD), plc p] ∧ ps.length = d ∧ plainOf ps = ps ∧ d ≤ 4 ∧ outZ d T.ths ps = true ∧ Q (prtD (p, some (fstK d T.ths ps))) []
def C__law_apart : PSpec := fun ds Q => ∃ (d : Nat) (zs : List Th) (ps : List Pr), ds = [bdD d zs, .tup (ps.map pD)] ∧ ps.length = d ∧ plainOf ps = ps ∧ d ≤ 4 ∧ Q (.bl (outZ d zs ps)) []
def C_parts_along (n : Nat) : PSpec := fun ds Q => ∃ (d : Nat) (T : BT) (ps : List Pr) (p : List Int), ds = [btD d T, .tup (ps.map pD), plc p] ∧ ps.length = d ∧ plainOf ps = ps ∧ 1 ≤ d ∧ d ≤ 4 ∧ T.ths.length ≤ n ∧ T.ths.length ≤ 300 ∧ p.length + n ≤ 1000 ∧ Q (.lst true ((covT d ps p T).map prtD)) []
def C__law_parts (n : Nat) : PSpec := C_parts_along n
abbrev lv__law_parts : Nat := 34
def CovO (d : Nat) (ps : List Pr) (x : D) (L : List Prt) : Prop := (x = .non ∧ L = []) ∨ ∃ T : BT, x = btD d T ∧ T.ths.length ≤ 34 ∧ L = covT d ps [] T
theorem bey_out {d : Nat} {zs : List Th} {ps : List Pr} (hp : plainOf ps = ps) (hl : ps.length = d) : (beyL d zs ps).any id = outZ d zs ps := by
  rw [Bool.eq_iff_iff]
  unfold beyL outZ
  rw [List.any_map, List.any_eq_true, List.any_eq_true]
  have hc : ∀ i, i < d → cr (pN ps i) = decide (pN ps i = (some 1, some 0)) := fun i hi => cr_plain hp (pN_mem (by omega))
  constructor
  · rintro ⟨k, hk, h⟩
    have hk := List.mem_range.mp hk
    have hi : k / 2 < d := by omega
    refine ⟨k / 2, List.mem_range.mpr hi, ?_⟩
    rw [hc _ hi]
    simp only [Function.comp, id, beyZ, Bool.or_eq_true] at h ⊢
    rcases h with h | h
    · exact .inr h
    · split at h
      · exact .inl (.inl h)
      · exact .inl (.inr h)
  · rintro ⟨i, hi, h⟩
    have hi := List.mem_range.mp hi
    rw [hc _ hi] at h
    simp only [Bool.or_eq_true] at h
    have e0 : (2 * i) / 2 = i ∧ (2 * i) % 2 = 0 := by omega
    have e1 : (2 * i + 1) / 2 = i ∧ (2 * i + 1) % 2 = 1 := by omega
    rcases h with (h | h) | h
    · exact ⟨2 * i, List.mem_range.mpr (by omega), by simp only [Function.comp, id, beyZ, e0, if_true, h, Bool.or_true]⟩
    · exact ⟨2 * i + 1, List.mem_range.mpr (by omega), by simp only [Function.comp, id, beyZ, e1, Nat.one_ne_zero, if_false, h, Bool.or_true]⟩
    · exact ⟨2 * i, List.mem_range.mpr (by omega), by simp only [Function.comp, id, beyZ, e0, h, Bool.true_or]⟩
theorem bey_len (d : Nat) (zs : List Th) (ps : List Pr) : (beyL d zs ps).length = 2 * d := by simp [beyL]
theorem bey_mem {d : Nat} {zs : List Th} {ps : List Pr} (hp : plainOf ps = ps) (hl : ps.length = d) (h : outZ d zs ps = true) : true ∈ beyL d zs ps := by
  rw [← bey_out hp hl, List.any_eq_true] at h
  obtain ⟨x, hx, e⟩ := h
  simp only [id] at e
  exact e ▸ hx
theorem fst_lt {d : Nat} {zs : List Th} {ps : List Pr} (hp : plainOf ps = ps) (hl : ps.length = d) (h : outZ d zs ps = true) : fstK d zs ps < 2 * d := by
  have := List.idxOf_lt_length_iff.mpr (bey_mem hp hl h)
  rwa [bey_len] at this
theorem ixB_bt {d : Nat} {T : BT} (K : D → Prop) : gIx (btD d T) (.int 1) K = K (bdD d T.ths) := by
  obtain ⟨lo, hi, eT⟩ := bt_parts d T
  rw [eT]; simp only [f1, Bx.go]
theorem cov_len (d : Nat) (ps : List Pr) : ∀ (p : List Int) (T : BT), (covT d ps p T).length ≤ T.ths.length
  | p, .leaf t => by simp only [covT]; split <;> exact Nat.le_refl _
  | p, .node l r => by
    have a := List.length_pos_iff.mpr (bt_ne l)
    have h1 := cov_len d ps (p ++ [0]) l
    have h2 := cov_len d ps (p ++ [1]) r
    have e : (BT.node l r).ths.length = l.ths.length + r.ths.length := by simp [BT.ths]
    rw [e]
    simp only [covT]
    split
    · simp; omega
    · split
      · simp; omega
      · rw [List.length_append]; omega
theorem edg_z (d : Nat) (zs : List Th) : edg d zs = (List.range d).map fun i => (mnZ zs i, mxZ zs i) := rfl
structure PrtOk (x : Prt) : Prop where
  stp : ∀ n ∈ x.1, 0 ≤ n ∧ n ≤ 1
  len : x.1.length ≤ 300
  out : ∀ k, x.2 = some k → k < 8
theorem cov_ok {d : Nat} {ps : List Pr} (hp : plainOf ps = ps) (hl : ps.length = d) (d4 : d ≤ 4) : ∀ (T : BT) (p : List Int), (∀ n ∈ p, 0 ≤ n ∧ n ≤ 1) → ∀ x ∈ covT d ps p T, (∀ n ∈ x.1, 0 ≤ n ∧ n ≤ 1) ∧ x.1.length < p.length + T.ths.length ∧ ∀ k, x.2 = some k → k < 8
  | .leaf t, p, hs, x, hx => by
    simp only [covT] at hx
    split at hx
    · rename_i ho
      rw [List.mem_singleton.mp hx]
      have := fst_lt hp hl ho
      refine ⟨hs, by simp [BT.ths], fun k e => ?_⟩
      cases e; omega
    · rw [List.mem_singleton.mp hx]
      exact ⟨hs, by simp [BT.ths], fun k e => by cases e⟩
  | .node l r, p, hs, x, hx => by
    have lp := List.length_pos_iff.mpr (bt_ne l)
    have rp := List.length_pos_iff.mpr (bt_ne r)
    have nl : (BT.node l r).ths.length = l.ths.length + r.ths.length := by simp [BT.ths]
    rw [nl]
    simp only [covT] at hx
    split at hx
    · rename_i ho
      rw [List.mem_singleton.mp hx]
      have := fst_lt hp hl ho
      refine ⟨hs, by dsimp only; omega, fun k e => ?_⟩
      cases e; omega
    · split at hx
      · rw [List.mem_singleton.mp hx]
        exact ⟨hs, by dsimp only; omega, fun k e => by cases e⟩
      · have sn : ∀ (y : Int), 0 ≤ y → y ≤ 1 → ∀ n ∈ p ++ [y], 0 ≤ n ∧ n ≤ 1 := fun y h0 h1 n hn => (List.mem_append.mp hn).elim (hs n) fun h => by rw [List.mem_singleton.mp h]; exact ⟨h0, h1⟩
        rcases List.mem_append.mp hx with hx | hx
        · have := cov_ok hp hl d4 l (p ++ [0]) (sn 0 (by decide) (by decide)) x hx
          rw [List.length_append, List.length_singleton] at this
          exact ⟨this.1, by omega, this.2.2⟩
        · have := cov_ok hp hl d4 r (p ++ [1]) (sn 1 (by decide) (by decide)) x hx
          rw [List.length_append, List.length_singleton] at this
          exact ⟨this.1, by omega, this.2.2⟩
theorem okZ_in : okZ "in" := by decide +kernel
theorem okZ_out : okZ "out" := by decide +kernel
theorem CovO.ok {d : Nat} {ps : List Pr} {x : D} {L : List Prt} (h : CovO d ps x L) (hp : plainOf ps = ps) (hl : ps.length = d) (d4 : d ≤ 4) : (∀ y ∈ L, PrtOk y) ∧ L.length ≤ 34 := by
  rcases h with ⟨_, rfl⟩ | ⟨T, _, tl, rfl⟩
  · exact ⟨fun _ h => absurd h List.not_mem_nil, Nat.zero_le _⟩
  · refine ⟨fun y hy => ?_, Nat.le_trans (cov_len d ps [] T) tl⟩
    have := cov_ok hp hl d4 T [] (fun _ h => absurd h List.not_mem_nil) y hy
    rw [List.length_nil, Nat.zero_add] at this
    exact ⟨this.1, by omega, this.2.2⟩
end Ze
namespace Zg
open PySem PySem.Spec PyProof.Rows L2 Bx Zb Zp Zm Zh Zf Zq Zr Zs Zl Zn Zo Zt Zu Zd Ze
abbrev C_lies_out : PSpec := Ze.C_lies_out
abbrev C_lies_within : PSpec := Zb.C_lies_within
abbrev C_plain_box : PSpec := Zb.C_plain_box
abbrev C__law_inside : PSpec := Zf.C__law_inside
abbrev C__law_beyond : PSpec := Ze.C__law_beyond
abbrev C__law_pick : PSpec := Zm.C__law_pick
abbrev C_is_count : PSpec := Zm.C_is_spot
abbrev C__law_whole : PSpec := Zm.C__law_whole
def atP : BT → List Int → Option BT
  | T, [] => some T
  | .leaf _, _ :: _ => none
  | .node l h, s :: r => if s = 0 then atP l r else atP h r
def atO (o : Option BT) (p : List Int) : Option BT := o.bind fun T => atP T p
def odD (d : Nat) : Option BT → D
  | none => .non
  | some S => btD d S
def isPath : D → Bool
  | .tup xs => xs.all fun x => isSpot x 2
  | _ => false
def intOf : D → Int
  | .int i => i
  | _ => 0
def PtOk (x : D) : Prop := ∀ xs, x = .tup xs → ∀ y ∈ xs, (∀ z, y = .str z → okZ z) ∧ ∀ ys, y = .tup ys → ys.length ≤ 100000
def CvOk (x : D) : Prop := ∀ xs, x = .tup xs → xs.length ≤ 1000 ∧ ∀ y ∈ xs, PtOk y
def hasTx : D → Bool
  | .str _ => true
  | _ => false
def thr (T : BT) : D → Option BT
  | .tup [a, s] => if isPath a && hasTx s then (match a with | .tup as => atP T (as.map intOf) | _ => none) else none
  | .tup [a, s, _, _] => if isPath a && hasTx s then (match a with | .tup as => atP T (as.map intOf) | _ => none) else none
  | _ => none
def outP (d : Nat) (ps : List Pr) (S : BT) : D → Bool
  | .tup [_, .str z, u, v] => (z == "out") && (isSpot u d && (isSpot v 2 && beyZ S.ths ps (intOf u).toNat (intOf v).toNat))
  | _ => false
def insP (d : Nat) (ps : List Pr) (S : BT) : D → Bool
  | .tup [_, .str z] => (z == "in") && innZ d S.ths ps
  | _ => false
def rgt (d : Nat) (ps : List Pr) (T : BT) (x : D) : Bool := match thr T x with
  | none => false
  | some S => insP d ps S x || outP d ps S x
def nmsO : Option BT → List Int
  | none => []
  | some S => sN (nmsT S.ths)
def isCov (d : Nat) (ps : List Pr) (o : Option BT) : D → Bool
  | .tup xs => (match o with
    | none => xs.isEmpty
    | some T => (xs.all fun x => rgt d ps T x) && (sN (xs.flatMap fun x => nmsO (thr T x)) == sN (nmsT T.ths)))
  | _ => false
def P01 (p : List Int) : Prop := p.length ≤ 100000 ∧ ∀ n ∈ p, n = 0 ∨ n = 1
def C_tree_at : PSpec := fun ds Q => ∃ (d : Nat) (o : Option BT) (p : List Int), ds = [odD d o, plc p] ∧ P01 p ∧ Q (odD d (atO o p)) []
def C__law_at : PSpec := C_tree_at
def C_there : PSpec := fun ds Q => ∃ (d : Nat) (T : BT) (x : D), ds = [btD d T, x] ∧ PtOk x ∧ Q (odD d (thr T x)) []
def C__law_there : PSpec := C_there
def C_is_out : PSpec := fun ds Q => ∃ (d : Nat) (ps : List Pr) (S T : BT) (x : D), ds = [.tup (ps.map pD), btD d S, x] ∧ ps.length = d ∧ PtOk x ∧ thr T x = some S ∧ Q (.bl (outP d ps S x)) []
def C__law_out_right : PSpec := fun ds Q => ∃ (d : Nat) (ps : List Pr) (S T : BT) (x : D), ds = [btD d S, .tup (ps.map pD), x] ∧ ps.length = d ∧ PtOk x ∧ thr T x = some S ∧ Q (.bl (outP d ps S x)) []
def C_is_in : PSpec := fun ds Q => ∃ (d : Nat) (ps : List Pr) (S T : BT) (x : D), ds = [.tup (ps.map pD), btD d S, x] ∧ ps.length = d ∧ d ≤ 4 ∧ PtOk x ∧ thr T x = some S ∧ Q (.bl (insP d ps S x)) []
def C_has_each_once : PSpec := fun ds Q => ∃ (d : Nat) (T : BT) (Ss : List BT), ds = [btD d T, .lst false (Ss.map (btD d))] ∧ Ss.length ≤ 1000 ∧ T.ths.length ≤ 300 ∧ (∀ S ∈ Ss, S.ths.length ≤ 300) ∧ Q (.bl (sN (Ss.flatMap fun S => sN (nmsT S.ths)) == sN (nmsT T.ths))) []
theorem at_app : ∀ (T : BT) (p q : List Int), atP T (p ++ q) = (atP T p).bind fun S => atP S q
  | T, [], q => by simp [atP]
  | .leaf t, s :: p, q => by simp [atP]
  | .node l h, s :: p, q => by
    simp only [List.cons_append, atP]
    split
    · exact at_app l p q
    · exact at_app h p q
theorem bt_non (d : Nat) (T : BT) : (btD d T).isNon = false := by cases T <;> rfl
theorem len4 {xs : List D} (h : xs.length = 4) : ∃ a b c e, xs = [a, b, c, e] := by
  match xs, h with
  | [a, b, c, e], _ => exact ⟨a, b, c, e, rfl⟩
theorem thr2 (T : BT) (a s : D) : thr T (.tup [a, s]) = if isPath a && hasTx s then (match a with | .tup as => atP T (as.map intOf) | _ => none) else none := rfl
theorem thr4 (T : BT) (a s u v : D) : thr T (.tup [a, s, u, v]) = if isPath a && hasTx s then (match a with | .tup as => atP T (as.map intOf) | _ => none) else none := rfl
theorem thr_no (T : BT) {xs : List D} (h2 : xs.length ≠ 2) (h4 : xs.length ≠ 4) : thr T (.tup xs) = none := by
  match xs with
  | [] => rfl
  | [_] => rfl
  | [_, _] => exact absurd rfl h2
  | [_, _, _] => rfl
  | [_, _, _, _] => exact absurd rfl h4
  | _ :: _ :: _ :: _ :: _ :: _ => rfl
theorem thr_some {T S : BT} {x : D} (h : thr T x = some S) : (∃ a z, x = .tup [a, .str z]) ∨ ∃ a z u v, x = .tup [a, .str z, u, v] := by
  have hs : ∀ s : D, hasTx s = true → ∃ z, s = .str z := fun s h => by
    cases s <;> simp [hasTx] at h
    exact ⟨_, rfl⟩
  cases x with
  | tup xs =>
    by_cases h2 : xs.length = 2
    · obtain ⟨a, b, rfl⟩ := len2 h2
      rw [thr2] at h
      cases c : isPath a && hasTx b with
      | false => rw [c] at h; cases h
      | true =>
        obtain ⟨z, rfl⟩ := hs b ((Bool.and_eq_true _ _).mp c).2
        exact .inl ⟨a, z, rfl⟩
    · by_cases h4 : xs.length = 4
      · obtain ⟨a, b, u, v, rfl⟩ := len4 h4
        rw [thr4] at h
        cases c : isPath a && hasTx b with
        | false => rw [c] at h; cases h
        | true =>
          obtain ⟨z, rfl⟩ := hs b ((Bool.and_eq_true _ _).mp c).2
          exact .inr ⟨a, z, u, v, rfl⟩
      · rw [thr_no T h2 h4] at h; cases h
  | _ => cases h
theorem out4 (d : Nat) (ps : List Pr) (S : BT) (a u v : D) (z : Str) : outP d ps S (.tup [a, .str z, u, v]) = ((z == "out") && (isSpot u d && (isSpot v 2 && beyZ S.ths ps (intOf u).toNat (intOf v).toNat))) := rfl
theorem ins2 (d : Nat) (ps : List Pr) (S : BT) (a : D) (z : Str) : insP d ps S (.tup [a, .str z]) = ((z == "in") && innZ d S.ths ps) := rfl
theorem spot_int {x : D} {n : Int} (h : isSpot x n = true) : ∃ i : Nat, x = .int i ∧ (i : Int) < n := by
  cases x <;> simp [isSpot] at h
  rename_i i
  exact ⟨i.toNat, by rw [Int.toNat_of_nonneg h.1], by rw [Int.toNat_of_nonneg h.1]; exact h.2⟩
theorem PtOk.frz {x : D} (h : PtOk x) : PtOk x.frz := fun xs e => h xs (by cases x <;> first | exact e | cases e)
theorem zip_self {α : Type} : ∀ l : List α, l.zip l = l.map fun x => (x, x)
  | [] => rfl
  | a :: l => by rw [List.zip_cons_cons, zip_self l]; rfl
theorem cut_is {T : BT} {d : Nat} {ps : List Pr} {xs : List D} : isCov d ps (some T) (.tup xs) = ((xs.all fun x => rgt d ps T x) && (sN (xs.flatMap fun x => nmsO (thr T x)) == sN (nmsT T.ths))) := rfl
end Zg
namespace Zi
open PySem PySem.Spec PyProof.Rows L2 Bx Zb Zp Zm Zh Zf Zq Zr Zs Zl Zn Zo Zt Zu Zd Ze Zg
abbrev C__law_at : PSpec := Zg.C__law_at
abbrev C__law_beyond : PSpec := Ze.C__law_beyond
abbrev C__law_pick : PSpec := Zm.C__law_pick
def thsO : Option BT → List Th
  | none => []
  | some S => S.ths
def VP (d : Nat) (ps : List Pr) (T : BT) (x : Prt) : Prop := (∀ n ∈ x.1, n = 0 ∨ n = 1) ∧ ∃ S, atP T x.1 = some S ∧ match x.2 with
  | none => innZ d S.ths ps = true
  | some k => k < 2 * d ∧ beyZ S.ths ps (k / 2) (k % 2) = true
structure CovL (d : Nat) (ps : List Pr) (T : BT) (L : List Prt) : Prop where
  val : ∀ x ∈ L, VP d ps T x
  prm : (L.flatMap fun x => thsO (atP T x.1)).Perm T.ths
theorem at_ths : ∀ {T : BT} {p : List Int} {S : BT}, atP T p = some S → p.length + S.ths.length ≤ T.ths.length
  | T, [], S, h => by
    have : S = T := by simpa [atP] using h.symm
    rw [this]; simp
  | .leaf _, _ :: _, S, h => by simp [atP] at h
  | .node l r, s :: p, S, h => by
    have lp := List.length_pos_iff.mpr (bt_ne l)
    have rp := List.length_pos_iff.mpr (bt_ne r)
    have nl : (BT.node l r).ths.length = l.ths.length + r.ths.length := by simp [BT.ths]
    simp only [atP] at h
    split at h
    · have := at_ths h; simp only [List.length_cons]; omega
    · have := at_ths h; simp only [List.length_cons]; omega
theorem CovL.len {d : Nat} {ps : List Pr} {T : BT} {L : List Prt} (h : CovL d ps T L) : L.length ≤ T.ths.length := by
  rw [← h.prm.length_eq]
  have go : ∀ M : List Prt, (∀ x ∈ M, VP d ps T x) → M.length ≤ (M.flatMap fun x => thsO (atP T x.1)).length := by
    intro M
    induction M with
    | nil => intro _; simp
    | cons x M ih =>
      intro hM
      obtain ⟨_, S, e, _⟩ := hM x List.mem_cons_self
      have := ih fun y hy => hM y (List.mem_cons_of_mem _ hy)
      have sp := List.length_pos_iff.mpr (bt_ne S)
      rw [List.flatMap_cons, List.length_append, List.length_cons, e]
      rw [show thsO (some S) = S.ths from rfl]
      omega
  exact go L h.val
theorem VP.ok {d : Nat} {ps : List Pr} {T : BT} {x : Prt} (h : VP d ps T x) (d4 : d ≤ 4) (tl : T.ths.length ≤ 300) : PrtOk x := by
  obtain ⟨h1, S, e, h2⟩ := h
  have a := at_ths e
  refine ⟨fun n hn => by have := h1 n hn; omega, by omega, fun k ek => ?_⟩
  rw [ek] at h2
  have := h2.1
  omega
theorem at_snoc {T S : BT} {p : List Int} (h : atP T p = some S) (s : Int) : atP T (p ++ [s]) = atP S [s] := by
  rw [at_app, h]; rfl
theorem path_plc {p : List Int} (h : ∀ n ∈ p, n = 0 ∨ n = 1) : isPath (plc p) = true ∧ (p.map D.int).map intOf = p := by
  constructor
  · refine List.all_eq_true.mpr fun x hx => ?_
    obtain ⟨n, hn, rfl⟩ := List.mem_map.mp hx
    simp only [isSpot, Bool.and_eq_true, decide_eq_true_eq]
    have := h n hn
    omega
  · rw [List.map_map]
    exact (List.map_congr_left fun n _ => rfl).trans (List.map_id p)
theorem thr_prt {T : BT} {x : Prt} (h : ∀ n ∈ x.1, n = 0 ∨ n = 1) : thr T (prtD x) = atP T x.1 := by
  obtain ⟨p, o⟩ := x
  have h := path_plc h
  cases o with
  | none =>
    rw [prtD, thr2, h.1]
    show (if (true && true) = true then atP T ((p.map D.int).map intOf) else none) = _
    rw [h.2]; rfl
  | some k =>
    rw [prtD, thr4, h.1]
    show (if (true && true) = true then atP T ((p.map D.int).map intOf) else none) = _
    rw [h.2]; rfl
theorem VP.rgt {d : Nat} {ps : List Pr} {T : BT} {x : Prt} (h : VP d ps T x) : rgt d ps T (prtD x) = true := by
  obtain ⟨h1, S, e, h2⟩ := h
  have et := thr_prt (T := T) h1
  unfold Zg.rgt
  rw [et, e]
  obtain ⟨p, o⟩ := x
  cases o with
  | none =>
    have h2 : innZ d S.ths ps = true := h2
    show (insP d ps S (.tup [plc p, .str "in"]) || _) = true
    rw [ins2, h2]
    have : (("in" : Str) == "in") = true := by simp
    rw [this]; rfl
  | some k =>
    have h2 : k < 2 * d ∧ beyZ S.ths ps (k / 2) (k % 2) = true := h2
    show (_ || outP d ps S (.tup [plc p, .str "out", .int (k / 2 : Nat), .int (k % 2 : Nat)])) = true
    rw [out4]
    have a : (("out" : Str) == "out") = true := by simp
    have b : isSpot (.int (k / 2 : Nat)) d = true := by simp only [isSpot, Bool.and_eq_true, decide_eq_true_eq]; omega
    have c : isSpot (.int (k % 2 : Nat)) 2 = true := by simp only [isSpot, Bool.and_eq_true, decide_eq_true_eq]; omega
    have f : (intOf (.int (k / 2 : Nat))).toNat = k / 2 ∧ (intOf (.int (k % 2 : Nat))).toNat = k % 2 := ⟨rfl, rfl⟩
    rw [a, b, c, f.1, f.2, h2.2]
    simp
theorem CovL.isCov {d : Nat} {ps : List Pr} {T : BT} {L : List Prt} {xs : List D} (h : CovL d ps T L) (hx : xs.Perm (L.map prtD)) : isCov d ps (some T) (.tup xs) = true := by
  rw [cut_is, Bool.and_eq_true]
  constructor
  · refine List.all_eq_true.mpr fun x hm => ?_
    obtain ⟨y, hy, rfl⟩ := List.mem_map.mp (hx.mem_iff.mp hm)
    exact (h.val y hy).rgt
  · have e1 : (xs.flatMap fun x => nmsO (thr T x)).Perm ((L.map prtD).flatMap fun x => nmsO (thr T x)) := hx.flatMap_right _
    have go : ∀ M : List Prt, (∀ x ∈ M, VP d ps T x) → ((M.map prtD).flatMap fun x => nmsO (thr T x)).Perm (nmsT (M.flatMap fun x => thsO (atP T x.1))) := by
      intro M
      induction M with
      | nil => intro _; exact .nil
      | cons x M ih =>
        intro hM
        obtain ⟨h1, S, e, _⟩ := hM x List.mem_cons_self
        rw [List.map_cons, List.flatMap_cons, List.flatMap_cons, thr_prt h1, e, nmsT, List.map_append]
        exact (sN_perm _).append (ih fun y hy => hM y (List.mem_cons_of_mem _ hy))
    have e2 := (e1.trans (go L h.val)).trans (nms_perm h.prm)
    rw [sN_congr e2]
    simp
theorem erase_perm {α : Type} : ∀ (l : List α) (i : Nat) (h : i < l.length), (l[i] :: l.eraseIdx i).Perm l
  | [], _, h => absurd h (Nat.not_lt_zero _)
  | a :: l, 0, _ => .refl _
  | a :: l, i + 1, h => by
    have h' : i < l.length := by simpa using h
    show (l[i] :: a :: l.eraseIdx i).Perm (a :: l)
    exact (List.Perm.swap _ _ _).trans (.cons a (erase_perm l i h'))
theorem CovL.perm {d : Nat} {ps : List Pr} {T : BT} {L M : List Prt} (h : CovL d ps T L) (p : M.Perm L) : CovL d ps T M :=
  ⟨fun x hx => h.val x (p.mem_iff.mp hx), (p.flatMap_right _).trans h.prm⟩
theorem CovL.ok {d : Nat} {ps : List Pr} {T : BT} {L : List Prt} (h : CovL d ps T L) (d4 : d ≤ 4) (tl : T.ths.length ≤ 300) : (∀ x ∈ L, PrtOk x) ∧ L.length ≤ 300 :=
  ⟨fun x hx => (h.val x hx).ok d4 tl, Nat.le_trans h.len tl⟩
end Zi
set_option maxHeartbeats 1000000
namespace L2
open PySem PySem.Spec PyProof.Rows
section
variable {prog : Program} {w : World} {A : Around} {E : Value → Shared → Prop}
end
end L2
namespace Bx
variable [TabC]
open PySem PySem.Spec PyProof.Rows L2
section
variable {X : Cx} {o e : Expr} {apos cpos : Pos}
end
end Bx
namespace Zj
open PySem PySem.Spec PyProof.Rows L2 Bx Zb Zp Zm Zh Zf Zq Zr Zs Zl Zn Zo Zt Zu Zd Ze Zg Zi
abbrev C_tree_at : PSpec := Zg.C_tree_at
abbrev C_answer : PSpec := Zs.C_answer
abbrev C__law_number : PSpec := Zd.C__law_number
abbrev C__law_pick : PSpec := Zm.C__law_pick
def C__law_box : PSpec := fun ds Q => ∃ (h : List D) (n d : Nat) (ts : List Th), ds = [.lst true h, houseD d ts] ∧ hnd n h ∧ n ≤ 10 ^ 13 ∧ d ≤ 4 ∧ House d ts ∧ smH ts ∧ ∀ (b : Bx1) (h' : List D), b.length = d → hnd (n + 28) h' → Q (.tup (b.map sD)) [.lst true h']
def w__law_box : DS :=
  (dSeq (dAsg 2 (dLst aNil))
    (dSeq (dFor (iR gR1 (aCons (oVal (dBin gIx (oVar 1) (oVal (dC (.int 0))))) aNil)) (gN 3)
    (dSeq (dPar2 4 5 (dCallIO 0 0 C__law_number (aCons (oVar 0) (aCons (oVar 1) (aCons (oVar 3) aNil)))) (dCallIO 0 0 C__law_number (aCons (oVar 0) (aCons (oVar 1) (aCons (oVar 3) aNil)))))
    (dSeq (dIfS (tAnd (tVal (dBin gGt (oVar 4) (oVar 5))) (tVal (dBin gGt (oVal (dCallIO 0 0 C__law_pick (aCons (oVar 0) (aCons (oVal (dC (.int 5))) aNil)))) (oVal (dC (.int 0))))))
    (dPar2 4 5 (dVar 5) (dVar 4))
    dNext)
    (dSeq (dAsg 6 (dBin gIx (oVal (dLst (aCons (oVal (dC .non)) (aCons (oVal (dTup (aCons (oVar 4) (aCons (oVal (dC (.bl true))) aNil)))) (aCons (oVal (dTup (aCons (oVar 4) (aCons (oVal (dC (.bl false))) aNil)))) (aCons (oVal (dTup (aCons (oVar 4) (aCons (oVal (dC (.bl true))) aNil)))) aNil)))))) (oVal (dCallIO 0 0 C__law_pick (aCons (oVar 0) (aCons (oVal (dC (.int 4))) aNil))))))
    (dExp (dApp 2 (dTup (aCons (oVar 6) (aCons (oVal (dBin gIx (oVal (dLst (aCons (oVal (dC .non)) (aCons (oVal (dTup (aCons (oVar 5) (aCons (oVal (dC (.bl true))) aNil)))) (aCons (oVal (dTup (aCons (oVar 5) (aCons (oVal (dC (.bl false))) aNil)))) (aCons (oVal (dTup (aCons (oVar 5) (aCons (oVal (dC (.bl true))) aNil)))) aNil)))))) (oVal (dCallIO 0 0 C__law_pick (aCons (oVar 0) (aCons (oVal (dC (.int 4))) aNil)))))) aNil)))))))))
    (dRet (dCB gTuple (aCons (oVar 2) aNil)))))
abbrev B__law_box : PSpec := bodyW [0] 7 2 w__law_box
structure Met (l : List (Key × D)) (nms : List Int) : Prop where
  mem : ∀ n : Int, (Sum.inl n : Key) ∈ l.map (·.1) ↔ n ∈ nms
  len : l.length ≤ nms.length
theorem at_sub : ∀ {T : BT} {p : List Int} {S : BT}, atP T p = some S → ∀ t ∈ S.ths, t ∈ T.ths
  | T, [], S, h, t, ht => by
    have : S = T := by simpa [atP] using h.symm
    rw [this] at ht; exact ht
  | .leaf _, _ :: _, S, h, _, _ => by simp [atP] at h
  | .node l r, s :: p, S, h, t, ht => by
    simp only [BT.ths, List.mem_append]
    simp only [atP] at h
    split at h
    · exact .inl (at_sub h t ht)
    · exact .inr (at_sub h t ht)
theorem thr_at {T S : BT} {x : D} (h : thr T x = some S) : ∃ p, atP T p = some S := by
  rcases thr_some h with ⟨a, z, rfl⟩ | ⟨a, z, u, v, rfl⟩
  · rw [thr2] at h
    split at h
    · split at h
      · exact ⟨_, h⟩
      · cases h
    · cases h
  · rw [thr4] at h
    split at h
    · split at h
      · exact ⟨_, h⟩
      · cases h
    · cases h
theorem thr_sub {T S : BT} {x : D} (h : thr T x = some S) : ∀ t ∈ S.ths, t ∈ T.ths := by
  obtain ⟨p, e⟩ := thr_at h
  exact at_sub e
def inNm (d : Nat) (ps : List Pr) (T : BT) (x : D) : List Int := match thr T x with
  | none => []
  | some S => if insP d ps S x then sN (nmsT S.ths) else []
theorem imp__law_box : ∀ ds Q, C__law_box ds Q → B__law_box ds Q := by
  rintro ds Q ⟨h, n, d, ts, rfl, hh, hn, d4, ht, sm, q⟩
  refine ⟨rfl, ?_⟩
  have sl := sizeLine_eq
  have hz : (houseD d ts).frz = houseD d ts := rfl
  have h0' : gIx (houseD d ts) (.int 0) = gIx (houseD d ts) (.int 0) := rfl
  refine seq_cut (fun ρ => ρ = [some (.lst true h), some (houseD d ts), some (.lst true []), none, none, none, none]) (fun R hR => ?_) ?_
  · simp only [Bx.go]
    exact hR _ rfl
  rintro _ rfl
  refine seq_cut (fun ρ => ∃ (h : List D) (b : Bx1) (x3 x4 x5 x6 : Option D), b.length = d ∧ hnd (n + 28) h ∧ ρ = [some (.lst true h), some (houseD d ts), some (.lst true (b.map sD)), x3, x4, x5, x6]) (fun R hR => ?_) ?_
  · have gi : ∀ K, gIx (houseD d ts) (.int 0) K = K (.int d) := fun K => by
      unfold houseD
      simp only [p0, Bx.go]
    simp only [gi, Bx.go]
    refine ⟨i62_of (by omega) (by omega), ?_⟩
    rw [rangeD_nat]
    refine for_each (List.range (Int.toNat d)) _ (fun dn ρ => ∃ (h : List D) (b : Bx1) (x3 x4 x5 x6 : Option D), b.length = dn.length ∧ hnd (n + 7 * dn.length) h ∧ ρ = [some (.lst true h), some (houseD d ts), some (.lst true (b.map sD)), x3, x4, x5, x6]) ⟨h, [], _, _, _, _, rfl, hh, rfl⟩ ?_ ?_
    · rintro dn x r ρ N e ⟨h, b, x3, x4, x5, x6, bl, hh, rfl⟩ hN
      have xd : x < d := by
        have : x ∈ List.range (Int.toNat d) := by rw [e]; simp
        have := List.mem_range.mp this
        omega
      have e := congrArg List.length e
      simp at e
      obtain ⟨c, hc⟩ : ∃ c, c = n + 7 * dn.length := ⟨_, rfl⟩
      rw [← hc] at hh
      simp only [u1_gT, u2_gT, u1_gsCons, u2_gsCons, u1_gsNil, u2_gsNil, u1_kGs, u1_gN, u1_kForB, rset_s, rset_0, rget_s, rget_0, D.seq, D.sql, u_onSome_some, frz_tup, frz_int, frz_bl, frz_lst, frz_str, frz_non, frz_scr, List.length_cons, List.length_nil, List.map_cons, List.map_nil, Option.bind_some, true_and, and_true]
      refine seq_cut (fun ρ => ∃ (h : List D) (a b' : Int), hnd (c + 4) h ∧ ρ = [some (.lst true h), some (houseD d ts), some (.lst true (b.map sD)), some (.int (x : Nat)), some (.int a), some (.int b'), x6]) (fun R hR => ?_) ?_
      · simp only [hz, Bx.go]
        refine ⟨h, _, d, x, ts, rfl, hh, by omega, xd, ht, sm, fun a h _ _ hh => ?_⟩
        simp only [hz, Bx.go]
        refine ⟨h, _, d, x, ts, rfl, hh, by omega, xd, ht, sm, fun b' h _ _ hh => ?_⟩
        simp only [Bx.go]
        exact hR _ ⟨h, a, b', hh, rfl⟩
      rintro _ ⟨h, a, b', hh, rfl⟩
      refine seq_cut (fun ρ => ∃ (h : List D) (a b' : Int), hnd (c + 5) h ∧ ρ = [some (.lst true h), some (houseD d ts), some (.lst true (b.map sD)), some (.int (x : Nat)), some (.int a), some (.int b'), x6]) (fun R hR => ?_) ?_
      · simp only [Bx.go]
        refine pick_by (fun _ => ?_) (fun _ => ?_)
        · simp only [Bx.go]
          refine ⟨h, _, 5, rfl, hh, by omega, by decide, by decide, fun r h _ _ hh => ?_⟩
          simp only [Bx.go]
          refine pick_by (fun _ => ?_) (fun _ => ?_)
          · simp only [Bx.go]
            exact hR _ ⟨h, b', a, hh, rfl⟩
          · simp only [Bx.go]
            exact hR _ ⟨h, a, b', hh, rfl⟩
        · simp only [Bx.go]
          exact hR _ ⟨h, a, b', hh.mono (by omega), rfl⟩
      clear hh h a b'
      rintro _ ⟨h, a, b', hh, rfl⟩
      refine seq_cut (fun ρ => ∃ (h : List D) (e1 : Eg), hnd (c + 6) h ∧ ρ = [some (.lst true h), some (houseD d ts), some (.lst true (b.map sD)), some (.int (x : Nat)), some (.int a), some (.int b'), some (eD e1)]) (fun R hR => ?_) ?_
      · simp only [Bx.go]
        refine ⟨h, _, 4, rfl, hh, by omega, by decide, by decide, fun r h h0 h1 hh => ?_⟩
        obtain ⟨e1, ee⟩ := end_at a h0 h1
        simp only [ee, Bx.go]
        exact hR _ ⟨h, e1, hh, rfl⟩
      rintro _ ⟨h, e1, hh, rfl⟩
      simp only [Zh.eD_frz, Bx.go]
      refine ⟨h, _, 4, rfl, hh, by omega, by decide, by decide, fun r h h0 h1 hh => ?_⟩
      obtain ⟨e2, ee⟩ := end_at b' h0 h1
      simp only [ee, Zh.eD_frz, Bx.go]
      refine ⟨by omega, hN _ ⟨h, b ++ [(e1, e2)], _, _, _, _, by simp [bl], hh.mono (by simp; omega), by rw [List.map_append]; rfl⟩⟩
    · rintro ρ ⟨h, b, x3, x4, x5, x6, bl, hh, rfl⟩
      simp at bl hh
      exact hR _ ⟨h, b, _, _, _, _, bl, hh.mono (by omega), rfl⟩
  rintro _ ⟨h, b, x3, x4, x5, x6, bl, hh, rfl⟩
  simp only [Bx.go]
  exact q b h bl hh
end Zj
set_option maxHeartbeats 2000000
namespace GBT
open PySem PyProof.Rows
open PySem.Sem (wp)
end GBT
namespace GBT
open PySem PyProof.Rows
def Emp (h : Heap) (a : Addr) : Prop := ∃ o ep, h.get? a = some o ∧ o.ExactDict ∧ o.data = .dict #[] ep
theorem Emp.of {prog : Program} {w : World} {h : Heap} {a : Addr} (e : Emp h a) : h.DictOf (intKind prog w) a [] := by
  obtain ⟨o, ep, h1, h2, h3⟩ := e
  exact ⟨o, #[], ep, h1, h2, h3, fun _ he => by simp at he, Pairs.nil, List.nodup_nil⟩
end GBT
namespace Bx
variable [TabC]
open PySem PySem.Spec PyProof.Rows L2
section
variable {X : Cx}
def gBoolX : GL
  | [.int i], k => k (.bl (i != 0))
  | [.bl b], k => k (.bl b)
  | [.non], k => k (.bl false)
  | [.str x], k => x.length ≤ sizeLine ∧ k (.bl ((x.length : Int) != 0))
  | [.tup xs], k => k (.bl (!xs.isEmpty))
  | [.lst _ xs], k => k (.bl (!xs.isEmpty))
  | [.dic [] _], k => k (.bl false)
  | _, _ => False
end
end Bx
set_option maxHeartbeats 2000000
namespace Bx
variable [TabC]
open PySem PySem.Spec PyProof.Rows L2
open PySem.W (dataLt keyToks keyToksAll alike alikeAll lt_data gt_data le_data)
def pLt (a b c d : Int) : Bool := decide (a < c) || (!decide (c < a) && decide (b < d))
theorem pLt_iff {a b c d : Int} : pLt a b c d = true ↔ a < c ∨ (a = c ∧ b < d) := by
  unfold pLt
  simp
  omega
theorem dataLt_pair (a b c d : Int) : dataLt (.tuple [.int a, .int b]) (.tuple [.int c, .int d]) = pLt a b c d := by
  simp [dataLt, keyToks, keyToksAll, PyProof.Rows.lexLt, itemOrd, itemLt, pLt]
section
variable {X : Cx}
end
end Bx
set_option maxHeartbeats 2000000
namespace Bx
variable [TabC]
open PySem PySem.Spec PyProof.Rows L2
section
variable {X : Cx}
end
end Bx
namespace Ya
open PySem PySem.Spec PyProof.Rows L2 Bx Zb Zp Zm Zh Zf Zq Zr Zs Zl Zn Zo Zt Zu Zd Ze Zg Zi Zj
abbrev C_worths_of : PSpec := Zd.C_worths_of
abbrev C_plain_box : PSpec := Zb.C_plain_box
abbrev C_there : PSpec := Zg.C_there
abbrev C_is_in : PSpec := Zg.C_is_in
abbrev C_is_out : PSpec := Zg.C_is_out
abbrev C_has_each_once : PSpec := Zg.C_has_each_once
abbrev C_key_by : PSpec := Zd.C_key_by
abbrev C_steps_to : PSpec := Zd.C_steps_to
abbrev C__law_steps : PSpec := Zd.C__law_steps
abbrev C__law_key : PSpec := Zd.C__law_key
abbrev C__law_there : PSpec := Zg.C__law_there
abbrev C__law_inside : PSpec := Zf.C__law_inside
abbrev C__law_out_right : PSpec := Zg.C__law_out_right
abbrev C__law_whole : PSpec := Zm.C__law_whole
def farT (κ : Option (List Int)) (t : Th) : Int := match κ with
  | none => 0 - t.2.2
  | some p => stB (t.2.1.map fun n => (n, n)) p
def kp (κ : Option (List Int)) (t : Th) : Int × Int := (farT κ t, t.1)
def trK (d : Nat) (κ : Option (List Int)) (S : BT) : Int × Int := (keyN d S.ths κ, nam0 S.ths)
def behind (ks : List (Int × Int)) (k : Int × Int) : Bool := match ks.getLast? with
  | none => true
  | some l => pLt l.1 l.2 k.1 k.2
def farP (d : Nat) (κ : Option (List Int)) (S : BT) (ks : List (Int × Int)) : D → Bool
  | .tup [_, .str z] => (z == "far") && behind ks (trK d κ S)
  | _ => false
def rgtP (d : Nat) (ps : List Pr) (T : BT) (κ : Option (List Int)) (ks : List (Int × Int)) (x : D) : Bool := match thr T x with
  | none => false
  | some S => (insP d ps S x && (S.ths.length == 1)) || (outP d ps S x || farP d κ S ks x)
def tkn (d : Nat) (ps : List Pr) (T : BT) (x : D) : List Int := match thr T x with
  | none => []
  | some S => if (insP d ps S x && (S.ths.length == 1)) = true then [nam0 S.ths] else []
theorem okZ_far : okZ "far" := by decide +kernel
theorem at_subl : ∀ (T : BT) (p : List Int) (S : BT), atP T p = some S → S.ths.Sublist T.ths := by
  intro T
  induction T with
  | leaf t =>
    intro p S e
    cases p with
    | nil => simp only [atP] at e; cases e; exact List.Sublist.refl _
    | cons s p => cases e
  | node l r i1 i2 =>
    intro p S e
    cases p with
    | nil => simp only [atP] at e; cases e; exact List.Sublist.refl _
    | cons s p =>
      simp only [atP] at e
      simp only [BT.ths]
      split at e
      · exact (i1 p S e).trans (List.sublist_append_left _ _)
      · exact (i2 p S e).trans (List.sublist_append_right _ _)
theorem thr_subl {T S : BT} {x : D} (h : thr T x = some S) : S.ths.Sublist T.ths := by
  rcases thr_some h with ⟨a, z, rfl⟩ | ⟨a, z, u, v, rfl⟩
  · rw [thr2] at h
    split at h
    · split at h
      · exact at_subl _ _ _ h
      · cases h
    · cases h
  · rw [thr4] at h
    split at h
    · split at h
      · exact at_subl _ _ _ h
      · cases h
    · cases h
theorem thr_sub {d : Nat} {ts : List Th} {T S : BT} {x : D} (hT : Tr d ts T) (e : thr T x = some S) : Tr d ts S := by
  have hl : S.ths.Sublist T.ths := thr_subl e
  have h1 : Sub d ts T.ths := hT
  exact ⟨h1.hs, fun t h => h1.mem t (hl.subset h), h1.nd.sublist hl⟩
theorem find_one {d : Nat} {ts : List Th} (h : House d ts) {t : Th} (ht : t ∈ ts) : (ts.find? fun s => s.1 == t.1) = some t := by
  have hr := h.ris
  clear h
  induction ts with
  | nil => cases ht
  | cons s r ih =>
    have hp := List.pairwise_cons.mp hr
    rw [List.find?_cons]
    rcases List.mem_cons.mp ht with rfl | hm
    · simp
    · have h1 := hp.1 t hm
      rw [show (s.1 == t.1) = false by simp; omega]
      exact ih hm hp.2
theorem spot_int {x : D} {n : Int} (h : isSpot x n = true) : ∃ i, x = .int i ∧ 0 ≤ i ∧ i < n := by
  cases x with
  | int i =>
    simp only [isSpot, Bool.and_eq_true, decide_eq_true_eq] at h
    exact ⟨i, rfl, h⟩
  | _ => cases h
end Ya
set_option maxHeartbeats 2000000
namespace Bx
variable [TabC]
open PySem PySem.Spec PyProof.Rows L2
section
variable {X : Cx}
end
end Bx
namespace Yb
open PySem PySem.Spec PyProof.Rows L2 Bx Zb Zp Zm Zh Zf Zq Zr Zs Zl Zn Zo Zt Zu Zd Ze Zg Zi Zj Ya
abbrev C__law_pick : PSpec := Zm.C__law_pick
abbrev C__law_number : PSpec := Zd.C__law_number
def San : Nat → Nat → D → Prop
  | _, _, .non => True
  | _, _, .bl _ => True
  | _, _, .int _ => True
  | _, _, .str z => okZ z ∧ z.length ≤ 1000
  | n + 1, B, .tup xs => xs.length ≤ B ∧ ∀ x ∈ xs, San n B x
  | n + 1, B, .lst o xs => o = false ∧ xs.length ≤ B ∧ ∀ x ∈ xs, San n B x
  | _, _, .dic ks vs => ks = [] ∧ vs = []
  | _, _, _ => False
def C__law_odd : PSpec := fun ds Q => ∃ (h : List D) (m : Nat), ds = [.lst true h] ∧ hnd m h ∧ m ≤ 10 ^ 14 ∧ ∀ (x : D) (h' : List D), San 3 3 x → hnd (m + 1) h' → Q x [.lst true h']
def w__law_odd : DS :=
  (dSeq (dAsg 1 (dLst (aCons (oVal (dC .non)) (aCons (oVal (dC (.bl true))) (aCons (oVal (dC (.bl false))) (aCons (oVal (dC (.int 0))) (aCons (oVal (dC (.int 1))) (aCons (oVal (dC (.int 2))) (aCons (oVal (dUn gNeg (oVal (dC (.int 1))))) (aCons (oVal (dC (.str "in"))) (aCons (oVal (dC (.str "out"))) (aCons (oVal (dC (.str "far"))) (aCons (oVal (dC (.str ""))) (aCons (oVal (dTup aNil)) (aCons (oVal (dLst aNil)) (aCons (oVal (dC (.dic [] []))) (aCons (oVal (dTup (aCons (oVal (dC (.int 0))) aNil))) (aCons (oVal (dTup (aCons (oVal (dC (.str "in"))) aNil))) aNil))))))))))))))))))
    (dSeq (dAsg 1 (dBin gAdd (oVar 1) (oVal (dLst (aCons (oVal (dTup (aCons (oVal (dTup aNil)) (aCons (oVal (dC (.str "in"))) aNil)))) (aCons (oVal (dLst (aCons (oVal (dC (.int 0))) aNil))) (aCons (oVal (dBin gPow (oVal (dC (.int 10))) (oVal (dC (.int 17))))) aNil)))))))
    (dRet (dBin gIx (oVar 1) (oVal (dCallIO 0 0 C__law_pick (aCons (oVar 0) (aCons (oVal (dCB gLen (aCons (oVar 1) aNil))) aNil))))))))
abbrev B__law_odd : PSpec := bodyW [0] 2 1 w__law_odd
theorem San.mono : ∀ {n m B C : Nat} {x : D}, San n B x → n ≤ m → B ≤ C → San m C x
  | _, _, _, _, .non, _, _, _ => by simp [San]
  | _, _, _, _, .bl _, _, _, _ => by simp [San]
  | _, _, _, _, .int _, _, _, _ => by simp [San]
  | n, m, _, _, .str z, h, _, _ => by cases n <;> cases m <;> simpa [San] using h
  | 0, _, _, _, .tup _, h, _, _ => by simp [San] at h
  | _ + 1, 0, _, _, .tup _, _, l, _ => absurd l (by omega)
  | n + 1, m + 1, B, C, .tup xs, h, l, k => by
    simp only [San] at h ⊢
    exact ⟨by omega, fun x hx => (h.2 x hx).mono (by omega) k⟩
  | 0, _, _, _, .lst _ _, h, _, _ => by simp [San] at h
  | _ + 1, 0, _, _, .lst _ _, _, l, _ => absurd l (by omega)
  | n + 1, m + 1, B, C, .lst o xs, h, l, k => by
    simp only [San] at h ⊢
    exact ⟨h.1, by omega, fun x hx => (h.2.2 x hx).mono (by omega) k⟩
  | n, m, _, _, .dic ks vs, h, _, _ => by cases n <;> cases m <;> simpa [San] using h
  | n, _, _, _, .scr _, h, _, _ => by cases n <;> simp [San] at h
  | n, _, _, _, .odc _ _, h, _, _ => by cases n <;> simp [San] at h
  | n, _, _, _, .obj _ _ _, h, _, _ => by cases n <;> simp [San] at h
  | n, _, _, _, .ob2 _ _, h, _, _ => by cases n <;> simp [San] at h
  | n, _, _, _, .exc _ _, h, _, _ => by cases n <;> simp [San] at h
  | n, _, _, _, .box _ _, h, _, _ => by cases n <;> simp [San] at h
theorem San.frz {n B : Nat} {x : D} (h : San n B x) : x.frz = x := by
  cases x with
  | lst o xs =>
    cases n with
    | zero => simp [San] at h
    | succ n => simp only [San] at h; rw [h.1]; rfl
  | odc _ _ => cases n <;> simp [San] at h
  | obj _ _ _ => cases n <;> simp [San] at h
  | ob2 _ _ => cases n <;> simp [San] at h
  | exc _ _ => cases n <;> simp [San] at h
  | _ => rfl
theorem San.str {n B : Nat} {z : Str} (h : San n B (.str z)) : okZ z ∧ z.length ≤ 1000 := by cases n <;> simpa [San] using h
theorem San.tup {n B : Nat} {xs : List D} : San (n + 1) B (.tup xs) ↔ xs.length ≤ B ∧ ∀ x ∈ xs, San n B x := by simp [San]
theorem San.tups {n B : Nat} {xs : List D} (h : San n B (.tup xs)) : xs.length ≤ B ∧ ∀ x ∈ xs, San n B x := by
  cases n with
  | zero => simp [San] at h
  | succ n => exact ⟨(San.tup.mp h).1, fun x hx => ((San.tup.mp h).2 x hx).mono (Nat.le_succ n) (Nat.le_refl _)⟩
theorem San.cv {n B : Nat} {x : D} (h : San n B x) (hB : B ≤ 1000) : CvOk x := fun xs e => by
  subst e
  obtain ⟨l, hx⟩ := h.tups
  refine ⟨by omega, fun y hy ys e z hz => ?_⟩
  subst e
  have hz := (hx _ hy).tups.2 z hz
  exact ⟨fun w e => by subst e; exact hz.str.1, fun ws e => by subst e; have := hz.tups.1; omega⟩
theorem San.bool {n B : Nat} {x : D} (h : San n B x) {K : D → Prop} (q : ∀ b, K (.bl b)) : gBoolX [x] K := by
  cases x with
  | str z => have sl := sizeLine_eq; exact ⟨by have := h.str.2; omega, q _⟩
  | dic ks vs =>
    have : ks = [] := by cases n <;> exact (show ks = [] ∧ vs = [] by simpa [San] using h).1
    subst this
    exact q _
  | scr _ => cases n <;> simp [San] at h
  | odc _ _ => cases n <;> simp [San] at h
  | obj _ _ _ => cases n <;> simp [San] at h
  | ob2 _ _ => cases n <;> simp [San] at h
  | exc _ _ => cases n <;> simp [San] at h
  | box _ _ => cases n <;> simp [San] at h
  | _ => exact q _
theorem okZ_no : okZ "" := by decide +kernel
theorem imp__law_odd : ∀ ds Q, C__law_odd ds Q → B__law_odd ds Q := by
  rintro ds Q ⟨h, m, rfl, hh, hm, q⟩
  refine ⟨rfl, ?_⟩
  have sl := sizeLine_eq
  refine seq_cut (fun ρ => ∃ xs : List D, (∀ x ∈ xs, San 3 3 x) ∧ 1 ≤ xs.length ∧ xs.length ≤ 100 ∧ ρ = [some (.lst true h), some (.lst true xs)]) (fun R hR => ?_) ?_
  · simp only [Bx.go]
    refine hR _ ⟨_, ?_, by decide, by decide, rfl⟩
    intro x hx
    simp only [List.mem_cons, List.not_mem_nil, or_false] at hx
    rcases hx with rfl | rfl | rfl | rfl | rfl | rfl | rfl | rfl | rfl | rfl | rfl | rfl | rfl | rfl | rfl | rfl <;> simp [San, okZ_in, okZ_out, okZ_far, okZ_no] <;> decide +kernel
  rintro _ ⟨xs, hx, x1, x2, rfl⟩
  refine seq_cut (fun ρ => ∃ xs : List D, (∀ x ∈ xs, San 3 3 x) ∧ 1 ≤ xs.length ∧ xs.length ≤ 200 ∧ ρ = [some (.lst true h), some (.lst true xs)]) (fun R hR => ?_) ?_
  · simp only [Bx.go]
    refine ⟨⟨by decide, by decide, by decide⟩, by simp; omega, hR _ ⟨_, fun x hm' => ?_, by simp, by simp; omega, rfl⟩⟩
    rcases List.mem_append.mp hm' with hm' | hm'
    · exact hx x hm'
    · simp only [List.mem_cons, List.not_mem_nil, or_false] at hm'
      rcases hm' with rfl | rfl | rfl <;> simp [San, okZ_in] <;> decide +kernel
  rintro _ ⟨ys, hy, y1, y2, rfl⟩
  simp only [Bx.go]
  refine ⟨h, m, ys.length, rfl, hh, by omega, by omega, by omega, fun r h h0 h1 hh => ?_⟩
  obtain ⟨v, vm, ev⟩ := atI_mem h0 h1
  simp only [ev, Bx.go]
  exact q v h (hy v vm) hh
theorem San.cut {n B : Nat} {xs : List D} (h : San n B (.tup xs)) (lo hi : Option Int) : San n B (.tup (Bx.cutD xs lo hi)) := by
  cases n with
  | zero => simp [San] at h
  | succ n =>
    rw [San.tup] at h ⊢
    unfold Bx.cutD
    refine ⟨?_, fun x hx => h.2 x (List.mem_of_mem_drop (List.mem_of_mem_take hx))⟩
    rw [List.length_take, List.length_drop]
    omega
theorem San.put {n B C i : Nat} {xs : List D} {y : D} (h : San (n + 1) B (.tup xs)) (hi : i < xs.length) (hy : San n C y) (hl : B ≤ C) : San (n + 1) C (.tup (xs.take i ++ [y] ++ xs.drop (i + 1))) := by
  rw [San.tup] at h ⊢
  refine ⟨?_, fun x hx => ?_⟩
  · simp only [List.length_append, List.length_take, List.length_drop, List.length_cons, List.length_nil]; omega
  · rcases List.mem_append.mp hx with hx | hx
    · rcases List.mem_append.mp hx with hx | hx
      · exact (h.2 x (List.mem_of_mem_take hx)).mono (Nat.le_refl _) hl
      · rw [List.mem_singleton.mp hx]; exact hy
    · exact (h.2 x (List.mem_of_mem_drop hx)).mono (Nat.le_refl _) hl
theorem San.lst {n B : Nat} {xs : List D} (h : San (n + 1) B (.tup xs)) : San (n + 1) B (.lst false xs) := by
  rw [San.tup] at h
  simp only [San]
  first | exact ⟨rfl, h⟩ | exact ⟨trivial, h⟩ | exact h
theorem San.two {n B : Nat} {xs : List D} (hB : xs.length ≤ B) (h : ∀ x ∈ xs, San n B x) : San (n + 1) B (.tup xs) := San.tup.mpr ⟨hB, h⟩
theorem San.prt {x : Prt} (h : PrtOk x) : San 2 800 (prtD x) := by
  obtain ⟨p, o⟩ := x
  have hp : San 1 800 (plc p) := by
    show San 1 800 (.tup (p.map .int))
    refine San.tup.mpr ⟨by rw [List.length_map]; have := h.len; simp only at this; omega, fun x hx => ?_⟩
    obtain ⟨i, _, rfl⟩ := List.mem_map.mp hx
    simp [San]
  cases o with
  | none =>
    refine San.tup.mpr ⟨by simp, fun x hx => ?_⟩
    simp only [List.mem_cons, List.not_mem_nil, or_false] at hx
    rcases hx with rfl | rfl
    · exact hp
    · exact ⟨okZ_in, by decide⟩
  | some k =>
    refine San.tup.mpr ⟨by simp, fun x hx => ?_⟩
    simp only [List.mem_cons, List.not_mem_nil, or_false] at hx
    rcases hx with rfl | rfl | rfl | rfl
    · exact hp
    · exact ⟨okZ_out, by decide⟩
    · simp [San]
    · simp [San]
theorem gi0 (d : Nat) (ts : List Th) (K : D → Prop) : gIx (houseD d ts) (.int 0) K = K (.int d) := by
  unfold houseD
  simp only [p0, Bx.go]
theorem gi1 (d : Nat) (ts : List Th) (K : D → Prop) : gIx (houseD d ts) (.int 1) K = K (.tup (ts.map thD)) := by
  unfold houseD
  simp only [p1, Bx.go]
end Yb
namespace Yc
open PySem PySem.Spec PyProof.Rows L2 Bx Zb Zp Zm Zh Zf Zq Zr Zs Zl Zn Zo Zt Zu Zd Ze Zg Zi Zj Ya Yb
abbrev C__law_apart : PSpec := Ze.C__law_apart
abbrev C__law_key : PSpec := Zd.C__law_key
def kLe (d : Nat) (κ : Option (List Int)) (S S' : BT) : Bool := dLe (Zd.keyD d S.ths κ) (Zd.keyD d S'.ths κ)
def srtB (d : Nat) (κ : Option (List Int)) (st : List BT) : List BT := st.mergeSort (kLe d κ)
def kids (d : Nat) (ps : List Pr) : BT → List BT
  | .leaf _ => []
  | .node l r => [l, r].filter fun S => !outZ d S.ths ps
def lfN : BT → List Int
  | .leaf t => [nam0 [t]]
  | .node _ _ => []
inductive Drw (d : Nat) (ps : List Pr) (κ : Option (List Int)) (k : Nat) : List BT → List Int → Nat → List Int × Nat × List BT → Prop
  | stop {st ns c} : (st = [] ∨ k ≤ ns.length) → Drw d ps κ k st ns c (ns, c, srtB d κ st)
  | step {st ns c one rest R} : ns.length < k → srtB d κ st = one :: rest → Drw d ps κ k (rest ++ kids d ps one) (ns ++ lfN one) (c + 1) R → Drw d ps κ k st ns c R
def beg (d : Nat) (ps : List Pr) (o : Option BT) (k : Nat) : List BT := match o with
  | none => []
  | some T => if decide (0 < k) && !outZ d T.ths ps then [T] else []
def drwD (R : List Int × Nat × List BT) : D := .tup [plc R.1, .int R.2.1, .tup (R.2.2.map fun S => plc (sN (nmsT S.ths)))]
def C__law_drawn : PSpec := fun ds Q => ∃ (d : Nat) (ts : List Th) (o : Option BT) (ps : List Pr) (κ : Option (List Int)) (k : Nat), ds = [houseD d ts, odD d o, .tup (ps.map pD), kdD κ, .int k] ∧ House d ts ∧ (∀ T, o = some T → Tr d ts T) ∧ ps.length = d ∧ plainOf ps = ps ∧ 1 ≤ d ∧ d ≤ 4 ∧ kdOk κ ∧ ∀ R, Drw d ps κ k (beg d ps o k) [] 0 R → Q (drwD R) []
noncomputable def kfB (d : Nat) (ts : List Th) (κ : Option (List Int)) (x : D) : D :=
  open Classical in if h : ∃ S : BT, btD d S = x ∧ ∀ t ∈ S.ths, t ∈ ts then Zd.keyD d h.choose.ths κ else .non
theorem srtB_perm (d : Nat) (κ : Option (List Int)) (st : List BT) : (srtB d κ st).Perm st := List.mergeSort_perm _ _
theorem kids_tr {d : Nat} {ts : List Th} {ps : List Pr} {S : BT} (h : Tr d ts S) : ∀ U ∈ kids d ps S, Tr d ts U := fun U hU => by
  have h1 : Sub d ts S.ths := h
  cases S with
  | leaf t => cases hU
  | node l r =>
    have hm := (List.mem_filter.mp hU).1
    simp only [List.mem_cons, List.not_mem_nil, or_false] at hm
    have nd := h1.nd
    simp only [BT.ths] at nd
    rcases hm with rfl | rfl
    · exact ⟨h1.hs, fun t ht => h1.mem t (by simp [BT.ths, ht]), (List.nodup_append.mp nd).1⟩
    · exact ⟨h1.hs, fun t ht => h1.mem t (by simp [BT.ths, ht]), (List.nodup_append.mp nd).2.1⟩
end Yc
set_option maxHeartbeats 4000000
namespace Bx
variable [TabC]
open PySem PySem.Spec PyProof.Rows L2
end Bx
namespace Bx
variable [TabC]
open PySem PySem.Spec PyProof.Rows L2
def isBox : D → Option (Nat × List D)
  | .box b xs => some (b, xs)
  | _ => none
section
variable {K : PySem.W.Frag} {H H' : Hp} {O O' : Addr → Prop}
theorem FR.length : ∀ {vs : List V} {ds : List D}, FR K H O vs ds → vs.length = ds.length
  | _, _, .nil => rfl
  | _, _, .rep _ t => by rw [List.length_cons, List.length_cons, FR.length t]
  | _, _, .box _ _ _ t => by rw [List.length_cons, List.length_cons, FR.length t]
theorem FR.get : ∀ {vs : List V} {ds : List D} {i : Nat} {d : D}, FR K H O vs ds → ds[i]? = some d → (∃ v, vs[i]? = some v ∧ Rep K H O v d) ∨ ∃ b xs ws, d = .box b xs ∧ vs[i]? = some (.ref b) ∧ O b ∧ H b = some (.lst ws) ∧ Reps K H O ws xs
  | _, _, _, _, .nil, e => by simp at e
  | _, _, 0, _, .rep r _, e => by simp at e; subst e; exact .inl ⟨_, rfl, r⟩
  | _, _, 0, _, .box o h r _, e => by simp at e; subst e; exact .inr ⟨_, _, _, rfl, rfl, o, h, r⟩
  | _, _, i + 1, x, .rep _ t, e => by simpa using FR.get (i := i) (d := x) t (by simpa using e)
  | _, _, i + 1, x, .box _ _ _ t, e => by simpa using FR.get (i := i) (d := x) t (by simpa using e)
theorem FR.append : ∀ {vs ws : List V} {ds es : List D}, FR K H O vs ds → FR K H O ws es → FR K H O (vs ++ ws) (ds ++ es)
  | _, _, _, _, .nil, s => s
  | _, _, _, _, .rep r t, s => .rep r (FR.append t s)
  | _, _, _, _, .box o h r t, s => .box o h r (FR.append t s)
theorem FR.set {v : V} {d : D} (r : Rep K H O v d) : ∀ {vs : List V} {ds : List D} (i : Nat), FR K H O vs ds → (∀ b xs, ds[i]? ≠ some (.box b xs)) → FR K H O (vs.set i v) (ds.set i d) ∧ bxl (ds.set i d) = bxl ds
  | _, _, _, .nil, _ => ⟨.nil, rfl⟩
  | _, _, 0, .rep q t, _ => ⟨.rep r t, by rw [List.set_cons_zero, r.nbx, q.nbx]⟩
  | _, _, 0, .box _ _ _ t, n => absurd rfl (n _ _)
  | _, _, i + 1, .rep q t, n => by
    obtain ⟨h1, h2⟩ := FR.set r i t (by simpa using n)
    exact ⟨.rep q h1, by rw [List.set_cons_succ, q.nbx, q.nbx, h2]⟩
  | _, _, i + 1, .box o h q t, n => by
    obtain ⟨h1, h2⟩ := FR.set r i t (by simpa using n)
    exact ⟨.box o h q h1, by rw [List.set_cons_succ]; show _ :: _ = _ :: _; rw [h2]⟩
end
section
variable {X : Cx} {o e : Expr} {es : List Expr} {p pos apos cpos : Pos} {ios : List Nat}
end
end Bx
namespace Bx
variable [TabC]
open PySem PySem.Spec PyProof.Rows L2
section
variable {X : Cx} {o e : Expr} {es : List Expr} {p pos apos cpos : Pos} {ios : List Nat}
structure BoxAt (X : Cx) (C : Addr) (c : List Str) (vs : List D) (j : Nat) (b : Addr) (xs : List D) (a dx : Addr) (fs : List (Str × V)) (ws : List V) (σ : L2.St) (i : Nat) (H : Hp) (O : Addr → Prop) : Prop where
  sl : σ[i]? = some (some (.ref a))
  ha : H a = some (.ins C dx fs)
  oa : O a
  ins : Ins X.K c C fs
  fr : FR X.K H O (fs.map (·.2)) vs
  nd : (bxl vs).Nodup
  vj : vs[j]? = some (.box b xs)
  fj : (fs.map (·.2))[j]? = some (.ref b)
  ob : O b
  hb : H b = some (.lst ws)
  rb : Reps X.K H O ws xs
end
end Bx
namespace Bx
variable [TabC]
open PySem PySem.Spec PyProof.Rows L2
section
variable {X : Cx} {elt tg iter : Expr} {ifs : List Expr} {scope : Scope} {own : List (Str × Nat)} {pos : Pos}
end
section
variable {X : Cx} {e o : Expr} {es : List Expr} {p pos apos : Pos} {k : Nat} {f : Addr} {fd : FuncData} {ps : List Str} {W : PSpec}
end
end Bx
namespace Bx
variable [TabC]
open PySem PySem.Spec PyProof.Rows L2
open PySem.W (AlikeAll minD dataLt min_list_data)
def layOk (ds : List D) : Prop := ∀ d ∈ ds, d.pd.canLay0 = true ∧ d.pd.depth ≤ 60
theorem layOk.lay : ∀ {ds : List D}, layOk ds → PyData.canLayAll0 (D.pds ds) = true ∧ PyData.depthAll (D.pds ds) ≤ 60
  | [], _ => by simp [D.pds, PyData.canLayAll0, PyData.depthAll]
  | x :: r, h => by
    obtain ⟨h1, h2⟩ := h x List.mem_cons_self
    obtain ⟨h3, h4⟩ := layOk.lay (ds := r) fun d hd => h d (List.mem_cons_of_mem _ hd)
    simp only [D.pds, PyData.canLayAll0, PyData.depthAll, h1, h3, Bool.and_true]
    exact ⟨trivial, by omega⟩
theorem Vals.back : ∀ {xs : List V} {us : List Value} {i : Nat} {u : Value}, Vals xs us → us[i]? = some u → ∃ x, xs[i]? = some x ∧ RelV x u
  | _, _, _, _, .nil, e => by simp at e
  | _, _, 0, _, .cons r _, e => by simp at e; subst e; exact ⟨_, rfl, r⟩
  | _, _, i + 1, u, .cons _ t, e => by
    obtain ⟨x, h1, h2⟩ := Vals.back (i := i) (u := u) t (by simpa using e)
    exact ⟨x, by simpa using h1, h2⟩
section
variable {X : Cx}
end
section
variable {X : Cx} {o e : Expr} {apos cpos : Pos}
end
end Bx
namespace Bx
variable [TabC]
open PySem PySem.Spec PyProof.Rows L2
section
variable {X : Cx} {elt tg iter : Expr} {ifs : List Expr} {scope : Scope} {own : List (Str × Nat)} {pos : Pos}
end
section
variable {X : Cx} {e o : Expr} {es : List Expr} {p pos apos : Pos} {k : Nat} {f : Addr} {fd : FuncData} {ps : List Str} {W : PSpec}
end
theorem isBox_box {b : Nat} {xs : List D} : isBox (.box b xs) = some (b, xs) := rfl
end Bx
namespace Yd
open PySem PySem.Spec PyProof.Rows L2 Bx Zb Zp Zm Zh Zf Zq Zr Zs Zl Zn Zo Zt Zu Zd Ze Zg Zi Zj Ya Yb Yc
abbrev C_lie_apart : PSpec := Zb.C_lie_apart
abbrev C_plain_box : PSpec := Zb.C_plain_box
abbrev C_worths_of : PSpec := Zd.C_worths_of
abbrev C_key_by : PSpec := Zd.C_key_by
theorem kLe_is (d : Nat) (κ : Option (List Int)) (S S' : BT) : kLe d κ S S' = !pLt (keyN d S'.ths κ) (nam0 S'.ths) (keyN d S.ths κ) (nam0 S.ths) := by
  unfold kLe
  show (!PySem.W.dataLt (Zd.keyD d S'.ths κ).pd (Zd.keyD d S.ths κ).pd) = _
  simp only [Zd.keyD, D.pd, D.pds, Bx.dataLt_pair]
theorem kLe_iff {d : Nat} {κ : Option (List Int)} {S S' : BT} : kLe d κ S S' = true ↔ keyN d S.ths κ < keyN d S'.ths κ ∨ (keyN d S.ths κ = keyN d S'.ths κ ∧ nam0 S.ths ≤ nam0 S'.ths) := by
  rw [kLe_is, Bool.not_eq_true', ← Bool.not_eq_true, pLt_iff]
  omega
def DJ (st : List BT) : Prop := (st.flatMap BT.ths).Nodup
theorem DJ.perm {a b : List BT} (h : DJ a) (p : a.Perm b) : DJ b := (p.flatMap_right BT.ths).nodup_iff.mp h
theorem nam0_in (S : BT) : ∃ t ∈ S.ths, t.1 = nam0 S.ths := by
  obtain ⟨l, e⟩ := nam0_mem (bt_ne S)
  have hm : nam0 S.ths ∈ sN (nmsT S.ths) := by rw [e]; exact List.mem_cons_self
  obtain ⟨t, ht, e2⟩ := List.mem_map.mp (sN_mem.mp hm)
  exact ⟨t, ht, e2⟩
theorem one_thing {d : Nat} {ts : List Th} (h : House d ts) {t u : Th} (ht : t ∈ ts) (hu : u ∈ ts) (e : t.1 = u.1) : t = u := by
  have a := find_one h ht
  have b := find_one h hu
  rw [e, b] at a
  injection a with a
  exact a.symm
theorem dj_names {d : Nat} {ts : List Th} : ∀ {st : List BT}, DJ st → (∀ S ∈ st, Tr d ts S) → ∀ S ∈ st, ∀ S' ∈ st, nam0 S.ths = nam0 S'.ths → S = S'
  | [], _, _, _, h, _, _, _ => by cases h
  | A :: r, h, ht, S, hS, S', hS', e => by
    have h0 : (A.ths ++ r.flatMap BT.ths).Nodup := h
    obtain ⟨n1, n2, n3⟩ := List.nodup_append.mp h0
    have key : ∀ U ∈ r, nam0 A.ths ≠ nam0 U.ths := fun U hU z => by
      obtain ⟨t, ht1, e1⟩ := nam0_in A
      obtain ⟨u, hu1, e2⟩ := nam0_in U
      have hA : Sub d ts A.ths := ht A List.mem_cons_self
      have hUs : Sub d ts U.ths := ht U (List.mem_cons_of_mem _ hU)
      have := one_thing hA.hs (hA.mem t ht1) (hUs.mem u hu1) (by rw [e1, e2, z])
      exact n3 t ht1 u (List.mem_flatMap.mpr ⟨U, hU, hu1⟩) this
    rcases List.mem_cons.mp hS with e1 | hS1
    · rcases List.mem_cons.mp hS' with e2 | hS2
      · rw [e1, e2]
      · exact absurd (by rw [← e1]; exact e) (key S' hS2)
    · rcases List.mem_cons.mp hS' with e2 | hS2
      · exact absurd (by rw [← e2]; exact e.symm) (key S hS1)
      · exact dj_names n2 (fun U hU => ht U (List.mem_cons_of_mem _ hU)) S hS1 S' hS2 e
theorem srtB_pw (d : Nat) (κ : Option (List Int)) (st : List BT) : (srtB d κ st).Pairwise fun a b => kLe d κ a b = true :=
  List.pairwise_mergeSort (fun a b c h1 h2 => by rw [kLe_iff] at *; omega) (fun a b => by
    rcases Bool.eq_false_or_eq_true (kLe d κ a b) with h | h
    · rw [h]; rfl
    · rw [h, Bool.false_or, kLe_iff]
      have := (Bool.eq_false_iff.mp h)
      rw [Ne, kLe_iff] at this
      omega) st
theorem srtB_eq {d : Nat} {ts : List Th} {κ : Option (List Int)} {st L : List BT} (h : DJ st) (ht : ∀ S ∈ st, Tr d ts S) (hp : L.Perm st) (hs : L.Pairwise fun a b => kLe d κ a b = true) : srtB d κ st = L :=
  List.Perm.eq_of_pairwise (le := fun a b => kLe d κ a b = true) (fun a b h1 h2 l1 l2 => by
    refine dj_names h ht a ((srtB_perm d κ st).mem_iff.mp h1) b (hp.mem_iff.mp h2) ?_
    rw [kLe_iff] at l1 l2
    omega) (srtB_pw d κ st) hs ((srtB_perm d κ st).trans hp.symm)
theorem srtB_of_perm {d : Nat} {ts : List Th} {κ : Option (List Int)} {a b : List BT} (h : DJ a) (ht : ∀ S ∈ a, Tr d ts S) (p : a.Perm b) : srtB d κ a = srtB d κ b :=
  srtB_eq h ht ((srtB_perm d κ b).trans p.symm) (srtB_pw d κ b)
structure Wts (d : Nat) (ts : List Th) (st : List BT) : Prop where
  tr : ∀ S ∈ st, Tr d ts S
  dj : DJ st
theorem Wts.perm {d : Nat} {ts : List Th} {a b : List BT} (h : Wts d ts a) (p : a.Perm b) : Wts d ts b := ⟨fun S hS => h.tr S (p.mem_iff.mpr hS), h.dj.perm p⟩
theorem kids_ths {d : Nat} {ps : List Pr} (S : BT) : ((kids d ps S).flatMap BT.ths).Sublist S.ths := by
  cases S with
  | leaf t => exact List.nil_sublist _
  | node l r =>
    show (([l, r].filter fun S => !outZ d S.ths ps).flatMap BT.ths).Sublist (l.ths ++ r.ths)
    cases h1 : outZ d l.ths ps <;> cases h2 : outZ d r.ths ps <;> simp [h1, h2]
theorem Wts.next {d : Nat} {ts : List Th} {ps : List Pr} {one : BT} {rest : List BT} (h : Wts d ts (one :: rest)) : Wts d ts (rest ++ kids d ps one) := by
  refine ⟨fun S hS => (List.mem_append.mp hS).elim (fun z => h.tr S (List.mem_cons_of_mem _ z)) (kids_tr (h.tr one List.mem_cons_self) S), ?_⟩
  have h0 : (one.ths ++ rest.flatMap BT.ths).Nodup := h.dj
  obtain ⟨n1, n2, n3⟩ := List.nodup_append.mp h0
  show ((rest ++ kids d ps one).flatMap BT.ths).Nodup
  rw [List.flatMap_append]
  have sb := kids_ths (d := d) (ps := ps) one
  exact List.nodup_append.mpr ⟨n2, n1.sublist sb, fun x hx y hy e => n3 y (sb.subset hy) x hx e.symm⟩
theorem Drw.perm {d : Nat} {ts : List Th} {ps : List Pr} {κ : Option (List Int)} {k : Nat} {a : List BT} {ns : List Int} {c : Nat} {R : List Int × Nat × List BT} (hR : Drw d ps κ k a ns c R) : ∀ {b : List BT}, Wts d ts a → a.Perm b → Drw d ps κ k b ns c R := by
  induction hR with
  | @stop st ns c h =>
    intro b w p
    rw [srtB_of_perm w.dj w.tr p]
    exact .stop (h.imp (fun e => by subst e; exact p.nil_eq.symm) id)
  | @step st ns c one rest R hk e hD ih =>
    intro b w p
    exact .step hk ((srtB_of_perm w.dj w.tr p).symm.trans e) hD
theorem Drw.one {d : Nat} {ps : List Pr} {κ : Option (List Int)} {k : Nat} {a : List BT} {ns : List Int} {c : Nat} {R R' : List Int × Nat × List BT} (h : Drw d ps κ k a ns c R) (h' : Drw d ps κ k a ns c R') : R = R' := by
  induction h with
  | @stop st ns c h =>
    cases h' with
    | stop _ => rfl
    | step hk e _ =>
      rcases h with h | h
      · subst h; have := srtB_perm d κ []; rw [e] at this; have := this.length_eq; simp at this
      · omega
  | @step st ns c one rest R hk e hD ih =>
    cases h' with
    | stop h =>
      rcases h with h | h
      · subst h; have := srtB_perm d κ []; rw [e] at this; have := this.length_eq; simp at this
      · omega
    | step hk' e' hD' =>
      rw [e] at e'
      cases e'
      exact ih hD'
inductive Nxt (d : Nat) (ps : List Pr) (κ : Option (List Int)) : List BT → Nat → List BT → Nat → Option Int → Prop
  | none {c} : Nxt d ps κ [] c [] c none
  | leaf {st c t rest} : (BT.leaf t :: rest).Perm st → (∀ S ∈ st, kLe d κ (.leaf t) S = true) → Nxt d ps κ st c rest (c + 1) (some (nam0 [t]))
  | node {st c l r rest st' c' o} : (BT.node l r :: rest).Perm st → (∀ S ∈ st, kLe d κ (.node l r) S = true) → Nxt d ps κ (rest ++ kids d ps (.node l r)) (c + 1) st' c' o → Nxt d ps κ st c st' c' o
theorem Nxt.wts {d : Nat} {ts : List Th} {ps : List Pr} {κ : Option (List Int)} {st st' : List BT} {c c' : Nat} {o : Option Int} (h : Nxt d ps κ st c st' c' o) : Wts d ts st → Wts d ts st' := by
  induction h with
  | none => exact id
  | leaf p _ =>
    intro w
    have := (w.perm p.symm).next (ps := ps)
    simpa [kids] using this
  | node p _ _ ih => exact fun w => ih (w.perm p.symm).next
structure PreD (d : Nat) (ts : List Th) (ps : List Pr) (κ : Option (List Int)) : Prop where
  hs : House d ts
  pl : ps.length = d
  po : plainOf ps = ps
  d1 : 1 ≤ d
  d4 : d ≤ 4
  ko : kdOk κ
def C_drawn : PSpec := fun ds Q => ∃ (d : Nat) (ts : List Th) (o : Option BT) (bx : Bx1) (κ : Option (List Int)) (k : Nat), ds = [houseD d ts, odD d o, .tup (bx.map sD), kdD κ, .int k] ∧ House d ts ∧ (∀ T, o = some T → Tr d ts T) ∧ bx.length = d ∧ 1 ≤ d ∧ d ≤ 4 ∧ kdOk κ ∧ k ≤ 1000 ∧
  ∀ R, Drw d (plainOf (bx.map pl)) κ k (beg d (plainOf (bx.map pl)) o k) [] 0 R → Q (drwD R) []
theorem pds_map : ∀ l : List D, D.pds l = l.map D.pd
  | [] => by simp [D.pds]
  | x :: r => by simp [D.pds, pds_map r]
theorem erase_perm {α : Type} : ∀ {l : List α} {k : Nat} {m : α}, l[k]? = some m → (m :: l.eraseIdx k).Perm l
  | [], _, _, h => by simp at h
  | a :: r, 0, m, h => by simp at h; subst h; exact .refl _
  | a :: r, k + 1, m, h => by
    have := erase_perm (l := r) (k := k) (m := m) (by simpa using h)
    exact (List.Perm.swap a m _).trans (this.cons a)
structure RBd (d : Nat) (ts : List Th) (R : List Int × Nat × List BT) : Prop where
  nl : R.1.length ≤ 600
  nb : ∀ n ∈ R.1, 0 ≤ n ∧ n ≤ 10 ^ 6
  lk : R.2.1 ≤ 600
  wl : R.2.2.length ≤ 600
  wt : ∀ S ∈ R.2.2, Tr d ts S
end Yd
namespace Ye
open PySem PySem.Spec PyProof.Rows L2 Bx Zb Zp Zm Zh Zf Zq Zr Zs Zl Zn Zo Zt Zu Zd Ze Zg Zi Zj Ya Yb Yc Yd
theorem mem_all : ∀ (ps : List Pr) (l : List Int), ps.length = l.length → memP ps l = (List.range l.length).all fun i => inP (pN ps i) (l.getD i 0)
  | [], [], _ => by simp [memP]
  | [], _ :: _, h => by simp at h
  | _ :: _, [], h => by simp at h
  | p :: ps, n :: l, h => by
    rw [memP, mem_all ps l (by simpa using h), List.length_cons, List.range_succ_eq_map, List.all_cons, List.all_map]
    rfl
theorem mem_fit {d : Nat} {ps : List Pr} {t : Th} (h1 : ps.length = d) (h2 : t.2.1.length = d) : memP ps t.2.1 = fitP d ps t := by
  rw [mem_all ps t.2.1 (by omega), h2]; rfl
abbrev fitL (ps : List Pr) (zs : List Th) : List Th := zs.filter fun t => memP ps t.2.1
abbrev lfT (d : Nat) (κ : Option (List Int)) (a b : Th) : Bool := kLe d κ (.leaf a) (.leaf b)
def srtT (d : Nat) (κ : Option (List Int)) (zs : List Th) : List Th := zs.mergeSort (lfT d κ)
def rkd (d : Nat) (κ : Option (List Int)) (ps : List Pr) (ts : List Th) : List Int := (srtT d κ (fitL ps ts)).map (·.1)
theorem nam0_one (t : Th) : nam0 [t] = t.1 := by simp [nam0, nmsT, sN]
theorem lfT_iff {d : Nat} {κ : Option (List Int)} {a b : Th} : lfT d κ a b = true ↔ keyN d [a] κ < keyN d [b] κ ∨ (keyN d [a] κ = keyN d [b] κ ∧ a.1 ≤ b.1) := by
  unfold lfT
  rw [kLe_iff]
  simp only [BT.ths, nam0_one]
theorem srtT_perm (d : Nat) (κ : Option (List Int)) (zs : List Th) : (srtT d κ zs).Perm zs := List.mergeSort_perm _ _
theorem srtT_pw (d : Nat) (κ : Option (List Int)) (zs : List Th) : (srtT d κ zs).Pairwise fun a b => lfT d κ a b = true :=
  List.pairwise_mergeSort (fun a b c h1 h2 => by rw [lfT_iff] at *; omega) (fun a b => by
    rcases Bool.eq_false_or_eq_true (lfT d κ a b) with h | h
    · rw [h]; rfl
    · rw [h, Bool.false_or, lfT_iff]
      have := (Bool.eq_false_iff.mp h)
      rw [Ne, lfT_iff] at this
      omega) zs
theorem srtT_eq {d : Nat} {ts : List Th} (ht : House d ts) {κ : Option (List Int)} {zs L : List Th} (hs : ∀ t ∈ zs, t ∈ ts) (hp : L.Perm zs) (hw : L.Pairwise fun a b => lfT d κ a b = true) : srtT d κ zs = L :=
  List.Perm.eq_of_pairwise (le := fun a b => lfT d κ a b = true) (fun a b h1 h2 l1 l2 => by
    refine one_thing ht (hs a ((srtT_perm d κ zs).mem_iff.mp h1)) (hs b (hp.mem_iff.mp h2)) ?_
    rw [lfT_iff] at l1 l2
    omega) (srtT_pw d κ zs) hw ((srtT_perm d κ zs).trans hp.symm)
theorem srtT_of_perm {d : Nat} {ts : List Th} (ht : House d ts) {κ : Option (List Int)} {a b : List Th} (hs : ∀ t ∈ a, t ∈ ts) (p : a.Perm b) : srtT d κ a = srtT d κ b :=
  srtT_eq ht hs ((srtT_perm d κ b).trans p.symm) (srtT_pw d κ b)
theorem sum_le {f g : Nat → Int × Int} {F : Int × Int → Int → Int} : ∀ (is : List Nat) (p : List Int), (∀ i ∈ is, ∀ n, F (f i) n ≤ F (g i) n) → (List.zipWith F (is.map f) p).sum ≤ (List.zipWith F (is.map g) p).sum
  | [], _, _ => by simp
  | _ :: _, [], _ => by simp
  | i :: is, n :: p, h => by
    have h1 := h i List.mem_cons_self n
    have h2 := sum_le is p fun j hj => h j (List.mem_cons_of_mem _ hj)
    simp only [List.map_cons, List.zipWith_cons_cons, List.sum_cons]
    omega
theorem key_le {d : Nat} {κ : Option (List Int)} {S : BT} {t : Th} (h : t ∈ S.ths) : kLe d κ S (.leaf t) = true := by
  rw [kLe_iff]
  have hn : nam0 S.ths ≤ nam0 [t] := by
    rw [nam0_one]
    obtain ⟨l, e⟩ := nam0_mem (bt_ne S)
    have hp := sorted_pw (nmsT S.ths)
    have hm : t.1 ∈ sN (nmsT S.ths) := sN_mem.mpr (List.mem_map_of_mem h)
    have hp : (sN (nmsT S.ths)).Pairwise (· ≤ ·) := hp
    rw [e] at hm hp
    rcases List.mem_cons.mp hm with z | z
    · omega
    · exact (List.pairwise_cons.mp hp).1 _ z
  have hk : keyN d S.ths κ ≤ keyN d [t] κ := by
    cases κ with
    | none =>
      have hm := (mx_mem (l := S.ths.map fun t => t.2.2) (by simp [bt_ne S])).2 t.2.2 (List.mem_map_of_mem h)
      have h1 := (mx_mem (l := [t].map fun t => t.2.2) (by simp)).1
      have h1 : mxL ([t].map fun t => t.2.2) = t.2.2 := by simpa using h1
      show 0 - _ ≤ 0 - _
      omega
    | some p =>
      show stB (edg d S.ths) p ≤ stB (edg d [t]) p
      unfold stB edg
      refine sum_le _ p fun i _ n => ?_
      have a := mn_le h i
      have b := one_mn t i
      have a1 : mnL (S.ths.map fun t => t.2.1.getD i 0) ≤ t.2.1.getD i 0 := a.1
      have a2 : t.2.1.getD i 0 ≤ mxL (S.ths.map fun t => t.2.1.getD i 0) := a.2
      have b1 : mnL ([t].map fun t => t.2.1.getD i 0) = t.2.1.getD i 0 := b.1
      have b2 : mxL ([t].map fun t => t.2.1.getD i 0) = t.2.1.getD i 0 := b.2
      show max (max 0 (_ - n)) (n - _) ≤ max (max 0 (_ - n)) (n - _)
      rw [b1, b2]
      omega
  show keyN d S.ths κ < keyN d [t] κ ∨ keyN d S.ths κ = keyN d [t] κ ∧ nam0 S.ths ≤ nam0 [t]
  omega
theorem kLe_trans {d : Nat} {κ : Option (List Int)} {A B C : BT} (h1 : kLe d κ A B = true) (h2 : kLe d κ B C = true) : kLe d κ A C = true := by
  rw [kLe_iff] at *; omega
theorem out_none {d : Nat} {ts : List Th} {ps : List Pr} {S : BT} (h : Tr d ts S) (hp : ps.length = d) (ho : outZ d S.ths ps = true) : fitL ps S.ths = [] := by
  have h1 : Sub d ts S.ths := h
  refine List.filter_eq_nil_iff.mpr fun t ht => ?_
  rw [mem_fit hp (h1.hs.num t (h1.mem t ht)), out_fit ho t ht]
  simp
theorem leaf_fits {d : Nat} {ts : List Th} {ps : List Pr} {t : Th} (h : Tr d ts (.leaf t)) (hp : ps.length = d) (ho : outZ d [t] ps = false) : memP ps t.2.1 = true := by
  have h1 : Sub d ts [t] := h
  rw [mem_fit hp (h1.hs.num t (h1.mem t (by simp)))]
  have := (one_fit d ps t).1
  rw [ho] at this
  simpa using this.symm
theorem kids_fit {d : Nat} {ts : List Th} {ps : List Pr} {l r : BT} (h : Tr d ts (.node l r)) (hp : ps.length = d) : fitL ps ((kids d ps (.node l r)).flatMap BT.ths) = fitL ps (BT.node l r).ths := by
  have h1 : Sub d ts (BT.node l r).ths := h
  have nd := h1.nd
  simp only [BT.ths] at nd
  have tl : Tr d ts l := ⟨h1.hs, fun t ht => h1.mem t (by simp [BT.ths, ht]), (List.nodup_append.mp nd).1⟩
  have tr : Tr d ts r := ⟨h1.hs, fun t ht => h1.mem t (by simp [BT.ths, ht]), (List.nodup_append.mp nd).2.1⟩
  show fitL ps (([l, r].filter fun S => !outZ d S.ths ps).flatMap BT.ths) = fitL ps (l.ths ++ r.ths)
  rw [show fitL ps (l.ths ++ r.ths) = fitL ps l.ths ++ fitL ps r.ths from List.filter_append ..]
  cases hl : outZ d l.ths ps with
  | true =>
    rw [out_none tl hp hl]
    cases hr : outZ d r.ths ps with
    | true => rw [out_none tr hp hr]; simp [hl, hr]
    | false => simp [hl, hr]
  | false =>
    cases hr : outZ d r.ths ps with
    | true => rw [out_none tr hp hr]; simp [hl, hr]
    | false => simp [hl, hr]
theorem kids_in {d : Nat} {ps : List Pr} (S : BT) : ∀ U ∈ kids d ps S, outZ d U.ths ps = false := fun U hU => by
  cases S with
  | leaf t => cases hU
  | node l r =>
    have := (List.mem_filter.mp hU).2
    simpa using this
theorem Drw.names {d : Nat} {ts : List Th} {ps : List Pr} (hp : ps.length = d) {κ : Option (List Int)} {k : Nat} {st : List BT} {ns : List Int} {c : Nat} {R : List Int × Nat × List BT} (ht : House d ts) (h : Drw d ps κ k st ns c R) :
    Wts d ts st → (∀ S ∈ st, outZ d S.ths ps = false) → R.1 = ns ++ (rkd d κ ps (st.flatMap BT.ths)).take (k - ns.length) := by
  induction h with
  | @stop st ns c h =>
    intro w ho
    rcases h with h | h
    · subst h
      simp [rkd, srtT]
    · rw [show k - ns.length = 0 by omega]; simp
  | @step st ns c one rest R hk e hD ih =>
    intro w ho
    have p := srtB_perm d κ st
    have pw := srtB_pw d κ st
    rw [e] at p pw
    have w2 := w.perm p.symm
    have hone := w2.tr one List.mem_cons_self
    have ho2 : ∀ S ∈ rest ++ kids d ps one, outZ d S.ths ps = false := fun S hS => (List.mem_append.mp hS).elim (fun z => ho S (p.mem_iff.mp (List.mem_cons_of_mem _ z))) (kids_in one S)
    have ih := ih w2.next ho2
    have hin : ∀ {st : List BT}, Wts d ts st → ∀ t ∈ fitL ps (st.flatMap BT.ths), t ∈ ts := fun {st} w t h => by
      obtain ⟨S, hS, hm⟩ := List.mem_flatMap.mp (List.mem_filter.mp h).1
      have h1 : Sub d ts S.ths := w.tr S hS
      exact h1.mem t hm
    have pF : (fitL ps ((one :: rest).flatMap BT.ths)).Perm (fitL ps (st.flatMap BT.ths)) := (p.flatMap_right BT.ths).filter _
    have e1 : rkd d κ ps (st.flatMap BT.ths) = (srtT d κ (fitL ps ((one :: rest).flatMap BT.ths))).map (·.1) := by
      unfold rkd
      rw [srtT_of_perm ht (hin w) pF.symm]
    rw [ih, e1]
    cases one with
    | leaf t =>
      have fo : memP ps t.2.1 = true := leaf_fits hone hp (ho _ (p.mem_iff.mp List.mem_cons_self))
      have e2 : srtT d κ (fitL ps ((BT.leaf t :: rest).flatMap BT.ths)) = t :: srtT d κ (fitL ps (rest.flatMap BT.ths)) := by
        refine srtT_eq ht (hin w2) ?_ (List.pairwise_cons.mpr ⟨fun u hu => ?_, srtT_pw _ _ _⟩)
        · rw [List.flatMap_cons]
          show List.Perm _ (List.filter _ ([t] ++ rest.flatMap BT.ths))
          rw [List.filter_append]
          simp only [List.filter_cons, fo, if_true, List.filter_nil, List.singleton_append]
          exact (srtT_perm _ _ _).cons t
        · have hu := (List.mem_filter.mp ((srtT_perm d κ _).mem_iff.mp hu)).1
          obtain ⟨S, hS, hm⟩ := List.mem_flatMap.mp hu
          exact kLe_trans ((List.pairwise_cons.mp pw).1 S hS) (key_le hm)
      rw [e2]
      simp only [kids, List.append_nil, lfN, nam0_one, rkd, List.map_cons, List.length_append, List.length_cons, List.length_nil]
      rw [show k - ns.length = (k - (ns.length + (0 + 1))) + 1 by omega, List.take_succ_cons, List.append_assoc]
      rfl
    | node l r =>
      have e2 : rkd d κ ps ((rest ++ kids d ps (.node l r)).flatMap BT.ths) = (srtT d κ (fitL ps ((BT.node l r :: rest).flatMap BT.ths))).map (·.1) := by
        unfold rkd
        congr 1
        refine srtT_of_perm ht (hin w2.next) ?_
        rw [List.flatMap_append, List.flatMap_cons]
        show List.Perm (List.filter _ _) (List.filter _ _)
        rw [List.filter_append, List.filter_append]
        have := kids_fit hone hp (ps := ps)
        show ((fitL ps (rest.flatMap BT.ths)) ++ fitL ps ((kids d ps (.node l r)).flatMap BT.ths)).Perm _
        rw [this]
        exact List.perm_append_comm
      rw [e2]
      simp only [lfN, List.append_nil]
abbrev C__law_fits : PSpec := Zf.C__law_fits
abbrev C__law_steps : PSpec := Zd.C__law_steps
end Ye
namespace Bx
variable [TabC]
open PySem PySem.Spec PyProof.Rows L2
section
variable {X : Cx} {ios : List Nat} {pos : Pos}
end
end Bx
namespace Yf
open PySem PySem.Spec PyProof.Rows L2 Bx Zb Zp Zm Zh Zf Zq Zr Zs Zl Zn Zo Zt Zu Zd Ze Zg Zi Zj Ya Yb Yc Yd Ye
abbrev C_lie_apart : PSpec := Zb.C_lie_apart
abbrev C_plain_box : PSpec := Zb.C_plain_box
abbrev C_out_part : PSpec := Ze.C_out_part
abbrev C_drawn : PSpec := Yd.C_drawn
abbrev C__law_apart : PSpec := Ze.C__law_apart
abbrev C__law_parts : Nat → PSpec := Ze.C__law_parts
abbrev lv__law_parts : Nat := 34
abbrev C__law_drawn : PSpec := Yc.C__law_drawn
abbrev Pf3 := List Int × Option (Option Nat)
def pfD : Pf3 → D
  | (p, none) => .tup [plc p, .str "far"]
  | (p, some o) => prtD (p, o)
end Yf
namespace Zv
open PySem PySem.Spec PyProof.Rows L2 Bx Zb Zp Zm Zh Zf Zq Zr Zs Zl Zn Zo Zt Zu
def cutT (i : Nat) (x : Int) : BT → Nat
  | .leaf _ => 0
  | .node l h => if mnZ (l.ths ++ h.ths) i < x ∧ x ≤ mxZ (l.ths ++ h.ths) i then 1 + cutT i x l + cutT i x h else 0
abbrev C_halved_up : PSpec := Zt.C_halved_up
theorem mn_congr {zs ws : List Th} (h : ∀ t, t ∈ zs ↔ t ∈ ws) (h0 : zs ≠ []) (i : Nat) : mnZ zs i = mnZ ws i ∧ mxZ zs i = mxZ ws i := by
  have n0 : zs.map (fun t => t.2.1.getD i 0) ≠ [] := by simpa using h0
  have mem : ∀ y, y ∈ zs.map (fun t => t.2.1.getD i 0) ↔ y ∈ ws.map fun t => t.2.1.getD i 0 := fun y => by
    simp only [List.mem_map]
    constructor
    · rintro ⟨t, ht, e⟩; exact ⟨t, (h t).mp ht, e⟩
    · rintro ⟨t, ht, e⟩; exact ⟨t, (h t).mpr ht, e⟩
  exact ⟨mn_is ((mem _).mp (mn_mem n0).1) fun y hy => (mn_mem n0).2 y ((mem y).mpr hy), mx_is ((mem _).mp (mx_mem n0).1) fun y hy => (mx_mem n0).2 y ((mem y).mpr hy)⟩
theorem mn_sub {zs ws : List Th} (h : ∀ t ∈ ws, t ∈ zs) (h0 : ws ≠ []) (i : Nat) : mnZ zs i ≤ mnZ ws i ∧ mxZ ws i ≤ mxZ zs i := by
  have n0 : ws.map (fun t => t.2.1.getD i 0) ≠ [] := by simpa using h0
  obtain ⟨t, ht, e⟩ := List.mem_map.mp (mn_mem n0).1
  obtain ⟨u, hu, e2⟩ := List.mem_map.mp (mx_mem n0).1
  have a := (mn_le (h t ht) i).1
  have b := (mn_le (h u hu) i).2
  have e : t.2.1.getD i 0 = mnZ ws i := e
  have e2 : u.2.1.getD i 0 = mxZ ws i := e2
  omega
def cutS (S : List (Nat × Int)) (T : BT) : Nat := (S.map fun s => cutT s.1 s.2 T).sum
end Zv
namespace Yg
open PySem PySem.Spec PyProof.Rows L2 Bx Zb Zp Zm Zh Zf Zq Zr Zs Zl Zn Zo Zt Zu Zv Zd Ze Zg Zi Zj Ya Yb Yc Yd Ye Yf
theorem fit_step {d : Nat} {ts : List Th} {ps : List Pr} (hp : ps.length = d) {κ : Option (List Int)} (ht : House d ts) {st rest : List BT} {one : BT} (w : Wts d ts st) (p : (one :: rest).Perm st) (pw : (one :: rest).Pairwise fun a b => kLe d κ a b = true) (ho : outZ d one.ths ps = false) :
    srtT d κ (fitL ps (st.flatMap BT.ths)) = match one with
      | .leaf t => t :: srtT d κ (fitL ps ((rest ++ kids d ps (.leaf t)).flatMap BT.ths))
      | .node l r => srtT d κ (fitL ps ((rest ++ kids d ps (.node l r)).flatMap BT.ths)) := by
  have w2 := w.perm p.symm
  have hone := w2.tr one List.mem_cons_self
  have hin : ∀ {st : List BT}, Wts d ts st → ∀ t ∈ fitL ps (st.flatMap BT.ths), t ∈ ts := fun {st} w t h => by
    obtain ⟨S, hS, hm⟩ := List.mem_flatMap.mp (List.mem_filter.mp h).1
    have h1 : Sub d ts S.ths := w.tr S hS
    exact h1.mem t hm
  have pF : (fitL ps ((one :: rest).flatMap BT.ths)).Perm (fitL ps (st.flatMap BT.ths)) := (p.flatMap_right BT.ths).filter _
  rw [srtT_of_perm ht (hin w) pF.symm]
  cases one with
  | leaf t =>
    have fo : memP ps t.2.1 = true := leaf_fits hone hp ho
    refine srtT_eq ht (hin w2) ?_ (List.pairwise_cons.mpr ⟨fun u hu => ?_, srtT_pw _ _ _⟩)
    · rw [List.flatMap_cons]
      show List.Perm _ (List.filter _ ([t] ++ rest.flatMap BT.ths))
      rw [List.filter_append]
      simp only [List.filter_cons, fo, if_true, List.filter_nil, List.singleton_append, kids, List.append_nil]
      exact (srtT_perm _ _ _).cons t
    · have hu := (List.mem_filter.mp ((srtT_perm d κ _).mem_iff.mp hu)).1
      simp only [kids, List.append_nil] at hu
      obtain ⟨S, hS, hm⟩ := List.mem_flatMap.mp hu
      exact kLe_trans ((List.pairwise_cons.mp pw).1 S hS) (key_le hm)
  | node l r =>
    refine srtT_of_perm ht (hin w2) ?_
    rw [List.flatMap_append, List.flatMap_cons]
    show List.Perm (List.filter _ _) (List.filter _ _)
    rw [List.filter_append, List.filter_append]
    have := kids_fit hone hp (ps := ps)
    show List.Perm _ ((fitL ps (rest.flatMap BT.ths)) ++ fitL ps ((kids d ps (.node l r)).flatMap BT.ths))
    rw [this]
    exact List.perm_append_comm
def mir : BT → BT
  | .leaf t => .leaf t
  | .node l r => .node (mir r) (mir l)
theorem mir_ths : ∀ T : BT, (mir T).ths.Perm T.ths
  | .leaf t => .refl _
  | .node l r => (List.perm_append_comm).trans ((mir_ths l).append (mir_ths r))
theorem out_congr {d : Nat} {zs ws : List Th} (ps : List Pr) (h : zs.Perm ws) (h0 : zs ≠ []) : outZ d zs ps = outZ d ws ps := by
  unfold outZ
  congr 1
  funext i
  obtain ⟨a, b⟩ := mn_congr (fun t => h.mem_iff) h0 i
  rw [a, b]
theorem edg_congr {d : Nat} {zs ws : List Th} (h : zs.Perm ws) (h0 : zs ≠ []) : edg d zs = edg d ws := by
  rw [edg_z, edg_z]
  refine List.map_congr_left fun i _ => ?_
  obtain ⟨a, b⟩ := mn_congr (fun t => h.mem_iff) h0 i
  rw [a, b]
theorem bd_congr {d : Nat} {zs ws : List Th} (h : zs.Perm ws) (h0 : zs ≠ []) : bdD d zs = bdD d ws := by
  unfold bdD
  rw [bnd_z, bnd_z]
  congr 2
  refine List.map_congr_left fun i _ => ?_
  obtain ⟨a, b⟩ := mn_congr (fun t => h.mem_iff) h0 i
  rw [a, b]
theorem nms_congr {zs ws : List Th} (h : zs.Perm ws) : sN (nmsT zs) = sN (nmsT ws) := sN_congr (h.symm.map _)
theorem key_congr {d : Nat} {κ : Option (List Int)} {zs ws : List Th} (h : zs.Perm ws) (h0 : zs ≠ []) : keyN d zs κ = keyN d ws κ ∧ nam0 zs = nam0 ws := by
  refine ⟨?_, by unfold nam0; rw [nms_congr h]⟩
  cases κ with
  | none =>
    have p : (zs.map fun t => t.2.2).Perm (ws.map fun t => t.2.2) := h.map _
    have m := mx_mem (l := zs.map fun t => t.2.2) (by simpa using h0)
    have := mx_is (l := ws.map fun t => t.2.2) (p.mem_iff.mp m.1) fun y hy => m.2 y (p.mem_iff.mpr hy)
    show 0 - _ = 0 - _
    rw [this]
  | some p =>
    show stB _ p = stB _ p
    rw [edg_congr h h0]
theorem kLe_mir {d : Nat} {κ : Option (List Int)} (A B : BT) : kLe d κ (mir A) (mir B) = kLe d κ A B := by
  rw [kLe_is, kLe_is, (key_congr (mir_ths A) (bt_ne _)).1, (key_congr (d := d) (κ := κ) (mir_ths A) (bt_ne _)).2, (key_congr (mir_ths B) (bt_ne _)).1, (key_congr (d := d) (κ := κ) (mir_ths B) (bt_ne _)).2]
theorem srtB_mir (d : Nat) (κ : Option (List Int)) (st : List BT) : srtB d κ (st.map mir) = (srtB d κ st).map mir :=
  (List.map_mergeSort (r := kLe d κ) (s := kLe d κ) (f := mir) (fun a _ b _ => (kLe_mir a b).symm)).symm
theorem kids_mir (d : Nat) (ps : List Pr) (S : BT) : (kids d ps (mir S)).Perm ((kids d ps S).map mir) := by
  cases S with
  | leaf t => exact .refl _
  | node l r =>
    show (([mir r, mir l].filter fun S => !outZ d S.ths ps)).Perm (([l, r].filter fun S => !outZ d S.ths ps).map mir)
    have a := out_congr (d := d) ps (mir_ths l) (bt_ne _)
    have b := out_congr (d := d) ps (mir_ths r) (bt_ne _)
    cases hl : outZ d l.ths ps <;> cases hr : outZ d r.ths ps <;> rw [hl] at a <;> rw [hr] at b <;> simp [a, b, hl, hr]
    exact List.Perm.swap _ _ _
theorem lfN_mir (S : BT) : lfN (mir S) = lfN S := by cases S <;> rfl
theorem Wts.mir {d : Nat} {ts : List Th} {st : List BT} (w : Wts d ts st) : Wts d ts (st.map mir) := by
  refine ⟨fun S hS => ?_, ?_⟩
  · obtain ⟨U, hU, rfl⟩ := List.mem_map.mp hS
    have h1 : Sub d ts U.ths := w.tr U hU
    exact ⟨h1.hs, fun t ht => h1.mem t ((mir_ths U).mem_iff.mp ht), (mir_ths U).nodup_iff.mpr h1.nd⟩
  · have : ((st.map Yg.mir).flatMap BT.ths).Perm (st.flatMap BT.ths) := by
      clear w
      induction st with
      | nil => exact .refl _
      | cons a r ih =>
        simp only [List.map_cons, List.flatMap_cons]
        exact (mir_ths a).append ih
    exact this.nodup_iff.mpr w.dj
theorem Drw.mir {d : Nat} {ts : List Th} {ps : List Pr} {κ : Option (List Int)} {k : Nat} {st : List BT} {ns : List Int} {c : Nat} {R : List Int × Nat × List BT} (h : Drw d ps κ k st ns c R) : Wts d ts st → Drw d ps κ k (st.map Yg.mir) ns c (R.1, R.2.1, R.2.2.map Yg.mir) := by
  induction h with
  | @stop st ns c h =>
    intro w
    have := Drw.stop (d := d) (ps := ps) (κ := κ) (k := k) (st := st.map Yg.mir) (ns := ns) (c := c) (h.imp (fun e => by subst e; rfl) id)
    rw [srtB_mir] at this
    exact this
  | @step st ns c one rest R hk e hD ih =>
    intro w
    have p := srtB_perm d κ st
    rw [e] at p
    have wn := (w.perm p.symm).next (ps := ps)
    have h1 := ih wn
    rw [List.map_append] at h1
    have wm := Yg.Wts.mir wn
    rw [List.map_append] at wm
    have e2 : srtB d κ (st.map Yg.mir) = Yg.mir one :: rest.map Yg.mir := by rw [srtB_mir, e]; rfl
    refine .step hk e2 ?_
    rw [lfN_mir]
    exact Drw.perm h1 wm ((kids_mir d ps one).symm.append_left _)
def C__law_turned (n : Nat) : PSpec := fun ds Q => ∃ (d : Nat) (T : BT), ds = [btD d T] ∧ T.ths.length ≤ n ∧ Q (btD d (mir T)) []
theorem zero__law_turned : ∀ ds Q, ¬ C__law_turned 0 ds Q := fun _ _ ⟨_, T, _, hn, _⟩ => bt_ne T (List.length_eq_zero_iff.mp (Nat.le_zero.mp hn))
abbrev lv__law_turned : Nat := 34
abbrev C__law_apart : PSpec := Ze.C__law_apart
def w__law_turned (n : Nat) : DS :=
  (dSeq (dIfS (tVal (dBin gIsN (oVal (dBin gIx (oVar 0) (oVal (dC (.int 2))))) (oVal (dC .non))))
    (dRet (dVar 0))
    dNext)
    (dRet (dTup (aCons (oVal (dBin gIx (oVar 0) (oVal (dC (.int 0))))) (aCons (oVal (dBin gIx (oVar 0) (oVal (dC (.int 1))))) (aCons (oVal (dCall (C__law_turned n) (aCons (oVal (dBin gIx (oVar 0) (oVal (dC (.int 3))))) aNil))) (aCons (oVal (dCall (C__law_turned n) (aCons (oVal (dBin gIx (oVar 0) (oVal (dC (.int 2))))) aNil))) aNil)))))))
abbrev B__law_turned (n : Nat) : PSpec := bodyW [] 1 1 (w__law_turned n)
theorem bt_mir (d : Nat) (l r : BT) : btD d (mir (.node l r)) = .tup [plc (sN (nmsT (BT.node l r).ths)), bdD d (BT.node l r).ths, btD d (mir r), btD d (mir l)] := by
  show D.tup [plc (sN (nmsT ((mir r).ths ++ (mir l).ths))), bdD d ((mir r).ths ++ (mir l).ths), btD d (mir r), btD d (mir l)] = _
  have p : ((mir r).ths ++ (mir l).ths).Perm (BT.node l r).ths := mir_ths (.node l r)
  rw [nms_congr p, bd_congr p (by simp [bt_ne])]
theorem imp__law_turned (n : Nat) : ∀ ds Q, C__law_turned (n + 1) ds Q → B__law_turned n ds Q := by
  rintro ds Q ⟨d, T, rfl, hn, q⟩
  refine ⟨rfl, ?_⟩
  have sl := sizeLine_eq
  cases T with
  | leaf t =>
    have e2 : ∀ K : D → Prop, gIx (btD d (.leaf t)) (.int 2) K = K .non := fun K => by simp only [btD, Zd.f2, Bx.go]
    refine seq_cut (fun _ => False) (fun R hR => ?_) (fun _ h => h.elim)
    simp only [e2, bt_frz, Bx.go]
    exact q
  | node l r =>
    have e2 : ∀ K : D → Prop, gIx (btD d (.node l r)) (.int 2) K = K (btD d l) := fun K => by simp only [btD, Zd.f2, Bx.go]
    have e3 : ∀ K : D → Prop, gIx (btD d (.node l r)) (.int 3) K = K (btD d r) := fun K => by simp only [btD, Zd.f3, Bx.go]
    have nl : (BT.node l r).ths.length = l.ths.length + r.ths.length := by simp [BT.ths]
    have h1 : 0 < l.ths.length := List.length_pos_iff.mpr (bt_ne l)
    have h2 : 0 < r.ths.length := List.length_pos_iff.mpr (bt_ne r)
    refine seq_cut (fun ρ => ρ = [some (btD d (.node l r))]) (fun R hR => ?_) ?_
    · simp only [e2, bt_non, Bx.go]
      exact hR _ rfl
    rintro _ rfl
    simp only [ix0_bt, ixB_bt, e3, e2, bt_frz, show ∀ l, (plc l).frz = plc l from fun _ => rfl, show ∀ z, (bdD d z).frz = bdD d z from fun _ => rfl, Bx.go]
    refine ⟨d, r, rfl, by omega, ?_⟩
    simp only [ix0_bt, ixB_bt, e3, e2, bt_frz, show ∀ l, (plc l).frz = plc l from fun _ => rfl, show ∀ z, (bdD d z).frz = bdD d z from fun _ => rfl, Bx.go]
    refine ⟨d, l, rfl, by omega, ?_⟩
    simp only [bt_frz, show ∀ l, (plc l).frz = plc l from fun _ => rfl, show ∀ z, (bdD d z).frz = bdD d z from fun _ => rfl, Bx.go]
    rw [bt_mir] at q
    exact q
end Yg
namespace Yh
open PySem PySem.Spec PyProof.Rows L2 Bx Zb Zp Zm Zh Zf Zq Zr Zs Zl Zn Zo Zt Zu Zv Zd Ze Zg Zi Zj Ya Yb Yc Yd Ye Yf Yg
theorem sub_kLe {d : Nat} {κ : Option (List Int)} {A S : BT} (hS : ∀ t ∈ S.ths, t ∈ A.ths) : kLe d κ A S = true := by
  rw [kLe_iff]
  have n1 : nam0 A.ths ≤ nam0 S.ths := by
    obtain ⟨t, ht, e⟩ := nam0_in S
    have h2 : nam0 A.ths ≤ t.1 := by
      obtain ⟨z, e⟩ := nam0_mem (bt_ne A)
      have hp : (sN (nmsT A.ths)).Pairwise (· ≤ ·) := sorted_pw (nmsT A.ths)
      have hm : t.1 ∈ sN (nmsT A.ths) := sN_mem.mpr (List.mem_map_of_mem (hS t ht))
      rw [e] at hm hp
      rcases List.mem_cons.mp hm with z | z
      · omega
      · exact (List.pairwise_cons.mp hp).1 _ z
    rw [e] at h2
    exact h2
  have n2 : keyN d A.ths κ ≤ keyN d S.ths κ := by
    cases κ with
    | none =>
      have a := mx_mem (l := S.ths.map fun t => t.2.2) (by simp [bt_ne S])
      obtain ⟨t, ht, e⟩ := List.mem_map.mp a.1
      have b := (mx_mem (l := A.ths.map fun t => t.2.2) (by simp [bt_ne A])).2 t.2.2 (List.mem_map_of_mem (hS t ht))
      show 0 - _ ≤ 0 - _
      omega
    | some p =>
      show stB (edg d A.ths) p ≤ stB (edg d S.ths) p
      unfold stB
      rw [edg_z, edg_z]
      refine sum_le _ p fun i _ n => ?_
      have a := mn_sub (zs := A.ths) (ws := S.ths) hS (bt_ne S) i
      show max (max 0 (_ - n)) (n - _) ≤ max (max 0 (_ - n)) (n - _)
      omega
  omega
theorem thr_pf {T : BT} {x : Pf3} (h : ∀ n ∈ x.1, n = 0 ∨ n = 1) : thr T (pfD x) = atP T x.1 := by
  obtain ⟨p, o⟩ := x
  cases o with
  | some o => exact thr_prt (x := (p, o)) h
  | none =>
    have h := path_plc h
    show thr T (.tup [plc p, .str "far"]) = _
    rw [thr2, h.1]
    show (if (true && true) = true then atP T ((p.map D.int).map intOf) else none) = _
    rw [h.2]; rfl
def VF (d : Nat) (ps : List Pr) (T : BT) (κ : Option (List Int)) (ks : List (Int × Int)) (x : Pf3) : Prop := (∀ n ∈ x.1, n = 0 ∨ n = 1) ∧ ∃ S, atP T x.1 = some S ∧ match x.2 with
  | none => behind ks (trK d κ S) = true
  | some none => innZ d S.ths ps = true ∧ S.ths.length = 1
  | some (some k) => k < 2 * d ∧ beyZ S.ths ps (k / 2) (k % 2) = true
def inNm (T : BT) (x : Pf3) : List Int := match x.2 with
  | some none => (thsO (atP T x.1)).map (·.1)
  | _ => []
structure GL (d : Nat) (ps : List Pr) (T : BT) (κ : Option (List Int)) (ks : List (Int × Int)) (L : List Pf3) : Prop where
  val : ∀ x ∈ L, VF d ps T κ ks x
  prm : (L.flatMap fun x => thsO (atP T x.1)).Perm T.ths
  nms : (L.flatMap (inNm T)).Perm (ks.map (·.2))
theorem VF.rgt {d : Nat} {ps : List Pr} {T : BT} {κ : Option (List Int)} {ks : List (Int × Int)} {x : Pf3} (h : VF d ps T κ ks x) : rgtP d ps T κ ks (pfD x) = true := by
  obtain ⟨h1, S, e, h2⟩ := h
  obtain ⟨p, o⟩ := x
  have et := thr_pf (T := T) (x := (p, o)) h1
  unfold rgtP
  rw [et, e]
  cases o with
  | none =>
    have h2 : behind ks (trK d κ S) = true := h2
    show (_ || (_ || farP d κ S ks (.tup [plc p, .str "far"]))) = true
    have ef : farP d κ S ks (.tup [plc p, .str "far"]) = (((("far" : Str)) == "far") && behind ks (trK d κ S)) := rfl
    rw [ef, h2]
    simp
  | some o =>
    cases o with
    | none =>
      obtain ⟨a, b⟩ : innZ d S.ths ps = true ∧ S.ths.length = 1 := h2
      have ei : insP d ps S (prtD (p, none)) = true := by rw [prtD, ins2, a]; simp
      show ((insP d ps S (prtD (p, none)) && _) || _) = true
      rw [ei, b]; rfl
    | some k =>
      have h2 : k < 2 * d ∧ beyZ S.ths ps (k / 2) (k % 2) = true := h2
      have v : VP d ps T (p, some k) := ⟨h1, S, e, h2⟩
      have r := v.rgt
      unfold Zg.rgt at r
      rw [thr_prt (T := T) (x := (p, some k)) h1, e] at r
      have ei : insP d ps S (prtD (p, some k)) = false := rfl
      simp only [ei, Bool.false_or] at r
      show (_ || (outP d ps S (prtD (p, some k)) || _)) = true
      rw [r]; simp
theorem VF.tkn {d : Nat} {ps : List Pr} {T : BT} {κ : Option (List Int)} {ks : List (Int × Int)} {x : Pf3} (h : VF d ps T κ ks x) : Ya.tkn d ps T (pfD x) = inNm T x := by
  obtain ⟨h1, S, e, h2⟩ := h
  obtain ⟨p, o⟩ := x
  have et := thr_pf (T := T) (x := (p, o)) h1
  unfold Ya.tkn
  rw [et, e]
  cases o with
  | none =>
    have ei : insP d ps S (.tup [plc p, .str "far"]) = false := by rw [ins2]; rfl
    show (if (insP d ps S (.tup [plc p, .str "far"]) && _) = true then _ else _) = []
    rw [ei]; rfl
  | some o =>
    cases o with
    | none =>
      obtain ⟨a, b⟩ : innZ d S.ths ps = true ∧ S.ths.length = 1 := h2
      have ei : insP d ps S (prtD (p, none)) = true := by rw [prtD, ins2, a]; simp
      show (if (insP d ps S (prtD (p, none)) && S.ths.length == 1) = true then [nam0 S.ths] else []) = (thsO (atP T p)).map (·.1)
      rw [ei, b, e]
      show [nam0 S.ths] = S.ths.map (·.1)
      obtain ⟨t, et⟩ := List.length_eq_one_iff.mp b
      rw [et, nam0_one]; rfl
    | some k =>
      have ei : insP d ps S (prtD (p, some k)) = false := rfl
      show (if (insP d ps S (prtD (p, some k)) && _) = true then _ else _) = []
      rw [ei]; rfl
theorem thsO_some (S : BT) : thsO (some S) = S.ths := rfl
theorem behind_le {d : Nat} {κ : Option (List Int)} {ks : List (Int × Int)} {A S : BT} (h : behind ks (trK d κ A) = true) (hs : ∀ t ∈ S.ths, t ∈ A.ths) : behind ks (trK d κ S) = true := by
  have hk := kLe_iff.mp (sub_kLe (d := d) (κ := κ) hs)
  unfold behind at h ⊢
  cases e : ks.getLast? with
  | none => rfl
  | some l =>
    rw [e] at h
    have h : pLt l.1 l.2 (keyN d A.ths κ) (nam0 A.ths) = true := h
    show pLt l.1 l.2 (keyN d S.ths κ) (nam0 S.ths) = true
    rw [pLt_iff] at h ⊢
    omega
theorem GL.perm {d : Nat} {ps : List Pr} {T : BT} {κ : Option (List Int)} {ks : List (Int × Int)} {L M : List Pf3} (h : GL d ps T κ ks L) (p : M.Perm L) : GL d ps T κ ks M :=
  ⟨fun x hx => h.val x (p.mem_iff.mp hx), (p.flatMap_right _).trans h.prm, (p.flatMap_right _).trans h.nms⟩
theorem vf_at {d : Nat} {ps : List Pr} {T : BT} {κ : Option (List Int)} {ks : List (Int × Int)} {x : Pf3} (h : VF d ps T κ ks x) : ∃ S, atP T x.1 = some S := ⟨h.2.choose, h.2.choose_spec.1⟩
theorem GL.len {d : Nat} {ps : List Pr} {T : BT} {κ : Option (List Int)} {ks : List (Int × Int)} {L : List Pf3} (h : GL d ps T κ ks L) : L.length ≤ T.ths.length := by
  rw [← h.prm.length_eq]
  have : ∀ M : List Pf3, (∀ x ∈ M, VF d ps T κ ks x) → M.length ≤ (M.flatMap fun x => thsO (atP T x.1)).length := by
    intro M
    induction M with
    | nil => intro _; exact Nat.le_refl _
    | cons x M ih =>
      intro hM
      obtain ⟨S, e⟩ := vf_at (hM x List.mem_cons_self)
      have := ih fun y hy => hM y (List.mem_cons_of_mem _ hy)
      have h0 := List.length_pos_iff.mpr (bt_ne S)
      rw [List.flatMap_cons, List.length_append, e, thsO_some, List.length_cons]
      omega
  exact this L h.val
theorem VF.ok {d : Nat} {ps : List Pr} {T : BT} {κ : Option (List Int)} {ks : List (Int × Int)} {x : Pf3} (h : VF d ps T κ ks x) (d4 : d ≤ 4) (tl : T.ths.length ≤ 300) : PrtOk (x.1, x.2.getD none) := by
  obtain ⟨h1, S, e, h2⟩ := h
  have := at_ths e
  refine ⟨fun n hn => by rcases h1 n hn with h | h <;> rw [h] <;> decide, by show x.1.length ≤ 300; omega, fun k hk => ?_⟩
  obtain ⟨p, o⟩ := x
  cases o with
  | none => cases hk
  | some o =>
    cases o with
    | none => cases hk
    | some k' =>
      cases hk
      have : k < 2 * d := h2.1
      omega
theorem VF.far {d : Nat} {ps : List Pr} {T l r : BT} {κ : Option (List Int)} {ks : List (Int × Int)} {p : List Int} (h : VF d ps T κ ks (p, none)) (e : atP T p = some (.node l r)) : VF d ps T κ ks (p ++ [0], none) ∧ VF d ps T κ ks (p ++ [1], none) := by
  obtain ⟨h1, S, eS, h2⟩ := h
  have h1 : ∀ n ∈ p, n = 0 ∨ n = 1 := h1
  have eS : atP T p = some S := eS
  rw [e] at eS
  cases eS
  have h2 : behind ks (trK d κ (.node l r)) = true := h2
  have a0 : atP T (p ++ [0]) = some l := by rw [at_snoc e]; simp [atP]
  have a1 : atP T (p ++ [1]) = some r := by rw [at_snoc e]; simp [atP]
  refine ⟨⟨fun n hn => ?_, l, a0, behind_le h2 fun t ht => List.mem_append_left _ ht⟩, ⟨fun n hn => ?_, r, a1, behind_le h2 fun t ht => List.mem_append_right _ ht⟩⟩
  · rcases List.mem_append.mp hn with h | h
    · exact h1 n h
    · exact .inl (List.mem_singleton.mp h)
  · rcases List.mem_append.mp hn with h | h
    · exact h1 n h
    · exact .inr (List.mem_singleton.mp h)
theorem VF.prt {d : Nat} {ps : List Pr} {T : BT} {κ : Option (List Int)} {ks : List (Int × Int)} {p : List Int} {k : Nat} : VF d ps T κ ks (p, some (some k)) ↔ VP d ps T (p, some k) := Iff.rfl
end Yh
namespace Yi
open PySem PySem.Spec PyProof.Rows L2 Bx Zb Zp Zm Zh Zf Zq Zr Zs Zl Zn Zo Zt Zu Zv Zd Ze Zg Zi Zj Ya Yb Yc Yd Ye Yf Yg Yh
theorem nle (x y : D) : (!dLe y x) = lexLt itemOrd (PySem.W.keyToks x.pd) (PySem.W.keyToks y.pd) := by
  show (!(!lexLt itemOrd (PySem.W.keyToks x.pd) (PySem.W.keyToks y.pd))) = _
  rw [Bool.not_not]
theorem lex_app (c x y : List (Int ⊕ List Nat)) : lexLt itemOrd (c ++ x) (c ++ y) = lexLt itemOrd x y := by
  induction c with
  | nil => rfl
  | cons a c ih => rw [List.cons_append, List.cons_append, lex_self, ih]
theorem lex_int {a b : Int} {x y : List (Int ⊕ List Nat)} : lexLt itemOrd (.inl a :: x) (.inl b :: y) = if a = b then lexLt itemOrd x y else decide (a < b) := by
  by_cases h : a = b
  · subst h
    rw [lex_self, if_pos rfl]
  · rw [if_neg h, lex_diff (fun e => h (Sum.inl.inj e))]
    rfl
theorem ltD_is (a b : Th) : (!dLe (kyD b) (kyD a)) = if a.2.2 = b.2.2 then decide (a.1 < b.1) else decide (b.2.2 < a.2.2) := by
  rw [nle, kyD_pd, kyD_pd]
  simp only [PySem.W.keyToks, PySem.W.keyToksAll, List.cons_append, List.nil_append]
  rw [lex_self, lex_int, lex_self, lex_int, lex_self]
  by_cases h : a.2.2 = b.2.2
  · rw [if_pos (by omega), if_pos h]
    split
    · rename_i e
      rw [e, lex_irrefl]
      simp
    · rfl
  · rw [if_neg (by omega), if_neg h, Bool.eq_iff_iff]
    simp only [decide_eq_true_eq]
    omega
theorem ltN_is (p : List Int) (a b : Th) (he : a.1 = b.1 → a = b) : (!dLe (kyN p b) (kyN p a)) = if stepsL a.2.1 p = stepsL b.2.1 p then decide (a.1 < b.1) else decide (stepsL a.2.1 p < stepsL b.2.1 p) := by
  rw [nle, kyN_pd, kyN_pd]
  simp only [PySem.W.keyToks, PySem.W.keyToksAll, List.cons_append, List.nil_append]
  rw [lex_self, lex_int, lex_self, lex_int]
  by_cases h : stepsL a.2.1 p = stepsL b.2.1 p
  · rw [if_pos h, if_pos h]
    split
    · rename_i e
      have := he e
      subst this
      rw [lex_irrefl]
      simp
    · rfl
  · rw [if_neg h, if_neg h]
theorem le_total (ky : Th → D) (a b : Th) : dLe (ky a) (ky b) = true ∨ dLe (ky b) (ky a) = true :=
  (PySem.W.sortLe_total (PyProof.Rows.listOrd PyProof.Rows.itemOrd) false (fun t : Th => PySem.W.keyToks (ky t).pd)).total a b
theorem le_trans {ky : Th → D} {a b c : Th} (h1 : dLe (ky a) (ky b) = true) (h2 : dLe (ky b) (ky c) = true) : dLe (ky a) (ky c) = true :=
  (PySem.W.sortLe_total (PyProof.Rows.listOrd PyProof.Rows.itemOrd) false (fun t : Th => PySem.W.keyToks (ky t).pd)).trans a b c h1 h2
theorem srt_pw (ky : Th → D) (ts : List Th) : (srt ky ts).Pairwise (fun a b => dLe (ky a) (ky b) = true) :=
  List.pairwise_mergeSort (le := fun a b : Th => dLe (ky a) (ky b)) (fun a b c h1 h2 => le_trans h1 h2) (fun a b => by
    rcases le_total ky a b with h | h
    · exact Bool.or_eq_true _ _ |>.mpr (.inl h)
    · exact Bool.or_eq_true _ _ |>.mpr (.inr h)) ts
end Yi
namespace Bx
variable [TabC]
open PySem PySem.Spec PyProof.Rows L2
section
variable {X : Cx} {elt tg : Expr} {ifs : List Expr} {scope : Scope} {own : List (Str × Nat)} {pos : Pos}
end
section
variable {X : Cx}
end
section
variable {X : Cx}
end
end Bx
namespace Bx
variable [TabC]
open PySem PySem.Spec PyProof.Rows L2
section
variable {X : Cx}
end
end Bx
namespace Bx
variable [TabC]
open PySem PySem.Spec PyProof.Rows L2
abbrev GT2 := Str → D → (D → Prop) → Prop
def TxM (X : Cx) (id : String) (g : GT2) : Prop :=
  ∃ r, MtR X id r ∧ ∀ (H : Hp) (O : Addr → Prop) (z : Str) (y : V) (d : D) (k : D → Prop) (R : VK), Own H O → Val X.K H O y d → g z d k → Fin0 X H O k R → r (.str z) [y] H R
def kTM2 (g : GT2) (z : Str) (k : D → Rho → Prop) (d : D) (ρ : Rho) : Prop := g z d (kV k ρ)
def kTM1 (g : GT2) (w : DE) (k : D → Rho → Prop) (d : D) (ρ : Rho) : Prop := match d with
  | .str z => w (kTM2 g z k) ρ
  | _ => False
def dTM (g : GT2) (wo w : DE) (k : D → Rho → Prop) (ρ : Rho) : Prop := wo (kTM1 g w k) ρ
section
variable {X : Cx} {o e : Expr} {apos pos : Pos}
theorem se_tm {id : String} {name : Str} {g : GT2} {wo w : DE} (slot : Slot "str" name id) (ty : typeOf (.builtin id) = pure (.type "method_descriptor")) (m : TxM X id g) (ho : SE X o wo) (h : SE X e w)
    (hs : starEach [e] X.env = [(false, eval e X.env)] := by rfl) (hbase : attributeBase o name X.env (eval o X.env) = eval o X.env := by rfl) (hline : (apos.endLine == pos.line) = true := by rfl) :
    SE X (.Call (.Attribute o name apos) [e] [] pos) (dTM g wo w) := by
  obtain ⟨r, rule, hg⟩ := m
  obtain ⟨to, po, fo⟩ := ho
  obtain ⟨t, pe, f⟩ := h
  refine ⟨_, pe_m1 slot ty rule po pe hs hbase hline, fun σ H ρ O k R s hw q => ?_⟩
  refine fo σ H ρ O _ _ s hw fun v H1 ρ1 O1 d a vo hk => ?_
  cases d <;> try exact False.elim hk
  have ev := vo.val.str
  subst ev
  refine ⟨⟨_, rfl⟩, f σ H1 ρ1 O1 _ _ a.sr hk fun y H2 ρ2 O2 d2 a2 vo2 hk2 => ?_⟩
  refine hg H2 O2 _ y d2 _ R a2.sr.own vo2.val hk2 fun v H' O' d e own vo hk => ?_
  have a3 := (a.trans a2).trans (a2.sr.ext0 e own)
  exact q v H' ρ2 O' d a3 (vo.back (a.trans a2).back) hk
def asSt : List D → Option (List Str)
  | [] => some []
  | .str z :: r => (asSt r).map (z :: ·)
  | _ => none
theorem asSt_eq : ∀ {ds : List D} {l : List Str}, asSt ds = some l → ds = l.map .str
  | [], l, h => by cases h; rfl
  | .str z :: r, l, h => by
    obtain ⟨l', e, rfl⟩ := Option.map_eq_some_iff.mp h
    rw [asSt_eq e]; rfl
  | .non :: _, _, h => by cases h
  | .bl _ :: _, _, h => by cases h
  | .int _ :: _, _, h => by cases h
  | .tup _ :: _, _, h => by cases h
  | .lst _ _ :: _, _, h => by cases h
  | .scr _ :: _, _, h => by cases h
  | .dic _ _ :: _, _, h => by cases h
  | .odc _ _ :: _, _, h => by cases h
  | .obj _ _ _ :: _, _, h => by cases h
  | .ob2 _ _ :: _, _, h => by cases h
  | .exc _ _ :: _, _, h => by cases h
  | .box _ _ :: _, _, h => by cases h
theorem asSt_map (l : List Str) : asSt (l.map .str) = some l := by
  induction l with
  | nil => rfl
  | cons a l ih =>
    show (asSt (l.map .str)).map (a :: ·) = _
    rw [ih]; rfl
theorem reps_strs {K : PySem.W.Frag} {H : Hp} {O : Addr → Prop} : ∀ l : List Str, Reps K H O (l.map V.str) (l.map D.str)
  | [] => .nil
  | z :: l => .cons (.str z) (reps_strs l)
theorem reps_str_eq {K : PySem.W.Frag} {H : Hp} {O : Addr → Prop} : ∀ {vs : List V} {l : List Str}, Reps K H O vs (l.map D.str) → vs = l.map V.str
  | [], [], _ => rfl
  | v :: vs, z :: l, h => by
    cases h with
    | cons h1 h2 =>
      cases h1
      rw [reps_str_eq h2]; rfl
  | [], _ :: _, h => by cases h
  | _ :: _, [], h => by cases h
def gSplit : GT2
  | a, .str b, k => ((b.length == 0) = false ∧ a.length + 2 ≤ sizeLine) ∧ k (.lst true ((Txt.split a b).map .str))
  | _, _, _ => False
theorem txm_split : TxM X "str.split" gSplit := by
  refine ⟨_, mt_split, fun H O z y d k R own vy g f => ?_⟩
  cases d <;> try exact False.elim g
  have ev := vy.str
  subst ev
  exact ⟨z, _, rfl, rfl, g.1.1, g.1.2, fun p hp => fin_lst own f hp (reps_strs _) g.2⟩
def gJoin (a : Str) (d : D) (k : D → Prop) : Prop := onSome (d.seq.bind asSt) fun ys => (ys.map (·.length)).sum + ys.length * a.length ≤ 16777216 ∧ k (.str (Txt.join a ys))
theorem txm_join : TxM X "str.join" gJoin := by
  refine ⟨_, mt_join, fun H O z y d k R own vy g f => ?_⟩
  obtain ⟨ys, e, hl, g⟩ := onSome.ex g
  obtain ⟨ds, e1, e2⟩ := Option.bind_eq_some_iff.mp e
  obtain ⟨a, vs, rfl, q, r⟩ := vy.seq e1
  have ed := asSt_eq e2
  subst ed
  have ev := reps_str_eq r
  subst ev
  exact ⟨z, a, ys, rfl, rfl, q, hl, fin_id own f (.str _) g⟩
def gFind : GT2
  | a, .str b, k => k (.int (Txt.find a b))
  | _, _, _ => False
def gStrip : GT2
  | a, .str b, k => a.length ≤ sizeLine ∧ k (.str (Txt.stripChars a b))
  | _, _, _ => False
end
def v_dTM := @Bx.dTM.eq_1
def v_kTM2 := @Bx.kTM2.eq_1
theorem kTM1_str {g : GT2} {w : DE} {k : D → Rho → Prop} {z : Str} {ρ : Rho} : kTM1 g w k (.str z) ρ = w (kTM2 g z k) ρ := rfl
theorem gSplit_str {a b : Str} {k : D → Prop} : gSplit a (.str b) k = (((b.length == 0) = false ∧ a.length + 2 ≤ sizeLine) ∧ k (.lst true ((Txt.split a b).map .str))) := rfl
theorem gFind_str {a b : Str} {k : D → Prop} : gFind a (.str b) k = k (.int (Txt.find a b)) := rfl
theorem gStrip_str {a b : Str} {k : D → Prop} : gStrip a (.str b) k = (a.length ≤ sizeLine ∧ k (.str (Txt.stripChars a b))) := rfl
theorem gJoin_lst {a : Str} {o : Bool} {ys : List Str} {k : D → Prop} : gJoin a (.lst o (ys.map .str)) k = ((ys.map (·.length)).sum + ys.length * a.length ≤ 16777216 ∧ k (.str (Txt.join a ys))) := by
  unfold gJoin
  rw [show (D.lst o (ys.map .str)).seq = some (ys.map .str) from rfl, Option.bind_some, asSt_map]
  rfl
theorem gJoin_tup {a : Str} {ys : List Str} {k : D → Prop} : gJoin a (.tup (ys.map .str)) k = ((ys.map (·.length)).sum + ys.length * a.length ≤ 16777216 ∧ k (.str (Txt.join a ys))) := by
  unfold gJoin
  rw [show (D.tup (ys.map .str)).seq = some (ys.map .str) from rfl, Option.bind_some, asSt_map]
  rfl
def bxT := And.intro (And.intro (And.intro (@v_dTM) (@v_kTM2)) (And.intro (@kTM1_str) (@gSplit_str))) (And.intro (And.intro (@gFind_str) (@gStrip_str)) (And.intro (@gJoin_lst) (@gJoin_tup)))
end Bx
namespace Bx
variable [TabC]
open PySem PySem.Spec PyProof.Rows L2
def oneS (z : Str) : Option Nat := match z.cps.toList with
  | [c] => some c
  | _ => none
theorem oneS_eq {z : Str} {c : Nat} (h : oneS z = some c) : z = ⟨#[c]⟩ := by
  unfold oneS at h
  split at h
  · rename_i d e
    cases h
    obtain ⟨a⟩ := z
    congr 1
    exact Array.toList_inj.mp e
  · cases h
def gInS : G2
  | .str x, .str z, k => onSome (oneS x) fun c => k (.bl (decide (c ∈ z.cps.toList)))
  | _, _, _ => False
section
variable {X : Cx}
theorem opd_inS : OpD X (compareOp .In) gInS := by
  refine ⟨_, op_inS, fun H O x y dx dy k R own vx vy g f => ?_⟩
  cases dx <;> cases dy <;> try exact False.elim g
  have e1 := vx.str
  have e2 := vy.str
  subst e1 e2
  obtain ⟨c, e, g⟩ := onSome.ex g
  have e := oneS_eq e
  subst e
  exact ⟨c, _, rfl, rfl, fin_id own f (.bl _) g⟩
end
theorem gInS_1 {c : Nat} {z : Str} {k : D → Prop} : gInS (.str ⟨#[c]⟩) (.str z) k = k (.bl (decide (c ∈ z.cps.toList))) := rfl
end Bx
set_option maxHeartbeats 2000000
namespace L2
open PySem PySem.Spec PyProof.Rows
section
variable {pins : List (Addr × Obj)} {X : Cx} {s : Shared} {σ : St} {H : Hp}
theorem Inv.track {a : Addr} {cls : Value} {d : Option Addr} {oe : Obj} {vs : Array Value} (I : Inv X pins σ H s) (na : H a = none) (n0 : X.s_0.heap.get? a = none) (ha : s.heap.get? a = some oe) (hz : Zc cls d oe) (hd : oe.data = .fields vs) (nL : a ≠ X.env.locals) (np : ∀ p ∈ X.pn ++ pins, p.1 ≠ a) :
    Inv X pins σ (upd H a (Bx.CxO cls d a)) s := by
  have ne0 : ∀ b o, X.s_0.heap.get? b = some o → b ≠ a := fun b o e => by
    intro z
    rw [z, n0] at e; cases e
  have neH : ∀ b o, H b = some o → b ≠ a := fun b o e z => by
    rw [z, na] at e; cases e
  refine ⟨I.ok, I.os, I.bare, ⟨I.base.keep, I.base.slot, fun b o e n hx => ?_, I.base.there, fun b xs e => ?_, fun b o u e => ?_, fun b ps e => ?_⟩, I.loc, I.cell, ?_, fun x c e => ?_, fun p hp => ?_, ?_, I.len⟩
  · rw [upd_ne (ne0 b o e)]
    exact I.base.free b o e n hx
  · have y := I.base.tups b xs e
    rw [upd_ne (neH b _ y)]; exact y
  · have y := I.base.frzs b o u e
    rw [upd_ne (neH b _ y)]; exact y
  · obtain ⟨m, y⟩ := I.base.tbls b ps e
    exact ⟨m, by rw [upd_ne (neH b _ y)]; exact y⟩
  · rw [upd_ne (Ne.symm nL)]; exact I.free
  · rw [upd_ne fun z => ?_]
    · exact I.freeC x c e
    · obtain ⟨v, o, ho, hc⟩ := I.cell x c e
      rw [z, ha] at ho; cases ho
      rw [hd] at hc; cases hc
  · obtain ⟨e, n, ne, nf, dd⟩ := I.pin p hp
    exact ⟨e, by rw [upd_ne (np p hp)]; exact n, ne, nf, dd⟩
  · exact I.hok.laidN (fun _ _ q => q) na ⟨⟨oe, vs, ha, hz, hd⟩, ⟨oe, ha⟩, fun _ _ ⟨o, v, q, r⟩ k => ⟨o, v, k o q, r⟩⟩
theorem Inv.toSuite (I : Inv X pins σ H s) (a : Addr) : Inv (X.suite a (X.pn ++ pins)) [] σ H s :=
  { ok := I.ok.suite _ _, len := I.len, hok := I.hok, os := I.os, bare := I.bare, base := I.base, loc := I.loc, cell := I.cell, free := I.free, freeC := I.freeC, pin := fun p m => I.pin p ((List.append_nil (X.pn ++ pins)) ▸ m) }
theorem Inv.ofSuite {a : Addr} {pn' : List (Addr × Obj)} (I : Inv (X.suite a (X.pn ++ pins)) pn' σ H s) (ok : X.Ok) : Inv X pins σ H s :=
  { ok := ok, len := I.len, hok := I.hok, os := I.os, bare := I.bare, base := I.base, loc := I.loc, cell := I.cell, free := I.free, freeC := I.freeC, pin := fun p m => I.pin p (List.mem_append.mpr (.inl m)) }
end
structure Lnd (X : Cx) (pins : List (Addr × Obj)) (σ : St) (H : Hp) (a : Addr) (cls : Value) (d : Option Addr) (B : Heap) (s : Shared) : Prop where
  fl : HandSPX.FlyingZ B (X.env :: X.outer) a (Zc cls d) s.heap
  ag : ∀ h, HandSPX.FlyingZ B (X.env :: X.outer) a (Zc cls d) h → s.heap.UpToSlots h → Inv X pins σ H { s with heap := h }
  na : H a = none
  nL : a ≠ X.env.locals
  nF : a ∉ X.fs
  n0 : X.s_0.heap.get? a = none
  np : ∀ p ∈ X.pn ++ pins, p.1 ≠ a
theorem not_frame {B h : Heap} {l : List Env} {a : Addr} {o : Obj} {vs : Array Value} (f : h.FunFrames B l) (e : h.get? a = some o) (z : o.data = .fields vs) : a ∉ frs l := fun m => by
  obtain ⟨_, o2, e2, n⟩ := f.mem m
  cases e.symm.trans e2
  exact n vs z
section
variable {X : Cx} {pins : List (Addr × Obj)} {σ : St} {H : Hp} {s : Shared} {a : Addr} {cls : Value} {d : Option Addr} {B : Heap}
theorem Lnd.inv (l : Lnd X pins σ H a cls d B s) : Inv X pins σ H s := l.ag s.heap l.fl (.refl _)
theorem Lnd.obj (l : Lnd X pins σ H a cls d B s) : ∃ (o : Obj) (vs : Array Value), s.heap.get? a = some o ∧ Zc cls d o ∧ o.data = .fields vs := l.fl.there
theorem Lnd.next (l : Lnd X pins σ H a cls d B s) {h : Heap} (f : HandSPX.FlyingZ B (X.env :: X.outer) a (Zc cls d) h) (u : s.heap.UpToSlots h) : Lnd X pins σ H a cls d B { s with heap := h } :=
  ⟨f, fun h2 f2 u2 => l.ag h2 f2 (u.trans u2), l.na, l.nL, l.nF, l.n0, l.np⟩
theorem Lnd.trk (l : Lnd X pins σ H a cls d B s) : Inv X pins σ (upd H a (Bx.CxO cls d a)) s := by
  obtain ⟨o, vs, h1, h2, h3⟩ := l.obj
  exact l.inv.track l.na l.n0 h1 h2 h3 l.nL l.np
theorem down_of {W : WX} {u : Value} {M : Model} {E1 : Value → Shared → Prop} {Q : Unit → Shared → Prop} {xe : Value → Shared → Prop} (ok : X.Ok) (st : X.stack = X.env :: X.outer) (fr : X.env.frame = some X.env.locals) (ex0 : X.ex = [])
    (x : XE (X.tr (X.pn ++ pins) xe) W u s) (q : ∀ (a : Addr) (cls : Value) (d : Option Addr) (σ : St) (H : Hp) (B : Heap) (h : Heap), u = .ref a → W cls d σ H → Lnd X pins σ H a cls d B { s with heap := h } → Q () { s with heap := h }) :
    wpAny M X.A (noteFrame u X.env) (fun _ s2 => wpAny M X.A (setFlight u none) Q E1 s2) E1 s := by
  obtain ⟨a, B, s1, pn, σ, H, cls, d, eu, i1, gr, ut, air, na, eo, bare, w⟩ := x
  rw [eu]
  have i2 : Inv X pins σ H s1 := i1.ofTry ok
  have gr2 : ∀ b o, s1.heap.get? b = some o → b ∉ frs (X.env :: X.outer) → B.get? b = some o := fun b o e n => gr b o e (by rw [show (X.tr (X.pn ++ pins) xe).stack = X.env :: X.outer from st]; exact n)
  have air2 : Sky B (X.env :: X.outer) a (Zc cls d) X.env.locals s.heap := by
    have y : Sky B X.stack a (Zc cls d) X.env.locals s.heap := air
    rw [st] at y; exact y
  refine air2.land Zc.steady (by rw [ok.frames, st]) fr fun h f u1 => q a cls d σ H B h eu w ?_
  obtain ⟨o, vs, ho, _, hd⟩ := f.there
  have nf := not_frame f.2.2.1 ho hd
  have away : ∀ o2, s1.heap.get? a ≠ some o2 := fun o2 e => by
    have y := gr2 a o2 e nf
    rw [f.2.1] at y; cases y
  refine ⟨f, fun h2 f2 u2 => ?_, na, fun e => nf ?_, fun m => nf ?_, ?_, fun p m e => ?_⟩
  · exact i2.landed (s' := { s with heap := h2 }) (fun b o e n => gr b o e n) f2.1 ((ut.trans u1).trans u2) eo bare
  · exact List.mem_filterMap.mpr ⟨X.env, List.mem_cons_self, by rw [fr, e]⟩
  · obtain ⟨v, m1, m2⟩ := List.mem_filterMap.mp m
    exact List.mem_filterMap.mpr ⟨v, List.mem_cons_of_mem _ m1, m2⟩
  · cases e : X.s_0.heap.get? a with
    | none => rfl
    | some o2 =>
      obtain ⟨o3, y⟩ := i2.base.there a o2 e (by rw [ex0]; exact fun z => nomatch z)
      exact absurd y (away o3)
  · exact away p.2 (by rw [← e]; exact (i2.pin p m).1)
end
def wTrk (K : PySem.W.Frag) (c : Value) (i : Nat) (ts : Addr → TS) (D : Ends) : WX := fun cls d σ H =>
  PySem.W.exmOne K cls c = some true ∧ ∀ a, H a = none → ts a ⟨fun s2 H2 => D.nx (s2.set i none) H2, D.rt, fun s2 H2 => D.bk (s2.set i none) H2, fun s2 H2 => D.ct (s2.set i none) H2⟩ (σ.set i (some (.ref a))) (upd H a (Bx.CxO cls d a))
section
variable {X : Cx} {x n : Str} {c : Value} {i : Nat} {body more : List Stmt} {b0 : Stmt} {p1 p2 p3 : Pos} {tb : WX → TS} {ts : Addr → TS}
theorem ps_trk (st : X.stack = X.env :: X.outer) (fr : X.env.frame = some X.env.locals) (ex0 : X.ex = []) (nd : X.N.Nodup) (ni : X.N[i]? = some n) (nk : X.env.kindOf n = some .local) (cg : Gl X x) (cm : X.mg x = some c) (cd : (x == ("__debug__" : Str)) = false)
    (hb : ∀ (W : WX) pn xe, Takes (X.tr pn xe) W → PassesOwn (model X.prog X.w) X.A X.env xe → PSs (X.tr pn xe) body (tb W))
    (hs : ∀ (a : Addr) (pn : List (Addr × Obj)), PSs (X.suite a pn) (b0 :: more) (ts a)) :
    PS X (.Try body [.ExceptHandler (some (.Name x p1)) (some n) (b0 :: more) p2] [] [] p3) (fun D σ H => tb (wTrk X.K c i ts D) D σ H) := by
  refine ⟨fun pins s σ H D I w => wpAny_Try_except ?_⟩
  have ok := I.ok
  have B1 := (hb (wTrk X.K c i ts D) (X.pn ++ pins) _ (fun u s2 z => down_of (pins := pins) (Q := fun _ s3 => wpAny (model X.prog X.w) X.A (handleBy u X.env [.ExceptHandler (some (.Name x p1)) (some n) (b0 :: more) p2]) (SP X pins D) X.xe s3) (E1 := X.xe) ok st fr ex0 z ?_) .looking).run [] s σ H D (I.toTry _) w
  · refine wpAny_mono B1 (fun f s2 z => ?_) fun _ _ z => z
    match f, z with
    | .next, ⟨σ2, H2, J, q⟩ => exact wpAny_execs_nil ⟨σ2, H2, J.ofTry ok, q⟩
    | .brk, ⟨σ2, H2, J, q⟩ => exact ⟨σ2, H2, J.ofTry ok, q⟩
    | .cont, ⟨σ2, H2, J, q⟩ => exact ⟨σ2, H2, J.ofTry ok, q⟩
    | .ret u, ⟨v, σ2, H2, J, r, q⟩ => exact ⟨v, σ2, H2, J.ofTry ok, r, q⟩
  intro a cls d σ1 H1 B h eu ⟨w1, w2⟩ l
  subst eu
  obtain ⟨o, vs, ho, hz, hd⟩ := l.obj
  refine wpAny_handleBy_cons (codeAny_handlers_test ?_) (fun z => nomatch z)
  have named := PySem.W.exm_one (M := model X.prog X.w) l.inv.kIn (fun A Q E s2 k q => wpAny_typeOf_ref (k a o ho) (by rw [hz.1]; exact q)) w1
  have look := l.inv.suite ho hd l.na l.nL l.nF
  refine ld_glob (X := X.suite a ((a, o) :: (X.pn ++ pins))) look cg cm (named.here ?_) cd
  refine codeAny_handlers_suite_as (HandSPX.lands_againZ l.fl fun h2 f2 u2 => ?_)
  have T := ((l.next f2 u2).trk).toSuite a
  refine store_ok (X := X.suite a (X.pn ++ pins)) (v := .ref a) T nd ni (.inl nk) rfl (fun s3 T3 => ?_) (.inr nk)
  refine wpAny_mono ((hs a (X.pn ++ pins)).run [] s3 _ _ _ T3 (w2 a l.na)) (fun f s4 z => ?_) fun _ _ z => z.elim
  have bye : ∀ {σ4 : St} {H4 : Hp} {Q : Shared → Prop}, Inv (X.suite a (X.pn ++ pins)) [] σ4 H4 s4 → (∀ s5, Inv X pins (σ4.set i none) H4 s5 → Q s5) → wpAny (model X.prog X.w) X.A (do bindName X.env n .none; unbindBehindTheSuite X.env n p2) (fun _ s5 => Q s5) X.xe s4 :=
    fun J q => gone_ok (J.ofSuite ok) nd ni nk q
  match f, z with
  | .next, ⟨_, _, J, q⟩ => exact bye J fun s5 J5 => ⟨_, _, J5, q⟩
  | .brk, ⟨_, _, J, q⟩ => exact bye J fun s5 J5 => ⟨_, _, J5, q⟩
  | .cont, ⟨_, _, J, q⟩ => exact bye J fun s5 J5 => ⟨_, _, J5, q⟩
  | .ret u, ⟨_, _, _, J, r, q⟩ => exact bye J fun s5 J5 => ⟨_, _, _, J5, r, q⟩
end
end L2
namespace Bx
variable [TabC]
open PySem PySem.Spec PyProof.Rows L2
theorem u_frz_exc {c : Str} {r : Option Int} : (D.exc c r).frz = .exc c r := rfl
inductive XV (K : PySem.W.Frag) : Value → Option Addr → D → Prop
  | exc {C : Addr} {c : Str} : ExcF K c C → XV K (.ref C) none (.exc c none)
def RelX (K : PySem.W.Frag) (ios : List Nat) (W : WX) (ρ0 : Rho) (σ0 : L2.St) (H0 : Hp) (O0 : Addr → Prop) (x : D → Rho → Prop) : Prop :=
  ∀ ρ σ H O cls d e, Stp K ios ρ0 σ0 H0 O0 ρ σ H O → XV K cls d e → x e ρ → W cls d σ H
theorem RelX.step {K : PySem.W.Frag} {ios : List Nat} {W : WX} {ρ0 ρ1 : Rho} {σ0 σ1 : L2.St} {H0 H1 : Hp} {O0 O1 : Addr → Prop} {x : D → Rho → Prop} (r : RelX K ios W ρ0 σ0 H0 O0 x) (s : Stp K ios ρ0 σ0 H0 O0 ρ1 σ1 H1 O1) : RelX K ios W ρ1 σ1 H1 O1 x :=
  fun ρ σ H O cls d e t => r ρ σ H O cls d e (s.trans t)
abbrev DX := (D → Rho → Prop) → (D → Rho → Prop) → Rho → Prop
def SX (X : Cx) (ios : List Nat) (W : WX) (e : Expr) (w : DX) : Prop :=
  ∃ t, PE X e t ∧ ∀ (σ : L2.St) (H : Hp) (ρ : Rho) (O : Addr → Prop) (k : D → Rho → Prop) (x : D → Rho → Prop) (R : VK), Sr X.K ρ σ H O → RelX X.K ios W ρ σ H O x → w k x ρ →
    (∀ v H' ρ' O' d, After X.K ρ σ H O ρ' H' O' → VOk X.K H H' O' v d → k d ρ' → R v H') → t σ H R
def SSX (X : Cx) (ios : List Nat) (W : WX) (st : Stmt) (w : DS) : Prop :=
  ∃ t, PS X st t ∧ ∀ (σ : L2.St) (H : Hp) (ρ : Rho) (O : Addr → Prop) (D : Ends) (E : DEnds), Sr X.K ρ σ H O → RelE X.K ios ρ σ H O D E → RelX X.K ios W ρ σ H O E.ex → w E ρ → t D σ H
def SSsX (X : Cx) (ios : List Nat) (W : WX) (st : List Stmt) (w : DS) : Prop :=
  ∃ t, PSs X st t ∧ ∀ (σ : L2.St) (H : Hp) (ρ : Rho) (O : Addr → Prop) (D : Ends) (E : DEnds), Sr X.K ρ σ H O → RelE X.K ios ρ σ H O D E → RelX X.K ios W ρ σ H O E.ex → w E ρ → t D σ H
def tSX (K : PySem.W.Frag) (ios : List Nat) (W : WX) (w : DS) : TS := fun D σ H => ∃ ρ O E, Sr K ρ σ H O ∧ RelE K ios ρ σ H O D E ∧ RelX K ios W ρ σ H O E.ex ∧ w E ρ
def tSS (K : PySem.W.Frag) (ios : List Nat) (w : DS) : TS := fun D σ H => ∃ ρ O E, Sr K ρ σ H O ∧ RelE K ios ρ σ H O D E ∧ w E ρ
section
variable {X : Cx} {ios : List Nat} {W : WX} {st : Stmt} {rest : List Stmt} {e : Expr} {pos : Pos} {w u : DS}
theorem SSsX.ps (h : SSsX X ios W rest w) : PSs X rest (tSX X.K ios W w) := by
  obtain ⟨t, p, f⟩ := h
  exact ⟨fun pins s σ H D I ⟨ρ, O, E, sr, r, x, hw⟩ => p.run pins s σ H D I (f σ H ρ O D E sr r x hw)⟩
theorem SSs.ps (h : SSs X ios rest w) : PSs X rest (tSS X.K ios w) := by
  obtain ⟨t, p, f⟩ := h
  exact ⟨fun pins s σ H D I ⟨ρ, O, E, sr, r, hw⟩ => p.run pins s σ H D I (f σ H ρ O D E sr r hw)⟩
theorem ssX_lift (h : SS X ios st w) : SSX X ios W st w := by
  obtain ⟨t, p, f⟩ := h
  exact ⟨t, p, fun σ H ρ O D E s r _ hw => f σ H ρ O D E s r hw⟩
theorem sssX_lift (h : SSs X ios rest w) : SSsX X ios W rest w := by
  obtain ⟨t, p, f⟩ := h
  exact ⟨t, p, fun σ H ρ O D E s r _ hw => f σ H ρ O D E s r hw⟩
theorem sssX_one (h : SSX X ios W st w) : SSsX X ios W [st] w := by
  obtain ⟨t, p, f⟩ := h
  exact ⟨_, pss_one p, f⟩
theorem sssX_cons (h1 : SSX X ios W st w) (h2 : SSsX X ios W rest u) : SSsX X ios W (st :: rest) (dSeq w u) := by
  obtain ⟨t1, p1, f1⟩ := h1
  obtain ⟨t2, p2, f2⟩ := h2
  refine ⟨_, pss_cons p1 p2, fun σ H ρ O D E s r x h => ?_⟩
  refine f1 σ H ρ O _ ⟨u E, E.rt, E.bk, E.ct, E.ex⟩ s ⟨fun ρ1 σ1 H1 O1 t q => ?_, r.bk, r.ct, r.rt⟩ x h
  exact f2 σ1 H1 ρ1 O1 D E t.sr (r.step t) (x.step t) q
theorem ssX_if {c : Expr} {a b : List Stmt} {t : DT} (hc : ST X c t) (ha : SSsX X ios W a w) (hb : SSsX X ios W b u) : SSX X ios W (.If c a b pos) (dIfS t w u) := by
  obtain ⟨t, p, f⟩ := hc
  obtain ⟨t1, p1, f1⟩ := ha
  obtain ⟨t2, p2, f2⟩ := hb
  refine ⟨_, ps_if p p1 p2, fun σ H ρ O D E s r x h => ?_⟩
  refine f σ H ρ O _ _ s h fun b H' ρ' O' a hk => ?_
  cases b with
  | true => exact iteT (f1 σ H' ρ' O' D E a.sr (r.step a.stp) (x.step a.stp) hk)
  | false => exact iteF (f2 σ H' ρ' O' D E a.sr (r.step a.stp) (x.step a.stp) hk)
def dExpX (w : DX) (E : DEnds) (ρ : Rho) : Prop := w (kExp E.nx) E.ex ρ
def dAsgX (i : Nat) (w : DX) (E : DEnds) (ρ : Rho) : Prop := w (kAsg i E.nx) E.ex ρ
def dRetX (w : DX) (E : DEnds) (ρ : Rho) : Prop := w E.rt E.ex ρ
def dRaise (c : Str) (E : DEnds) (ρ : Rho) : Prop := E.ex (.exc c none) ρ
theorem ssX_expr {w : DX} (h : SX X ios W e w) (hs : swapsWith e none pos.line X.env = pure false := by rfl) : SSX X ios W (.Expr e pos) (dExpX w) := by
  obtain ⟨t, p, f⟩ := h
  refine ⟨_, ps_expr p hs, fun σ H ρ O D E s r x h => ?_⟩
  exact f σ H ρ O _ _ _ s x h fun v H' ρ' O' d a _ hk => r.nx _ _ _ _ a.stp hk
theorem ssX_set {i : Nat} {y : Str} {w : DX} {pos' : Pos} (hN : X.N.Nodup) (hi : X.N[i]? = some y) (hx : Loc X.env.scope y) (h : SX X ios W e w) (hio : i ∉ ios := by decide) (hs : swapsWith e (some (.Name y pos')) pos.line X.env = pure false := by rfl) (hf : X.fn y = true ∨ X.env.scope.names.lookup y = some .local := by first | exact .inl rfl | exact .inr rfl | assumption) :
    SSX X ios W (.Assign [.Name y pos'] e pos) (dAsgX i w) := by
  obtain ⟨t, p, f⟩ := h
  refine ⟨_, ps_set hN hi hx p hs hf, fun σ H ρ O D E s r x h => ?_⟩
  exact f σ H ρ O _ _ _ s x h fun v H' ρ' O' d a vo hk => r.nx _ _ _ _ (a.store s vo hio) hk
structure RaisF (K : PySem.W.Frag) (c : Str) (C : Addr) : Prop where
  xf : ExcF K c C
  q : PySem.W.excIn K C [.type "ValueError", .type "Exception", .type "BaseException", .type "object"] "ValueError.__new__" = true
  kp : PySem.W.keepIn K (.ref C) = true
  ty : PySem.W.typeIn K (.ref C) = some (.type "type")
theorem ssX_raise {c m : Str} {C : Addr} {j : Nat} {p1 p2 p3 p4 : Pos} (hc : X.calm = true) (tk : Takes X W) (F : RaisF X.K c C) (gC : X.mg c = some (.ref C)) (hg : Gl X c) (hdb : (c == ("__debug__" : Str)) = false := by decide) :
    SSX X ios W (.Raise (some (.Call (.Name c p1) [.Constant (.str m) j p2] [] p3)) none p4) (dRaise c) := by
  refine ⟨_, ps_raise hc tk (pmk_own PySem.F.excBase_ValueError F.q gC F.kp (raises_own F.xf.is.hs F.ty) hg hdb), fun σ H ρ O D E s r x h => ?_⟩
  exact x ρ σ H O _ _ _ (.refl s) (.exc F.xf) h
end
abbrev PSpecX := List D → (D → List D → Prop) → (D → List D → Prop) → Prop
abbrev pX (W : PSpecX) : PSpec := fun ds Q => W ds Q fun _ _ => False
def endsX (ios : List Nat) (P Z : D → List D → Prop) : DEnds :=
  ⟨fun ρ => onSome (outsOf ios ρ) (P .non), fun d ρ => onSome (outsOf ios ρ) (P d), fun _ => False, fun _ => False, fun e ρ => onSome (outsOf ios ρ) (Z e)⟩
def bodyX (ios : List Nat) (n m : Nat) (b : DS) : PSpecX := fun ds P Z => ds.length = m ∧ b (endsX ios P Z) (initR n ds)
def spX (K : PySem.W.Frag) (ios : List Nat) (W : PSpecX) : Sp := fun vs H Q E => ∃ (ds : List D) (O : Addr → Prop) (P Z : D → List D → Prop), Sr K (ds.map some) (vs.map some) H O ∧ (∀ k d, ds[k]? = some d → d.own = true → k ∈ ios) ∧ W ds P Z ∧
  (∀ v H' O' d outs, Ext (Sl (ds.map some) (vs.map some)) H O H' O' → Own H' O' → VOk K H H' O' v d → OutOk K H (Sl (ds.map some) (vs.map some)) H' O' vs ios outs → P d outs → Q v H') ∧
  (∀ H' O' cls dx e outs, Ext (Sl (ds.map some) (vs.map some)) H O H' O' → Own H' O' → XV K cls dx e → OutOk K H (Sl (ds.map some) (vs.map some)) H' O' vs ios outs → Z e outs → E cls dx H')
structure FnX (P : Program) (w : World) (K : PySem.W.Frag) (mg : Str → Option Value) (base : Heap) (k : Nat) (f : Addr) (fd : FuncData) (ps : List Str) (sp : Sp) : Prop where
  len : ∀ vs H Q E, sp vs H Q E → vs.length = ps.length
  run : ∀ (A : Around) (outer : List Env) (s : Shared) (H : Hp) (args : Args) (us : List Value) (vs : List V) (Q : VK) (E : XK), RoomG k A → Env0 P w K mg base A outer s H → BindsTo s fd args (ps.zip us) → Vals vs us → sp vs H Q E →
    codeAny (model P w) A (.call (.ref f) args) (CR (L2.CX P w) outer P w H s Q E) s
section
variable {P : Program} {w : World} {K : PySem.W.Frag} {mg : Str → Option Value} {base : Heap}
theorem FnX.plain {k : Nat} {f : Addr} {fd : FuncData} {ps : List Str} {ios : List Nat} {W : PSpecX} (F : FnX P w K mg base k f fd ps (spX K ios W)) : FnG P w K mg base k f fd ps (spD K ios (pX W)) := by
  have up : ∀ vs H Q E, spD K ios (pX W) vs H Q E → spX K ios W vs H Q E0 := fun vs H Q E ⟨ds, O, Pd, s, hi, hw, q⟩ => ⟨ds, O, Pd, _, s, hi, hw, q, fun _ _ _ _ _ _ _ _ _ _ z => z.elim⟩
  refine ⟨fun vs H Q E h => F.len vs H Q E0 (up vs H Q E h), fun A outer s H args us vs Q E hr e0 hb rv h => ?_⟩
  refine codeAny_mono (F.run A outer s H args us vs Q E0 hr e0 hb rv (up vs H Q E h)) fun r s' z => ?_
  match r, z with
  | .ok (.ret _), z => exact z
  | .ok .next, z => exact z
  | .ok .brk, z => exact z
  | .ok .cont, z => exact z
  | .error _, ⟨_, _, _, _, _, _, _, _, _, _, _, _, q⟩ => exact False.elim q
abbrev xX (P : Program) (w : World) (K : PySem.W.Frag) (mg : Str → Option Value) (base : Heap) (N : List Str) (qual : Str) (scope : Scope) (f : Addr) (cdv : Value) (A : Around) (outer : List Env) (s : Shared) (H : Hp) (E : XK) : Cx := cxOf (L2.CX P w) P w K mg base N qual scope f cdv A outer s H E
theorem finX_ok {K : PySem.W.Frag} {ios : List Nat} {N : List Str} {vs : List V} {ds : List D} {H : Hp} {O : Addr → Prop} {Z : D → List D → Prop} {E : XK}
    (q : ∀ H' O' cls dx e outs, Ext (Sl (ds.map some) (vs.map some)) H O H' O' → Own H' O' → XV K cls dx e → OutOk K H (Sl (ds.map some) (vs.map some)) H' O' vs ios outs → Z e outs → E cls dx H') :
    RelX K ios (fun cls d _ H => E cls d H) (initR N.length ds) (L2.start N vs) H O fun e ρ => onSome (outsOf ios ρ) (Z e) := by
  intro ρ σ H' O' cls d e st xv h
  have h0 : ∀ (i : Nat) (v : V), (L2.start N vs)[i]? = some (some v) → vs[i]? = some v := fun i v e => by
    obtain ⟨a, h1, h2⟩ := getmap (start_get.mp e)
    cases h2; exact h1
  obtain ⟨outs, eo, h⟩ := h.ex
  exact q H' O' cls d e outs (st.ext.mono fun a z => init_sl.mp z) st.sr.own xv (outs_ok st.sr (fun a z => (st.olds a z).imp id init_sl.mp) h0 st.io eo) h
theorem fnX {x qual : Str} {st : Stmt} {f : Addr} {fd : FuncData} {N ps : List Str} {k : Nat} {ios : List Nat} {b : DS} {W : PSpecX} (F : Fun K x qual st f fd) (S : FnScope N ps (defScope st))
    (hb : ∀ (cdv : Value) (A : Around) (outer : List Env) (s : Shared) (H : Hp) (E : XK), RoomG k (A.deeper (envOfC qual (defScope st) s.heap.objs.size f cdv)) → SSsX (xX P w K mg base N qual (defScope st) f cdv A outer s H E) ios (fun cls d _ H => E cls d H) (defBody st) b)
    (hW : ∀ ds Q Z, W ds Q Z → bodyX ios N.length ps.length b ds Q Z) : FnX P w K mg base (k + 1) f fd ps (spX K ios W) := by
  have len : ∀ vs H Q E, spX K ios W vs H Q E → vs.length = ps.length := fun vs H Q E ⟨ds, O, Pd, Z, sr, _, h, _, _⟩ => by
    have l := (hW _ _ _ h).1
    have := sr.len
    simp at this
    omega
  obtain ⟨oc, od, kV, doc, pm, an, cdv, ct, osl, rfl, lk, hcd⟩ := F.ex
  refine ⟨len, fun A outer s H args us vs Q E hr e0 hbd rv hsp => ?_⟩
  have heap0 : K.In s.heap := e0.mod.kin.keeps fun b o e => (e0.bs b o e).1
  have hl := len _ _ _ _ hsp
  obtain ⟨ds, O, Pd, Z, sr, hio, h, q, qx⟩ := hsp
  obtain ⟨t, pt, g⟩ := hb cdv A outer s H E (hr.deeper _)
  have s0 := init_sr (N := N) sr
  have fin := fun ρ σ H' O' v d => fin_ok (N := N) hio q ρ σ H' O' v d
  have ht := g (L2.start N vs) H (initR N.length ds) O { nx := fun _ H' => Q .non H', rt := Q } (endsX ios Pd Z) s0 ⟨fun ρ σ H' O' st h => fin ρ σ H' O' .non .non st (.rep .non) (fun e => by cases e) h, fun _ _ _ _ _ z => False.elim z, fun _ _ _ _ _ z => False.elim z, fun ρ σ H' O' v d st vo n h => fin ρ σ H' O' v d st vo n h⟩ (finX_ok qx) (hW _ _ _ h).2
  refine codeAny_call_function hr.rm.depth (heap0 _ _ lk) rfl S.co S.gen rfl (PySem.W.codeRec_of heap0 hcd) (hbd _ _ _ _ (wpAny_newFunctionEnv_cells S.kind (fun z hz => ?_) fun env he s1 y => ?_))
  · obtain ⟨n, v⟩ := z
    rcases S.par n (List.of_mem_zip hz).1 with g | g
    · exact .inl g
    · exact .inr ⟨g, PySem.W.cellsFrom_some _ _ _ (.inl g)⟩
  · cases he
    refine ⟨(e0.mod.nolimit.keeps fun b o e => (e0.bs b o e).1).keeps y.toInCall.keep, codeAny_func (wpAny_mono (pt.run [] s1 (L2.start N vs) H _ (inv_start S hr.rm.hd e0 hl rv y) ht) (fun fl s' h => ?_) (fun e s' h => h))⟩
    match fl, h with
    | .next, ⟨_, H', J, q⟩ => exact ⟨.non, H', J.os, J.bare, J.base, J.hok, rfl, q⟩
    | .ret u, ⟨v, _, H', J, rv, q⟩ => exact ⟨v, H', J.os, J.bare, J.base, J.hok, rv, q⟩
    | .brk, ⟨_, _, _, q⟩ => exact q.elim
    | .cont, ⟨_, _, _, q⟩ => exact q.elim
end
section
variable {X : Cx} {ios : List Nat} {W : WX} {e : Expr} {es : List Expr} {y : Str} {p pos : Pos} {k : Nat} {f : Addr} {fd : FuncData} {ps : List Str} {C : PSpecX}
def kRaz (x : D → Rho → Prop) (ρ : Rho) (e : D) (_ : List D) : Prop := x e ρ
def kCallX (C : PSpecX) (k x : D → Rho → Prop) (ds : List D) (ρ : Rho) : Prop := C ds (kRet k ρ) (kRaz x ρ)
def dCallX (C : PSpecX) (w : DA) (k x : D → Rho → Prop) (ρ : Rho) : Prop := w (kTake (kCallX C k x)) ρ
theorem pe_callX {sp : Sp} {t : TA} (F : FnX X.prog X.w X.K X.mg X.base k f fd ps sp) (hr : RoomG k X.A) (tk : Takes X W) (hg : Gl X y) (hm : X.mg y = some (.ref f)) (hk : PySem.W.keepIn X.K (.ref f) = true) (hb : Binds X.K fd ps [])
    (ha : PA X (e :: es) t) (hdb : (y == ("__debug__" : Str)) = false := by decide) (he : starEach (e :: es) X.env = (false, eval e X.env) :: starEach es X.env := by rfl) (hpl : (backTo pos (starEach es X.env)).any (·.1) = false := by rfl) :
    PE X (.Call (.Name y p) (e :: es) [] pos) (tCallS sp (fun σ => WE W σ) t) := by
  refine ⟨fun pins s σ H Q I h => wpAny_Call_Name_kw (ld_glob I hg hm (PySem.W.callWith_K (h₀ := X.base) I.ok.mod.kin hk (thn (ha.run pos pins s σ H _ I h) fun us s1 ⟨vs, H1, I1, r, q⟩ => ⟨I1.kIn, ?_⟩) he hpl) hdb)⟩
  have hl : us.length = ps.length := by rw [← r.length]; exact F.len _ _ _ _ q
  have b := hb s1 us I1.kIn (by rw [List.append_nil]; exact hl)
  rw [List.append_nil] at b
  refine wpAny_call (codeAny_mono (F.run X.A X.stack s1 H1 ⟨us, []⟩ us vs Q (WE W σ) hr I1.env0 b r q) fun r s' z => ?_)
  match r, z with
  | .error e, z => exact passAt tk σ pins H1 s1 e s' I1 z
  | .ok (.ret _), z => exact I1.after z
  | .ok .next, z => exact z.elim
  | .ok .brk, z => exact z.elim
  | .ok .cont, z => exact z.elim
theorem sx_call {w : DA} (F : FnX X.prog X.w X.K X.mg X.base k f fd ps (spX X.K [] C)) (hr : RoomG k X.A) (tk : Takes X W) (hg : Gl X y) (hm : X.mg y = some (.ref f)) (hk : PySem.W.keepIn X.K (.ref f) = true) (hb : Binds X.K fd ps [])
    (ha : SA X (e :: es) w) (hdb : (y == ("__debug__" : Str)) = false := by decide) (he : starEach (e :: es) X.env = (false, eval e X.env) :: starEach es X.env := by rfl) (hpl : (backTo pos (starEach es X.env)).any (·.1) = false := by rfl) :
    SX X ios W (.Call (.Name y p) (e :: es) [] pos) (dCallX C w) := by
  obtain ⟨t, pt, f⟩ := ha
  refine ⟨_, pe_callX F hr tk hg hm hk hb pt hdb he hpl, fun σ H ρ O k x R s xr hw q => ?_⟩
  refine f σ H ρ O _ _ s hw fun vs H1 ρ1 O1 os a c _ hk => ?_
  obtain ⟨ds, ρ2, O2, l, a2, r, hk⟩ := take_ok s c (fun _ z => z) a hk
  obtain ⟨sr, nsl⟩ := sr_reps a2.sr.own a2.sr.tab r
  refine ⟨ds, O2, _, _, sr, fun i xs h ho => ?_, hk, fun v H' O' d outs e own vo _ h => ?_, fun H' O' cls dx e outs ex own xv _ h => ?_⟩
  · obtain ⟨v, _, q⟩ := r.get h
    rw [q.nown] at ho; cases ho
  · have e0 : Ext no H1 O2 H' O' := e.mono fun b z => nsl b z
    exact q v H' ρ2 O' d (a2.trans (a2.sr.ext0 e0 own)) (vo.back a2.back) h
  · have e0 : Ext no H1 O2 H' O' := ex.mono fun b z => nsl b z
    exact xr ρ2 σ H' O' cls dx e (a2.trans (a2.sr.ext0 e0 own)).stp xv h
end
def xin (ms : List Str) : D → Prop
  | .exc c none => ms.contains c = true
  | _ => False
def kTryX (ms : List Str) (i : Nat) (ws : DS) (E : DEnds) (e : D) (ρ : Rho) : Prop := xin ms e ∧ ws ⟨fun r => E.nx (rset r i none), E.rt, fun r => E.bk (rset r i none), fun r => E.ct (rset r i none), fun _ _ => False⟩ (rset ρ i (some e))
def dTry (ms : List Str) (i : Nat) (wb ws : DS) (E : DEnds) (ρ : Rho) : Prop := wb ⟨E.nx, E.rt, E.bk, E.ct, kTryX ms i ws E⟩ ρ
theorem Stp.del {K : PySem.W.Frag} {ios : List Nat} {ρ : Rho} {σ : L2.St} {H : Hp} {O : Addr → Prop} {i : Nat} (s : Sr K ρ σ H O) (hi : i ∉ ios) : Stp K ios ρ σ H O (rset ρ i none) (σ.set i none) H O := by
  have at_ : ∀ {j : Nat} {d : D}, (rset ρ i none)[j]? = some (some d) → j ≠ i ∧ ρ[j]? = some (some d) ∧ (σ.set i none)[j]? = σ[j]? := fun {j d} h => by
    rcases get_rset h with ⟨_, e, _⟩ | ⟨n, h⟩
    · cases e
    · exact ⟨n, h, List.getElem?_set_ne (Ne.symm n)⟩
  have sl0 : ∀ (j : Nat) (c : Addr), Sl0 (rset ρ i none) (σ.set i none) (j, c) → Sl0 ρ σ (j, c) := fun j c ⟨xs, w, h1, ho, h2, hp⟩ => by
    obtain ⟨_, g1, g2⟩ := at_ h1
    exact ⟨xs, w, g1, ho, g2 ▸ h2, hp⟩
  refine ⟨⟨by rw [rset_len, List.length_set]; exact s.len, fun j d h => ?_, fun j k xs ys v w a h1 o1 h2 o2 h3 h4 h5 h6 => ?_, s.own, s.tab⟩, fun a u hu n _ => ⟨hu, Iff.rfl, fun ⟨j, z⟩ => n (sl0 j a z).sl⟩, fun a u hu n z => n (sl0 a.1 a.2 z), fun a u hu => ⟨u, hu⟩, fun j hj => List.getElem?_set_ne (fun e => hi (by rw [e]; exact hj)), .refl⟩
  · obtain ⟨_, g1, g2⟩ := at_ h
    obtain ⟨v, q1, q2⟩ := s.slot j d g1
    exact ⟨v, g2 ▸ q1, q2⟩
  · obtain ⟨_, g1, g2⟩ := at_ h1
    obtain ⟨_, g3, g4⟩ := at_ h2
    exact s.uniq j k xs ys v w a g1 o1 g3 o2 (g2 ▸ h3) (g4 ▸ h4) h5 h6
section
variable {X : Cx} {ios : List Nat} {y n : Str} {c : Value} {i : Nat} {body more : List Stmt} {b0 : Stmt} {p1 p2 p3 : Pos} {wb ws : DS} {ms : List Str}
theorem ss_try (st : X.stack = X.env :: X.outer) (fr : X.env.frame = some X.env.locals) (ex0 : X.ex = []) (nd : X.N.Nodup) (ni : X.N[i]? = some n) (nk : X.env.kindOf n = some .local) (cg : Gl X y) (cm : X.mg y = some c) (cd : (y == ("__debug__" : Str)) = false)
    (hm : ∀ z ∈ ms, ∃ C, PySem.W.nsIn X.K mainGlobals z = some (some (.ref C)) ∧ PySem.W.exmOne X.K (.ref C) c = some true)
    (hb : ∀ (W : WX) (pn : List (Addr × Obj)) (xe : Value → Shared → Prop), Takes (X.tr pn xe) W → PassesOwn (model X.prog X.w) X.A X.env xe → SSsX (X.tr pn xe) ios W body wb)
    (hs : ∀ (a : Addr) (pn : List (Addr × Obj)), SSs (X.suite a pn) ios (b0 :: more) ws) (hio : i ∉ ios := by decide) :
    SS X ios (.Try body [.ExceptHandler (some (.Name y p1)) (some n) (b0 :: more) p2] [] [] p3) (dTry ms i wb ws) := by
  refine ⟨_, ps_trk (tb := fun W => tSX X.K ios W wb) (ts := fun _ => tSS X.K ios ws) st fr ex0 nd ni nk cg cm cd (fun W pn xe tk po => (hb W pn xe tk po).ps) (fun a pn => (hs a pn).ps), fun σ H ρ O D E s r h => ?_⟩
  refine ⟨ρ, O, ⟨E.nx, E.rt, E.bk, E.ct, kTryX ms i ws E⟩, s, ⟨r.nx, r.bk, r.ct, r.rt⟩, fun ρ1 σ1 H1 O1 cls d e st1 xv h1 => ?_, h⟩
  obtain ⟨h1, h2⟩ := h1
  cases xv with
  | @exc C z F =>
    obtain ⟨C', e1, e2⟩ := hm z (List.contains_iff_mem.mp h1)
    have eC : C' = C := by
      have := e1.symm.trans F.cl
      cases this; rfl
    subst eC
    refine ⟨e2, fun a na => ?_⟩
    have a1 : After X.K ρ1 σ1 H1 O1 ρ1 (upd H1 a (CxO (.ref C') none a)) O1 := st1.sr.ext0 (ext_new (o := CxO (.ref C') none a) na) (own_new st1.sr.own na)
    have st2 := st1.trans (a1.store (ios := ios) (i := i) st1.sr (VOk.rep (.exc upd_same F)) hio)
    have r2 := r.step st2
    refine ⟨_, O1, ⟨fun r => E.nx (rset r i none), E.rt, fun r => E.bk (rset r i none), fun r => E.ct (rset r i none), fun _ _ => False⟩, st2.sr, ⟨fun ρ3 σ3 H3 O3 t q => ?_, fun ρ3 σ3 H3 O3 t q => ?_, fun ρ3 σ3 H3 O3 t q => ?_, r2.rt⟩, h2⟩
    · exact r2.nx _ _ _ _ (t.trans (.del t.sr hio)) q
    · exact r2.bk _ _ _ _ (t.trans (.del t.sr hio)) q
    · exact r2.ct _ _ _ _ (t.trans (.del t.sr hio)) q
end
section
variable {X : Cx} {e : Expr} {p pos : Pos}
def xOf (tb : List (Str × Bool)) : D → Option Bool
  | .exc c none => tb.lookup c
  | _ => none
def kIsX (tb : List (Str × Bool)) (k : D → Rho → Prop) (x : DOp) (ρ : Rho) : Prop := onSome (rd ρ x) fun d => onSome (xOf tb d) fun b => k (.bl b) ρ
def dIsX (tb : List (Str × Bool)) (o : DO) (k : D → Rho → Prop) (ρ : Rho) : Prop := o (kIsX tb k) ρ
inductive CNm (X : Cx) : List Expr → List V → List Value → Prop
  | nil : CNm X [] [] []
  | own {y : Str} {py : Pos} {C : Addr} {es : List Expr} {vs : List V} {us : List Value} (hg : Gl X y) (hm : X.mg y = some (.ref C)) (hd : (y == ("__debug__" : Str)) = false) (hs : starEach (.Name y py :: es) X.env = (false, eval (.Name y py) X.env) :: starEach es X.env) (r : CNm X es vs us) : CNm X (.Name y py :: es) (.ref C :: vs) (.ref C :: us)
theorem CNm.par {es : List Expr} {vs : List V} {us : List Value} (h : CNm X es vs us) : Paired ClsV vs us := by
  induction h with
  | nil => exact .nil
  | own _ _ _ _ _ ih => exact .cons (.own _) ih
def tCs (vs : List V) : TA := fun _ H Q => Q vs H
theorem CNm.pa {es : List Expr} {vs : List V} {us : List Value} (h : CNm X es vs us) : PA X es (tCs vs) := by
  induction h with
  | nil => exact pa_nil
  | own hg hm hd hs _ ih => exact pa_cons (pe_glob (v := .ref _) hg hm rfl hd) ih hs
def xFacts (K : PySem.W.Frag) (us : List Value) (tb : List (Str × Bool)) : Prop := ∀ z ∈ tb, ∃ C, PySem.W.nsIn K mainGlobals z.1 = some (some (.ref C)) ∧ PySem.W.kitAny K (.ref C) us = some z.2
theorem lookup_mem {c : Str} {b : Bool} : ∀ {tb : List (Str × Bool)}, tb.lookup c = some b → (c, b) ∈ tb
  | [], h => by cases h
  | (k, v) :: r, h => by
    rw [List.lookup_cons] at h
    cases e : c == k with
    | true =>
      rw [e] at h; cases h
      rw [eq_of_beq e]; exact List.mem_cons_self
    | false =>
      rw [e] at h
      exact List.mem_cons_of_mem _ (lookup_mem h)
theorem xOf_at {K : PySem.W.Frag} {H : Hp} {O : Addr → Prop} {v : V} {d : D} {us : List Value} {tb : List (Str × Bool)} {b : Bool} (h : Val K H O v d) (f : xFacts K us tb) (e : xOf tb d = some b) : ∃ a C, v = .ref a ∧ TyE K H (.ref a) (.ref C) ∧ PySem.W.kitAny K (.ref C) us = some b := by
  unfold xOf at e
  split at e
  · rename_i c
    cases h with
    | own _ _ r => cases r
    | rep r =>
      cases r with
      | @exc a C _ h F =>
        obtain ⟨C', e1, e2⟩ := f (c, b) (lookup_mem e)
        have eC : C' = C := by
          have := e1.symm.trans F.cl
          cases this; rfl
        subst eC
        exact ⟨a, C', rfl, .exc h F.is, e2⟩
  · cases e
theorem se_isX {y : Str} {w : DO} {py : Pos} {C : Addr} {tb : List (Str × Bool)} (hg : Gl X "isinstance") (hm : X.mg "isinstance" = none) (hgC : Gl X y) (hmC : X.mg y = some (.ref C)) (ft : xFacts X.K [.ref C] tb) (h : SO X e w) (hd : (y == ("__debug__" : Str)) = false := by decide)
    (he : starEach [e, .Name y py] X.env = (false, eval e X.env) :: starEach [.Name y py] X.env := by rfl) (he2 : starEach [.Name y py] X.env = (false, eval (.Name y py) X.env) :: starEach [] X.env := by rfl) (hpl : (backTo pos (starEach [.Name y py] X.env)).any (·.1) = false := by rfl) :
    SE X (.Call (.Name "isinstance" p) [e, .Name y py] [] pos) (dIsX tb w) := by
  obtain ⟨t, pe, f⟩ := h
  refine ⟨_, pe_callB call_isiE hg hm (by decide +kernel) (pa_cons pe (pa_cons (pe_glob (v := .ref C) hgC hmC rfl hd) pa_nil he2) he) (by decide) (by decide) he hpl, fun σ H ρ O k R s hw q => ?_⟩
  refine f σ H ρ O _ _ s hw fun v H1 ρ1 O1 o a1 c1 h1 => ?_
  obtain ⟨d, ed, h1⟩ := h1.ex
  obtain ⟨b, eb, h1⟩ := h1.ex
  obtain ⟨a, C', rfl, z1, z2⟩ := xOf_at (c1.val a1.sr ed) ft eb
  refine ⟨.ref a, .ref C, _, _, b, rfl, .own C, z1, ?_, q _ H1 ρ1 O1 _ a1 (.rep (.bl _)) h1⟩
  unfold PySem.W.kitAny at z2
  split at z2
  · rename_i z; rw [z]; exact z2
  · rename_i z
    rw [z]; exact z2
  · cases z2
theorem se_isXB {y : Str} {T : String} {w : DO} {py : Pos} {tb : List (Str × Bool)} (hg : Gl X "isinstance") (hm : X.mg "isinstance" = none) (hgC : Gl X y) (hmC : X.mg y = none) (hv : bootBuiltins y = some (.type T)) (ft : xFacts X.K [.type T] tb) (h : SO X e w) (hn : y ≠ "__name__" := by decide) (hd : (y == ("__debug__" : Str)) = false := by decide)
    (he : starEach [e, .Name y py] X.env = (false, eval e X.env) :: starEach [.Name y py] X.env := by rfl) (he2 : starEach [.Name y py] X.env = (false, eval (.Name y py) X.env) :: starEach [] X.env := by rfl) (hpl : (backTo pos (starEach [.Name y py] X.env)).any (·.1) = false := by rfl) :
    SE X (.Call (.Name "isinstance" p) [e, .Name y py] [] pos) (dIsX tb w) := by
  obtain ⟨t, pe, f⟩ := h
  refine ⟨_, pe_callB call_isiE hg hm (by decide +kernel) (pa_cons pe (pa_cons (pe_bltn (v := .ty T) hgC hmC hv rfl hn hd) pa_nil he2) he) (by decide) (by decide) he hpl, fun σ H ρ O k R s hw q => ?_⟩
  refine f σ H ρ O _ _ s hw fun v H1 ρ1 O1 o a1 c1 h1 => ?_
  obtain ⟨d, ed, h1⟩ := h1.ex
  obtain ⟨b, eb, h1⟩ := h1.ex
  obtain ⟨a, C', rfl, z1, z2⟩ := xOf_at (c1.val a1.sr ed) ft eb
  refine ⟨.ref a, .ty T, _, _, b, rfl, .ty T, z1, ?_, q _ H1 ρ1 O1 _ a1 (.rep (.bl _)) h1⟩
  unfold PySem.W.kitAny at z2
  split at z2
  · rename_i z; rw [z]; exact z2
  · rename_i z
    rw [z]; exact z2
  · cases z2
theorem se_isXT {w : DO} {es : List Expr} {us : List Value} {vs : List V} {x1 : Nat} {pp : Pos} {tb : List (Str × Bool)} (hg : Gl X "isinstance") (hm : X.mg "isinstance" = none) (cn : CNm X es vs us) (ft : xFacts X.K us tb) (hl : es.length ≤ 1000) (h : SO X e w)
    (he : starEach [e, .Tuple es x1 pp] X.env = (false, eval e X.env) :: starEach [.Tuple es x1 pp] X.env := by rfl) (he2 : starEach [.Tuple es x1 pp] X.env = (false, eval (.Tuple es x1 pp) X.env) :: starEach [] X.env := by rfl) (hpl : (backTo pos (starEach [.Tuple es x1 pp] X.env)).any (·.1) = false := by rfl) :
    SE X (.Call (.Name "isinstance" p) [e, .Tuple es x1 pp] [] pos) (dIsX tb w) := by
  obtain ⟨t, pe, f⟩ := h
  refine ⟨_, pe_callB call_isiTE hg hm (by decide +kernel) (pa_cons pe (pa_cons (pe_tup cn.pa) pa_nil he2) he) (by decide) (by decide) he hpl, fun σ H ρ O k R s hw q => ?_⟩
  refine f σ H ρ O _ _ s hw fun v H1 ρ1 O1 o a1 c1 h1 => ?_
  obtain ⟨d, ed, h1⟩ := h1.ex
  obtain ⟨b, eb, h1⟩ := h1.ex
  have ln : vs.length ≤ sizeLine := by
    refine le_line ?_
    clear ft
    have : ∀ {es : List Expr} {vs : List V} {us : List Value}, CNm X es vs us → vs.length = es.length := fun h => by
      induction h with
      | nil => rfl
      | own _ _ _ _ _ ih => rw [List.length_cons, List.length_cons, ih]
    rw [this cn]; exact hl
  refine ⟨ln, fun n hn => ?_⟩
  have a3 : After X.K ρ1 σ H1 O1 ρ1 (upd H1 n (.tup vs)) O1 := a1.sr.ext0 (ext_new (o := .tup vs) hn) (own_new a1.sr.own hn)
  have hv : Val X.K (upd H1 n (.tup vs)) O1 v d := by
    cases o with
    | s j =>
      obtain ⟨v', h1, h2⟩ := (a1.trans a3).sr.slot j d (rget_get ed)
      have h3 : σ[j]? = some (some v) := c1
      rw [h3] at h1; cases h1
      exact h2
    | d z =>
      have ez : z = d := by simpa [rd] using ed
      subst ez
      exact (VOk.then s a1 c1 a3).val
  obtain ⟨a, C', rfl, z1, z2⟩ := xOf_at hv ft eb
  exact ⟨.ref a, n, vs, _, us, b, rfl, upd_same, cn.par, z1, z2, q _ _ ρ1 O1 _ (a1.trans a3) (.rep (.bl b)) h1⟩
end
end Bx
namespace Bx
open PySem PySem.Spec PyProof.Rows L2
theorem endsX_rt {ios : List Nat} {P Z : D → List D → Prop} {d : D} {ρ : Rho} : (endsX ios P Z).rt d ρ = onSome (outsOf ios ρ) (P d) := rfl
theorem endsX_nx {ios : List Nat} {P Z : D → List D → Prop} {ρ : Rho} : (endsX ios P Z).nx ρ = onSome (outsOf ios ρ) (P .non) := rfl
theorem endsX_ex {ios : List Nat} {P Z : D → List D → Prop} {d : D} {ρ : Rho} : (endsX ios P Z).ex d ρ = onSome (outsOf ios ρ) (Z d) := rfl
def v_dExpX := @Bx.dExpX.eq_1
def v_dAsgX := @Bx.dAsgX.eq_1
def v_dRetX := @Bx.dRetX.eq_1
def v_dRaise := @Bx.dRaise.eq_1
def v_kCallX := @Bx.kCallX.eq_1
def v_dCallX := @Bx.dCallX.eq_1
def v_kRaz := @Bx.kRaz.eq_1
def v_dTry := @Bx.dTry.eq_1
def v_kTryX := @Bx.kTryX.eq_1
def v_kIsX := @Bx.kIsX.eq_1
def v_dIsX := @Bx.dIsX.eq_1
theorem xin_exc {ms : List Str} {c : Str} : xin ms (.exc c none) = (ms.contains c = true) := rfl
theorem xOf_exc {tb : List (Str × Bool)} {c : Str} : xOf tb (.exc c none) = tb.lookup c := rfl
def bxE1 := And.intro (And.intro (And.intro (@endsX_rt) (@endsX_nx)) (And.intro (@endsX_ex) (@v_dExpX))) (And.intro (And.intro (@v_dAsgX) (@v_dRetX)) (And.intro (@v_dRaise) (@v_kCallX)))
def bxE2 := And.intro (And.intro (And.intro (@v_dCallX) (@v_kRaz)) (And.intro (@v_dTry) (@v_kTryX))) (And.intro (And.intro (@v_kIsX) (@v_dIsX)) (And.intro (@xin_exc) (And.intro (@xOf_exc) (@u_frz_exc))))
end Bx
namespace Yo
open PySem PySem.Spec PyProof.Rows L2 Bx Zb Zp Zh Zs TL NumText
def dg (c : Nat) : Bool := decide (48 ≤ c ∧ c ≤ 57)
def figO (l : List Nat) : Option Nat := if (decide (0 < l.length) && decide (l.length < 4000) && l.all dg && !(l.head? == some 48 && !(l == [48]))) = true then some (digitsVal l) else none
def negO : Option Nat → Option Int
  | some (n + 1) => some (-((n + 1 : Nat) : Int))
  | _ => none
def numO (l : List Nat) : Option Int := if (l.head? == some 45) = true then negO (figO l.tail) else (figO l).map fun n => (n : Int)
def lowE (c : Option Nat) (n : Int) : Option Eg := if (c == some 91) = true then some (some (n, true)) else if (c == some 40) = true then some (some (n, false)) else none
def highE (c : Option Nat) (n : Int) : Option Eg := if (c == some 93) = true then some (some (n, true)) else if (c == some 41) = true then some (some (n, false)) else none
def lowO (l : List Nat) : Option Eg := if (l == [45]) = true then some none else (numO l.tail).bind (lowE l.head?)
def highO (l : List Nat) : Option Eg := if (l == [45]) = true then some none else (numO l.dropLast).bind (highE l.getLast?)
def spanO (l : List Nat) : Option (Option Eg × Option Eg) := match spl [46, 46] 0 [] l with
  | [a, b] => some (lowO a, highO b)
  | _ => none
def opN : Option Nat → D
  | some n => .int n
  | none => .non
def opI : Option Int → D
  | some n => .int n
  | none => .non
def endD : Option Eg → D
  | some e => eD e
  | none => .str ""
def spanD : Option (Option Eg × Option Eg) → D
  | some (a, b) => .tup [endD a, endD b]
  | none => .str ""
def tok (z : Str) : Prop := (∀ c ∈ tl z, c < 1114112) ∧ (tl z).length ≤ 100000
def nS (i : Int) : Str := Str.ofString (toString i)
def loS : Eg → Str
  | none => "-"
  | some (n, s) => (if s then Str.ofString "[" else Str.ofString "(") ++ nS n
def hiS : Eg → Str
  | none => "-"
  | some (n, s) => nS n ++ (if s then Str.ofString "]" else Str.ofString ")")
def spS (s : Eg × Eg) : Str := loS s.1 ++ Str.ofString ".." ++ hiS s.2
def boxS (b : Bx1) : Str := Txt.join " " (b.map spS)
def smA (i : Int) : Prop := i.natAbs < 10 ^ 40
def smE : Eg → Prop
  | none => True
  | some (n, _) => smA n
def boxW (ws : List Str) : D := .tup (ws.map fun z => spanD (spanO (tl z)))
def C_figures_in : PSpec := fun ds Q => ∃ z : Str, ds = [.str z] ∧ tok z ∧ Q (opN (figO (tl z))) []
def C_number_in : PSpec := fun ds Q => ∃ z : Str, ds = [.str z] ∧ tok z ∧ Q (opI (numO (tl z))) []
def C_low_in : PSpec := fun ds Q => ∃ z : Str, ds = [.str z] ∧ tok z ∧ Q (endD (lowO (tl z))) []
def C_high_in : PSpec := fun ds Q => ∃ z : Str, ds = [.str z] ∧ tok z ∧ Q (endD (highO (tl z))) []
def C_span_in_word : PSpec := fun ds Q => ∃ z : Str, ds = [.str z] ∧ tok z ∧ Q (spanD (spanO (tl z))) []
def C_box_in : PSpec := fun ds Q => ∃ ws : List Str, ds = [.lst false (ws.map .str)] ∧ ws.length ≤ 100001 ∧ (∀ z ∈ ws, tok z) ∧ Q (boxW ws) []
def C_look_text : PSpecX := fun ds P Z => ∃ x : D, ds = [x] ∧ (if isTy x.ty "str" = true then P .non [] else Z (.exc "NoText" none) [])
def C_read_box : PSpecX := fun ds P Z => (∃ (z : Str) (d : Int), ds = [.str z, .int d] ∧ tok z ∧ d ≤ 1000 ∧ (if Zp.isBox (boxW (Txt.split z " ")) d = true then P (boxW (Txt.split z " ")) [] else Z (.exc "NoText" none) [])) ∨
  (∃ (x : D) (d : Int), ds = [x, .int d] ∧ isTy x.ty "str" = false ∧ isTy x.frz.ty "str" = false ∧ Z (.exc "NoText" none) [])
abbrev C_is_box : PSpec := Zp.C_is_box
def C_low_text : PSpec := fun ds Q => ∃ e : Eg, ds = [eD e] ∧ smE e ∧ Q (.str (loS e)) []
def C_high_text : PSpec := fun ds Q => ∃ e : Eg, ds = [eD e] ∧ smE e ∧ Q (.str (hiS e)) []
def C_show_box : PSpec := fun ds Q => ∃ b : Bx1, ds = [boxD b] ∧ b.length ≤ 1000 ∧ (∀ s ∈ b, smE s.1 ∧ smE s.2) ∧ Q (.str (boxS b)) []
abbrev c_MOST_SIGNS : D := .int 4000
abbrev c_FIGURES : D := .str "0123456789"
abbrev C__law_pick : PSpec := Zr.C__law_pick
abbrev C__law_number : PSpec := Zr.C__law_number
def C__law_end : PSpec := fun ds Q => ∃ (a s : Int) (l : List Int), ds = [Zr.hd a s, poolD l] ∧ l ≠ [] ∧ l.length ≤ 8 ∧ (∀ x ∈ l, Zr.smI x) ∧ ∀ (e : Eg) (a' s' : Int), smE e → Q (eD e) [Zr.hd a' s']
def C__law_box : PSpec := fun ds Q => ∃ (a s : Int) (d : Nat) (l : List Int), ds = [Zr.hd a s, .int d, poolD l] ∧ l ≠ [] ∧ l.length ≤ 8 ∧ d ≤ 4 ∧ (∀ x ∈ l, Zr.smI x) ∧ ∀ (b : Bx1) (a' s' : Int), b.length = d → (∀ s ∈ b, smE s.1 ∧ smE s.2) → Q (.tup (b.map sD)) [Zr.hd a' s']
abbrev C__law_box_text : PSpec := C_show_box
def noneD : D := .tup [.str "none", .non]
def C__law_told : PSpec := fun ds Q => (∃ (z : Str) (d : Int), ds = [.tup [.str z, .int d]] ∧ tok z ∧ d ≤ 1000 ∧ Q (if Zp.isBox (boxW (Txt.split z " ")) d = true then .tup [.str "read", boxW (Txt.split z " ")] else noneD) []) ∨
  (∃ (x : D) (d : Int), ds = [.tup [x, .int d]] ∧ isTy x.ty "str" = false ∧ x.frz = x ∧ Q noneD [])
def w_figures_in : DS :=
  (dSeq (dIfS (tOr (tNot (tVal (dChain gLt gLt (oVal (dC (.int 0))) (oVal (dCB gLen (aCons (oVar 0) aNil))) (oVal (dC c_MOST_SIGNS))))) (tNot (tVal (dCB gAll (aCons (oVal (dComp (iOf (dVar 0)) [1] (gN 1) tAll (dBin gInS (oVar 1) (oVal (dC c_FIGURES))))) aNil)))))
    (dRet (dC .non))
    dNext)
    (dSeq (dIfS (tAnd (tVal (dBin gEq (oVal (dBin gIx (oVar 0) (oVal (dC (.int 0))))) (oVal (dC (.str "0"))))) (tVal (dBin gNe (oVar 0) (oVal (dC (.str "0"))))))
    (dRet (dC .non))
    dNext)
    (dRet (dCB gInt (aCons (oVar 0) aNil)))))
abbrev B_figures_in : PSpec := bodyW [] 2 1 w_figures_in
def w_number_in : DS :=
  (dSeq (dIfS (tVal (dBin gNe (oVal (dSl (oVar 0) pNo (pInt (dC (.int 1))))) (oVal (dC (.str "-")))))
    (dRet (dCall C_figures_in (aCons (oVar 0) aNil)))
    dNext)
    (dSeq (dAsg 1 (dCall C_figures_in (aCons (oVal (dSl (oVar 0) (pInt (dC (.int 1))) pNo)) aNil)))
    (dSeq (dIfS (tOr (tVal (dBin gIsN (oVar 1) (oVal (dC .non)))) (tVal (dBin gEq (oVar 1) (oVal (dC (.int 0))))))
    (dRet (dC .non))
    dNext)
    (dRet (dUn gNeg (oVar 1))))))
abbrev B_number_in : PSpec := bodyW [] 2 1 w_number_in
def w_low_in : DS :=
  (dSeq (dIfS (tVal (dBin gEq (oVar 0) (oVal (dC (.str "-")))))
    (dRet (dC .non))
    dNext)
    (dSeq (dAsg 1 (dCall C_number_in (aCons (oVal (dSl (oVar 0) (pInt (dC (.int 1))) pNo)) aNil)))
    (dSeq (dIfS (tOr (tVal (dBin gNin (oVal (dSl (oVar 0) pNo (pInt (dC (.int 1))))) (oVal (dTup (aCons (oVal (dC (.str "["))) (aCons (oVal (dC (.str "("))) aNil)))))) (tVal (dBin gIsN (oVar 1) (oVal (dC .non)))))
    (dRet (dC (.str "")))
    dNext)
    (dRet (dTup (aCons (oVar 1) (aCons (oVal (dBin gEq (oVal (dBin gIx (oVar 0) (oVal (dC (.int 0))))) (oVal (dC (.str "["))))) aNil)))))))
abbrev B_low_in : PSpec := bodyW [] 2 1 w_low_in
def w_high_in : DS :=
  (dSeq (dIfS (tVal (dBin gEq (oVar 0) (oVal (dC (.str "-")))))
    (dRet (dC .non))
    dNext)
    (dSeq (dAsg 1 (dCall C_number_in (aCons (oVal (dSl (oVar 0) pNo (pInt (dUn gNeg (oVal (dC (.int 1))))))) aNil)))
    (dSeq (dIfS (tOr (tVal (dBin gNin (oVal (dSl (oVar 0) (pInt (dUn gNeg (oVal (dC (.int 1))))) pNo)) (oVal (dTup (aCons (oVal (dC (.str "]"))) (aCons (oVal (dC (.str ")"))) aNil)))))) (tVal (dBin gIsN (oVar 1) (oVal (dC .non)))))
    (dRet (dC (.str "")))
    dNext)
    (dRet (dTup (aCons (oVar 1) (aCons (oVal (dBin gEq (oVal (dBin gIx (oVar 0) (oVal (dUn gNeg (oVal (dC (.int 1))))))) (oVal (dC (.str "]"))))) aNil)))))))
abbrev B_high_in : PSpec := bodyW [] 2 1 w_high_in
def w_span_in_word : DS :=
  (dSeq (dAsg 1 (dTM gSplit (dVar 0) (dC (.str ".."))))
    (dSeq (dIfS (tVal (dBin gNe (oVal (dCB gLen (aCons (oVar 1) aNil))) (oVal (dC (.int 2)))))
    (dRet (dC (.str "")))
    dNext)
    (dRet (dTup (aCons (oVal (dCall C_low_in (aCons (oVal (dBin gIx (oVar 1) (oVal (dC (.int 0))))) aNil))) (aCons (oVal (dCall C_high_in (aCons (oVal (dBin gIx (oVar 1) (oVal (dC (.int 1))))) aNil))) aNil))))))
abbrev B_span_in_word : PSpec := bodyW [] 2 1 w_span_in_word
def w_box_in : DS :=
  (dRet (dCB gTuple (aCons (oVal (dComp (iOf (dVar 0)) [1] (gN 1) tAll (dCall C_span_in_word (aCons (oVar 1) aNil)))) aNil)))
abbrev B_box_in : PSpec := bodyW [] 2 1 w_box_in
def w_look_text : DS :=
  (dIfS (tNot (tVal (dIsi "str" (oVar 0))))
    (dRaise "NoText")
    dNext)
abbrev B_look_text : PSpecX := bodyX [] 1 1 w_look_text
def w_read_box : DS :=
  (dSeq (dExpX (dCallX C_look_text (aCons (oVar 0) aNil)))
    (dSeq (dAsg 2 (dCall C_box_in (aCons (oVal (dTM gSplit (dVar 0) (dC (.str " ")))) aNil)))
    (dSeq (dIfS (tNot (tVal (dCall C_is_box (aCons (oVar 2) (aCons (oVar 1) aNil)))))
    (dRaise "NoText")
    dNext)
    (dRetV 2))))
abbrev B_read_box : PSpecX := bodyX [] 3 2 w_read_box
def w_low_text : DS :=
  (dSeq (dIfS (tVal (dBin gIsN (oVar 0) (oVal (dC .non))))
    (dRet (dC (.str "-")))
    dNext)
    (dSeq (dAsgG (gT (gsCons (gN 1) (gsCons (gN 2) gsNil)) 2) (dVar 0))
    (dRet (dBin gAdd (oVal (dIf (tVal (dVar 2)) (dC (.str "[")) (dC (.str "(")))) (oVal (dCB gStr2 (aCons (oVar 1) aNil)))))))
abbrev B_low_text : PSpec := bodyW [] 3 1 w_low_text
def w_high_text : DS :=
  (dSeq (dIfS (tVal (dBin gIsN (oVar 0) (oVal (dC .non))))
    (dRet (dC (.str "-")))
    dNext)
    (dSeq (dAsgG (gT (gsCons (gN 1) (gsCons (gN 2) gsNil)) 2) (dVar 0))
    (dRet (dBin gAdd (oVal (dCB gStr2 (aCons (oVar 1) aNil))) (oVal (dIf (tVal (dVar 2)) (dC (.str "]")) (dC (.str ")"))))))))
abbrev B_high_text : PSpec := bodyW [] 3 1 w_high_text
def w_show_box : DS :=
  (dRet (dTM gJoin (dC (.str " ")) (dComp (iOf (dVar 0)) [1, 2] (gT (gsCons (gN 1) (gsCons (gN 2) gsNil)) 2) tAll (dBin gAdd (oVal (dBin gAdd (oVal (dCall C_low_text (aCons (oVar 1) aNil))) (oVal (dC (.str ".."))))) (oVal (dCall C_high_text (aCons (oVar 2) aNil)))))))
abbrev B_show_box : PSpec := bodyW [] 3 1 w_show_box
def w__law_box_text : DS :=
  (dSeq (dAsg 1 (dLst aNil))
    (dSeq (dFor (iOf (dVar 0)) (gT (gsCons (gN 2) (gsCons (gN 3) gsNil)) 2)
    (dSeq (dAsg 4 (dIf (tVal (dBin gIsN (oVar 2) (oVal (dC .non)))) (dC (.str "-")) (dBin gAdd (oVal (dBin gIx (oVal (dLst (aCons (oVal (dC (.str "("))) (aCons (oVal (dC (.str "["))) aNil)))) (oVal (dCB gInt (aCons (oVal (dBin gIx (oVar 2) (oVal (dC (.int 1))))) aNil))))) (oVal (dCB gStr2 (aCons (oVal (dBin gIx (oVar 2) (oVal (dC (.int 0))))) aNil))))))
    (dExp (dApp 1 (dBin gAdd (oVal (dBin gAdd (oVar 4) (oVal (dC (.str ".."))))) (oVal (dIf (tVal (dBin gIsN (oVar 3) (oVal (dC .non)))) (dC (.str "-")) (dBin gAdd (oVal (dCB gStr2 (aCons (oVal (dBin gIx (oVar 3) (oVal (dC (.int 0))))) aNil))) (oVal (dBin gIx (oVal (dLst (aCons (oVal (dC (.str ")"))) (aCons (oVal (dC (.str "]"))) aNil)))) (oVal (dCB gInt (aCons (oVal (dBin gIx (oVar 3) (oVal (dC (.int 1))))) aNil)))))))))))))
    (dRet (dTM gJoin (dC (.str " ")) (dVar 1)))))
abbrev B__law_box_text : PSpec := bodyW [] 5 1 w__law_box_text
def w__law_told : DS :=
  (dSeq (dAsgG (gT (gsCons (gN 1) (gsCons (gN 2) gsNil)) 2) (dTup (aCons (oVal (dC .non)) (aCons (oVal (dC .non)) aNil))))
    (dSeq (dTry ["NoText"] 3
    (dAsgX 1 (dCallX C_read_box (aCons (oVal (dBin gIx (oVar 0) (oVal (dC (.int 0))))) (aCons (oVal (dBin gIx (oVar 0) (oVal (dC (.int 1))))) aNil))))
    (dAsg 2 (dVar 3)))
    (dSeq (dIfS (tVal (dBin gIsN (oVar 2) (oVal (dC .non))))
    (dRet (dTup (aCons (oVal (dC (.str "read"))) (aCons (oVar 1) aNil))))
    dNext)
    (dSeq (dIfS (tOr (tNot (tVal (dIsX [("NoText", true)] (oVar 2)))) (tNot (tVal (dIsX [("NoText", true)] (oVar 2)))))
    (dRet (dTup (aCons (oVal (dC (.str "other"))) (aCons (oVal (dC .non)) aNil))))
    dNext)
    (dRet (dIf (tVal (dIsX [("NoText", false)] (oVar 2))) (dTup (aCons (oVal (dC (.str "other"))) (aCons (oVal (dC .non)) aNil))) (dTup (aCons (oVal (dC (.str "none"))) (aCons (oVal (dC .non)) aNil)))))))))
abbrev B__law_told : PSpec := bodyW [] 4 1 w__law_told
def w__law_end : DS :=
  (dSeq (dIfS (tVal (dBin gEq (oVal (dCallIO 0 0 C__law_pick (aCons (oVar 0) (aCons (oVal (dC (.int 3))) aNil)))) (oVal (dC (.int 0)))))
    (dRet (dC .non))
    dNext)
    (dRet (dTup (aCons (oVal (dBin gAdd (oVal (dCallIO 0 0 C__law_number (aCons (oVar 0) (aCons (oVar 1) aNil)))) (oVal (dBin gIx (oVal (dLst (aCons (oVal (dC (.int 0))) (aCons (oVal (dC (.int 0))) (aCons (oVal (dC (.int 0))) (aCons (oVal (dC (.int 1))) (aCons (oVal (dUn gNeg (oVal (dC (.int 1))))) aNil))))))) (oVal (dCallIO 0 0 C__law_pick (aCons (oVar 0) (aCons (oVal (dC (.int 5))) aNil)))))))) (aCons (oVal (dBin gEq (oVal (dCallIO 0 0 C__law_pick (aCons (oVar 0) (aCons (oVal (dC (.int 2))) aNil)))) (oVal (dC (.int 0))))) aNil)))))
abbrev B__law_end : PSpec := bodyW [0] 2 2 w__law_end
def w__law_box : DS :=
  (dSeq (dAsg 3 (dLst aNil))
    (dSeq (dAsg 4 (dCallIO 0 0 C__law_pick (aCons (oVar 0) (aCons (oVal (dC (.int 2))) aNil))))
    (dSeq (dFor (iR gR1 (aCons (oVar 1) aNil)) (gN 5)
    (dSeq (dPar2 6 7 (dCallIO 0 0 C__law_end (aCons (oVar 0) (aCons (oVar 2) aNil))) (dCallIO 0 0 C__law_end (aCons (oVar 0) (aCons (oVar 2) aNil))))
    (dSeq (dIfS (tAnd (tVal (dBin gEq (oVar 4) (oVal (dC (.int 0))))) (tAnd (tVal (dBin gNotN (oVar 6) (oVal (dC .non)))) (tAnd (tVal (dBin gNotN (oVar 7) (oVal (dC .non)))) (tVal (dBin gGt (oVal (dBin gIx (oVar 6) (oVal (dC (.int 0))))) (oVal (dBin gIx (oVar 7) (oVal (dC (.int 0))))))))))
    (dPar2 6 7 (dVar 7) (dVar 6))
    dNext)
    (dExp (dApp 3 (dTup (aCons (oVar 6) (aCons (oVar 7) aNil))))))))
    (dRet (dCB gTuple (aCons (oVar 3) aNil))))))
abbrev B__law_box : PSpec := bodyW [0] 8 3 w__law_box
theorem tl_len (z : Str) : z.length = (tl z).length := len_tl z
theorem tok_ok {z : Str} (h : tok z) : (PyData.str z).canLay0 = true := by
  have : PyData.strOk z = true := by
    show z.cps.all (fun c => decide (c < 0x110000)) = true
    rw [← Array.all_toList]
    exact List.all_eq_true.mpr fun c hc => decide_eq_true (h.1 c hc)
  simpa only [PyData.canLay0] using this
theorem tok_sub {z y : Str} (h : tok z) (hs : ∀ c ∈ tl y, c ∈ tl z) (hl : (tl y).length ≤ (tl z).length) : tok y := ⟨fun c hc => h.1 c (hs c hc), Nat.le_trans hl h.2⟩
theorem tok_1 {z : Str} (h : tok z) {c : Nat} (hc : c ∈ tl z) : tok ⟨#[c]⟩ := ⟨fun d hd => by
  have : d = c := by simpa [tl] using hd
  rw [this]; exact h.1 c hc, by show 1 ≤ 100000; decide⟩
theorem figs_tl : tl (Str.ofString "0123456789") = [48, 49, 50, 51, 52, 53, 54, 55, 56, 57] := by decide +kernel
theorem dg_in (c : Nat) : decide (c ∈ tl (Str.ofString "0123456789")) = dg c := by
  unfold dg
  rw [figs_tl, Bool.eq_iff_iff]
  simp only [decide_eq_true_eq, List.mem_cons, List.not_mem_nil, or_false]
  omega
theorem dg_all {l : List Nat} (h : l.all dg = true) : AllDigits l := fun c hc => by
  have := List.all_eq_true.mp h c hc
  unfold dg at this
  simpa using this
theorem one_beq (c d : Nat) (s : Str) (h : tl s = [d]) : ((⟨#[c]⟩ : Str) == s) = (c == d) := by
  rw [Bool.eq_iff_iff, beq_iff_eq, beq_iff_eq]
  constructor
  · intro e
    have : tl (⟨#[c]⟩ : Str) = [d] := by rw [e, h]
    simpa [tl] using this
  · intro e
    exact ext_tl (by rw [h, e])
theorem str_beq (z s : Str) : (z == s) = (tl z == tl s) := by
  rw [Bool.eq_iff_iff, beq_iff_eq, beq_iff_eq]
  exact ⟨fun e => by rw [e], ext_tl⟩
theorem imp_figures_in : ∀ ds Q, C_figures_in ds Q → B_figures_in ds Q := by
  rintro ds Q ⟨z, rfl, hz, q⟩
  refine ⟨rfl, ?_⟩
  have sl := sizeLine_eq
  have ln := hz.2
  have zl := tl_len z
  have q0 : figO (tl z) = none → Q .non [] := fun e => by rw [e] at q; exact q
  by_cases h0 : 0 < z.length
  · by_cases h1 : z.length < 4000
    · cases h2 : (tl z).all dg with
      | false =>
        have e0 := q0 (by unfold figO; rw [h2]; simp)
        simp only [w_figures_in, Bx.go]
        rw [decide_eq_true (show (0 : Int) < (z.length : Int) by omega)]
        simp only [Bx.go]
        rw [decide_eq_true (show (z.length : Int) < 4000 by omega)]
        simp only [Bx.go]
        refine ⟨by omega, by rw [show z.cps.toList.length = (tl z).length from rfl]; omega, co_map z.cps.toList _ (fun c => .bl (decide (c ∈ tl (Str.ofString "0123456789")))) (fun c hc acc K hK => ?_) ?_⟩
        · simp only [gInS_1, Bx.go]
          exact hK
        · simp only [asBls_f, backR, Bx.go]
          rw [List.all_map, show z.cps.toList.all (id ∘ fun c => decide (c ∈ tl (Str.ofString "0123456789"))) = (tl z).all dg by
            congr 1; funext c; exact dg_in c, h2]
          simp only [Bx.go]
          exact e0
      | true =>
        have AD := dg_all h2
        refine seq_cut (fun ρ => ∃ x1, ρ = [some (.str z), x1]) (fun R hR => ?_) ?_
        · simp only [Bx.go]
          rw [decide_eq_true (show (0 : Int) < (z.length : Int) by omega)]
          simp only [Bx.go]
          rw [decide_eq_true (show (z.length : Int) < 4000 by omega)]
          simp only [Bx.go]
          refine ⟨by omega, by rw [show z.cps.toList.length = (tl z).length from rfl]; omega, co_map z.cps.toList _ (fun c => .bl (decide (c ∈ tl (Str.ofString "0123456789")))) (fun c hc acc K hK => ?_) ?_⟩
          · simp only [gInS_1, Bx.go]
            exact hK
          · simp only [asBls_f, backR, Bx.go]
            rw [List.all_map, show z.cps.toList.all (id ∘ fun c => decide (c ∈ tl (Str.ofString "0123456789"))) = (tl z).all dg by
              congr 1; funext c; exact dg_in c, h2]
            simp only [Bx.go]
            exact hR _ ⟨_, rfl⟩
        rintro _ ⟨x1, rfl⟩
        obtain ⟨c, r, ecr⟩ : ∃ c r, tl z = c :: r := by
          cases e : tl z with
          | nil => rw [e] at zl; simp at zl; omega
          | cons c r => exact ⟨c, r, rfl⟩
        have ea : atI z.cps.toList 0 = some c := by
          rw [show z.cps.toList = tl z from rfl, ecr]
          unfold atI ixN
          simp
        have fin : (Q (opN (some (digitsVal (tl z)))) []) → dRet (dCB gInt (aCons (oVar 0) aNil)) (endsOf [] Q) [some (.str z), x1] := fun q => by
          have hsn := (PySem.numText_signs (x := z) fun c hc => .inr (AD c hc)).2
          simp only [gInt, Bx.go]
          refine ⟨⟨by rw [hsn, zl], by omega⟩, ?_⟩
          rw [intText_digits (x := z) AD (by rw [show z.cps.toList = tl z from rfl, ecr]; simp) (by omega)]
          exact q
        have qf : (c == 48 && !(tl z == [48])) = false → Q (opN (some (digitsVal (tl z)))) [] := fun e => by
          have : figO (tl z) = some (digitsVal (tl z)) := by
            unfold figO
            rw [if_pos]
            rw [h2, decide_eq_true (show 0 < (tl z).length by omega), decide_eq_true (show (tl z).length < 4000 by omega), show (tl z).head? = some c by rw [ecr]; rfl, show ((some c == some 48 : Bool)) = (c == 48) from rfl, e]
            rfl
          rw [this] at q; exact q
        refine seq_cut (fun ρ => ρ = [some (.str z), x1] ∧ (c == 48 && !(tl z == [48])) = false) (fun R hR => ?_) ?_
        · simp only [ea, Bx.go]
          refine ⟨by omega, eqOk_str (tok_ok (tok_1 hz (by rw [ecr]; exact List.mem_cons_self))) (by decide +kernel), ?_⟩
          rw [eqv_str, one_beq c 48 _ (by decide +kernel)]
          cases e0 : c == 48 with
          | false =>
            simp only [Bx.go]
            exact hR _ ⟨rfl, by rw [e0]; rfl⟩
          | true =>
            simp only [Bx.go]
            refine ⟨eqOk_str (tok_ok hz) (by decide +kernel), ?_⟩
            rw [eqv_str, str_beq, show tl (Str.ofString "0") = [48] by decide +kernel]
            cases e1 : tl z == [48] with
            | true =>
              simp only [Bx.go]
              exact hR _ ⟨rfl, by rw [e0, e1]; rfl⟩
            | false =>
              simp only [Bx.go]
              refine q0 ?_
              unfold figO
              rw [if_neg]
              rw [show (tl z).head? = some c by rw [ecr]; rfl, show ((some c == some 48 : Bool)) = (c == 48) from rfl, e0, e1]
              simp
        rintro _ ⟨rfl, e⟩
        exact fin (qf e)
    · have e0 := q0 (by unfold figO; rw [decide_eq_false (show ¬ (tl z).length < 4000 by omega)]; simp)
      simp only [w_figures_in, Bx.go]
      rw [decide_eq_true (show (0 : Int) < (z.length : Int) by omega)]
      simp only [Bx.go]
      rw [decide_eq_false (show ¬ (z.length : Int) < 4000 by omega)]
      simp only [Bx.go]
      exact ⟨by omega, e0⟩
  · have e0 := q0 (by unfold figO; rw [decide_eq_false (show ¬ 0 < (tl z).length by omega)]; simp)
    simp only [w_figures_in, Bx.go]
    rw [decide_eq_false (show ¬ (0 : Int) < (z.length : Int) by omega)]
    simp only [Bx.go]
    exact ⟨by omega, e0⟩
theorem neg_some (n : Nat) : negO (some n) = if (n == 0) = true then none else some (-(n : Int)) := by cases n <;> rfl
theorem cut_hd (z : Str) : tl (cutS z none (some 1)) = (tl z).take 1 := by
  have hl : z.length = (tl z).length := len_tl z
  unfold cutS
  rw [hl]
  cases e : tl z with
  | nil => rw [show z.cps.toList = tl z from rfl, e]; simp [HT.sIx, tl]
  | cons c r => rw [show z.cps.toList = tl z from rfl, e]; simp [HT.sIx, tl]
theorem cut_tl (z : Str) : tl (cutS z (some 1) none) = (tl z).tail := by
  have hl : z.length = (tl z).length := len_tl z
  unfold cutS
  rw [hl]
  cases e : tl z with
  | nil => rw [show z.cps.toList = tl z from rfl, e]; simp [HT.sIx, tl]
  | cons c r => rw [show z.cps.toList = tl z from rfl, e]; simp [HT.sIx, tl]
theorem cut_in (z : Str) : tl (cutS z none (some (-1))) = (tl z).dropLast := by
  have hl : z.length = (tl z).length := len_tl z
  unfold cutS
  rw [hl, show z.cps.toList = tl z from rfl, List.dropLast_eq_take]
  cases e : tl z with
  | nil => simp [HT.sIx, tl]
  | cons c r =>
    simp only [HT.sIx, tl]
    simp
    rw [show (-1 + ((r.length : Int) + 1)).toNat = r.length by omega]
    omega
theorem cut_la (z : Str) : tl (cutS z (some (-1)) none) = (tl z).drop ((tl z).length - 1) := by
  have hl : z.length = (tl z).length := len_tl z
  unfold cutS
  rw [hl, show z.cps.toList = tl z from rfl]
  cases e : tl z with
  | nil => simp [HT.sIx, tl]
  | cons c r =>
    simp only [HT.sIx, tl]
    simp
    rw [show (-1 + ((r.length : Int) + 1)).toNat = r.length by omega]
    exact List.take_of_length_le (by rw [List.length_drop]; simp)
theorem imp_number_in : ∀ ds Q, C_number_in ds Q → B_number_in ds Q := by
  rintro ds Q ⟨z, rfl, hz, q⟩
  refine ⟨rfl, ?_⟩
  have sl := sizeLine_eq
  have ln := hz.2
  have zl := tl_len z
  have t1 : tok (cutS z none (some 1)) := tok_sub hz (fun c hc => by rw [cut_hd] at hc; exact List.mem_of_mem_take hc) (by rw [cut_hd, List.length_take]; omega)
  have t2 : tok (cutS z (some 1) none) := tok_sub hz (fun c hc => by rw [cut_tl] at hc; exact List.mem_of_mem_tail hc) (by rw [cut_tl, List.length_tail]; omega)
  have eb : (cutS z none (some 1) == Str.ofString "-") = ((tl z).head? == some 45) := by
    rw [str_beq, cut_hd, show tl (Str.ofString "-") = [45] by decide +kernel]
    cases tl z with
    | nil => rfl
    | cons c r => simp
  simp only [w_number_in, Bx.go]
  refine ⟨by omega, eqOk_str (tok_ok t1) (by decide +kernel), ?_⟩
  rw [eqv_str, eb]
  unfold numO at q
  cases e : (tl z).head? == some 45 with
  | false =>
    rw [e] at q
    simp only [Bx.go]
    refine ⟨z, rfl, hz, ?_⟩
    simp only [Bx.go]
    rw [if_neg (by decide)] at q
    cases h : figO (tl z) with
    | none => rw [h] at q; exact q
    | some n => rw [h] at q; exact q
  | true =>
    rw [e, if_pos rfl] at q
    simp only [Bx.go]
    refine ⟨by omega, _, rfl, t2, ?_⟩
    rw [cut_tl]
    cases h : figO (tl z).tail with
    | none =>
      rw [h] at q
      simp only [opN, Bx.go]
      exact q
    | some n =>
      rw [h, neg_some] at q
      simp only [opN, Bx.go]
      refine ⟨eqOk_int _ _, ?_⟩
      rw [eqv_int]
      cases n with
      | zero =>
        simp only [show (((0 : Nat) : Int) == 0) = true from rfl, Bx.go]
        exact q
      | succ n =>
        rw [beq_false_of_ne (show ((n + 1 : Nat) : Int) ≠ 0 by omega)]
        rw [if_neg (by simp)] at q
        simp only [Bx.go]
        exact q
theorem in_two (z : Str) (a b : Str) : inV (.str z) [V.str a, V.str b] = (z == a || z == b) := by
  unfold inV
  simp only [List.any_cons, List.any_nil, Bool.or_false]
  show (a == z || b == z) = _
  rw [BEq.comm (a := a), BEq.comm (a := b)]
theorem imp_low_in : ∀ ds Q, C_low_in ds Q → B_low_in ds Q := by
  rintro ds Q ⟨z, rfl, hz, q⟩
  refine ⟨rfl, ?_⟩
  have sl := sizeLine_eq
  have ln := hz.2
  have zl := tl_len z
  have t1 : tok (cutS z none (some 1)) := tok_sub hz (fun c hc => by rw [cut_hd] at hc; exact List.mem_of_mem_take hc) (by rw [cut_hd, List.length_take]; omega)
  have t2 : tok (cutS z (some 1) none) := tok_sub hz (fun c hc => by rw [cut_tl] at hc; exact List.mem_of_mem_tail hc) (by rw [cut_tl, List.length_tail]; omega)
  have eb : ∀ d : Nat, ∀ s : Str, tl s = [d] → (cutS z none (some 1) == s) = ((tl z).head? == some d) := fun d s hs => by
    rw [str_beq, cut_hd, hs]
    cases tl z with
    | nil => rfl
    | cons c r => simp
  simp only [w_low_in, Bx.go]
  refine ⟨eqOk_str (tok_ok hz) (by decide +kernel), ?_⟩
  rw [eqv_str, str_beq, show tl (Str.ofString "-") = [45] by decide +kernel]
  unfold lowO at q
  cases e : tl z == [45] with
  | true =>
    rw [e, if_pos rfl] at q
    simp only [Bx.go]
    exact q
  | false =>
    rw [e, if_neg (by decide)] at q
    simp only [Bx.go]
    refine ⟨by omega, _, rfl, t2, ?_⟩
    rw [cut_tl]
    simp only [Bx.go]
    rw [in_two, eb 91 _ (by decide +kernel), eb 40 _ (by decide +kernel)]
    refine ⟨by omega, ?_⟩
    have hd : ∀ c r, tl z = c :: r → atI z.cps.toList 0 = some c := fun c r ec => by
      rw [show z.cps.toList = tl z from rfl, ec]
      unfold atI ixN
      simp
    have no : ∀ R : Rho → Prop, (R [some (.str z), some (opI (numO (tl z).tail))]) → True := fun _ _ => trivial
    cases h : numO (tl z).tail with
    | none =>
      rw [h] at q
      have q : Q (.str "") [] := q
      cases (tl z).head? == some 91 <;> cases (tl z).head? == some 40 <;> simp only [opI, Bool.or_false, Bool.false_or, Bool.or_true, Bool.true_or, Bool.xor_true, Bool.xor_false, Bool.not_true, Bool.not_false, Bx.go] <;> exact q
    | some n =>
      rw [h] at q
      obtain ⟨c, r, ec⟩ : ∃ c r, tl z = c :: r := by
        cases e2 : tl z with
        | nil =>
          rw [e2] at h
          simp [numO, figO] at h
        | cons c r => exact ⟨c, r, rfl⟩
      have ea := hd c r ec
      have eo : ∀ d : Nat, ((tl z).head? == some d) = (c == d) := fun d => by rw [ec]; rfl
      rw [eo 91, eo 40]
      have q : Q (endD (lowE (tl z).head? n)) [] := q
      unfold lowE at q
      rw [eo 91, eo 40] at q
      have ok1 := eqOk_str (tok_ok (tok_1 hz (c := c) (by rw [ec]; exact List.mem_cons_self))) (show (PyData.str (Str.ofString "[")).canLay0 = true by decide +kernel)
      have ev1 : ((⟨#[c]⟩ : Str) == Str.ofString "[") = (c == 91) := one_beq c 91 _ (by decide +kernel)
      cases e9 : c == 91 with
      | true =>
        rw [e9] at q
        simp only [opI, Bool.true_or, Bool.xor_self, ea, Bx.go]
        refine ⟨by omega, ok1, ?_⟩
        rw [eqv_str, ev1, e9]
        exact q
      | false =>
        rw [e9] at q
        cases e4 : c == 40 with
        | true =>
          rw [e4] at q
          simp only [opI, Bool.or_true, Bool.xor_self, ea, Bx.go]
          refine ⟨by omega, ok1, ?_⟩
          rw [eqv_str, ev1, e9]
          exact q
        | false =>
          rw [e4] at q
          simp only [opI, Bool.or_self, Bool.xor_false, Bx.go]
          exact q
theorem imp_high_in : ∀ ds Q, C_high_in ds Q → B_high_in ds Q := by
  rintro ds Q ⟨z, rfl, hz, q⟩
  refine ⟨rfl, ?_⟩
  have sl := sizeLine_eq
  have ln := hz.2
  have zl := tl_len z
  have t1 : tok (cutS z (some (-1)) none) := tok_sub hz (fun c hc => by rw [cut_la] at hc; exact List.mem_of_mem_drop hc) (by rw [cut_la, List.length_drop]; omega)
  have t2 : tok (cutS z none (some (-1))) := tok_sub hz (fun c hc => by rw [cut_in] at hc; exact List.dropLast_subset _ hc) (by rw [cut_in, List.length_dropLast]; omega)
  have eb : ∀ d : Nat, ∀ s : Str, tl s = [d] → (cutS z (some (-1)) none == s) = ((tl z).getLast? == some d) := fun d s hs => by
    rw [str_beq, cut_la, hs]
    cases e : tl z with
    | nil => rfl
    | cons c r =>
      rw [List.getLast?_eq_getElem?, List.drop_eq_getElem_cons (by simp), List.getElem?_eq_getElem (by simp)]
      simp
  simp only [w_high_in, Bx.go]
  refine ⟨eqOk_str (tok_ok hz) (by decide +kernel), ?_⟩
  rw [eqv_str, str_beq, show tl (Str.ofString "-") = [45] by decide +kernel]
  unfold highO at q
  cases e : tl z == [45] with
  | true =>
    rw [e, if_pos rfl] at q
    simp only [Bx.go]
    exact q
  | false =>
    rw [e, if_neg (by decide)] at q
    simp only [Bx.go]
    refine ⟨by omega, _, rfl, t2, ?_⟩
    rw [cut_in]
    simp only [Bx.go]
    rw [in_two, eb 93 _ (by decide +kernel), eb 41 _ (by decide +kernel)]
    refine ⟨by omega, ?_⟩
    cases h : numO (tl z).dropLast with
    | none =>
      rw [h] at q
      have q : Q (.str "") [] := q
      cases (tl z).getLast? == some 93 <;> cases (tl z).getLast? == some 41 <;> simp only [opI, Bool.or_false, Bool.false_or, Bool.or_true, Bool.true_or, Bool.xor_true, Bool.xor_false, Bool.not_true, Bool.not_false, Bx.go] <;> exact q
    | some n =>
      rw [h] at q
      obtain ⟨c, ec, hc⟩ : ∃ c, (tl z).getLast? = some c ∧ c ∈ tl z := by
        cases e2 : (tl z).getLast? with
        | none =>
          rw [List.getLast?_eq_none_iff] at e2
          rw [e2] at h
          simp [numO, figO] at h
        | some c => exact ⟨c, rfl, List.mem_of_getLast? e2⟩
      have ea : atI z.cps.toList (-1) = some c := by
        have l0 : 0 < (tl z).length := by
          cases e2 : tl z with
          | nil => rw [e2] at hc; cases hc
          | cons a r => simp
        rw [List.getLast?_eq_getElem?] at ec
        rw [show z.cps.toList = tl z from rfl]
        unfold atI ixN
        rw [if_neg (by decide), if_pos (by omega)]
        rw [Option.bind_some, ← ec]
        congr 1
        omega
      have eo : ∀ d : Nat, ((tl z).getLast? == some d) = (c == d) := fun d => by rw [ec]; rfl
      rw [eo 93, eo 41]
      have q : Q (endD (highE (tl z).getLast? n)) [] := q
      unfold highE at q
      rw [eo 93, eo 41] at q
      have ok1 := eqOk_str (tok_ok (tok_1 hz hc)) (show (PyData.str (Str.ofString "]")).canLay0 = true by decide +kernel)
      have ev1 : ((⟨#[c]⟩ : Str) == Str.ofString "]") = (c == 93) := one_beq c 93 _ (by decide +kernel)
      cases e9 : c == 93 with
      | true =>
        rw [e9] at q
        simp only [opI, Bool.true_or, Bool.xor_self, ea, Bx.go]
        refine ⟨by omega, ok1, ?_⟩
        rw [eqv_str, ev1, e9]
        exact q
      | false =>
        rw [e9] at q
        cases e4 : c == 41 with
        | true =>
          rw [e4] at q
          simp only [opI, Bool.or_true, Bool.xor_self, ea, Bx.go]
          refine ⟨by omega, ok1, ?_⟩
          rw [eqv_str, ev1, e9]
          exact q
        | false =>
          rw [e4] at q
          simp only [opI, Bool.or_self, Bool.xor_false, Bx.go]
          exact q
theorem spl_mem {S : List Nat} : ∀ {l acc : List Nat} {p : List Nat}, ∀ k, p ∈ spl S k acc l → (∀ c ∈ p, c ∈ acc ∨ c ∈ l) ∧ p.length ≤ acc.length + l.length
  | [], acc, p, k, h => by
    rw [spl_nil] at h
    simp at h; subst h
    exact ⟨fun c hc => .inl hc, by simp⟩
  | c :: r, acc, p, k + 1, h => by
    have h : p ∈ spl S k acc r := h
    obtain ⟨h1, h2⟩ := spl_mem k h
    exact ⟨fun d hd => (h1 d hd).imp id (List.mem_cons_of_mem _), by simp; omega⟩
  | c :: r, acc, p, 0, h => by
    cases hp : pre S (c :: r) with
    | true =>
      rw [spl_hit hp] at h
      rcases List.mem_cons.mp h with rfl | h
      · exact ⟨fun d hd => .inl hd, by omega⟩
      · obtain ⟨h1, h2⟩ := spl_mem _ h
        exact ⟨fun d hd => .inr ((h1 d hd).elim (fun z => by cases z) (List.mem_cons_of_mem _)), by simp at h2 ⊢; omega⟩
    | false =>
      rw [spl_miss hp] at h
      obtain ⟨h1, h2⟩ := spl_mem _ h
      refine ⟨fun d hd => ?_, by simp at h2 ⊢; omega⟩
      rcases h1 d hd with h3 | h3
      · rcases List.mem_append.mp h3 with h3 | h3
        · exact .inl h3
        · simp at h3; subst h3; exact .inr List.mem_cons_self
      · exact .inr (List.mem_cons_of_mem _ h3)
theorem spl_count {S : List Nat} : ∀ {l acc : List Nat}, ∀ k, (spl S k acc l).length ≤ l.length + 1
  | [], acc, k => by rw [spl_nil]; simp
  | c :: r, acc, k + 1 => by
    have := spl_count (S := S) (l := r) (acc := acc) k
    show (spl S k acc r).length ≤ _
    simp; omega
  | c :: r, acc, 0 => by
    cases hp : pre S (c :: r) with
    | true =>
      rw [spl_hit hp]
      have := spl_count (S := S) (l := r) (acc := []) (S.length - 1)
      simp; omega
    | false =>
      rw [spl_miss hp]
      have := spl_count (S := S) (l := r) (acc := acc ++ [c]) 0
      simp; omega
theorem split_tl {z y : Str} (h0 : tl y ≠ []) (hk : y.cps.all (· < 256) = true) : (Txt.split z y).map tl = spl (tl y) 0 [] (tl z) := split_spl z y h0 (kind_ok hk)
theorem split_tok {z y : Str} (h0 : tl y ≠ []) (hk : y.cps.all (· < 256) = true) (hz : tok z) : (Txt.split z y).length ≤ 100001 ∧ ∀ p ∈ Txt.split z y, tok p := by
  have e := split_tl (z := z) h0 hk
  have ln := hz.2
  refine ⟨?_, fun p hp => ?_⟩
  · have h1 := congrArg List.length e
    rw [List.length_map] at h1
    rw [h1]
    have := spl_count (S := tl y) (l := tl z) (acc := []) 0
    omega
  · have h1 : tl p ∈ spl (tl y) 0 [] (tl z) := by rw [← e]; exact List.mem_map_of_mem hp
    obtain ⟨h2, h3⟩ := spl_mem 0 h1
    exact tok_sub hz (fun c hc => (h2 c hc).elim (fun z => by cases z) id) (by simpa using h3)
theorem imp_span_in_word : ∀ ds Q, C_span_in_word ds Q → B_span_in_word ds Q := by
  rintro ds Q ⟨z, rfl, hz, q⟩
  refine ⟨rfl, ?_⟩
  have sl := sizeLine_eq
  have ln := hz.2
  have zl := tl_len z
  have e2 : tl (Str.ofString "..") = [46, 46] := by decide +kernel
  have es := split_tl (z := z) (y := Str.ofString "..") (by rw [e2]; simp) (by decide +kernel)
  rw [e2] at es
  obtain ⟨pl, pt⟩ := split_tok (z := z) (y := Str.ofString "..") (by rw [e2]; simp) (by decide +kernel) hz
  unfold spanO at q
  rw [← es] at q
  simp only [w_span_in_word, bxT, Bx.go]
  generalize Txt.split z (Str.ofString "..") = ps at *
  refine ⟨⟨by decide +kernel, by omega⟩, eqOk_int _ _, ?_⟩
  rw [eqv_int]
  match ps, q with
  | [a, b], q =>
    simp only [show ((([a, b] : List Str).length : Int) == 2) = true from rfl, List.map, Bx.go]
    refine ⟨a, rfl, pt a (by simp), ?_⟩
    simp only [Bx.go]
    refine ⟨b, rfl, pt b (by simp), ?_⟩
    simp only [Bx.go]
    have f1 : ∀ e : Option Eg, (endD e).frz = endD e := fun e => by
      cases e with
      | none => rfl
      | some e => cases e <;> rfl
    rw [f1, f1]
    exact q
  | [], q => simp only [show ((([] : List Str).length : Int) == 2) = false from rfl, Bx.go]; exact q
  | [a], q => simp only [show ((([a] : List Str).length : Int) == 2) = false from rfl, Bx.go]; exact q
  | a :: b :: c :: r, q =>
    rw [beq_false_of_ne (by simp; omega)]
    simp only [Bx.go]; exact q
theorem imp_box_in : ∀ ds Q, C_box_in ds Q → B_box_in ds Q := by
  rintro ds Q ⟨ws, rfl, wl, hw, q⟩
  refine ⟨rfl, ?_⟩
  have sl := sizeLine_eq
  simp only [w_box_in, Bx.go]
  refine ⟨by omega, co_map ws D.str (fun z => spanD (spanO (tl z))) (fun z hz acc N hN => ?_) ?_⟩
  · simp only [Bx.go]
    refine ⟨z, rfl, hw z hz, ?_⟩
    generalize hs : spanO (tl z) = s at *
    cases s with
    | none => simp only [spanD, Bx.go] at hN ⊢; exact hN
    | some s => obtain ⟨a, b⟩ := s; simp only [spanD, Bx.go] at hN ⊢; exact hN
  · simp only [backR, Bx.go]
    exact q
theorem imp_look_text : ∀ ds P Z, C_look_text ds P Z → B_look_text ds P Z := by
  rintro ds P Z ⟨x, rfl, q⟩
  refine ⟨rfl, ?_⟩
  simp only [w_look_text, bxE1, Bx.go]
  cases h : isTy x.ty "str" with
  | true =>
    rw [h] at q
    simp only [bxE1, Bx.go]
    exact q
  | false =>
    rw [h] at q
    simp only [bxE1, Bx.go]
    exact q
theorem imp_read_box : ∀ ds P Z, C_read_box ds P Z → B_read_box ds P Z := by
  rintro ds P Z (⟨z, d, rfl, hz, hd, q⟩ | ⟨x, d, rfl, hx, hx2, q⟩)
  · refine ⟨rfl, ?_⟩
    have ln := hz.2
    have zl := tl_len z
    have sl := sizeLine_eq
    have e2 : tl (Str.ofString " ") = [32] := by decide +kernel
    obtain ⟨pl, pt⟩ := split_tok (z := z) (y := Str.ofString " ") (by rw [e2]; simp) (by decide +kernel) hz
    simp only [w_read_box, bxE1, bxE2, bxT, Bx.go]
    refine ⟨.str z, rfl, ?_⟩
    rw [if_pos (show isTy (D.str z).ty "str" = true from (by decide +kernel : isTy "str" "str" = true))]
    simp only [bxE1, bxE2, bxT, Bx.go]
    refine ⟨⟨by decide +kernel, by omega⟩, _, rfl, pl, pt, ?_⟩
    have bf : (boxW (Txt.split z " ")).frz = boxW (Txt.split z " ") := rfl
    simp only [bf, Bx.go]
    refine ⟨_, d, rfl, hd, ?_⟩
    cases h : Zp.isBox (boxW (Txt.split z " ")) d with
    | true =>
      rw [h] at q
      simp only [bxE1, Bx.go]
      exact q
    | false =>
      rw [h] at q
      simp only [bxE1, Bx.go]
      exact q
  · refine ⟨rfl, ?_⟩
    simp only [w_read_box, bxE1, bxE2, bxT, Bx.go]
    refine ⟨_, rfl, ?_⟩
    rw [hx2]
    simp only [bxE1, bxE2, Bx.go]
    exact q
theorem nS_nat (n : Nat) : tl (nS (n : Nat)) = numL n := tl_num n
theorem nS_neg (n : Nat) : tl (nS (-((n + 1 : Nat) : Int))) = 45 :: numL (n + 1) := by
  show (Str.ofString (toString (Int.negSucc n))).cps.toList = _
  rw [signs_ofString]
  show ("-" ++ Nat.repr (n + 1)).toList.map Char.toNat = _
  rw [String.toList_append, List.map_append, Nat.toList_repr]
  rfl
theorem num_len {n : Nat} (h : smA n) : (numL n).length ≤ 40 := numL_len (by decide) (by have : ((n : Nat) : Int).natAbs = n := rfl; unfold smA at h; omega)
theorem log_sm {i : Int} (h : smA i) : i.natAbs.log2 < 1920 := by
  by_cases h0 : i.natAbs = 0
  · rw [h0]; decide
  · exact (Nat.log2_lt h0).mpr (Nat.lt_trans h (by decide +kernel))
theorem nS_cases (i : Int) : (∃ n : Nat, i = n ∧ tl (nS i) = numL n) ∨ ∃ n : Nat, i = -((n + 1 : Nat) : Int) ∧ tl (nS i) = 45 :: numL (n + 1) := by
  rcases Int.lt_or_le i 0 with h | h
  · obtain ⟨n, rfl⟩ : ∃ n : Nat, i = -((n + 1 : Nat) : Int) := ⟨(-i).toNat - 1, by omega⟩
    exact .inr ⟨n, rfl, nS_neg n⟩
  · obtain ⟨n, rfl⟩ := Int.eq_ofNat_of_zero_le h
    exact .inl ⟨n, rfl, nS_nat n⟩
theorem nS_ascii (i : Int) : ∀ c ∈ tl (nS i), c = 45 ∨ (48 ≤ c ∧ c ≤ 57) := fun c hc => by
  rcases nS_cases i with ⟨n, _, e⟩ | ⟨n, _, e⟩
  · rw [e] at hc
    exact .inr (numL_digits _ c hc)
  · rw [e] at hc
    rcases List.mem_cons.mp hc with rfl | hc
    · exact .inl rfl
    · exact .inr (numL_digits _ c hc)
theorem nS_len {i : Int} (h : smA i) : (tl (nS i)).length ≤ 41 ∧ 0 < (tl (nS i)).length := by
  rcases nS_cases i with ⟨n, rfl, e⟩ | ⟨n, rfl, e⟩
  · have := num_len (n := n) h
    have h1 := List.length_pos_iff.mpr (numL_ne n)
    rw [e]; omega
  · have := num_len (n := n + 1) (by unfold smA at h ⊢; omega)
    rw [e, List.length_cons]; omega
theorem imp_low_text : ∀ ds Q, C_low_text ds Q → B_low_text ds Q := by
  rintro ds Q ⟨e, rfl, he, q⟩
  refine ⟨rfl, ?_⟩
  have sl := sizeLine_eq
  cases e with
  | none =>
    simp only [w_low_text, eD, Bx.go]
    exact q
  | some e =>
    obtain ⟨n, s⟩ := e
    have nl := (nS_len he).1
    have zl := tl_len (nS n)
    simp only [w_low_text, eD, Bx.go]
    cases s
    · simp only [Bx.go]
      exact ⟨log_sm he, by rw [show (Str.ofString "(").length = 1 by decide +kernel, show Str.ofString (toString n) = nS n from rfl]; omega, q⟩
    · simp only [Bx.go]
      exact ⟨log_sm he, by rw [show (Str.ofString "[").length = 1 by decide +kernel, show Str.ofString (toString n) = nS n from rfl]; omega, q⟩
theorem imp_high_text : ∀ ds Q, C_high_text ds Q → B_high_text ds Q := by
  rintro ds Q ⟨e, rfl, he, q⟩
  refine ⟨rfl, ?_⟩
  have sl := sizeLine_eq
  cases e with
  | none =>
    simp only [w_high_text, eD, Bx.go]
    exact q
  | some e =>
    obtain ⟨n, s⟩ := e
    have nl := (nS_len he).1
    have zl := tl_len (nS n)
    simp only [w_high_text, eD, Bx.go]
    refine ⟨log_sm he, ?_⟩
    rw [show Str.ofString (toString n) = nS n from rfl]
    cases s
    · simp only [Bx.go]
      exact ⟨by rw [show (Str.ofString ")").length = 1 by decide +kernel]; omega, q⟩
    · simp only [Bx.go]
      exact ⟨by rw [show (Str.ofString "]").length = 1 by decide +kernel]; omega, q⟩
theorem loS_len {e : Eg} (h : smE e) : (tl (loS e)).length ≤ 42 := by
  cases e with
  | none => show (tl (Str.ofString "-")).length ≤ 42; decide +kernel
  | some e =>
    obtain ⟨n, s⟩ := e
    have := (nS_len h).1
    cases s
    · show (tl (Str.ofString "(" ++ nS n)).length ≤ 42
      rw [tl_append, List.length_append, show (tl (Str.ofString "(")).length = 1 by decide +kernel]; omega
    · show (tl (Str.ofString "[" ++ nS n)).length ≤ 42
      rw [tl_append, List.length_append, show (tl (Str.ofString "[")).length = 1 by decide +kernel]; omega
theorem hiS_len {e : Eg} (h : smE e) : (tl (hiS e)).length ≤ 42 := by
  cases e with
  | none => show (tl (Str.ofString "-")).length ≤ 42; decide +kernel
  | some e =>
    obtain ⟨n, s⟩ := e
    have := (nS_len h).1
    cases s
    · show (tl (nS n ++ Str.ofString ")")).length ≤ 42
      rw [tl_append, List.length_append, show (tl (Str.ofString ")")).length = 1 by decide +kernel]; omega
    · show (tl (nS n ++ Str.ofString "]")).length ≤ 42
      rw [tl_append, List.length_append, show (tl (Str.ofString "]")).length = 1 by decide +kernel]; omega
theorem spS_len {s : Eg × Eg} (h : smE s.1 ∧ smE s.2) : (tl (spS s)).length ≤ 86 := by
  have h1 := loS_len h.1
  have h2 := hiS_len h.2
  unfold spS
  rw [tl_append, tl_append, List.length_append, List.length_append, show (tl (Str.ofString "..")).length = 2 by decide +kernel]
  omega
theorem sum_len {m : Nat} : ∀ {l : List Str}, (∀ z ∈ l, z.length ≤ m) → (l.map (·.length)).sum ≤ m * l.length
  | [], _ => by simp
  | z :: l, h => by
    have h1 := h z List.mem_cons_self
    have h2 := sum_len (l := l) fun y hy => h y (List.mem_cons_of_mem _ hy)
    simp only [List.map_cons, List.sum_cons, List.length_cons]
    rw [Nat.mul_add]; omega
theorem imp_show_box : ∀ ds Q, C_show_box ds Q → B_show_box ds Q := by
  rintro ds Q ⟨b, rfl, bl, hb, q⟩
  refine ⟨rfl, ?_⟩
  have sl := sizeLine_eq
  simp only [w_show_box, boxD, bxT, Bx.go]
  refine ⟨by omega, co_map b sD (fun s => .str (spS s)) (fun s hs acc N hN => ?_) ?_⟩
  · obtain ⟨lo, hi⟩ := s
    obtain ⟨h1, h2⟩ := hb _ hs
    have l1 : (tl (loS lo)).length ≤ 42 := loS_len h1
    have l2 : (tl (hiS hi)).length ≤ 42 := hiS_len h2
    simp only [sD, Bx.go]
    refine ⟨lo, by cases lo <;> rfl, h1, ?_⟩
    simp only [Bx.go]
    refine ⟨by rw [tl_len, tl_len, show (tl (Str.ofString "..")).length = 2 by decide +kernel]; omega, hi, by cases hi <;> rfl, h2, ?_⟩
    simp only [Bx.go]
    refine ⟨by rw [tl_len, tl_len, tl_append, List.length_append, show (tl (Str.ofString "..")).length = 2 by decide +kernel]; omega, ?_⟩
    exact hN
  · simp only [backR, Bx.go]
    rw [show b.map (fun s => D.str (spS s)) = (b.map spS).map D.str by rw [List.map_map]; rfl]
    simp only [bxT, Bx.go]
    refine ⟨?_, q⟩
    have := sum_len (m := 86) (l := b.map spS) fun z hz => by
      obtain ⟨s, hs, rfl⟩ := List.mem_map.mp hz
      rw [tl_len]; exact spS_len (hb s hs)
    rw [List.length_map] at this
    rw [show (Str.ofString " ").length = 1 by decide +kernel]
    omega
theorem imp__law_end : ∀ ds Q, C__law_end ds Q → B__law_end ds Q := by
  rintro ds Q ⟨a, s, l, rfl, l0, l8, hl, q⟩
  refine ⟨rfl, ?_⟩
  have fz : (poolD l).frz = poolD l := rfl
  simp only [w__law_end, Zr.hd, Bx.go]
  refine ⟨a, s, 3, rfl, by decide, by decide, fun r a s h0 h1 => ?_⟩
  simp only [Bx.go]
  refine ⟨eqOk_int _ _, ?_⟩
  refine pick_by (fun _ => ?_) (fun _ => ?_)
  · simp only [Bx.go]
    exact q none a s trivial
  · simp only [fz, Bx.go]
    refine ⟨a, s, l, rfl, l0, l8, fun v a s hv => ?_⟩
    simp only [Zr.hd, Bx.go]
    refine ⟨a, s, 5, rfl, by decide, by decide, fun r a s h0 h1 => ?_⟩
    obtain ⟨u, eu, hu⟩ := atI_of (ns := [0, 0, 0, 1, -1]) (fun u => -1 ≤ u ∧ u ≤ 1) (by decide) h0 (by simpa using h1)
    simp only [List.map] at eu
    simp only [eu, Bx.go]
    refine ⟨a, s, 2, rfl, by decide, by decide, fun r a s h0 h1 => ?_⟩
    simp only [Bx.go]
    refine ⟨eqOk_int _ _, ?_⟩
    have hv := hl v hv
    exact q (some (v + u, _)) a s (by unfold Zr.smI at hv; show (v + u).natAbs < 10 ^ 40; omega)
theorem imp__law_box : ∀ ds Q, C__law_box ds Q → B__law_box ds Q := by
  rintro ds Q ⟨a, s, d, l, rfl, l0, l8, d4, hl, q⟩
  refine ⟨rfl, ?_⟩
  have sl := sizeLine_eq
  have fz : (poolD l).frz = poolD l := rfl
  refine seq_cut (fun ρ => ρ = [some (Zr.hd a s), some (.int d), some (poolD l), some (.lst true []), none, none, none, none]) (fun R hR => ?_) ?_
  · simp only [Bx.go]
    exact hR _ rfl
  rintro _ rfl
  refine seq_cut (fun ρ => ∃ (a s tn : Int), ρ = [some (Zr.hd a s), some (.int d), some (poolD l), some (.lst true []), some (.int tn), none, none, none]) (fun R hR => ?_) ?_
  · simp only [Zr.hd, Bx.go]
    refine ⟨a, s, 2, rfl, by decide, by decide, fun r a s h0 h1 => ?_⟩
    simp only [Bx.go]
    exact hR _ ⟨a, s, r, rfl⟩
  clear a s
  rintro _ ⟨a, s, tn, rfl⟩
  simp only [Bx.go]
  refine ⟨i62_of (by omega) (by omega), ?_⟩
  rw [rangeD_nat]
  refine for_each (List.range (Int.toNat d)) _ (fun dn ρ => ∃ (a s : Int) (b : Bx1) (x5 x6 x7 : Option D), b.length = dn.length ∧ (∀ s ∈ b, smE s.1 ∧ smE s.2) ∧ ρ = [some (Zr.hd a s), some (.int d), some (poolD l), some (.lst true (b.map sD)), some (.int tn), x5, x6, x7]) ⟨a, s, [], _, _, _, rfl, (fun _ h => by cases h), rfl⟩ ?_ ?_
  · rintro dn x r ρ N e ⟨a, s, b, x5, x6, x7, bl, hb, rfl⟩ hN
    have e := congrArg List.length e
    simp at e
    simp only [u1_gT, u2_gT, u1_gsCons, u2_gsCons, u1_gsNil, u2_gsNil, u1_kGs, u1_gN, u1_kForB, rset_s, rset_0, rget_s, rget_0, D.seq, D.sql, u_onSome_some, frz_tup, frz_int, frz_bl, frz_lst, frz_str, frz_non, frz_scr, List.length_cons, List.length_nil, List.map_cons, List.map_nil, Option.bind_some, true_and, and_true]
    refine seq_cut (fun ρ => ∃ (a s : Int) (e1 e2 : Eg), smE e1 ∧ smE e2 ∧ ρ = [some (Zr.hd a s), some (.int d), some (poolD l), some (.lst true (b.map sD)), some (.int tn), some (.int (x : Nat)), some (eD e1), some (eD e2)]) (fun R hR => ?_) ?_
    · simp only [fz, Zr.hd, Bx.go]
      refine ⟨a, s, l, rfl, l0, l8, hl, fun e1 a s h1 => ?_⟩
      simp only [fz, Zr.hd, Zb.eD_frz, Bx.go]
      refine ⟨a, s, l, rfl, l0, l8, hl, fun e2 a s h2 => ?_⟩
      simp only [Zb.eD_frz, Bx.go]
      exact hR _ ⟨a, s, e1, e2, h1, h2, rfl⟩
    clear a s
    rintro _ ⟨a, s, e1, e2, h1, h2, rfl⟩
    refine seq_cut (fun ρ => ∃ (e1 e2 : Eg), smE e1 ∧ smE e2 ∧ ρ = [some (Zr.hd a s), some (.int d), some (poolD l), some (.lst true (b.map sD)), some (.int tn), some (.int (x : Nat)), some (eD e1), some (eD e2)]) (fun R hR => ?_) ?_
    · simp only [Bx.go]
      have id : R [some (Zr.hd a s), some (.int d), some (poolD l), some (.lst true (b.map sD)), some (.int tn), some (.int (x : Nat)), some (eD e1), some (eD e2)] := hR _ ⟨e1, e2, h1, h2, rfl⟩
      refine ⟨eqOk_int _ _, ?_⟩
      refine pick_by (fun _ => ?_) (fun _ => ?_)
      · cases e1 with
        | none =>
          simp only [eD, Bx.go]
          exact id
        | some e1 =>
          cases e2 with
          | none =>
            simp only [eD, Bx.go]
            exact id
          | some e2 =>
            simp only [eD, p0, Bx.go]
            refine pick_by (fun _ => ?_) (fun _ => ?_)
            · simp only [Bx.go]
              exact hR _ ⟨some e2, some e1, h2, h1, rfl⟩
            · simp only [Bx.go]
              exact id
      · simp only [Bx.go]
        exact id
    clear h1 h2 e1 e2
    rintro _ ⟨e1, e2, h1, h2, rfl⟩
    simp only [Zb.eD_frz, Bx.go]
    refine ⟨by omega, hN _ ⟨a, s, b ++ [(e1, e2)], _, _, _, by simp [bl], fun z hz => ?_, by rw [List.map_append]; rfl⟩⟩
    rcases List.mem_append.mp hz with hz | hz
    · exact hb z hz
    · simp at hz; subst hz; exact ⟨h1, h2⟩
  · rintro ρ ⟨a, s, b, x5, x6, x7, bl, hb, rfl⟩
    simp at bl
    simp only [Bx.go]
    exact q b a s bl hb
theorem numL_head (n : Nat) (h0 : 0 < n) : ∀ c r, numL n = c :: r → c ≠ 48 := by
  induction n using Nat.strongRecOn with
  | _ n ih =>
    intro c r e
    by_cases h : n < 10
    · rw [numL_lt h] at e
      simp at e
      omega
    · rw [numL_step (by omega)] at e
      cases e2 : numL (n / 10) with
      | nil => exact absurd e2 (numL_ne _)
      | cons c' r' =>
        rw [e2] at e
        simp at e
        have := ih (n / 10) (by omega) (by omega) c' r' e2
        rw [← e.1]; exact this
theorem dg_num (n : Nat) : (numL n).all dg = true := List.all_eq_true.mpr fun c hc => by
  have := numL_digits n c hc
  unfold dg
  exact decide_eq_true this
theorem figO_num {n : Nat} (h : (numL n).length < 4000) : figO (numL n) = some n := by
  have h1 := List.length_pos_iff.mpr (numL_ne n)
  have h2 : ((numL n).head? == some 48 && !(numL n == [48])) = false := by
    by_cases h0 : n = 0
    · subst h0
      decide +kernel
    · obtain ⟨c, r, e⟩ : ∃ c r, numL n = c :: r := by
        cases e : numL n with
        | nil => exact absurd e (numL_ne n)
        | cons c r => exact ⟨c, r, rfl⟩
      have := numL_head n (by omega) c r e
      rw [e]
      simp [this]
  unfold figO
  rw [if_pos, numL_val]
  rw [decide_eq_true h1, decide_eq_true h, dg_num, h2]
  rfl
theorem numO_nS {i : Int} (h : smA i) : numO (tl (nS i)) = some i := by
  unfold numO
  rcases nS_cases i with ⟨n, rfl, e⟩ | ⟨n, rfl, e⟩
  · have ln := num_len (n := n) h
    obtain ⟨c, r, e2⟩ : ∃ c r, numL n = c :: r := by
      cases e : numL n with
      | nil => exact absurd e (numL_ne n)
      | cons c r => exact ⟨c, r, rfl⟩
    have hc := numL_digits n c (by rw [e2]; exact List.mem_cons_self)
    rw [e, if_neg, figO_num (by omega)]
    · rfl
    · rw [e2]
      simp
      omega
  · have ln := num_len (n := n + 1) (by unfold smA at h ⊢; omega)
    rw [e]
    show negO (figO (numL (n + 1))) = _
    rw [figO_num (by omega)]; rfl
theorem nS_ne (i : Int) : tl (nS i) ≠ [] := by
  rcases nS_cases i with ⟨n, _, e⟩ | ⟨n, _, e⟩
  · rw [e]; exact numL_ne n
  · rw [e]; simp
theorem lowO_lo {e : Eg} (h : smE e) : lowO (tl (loS e)) = some e := by
  cases e with
  | none => decide +kernel
  | some e =>
    obtain ⟨n, s⟩ := e
    have e1 : tl (loS (some (n, s))) = (if s then 91 else 40) :: tl (nS n) := by
      cases s
      · show tl (Str.ofString "(" ++ nS n) = _
        rw [tl_append, show tl (Str.ofString "(") = [40] by decide +kernel]; rfl
      · show tl (Str.ofString "[" ++ nS n) = _
        rw [tl_append, show tl (Str.ofString "[") = [91] by decide +kernel]; rfl
    unfold lowO
    rw [e1, if_neg]
    · show (numO (tl (nS n))).bind _ = _
      rw [numO_nS h]
      cases s <;> rfl
    · cases s <;> simp
theorem highO_hi {e : Eg} (h : smE e) : highO (tl (hiS e)) = some e := by
  cases e with
  | none => decide +kernel
  | some e =>
    obtain ⟨n, s⟩ := e
    have e1 : tl (hiS (some (n, s))) = tl (nS n) ++ [if s then 93 else 41] := by
      cases s
      · show tl (nS n ++ Str.ofString ")") = _
        rw [tl_append, show tl (Str.ofString ")") = [41] by decide +kernel]; rfl
      · show tl (nS n ++ Str.ofString "]") = _
        rw [tl_append, show tl (Str.ofString "]") = [93] by decide +kernel]; rfl
    have h0 := nS_ne n
    unfold highO
    rw [e1, if_neg, List.dropLast_concat, List.getLast?_concat, numO_nS h]
    · cases s <;> rfl
    · intro z
      have z := eq_of_beq z
      have := congrArg List.getLast? z
      rw [List.getLast?_concat] at this
      cases s <;> simp at this
theorem lo_signs (e : Eg) : ∀ c ∈ tl (loS e), c = 45 ∨ (48 ≤ c ∧ c ≤ 57) ∨ c = 91 ∨ c = 40 := fun c hc => by
  cases e with
  | none =>
    rw [show tl (loS none) = [45] by decide +kernel] at hc
    simp at hc; exact .inl hc
  | some e =>
    obtain ⟨n, s⟩ := e
    cases s
    · have hc : c ∈ tl (Str.ofString "(" ++ nS n) := hc
      rw [tl_append, show tl (Str.ofString "(") = [40] by decide +kernel] at hc
      rcases List.mem_append.mp hc with hc | hc
      · simp at hc; exact .inr (.inr (.inr hc))
      · rcases nS_ascii n c hc with h | h
        · exact .inl h
        · exact .inr (.inl h)
    · have hc : c ∈ tl (Str.ofString "[" ++ nS n) := hc
      rw [tl_append, show tl (Str.ofString "[") = [91] by decide +kernel] at hc
      rcases List.mem_append.mp hc with hc | hc
      · simp at hc; exact .inr (.inr (.inl hc))
      · rcases nS_ascii n c hc with h | h
        · exact .inl h
        · exact .inr (.inl h)
theorem hi_signs (e : Eg) : ∀ c ∈ tl (hiS e), c = 45 ∨ (48 ≤ c ∧ c ≤ 57) ∨ c = 93 ∨ c = 41 := fun c hc => by
  cases e with
  | none =>
    rw [show tl (hiS none) = [45] by decide +kernel] at hc
    simp at hc; exact .inl hc
  | some e =>
    obtain ⟨n, s⟩ := e
    cases s
    · have hc : c ∈ tl (nS n ++ Str.ofString ")") := hc
      rw [tl_append, show tl (Str.ofString ")") = [41] by decide +kernel] at hc
      rcases List.mem_append.mp hc with hc | hc
      · rcases nS_ascii n c hc with h | h
        · exact .inl h
        · exact .inr (.inl h)
      · simp at hc; exact .inr (.inr (.inr hc))
    · have hc : c ∈ tl (nS n ++ Str.ofString "]") := hc
      rw [tl_append, show tl (Str.ofString "]") = [93] by decide +kernel] at hc
      rcases List.mem_append.mp hc with hc | hc
      · rcases nS_ascii n c hc with h | h
        · exact .inl h
        · exact .inr (.inl h)
      · simp at hc; exact .inr (.inr (.inl hc))
theorem sp_tl (s : Eg × Eg) : tl (spS s) = tl (loS s.1) ++ ([46, 46] ++ tl (hiS s.2)) := by
  unfold spS
  rw [tl_append, tl_append, show tl (Str.ofString "..") = [46, 46] by decide +kernel, List.append_assoc]
theorem spanO_sp {s : Eg × Eg} (h : smE s.1 ∧ smE s.2) : spanO (tl (spS s)) = some (some s.1, some s.2) := by
  unfold spanO
  rw [sp_tl, spl_part1 (s := 46) (S := [46]) fun z => by rcases lo_signs _ _ z with h | h | h | h <;> omega, spl_last1 (s := 46) (S := [46]) fun z => by rcases hi_signs _ _ z with h | h | h | h <;> omega]
  show some (lowO (tl (loS s.1)), highO (tl (hiS s.2))) = _
  rw [lowO_lo h.1, highO_hi h.2]
theorem box_split {b : Bx1} (h : b ≠ []) : Txt.split (boxS b) " " = b.map spS := by
  refine split_join (y := Str.ofString " ") (s := 32) (S := []) (by decide +kernel) (by decide +kernel) (by simpa using h) fun z hz hc => ?_
  obtain ⟨s, _, rfl⟩ := List.mem_map.mp hz
  rw [sp_tl] at hc
  rcases List.mem_append.mp hc with hc | hc
  · rcases lo_signs _ _ hc with h | h | h | h <;> omega
  · rcases List.mem_append.mp hc with hc | hc
    · simp at hc
    · rcases hi_signs _ _ hc with h | h | h | h <;> omega
theorem boxW_sp {b : Bx1} (h : ∀ s ∈ b, smE s.1 ∧ smE s.2) : boxW (b.map spS) = boxD b := by
  unfold boxW boxD
  rw [List.map_map]
  congr 1
  refine List.map_congr_left fun s hs => ?_
  show spanD (spanO (tl (spS s))) = _
  rw [spanO_sp (h s hs)]; rfl
theorem isBox_box (b : Bx1) (d : Int) : Zp.isBox (boxD b) d = ((b.length : Int) == d) := by
  show (((b.map sD).length : Int) == d && (b.map sD).all isSpan) = _
  rw [List.length_map, List.all_map, show b.all (isSpan ∘ sD) = true by
    rw [List.all_eq_true]
    rintro ⟨lo, hi⟩ _
    cases lo <;> cases hi <;> rfl]
  rw [Bool.and_true]
theorem joinL_len {y : List Nat} {m : Nat} : ∀ {l : List (List Nat)}, (∀ z ∈ l, z.length ≤ m) → (joinL y l).length ≤ (m + y.length) * l.length
  | [], _ => Nat.zero_le _
  | [p], h => by
    have := h p List.mem_cons_self
    show p.length ≤ _
    simp
    omega
  | p :: q :: r, h => by
    have h1 := h p List.mem_cons_self
    have h2 := joinL_len (y := y) (l := q :: r) fun z hz => h z (List.mem_cons_of_mem _ hz)
    show (p ++ (y ++ joinL y (q :: r))).length ≤ _
    rw [List.length_append, List.length_append]
    simp only [List.length_cons] at h2 ⊢
    rw [Nat.mul_add]
    omega
theorem mem_joinL {y : List Nat} {c : Nat} : ∀ {l : List (List Nat)}, c ∈ joinL y l → c ∈ y ∨ ∃ p ∈ l, c ∈ p
  | [], h => by cases h
  | [p], h => .inr ⟨p, List.mem_cons_self, h⟩
  | p :: q :: r, h => by
    have h : c ∈ p ++ (y ++ joinL y (q :: r)) := h
    rcases List.mem_append.mp h with h | h
    · exact .inr ⟨p, List.mem_cons_self, h⟩
    · rcases List.mem_append.mp h with h | h
      · exact .inl h
      · rcases mem_joinL h with h | ⟨p', hp, h⟩
        · exact .inl h
        · exact .inr ⟨p', List.mem_cons_of_mem _ hp, h⟩
theorem join_tl (y : Str) (l : List Str) : tl (Txt.join y l) = joinL (tl y) (l.map tl) := by rw [join_eq, tl_join]
theorem box_signs (b : Bx1) : ∀ c ∈ tl (boxS b), c < 128 := fun c hc => by
  unfold boxS at hc
  rw [join_tl] at hc
  rcases mem_joinL hc with hc | ⟨p, hp, hc⟩
  · rw [show tl (Str.ofString " ") = [32] by decide +kernel] at hc
    simp at hc; omega
  · obtain ⟨z, hz, rfl⟩ := List.mem_map.mp hp
    obtain ⟨s, _, rfl⟩ := List.mem_map.mp hz
    rw [sp_tl] at hc
    rcases List.mem_append.mp hc with hc | hc
    · rcases lo_signs _ _ hc with h | h | h | h <;> omega
    · rcases List.mem_append.mp hc with hc | hc
      · simp at hc; omega
      · rcases hi_signs _ _ hc with h | h | h | h <;> omega
theorem box_tok {b : Bx1} (hl : b.length ≤ 1000) (h : ∀ s ∈ b, smE s.1 ∧ smE s.2) : tok (boxS b) := by
  refine ⟨fun c hc => by have := box_signs b c hc; omega, ?_⟩
  unfold boxS
  rw [join_tl]
  have := joinL_len (y := tl (Str.ofString " ")) (m := 86) (l := (b.map spS).map tl) fun z hz => by
    obtain ⟨y, hy, rfl⟩ := List.mem_map.mp hz
    obtain ⟨s, hs, rfl⟩ := List.mem_map.mp hy
    exact spS_len (h s hs)
  rw [show (tl (Str.ofString " ")).length = 1 by decide +kernel] at this
  simp only [List.length_map] at this
  omega
theorem q1 {x y : D} : atI [x, y] 1 = some y := rfl
theorem imp__law_box_text : ∀ ds Q, C__law_box_text ds Q → B__law_box_text ds Q := by
  rintro ds Q ⟨b, rfl, bl, hb, q⟩
  refine ⟨rfl, ?_⟩
  have sl := sizeLine_eq
  simp only [w__law_box_text, boxD, Bx.go]
  refine for_each b sD (fun dn ρ => ∃ x2 x3 x4 : Option D, ρ = [some (.tup (b.map sD)), some (.lst true ((dn.map spS).map .str)), x2, x3, x4]) ⟨_, _, _, rfl⟩ ?_ ?_
  · rintro dn s r ρ N e ⟨x2, x3, x4, rfl⟩ hN
    obtain ⟨lo, hi⟩ := s
    have e2 := congrArg List.length e
    simp at e2
    have dl : dn.length < 1000 := by omega
    obtain ⟨h1, h2⟩ := hb (lo, hi) (by rw [e]; simp)
    have l1 : (tl (loS lo)).length ≤ 42 := loS_len h1
    have l2 : (tl (hiS hi)).length ≤ 42 := hiS_len h2
    simp only [sD, u1_gT, u2_gT, u1_gsCons, u2_gsCons, u1_gsNil, u2_gsNil, u1_kGs, u1_gN, u1_kForB, rset_s, rset_0, rget_s, rget_0, D.seq, D.sql, u_onSome_some, frz_tup, frz_int, frz_bl, frz_lst, frz_str, frz_non, frz_scr, List.length_cons, List.length_nil, List.map_cons, List.map_nil, Option.bind_some, true_and, and_true]
    refine seq_cut (fun ρ => ρ = [some (.tup (b.map sD)), some (.lst true ((dn.map spS).map .str)), some (eD lo), some (eD hi), some (.str (loS lo))]) (fun R hR => ?_) ?_
    · cases lo with
      | none =>
        simp only [eD, Bx.go]
        exact hR _ rfl
      | some lo =>
        obtain ⟨n, s⟩ := lo
        have nl := (nS_len h1).1
        have zl := tl_len (nS n)
        simp only [eD, p0, q1, gInt, Bx.go]
        cases s
        · rw [show atI [D.str (Str.ofString "("), D.str (Str.ofString "[")] (if false = true then 1 else 0) = some (.str "(") from rfl]
          simp only [Bx.go]
          exact ⟨log_sm h1, by rw [show (Str.ofString "(").length = 1 by decide +kernel, show Str.ofString (toString n) = nS n from rfl]; omega, hR _ rfl⟩
        · rw [show atI [D.str (Str.ofString "("), D.str (Str.ofString "[")] (if true = true then 1 else 0) = some (.str "[") from rfl]
          simp only [Bx.go]
          exact ⟨log_sm h1, by rw [show (Str.ofString "[").length = 1 by decide +kernel, show Str.ofString (toString n) = nS n from rfl]; omega, hR _ rfl⟩
    rintro _ rfl
    have zl1 := tl_len (loS lo)
    cases hi with
    | none =>
      simp only [eD, Bx.go]
      refine ⟨by rw [show (Str.ofString "..").length = 2 by decide +kernel]; omega, ?_⟩
      refine ⟨by rw [show (Str.ofString "-").length = 1 by decide +kernel, tl_len, tl_append, List.length_append, show (tl (Str.ofString "..")).length = 2 by decide +kernel]; omega, by omega, hN _ ⟨_, _, _, by rw [List.map_append, List.map_append]; rfl⟩⟩
    | some hi =>
      obtain ⟨n, s⟩ := hi
      have nl := (nS_len h2).1
      have zl := tl_len (nS n)
      simp only [eD, p0, q1, gInt, Bx.go]
      cases s
      · refine ⟨by rw [show (Str.ofString "..").length = 2 by decide +kernel]; omega, log_sm h2, ?_⟩
        rw [show atI [D.str (Str.ofString ")"), D.str (Str.ofString "]")] (if false = true then 1 else 0) = some (.str ")") from rfl]
        simp only [Bx.go]
        refine ⟨by rw [show (Str.ofString ")").length = 1 by decide +kernel, show Str.ofString (toString n) = nS n from rfl]; omega, ?_, by omega, hN _ ⟨_, _, _, by rw [List.map_append, List.map_append]; rfl⟩⟩
        rw [show Str.ofString (toString n) = nS n from rfl, tl_len, tl_len, tl_append, tl_append, List.length_append, List.length_append, show (tl (Str.ofString "..")).length = 2 by decide +kernel, show (tl (Str.ofString ")")).length = 1 by decide +kernel]
        omega
      · refine ⟨by rw [show (Str.ofString "..").length = 2 by decide +kernel]; omega, log_sm h2, ?_⟩
        rw [show atI [D.str (Str.ofString ")"), D.str (Str.ofString "]")] (if true = true then 1 else 0) = some (.str "]") from rfl]
        simp only [Bx.go]
        refine ⟨by rw [show (Str.ofString "]").length = 1 by decide +kernel, show Str.ofString (toString n) = nS n from rfl]; omega, ?_, by omega, hN _ ⟨_, _, _, by rw [List.map_append, List.map_append]; rfl⟩⟩
        rw [show Str.ofString (toString n) = nS n from rfl, tl_len, tl_len, tl_append, tl_append, List.length_append, List.length_append, show (tl (Str.ofString "..")).length = 2 by decide +kernel, show (tl (Str.ofString "]")).length = 1 by decide +kernel]
        omega
  · rintro ρ ⟨x2, x3, x4, rfl⟩
    dsimp only
    simp only [bxT, Bx.go]
    refine ⟨?_, q⟩
    have := sum_len (m := 86) (l := b.map spS) fun z hz => by
      obtain ⟨s, hs, rfl⟩ := List.mem_map.mp hz
      rw [tl_len]; exact spS_len (hb s hs)
    rw [List.length_map] at this
    rw [show (Str.ofString " ").length = 1 by decide +kernel]
    omega
theorem lk_t : List.lookup ("NoText" : Str) [("NoText", true)] = some true := by decide +kernel
theorem lk_f : List.lookup ("NoText" : Str) [("NoText", false)] = some false := by decide +kernel
theorem lk_in : (["NoText"] : List Str).contains "NoText" = true := by decide +kernel
theorem told_no {Q : D → List D → Prop} {h : D} (q : Q noneD []) : (dSeq (dIfS (tVal (dBin gIsN (oVar 2) (oVal (dC .non))))
    (dRet (dTup (aCons (oVal (dC (.str "read"))) (aCons (oVar 1) aNil))))
    dNext)
    (dSeq (dIfS (tOr (tNot (tVal (dIsX [("NoText", true)] (oVar 2)))) (tNot (tVal (dIsX [("NoText", true)] (oVar 2)))))
    (dRet (dTup (aCons (oVal (dC (.str "other"))) (aCons (oVal (dC .non)) aNil))))
    dNext)
    (dRet (dIf (tVal (dIsX [("NoText", false)] (oVar 2))) (dTup (aCons (oVal (dC (.str "other"))) (aCons (oVal (dC .non)) aNil))) (dTup (aCons (oVal (dC (.str "none"))) (aCons (oVal (dC .non)) aNil))))))) (endsOf [] Q) [some h, some .non, some (.exc "NoText" none), none] := by
  simp only [bxE1, bxE2, Bx.go]
  rw [lk_t]
  simp only [bxE1, bxE2, Bx.go]
  rw [lk_t]
  simp only [bxE1, bxE2, Bx.go]
  rw [lk_f]
  simp only [Bx.go]
  exact q
theorem imp__law_told : ∀ ds Q, C__law_told ds Q → B__law_told ds Q := by
  rintro ds Q (⟨z, d, rfl, hz, hd, q⟩ | ⟨x, d, rfl, hx, hf, q⟩)
  · refine ⟨rfl, ?_⟩
    refine seq_cut (fun ρ => ρ = [some (.tup [.str z, .int d]), some .non, some .non, none]) (fun R hR => ?_) ?_
    · simp only [Bx.go]
      exact hR _ rfl
    rintro _ rfl
    have bf : (boxW (Txt.split z " ")).frz = boxW (Txt.split z " ") := rfl
    cases h : Zp.isBox (boxW (Txt.split z " ")) d with
    | true =>
      rw [h, if_pos rfl] at q
      refine seq_cut (fun ρ => ρ = [some (.tup [.str z, .int d]), some (boxW (Txt.split z " ")), some .non, none]) (fun R hR => ?_) ?_
      · simp only [bxE1, bxE2, p0, q1, Bx.go]
        refine .inl ⟨z, d, rfl, hz, hd, ?_⟩
        rw [h, if_pos rfl]
        simp only [Bx.go]
        exact hR _ rfl
      rintro _ rfl
      simp only [bf, Bx.go]
      exact q
    | false =>
      rw [h, if_neg (by decide)] at q
      refine seq_cut (fun ρ => ρ = [some (.tup [.str z, .int d]), some .non, some (.exc "NoText" none), none]) (fun R hR => ?_) ?_
      · simp only [bxE1, bxE2, p0, q1, Bx.go]
        refine .inl ⟨z, d, rfl, hz, hd, ?_⟩
        rw [h, if_neg (by decide)]
        simp only [bxE1, bxE2, Bx.go]
        exact ⟨lk_in, hR _ rfl⟩
      rintro _ rfl
      exact told_no q
  · refine ⟨rfl, ?_⟩
    refine seq_cut (fun ρ => ρ = [some (.tup [x, .int d]), some .non, some .non, none]) (fun R hR => ?_) ?_
    · simp only [Bx.go]
      exact hR _ rfl
    rintro _ rfl
    refine seq_cut (fun ρ => ρ = [some (.tup [x, .int d]), some .non, some (.exc "NoText" none), none]) (fun R hR => ?_) ?_
    · simp only [bxE1, bxE2, p0, q1, hf, Bx.go]
      refine .inr ⟨x, d, rfl, hx, by rw [hf]; exact hx, ?_⟩
      simp only [bxE1, bxE2, Bx.go]
      exact ⟨lk_in, hR _ rfl⟩
    rintro _ rfl
    exact told_no q
end Yo
namespace K71
open PySem PySem.Spec PyProof.Rows L2 Bx
abbrev topS (i : Nat) : Stmt := PySem.Challenge.pw_boxlayers_k71_boxes_as_texts.main.body.getD i (.Pass ⟨0, 0, 0, 0⟩)
abbrev s_is_whole : Stmt := topS 1
abbrev N_is_whole : List Str := ["thing"]
abbrev P_is_whole : List Str := ["thing"]
theorem sc_is_whole : FnScope N_is_whole P_is_whole (defScope s_is_whole) := ⟨rfl, rfl, rfl, by decide +kernel, rfl, by decide +kernel, by decide +kernel⟩
abbrev s_is_end : Stmt := topS 2
abbrev N_is_end : List Str := ["thing"]
abbrev P_is_end : List Str := ["thing"]
theorem sc_is_end : FnScope N_is_end P_is_end (defScope s_is_end) := ⟨rfl, rfl, rfl, by decide +kernel, rfl, by decide +kernel, by decide +kernel⟩
abbrev s_is_span : Stmt := topS 3
abbrev N_is_span : List Str := ["thing"]
abbrev P_is_span : List Str := ["thing"]
theorem sc_is_span : FnScope N_is_span P_is_span (defScope s_is_span) := ⟨rfl, rfl, rfl, by decide +kernel, rfl, by decide +kernel, by decide +kernel⟩
abbrev s_is_box : Stmt := topS 4
abbrev N_is_box : List Str := ["thing", "d", "span"]
abbrev P_is_box : List Str := ["thing", "d"]
theorem sc_is_box : FnScope N_is_box P_is_box (defScope s_is_box) := ⟨rfl, rfl, rfl, by decide +kernel, rfl, by decide +kernel, by decide +kernel⟩
abbrev s_figures_in : Stmt := topS 15
abbrev N_figures_in : List Str := ["word", "sign"]
abbrev P_figures_in : List Str := ["word"]
theorem sc_figures_in : FnScope N_figures_in P_figures_in (defScope s_figures_in) := ⟨rfl, rfl, rfl, by decide +kernel, rfl, by decide +kernel, by decide +kernel⟩
abbrev s_number_in : Stmt := topS 16
abbrev N_number_in : List Str := ["word", "number"]
abbrev P_number_in : List Str := ["word"]
theorem sc_number_in : FnScope N_number_in P_number_in (defScope s_number_in) := ⟨rfl, rfl, rfl, by decide +kernel, rfl, by decide +kernel, by decide +kernel⟩
abbrev s_low_in : Stmt := topS 17
abbrev N_low_in : List Str := ["word", "number"]
abbrev P_low_in : List Str := ["word"]
theorem sc_low_in : FnScope N_low_in P_low_in (defScope s_low_in) := ⟨rfl, rfl, rfl, by decide +kernel, rfl, by decide +kernel, by decide +kernel⟩
abbrev s_high_in : Stmt := topS 18
abbrev N_high_in : List Str := ["word", "number"]
abbrev P_high_in : List Str := ["word"]
theorem sc_high_in : FnScope N_high_in P_high_in (defScope s_high_in) := ⟨rfl, rfl, rfl, by decide +kernel, rfl, by decide +kernel, by decide +kernel⟩
abbrev s_span_in_word : Stmt := topS 19
abbrev N_span_in_word : List Str := ["word", "ends"]
abbrev P_span_in_word : List Str := ["word"]
theorem sc_span_in_word : FnScope N_span_in_word P_span_in_word (defScope s_span_in_word) := ⟨rfl, rfl, rfl, by decide +kernel, rfl, by decide +kernel, by decide +kernel⟩
abbrev s_box_in : Stmt := topS 20
abbrev N_box_in : List Str := ["words", "word"]
abbrev P_box_in : List Str := ["words"]
theorem sc_box_in : FnScope N_box_in P_box_in (defScope s_box_in) := ⟨rfl, rfl, rfl, by decide +kernel, rfl, by decide +kernel, by decide +kernel⟩
abbrev s_look_text : Stmt := topS 21
abbrev N_look_text : List Str := ["text"]
abbrev P_look_text : List Str := ["text"]
theorem sc_look_text : FnScope N_look_text P_look_text (defScope s_look_text) := ⟨rfl, rfl, rfl, by decide +kernel, rfl, by decide +kernel, by decide +kernel⟩
abbrev s_read_box : Stmt := topS 22
abbrev N_read_box : List Str := ["text", "d", "box"]
abbrev P_read_box : List Str := ["text", "d"]
theorem sc_read_box : FnScope N_read_box P_read_box (defScope s_read_box) := ⟨rfl, rfl, rfl, by decide +kernel, rfl, by decide +kernel, by decide +kernel⟩
abbrev s_low_text : Stmt := topS 24
abbrev N_low_text : List Str := ["end", "number", "shut"]
abbrev P_low_text : List Str := ["end"]
theorem sc_low_text : FnScope N_low_text P_low_text (defScope s_low_text) := ⟨rfl, rfl, rfl, by decide +kernel, rfl, by decide +kernel, by decide +kernel⟩
abbrev s_high_text : Stmt := topS 25
abbrev N_high_text : List Str := ["end", "number", "shut"]
abbrev P_high_text : List Str := ["end"]
theorem sc_high_text : FnScope N_high_text P_high_text (defScope s_high_text) := ⟨rfl, rfl, rfl, by decide +kernel, rfl, by decide +kernel, by decide +kernel⟩
abbrev s_show_box : Stmt := topS 26
abbrev N_show_box : List Str := ["box", "low", "high"]
abbrev P_show_box : List Str := ["box"]
theorem sc_show_box : FnScope N_show_box P_show_box (defScope s_show_box) := ⟨rfl, rfl, rfl, by decide +kernel, rfl, by decide +kernel, by decide +kernel⟩
abbrev s__law_cell_at : Stmt := topS 28
abbrev N__law_cell_at : List Str := ["_law_script", "_law_k"]
abbrev P__law_cell_at : List Str := ["_law_script", "_law_k"]
theorem sc__law_cell_at : FnScope N__law_cell_at P__law_cell_at (defScope s__law_cell_at) := ⟨rfl, rfl, rfl, by decide +kernel, rfl, by decide +kernel, by decide +kernel⟩
abbrev s__law_left : Stmt := topS 29
abbrev N__law_left : List Str := ["_law_script", "_law_k", "_law_cell", "_law_seed"]
abbrev P__law_left : List Str := ["_law_script", "_law_k"]
theorem sc__law_left : FnScope N__law_left P__law_left (defScope s__law_left) := ⟨rfl, rfl, rfl, by decide +kernel, rfl, by decide +kernel, by decide +kernel⟩
abbrev s__law_pick : Stmt := topS 30
abbrev N__law_pick : List Str := ["_law_left_here", "_law_many", "_law_digit"]
abbrev P__law_pick : List Str := ["_law_left_here", "_law_many"]
theorem sc__law_pick : FnScope N__law_pick P__law_pick (defScope s__law_pick) := ⟨rfl, rfl, rfl, by decide +kernel, rfl, by decide +kernel, by decide +kernel⟩
abbrev s__law_pool : Stmt := topS 31
abbrev N__law_pool : List Str := ["_law_left_here", "_law_low", "_law_stride", "_law_k"]
abbrev P__law_pool : List Str := ["_law_left_here"]
theorem sc__law_pool : FnScope N__law_pool P__law_pool (defScope s__law_pool) := ⟨rfl, rfl, rfl, by decide +kernel, rfl, by decide +kernel, by decide +kernel⟩
abbrev s__law_number : Stmt := topS 32
abbrev N__law_number : List Str := ["_law_left_here", "_law_pool_here"]
abbrev P__law_number : List Str := ["_law_left_here", "_law_pool_here"]
theorem sc__law_number : FnScope N__law_number P__law_number (defScope s__law_number) := ⟨rfl, rfl, rfl, by decide +kernel, rfl, by decide +kernel, by decide +kernel⟩
abbrev s__law_end : Stmt := topS 33
abbrev N__law_end : List Str := ["_law_left_here", "_law_pool_here"]
abbrev P__law_end : List Str := ["_law_left_here", "_law_pool_here"]
theorem sc__law_end : FnScope N__law_end P__law_end (defScope s__law_end) := ⟨rfl, rfl, rfl, by decide +kernel, rfl, by decide +kernel, by decide +kernel⟩
abbrev s__law_box : Stmt := topS 34
abbrev N__law_box : List Str := ["_law_left_here", "_law_d", "_law_pool_here", "_law_spans", "_law_turn", "_law_i", "_law_low", "_law_high"]
abbrev P__law_box : List Str := ["_law_left_here", "_law_d", "_law_pool_here"]
theorem sc__law_box : FnScope N__law_box P__law_box (defScope s__law_box) := ⟨rfl, rfl, rfl, by decide +kernel, rfl, by decide +kernel, by decide +kernel⟩
abbrev s__law_box_text : Stmt := topS 35
abbrev N__law_box_text : List Str := ["_law_box_here", "_law_words", "_law_low", "_law_high", "_law_word"]
abbrev P__law_box_text : List Str := ["_law_box_here"]
theorem sc__law_box_text : FnScope N__law_box_text P__law_box_text (defScope s__law_box_text) := ⟨rfl, rfl, rfl, by decide +kernel, rfl, by decide +kernel, by decide +kernel⟩
abbrev s__law_same : Stmt := topS 36
abbrev N__law_same : List Str := ["_law_found", "_law_due", "_law_one", "_law_other"]
abbrev P__law_same : List Str := ["_law_found", "_law_due"]
theorem sc__law_same : FnScope N__law_same P__law_same (defScope s__law_same) := ⟨rfl, rfl, rfl, by decide +kernel, rfl, by decide +kernel, by decide +kernel⟩
abbrev s__law_told : Stmt := topS 37
abbrev N__law_told : List Str := ["_law_handed", "_law_found", "_law_caught", "e"]
abbrev P__law_told : List Str := ["_law_handed"]
theorem sc__law_told : FnScope N__law_told P__law_told (defScope s__law_told) := ⟨rfl, rfl, rfl, by decide +kernel, rfl, by decide +kernel, by decide +kernel⟩
abbrev s_law : Stmt := topS 38
abbrev N_law : List Str := ["_law_script", "_law_k", "_law_left_here", "_law_d", "_law_box_here", "_law_text", "_law_turn", "_law_other"]
abbrev P_law : List Str := ["_law_script"]
theorem sc_law : FnScope N_law P_law (defScope s_law) := ⟨rfl, rfl, rfl, by decide +kernel, rfl, by decide +kernel, by decide +kernel⟩
abbrev C_is_whole : PSpec := Zb.C_is_whole
abbrev C_is_end : PSpec := Zp.C_is_end
abbrev C_is_span : PSpec := Zp.C_is_span
abbrev C_is_box : PSpec := Zp.C_is_box
abbrev C_figures_in : PSpec := Yo.C_figures_in
abbrev C_number_in : PSpec := Yo.C_number_in
abbrev C_low_in : PSpec := Yo.C_low_in
abbrev C_high_in : PSpec := Yo.C_high_in
abbrev C_span_in_word : PSpec := Yo.C_span_in_word
abbrev C_box_in : PSpec := Yo.C_box_in
abbrev C_look_text : PSpecX := Yo.C_look_text
abbrev C_read_box : PSpecX := Yo.C_read_box
abbrev C_low_text : PSpec := Yo.C_low_text
abbrev C_high_text : PSpec := Yo.C_high_text
abbrev C_show_box : PSpec := Yo.C_show_box
abbrev C__law_cell_at : PSpec := Zr.C__law_cell_at
abbrev C__law_left : PSpec := Zr.C__law_left
abbrev C__law_pick : PSpec := Zr.C__law_pick
abbrev C__law_pool : PSpec := Zr.C__law_pool
abbrev C__law_number : PSpec := Zr.C__law_number
abbrev C__law_end : PSpec := Yo.C__law_end
abbrev C__law_box : PSpec := Yo.C__law_box
abbrev C__law_box_text : PSpec := Yo.C__law_box_text
abbrev C__law_same : Nat → PSpec := Zp.C__law_same1
abbrev lv__law_same : Nat := 10
theorem zero__law_same : ∀ ds Q, ¬ C__law_same 0 ds Q := Zp.zero__law_same1
abbrev C__law_told : PSpec := Yo.C__law_told
abbrev c_FIGURES : D := .str "0123456789"
abbrev c_MOST_SIGNS : D := .int 4000
end K71
namespace K71
open PySem PySem.Spec PyProof.Rows L2 Bx Zb Zp Zh Zr Zs Yo
def C_law : PSpec := CLaw
end K71
namespace K71
open PySem PySem.Spec PyProof.Rows L2 Bx
abbrev w_is_whole : DS := Zb.w_is_whole
abbrev B_is_whole : PSpec := bodyW [] 1 1 w_is_whole
theorem imp_is_whole : ∀ ds Q, C_is_whole ds Q → B_is_whole ds Q := Zb.imp_is_whole
abbrev w_is_end : DS := Zp.w_is_end
abbrev B_is_end : PSpec := bodyW [] 1 1 w_is_end
theorem imp_is_end : ∀ ds Q, C_is_end ds Q → B_is_end ds Q := Zp.imp_is_end
abbrev w_is_span : DS := Zp.w_is_span
abbrev B_is_span : PSpec := bodyW [] 1 1 w_is_span
theorem imp_is_span : ∀ ds Q, C_is_span ds Q → B_is_span ds Q := Zp.imp_is_span
abbrev w_is_box : DS := Zp.w_is_box
abbrev B_is_box : PSpec := bodyW [] 3 2 w_is_box
theorem imp_is_box : ∀ ds Q, C_is_box ds Q → B_is_box ds Q := Zp.imp_is_box
abbrev w_figures_in : DS := Yo.w_figures_in
abbrev B_figures_in : PSpec := bodyW [] 2 1 w_figures_in
theorem imp_figures_in : ∀ ds Q, C_figures_in ds Q → B_figures_in ds Q := Yo.imp_figures_in
abbrev w_number_in : DS := Yo.w_number_in
abbrev B_number_in : PSpec := bodyW [] 2 1 w_number_in
theorem imp_number_in : ∀ ds Q, C_number_in ds Q → B_number_in ds Q := Yo.imp_number_in
abbrev w_low_in : DS := Yo.w_low_in
abbrev B_low_in : PSpec := bodyW [] 2 1 w_low_in
theorem imp_low_in : ∀ ds Q, C_low_in ds Q → B_low_in ds Q := Yo.imp_low_in
abbrev w_high_in : DS := Yo.w_high_in
abbrev B_high_in : PSpec := bodyW [] 2 1 w_high_in
theorem imp_high_in : ∀ ds Q, C_high_in ds Q → B_high_in ds Q := Yo.imp_high_in
abbrev w_span_in_word : DS := Yo.w_span_in_word
abbrev B_span_in_word : PSpec := bodyW [] 2 1 w_span_in_word
theorem imp_span_in_word : ∀ ds Q, C_span_in_word ds Q → B_span_in_word ds Q := Yo.imp_span_in_word
abbrev w_box_in : DS := Yo.w_box_in
abbrev B_box_in : PSpec := bodyW [] 2 1 w_box_in
theorem imp_box_in : ∀ ds Q, C_box_in ds Q → B_box_in ds Q := Yo.imp_box_in
abbrev w_look_text : DS := Yo.w_look_text
abbrev B_look_text : PSpecX := bodyX [] 1 1 w_look_text
theorem imp_look_text : ∀ ds Q Z, C_look_text ds Q Z → B_look_text ds Q Z := Yo.imp_look_text
abbrev w_read_box : DS := Yo.w_read_box
abbrev B_read_box : PSpecX := bodyX [] 3 2 w_read_box
theorem imp_read_box : ∀ ds Q Z, C_read_box ds Q Z → B_read_box ds Q Z := Yo.imp_read_box
abbrev w_low_text : DS := Yo.w_low_text
abbrev B_low_text : PSpec := bodyW [] 3 1 w_low_text
theorem imp_low_text : ∀ ds Q, C_low_text ds Q → B_low_text ds Q := Yo.imp_low_text
abbrev w_high_text : DS := Yo.w_high_text
abbrev B_high_text : PSpec := bodyW [] 3 1 w_high_text
theorem imp_high_text : ∀ ds Q, C_high_text ds Q → B_high_text ds Q := Yo.imp_high_text
abbrev w_show_box : DS := Yo.w_show_box
abbrev B_show_box : PSpec := bodyW [] 3 1 w_show_box
theorem imp_show_box : ∀ ds Q, C_show_box ds Q → B_show_box ds Q := Yo.imp_show_box
abbrev w__law_cell_at : DS := Zr.w__law_cell_at
abbrev B__law_cell_at : PSpec := bodyW [] 2 2 w__law_cell_at
theorem imp__law_cell_at : ∀ ds Q, C__law_cell_at ds Q → B__law_cell_at ds Q := Zr.imp__law_cell_at
abbrev w__law_left : DS := Zr.w__law_left
abbrev B__law_left : PSpec := bodyW [] 4 2 w__law_left
theorem imp__law_left : ∀ ds Q, C__law_left ds Q → B__law_left ds Q := Zr.imp__law_left
abbrev w__law_pick : DS := Zr.w__law_pick
abbrev B__law_pick : PSpec := bodyW [0] 3 2 w__law_pick
theorem imp__law_pick : ∀ ds Q, C__law_pick ds Q → B__law_pick ds Q := Zr.imp__law_pick
abbrev w__law_pool : DS := Zr.w__law_pool
abbrev B__law_pool : PSpec := bodyW [0] 4 1 w__law_pool
theorem imp__law_pool : ∀ ds Q, C__law_pool ds Q → B__law_pool ds Q := Zr.imp__law_pool
abbrev w__law_number : DS := Zr.w__law_number
abbrev B__law_number : PSpec := bodyW [0] 2 2 w__law_number
theorem imp__law_number : ∀ ds Q, C__law_number ds Q → B__law_number ds Q := Zr.imp__law_number
abbrev w__law_end : DS := Yo.w__law_end
abbrev B__law_end : PSpec := bodyW [0] 2 2 w__law_end
theorem imp__law_end : ∀ ds Q, C__law_end ds Q → B__law_end ds Q := Yo.imp__law_end
abbrev w__law_box : DS := Yo.w__law_box
abbrev B__law_box : PSpec := bodyW [0] 8 3 w__law_box
theorem imp__law_box : ∀ ds Q, C__law_box ds Q → B__law_box ds Q := Yo.imp__law_box
abbrev w__law_box_text : DS := Yo.w__law_box_text
abbrev B__law_box_text : PSpec := bodyW [] 5 1 w__law_box_text
theorem imp__law_box_text : ∀ ds Q, C__law_box_text ds Q → B__law_box_text ds Q := Yo.imp__law_box_text
abbrev w__law_same (n : Nat) : DS := Zp.w__law_same1 n
abbrev B__law_same (n : Nat) : PSpec := bodyW [] 4 2 (w__law_same n)
theorem imp__law_same (n : Nat) : ∀ ds Q, C__law_same (n + 1) ds Q → B__law_same n ds Q := Zp.imp__law_same1 n
abbrev w__law_told : DS := Yo.w__law_told
abbrev B__law_told : PSpec := bodyW [] 4 1 w__law_told
theorem imp__law_told : ∀ ds Q, C__law_told ds Q → B__law_told ds Q := Yo.imp__law_told
def w_law : DS :=
  (dSeq (dFor (iR gR1 (aCons (oVal (dCB gMax (aCons (oVal (dC (.int 8))) (aCons (oVal (dCB gMin (aCons (oVal (dC (.int 30))) (aCons (oVal (dCB gLen (aCons (oVar 0) aNil))) aNil)))) aNil)))) aNil)) (gN 1)
    (dSeq (dAsg 2 (dCall C__law_left (aCons (oVar 0) (aCons (oVar 1) aNil))))
    (dSeq (dAsg 3 (dBin gAdd (oVal (dC (.int 1))) (oVal (dCallIO 0 2 C__law_pick (aCons (oVar 2) (aCons (oVal (dC (.int 4))) aNil))))))
    (dSeq (dAsg 4 (dCallIO 0 2 C__law_box (aCons (oVar 2) (aCons (oVar 3) (aCons (oVal (dCallIO 0 2 C__law_pool (aCons (oVar 2) aNil))) aNil)))))
    (dSeq (dAsg 5 (dCall C__law_box_text (aCons (oVar 4) aNil)))
    (dSeq (dFor (iR gR1 (aCons (oVal (dC (.int 2))) aNil)) (gN 6)
    (dIfS (tOr (tNot (tVal (dCall (C__law_same lv__law_same) (aCons (oVal (dCall C_show_box (aCons (oVar 4) aNil))) (aCons (oVar 5) aNil))))) (tNot (tVal (dCall (C__law_same lv__law_same) (aCons (oVal (dCall (pX C_read_box) (aCons (oVar 5) (aCons (oVar 3) aNil)))) (aCons (oVar 4) aNil))))))
    (dRet (dC (.bl false)))
    dNext))
    (dSeq (dAsg 7 (dBin gAdd (oVal (dC (.int 1))) (oVal (dBin gMod (oVal (dBin gAdd (oVar 3) (oVal (dCallIO 0 2 C__law_pick (aCons (oVar 2) (aCons (oVal (dC (.int 3))) aNil)))))) (oVal (dC (.int 4)))))))
    (dIfS (tAnd (tVal (dBin gNe (oVar 7) (oVar 3))) (tVal (dBin gNe (oVal (dCall C__law_told (aCons (oVal (dTup (aCons (oVar 5) (aCons (oVar 7) aNil)))) aNil))) (oVal (dTup (aCons (oVal (dC (.str "none"))) (aCons (oVal (dC .non)) aNil)))))))
    (dRet (dC (.bl false)))
    dNext))))))))
    (dRet (dBin gEq (oVal (dCall C_show_box (aCons (oVal (dTup (aCons (oVal (dTup (aCons (oVal (dC .non)) (aCons (oVal (dC .non)) aNil)))) (aCons (oVal (dTup (aCons (oVal (dTup (aCons (oVal (dUn gNeg (oVal (dC (.int 5))))) (aCons (oVal (dC (.bl true))) aNil)))) (aCons (oVal (dTup (aCons (oVal (dC (.int 3))) (aCons (oVal (dC (.bl false))) aNil)))) aNil)))) aNil)))) aNil))) (oVal (dC (.str "-..- [-5..3)"))))))
abbrev B_law : PSpec := bodyW [] 8 1 w_law
end K71
namespace K71
open PySem PySem.Spec PyProof.Rows L2 Bx Zb Zp Zh Zr Zs Yo
theorem okB {b : Bx1} (hl : b.length ≤ 10) : okS 10 (boxD b) := by
  have sl := sizeLine_eq
  refine ⟨by rw [List.length_map]; omega, fun x hx => ?_⟩
  obtain ⟨⟨lo, hi⟩, _, rfl⟩ := List.mem_map.mp hx
  have oe : ∀ e : Eg, okS 8 (eD e) := fun e => by
    cases e with
    | none => trivial
    | some e =>
      refine ⟨by show 2 ≤ sizeLine; omega, fun x hx => ?_⟩
      simp only [List.mem_cons, List.not_mem_nil, or_false] at hx
      rcases hx with rfl | rfl <;> trivial
  refine ⟨by show 2 ≤ sizeLine; omega, fun x hx => ?_⟩
  simp only [List.mem_cons, List.not_mem_nil, or_false] at hx
  rcases hx with rfl | rfl
  · exact oe lo
  · exact oe hi
theorem imp_law : ∀ ds Q, C_law ds Q → B_law ds Q := by
  rintro ds Q ⟨ns, rfl, hl, q⟩
  refine ⟨rfl, ?_⟩
  have sl := sizeLine_eq
  refine seq_cut (fun ρ => ∃ x1 x2 x3 x4 x5 x6 x7, ρ = [some (.scr (ns.map .int)), x1, x2, x3, x4, x5, x6, x7]) (fun R hR => ?_) ?_
  · simp only [Bx.go]
    obtain ⟨M, m8, eM⟩ : ∃ M : Nat, M ≤ 30 ∧ (if (if (ns.length : Int) < 30 then (ns.length : Int) else 30) > 8 then (if (ns.length : Int) < 30 then (ns.length : Int) else 30) else 8) = (M : Int) := by
      refine ⟨(if (if (ns.length : Int) < 30 then (ns.length : Int) else 30) > 8 then (if (ns.length : Int) < 30 then (ns.length : Int) else 30) else 8).toNat, ?_, ?_⟩
      · split <;> split <;> omega
      · split <;> split <;> omega
    rw [eM]
    refine ⟨i62_of (by omega) (by omega), ?_⟩
    rw [rangeD_nat]
    refine for_each (List.range (Int.toNat M)) _ (fun dn ρ => ∃ x1 x2 x3 x4 x5 x6 x7, ρ = [some (.scr (ns.map .int)), x1, x2, x3, x4, x5, x6, x7]) ⟨_, _, _, _, _, _, _, rfl⟩ ?_ ?_
    · rintro dn k r ρ N e ⟨x1, x2, x3, x4, x5, x6, x7, rfl⟩ hN
      have hk : k < 30 := by
        have : k ∈ List.range (Int.toNat M) := by rw [e]; simp
        have := List.mem_range.mp this
        omega
      have hN : ∀ x2 x3 x4 x5 x6 x7 : Option D, N [some (.scr (ns.map .int)), some (.int (k : Nat)), x2, x3, x4, x5, x6, x7] := fun x2 x3 x4 x5 x6 x7 => hN _ ⟨_, _, _, _, _, _, _, rfl⟩
      clear e
      simp only [u1_gT, u2_gT, u1_gsCons, u2_gsCons, u1_gsNil, u2_gsNil, u1_kGs, u1_gN, u1_kForB, rset_s, rset_0, rget_s, rget_0, D.seq, D.sql, u_onSome_some, frz_tup, frz_int, frz_bl, frz_lst, frz_str, frz_non, frz_scr, List.length_cons, List.length_nil, List.map_cons, List.map_nil, Option.bind_some, true_and, and_true]
      refine seq_cut (fun ρ => ∃ a s : Int, ρ = [some (.scr (ns.map .int)), some (.int (k : Nat)), some (Zr.hd a s), x3, x4, x5, x6, x7]) (fun R hR => ?_) ?_
      · simp only [Bx.go]
        refine ⟨ns, k, rfl, hl, by omega, by omega, fun a s => ?_⟩
        simp only [Bx.go]
        exact hR _ ⟨a, s, rfl⟩
      rintro _ ⟨a, s, rfl⟩
      refine seq_cut (fun ρ => ∃ (a s : Int) (d : Nat), 1 ≤ d ∧ d ≤ 4 ∧ ρ = [some (.scr (ns.map .int)), some (.int (k : Nat)), some (Zr.hd a s), some (.int d), x4, x5, x6, x7]) (fun R hR => ?_) ?_
      · simp only [Zr.hd, Bx.go]
        refine ⟨a, s, 4, rfl, by decide, by decide, fun r a s h0 h1 => ?_⟩
        simp only [Bx.go]
        exact hR _ ⟨a, s, 1 + r.toNat, by omega, by omega, by rw [show ((1 + r.toNat : Nat) : Int) = 1 + r by omega]; rfl⟩
      clear a s
      rintro _ ⟨a, s, d, d1, d4, rfl⟩
      refine seq_cut (fun ρ => ∃ (a s : Int) (b : Bx1), b.length = d ∧ (∀ s ∈ b, smE s.1 ∧ smE s.2) ∧ ρ = [some (.scr (ns.map .int)), some (.int (k : Nat)), some (Zr.hd a s), some (.int d), some (boxD b), x5, x6, x7]) (fun R hR => ?_) ?_
      · simp only [Zr.hd, Bx.go]
        refine ⟨a, s, rfl, fun l a s l0 l8 lS => ?_⟩
        have fz : (D.lst true (l.map D.int)).frz = poolD l := rfl
        simp only [Zr.hd, fz, Bx.go]
        refine ⟨a, s, d, l, rfl, l0, l8, d4, lS, fun b a s bl hb => ?_⟩
        simp only [Zr.hd, Bx.go]
        exact hR _ ⟨a, s, b, bl, hb, rfl⟩
      clear a s
      rintro _ ⟨a, s, b, bl, hb, rfl⟩
      have bf : (boxD b).frz = boxD b := rfl
      have bt := box_tok (b := b) (by omega) hb
      have b0 : b ≠ [] := fun z => by rw [z] at bl; simp at bl; omega
      have eW : boxW (Txt.split (boxS b) " ") = boxD b := by rw [box_split b0, boxW_sp hb]
      refine seq_cut (fun ρ => ρ = [some (.scr (ns.map .int)), some (.int (k : Nat)), some (Zr.hd a s), some (.int d), some (boxD b), some (.str (boxS b)), x6, x7]) (fun R hR => ?_) ?_
      · simp only [bf, Bx.go]
        exact ⟨b, rfl, by omega, hb, hR _ rfl⟩
      rintro _ rfl
      refine seq_cut (fun ρ => ∃ x6, ρ = [some (.scr (ns.map .int)), some (.int (k : Nat)), some (Zr.hd a s), some (.int d), some (boxD b), some (.str (boxS b)), x6, x7]) (fun R hR => ?_) ?_
      · simp only [Bx.go]
        refine ⟨i62_of (by decide) (by decide), ?_⟩
        rw [rangeD_nat]
        refine for_each (List.range (Int.toNat 2)) _ (fun dn ρ => ∃ x6, ρ = [some (.scr (ns.map .int)), some (.int (k : Nat)), some (Zr.hd a s), some (.int d), some (boxD b), some (.str (boxS b)), x6, x7]) ⟨_, rfl⟩ ?_ ?_
        · rintro dn k r ρ N e ⟨x6, rfl⟩ hN
          simp only [u1_gT, u2_gT, u1_gsCons, u2_gsCons, u1_gsNil, u2_gsNil, u1_kGs, u1_gN, u1_kForB, rset_s, rset_0, rget_s, rget_0, D.seq, D.sql, u_onSome_some, frz_tup, frz_int, frz_bl, frz_lst, frz_str, frz_non, frz_scr, List.length_cons, List.length_nil, List.map_cons, List.map_nil, Option.bind_some, true_and, and_true]
          simp only [bf, Bx.go]
          refine ⟨b, rfl, by omega, hb, ?_⟩
          simp only [bf, Bx.go]
          refine ⟨_, rfl, tok_ok bt, ?_⟩
          simp only [Bool.not_true, pick, bf, Bx.go]
          refine .inl ⟨boxS b, d, rfl, bt, by omega, ?_⟩
          rw [eW, Yo.isBox_box, bl, beq_self_eq_true, if_pos rfl]
          simp only [bf, Bx.go]
          refine ⟨_, rfl, okB (by omega), ?_⟩
          simp only [Bool.not_true, pick, Bx.go]
          exact hN _ ⟨_, rfl⟩
        · rintro ρ ⟨x2, rfl⟩
          exact hR _ ⟨_, rfl⟩
      rintro _ ⟨x6, rfl⟩
      refine seq_cut (fun ρ => ∃ (a s : Int) (o : Int), o ≤ 1000 ∧ ρ = [some (.scr (ns.map .int)), some (.int (k : Nat)), some (Zr.hd a s), some (.int d), some (boxD b), some (.str (boxS b)), x6, some (.int o)]) (fun R hR => ?_) ?_
      · simp only [Zr.hd, Bx.go]
        refine ⟨a, s, 3, rfl, by decide, by decide, fun r a s h0 h1 => ?_⟩
        simp only [Bx.go]
        exact ⟨by decide, hR _ ⟨a, s, _, by omega, rfl⟩⟩
      clear a s
      rintro _ ⟨a, s, o, ho, rfl⟩
      simp only [Bx.go]
      refine ⟨eqOk_int _ _, ?_⟩
      rw [eqv_int]
      cases eo : o == (d : Int) with
      | true =>
        simp only [Bx.go]
        exact hN _ _ _ _ _ _
      | false =>
        simp only [Bx.go]
        refine .inl ⟨boxS b, o, rfl, bt, ho, ?_⟩
        have ne : ((d : Int) == o) = false := by
          rw [BEq.comm]; exact eo
        rw [eW, Yo.isBox_box, bl, ne, if_neg (by decide)]
        simp only [noneD, Bx.go]
        rw [show (D.tup [.str "none", .non]).eqv (.tup [.str "none", .non]) = true by decide +kernel]
        refine ⟨⟨by decide +kernel, by decide +kernel, by decide +kernel⟩, ?_⟩
        simp only [Bool.not_true, pick, Bx.go]
        exact hN _ _ _ _ _ _
    · rintro ρ ⟨x1, x2, x3, x4, x5, x6, x7, rfl⟩
      exact hR _ ⟨_, _, _, _, _, _, _, rfl⟩
  rintro _ ⟨x1, x2, x3, x4, x5, x6, x7, rfl⟩
  simp only [Bx.go]
  refine ⟨[(none, none), (some (-5, true), some (3, false))], rfl, by decide, fun s hs => ?_, ?_⟩
  · simp only [List.mem_cons, List.not_mem_nil, or_false] at hs
    rcases hs with rfl | rfl
    · exact ⟨trivial, trivial⟩
    · exact ⟨by show (-5 : Int).natAbs < 10 ^ 40; decide, by show (3 : Int).natAbs < 10 ^ 40; decide⟩
  · rw [show boxS [(none, none), (some (-5, true), some (3, false))] = Str.ofString "-..- [-5..3)" by decide +kernel]
    simp only [Bx.go]
    refine ⟨eqOk_str (by decide +kernel) (by decide +kernel), ?_⟩
    rw [eqv_str, beq_self_eq_true]
    exact q
end K71
namespace K71
open PySem PySem.Spec PyProof.Rows L2 Bx
set_option maxHeartbeats 0 in
structure Txt (K : PySem.W.Frag) (mg : Str → Option Value) where
  a_is_whole : Addr
  d_is_whole : FuncData
  a_is_end : Addr
  d_is_end : FuncData
  a_is_span : Addr
  d_is_span : FuncData
  a_is_box : Addr
  d_is_box : FuncData
  a_figures_in : Addr
  d_figures_in : FuncData
  a_number_in : Addr
  d_number_in : FuncData
  a_low_in : Addr
  d_low_in : FuncData
  a_high_in : Addr
  d_high_in : FuncData
  a_span_in_word : Addr
  d_span_in_word : FuncData
  a_box_in : Addr
  d_box_in : FuncData
  a_look_text : Addr
  d_look_text : FuncData
  a_read_box : Addr
  d_read_box : FuncData
  a_low_text : Addr
  d_low_text : FuncData
  a_high_text : Addr
  d_high_text : FuncData
  a_show_box : Addr
  d_show_box : FuncData
  a__law_cell_at : Addr
  d__law_cell_at : FuncData
  a__law_left : Addr
  d__law_left : FuncData
  a__law_pick : Addr
  d__law_pick : FuncData
  a__law_pool : Addr
  d__law_pool : FuncData
  a__law_number : Addr
  d__law_number : FuncData
  a__law_end : Addr
  d__law_end : FuncData
  a__law_box : Addr
  d__law_box : FuncData
  a__law_box_text : Addr
  d__law_box_text : FuncData
  a__law_same : Addr
  d__law_same : FuncData
  a__law_told : Addr
  d__law_told : FuncData
  a_law : Addr
  d_law : FuncData
  f_is_whole : Fun K "is_whole" "is_whole" s_is_whole a_is_whole d_is_whole
  b_is_whole : Binds K d_is_whole P_is_whole []
  m_is_whole : mg "is_whole" = some (.ref a_is_whole)
  f_is_end : Fun K "is_end" "is_end" s_is_end a_is_end d_is_end
  b_is_end : Binds K d_is_end P_is_end []
  m_is_end : mg "is_end" = some (.ref a_is_end)
  f_is_span : Fun K "is_span" "is_span" s_is_span a_is_span d_is_span
  b_is_span : Binds K d_is_span P_is_span []
  m_is_span : mg "is_span" = some (.ref a_is_span)
  f_is_box : Fun K "is_box" "is_box" s_is_box a_is_box d_is_box
  b_is_box : Binds K d_is_box P_is_box []
  m_is_box : mg "is_box" = some (.ref a_is_box)
  f_figures_in : Fun K "figures_in" "figures_in" s_figures_in a_figures_in d_figures_in
  b_figures_in : Binds K d_figures_in P_figures_in []
  m_figures_in : mg "figures_in" = some (.ref a_figures_in)
  f_number_in : Fun K "number_in" "number_in" s_number_in a_number_in d_number_in
  b_number_in : Binds K d_number_in P_number_in []
  m_number_in : mg "number_in" = some (.ref a_number_in)
  f_low_in : Fun K "low_in" "low_in" s_low_in a_low_in d_low_in
  b_low_in : Binds K d_low_in P_low_in []
  m_low_in : mg "low_in" = some (.ref a_low_in)
  f_high_in : Fun K "high_in" "high_in" s_high_in a_high_in d_high_in
  b_high_in : Binds K d_high_in P_high_in []
  m_high_in : mg "high_in" = some (.ref a_high_in)
  f_span_in_word : Fun K "span_in_word" "span_in_word" s_span_in_word a_span_in_word d_span_in_word
  b_span_in_word : Binds K d_span_in_word P_span_in_word []
  m_span_in_word : mg "span_in_word" = some (.ref a_span_in_word)
  f_box_in : Fun K "box_in" "box_in" s_box_in a_box_in d_box_in
  b_box_in : Binds K d_box_in P_box_in []
  m_box_in : mg "box_in" = some (.ref a_box_in)
  f_look_text : Fun K "look_text" "look_text" s_look_text a_look_text d_look_text
  b_look_text : Binds K d_look_text P_look_text []
  m_look_text : mg "look_text" = some (.ref a_look_text)
  f_read_box : Fun K "read_box" "read_box" s_read_box a_read_box d_read_box
  b_read_box : Binds K d_read_box P_read_box []
  m_read_box : mg "read_box" = some (.ref a_read_box)
  f_low_text : Fun K "low_text" "low_text" s_low_text a_low_text d_low_text
  b_low_text : Binds K d_low_text P_low_text []
  m_low_text : mg "low_text" = some (.ref a_low_text)
  f_high_text : Fun K "high_text" "high_text" s_high_text a_high_text d_high_text
  b_high_text : Binds K d_high_text P_high_text []
  m_high_text : mg "high_text" = some (.ref a_high_text)
  f_show_box : Fun K "show_box" "show_box" s_show_box a_show_box d_show_box
  b_show_box : Binds K d_show_box P_show_box []
  m_show_box : mg "show_box" = some (.ref a_show_box)
  f__law_cell_at : Fun K "_law_cell_at" "_law_cell_at" s__law_cell_at a__law_cell_at d__law_cell_at
  b__law_cell_at : Binds K d__law_cell_at P__law_cell_at []
  m__law_cell_at : mg "_law_cell_at" = some (.ref a__law_cell_at)
  f__law_left : Fun K "_law_left" "_law_left" s__law_left a__law_left d__law_left
  b__law_left : Binds K d__law_left P__law_left []
  m__law_left : mg "_law_left" = some (.ref a__law_left)
  f__law_pick : Fun K "_law_pick" "_law_pick" s__law_pick a__law_pick d__law_pick
  b__law_pick : Binds K d__law_pick P__law_pick []
  m__law_pick : mg "_law_pick" = some (.ref a__law_pick)
  f__law_pool : Fun K "_law_pool" "_law_pool" s__law_pool a__law_pool d__law_pool
  b__law_pool : Binds K d__law_pool P__law_pool []
  m__law_pool : mg "_law_pool" = some (.ref a__law_pool)
  f__law_number : Fun K "_law_number" "_law_number" s__law_number a__law_number d__law_number
  b__law_number : Binds K d__law_number P__law_number []
  m__law_number : mg "_law_number" = some (.ref a__law_number)
  f__law_end : Fun K "_law_end" "_law_end" s__law_end a__law_end d__law_end
  b__law_end : Binds K d__law_end P__law_end []
  m__law_end : mg "_law_end" = some (.ref a__law_end)
  f__law_box : Fun K "_law_box" "_law_box" s__law_box a__law_box d__law_box
  b__law_box : Binds K d__law_box P__law_box []
  m__law_box : mg "_law_box" = some (.ref a__law_box)
  f__law_box_text : Fun K "_law_box_text" "_law_box_text" s__law_box_text a__law_box_text d__law_box_text
  b__law_box_text : Binds K d__law_box_text P__law_box_text []
  m__law_box_text : mg "_law_box_text" = some (.ref a__law_box_text)
  f__law_same : Fun K "_law_same" "_law_same" s__law_same a__law_same d__law_same
  b__law_same : Binds K d__law_same P__law_same []
  m__law_same : mg "_law_same" = some (.ref a__law_same)
  f__law_told : Fun K "_law_told" "_law_told" s__law_told a__law_told d__law_told
  b__law_told : Binds K d__law_told P__law_told []
  m__law_told : mg "_law_told" = some (.ref a__law_told)
  f_law : Fun K "law" "law" s_law a_law d_law
  b_law : Binds K d_law P_law []
  m_law : mg "law" = some (.ref a_law)
  X_BoxError : Addr
  xg_BoxError : mg "BoxError" = some (.ref X_BoxError)
  X_NoLine : Addr
  xg_NoLine : mg "NoLine" = some (.ref X_NoLine)
  X_NoNumber : Addr
  xg_NoNumber : mg "NoNumber" = some (.ref X_NoNumber)
  X_NoText : Addr
  xg_NoText : mg "NoText" = some (.ref X_NoText)
  X_NoThing : Addr
  xg_NoThing : mg "NoThing" = some (.ref X_NoThing)
  X_Taken : Addr
  xg_Taken : mg "Taken" = some (.ref X_Taken)
  xr_NoText : RaisF K "NoText" X_NoText
  xm_BoxError : ∀ z ∈ [("NoText" : Str)], ∃ C, PySem.W.nsIn K mainGlobals z = some (some (.ref C)) ∧ PySem.W.exmOne K (.ref C) (.ref X_BoxError) = some true
  xi_NoText : xFacts K [.ref X_NoText] [("NoText", true)]
  xi_ValueError : xFacts K [.type "ValueError"] [("NoText", true)]
  xi_NoLine_NoNumber_NoThing_Taken : xFacts K [.ref X_NoLine, .ref X_NoNumber, .ref X_NoThing, .ref X_Taken] [("NoText", false)]
  z_ValueError : mg "ValueError" = none
  z_all : mg "all" = none
  z_bool : mg "bool" = none
  z_int : mg "int" = none
  z_isinstance : mg "isinstance" = none
  z_len : mg "len" = none
  z_max : mg "max" = none
  z_min : mg "min" = none
  z_range : mg "range" = none
  z_str : mg "str" = none
  z_tuple : mg "tuple" = none
  z_zip : mg "zip" = none
  k_FIGURES : ∃ u, mg "FIGURES" = some u ∧ KD K c_FIGURES u
  k_MOST_SIGNS : ∃ u, mg "MOST_SIGNS" = some u ∧ KD K c_MOST_SIGNS u
  hD : HasDigits K
section
variable {P : Program} {w : World} {K : PySem.W.Frag} {mg : Str → Option Value} {base : Heap}
set_option maxHeartbeats 4000000 in
theorem ss_is_whole (T : Txt K mg)  {cdv : Value} {A : Around} {outer : List Env} {s : Shared} {H : Hp} {E : XK} (hr : RoomG 1 (A.deeper (envOfC "is_whole" (defScope s_is_whole) s.heap.objs.size T.a_is_whole cdv))) :
    SSs (bX P w K mg base N_is_whole "is_whole" (defScope s_is_whole) T.a_is_whole cdv A outer s H E) [] (defBody s_is_whole) (w_is_whole) := by
  have hu := hr.units
  exact (sss_one (ss_ret (se_and (se_isi rfl T.z_isinstance rfl T.z_int bb_int ty_int (so_var (pv 0))) (se_one (se_not (se_isi rfl T.z_isinstance rfl T.z_bool bb_bool ty_bool (so_var (pv 0))))))))
theorem ok_is_whole (T : Txt K mg) : FnG P w K mg base 2 T.a_is_whole T.d_is_whole P_is_whole (spD K [] C_is_whole) :=
  fnD T.f_is_whole sc_is_whole (fun cdv A outer s H E hr => ss_is_whole T  hr) imp_is_whole
set_option maxHeartbeats 4000000 in
theorem ss_is_end (T : Txt K mg) (G_is_whole : FnG P w K mg base 2 T.a_is_whole T.d_is_whole P_is_whole (spD K [] C_is_whole)) {cdv : Value} {A : Around} {outer : List Env} {s : Shared} {H : Hp} {E : XK} (hr : RoomG 2 (A.deeper (envOfC "is_end" (defScope s_is_end) s.heap.objs.size T.a_is_end cdv))) :
    SSs (bX P w K mg base N_is_end "is_end" (defScope s_is_end) T.a_is_end cdv A outer s H E) [] (defBody s_is_end) (w_is_end) := by
  have hu := hr.units
  exact (sss_cons (ss_if (st_cmp opd_isN (so_var (pv 0)) (so_val se_non) (nomark _))
    (sss_one (ss_ret se_bl))
    sss_nil)
    (sss_one (ss_ret (se_and (se_isi rfl T.z_isinstance rfl T.z_tuple bb_tuple ty_tuple (so_var (pv 0))) (se_and (se_cmp (opd_eq hu) (so_val (se_callB calld_len rfl T.z_len bb_len (sa_cons (so_var (pv 0)) sa_nil))) (so_val se_int) (nomark _)) (se_and (se_call G_is_whole (hr.mono (by omega)) rfl T.m_is_whole T.f_is_whole.kp T.b_is_whole (sa_cons (so_val (se_ix ixd (so_var (pv 0)) (so_val se_int))) sa_nil)) (se_one (se_isi rfl T.z_isinstance rfl T.z_bool bb_bool ty_bool (so_val (se_ix ixd (so_var (pv 0)) (so_val se_int)))))))))))
theorem ok_is_end (T : Txt K mg) : FnG P w K mg base 3 T.a_is_end T.d_is_end P_is_end (spD K [] C_is_end) :=
  fnD T.f_is_end sc_is_end (fun cdv A outer s H E hr => ss_is_end T (ok_is_whole T) hr) imp_is_end
set_option maxHeartbeats 4000000 in
theorem ss_is_span (T : Txt K mg) (G_is_end : FnG P w K mg base 3 T.a_is_end T.d_is_end P_is_end (spD K [] C_is_end)) {cdv : Value} {A : Around} {outer : List Env} {s : Shared} {H : Hp} {E : XK} (hr : RoomG 3 (A.deeper (envOfC "is_span" (defScope s_is_span) s.heap.objs.size T.a_is_span cdv))) :
    SSs (bX P w K mg base N_is_span "is_span" (defScope s_is_span) T.a_is_span cdv A outer s H E) [] (defBody s_is_span) (w_is_span) := by
  have hu := hr.units
  exact (sss_one (ss_ret (se_and (se_isi rfl T.z_isinstance rfl T.z_tuple bb_tuple ty_tuple (so_var (pv 0))) (se_and (se_cmp (opd_eq hu) (so_val (se_callB calld_len rfl T.z_len bb_len (sa_cons (so_var (pv 0)) sa_nil))) (so_val se_int) (nomark _)) (se_and (se_call G_is_end (hr.mono (by omega)) rfl T.m_is_end T.f_is_end.kp T.b_is_end (sa_cons (so_val (se_ix ixd (so_var (pv 0)) (so_val se_int))) sa_nil)) (se_one (se_call G_is_end (hr.mono (by omega)) rfl T.m_is_end T.f_is_end.kp T.b_is_end (sa_cons (so_val (se_ix ixd (so_var (pv 0)) (so_val se_int))) sa_nil))))))))
theorem ok_is_span (T : Txt K mg) : FnG P w K mg base 4 T.a_is_span T.d_is_span P_is_span (spD K [] C_is_span) :=
  fnD T.f_is_span sc_is_span (fun cdv A outer s H E hr => ss_is_span T (ok_is_end T) hr) imp_is_span
set_option maxHeartbeats 4000000 in
theorem ss_is_box (T : Txt K mg) (G_is_span : FnG P w K mg base 4 T.a_is_span T.d_is_span P_is_span (spD K [] C_is_span)) {cdv : Value} {A : Around} {outer : List Env} {s : Shared} {H : Hp} {E : XK} (hr : RoomG 4 (A.deeper (envOfC "is_box" (defScope s_is_box) s.heap.objs.size T.a_is_box cdv))) :
    SSs (bX P w K mg base N_is_box "is_box" (defScope s_is_box) T.a_is_box cdv A outer s H E) [] (defBody s_is_box) (w_is_box) := by
  have hu := hr.units
  exact (sss_one (ss_ret (se_and (se_isi rfl T.z_isinstance rfl T.z_tuple bb_tuple ty_tuple (so_var (pv 0))) (se_and (se_cmp (opd_eq hu) (so_val (se_callB calld_len rfl T.z_len bb_len (sa_cons (so_var (pv 0)) sa_nil))) (so_var (pv 1)) (nomark _)) (se_one (se_callB (calld_all rfl) rfl T.z_all bb_all (sa_cons (so_val (se_comp (own := [("span", 2)]) rfl sc_is_box.nd (si_of (se_var (pv 0))) (blkOk_by (by first | (show blkC N_is_box (defScope s_is_box) _ _ = true; decide +kernel) | kernel_rfl)) (fun _ _ _ _ _ => (sg_name (i := 2) sc_is_box.nd rfl (Or.inl rfl))) (fun _ _ _ _ _ => sf_nil) (fun _ _ _ _ _ => (se_call G_is_span (hr.mono (by omega)) rfl T.m_is_span T.f_is_span.kp T.b_is_span (sa_cons (so_var (pv 2)) sa_nil))))) sa_nil)))))))
theorem ok_is_box (T : Txt K mg) : FnG P w K mg base 5 T.a_is_box T.d_is_box P_is_box (spD K [] C_is_box) :=
  fnD T.f_is_box sc_is_box (fun cdv A outer s H E hr => ss_is_box T (ok_is_span T) hr) imp_is_box
set_option maxHeartbeats 4000000 in
theorem ss_figures_in (T : Txt K mg)  {cdv : Value} {A : Around} {outer : List Env} {s : Shared} {H : Hp} {E : XK} (hr : RoomG 1 (A.deeper (envOfC "figures_in" (defScope s_figures_in) s.heap.objs.size T.a_figures_in cdv))) :
    SSs (bX P w K mg base N_figures_in "figures_in" (defScope s_figures_in) T.a_figures_in cdv A outer s H E) [] (defBody s_figures_in) (w_figures_in) := by
  have hu := hr.units
  exact (sss_cons (ss_if (st_w (sw_or (st_not (st_chain opd_lt opd_lt (so_val se_int) (so_val (se_callB calld_len rfl T.z_len bb_len (sa_cons (so_var (pv 0)) sa_nil))) (so_val (se_kd rfl T.k_MOST_SIGNS)))) (sw_or1 (st_not (st_val (se_callB (calld_all rfl) rfl T.z_all bb_all (sa_cons (so_val (se_comp (own := [("sign", 1)]) rfl sc_figures_in.nd (si_of (se_var (pv 0))) (blkOk_by (by first | (show blkC N_figures_in (defScope s_figures_in) _ _ = true; decide +kernel) | kernel_rfl)) (fun _ _ _ _ _ => (sg_name (i := 1) sc_figures_in.nd rfl (Or.inl rfl))) (fun _ _ _ _ _ => sf_nil) (fun _ _ _ _ _ => (se_cmp opd_inS (so_var (pv 1)) (so_val (se_kd rfl T.k_FIGURES)) (by with_unfolding_all rfl))))) sa_nil)))))))
    (sss_one (ss_ret se_non))
    sss_nil)
    (sss_cons (ss_if (st_w (sw_and (st_cmp (opd_eq hu) (so_val (se_ix ixd (so_var (pv 0)) (so_val se_int))) (so_val se_str) (nomark _)) (sw_and1 (st_cmp (opd_ne hu) (so_var (pv 0)) (so_val se_str) (nomark _)))))
    (sss_one (ss_ret se_non))
    sss_nil)
    (sss_one (ss_ret (se_callTy (calld_int T.hD) rfl T.z_int bb_int (sa_cons (so_var (pv 0)) sa_nil))))))
theorem ok_figures_in (T : Txt K mg) : FnG P w K mg base 2 T.a_figures_in T.d_figures_in P_figures_in (spD K [] C_figures_in) :=
  fnD T.f_figures_in sc_figures_in (fun cdv A outer s H E hr => ss_figures_in T  hr) imp_figures_in
set_option maxHeartbeats 4000000 in
theorem ss_number_in (T : Txt K mg) (G_figures_in : FnG P w K mg base 2 T.a_figures_in T.d_figures_in P_figures_in (spD K [] C_figures_in)) {cdv : Value} {A : Around} {outer : List Env} {s : Shared} {H : Hp} {E : XK} (hr : RoomG 2 (A.deeper (envOfC "number_in" (defScope s_number_in) s.heap.objs.size T.a_number_in cdv))) :
    SSs (bX P w K mg base N_number_in "number_in" (defScope s_number_in) T.a_number_in cdv A outer s H E) [] (defBody s_number_in) (w_number_in) := by
  have hu := hr.units
  exact (sss_cons (ss_if (st_cmp (opd_ne hu) (so_val (se_slice (so_var (pv 0)) sp_no (sp_int se_int))) (so_val se_str) (nomark _))
    (sss_one (ss_ret (se_call G_figures_in (hr.mono (by omega)) rfl T.m_figures_in T.f_figures_in.kp T.b_figures_in (sa_cons (so_var (pv 0)) sa_nil))))
    sss_nil)
    (sss_cons (ss_set (i := 1) sc_number_in.nd rfl (Or.inl rfl) (se_call G_figures_in (hr.mono (by omega)) rfl T.m_figures_in T.f_figures_in.kp T.b_figures_in (sa_cons (so_val (se_slice (so_var (pv 0)) (sp_int se_int) sp_no)) sa_nil)))
    (sss_cons (ss_if (st_w (sw_or (st_cmp opd_isN (so_var (pv 1)) (so_val se_non) (nomark _)) (sw_or1 (st_cmp (opd_eq hu) (so_var (pv 1)) (so_val se_int) (nomark _)))))
    (sss_one (ss_ret se_non))
    sss_nil)
    (sss_one (ss_ret (se_un und_neg (so_var (pv 1))))))))
theorem ok_number_in (T : Txt K mg) : FnG P w K mg base 3 T.a_number_in T.d_number_in P_number_in (spD K [] C_number_in) :=
  fnD T.f_number_in sc_number_in (fun cdv A outer s H E hr => ss_number_in T (ok_figures_in T) hr) imp_number_in
set_option maxHeartbeats 4000000 in
theorem ss_low_in (T : Txt K mg) (G_number_in : FnG P w K mg base 3 T.a_number_in T.d_number_in P_number_in (spD K [] C_number_in)) {cdv : Value} {A : Around} {outer : List Env} {s : Shared} {H : Hp} {E : XK} (hr : RoomG 3 (A.deeper (envOfC "low_in" (defScope s_low_in) s.heap.objs.size T.a_low_in cdv))) :
    SSs (bX P w K mg base N_low_in "low_in" (defScope s_low_in) T.a_low_in cdv A outer s H E) [] (defBody s_low_in) (w_low_in) := by
  have hu := hr.units
  exact (sss_cons (ss_if (st_cmp (opd_eq hu) (so_var (pv 0)) (so_val se_str) (nomark _))
    (sss_one (ss_ret se_non))
    sss_nil)
    (sss_cons (ss_set (i := 1) sc_low_in.nd rfl (Or.inl rfl) (se_call G_number_in (hr.mono (by omega)) rfl T.m_number_in T.f_number_in.kp T.b_number_in (sa_cons (so_val (se_slice (so_var (pv 0)) (sp_int se_int) sp_no)) sa_nil)))
    (sss_cons (ss_if (st_w (sw_or (st_cmp (opd_nin hu) (so_val (se_slice (so_var (pv 0)) sp_no (sp_int se_int))) (so_val (se_tup (sa_cons (so_val se_str) (sa_cons (so_val se_str) sa_nil)))) (by with_unfolding_all rfl)) (sw_or1 (st_cmp opd_isN (so_var (pv 1)) (so_val se_non) (nomark _)))))
    (sss_one (ss_ret se_str))
    sss_nil)
    (sss_one (ss_ret (se_tup (sa_cons (so_var (pv 1)) (sa_cons (so_val (se_cmp (opd_eq hu) (so_val (se_ix ixd (so_var (pv 0)) (so_val se_int))) (so_val se_str) (nomark _))) sa_nil))))))))
theorem ok_low_in (T : Txt K mg) : FnG P w K mg base 4 T.a_low_in T.d_low_in P_low_in (spD K [] C_low_in) :=
  fnD T.f_low_in sc_low_in (fun cdv A outer s H E hr => ss_low_in T (ok_number_in T) hr) imp_low_in
set_option maxHeartbeats 4000000 in
theorem ss_high_in (T : Txt K mg) (G_number_in : FnG P w K mg base 3 T.a_number_in T.d_number_in P_number_in (spD K [] C_number_in)) {cdv : Value} {A : Around} {outer : List Env} {s : Shared} {H : Hp} {E : XK} (hr : RoomG 3 (A.deeper (envOfC "high_in" (defScope s_high_in) s.heap.objs.size T.a_high_in cdv))) :
    SSs (bX P w K mg base N_high_in "high_in" (defScope s_high_in) T.a_high_in cdv A outer s H E) [] (defBody s_high_in) (w_high_in) := by
  have hu := hr.units
  exact (sss_cons (ss_if (st_cmp (opd_eq hu) (so_var (pv 0)) (so_val se_str) (nomark _))
    (sss_one (ss_ret se_non))
    sss_nil)
    (sss_cons (ss_set (i := 1) sc_high_in.nd rfl (Or.inl rfl) (se_call G_number_in (hr.mono (by omega)) rfl T.m_number_in T.f_number_in.kp T.b_number_in (sa_cons (so_val (se_slice (so_var (pv 0)) sp_no (sp_int (se_un und_neg (so_val se_int))))) sa_nil)))
    (sss_cons (ss_if (st_w (sw_or (st_cmp (opd_nin hu) (so_val (se_slice (so_var (pv 0)) (sp_int (se_un und_neg (so_val se_int))) sp_no)) (so_val (se_tup (sa_cons (so_val se_str) (sa_cons (so_val se_str) sa_nil)))) (by with_unfolding_all rfl)) (sw_or1 (st_cmp opd_isN (so_var (pv 1)) (so_val se_non) (nomark _)))))
    (sss_one (ss_ret se_str))
    sss_nil)
    (sss_one (ss_ret (se_tup (sa_cons (so_var (pv 1)) (sa_cons (so_val (se_cmp (opd_eq hu) (so_val (se_ix ixd (so_var (pv 0)) (so_val (se_un und_neg (so_val se_int))))) (so_val se_str) (nomark _))) sa_nil))))))))
theorem ok_high_in (T : Txt K mg) : FnG P w K mg base 4 T.a_high_in T.d_high_in P_high_in (spD K [] C_high_in) :=
  fnD T.f_high_in sc_high_in (fun cdv A outer s H E hr => ss_high_in T (ok_number_in T) hr) imp_high_in
set_option maxHeartbeats 4000000 in
theorem ss_span_in_word (T : Txt K mg) (G_low_in : FnG P w K mg base 4 T.a_low_in T.d_low_in P_low_in (spD K [] C_low_in)) (G_high_in : FnG P w K mg base 4 T.a_high_in T.d_high_in P_high_in (spD K [] C_high_in)) {cdv : Value} {A : Around} {outer : List Env} {s : Shared} {H : Hp} {E : XK} (hr : RoomG 4 (A.deeper (envOfC "span_in_word" (defScope s_span_in_word) s.heap.objs.size T.a_span_in_word cdv))) :
    SSs (bX P w K mg base N_span_in_word "span_in_word" (defScope s_span_in_word) T.a_span_in_word cdv A outer s H E) [] (defBody s_span_in_word) (w_span_in_word) := by
  have hu := hr.units
  exact (sss_cons (ss_set (i := 1) sc_span_in_word.nd rfl (Or.inl rfl) (se_tm PySem.F.slot_str_split PySem.F.type_str_split txm_split (se_var (pv 0)) se_str))
    (sss_cons (ss_if (st_cmp (opd_ne hu) (so_val (se_callB calld_len rfl T.z_len bb_len (sa_cons (so_var (pv 1)) sa_nil))) (so_val se_int) (nomark _))
    (sss_one (ss_ret se_str))
    sss_nil)
    (sss_one (ss_ret (se_tup (sa_cons (so_val (se_call G_low_in (hr.mono (by omega)) rfl T.m_low_in T.f_low_in.kp T.b_low_in (sa_cons (so_val (se_ix ixd (so_var (pv 1)) (so_val se_int))) sa_nil))) (sa_cons (so_val (se_call G_high_in (hr.mono (by omega)) rfl T.m_high_in T.f_high_in.kp T.b_high_in (sa_cons (so_val (se_ix ixd (so_var (pv 1)) (so_val se_int))) sa_nil))) sa_nil)))))))
theorem ok_span_in_word (T : Txt K mg) : FnG P w K mg base 5 T.a_span_in_word T.d_span_in_word P_span_in_word (spD K [] C_span_in_word) :=
  fnD T.f_span_in_word sc_span_in_word (fun cdv A outer s H E hr => ss_span_in_word T (ok_low_in T) (ok_high_in T) hr) imp_span_in_word
set_option maxHeartbeats 4000000 in
theorem ss_box_in (T : Txt K mg) (G_span_in_word : FnG P w K mg base 5 T.a_span_in_word T.d_span_in_word P_span_in_word (spD K [] C_span_in_word)) {cdv : Value} {A : Around} {outer : List Env} {s : Shared} {H : Hp} {E : XK} (hr : RoomG 5 (A.deeper (envOfC "box_in" (defScope s_box_in) s.heap.objs.size T.a_box_in cdv))) :
    SSs (bX P w K mg base N_box_in "box_in" (defScope s_box_in) T.a_box_in cdv A outer s H E) [] (defBody s_box_in) (w_box_in) := by
  have hu := hr.units
  exact (sss_one (ss_ret (se_callTy calld_tuple rfl T.z_tuple bb_tuple (sa_cons (so_val (se_comp (own := [("word", 1)]) rfl sc_box_in.nd (si_of (se_var (pv 0))) (blkOk_by (by first | (show blkC N_box_in (defScope s_box_in) _ _ = true; decide +kernel) | kernel_rfl)) (fun _ _ _ _ _ => (sg_name (i := 1) sc_box_in.nd rfl (Or.inl rfl))) (fun _ _ _ _ _ => sf_nil) (fun _ _ _ _ _ => (se_call G_span_in_word (hr.mono (by omega)) rfl T.m_span_in_word T.f_span_in_word.kp T.b_span_in_word (sa_cons (so_var (pv 1)) sa_nil))))) sa_nil))))
theorem ok_box_in (T : Txt K mg) : FnG P w K mg base 6 T.a_box_in T.d_box_in P_box_in (spD K [] C_box_in) :=
  fnD T.f_box_in sc_box_in (fun cdv A outer s H E hr => ss_box_in T (ok_span_in_word T) hr) imp_box_in
set_option maxHeartbeats 4000000 in
theorem ss_look_text (T : Txt K mg)  {cdv : Value} {A : Around} {outer : List Env} {s : Shared} {H : Hp} {E : XK} (hr : RoomG 1 (A.deeper (envOfC "look_text" (defScope s_look_text) s.heap.objs.size T.a_look_text cdv))) :
    SSsX (xX P w K mg base N_look_text "look_text" (defScope s_look_text) T.a_look_text cdv A outer s H E) [] (fun cls d _ H => E cls d H) (defBody s_look_text) (w_look_text) := by
  have hu := hr.units
  exact (sssX_one (ssX_if (st_not (st_val (se_isi rfl T.z_isinstance rfl T.z_str bb_str ty_str (so_var (pv 0)))))
    (sssX_one (ssX_raise rfl (takes_of rfl rfl rfl rfl) T.xr_NoText T.xg_NoText rfl))
    (sssX_lift sss_nil)))
theorem ok_look_text (T : Txt K mg) : FnX P w K mg base 2 T.a_look_text T.d_look_text P_look_text (spX K [] C_look_text) :=
  fnX T.f_look_text sc_look_text (fun cdv A outer s H E hr => ss_look_text T  hr) imp_look_text
set_option maxHeartbeats 4000000 in
theorem ss_read_box (T : Txt K mg) (G_look_text : FnX P w K mg base 2 T.a_look_text T.d_look_text P_look_text (spX K [] C_look_text)) (G_box_in : FnG P w K mg base 6 T.a_box_in T.d_box_in P_box_in (spD K [] C_box_in)) (G_is_box : FnG P w K mg base 5 T.a_is_box T.d_is_box P_is_box (spD K [] C_is_box)) {cdv : Value} {A : Around} {outer : List Env} {s : Shared} {H : Hp} {E : XK} (hr : RoomG 6 (A.deeper (envOfC "read_box" (defScope s_read_box) s.heap.objs.size T.a_read_box cdv))) :
    SSsX (xX P w K mg base N_read_box "read_box" (defScope s_read_box) T.a_read_box cdv A outer s H E) [] (fun cls d _ H => E cls d H) (defBody s_read_box) (w_read_box) := by
  have hu := hr.units
  exact (sssX_cons (ssX_expr (sx_call G_look_text (hr.mono (by omega)) (takes_of rfl rfl rfl rfl) rfl T.m_look_text T.f_look_text.kp T.b_look_text (sa_cons (so_var (pv 0)) sa_nil)))
    (sssX_cons (ssX_lift (ss_set (i := 2) sc_read_box.nd rfl (Or.inl rfl) (se_call G_box_in (hr.mono (by omega)) rfl T.m_box_in T.f_box_in.kp T.b_box_in (sa_cons (so_val (se_tm PySem.F.slot_str_split PySem.F.type_str_split txm_split (se_var (pv 0)) se_str)) sa_nil))))
    (sssX_cons (ssX_if (st_not (st_val (se_call G_is_box (hr.mono (by omega)) rfl T.m_is_box T.f_is_box.kp T.b_is_box (sa_cons (so_var (pv 2)) (sa_cons (so_var (pv 1)) sa_nil)))))
    (sssX_one (ssX_raise rfl (takes_of rfl rfl rfl rfl) T.xr_NoText T.xg_NoText rfl))
    (sssX_lift sss_nil))
    (sssX_lift (sss_one (ss_retV (pv 2)))))))
theorem ok_read_box (T : Txt K mg) : FnX P w K mg base 7 T.a_read_box T.d_read_box P_read_box (spX K [] C_read_box) :=
  fnX T.f_read_box sc_read_box (fun cdv A outer s H E hr => ss_read_box T (ok_look_text T) (ok_box_in T) (ok_is_box T) hr) imp_read_box
set_option maxHeartbeats 4000000 in
theorem ss_low_text (T : Txt K mg)  {cdv : Value} {A : Around} {outer : List Env} {s : Shared} {H : Hp} {E : XK} (hr : RoomG 1 (A.deeper (envOfC "low_text" (defScope s_low_text) s.heap.objs.size T.a_low_text cdv))) :
    SSs (bX P w K mg base N_low_text "low_text" (defScope s_low_text) T.a_low_text cdv A outer s H E) [] (defBody s_low_text) (w_low_text) := by
  have hu := hr.units
  exact (sss_cons (ss_if (st_cmp opd_isN (so_var (pv 0)) (so_val se_non) (nomark _))
    (sss_one (ss_ret se_str))
    sss_nil)
    (sss_cons (ss_asg (se_var (pv 0)) (sg_tup rfl (sgs_cons (sg_name (i := 1) sc_low_text.nd rfl (Or.inl rfl)) (sgs_cons (sg_name (i := 2) sc_low_text.nd rfl (Or.inl rfl)) sgs_nil))))
    (sss_one (ss_ret (se_bin opd_add (so_val (se_ifExp (st_val (se_var (pv 2))) se_str se_str)) (so_val (se_callTy (calld_str2 hr) rfl T.z_str bb_str (sa_cons (so_var (pv 1)) sa_nil))))))))
theorem ok_low_text (T : Txt K mg) : FnG P w K mg base 2 T.a_low_text T.d_low_text P_low_text (spD K [] C_low_text) :=
  fnD T.f_low_text sc_low_text (fun cdv A outer s H E hr => ss_low_text T  hr) imp_low_text
set_option maxHeartbeats 4000000 in
theorem ss_high_text (T : Txt K mg)  {cdv : Value} {A : Around} {outer : List Env} {s : Shared} {H : Hp} {E : XK} (hr : RoomG 1 (A.deeper (envOfC "high_text" (defScope s_high_text) s.heap.objs.size T.a_high_text cdv))) :
    SSs (bX P w K mg base N_high_text "high_text" (defScope s_high_text) T.a_high_text cdv A outer s H E) [] (defBody s_high_text) (w_high_text) := by
  have hu := hr.units
  exact (sss_cons (ss_if (st_cmp opd_isN (so_var (pv 0)) (so_val se_non) (nomark _))
    (sss_one (ss_ret se_str))
    sss_nil)
    (sss_cons (ss_asg (se_var (pv 0)) (sg_tup rfl (sgs_cons (sg_name (i := 1) sc_high_text.nd rfl (Or.inl rfl)) (sgs_cons (sg_name (i := 2) sc_high_text.nd rfl (Or.inl rfl)) sgs_nil))))
    (sss_one (ss_ret (se_bin opd_add (so_val (se_callTy (calld_str2 hr) rfl T.z_str bb_str (sa_cons (so_var (pv 1)) sa_nil))) (so_val (se_ifExp (st_val (se_var (pv 2))) se_str se_str)))))))
theorem ok_high_text (T : Txt K mg) : FnG P w K mg base 2 T.a_high_text T.d_high_text P_high_text (spD K [] C_high_text) :=
  fnD T.f_high_text sc_high_text (fun cdv A outer s H E hr => ss_high_text T  hr) imp_high_text
set_option maxHeartbeats 4000000 in
theorem ss_show_box (T : Txt K mg) (G_low_text : FnG P w K mg base 2 T.a_low_text T.d_low_text P_low_text (spD K [] C_low_text)) (G_high_text : FnG P w K mg base 2 T.a_high_text T.d_high_text P_high_text (spD K [] C_high_text)) {cdv : Value} {A : Around} {outer : List Env} {s : Shared} {H : Hp} {E : XK} (hr : RoomG 2 (A.deeper (envOfC "show_box" (defScope s_show_box) s.heap.objs.size T.a_show_box cdv))) :
    SSs (bX P w K mg base N_show_box "show_box" (defScope s_show_box) T.a_show_box cdv A outer s H E) [] (defBody s_show_box) (w_show_box) := by
  have hu := hr.units
  exact (sss_one (ss_ret (se_tm PySem.F.slot_str_join PySem.F.type_str_join txm_join se_str (se_comp (own := [("low", 1), ("high", 2)]) rfl sc_show_box.nd (si_of (se_var (pv 0))) (blkOk_by (by first | (show blkC N_show_box (defScope s_show_box) _ _ = true; decide +kernel) | kernel_rfl)) (fun _ _ _ _ _ => (sg_tup rfl (sgs_cons (sg_name (i := 1) sc_show_box.nd rfl (Or.inl rfl)) (sgs_cons (sg_name (i := 2) sc_show_box.nd rfl (Or.inl rfl)) sgs_nil)))) (fun _ _ _ _ _ => sf_nil) (fun _ _ _ _ _ => (se_bin opd_add (so_val (se_bin opd_add (so_val (se_call G_low_text (hr.mono (by omega)) rfl T.m_low_text T.f_low_text.kp T.b_low_text (sa_cons (so_var (pv 1)) sa_nil))) (so_val se_str))) (so_val (se_call G_high_text (hr.mono (by omega)) rfl T.m_high_text T.f_high_text.kp T.b_high_text (sa_cons (so_var (pv 2)) sa_nil)))))))))
theorem ok_show_box (T : Txt K mg) : FnG P w K mg base 3 T.a_show_box T.d_show_box P_show_box (spD K [] C_show_box) :=
  fnD T.f_show_box sc_show_box (fun cdv A outer s H E hr => ss_show_box T (ok_low_text T) (ok_high_text T) hr) imp_show_box
set_option maxHeartbeats 4000000 in
theorem ss__law_cell_at (T : Txt K mg)  {cdv : Value} {A : Around} {outer : List Env} {s : Shared} {H : Hp} {E : XK} (hr : RoomG 1 (A.deeper (envOfC "_law_cell_at" (defScope s__law_cell_at) s.heap.objs.size T.a__law_cell_at cdv))) :
    SSs (bX P w K mg base N__law_cell_at "_law_cell_at" (defScope s__law_cell_at) T.a__law_cell_at cdv A outer s H E) [] (defBody s__law_cell_at) (w__law_cell_at) := by
  have hu := hr.units
  exact (sss_cons (ss_if (st_cmp opd_lt (so_var (pv 1)) (so_val (se_callB calld_len rfl T.z_len bb_len (sa_cons (so_var (pv 0)) sa_nil))) (nomark _))
    (sss_one (ss_ret (se_ix ixd (so_var (pv 0)) (so_var (pv 1)))))
    sss_nil)
    (sss_one (ss_ret se_int)))
theorem ok__law_cell_at (T : Txt K mg) : FnG P w K mg base 2 T.a__law_cell_at T.d__law_cell_at P__law_cell_at (spD K [] C__law_cell_at) :=
  fnD T.f__law_cell_at sc__law_cell_at (fun cdv A outer s H E hr => ss__law_cell_at T  hr) imp__law_cell_at
set_option maxHeartbeats 4000000 in
theorem ss__law_left (T : Txt K mg) (G__law_cell_at : FnG P w K mg base 2 T.a__law_cell_at T.d__law_cell_at P__law_cell_at (spD K [] C__law_cell_at)) {cdv : Value} {A : Around} {outer : List Env} {s : Shared} {H : Hp} {E : XK} (hr : RoomG 2 (A.deeper (envOfC "_law_left" (defScope s__law_left) s.heap.objs.size T.a__law_left cdv))) :
    SSs (bX P w K mg base N__law_left "_law_left" (defScope s__law_left) T.a__law_left cdv A outer s H E) [] (defBody s__law_left) (w__law_left) := by
  have hu := hr.units
  exact (sss_cons (ss_set (i := 2) sc__law_left.nd rfl (Or.inl rfl) (se_call G__law_cell_at (hr.mono (by omega)) rfl T.m__law_cell_at T.f__law_cell_at.kp T.b__law_cell_at (sa_cons (so_var (pv 0)) (sa_cons (so_val (se_bin opd_mod (so_var (pv 1)) (so_val (se_callB (calld_max rfl) rfl T.z_max bb_max (sa_cons (so_val se_int) (sa_cons (so_val (se_callB calld_len rfl T.z_len bb_len (sa_cons (so_var (pv 0)) sa_nil))) sa_nil)))))) sa_nil))))
    (sss_cons (ss_set (i := 3) sc__law_left.nd rfl (Or.inl rfl) (se_bin opd_mod (so_val (se_bin opd_mul2 (so_val (se_bin opd_add (so_val (se_bin opd_add (so_val (se_bin opd_mod (so_var (pv 2)) (so_val se_int))) (so_val (se_bin opd_mul2 (so_val (se_bin opd_mul2 (so_val se_int) (so_var (pv 1)))) (so_var (pv 1)))))) (so_val se_int))) (so_val se_int))) (so_val se_int)))
    (sss_one (ss_ret (se_lst (sa_cons (so_val (se_bin opd_mod (so_val (se_bin opd_mul2 (so_var (pv 2)) (so_val (se_callTy (calld_int T.hD) rfl T.z_int bb_int (sa_cons (so_val (se_cmp opd_ge (so_var (pv 2)) (so_val (se_bin opd_pow (so_val se_int) (so_val se_int))) (nomark _))) sa_nil))))) (so_val (se_callTy (calld_int T.hD) rfl T.z_int bb_int (sa_cons (so_val (se_bin opd_add (so_val se_str) (so_val (se_bin opd_mul2 (so_val se_str) (so_val se_int))))) sa_nil))))) (sa_cons (so_var (pv 3)) sa_nil)))))))
theorem ok__law_left (T : Txt K mg) : FnG P w K mg base 3 T.a__law_left T.d__law_left P__law_left (spD K [] C__law_left) :=
  fnD T.f__law_left sc__law_left (fun cdv A outer s H E hr => ss__law_left T (ok__law_cell_at T) hr) imp__law_left
set_option maxHeartbeats 4000000 in
theorem ss__law_pick (T : Txt K mg)  {cdv : Value} {A : Around} {outer : List Env} {s : Shared} {H : Hp} {E : XK} (hr : RoomG 1 (A.deeper (envOfC "_law_pick" (defScope s__law_pick) s.heap.objs.size T.a__law_pick cdv))) :
    SSs (bX P w K mg base N__law_pick "_law_pick" (defScope s__law_pick) T.a__law_pick cdv A outer s H E) [0] (defBody s__law_pick) (w__law_pick) := by
  have hu := hr.units
  exact (sss_cons (ss_if (st_cmp opd_gt (so_val (se_ix ixd (so_var (pv 0)) (so_val se_int))) (so_val se_int) (nomark _))
    (sss_cons (ss_set (i := 2) sc__law_pick.nd rfl (Or.inl rfl) (se_bin opd_mod (so_val (se_ix ixd (so_var (pv 0)) (so_val se_int))) (so_var (pv 1))))
    (sss_cons (ss_sub (pv 0) (se_bin opd_div (so_val (se_ix ixd (so_var (pv 0)) (so_val se_int))) (so_var (pv 1))) (so_val se_int))
    (sss_one (ss_retV (pv 2)))))
    sss_nil)
    (sss_cons (ss_sub (pv 0) (se_bin opd_mod (so_val (se_bin opd_add (so_val (se_bin opd_mul2 (so_val (se_ix ixd (so_var (pv 0)) (so_val se_int))) (so_val se_int))) (so_val se_int))) (so_val se_int)) (so_val se_int))
    (sss_one (ss_ret (se_bin opd_mod (so_val (se_bin opd_mod (so_val (se_bin opd_mul2 (so_val (se_ix ixd (so_var (pv 0)) (so_val se_int))) (so_val (se_ix ixd (so_var (pv 0)) (so_val se_int))))) (so_val se_int))) (so_var (pv 1)))))))
theorem ok__law_pick (T : Txt K mg) : FnG P w K mg base 2 T.a__law_pick T.d__law_pick P__law_pick (spD K [0] C__law_pick) :=
  fnD T.f__law_pick sc__law_pick (fun cdv A outer s H E hr => ss__law_pick T  hr) imp__law_pick
set_option maxHeartbeats 4000000 in
theorem ss__law_pool (T : Txt K mg) (G__law_pick : FnG P w K mg base 2 T.a__law_pick T.d__law_pick P__law_pick (spD K [0] C__law_pick)) {cdv : Value} {A : Around} {outer : List Env} {s : Shared} {H : Hp} {E : XK} (hr : RoomG 2 (A.deeper (envOfC "_law_pool" (defScope s__law_pool) s.heap.objs.size T.a__law_pool cdv))) :
    SSs (bX P w K mg base N__law_pool "_law_pool" (defScope s__law_pool) T.a__law_pool cdv A outer s H E) [0] (defBody s__law_pool) (w__law_pool) := by
  have hu := hr.units
  exact (sss_cons (ss_set (i := 1) sc__law_pool.nd rfl (Or.inr rfl) (se_ix ixd (so_val (se_lst (sa_cons (so_val se_int) (sa_cons (so_val (se_un und_neg (so_val se_int))) (sa_cons (so_val (se_bin opd_pow (so_val se_int) (so_val se_int))) (sa_cons (so_val (se_un und_neg (so_val (se_bin opd_pow (so_val se_int) (so_val se_int))))) (sa_cons (so_val se_int) sa_nil))))))) (so_val (se_callIO G__law_pick (hr.mono (by omega)) rfl T.m__law_pick T.f__law_pick.kp T.b__law_pick (sa_cons (so_var (pv 0)) (sa_cons (so_val se_int) sa_nil))))))
    (sss_cons (ss_set (i := 2) sc__law_pool.nd rfl (Or.inr rfl) (se_ix ixd (so_val (se_lst (sa_cons (so_val se_int) (sa_cons (so_val se_int) (sa_cons (so_val se_int) (sa_cons (so_val se_int) (sa_cons (so_val se_int) (sa_cons (so_val (se_bin opd_pow (so_val se_int) (so_val se_int))) sa_nil)))))))) (so_val (se_callIO G__law_pick (hr.mono (by omega)) rfl T.m__law_pick T.f__law_pick.kp T.b__law_pick (sa_cons (so_var (pv 0)) (sa_cons (so_val se_int) sa_nil))))))
    (sss_one (ss_ret (se_comp (own := [("_law_k", 3)]) rfl sc__law_pool.nd (si_range1 rfl T.z_range (sa_cons (so_val (se_ix ixd (so_val (se_lst (sa_cons (so_val se_int) (sa_cons (so_val se_int) (sa_cons (so_val se_int) (sa_cons (so_val se_int) (sa_cons (so_val se_int) (sa_cons (so_val se_int) sa_nil)))))))) (so_val (se_callIO G__law_pick (hr.mono (by omega)) rfl T.m__law_pick T.f__law_pick.kp T.b__law_pick (sa_cons (so_var (pv 0)) (sa_cons (so_val se_int) sa_nil)))))) sa_nil)) (blkOk_by (by first | (show blkC N__law_pool (defScope s__law_pool) _ _ = true; decide +kernel) | kernel_rfl)) (fun _ _ _ _ _ => (sg_name (i := 3) sc__law_pool.nd rfl (Or.inl rfl))) (fun _ _ _ _ _ => sf_nil) (fun _ _ _ _ _ => (se_bin opd_add (so_var (pv 1)) (so_val (se_bin opd_mul2 (so_var (pv 2)) (so_var (pv 3)))))))))))
theorem ok__law_pool (T : Txt K mg) : FnG P w K mg base 3 T.a__law_pool T.d__law_pool P__law_pool (spD K [0] C__law_pool) :=
  fnD T.f__law_pool sc__law_pool (fun cdv A outer s H E hr => ss__law_pool T (ok__law_pick T) hr) imp__law_pool
set_option maxHeartbeats 4000000 in
theorem ss__law_number (T : Txt K mg) (G__law_pick : FnG P w K mg base 2 T.a__law_pick T.d__law_pick P__law_pick (spD K [0] C__law_pick)) {cdv : Value} {A : Around} {outer : List Env} {s : Shared} {H : Hp} {E : XK} (hr : RoomG 2 (A.deeper (envOfC "_law_number" (defScope s__law_number) s.heap.objs.size T.a__law_number cdv))) :
    SSs (bX P w K mg base N__law_number "_law_number" (defScope s__law_number) T.a__law_number cdv A outer s H E) [0] (defBody s__law_number) (w__law_number) := by
  have hu := hr.units
  exact (sss_one (ss_ret (se_ix ixd (so_var (pv 1)) (so_val (se_callIO G__law_pick (hr.mono (by omega)) rfl T.m__law_pick T.f__law_pick.kp T.b__law_pick (sa_cons (so_var (pv 0)) (sa_cons (so_val (se_callB calld_len rfl T.z_len bb_len (sa_cons (so_var (pv 1)) sa_nil))) sa_nil)))))))
theorem ok__law_number (T : Txt K mg) : FnG P w K mg base 3 T.a__law_number T.d__law_number P__law_number (spD K [0] C__law_number) :=
  fnD T.f__law_number sc__law_number (fun cdv A outer s H E hr => ss__law_number T (ok__law_pick T) hr) imp__law_number
set_option maxHeartbeats 4000000 in
theorem ss__law_end (T : Txt K mg) (G__law_pick : FnG P w K mg base 2 T.a__law_pick T.d__law_pick P__law_pick (spD K [0] C__law_pick)) (G__law_number : FnG P w K mg base 3 T.a__law_number T.d__law_number P__law_number (spD K [0] C__law_number)) {cdv : Value} {A : Around} {outer : List Env} {s : Shared} {H : Hp} {E : XK} (hr : RoomG 3 (A.deeper (envOfC "_law_end" (defScope s__law_end) s.heap.objs.size T.a__law_end cdv))) :
    SSs (bX P w K mg base N__law_end "_law_end" (defScope s__law_end) T.a__law_end cdv A outer s H E) [0] (defBody s__law_end) (w__law_end) := by
  have hu := hr.units
  exact (sss_cons (ss_if (st_cmp (opd_eq hu) (so_val (se_callIO G__law_pick (hr.mono (by omega)) rfl T.m__law_pick T.f__law_pick.kp T.b__law_pick (sa_cons (so_var (pv 0)) (sa_cons (so_val se_int) sa_nil)))) (so_val se_int) (nomark _))
    (sss_one (ss_ret se_non))
    sss_nil)
    (sss_one (ss_ret (se_tup (sa_cons (so_val (se_bin opd_add (so_val (se_callIO G__law_number (hr.mono (by omega)) rfl T.m__law_number T.f__law_number.kp T.b__law_number (sa_cons (so_var (pv 0)) (sa_cons (so_var (pv 1)) sa_nil)))) (so_val (se_ix ixd (so_val (se_lst (sa_cons (so_val se_int) (sa_cons (so_val se_int) (sa_cons (so_val se_int) (sa_cons (so_val se_int) (sa_cons (so_val (se_un und_neg (so_val se_int))) sa_nil))))))) (so_val (se_callIO G__law_pick (hr.mono (by omega)) rfl T.m__law_pick T.f__law_pick.kp T.b__law_pick (sa_cons (so_var (pv 0)) (sa_cons (so_val se_int) sa_nil)))))))) (sa_cons (so_val (se_cmp (opd_eq hu) (so_val (se_callIO G__law_pick (hr.mono (by omega)) rfl T.m__law_pick T.f__law_pick.kp T.b__law_pick (sa_cons (so_var (pv 0)) (sa_cons (so_val se_int) sa_nil)))) (so_val se_int) (nomark _))) sa_nil))))))
theorem ok__law_end (T : Txt K mg) : FnG P w K mg base 4 T.a__law_end T.d__law_end P__law_end (spD K [0] C__law_end) :=
  fnD T.f__law_end sc__law_end (fun cdv A outer s H E hr => ss__law_end T (ok__law_pick T) (ok__law_number T) hr) imp__law_end
set_option maxHeartbeats 4000000 in
theorem ss__law_box (T : Txt K mg) (G__law_pick : FnG P w K mg base 2 T.a__law_pick T.d__law_pick P__law_pick (spD K [0] C__law_pick)) (G__law_end : FnG P w K mg base 4 T.a__law_end T.d__law_end P__law_end (spD K [0] C__law_end)) {cdv : Value} {A : Around} {outer : List Env} {s : Shared} {H : Hp} {E : XK} (hr : RoomG 4 (A.deeper (envOfC "_law_box" (defScope s__law_box) s.heap.objs.size T.a__law_box cdv))) :
    SSs (bX P w K mg base N__law_box "_law_box" (defScope s__law_box) T.a__law_box cdv A outer s H E) [0] (defBody s__law_box) (w__law_box) := by
  have hu := hr.units
  exact (sss_cons (ss_set (i := 3) sc__law_box.nd rfl (Or.inl rfl) (se_lst sa_nil))
    (sss_cons (ss_set (i := 4) sc__law_box.nd rfl (Or.inl rfl) (se_callIO G__law_pick (hr.mono (by omega)) rfl T.m__law_pick T.f__law_pick.kp T.b__law_pick (sa_cons (so_var (pv 0)) (sa_cons (so_val se_int) sa_nil))))
    (sss_cons (ss_for PassesOwn.never rfl (si_range1 rfl T.z_range (sa_cons (so_var (pv 1)) sa_nil)) (sg_name (i := 5) sc__law_box.nd rfl (Or.inl rfl))
    (sss_cons (ss_par2 (i := 6) (j := 7) rfl sc__law_box.nd rfl rfl (by decide) rfl rfl (se_callIO G__law_end (hr.mono (by omega)) rfl T.m__law_end T.f__law_end.kp T.b__law_end (sa_cons (so_var (pv 0)) (sa_cons (so_var (pv 2)) sa_nil))) (se_callIO G__law_end (hr.mono (by omega)) rfl T.m__law_end T.f__law_end.kp T.b__law_end (sa_cons (so_var (pv 0)) (sa_cons (so_var (pv 2)) sa_nil))) (hw := by with_unfolding_all rfl))
    (sss_cons (ss_if (st_w (sw_and (st_cmp (opd_eq hu) (so_var (pv 4)) (so_val se_int) (nomark _)) (sw_and (st_cmp opd_notN (so_var (pv 6)) (so_val se_non) (nomark _)) (sw_and (st_cmp opd_notN (so_var (pv 7)) (so_val se_non) (nomark _)) (sw_and1 (st_cmp opd_gt (so_val (se_ix ixd (so_var (pv 6)) (so_val se_int))) (so_val (se_ix ixd (so_var (pv 7)) (so_val se_int))) (nomark _)))))))
    (sss_one (ss_par2 (i := 6) (j := 7) rfl sc__law_box.nd rfl rfl (by decide) rfl rfl (se_var (pv 7)) (se_var (pv 6)) (hw := by with_unfolding_all rfl)))
    sss_nil)
    (sss_one (ss_expr (se_append (pv 3) (se_tup (sa_cons (so_var (pv 6)) (sa_cons (so_var (pv 7)) sa_nil)))))))))
    (sss_one (ss_ret (se_callTy calld_tuple rfl T.z_tuple bb_tuple (sa_cons (so_var (pv 3)) sa_nil)))))))
theorem ok__law_box (T : Txt K mg) : FnG P w K mg base 5 T.a__law_box T.d__law_box P__law_box (spD K [0] C__law_box) :=
  fnD T.f__law_box sc__law_box (fun cdv A outer s H E hr => ss__law_box T (ok__law_pick T) (ok__law_end T) hr) imp__law_box
set_option maxHeartbeats 4000000 in
theorem ss__law_box_text (T : Txt K mg)  {cdv : Value} {A : Around} {outer : List Env} {s : Shared} {H : Hp} {E : XK} (hr : RoomG 1 (A.deeper (envOfC "_law_box_text" (defScope s__law_box_text) s.heap.objs.size T.a__law_box_text cdv))) :
    SSs (bX P w K mg base N__law_box_text "_law_box_text" (defScope s__law_box_text) T.a__law_box_text cdv A outer s H E) [] (defBody s__law_box_text) (w__law_box_text) := by
  have hu := hr.units
  exact (sss_cons (ss_set (i := 1) sc__law_box_text.nd rfl (Or.inl rfl) (se_lst sa_nil))
    (sss_cons (ss_for PassesOwn.never rfl (si_of (se_var (pv 0))) (sg_tup rfl (sgs_cons (sg_name (i := 2) sc__law_box_text.nd rfl (Or.inl rfl)) (sgs_cons (sg_name (i := 3) sc__law_box_text.nd rfl (Or.inl rfl)) sgs_nil)))
    (sss_cons (ss_set (i := 4) sc__law_box_text.nd rfl (Or.inl rfl) (se_ifExp (st_cmp opd_isN (so_var (pv 2)) (so_val se_non) (nomark _)) se_str (se_bin opd_add (so_val (se_ix ixd (so_val (se_lst (sa_cons (so_val se_str) (sa_cons (so_val se_str) sa_nil)))) (so_val (se_callTy (calld_int T.hD) rfl T.z_int bb_int (sa_cons (so_val (se_ix ixd (so_var (pv 2)) (so_val se_int))) sa_nil))))) (so_val (se_callTy (calld_str2 hr) rfl T.z_str bb_str (sa_cons (so_val (se_ix ixd (so_var (pv 2)) (so_val se_int))) sa_nil))))))
    (sss_one (ss_expr (se_append (pv 1) (se_bin opd_add (so_val (se_bin opd_add (so_var (pv 4)) (so_val se_str))) (so_val (se_ifExp (st_cmp opd_isN (so_var (pv 3)) (so_val se_non) (nomark _)) se_str (se_bin opd_add (so_val (se_callTy (calld_str2 hr) rfl T.z_str bb_str (sa_cons (so_val (se_ix ixd (so_var (pv 3)) (so_val se_int))) sa_nil))) (so_val (se_ix ixd (so_val (se_lst (sa_cons (so_val se_str) (sa_cons (so_val se_str) sa_nil)))) (so_val (se_callTy (calld_int T.hD) rfl T.z_int bb_int (sa_cons (so_val (se_ix ixd (so_var (pv 3)) (so_val se_int))) sa_nil))))))))))))))
    (sss_one (ss_ret (se_tm PySem.F.slot_str_join PySem.F.type_str_join txm_join se_str (se_var (pv 1)))))))
theorem ok__law_box_text (T : Txt K mg) : FnG P w K mg base 2 T.a__law_box_text T.d__law_box_text P__law_box_text (spD K [] C__law_box_text) :=
  fnD T.f__law_box_text sc__law_box_text (fun cdv A outer s H E hr => ss__law_box_text T  hr) imp__law_box_text
set_option maxHeartbeats 4000000 in
theorem ss__law_same (T : Txt K mg) (n : Nat) (G__law_same : FnG P w K mg base (1 + n) T.a__law_same T.d__law_same P__law_same (spD K [] (C__law_same n))) {cdv : Value} {A : Around} {outer : List Env} {s : Shared} {H : Hp} {E : XK} (hr : RoomG (1 + n) (A.deeper (envOfC "_law_same" (defScope s__law_same) s.heap.objs.size T.a__law_same cdv))) :
    SSs (bX P w K mg base N__law_same "_law_same" (defScope s__law_same) T.a__law_same cdv A outer s H E) [] (defBody s__law_same) (w__law_same n) := by
  have hu := hr.units
  exact (sss_cons (ss_if (st_val (se_isi rfl T.z_isinstance rfl T.z_tuple bb_tuple ty_tuple (so_var (pv 1))))
    (sss_cons (ss_if (st_w (sw_or (st_not (st_val (se_isi rfl T.z_isinstance rfl T.z_tuple bb_tuple ty_tuple (so_var (pv 0))))) (sw_or1 (st_cmp (opd_ne hu) (so_val (se_callB calld_len rfl T.z_len bb_len (sa_cons (so_var (pv 0)) sa_nil))) (so_val (se_callB calld_len rfl T.z_len bb_len (sa_cons (so_var (pv 1)) sa_nil))) (nomark _)))))
    (sss_one (ss_ret se_bl))
    sss_nil)
    (sss_one (ss_ret (se_callB (calld_all rfl) rfl T.z_all bb_all (sa_cons (so_val (se_comp (own := [("_law_one", 2), ("_law_other", 3)]) rfl sc__law_same.nd (si_zipX rfl T.z_zip (sa_cons (so_var (pv 0)) (sa_cons (so_var (pv 1)) sa_nil))) (blkOk_by (by first | (show blkC N__law_same (defScope s__law_same) _ _ = true; decide +kernel) | kernel_rfl)) (fun _ _ _ _ _ => (sg_tup rfl (sgs_cons (sg_name (i := 2) sc__law_same.nd rfl (Or.inl rfl)) (sgs_cons (sg_name (i := 3) sc__law_same.nd rfl (Or.inl rfl)) sgs_nil)))) (fun _ _ _ _ _ => sf_nil) (fun _ _ _ _ _ => (se_call G__law_same (hr.mono (by omega)) rfl T.m__law_same T.f__law_same.kp T.b__law_same (sa_cons (so_var (pv 2)) (sa_cons (so_var (pv 3)) sa_nil)))))) sa_nil)))))
    sss_nil)
    (sss_cons (ss_if (st_cmp opd_isN (so_var (pv 1)) (so_val se_non) (nomark _))
    (sss_one (ss_ret (se_cmp opd_isN (so_var (pv 0)) (so_val se_non) (nomark _))))
    sss_nil)
    (sss_cons (ss_if (st_val (se_isi rfl T.z_isinstance rfl T.z_str bb_str ty_str (so_var (pv 1))))
    (sss_one (ss_ret (se_and (se_isi rfl T.z_isinstance rfl T.z_str bb_str ty_str (so_var (pv 0))) (se_one (se_cmp (opd_eq hu) (so_var (pv 0)) (so_var (pv 1)) (nomark _))))))
    sss_nil)
    (sss_cons (ss_if (st_w (sw_or (st_val (se_isi rfl T.z_isinstance rfl T.z_bool bb_bool ty_bool (so_var (pv 1)))) (sw_or1 (st_val (se_isi rfl T.z_isinstance rfl T.z_bool bb_bool ty_bool (so_var (pv 0)))))))
    (sss_one (ss_ret (se_and (se_isi rfl T.z_isinstance rfl T.z_bool bb_bool ty_bool (so_var (pv 0))) (se_and (se_isi rfl T.z_isinstance rfl T.z_bool bb_bool ty_bool (so_var (pv 1))) (se_one (se_cmp (opd_eq hu) (so_var (pv 0)) (so_var (pv 1)) (nomark _)))))))
    sss_nil)
    (sss_one (ss_ret (se_and (se_isi rfl T.z_isinstance rfl T.z_int bb_int ty_int (so_var (pv 0))) (se_one (se_cmp (opd_eq hu) (so_var (pv 0)) (so_var (pv 1)) (nomark _))))))))))
theorem ok__law_same (T : Txt K mg) : ∀ n : Nat, FnG P w K mg base (1 + n) T.a__law_same T.d__law_same P__law_same (spD K [] (C__law_same n))
  | 0 => fn_zero zero__law_same
  | n + 1 => fnD T.f__law_same sc__law_same (fun cdv A outer s H E hr => ss__law_same T n (ok__law_same T n) hr) (imp__law_same n)
set_option maxHeartbeats 4000000 in
theorem ss__law_told (T : Txt K mg) (G_read_box : FnX P w K mg base 7 T.a_read_box T.d_read_box P_read_box (spX K [] C_read_box)) {cdv : Value} {A : Around} {outer : List Env} {s : Shared} {H : Hp} {E : XK} (hr : RoomG 7 (A.deeper (envOfC "_law_told" (defScope s__law_told) s.heap.objs.size T.a__law_told cdv))) :
    SSs (bX P w K mg base N__law_told "_law_told" (defScope s__law_told) T.a__law_told cdv A outer s H E) [] (defBody s__law_told) (w__law_told) := by
  have hu := hr.units
  exact (sss_cons (ss_asg (se_tup (sa_cons (so_val se_non) (sa_cons (so_val se_non) sa_nil))) (sg_tup rfl (sgs_cons (sg_name (i := 1) sc__law_told.nd rfl (Or.inl rfl)) (sgs_cons (sg_name (i := 2) sc__law_told.nd rfl (Or.inl rfl)) sgs_nil))))
    (sss_cons (ss_try rfl rfl rfl sc__law_told.nd (i := 3) rfl rfl rfl T.xg_BoxError (by decide) T.xm_BoxError
    (fun W pn xe tk po => (sssX_one (ssX_set (i := 1) sc__law_told.nd rfl (Or.inl rfl) (sx_call G_read_box (hr.mono (by omega)) tk rfl T.m_read_box T.f_read_box.kp T.b_read_box (sa_cons (so_val (se_ix ixd (so_var (pv 0)) (so_val se_int))) (sa_cons (so_val (se_ix ixd (so_var (pv 0)) (so_val se_int))) sa_nil))))))
    (fun _ _ => (sss_one (ss_set (i := 2) sc__law_told.nd rfl (Or.inl rfl) (se_var (pv 3))))))
    (sss_cons (ss_if (st_cmp opd_isN (so_var (pv 2)) (so_val se_non) (nomark _))
    (sss_one (ss_ret (se_tup (sa_cons (so_val se_str) (sa_cons (so_var (pv 1)) sa_nil)))))
    sss_nil)
    (sss_cons (ss_if (st_w (sw_or (st_not (st_val (se_isX rfl T.z_isinstance rfl T.xg_NoText T.xi_NoText (so_var (pv 2))))) (sw_or1 (st_not (st_val (se_isXB rfl T.z_isinstance rfl T.z_ValueError rfl T.xi_ValueError (so_var (pv 2))))))))
    (sss_one (ss_ret (se_tup (sa_cons (so_val se_str) (sa_cons (so_val se_non) sa_nil)))))
    sss_nil)
    (sss_one (ss_ret (se_ifExp (st_val (se_isXT rfl T.z_isinstance (CNm.own rfl T.xg_NoLine (by decide) rfl (CNm.own rfl T.xg_NoNumber (by decide) rfl (CNm.own rfl T.xg_NoThing (by decide) rfl (CNm.own rfl T.xg_Taken (by decide) rfl CNm.nil)))) T.xi_NoLine_NoNumber_NoThing_Taken (by decide) (so_var (pv 2)))) (se_tup (sa_cons (so_val se_str) (sa_cons (so_val se_non) sa_nil))) (se_tup (sa_cons (so_val se_str) (sa_cons (so_val se_non) sa_nil))))))))))
theorem ok__law_told (T : Txt K mg) : FnG P w K mg base 8 T.a__law_told T.d__law_told P__law_told (spD K [] C__law_told) :=
  fnD T.f__law_told sc__law_told (fun cdv A outer s H E hr => ss__law_told T (ok_read_box T) hr) imp__law_told
set_option maxHeartbeats 4000000 in
theorem ss_law (T : Txt K mg) (G__law_left : FnG P w K mg base 3 T.a__law_left T.d__law_left P__law_left (spD K [] C__law_left)) (G__law_pick : FnG P w K mg base 2 T.a__law_pick T.d__law_pick P__law_pick (spD K [0] C__law_pick)) (G__law_box : FnG P w K mg base 5 T.a__law_box T.d__law_box P__law_box (spD K [0] C__law_box)) (G__law_pool : FnG P w K mg base 3 T.a__law_pool T.d__law_pool P__law_pool (spD K [0] C__law_pool)) (G__law_box_text : FnG P w K mg base 2 T.a__law_box_text T.d__law_box_text P__law_box_text (spD K [] C__law_box_text)) (G__law_same : FnG P w K mg base 11 T.a__law_same T.d__law_same P__law_same (spD K [] (C__law_same lv__law_same))) (G_show_box : FnG P w K mg base 3 T.a_show_box T.d_show_box P_show_box (spD K [] C_show_box)) (G_read_box : FnX P w K mg base 7 T.a_read_box T.d_read_box P_read_box (spX K [] C_read_box)) (G__law_told : FnG P w K mg base 8 T.a__law_told T.d__law_told P__law_told (spD K [] C__law_told)) {cdv : Value} {A : Around} {outer : List Env} {s : Shared} {H : Hp} {E : XK} (hr : RoomG 11 (A.deeper (envOfC "law" (defScope s_law) s.heap.objs.size T.a_law cdv))) :
    SSs (bX P w K mg base N_law "law" (defScope s_law) T.a_law cdv A outer s H E) [] (defBody s_law) (w_law) := by
  have hu := hr.units
  exact (sss_cons (ss_for PassesOwn.never rfl (si_range1 rfl T.z_range (sa_cons (so_val (se_callB (calld_max rfl) rfl T.z_max bb_max (sa_cons (so_val se_int) (sa_cons (so_val (se_callB (calld_min rfl) rfl T.z_min bb_min (sa_cons (so_val se_int) (sa_cons (so_val (se_callB calld_len rfl T.z_len bb_len (sa_cons (so_var (pv 0)) sa_nil))) sa_nil)))) sa_nil)))) sa_nil)) (sg_name (i := 1) sc_law.nd rfl (Or.inl rfl))
    (sss_cons (ss_set (i := 2) sc_law.nd rfl (Or.inl rfl) (se_call G__law_left (hr.mono (by omega)) rfl T.m__law_left T.f__law_left.kp T.b__law_left (sa_cons (so_var (pv 0)) (sa_cons (so_var (pv 1)) sa_nil))))
    (sss_cons (ss_set (i := 3) sc_law.nd rfl (Or.inl rfl) (se_bin opd_add (so_val se_int) (so_val (se_callIO G__law_pick (hr.mono (by omega)) rfl T.m__law_pick T.f__law_pick.kp T.b__law_pick (sa_cons (so_var (pv 2)) (sa_cons (so_val se_int) sa_nil))))))
    (sss_cons (ss_set (i := 4) sc_law.nd rfl (Or.inl rfl) (se_callIO G__law_box (hr.mono (by omega)) rfl T.m__law_box T.f__law_box.kp T.b__law_box (sa_cons (so_var (pv 2)) (sa_cons (so_var (pv 3)) (sa_cons (so_val (se_callIO G__law_pool (hr.mono (by omega)) rfl T.m__law_pool T.f__law_pool.kp T.b__law_pool (sa_cons (so_var (pv 2)) sa_nil))) sa_nil)))))
    (sss_cons (ss_set (i := 5) sc_law.nd rfl (Or.inl rfl) (se_call G__law_box_text (hr.mono (by omega)) rfl T.m__law_box_text T.f__law_box_text.kp T.b__law_box_text (sa_cons (so_var (pv 4)) sa_nil)))
    (sss_cons (ss_for PassesOwn.never rfl (si_range1 rfl T.z_range (sa_cons (so_val se_int) sa_nil)) (sg_name (i := 6) sc_law.nd rfl (Or.inl rfl))
    (sss_one (ss_if (st_w (sw_or (st_not (st_val (se_call G__law_same (hr.mono (by omega)) rfl T.m__law_same T.f__law_same.kp T.b__law_same (sa_cons (so_val (se_call G_show_box (hr.mono (by omega)) rfl T.m_show_box T.f_show_box.kp T.b_show_box (sa_cons (so_var (pv 4)) sa_nil))) (sa_cons (so_var (pv 5)) sa_nil))))) (sw_or1 (st_not (st_val (se_call G__law_same (hr.mono (by omega)) rfl T.m__law_same T.f__law_same.kp T.b__law_same (sa_cons (so_val (se_call G_read_box.plain (hr.mono (by omega)) rfl T.m_read_box T.f_read_box.kp T.b_read_box (sa_cons (so_var (pv 5)) (sa_cons (so_var (pv 3)) sa_nil)))) (sa_cons (so_var (pv 4)) sa_nil))))))))
    (sss_one (ss_ret se_bl))
    sss_nil)))
    (sss_cons (ss_set (i := 7) sc_law.nd rfl (Or.inl rfl) (se_bin opd_add (so_val se_int) (so_val (se_bin opd_mod (so_val (se_bin opd_add (so_var (pv 3)) (so_val (se_callIO G__law_pick (hr.mono (by omega)) rfl T.m__law_pick T.f__law_pick.kp T.b__law_pick (sa_cons (so_var (pv 2)) (sa_cons (so_val se_int) sa_nil)))))) (so_val se_int)))))
    (sss_one (ss_if (st_w (sw_and (st_cmp (opd_ne hu) (so_var (pv 7)) (so_var (pv 3)) (nomark _)) (sw_and1 (st_cmp (opd_ne hu) (so_val (se_call G__law_told (hr.mono (by omega)) rfl T.m__law_told T.f__law_told.kp T.b__law_told (sa_cons (so_val (se_tup (sa_cons (so_var (pv 5)) (sa_cons (so_var (pv 7)) sa_nil)))) sa_nil))) (so_val (se_tup (sa_cons (so_val se_str) (sa_cons (so_val se_non) sa_nil)))) (nomark _)))))
    (sss_one (ss_ret se_bl))
    sss_nil)))))))))
    (sss_one (ss_ret (se_cmp (opd_eq hu) (so_val (se_call G_show_box (hr.mono (by omega)) rfl T.m_show_box T.f_show_box.kp T.b_show_box (sa_cons (so_val (se_tup (sa_cons (so_val (se_tup (sa_cons (so_val se_non) (sa_cons (so_val se_non) sa_nil)))) (sa_cons (so_val (se_tup (sa_cons (so_val (se_tup (sa_cons (so_val (se_un und_neg (so_val se_int))) (sa_cons (so_val se_bl) sa_nil)))) (sa_cons (so_val (se_tup (sa_cons (so_val se_int) (sa_cons (so_val se_bl) sa_nil)))) sa_nil)))) sa_nil)))) sa_nil))) (so_val se_str) (nomark _)))))
theorem ok_law (T : Txt K mg) : FnG P w K mg base 12 T.a_law T.d_law P_law (spD K [] C_law) :=
  fnD T.f_law sc_law (fun cdv A outer s H E hr => ss_law T (ok__law_left T) (ok__law_pick T) (ok__law_box T) (ok__law_pool T) (ok__law_box_text T) (ok__law_same T lv__law_same) (ok_show_box T) (ok_read_box T) (ok__law_told T) hr) imp_law
end
set_option maxHeartbeats 0 in
theorem all_mk {l : PySem.W.OpenLaw} {w : World} {K : PySem.W.Frag} {h : Heap} {mg : Str → Option Value} {fa : Addr} (X : K.In h) (G : h.Ns mainGlobals mg) (hfa : mg "law" = some (.ref fa))
    {f1 f2 f3 f4 f5 f6 f7 f8 f9 f10 f11 f12 f13 f14 f15 f16 f17 f18 f19 f20 f21 f22 f23 f24 f25 f26 : Addr} {od1 an1 od2 an2 od3 an3 od4 an4 od5 an5 od6 an6 od7 an7 od8 an8 od9 an9 od10 an10 od11 an11 od12 an12 od13 an13 od14 an14 od15 an15 od16 an16 od17 an17 od18 an18 od19 an19 od20 an20 od21 an21 od22 an22 od23 an23 od24 an24 od25 an25 od26 an26 : Option Addr} {sl1 sl2 sl3 sl4 sl5 sl6 sl7 sl8 sl9 sl10 sl11 sl12 sl13 sl14 sl15 sl16 sl17 sl18 sl19 sl20 sl21 sl22 sl23 sl24 sl25 sl26 : Array (Option Value)} {oc1 kV1 dc1 pm1 cd1 ct1 oc2 kV2 dc2 pm2 cd2 ct2 oc3 kV3 dc3 pm3 cd3 ct3 oc4 kV4 dc4 pm4 cd4 ct4 oc5 kV5 dc5 pm5 cd5 ct5 oc6 kV6 dc6 pm6 cd6 ct6 oc7 kV7 dc7 pm7 cd7 ct7 oc8 kV8 dc8 pm8 cd8 ct8 oc9 kV9 dc9 pm9 cd9 ct9 oc10 kV10 dc10 pm10 cd10 ct10 oc11 kV11 dc11 pm11 cd11 ct11 oc12 kV12 dc12 pm12 cd12 ct12 oc13 kV13 dc13 pm13 cd13 ct13 oc14 kV14 dc14 pm14 cd14 ct14 oc15 kV15 dc15 pm15 cd15 ct15 oc16 kV16 dc16 pm16 cd16 ct16 oc17 kV17 dc17 pm17 cd17 ct17 oc18 kV18 dc18 pm18 cd18 ct18 oc19 kV19 dc19 pm19 cd19 ct19 oc20 kV20 dc20 pm20 cd20 ct20 oc21 kV21 dc21 pm21 cd21 ct21 oc22 kV22 dc22 pm22 cd22 ct22 oc23 kV23 dc23 pm23 cd23 ct23 oc24 kV24 dc24 pm24 cd24 ct24 oc25 kV25 dc25 pm25 cd25 ct25 oc26 kV26 dc26 pm26 cd26 ct26 : Value}
    {XX_BoxError : Addr} (aX_BoxError : PySem.W.nsIn K mainGlobals "BoxError" = some (some (.ref XX_BoxError)))
    {XX_NoLine : Addr} (aX_NoLine : PySem.W.nsIn K mainGlobals "NoLine" = some (some (.ref XX_NoLine)))
    {XX_NoNumber : Addr} (aX_NoNumber : PySem.W.nsIn K mainGlobals "NoNumber" = some (some (.ref XX_NoNumber)))
    {XX_NoText : Addr} (aX_NoText : PySem.W.nsIn K mainGlobals "NoText" = some (some (.ref XX_NoText)))
    {XX_NoThing : Addr} (aX_NoThing : PySem.W.nsIn K mainGlobals "NoThing" = some (some (.ref XX_NoThing)))
    {XX_Taken : Addr} (aX_Taken : PySem.W.nsIn K mainGlobals "Taken" = some (some (.ref XX_Taken)))
    (xhg_NoText : PySem.W.findIn K (.ref XX_NoText) "__getattribute__" = some (some (.builtin "BaseException.__getattribute__")))
    (xhk_NoText : PySem.W.findIn K (.ref XX_NoText) "__getattr__" = some none)
    (xhs_NoText : PySem.W.subIn K (.ref XX_NoText) (.type "BaseException") = some true)
    (xhd_NoText : PySem.W.hasDictIn K XX_NoText = true)
    (xha_NoText : PySem.W.findIn K (.ref XX_NoText) "__class__" = some (some (.builtin "object.__class__")))
    (xhn_NoText : PySem.W.specialIn K (.builtin "object.__class__") "__get__" = some (some (.builtin "getset_descriptor.__get__")))
    (xht_NoText : PySem.W.takesIn K (.builtin "object.__class__") = some true)
    (xhm_NoText : PySem.W.mroIn K XX_NoText (.type "object") = some true)
    (xs0_NoText : PySem.W.subIn K (.ref XX_NoText) (.type "NoneType") = some false)
    (xs1_NoText : PySem.W.subIn K (.ref XX_NoText) (.type "bool") = some false)
    (xs2_NoText : PySem.W.subIn K (.ref XX_NoText) (.type "int") = some false)
    (xs3_NoText : PySem.W.subIn K (.ref XX_NoText) (.type "str") = some false)
    (xs4_NoText : PySem.W.subIn K (.ref XX_NoText) (.type "tuple") = some false)
    (xs5_NoText : PySem.W.subIn K (.ref XX_NoText) (.type "list") = some false)
    (xs6_NoText : PySem.W.subIn K (.ref XX_NoText) (.type "dict") = some false)
    (xq_NoText : PySem.W.excIn K XX_NoText [.type "ValueError", .type "Exception", .type "BaseException", .type "object"] "ValueError.__new__" = true)
    (xkp_NoText : PySem.W.keepIn K (.ref XX_NoText) = true)
    (xty_NoText : PySem.W.typeIn K (.ref XX_NoText) = some (.type "type"))
    (xm_BoxError_NoText : PySem.W.exmOne K (.ref XX_NoText) (.ref XX_BoxError) = some true)
    (xi_NoText_NoText : PySem.W.kitAny K (.ref XX_NoText) [.ref XX_NoText] = some true)
    (xi_ValueError_NoText : PySem.W.kitAny K (.ref XX_NoText) [.type "ValueError"] = some true)
    (xi_NoLine_NoNumber_NoThing_Taken_NoText : PySem.W.kitAny K (.ref XX_NoText) [.ref XX_NoLine, .ref XX_NoNumber, .ref XX_NoThing, .ref XX_Taken] = some false)
    (a1 : PySem.W.nsIn K mainGlobals "is_whole" = some (some (.ref f1))) (l1 : K.lookup f1 = some ⟨oc1, od1, .func (PySem.W.fnOf "is_whole" "is_whole" (defArgs s_is_whole) (defBody s_is_whole) (defScope s_is_whole) .none kV1 dc1 pm1 an1 cd1 ct1), sl1⟩) (c1 : PySem.W.codeIn K cd1 "is_whole" = true) (k1 : PySem.W.keepIn K (.ref f1) = true)
    (a2 : PySem.W.nsIn K mainGlobals "is_end" = some (some (.ref f2))) (l2 : K.lookup f2 = some ⟨oc2, od2, .func (PySem.W.fnOf "is_end" "is_end" (defArgs s_is_end) (defBody s_is_end) (defScope s_is_end) .none kV2 dc2 pm2 an2 cd2 ct2), sl2⟩) (c2 : PySem.W.codeIn K cd2 "is_end" = true) (k2 : PySem.W.keepIn K (.ref f2) = true)
    (a3 : PySem.W.nsIn K mainGlobals "is_span" = some (some (.ref f3))) (l3 : K.lookup f3 = some ⟨oc3, od3, .func (PySem.W.fnOf "is_span" "is_span" (defArgs s_is_span) (defBody s_is_span) (defScope s_is_span) .none kV3 dc3 pm3 an3 cd3 ct3), sl3⟩) (c3 : PySem.W.codeIn K cd3 "is_span" = true) (k3 : PySem.W.keepIn K (.ref f3) = true)
    (a4 : PySem.W.nsIn K mainGlobals "is_box" = some (some (.ref f4))) (l4 : K.lookup f4 = some ⟨oc4, od4, .func (PySem.W.fnOf "is_box" "is_box" (defArgs s_is_box) (defBody s_is_box) (defScope s_is_box) .none kV4 dc4 pm4 an4 cd4 ct4), sl4⟩) (c4 : PySem.W.codeIn K cd4 "is_box" = true) (k4 : PySem.W.keepIn K (.ref f4) = true)
    (a5 : PySem.W.nsIn K mainGlobals "figures_in" = some (some (.ref f5))) (l5 : K.lookup f5 = some ⟨oc5, od5, .func (PySem.W.fnOf "figures_in" "figures_in" (defArgs s_figures_in) (defBody s_figures_in) (defScope s_figures_in) .none kV5 dc5 pm5 an5 cd5 ct5), sl5⟩) (c5 : PySem.W.codeIn K cd5 "figures_in" = true) (k5 : PySem.W.keepIn K (.ref f5) = true)
    (a6 : PySem.W.nsIn K mainGlobals "number_in" = some (some (.ref f6))) (l6 : K.lookup f6 = some ⟨oc6, od6, .func (PySem.W.fnOf "number_in" "number_in" (defArgs s_number_in) (defBody s_number_in) (defScope s_number_in) .none kV6 dc6 pm6 an6 cd6 ct6), sl6⟩) (c6 : PySem.W.codeIn K cd6 "number_in" = true) (k6 : PySem.W.keepIn K (.ref f6) = true)
    (a7 : PySem.W.nsIn K mainGlobals "low_in" = some (some (.ref f7))) (l7 : K.lookup f7 = some ⟨oc7, od7, .func (PySem.W.fnOf "low_in" "low_in" (defArgs s_low_in) (defBody s_low_in) (defScope s_low_in) .none kV7 dc7 pm7 an7 cd7 ct7), sl7⟩) (c7 : PySem.W.codeIn K cd7 "low_in" = true) (k7 : PySem.W.keepIn K (.ref f7) = true)
    (a8 : PySem.W.nsIn K mainGlobals "high_in" = some (some (.ref f8))) (l8 : K.lookup f8 = some ⟨oc8, od8, .func (PySem.W.fnOf "high_in" "high_in" (defArgs s_high_in) (defBody s_high_in) (defScope s_high_in) .none kV8 dc8 pm8 an8 cd8 ct8), sl8⟩) (c8 : PySem.W.codeIn K cd8 "high_in" = true) (k8 : PySem.W.keepIn K (.ref f8) = true)
    (a9 : PySem.W.nsIn K mainGlobals "span_in_word" = some (some (.ref f9))) (l9 : K.lookup f9 = some ⟨oc9, od9, .func (PySem.W.fnOf "span_in_word" "span_in_word" (defArgs s_span_in_word) (defBody s_span_in_word) (defScope s_span_in_word) .none kV9 dc9 pm9 an9 cd9 ct9), sl9⟩) (c9 : PySem.W.codeIn K cd9 "span_in_word" = true) (k9 : PySem.W.keepIn K (.ref f9) = true)
    (a10 : PySem.W.nsIn K mainGlobals "box_in" = some (some (.ref f10))) (l10 : K.lookup f10 = some ⟨oc10, od10, .func (PySem.W.fnOf "box_in" "box_in" (defArgs s_box_in) (defBody s_box_in) (defScope s_box_in) .none kV10 dc10 pm10 an10 cd10 ct10), sl10⟩) (c10 : PySem.W.codeIn K cd10 "box_in" = true) (k10 : PySem.W.keepIn K (.ref f10) = true)
    (a11 : PySem.W.nsIn K mainGlobals "look_text" = some (some (.ref f11))) (l11 : K.lookup f11 = some ⟨oc11, od11, .func (PySem.W.fnOf "look_text" "look_text" (defArgs s_look_text) (defBody s_look_text) (defScope s_look_text) .none kV11 dc11 pm11 an11 cd11 ct11), sl11⟩) (c11 : PySem.W.codeIn K cd11 "look_text" = true) (k11 : PySem.W.keepIn K (.ref f11) = true)
    (a12 : PySem.W.nsIn K mainGlobals "read_box" = some (some (.ref f12))) (l12 : K.lookup f12 = some ⟨oc12, od12, .func (PySem.W.fnOf "read_box" "read_box" (defArgs s_read_box) (defBody s_read_box) (defScope s_read_box) .none kV12 dc12 pm12 an12 cd12 ct12), sl12⟩) (c12 : PySem.W.codeIn K cd12 "read_box" = true) (k12 : PySem.W.keepIn K (.ref f12) = true)
    (a13 : PySem.W.nsIn K mainGlobals "low_text" = some (some (.ref f13))) (l13 : K.lookup f13 = some ⟨oc13, od13, .func (PySem.W.fnOf "low_text" "low_text" (defArgs s_low_text) (defBody s_low_text) (defScope s_low_text) .none kV13 dc13 pm13 an13 cd13 ct13), sl13⟩) (c13 : PySem.W.codeIn K cd13 "low_text" = true) (k13 : PySem.W.keepIn K (.ref f13) = true)
    (a14 : PySem.W.nsIn K mainGlobals "high_text" = some (some (.ref f14))) (l14 : K.lookup f14 = some ⟨oc14, od14, .func (PySem.W.fnOf "high_text" "high_text" (defArgs s_high_text) (defBody s_high_text) (defScope s_high_text) .none kV14 dc14 pm14 an14 cd14 ct14), sl14⟩) (c14 : PySem.W.codeIn K cd14 "high_text" = true) (k14 : PySem.W.keepIn K (.ref f14) = true)
    (a15 : PySem.W.nsIn K mainGlobals "show_box" = some (some (.ref f15))) (l15 : K.lookup f15 = some ⟨oc15, od15, .func (PySem.W.fnOf "show_box" "show_box" (defArgs s_show_box) (defBody s_show_box) (defScope s_show_box) .none kV15 dc15 pm15 an15 cd15 ct15), sl15⟩) (c15 : PySem.W.codeIn K cd15 "show_box" = true) (k15 : PySem.W.keepIn K (.ref f15) = true)
    (a16 : PySem.W.nsIn K mainGlobals "_law_cell_at" = some (some (.ref f16))) (l16 : K.lookup f16 = some ⟨oc16, od16, .func (PySem.W.fnOf "_law_cell_at" "_law_cell_at" (defArgs s__law_cell_at) (defBody s__law_cell_at) (defScope s__law_cell_at) .none kV16 dc16 pm16 an16 cd16 ct16), sl16⟩) (c16 : PySem.W.codeIn K cd16 "_law_cell_at" = true) (k16 : PySem.W.keepIn K (.ref f16) = true)
    (a17 : PySem.W.nsIn K mainGlobals "_law_left" = some (some (.ref f17))) (l17 : K.lookup f17 = some ⟨oc17, od17, .func (PySem.W.fnOf "_law_left" "_law_left" (defArgs s__law_left) (defBody s__law_left) (defScope s__law_left) .none kV17 dc17 pm17 an17 cd17 ct17), sl17⟩) (c17 : PySem.W.codeIn K cd17 "_law_left" = true) (k17 : PySem.W.keepIn K (.ref f17) = true)
    (a18 : PySem.W.nsIn K mainGlobals "_law_pick" = some (some (.ref f18))) (l18 : K.lookup f18 = some ⟨oc18, od18, .func (PySem.W.fnOf "_law_pick" "_law_pick" (defArgs s__law_pick) (defBody s__law_pick) (defScope s__law_pick) .none kV18 dc18 pm18 an18 cd18 ct18), sl18⟩) (c18 : PySem.W.codeIn K cd18 "_law_pick" = true) (k18 : PySem.W.keepIn K (.ref f18) = true)
    (a19 : PySem.W.nsIn K mainGlobals "_law_pool" = some (some (.ref f19))) (l19 : K.lookup f19 = some ⟨oc19, od19, .func (PySem.W.fnOf "_law_pool" "_law_pool" (defArgs s__law_pool) (defBody s__law_pool) (defScope s__law_pool) .none kV19 dc19 pm19 an19 cd19 ct19), sl19⟩) (c19 : PySem.W.codeIn K cd19 "_law_pool" = true) (k19 : PySem.W.keepIn K (.ref f19) = true)
    (a20 : PySem.W.nsIn K mainGlobals "_law_number" = some (some (.ref f20))) (l20 : K.lookup f20 = some ⟨oc20, od20, .func (PySem.W.fnOf "_law_number" "_law_number" (defArgs s__law_number) (defBody s__law_number) (defScope s__law_number) .none kV20 dc20 pm20 an20 cd20 ct20), sl20⟩) (c20 : PySem.W.codeIn K cd20 "_law_number" = true) (k20 : PySem.W.keepIn K (.ref f20) = true)
    (a21 : PySem.W.nsIn K mainGlobals "_law_end" = some (some (.ref f21))) (l21 : K.lookup f21 = some ⟨oc21, od21, .func (PySem.W.fnOf "_law_end" "_law_end" (defArgs s__law_end) (defBody s__law_end) (defScope s__law_end) .none kV21 dc21 pm21 an21 cd21 ct21), sl21⟩) (c21 : PySem.W.codeIn K cd21 "_law_end" = true) (k21 : PySem.W.keepIn K (.ref f21) = true)
    (a22 : PySem.W.nsIn K mainGlobals "_law_box" = some (some (.ref f22))) (l22 : K.lookup f22 = some ⟨oc22, od22, .func (PySem.W.fnOf "_law_box" "_law_box" (defArgs s__law_box) (defBody s__law_box) (defScope s__law_box) .none kV22 dc22 pm22 an22 cd22 ct22), sl22⟩) (c22 : PySem.W.codeIn K cd22 "_law_box" = true) (k22 : PySem.W.keepIn K (.ref f22) = true)
    (a23 : PySem.W.nsIn K mainGlobals "_law_box_text" = some (some (.ref f23))) (l23 : K.lookup f23 = some ⟨oc23, od23, .func (PySem.W.fnOf "_law_box_text" "_law_box_text" (defArgs s__law_box_text) (defBody s__law_box_text) (defScope s__law_box_text) .none kV23 dc23 pm23 an23 cd23 ct23), sl23⟩) (c23 : PySem.W.codeIn K cd23 "_law_box_text" = true) (k23 : PySem.W.keepIn K (.ref f23) = true)
    (a24 : PySem.W.nsIn K mainGlobals "_law_same" = some (some (.ref f24))) (l24 : K.lookup f24 = some ⟨oc24, od24, .func (PySem.W.fnOf "_law_same" "_law_same" (defArgs s__law_same) (defBody s__law_same) (defScope s__law_same) .none kV24 dc24 pm24 an24 cd24 ct24), sl24⟩) (c24 : PySem.W.codeIn K cd24 "_law_same" = true) (k24 : PySem.W.keepIn K (.ref f24) = true)
    (a25 : PySem.W.nsIn K mainGlobals "_law_told" = some (some (.ref f25))) (l25 : K.lookup f25 = some ⟨oc25, od25, .func (PySem.W.fnOf "_law_told" "_law_told" (defArgs s__law_told) (defBody s__law_told) (defScope s__law_told) .none kV25 dc25 pm25 an25 cd25 ct25), sl25⟩) (c25 : PySem.W.codeIn K cd25 "_law_told" = true) (k25 : PySem.W.keepIn K (.ref f25) = true)
    (a26 : PySem.W.nsIn K mainGlobals "law" = some (some (.ref f26))) (l26 : K.lookup f26 = some ⟨oc26, od26, .func (PySem.W.fnOf "law" "law" (defArgs s_law) (defBody s_law) (defScope s_law) .none kV26 dc26 pm26 an26 cd26 ct26), sl26⟩) (c26 : PySem.W.codeIn K cd26 "law" = true) (k26 : PySem.W.keepIn K (.ref f26) = true)
    (z_ValueError : PySem.W.nsIn K mainGlobals "ValueError" = some none)
    (z_all : PySem.W.nsIn K mainGlobals "all" = some none)
    (z_bool : PySem.W.nsIn K mainGlobals "bool" = some none)
    (z_int : PySem.W.nsIn K mainGlobals "int" = some none)
    (z_isinstance : PySem.W.nsIn K mainGlobals "isinstance" = some none)
    (z_len : PySem.W.nsIn K mainGlobals "len" = some none)
    (z_max : PySem.W.nsIn K mainGlobals "max" = some none)
    (z_min : PySem.W.nsIn K mainGlobals "min" = some none)
    (z_range : PySem.W.nsIn K mainGlobals "range" = some none)
    (z_str : PySem.W.nsIn K mainGlobals "str" = some none)
    (z_tuple : PySem.W.nsIn K mainGlobals "tuple" = some none)
    (z_zip : PySem.W.nsIn K mainGlobals "zip" = some none)
    {tFIGURES_0 : Tok} (u_FIGURES : PySem.W.nsIn K mainGlobals "FIGURES" = some (some (.str "0123456789" tFIGURES_0))) 
    {tMOST_SIGNS_0 : Tok} (u_MOST_SIGNS : PySem.W.nsIn K mainGlobals "MOST_SIGNS" = some (some (.int 4000 tMOST_SIGNS_0))) 
    (hD : PySem.W.nsIn K cStatics "sys.int_max_str_digits" = some none) :
    ∃ fd : FuncData, (∀ (s : Shared) (v : Value), BindsTo s fd ⟨[v], []⟩ [("_law_script", v)]) ∧ ∀ base : Heap, K.In base → base.Ns mainGlobals mg → FnG l.prog w K mg base 12 fa fd ["_law_script"] (spD K [] CLaw) := by
  have e := hfa.symm.trans (PySem.W.mg_of X G a26)
  cases e
  have F1 := fun_mk (st := s_is_whole) l1 c1 k1
  have b1 := F1.binds (ps := P_is_whole) fun _ _ _ _ _ _ us hl => match us, hl with | [_], _ => rfl
  have F2 := fun_mk (st := s_is_end) l2 c2 k2
  have b2 := F2.binds (ps := P_is_end) fun _ _ _ _ _ _ us hl => match us, hl with | [_], _ => rfl
  have F3 := fun_mk (st := s_is_span) l3 c3 k3
  have b3 := F3.binds (ps := P_is_span) fun _ _ _ _ _ _ us hl => match us, hl with | [_], _ => rfl
  have F4 := fun_mk (st := s_is_box) l4 c4 k4
  have b4 := F4.binds (ps := P_is_box) fun _ _ _ _ _ _ us hl => match us, hl with | [_, _], _ => rfl
  have F5 := fun_mk (st := s_figures_in) l5 c5 k5
  have b5 := F5.binds (ps := P_figures_in) fun _ _ _ _ _ _ us hl => match us, hl with | [_], _ => rfl
  have F6 := fun_mk (st := s_number_in) l6 c6 k6
  have b6 := F6.binds (ps := P_number_in) fun _ _ _ _ _ _ us hl => match us, hl with | [_], _ => rfl
  have F7 := fun_mk (st := s_low_in) l7 c7 k7
  have b7 := F7.binds (ps := P_low_in) fun _ _ _ _ _ _ us hl => match us, hl with | [_], _ => rfl
  have F8 := fun_mk (st := s_high_in) l8 c8 k8
  have b8 := F8.binds (ps := P_high_in) fun _ _ _ _ _ _ us hl => match us, hl with | [_], _ => rfl
  have F9 := fun_mk (st := s_span_in_word) l9 c9 k9
  have b9 := F9.binds (ps := P_span_in_word) fun _ _ _ _ _ _ us hl => match us, hl with | [_], _ => rfl
  have F10 := fun_mk (st := s_box_in) l10 c10 k10
  have b10 := F10.binds (ps := P_box_in) fun _ _ _ _ _ _ us hl => match us, hl with | [_], _ => rfl
  have F11 := fun_mk (st := s_look_text) l11 c11 k11
  have b11 := F11.binds (ps := P_look_text) fun _ _ _ _ _ _ us hl => match us, hl with | [_], _ => rfl
  have F12 := fun_mk (st := s_read_box) l12 c12 k12
  have b12 := F12.binds (ps := P_read_box) fun _ _ _ _ _ _ us hl => match us, hl with | [_, _], _ => rfl
  have F13 := fun_mk (st := s_low_text) l13 c13 k13
  have b13 := F13.binds (ps := P_low_text) fun _ _ _ _ _ _ us hl => match us, hl with | [_], _ => rfl
  have F14 := fun_mk (st := s_high_text) l14 c14 k14
  have b14 := F14.binds (ps := P_high_text) fun _ _ _ _ _ _ us hl => match us, hl with | [_], _ => rfl
  have F15 := fun_mk (st := s_show_box) l15 c15 k15
  have b15 := F15.binds (ps := P_show_box) fun _ _ _ _ _ _ us hl => match us, hl with | [_], _ => rfl
  have F16 := fun_mk (st := s__law_cell_at) l16 c16 k16
  have b16 := F16.binds (ps := P__law_cell_at) fun _ _ _ _ _ _ us hl => match us, hl with | [_, _], _ => rfl
  have F17 := fun_mk (st := s__law_left) l17 c17 k17
  have b17 := F17.binds (ps := P__law_left) fun _ _ _ _ _ _ us hl => match us, hl with | [_, _], _ => rfl
  have F18 := fun_mk (st := s__law_pick) l18 c18 k18
  have b18 := F18.binds (ps := P__law_pick) fun _ _ _ _ _ _ us hl => match us, hl with | [_, _], _ => rfl
  have F19 := fun_mk (st := s__law_pool) l19 c19 k19
  have b19 := F19.binds (ps := P__law_pool) fun _ _ _ _ _ _ us hl => match us, hl with | [_], _ => rfl
  have F20 := fun_mk (st := s__law_number) l20 c20 k20
  have b20 := F20.binds (ps := P__law_number) fun _ _ _ _ _ _ us hl => match us, hl with | [_, _], _ => rfl
  have F21 := fun_mk (st := s__law_end) l21 c21 k21
  have b21 := F21.binds (ps := P__law_end) fun _ _ _ _ _ _ us hl => match us, hl with | [_, _], _ => rfl
  have F22 := fun_mk (st := s__law_box) l22 c22 k22
  have b22 := F22.binds (ps := P__law_box) fun _ _ _ _ _ _ us hl => match us, hl with | [_, _, _], _ => rfl
  have F23 := fun_mk (st := s__law_box_text) l23 c23 k23
  have b23 := F23.binds (ps := P__law_box_text) fun _ _ _ _ _ _ us hl => match us, hl with | [_], _ => rfl
  have F24 := fun_mk (st := s__law_same) l24 c24 k24
  have b24 := F24.binds (ps := P__law_same) fun _ _ _ _ _ _ us hl => match us, hl with | [_, _], _ => rfl
  have F25 := fun_mk (st := s__law_told) l25 c25 k25
  have b25 := F25.binds (ps := P__law_told) fun _ _ _ _ _ _ us hl => match us, hl with | [_], _ => rfl
  have F26 := fun_mk (st := s_law) l26 c26 k26
  have b26 := F26.binds (ps := P_law) fun _ _ _ _ _ _ us hl => match us, hl with | [_], _ => rfl
  let T : Txt K mg := { a_is_whole := f1, d_is_whole := _, f_is_whole := F1, b_is_whole := b1, m_is_whole := PySem.W.mg_of X G a1, a_is_end := f2, d_is_end := _, f_is_end := F2, b_is_end := b2, m_is_end := PySem.W.mg_of X G a2, a_is_span := f3, d_is_span := _, f_is_span := F3, b_is_span := b3, m_is_span := PySem.W.mg_of X G a3, a_is_box := f4, d_is_box := _, f_is_box := F4, b_is_box := b4, m_is_box := PySem.W.mg_of X G a4, a_figures_in := f5, d_figures_in := _, f_figures_in := F5, b_figures_in := b5, m_figures_in := PySem.W.mg_of X G a5, a_number_in := f6, d_number_in := _, f_number_in := F6, b_number_in := b6, m_number_in := PySem.W.mg_of X G a6, a_low_in := f7, d_low_in := _, f_low_in := F7, b_low_in := b7, m_low_in := PySem.W.mg_of X G a7, a_high_in := f8, d_high_in := _, f_high_in := F8, b_high_in := b8, m_high_in := PySem.W.mg_of X G a8, a_span_in_word := f9, d_span_in_word := _, f_span_in_word := F9, b_span_in_word := b9, m_span_in_word := PySem.W.mg_of X G a9, a_box_in := f10, d_box_in := _, f_box_in := F10, b_box_in := b10, m_box_in := PySem.W.mg_of X G a10, a_look_text := f11, d_look_text := _, f_look_text := F11, b_look_text := b11, m_look_text := PySem.W.mg_of X G a11, a_read_box := f12, d_read_box := _, f_read_box := F12, b_read_box := b12, m_read_box := PySem.W.mg_of X G a12, a_low_text := f13, d_low_text := _, f_low_text := F13, b_low_text := b13, m_low_text := PySem.W.mg_of X G a13, a_high_text := f14, d_high_text := _, f_high_text := F14, b_high_text := b14, m_high_text := PySem.W.mg_of X G a14, a_show_box := f15, d_show_box := _, f_show_box := F15, b_show_box := b15, m_show_box := PySem.W.mg_of X G a15, a__law_cell_at := f16, d__law_cell_at := _, f__law_cell_at := F16, b__law_cell_at := b16, m__law_cell_at := PySem.W.mg_of X G a16, a__law_left := f17, d__law_left := _, f__law_left := F17, b__law_left := b17, m__law_left := PySem.W.mg_of X G a17, a__law_pick := f18, d__law_pick := _, f__law_pick := F18, b__law_pick := b18, m__law_pick := PySem.W.mg_of X G a18, a__law_pool := f19, d__law_pool := _, f__law_pool := F19, b__law_pool := b19, m__law_pool := PySem.W.mg_of X G a19, a__law_number := f20, d__law_number := _, f__law_number := F20, b__law_number := b20, m__law_number := PySem.W.mg_of X G a20, a__law_end := f21, d__law_end := _, f__law_end := F21, b__law_end := b21, m__law_end := PySem.W.mg_of X G a21, a__law_box := f22, d__law_box := _, f__law_box := F22, b__law_box := b22, m__law_box := PySem.W.mg_of X G a22, a__law_box_text := f23, d__law_box_text := _, f__law_box_text := F23, b__law_box_text := b23, m__law_box_text := PySem.W.mg_of X G a23, a__law_same := f24, d__law_same := _, f__law_same := F24, b__law_same := b24, m__law_same := PySem.W.mg_of X G a24, a__law_told := f25, d__law_told := _, f__law_told := F25, b__law_told := b25, m__law_told := PySem.W.mg_of X G a25, a_law := fa, d_law := _, f_law := F26, b_law := b26, m_law := PySem.W.mg_of X G a26, X_BoxError := XX_BoxError, xg_BoxError := PySem.W.mg_of X G aX_BoxError, X_NoLine := XX_NoLine, xg_NoLine := PySem.W.mg_of X G aX_NoLine, X_NoNumber := XX_NoNumber, xg_NoNumber := PySem.W.mg_of X G aX_NoNumber, X_NoText := XX_NoText, xg_NoText := PySem.W.mg_of X G aX_NoText, X_NoThing := XX_NoThing, xg_NoThing := PySem.W.mg_of X G aX_NoThing, X_Taken := XX_Taken, xg_Taken := PySem.W.mg_of X G aX_Taken, xr_NoText := ⟨⟨aX_NoText, ⟨xhg_NoText, xhk_NoText, xhs_NoText, xhd_NoText, xha_NoText, xhn_NoText, xht_NoText, xhm_NoText⟩, sub7 xs0_NoText xs1_NoText xs2_NoText xs3_NoText xs4_NoText xs5_NoText xs6_NoText⟩, xq_NoText, xkp_NoText, xty_NoText⟩, xm_BoxError := (List.forall_mem_cons.mpr ⟨⟨_, aX_NoText, xm_BoxError_NoText⟩, (fun _ z => nomatch z)⟩), xi_NoText := (List.forall_mem_cons.mpr ⟨⟨_, aX_NoText, xi_NoText_NoText⟩, (fun _ z => nomatch z)⟩), xi_ValueError := (List.forall_mem_cons.mpr ⟨⟨_, aX_NoText, xi_ValueError_NoText⟩, (fun _ z => nomatch z)⟩), xi_NoLine_NoNumber_NoThing_Taken := (List.forall_mem_cons.mpr ⟨⟨_, aX_NoText, xi_NoLine_NoNumber_NoThing_Taken_NoText⟩, (fun _ z => nomatch z)⟩), z_ValueError := PySem.W.mg_none_of X G z_ValueError, z_all := PySem.W.mg_none_of X G z_all, z_bool := PySem.W.mg_none_of X G z_bool, z_int := PySem.W.mg_none_of X G z_int, z_isinstance := PySem.W.mg_none_of X G z_isinstance, z_len := PySem.W.mg_none_of X G z_len, z_max := PySem.W.mg_none_of X G z_max, z_min := PySem.W.mg_none_of X G z_min, z_range := PySem.W.mg_none_of X G z_range, z_str := PySem.W.mg_none_of X G z_str, z_tuple := PySem.W.mg_none_of X G z_tuple, z_zip := PySem.W.mg_none_of X G z_zip, k_FIGURES := ⟨_, PySem.W.mg_of X G u_FIGURES, ⟨_, rfl⟩⟩, k_MOST_SIGNS := ⟨_, PySem.W.mg_of X G u_MOST_SIGNS, ⟨_, rfl⟩⟩, hD := hD }
  exact ⟨_, fun s v => .of_eq rfl, fun base _ _ => ok_law (P := l.prog) (w := w) (base := base) T⟩
end K71
open PySem PySem.W PyProof.Rows
set_option maxRecDepth 100000 in
set_option maxHeartbeats 0 in
theorem PySem.Challenge.cw_boxlayers_k71_boxes_as_texts_holds : PySem.Challenge.rw_boxlayers_k71_boxes_as_texts.Holds := by
  w_on; o_law; k_head; (case hw => w_witness2)
  k_fill
  refine Bx.walk_G (l := PySem.Challenge.rw_boxlayers_k71_boxes_as_texts) (n := 63) (k := 12) (x := "_law_script") (sp := fun w => Bx.spD _ [] Bx.CLaw) rfl (by decide) rfl ⟨rfl, by decide, by decide⟩ (fun w h Y => PySem.W.kIn_of Y) ?F (fun w H a ns hl hO hS => Bx.law_start hl hO hS)
  case F =>
    intro w mg fa h KX G hmg
    refine' K71.all_mk KX G hmg ?aX_BoxError ?aX_NoLine ?aX_NoNumber ?aX_NoText ?aX_NoThing ?aX_Taken ?xhg_NoText ?xhk_NoText ?xhs_NoText ?xhd_NoText ?xha_NoText ?xhn_NoText ?xht_NoText ?xhm_NoText ?xs0_NoText ?xs1_NoText ?xs2_NoText ?xs3_NoText ?xs4_NoText ?xs5_NoText ?xs6_NoText ?xq_NoText ?xkp_NoText ?xty_NoText ?xm_BoxError_NoText ?xi_NoText_NoText ?xi_ValueError_NoText ?xi_NoLine_NoNumber_NoThing_Taken_NoText ?a1 ?l1 ?c1 ?k1 ?a2 ?l2 ?c2 ?k2 ?a3 ?l3 ?c3 ?k3 ?a4 ?l4 ?c4 ?k4 ?a5 ?l5 ?c5 ?k5 ?a6 ?l6 ?c6 ?k6 ?a7 ?l7 ?c7 ?k7 ?a8 ?l8 ?c8 ?k8 ?a9 ?l9 ?c9 ?k9 ?a10 ?l10 ?c10 ?k10 ?a11 ?l11 ?c11 ?k11 ?a12 ?l12 ?c12 ?k12 ?a13 ?l13 ?c13 ?k13 ?a14 ?l14 ?c14 ?k14 ?a15 ?l15 ?c15 ?k15 ?a16 ?l16 ?c16 ?k16 ?a17 ?l17 ?c17 ?k17 ?a18 ?l18 ?c18 ?k18 ?a19 ?l19 ?c19 ?k19 ?a20 ?l20 ?c20 ?k20 ?a21 ?l21 ?c21 ?k21 ?a22 ?l22 ?c22 ?k22 ?a23 ?l23 ?c23 ?k23 ?a24 ?l24 ?c24 ?k24 ?a25 ?l25 ?c25 ?k25 ?a26 ?l26 ?c26 ?k26 ?z_ValueError ?z_all ?z_bool ?z_int ?z_isinstance ?z_len ?z_max ?z_min ?z_range ?z_str ?z_tuple ?z_zip ?u_FIGURES ?u_MOST_SIGNS ?hD
    (case aX_BoxError => k_is); (case aX_NoLine => k_is); (case aX_NoNumber => k_is); (case aX_NoText => k_is); (case aX_NoThing => k_is); (case aX_Taken => k_is); (case xhg_NoText => k_is); (case xhk_NoText => k_is); (case xhs_NoText => k_is); (case xhd_NoText => k_is); (case xha_NoText => k_is); (case xhn_NoText => k_is); (case xht_NoText => k_is); (case xhm_NoText => k_is); (case xs0_NoText => k_is); (case xs1_NoText => k_is); (case xs2_NoText => k_is); (case xs3_NoText => k_is); (case xs4_NoText => k_is); (case xs5_NoText => k_is); (case xs6_NoText => k_is); (case xq_NoText => first | k_exc | kernel_rfl); (case xkp_NoText => k_is); (case xty_NoText => k_is); (case xm_BoxError_NoText => first | k_exc | kernel_rfl); (case xi_NoText_NoText => first | k_exc | kernel_rfl); (case xi_ValueError_NoText => first | k_exc | kernel_rfl); (case xi_NoLine_NoNumber_NoThing_Taken_NoText => first | k_exc | kernel_rfl); (case a1 => k_is); (case l1 => k_is); (case c1 => k_is); (case k1 => k_is); (case a2 => k_is); (case l2 => k_is); (case c2 => k_is); (case k2 => k_is); (case a3 => k_is); (case l3 => k_is); (case c3 => k_is); (case k3 => k_is); (case a4 => k_is); (case l4 => k_is); (case c4 => k_is); (case k4 => k_is); (case a5 => k_is); (case l5 => k_is); (case c5 => k_is); (case k5 => k_is); (case a6 => k_is); (case l6 => k_is); (case c6 => k_is); (case k6 => k_is); (case a7 => k_is); (case l7 => k_is); (case c7 => k_is); (case k7 => k_is); (case a8 => k_is); (case l8 => k_is); (case c8 => k_is); (case k8 => k_is); (case a9 => k_is); (case l9 => k_is); (case c9 => k_is); (case k9 => k_is); (case a10 => k_is); (case l10 => k_is); (case c10 => k_is); (case k10 => k_is); (case a11 => k_is); (case l11 => k_is); (case c11 => k_is); (case k11 => k_is); (case a12 => k_is); (case l12 => k_is); (case c12 => k_is); (case k12 => k_is); (case a13 => k_is); (case l13 => k_is); (case c13 => k_is); (case k13 => k_is); (case a14 => k_is); (case l14 => k_is); (case c14 => k_is); (case k14 => k_is); (case a15 => k_is); (case l15 => k_is); (case c15 => k_is); (case k15 => k_is); (case a16 => k_is); (case l16 => k_is); (case c16 => k_is); (case k16 => k_is); (case a17 => k_is); (case l17 => k_is); (case c17 => k_is); (case k17 => k_is); (case a18 => k_is); (case l18 => k_is); (case c18 => k_is); (case k18 => k_is); (case a19 => k_is); (case l19 => k_is); (case c19 => k_is); (case k19 => k_is); (case a20 => k_is); (case l20 => k_is); (case c20 => k_is); (case k20 => k_is); (case a21 => k_is); (case l21 => k_is); (case c21 => k_is); (case k21 => k_is); (case a22 => k_is); (case l22 => k_is); (case c22 => k_is); (case k22 => k_is); (case a23 => k_is); (case l23 => k_is); (case c23 => k_is); (case k23 => k_is); (case a24 => k_is); (case l24 => k_is); (case c24 => k_is); (case k24 => k_is); (case a25 => k_is); (case l25 => k_is); (case c25 => k_is); (case k25 => k_is); (case a26 => k_is); (case l26 => k_is); (case c26 => k_is); (case k26 => k_is); (case z_ValueError => k_is); (case z_all => k_is); (case z_bool => k_is); (case z_int => k_is); (case z_isinstance => k_is); (case z_len => k_is); (case z_max => k_is); (case z_min => k_is); (case z_range => k_is); (case z_str => k_is); (case z_tuple => k_is); (case z_zip => k_is); (case u_FIGURES => k_is); (case u_MOST_SIGNS => k_is); (case hD => k_is)
