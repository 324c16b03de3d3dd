import PyProof.Rows.All
import Wide.All
import OpenK.AllK
import HandS.Wide
import Wide.FinOn
import HandS.ForMost
import HandS.TupAny
import HandS.SortInts
import HandS.IsInst
import HandS.Zip
import HandS.Rev
import HandS.Style
import KE.KIntText
import KE.IntText
import PyProof.Rows.Digits
import PyProof.StrOps2
import KE.IntTextLaws
import HandS.TupMul
import KE.SortData
import HandS.RaiseMore
import KE.SortKeyHeap
import HandS.SortKw
import PyProof.ReprRoads
import PyProof.DictUpdate
import PySem.Challenge.RW_boxlayers_k10_counts_sums_and_ends
set_option Elab.async false
set_option linter.all false
set_option maxRecDepth 100000
namespace Bx
open PySem L2

/-! ### data: what a value stands for -/
inductive D where
  | non | bl (b : Bool) | int (i : Int) | str (x : Str)
  | tup (xs : List D)
  | lst (o : Bool) (xs : List D)
  /-- the script: a list that is read alone -/
  | scr (xs : List D)
  /-- a dict that is never changed -/
  | dic (ks : List Key) (vs : List D)
  /-- a dict that is changed -/
  | odc (ks : List Key) (vs : List D)

def D.frz : D → D
  | .lst _ xs => .lst false xs
  | .odc ks vs => .dic ks vs
  | d => d
def D.own : D → Bool
  | .lst o _ => o
  | .odc _ _ => true
  | _ => false
/-- what may be owned -/
inductive OwH : HO → Prop
  | lst {vs : List V} : OwH (.lst vs)
  | dK {kvs : List (Key × V)} : OwH (.dK kvs)

abbrev Rho := List (Option D)
/-- the script's list: it stands for ever -/
def Scr (K : PySem.W.Frag) (H : Hp) (a : Addr) (xs : List V) : Prop :=
  (∃ o, H a = some (.frz o (.lst xs))) ∨
    ∃ (o : Obj) (its : Array Value) (n : Nat), K.lookup a = some o ∧ o.cls = .type "list" ∧ o.dict = none ∧ o.data = .seq its n ∧ its.size ≤ sizeLine ∧ Vals xs its.toList
theorem Scr.sqL {K : PySem.W.Frag} {H : Hp} {a : Addr} {xs : List V} (h : Scr K H a xs) : SqL K H a xs := by
  rcases h with ⟨o, h⟩ | h
  · exact .inl (.inr ⟨o, h⟩)
  · exact .inr h

mutual
inductive Rep (K : PySem.W.Frag) (H : Hp) (O : Addr → Prop) : V → D → Prop
  | non : Rep K H O .non .non
  | bl (b : Bool) : Rep K H O (.bl b) (.bl b)
  | int (i : Int) : Rep K H O (.int i) (.int i)
  | str (x : Str) : Rep K H O (.str x) (.str x)
  | tup {a : Addr} {vs : List V} {ds : List D} : SqT K H a vs → Reps K H O vs ds → Rep K H O (.ref a) (.tup ds)
  | lst {a : Addr} {vs : List V} {ds : List D} : H a = some (.lst vs) → ¬ O a → Reps K H O vs ds → Rep K H O (.ref a) (.lst false ds)
  | scr {a : Addr} {vs : List V} {ds : List D} : Scr K H a vs → Reps K H O vs ds → Rep K H O (.ref a) (.scr ds)
  | dic {a : Addr} {kvs : List (Key × V)} {ds : List D} : H a = some (.dK kvs) → ¬ O a → Reps K H O (kvs.map (·.2)) ds → Rep K H O (.ref a) (.dic (kvs.map (·.1)) ds)
inductive Reps (K : PySem.W.Frag) (H : Hp) (O : Addr → Prop) : List V → List D → Prop
  | nil : Reps K H O [] []
  | cons {v : V} {vs : List V} {d : D} {ds : List D} : Rep K H O v d → Reps K H O vs ds → Reps K H O (v :: vs) (d :: ds)
end

/-- what an owned object stands for -/
inductive OwR (K : PySem.W.Frag) (H : Hp) (O : Addr → Prop) : HO → D → Prop
  | lst {vs : List V} {ds : List D} : Reps K H O vs ds → OwR K H O (.lst vs) (.lst true ds)
  | dK {kvs : List (Key × V)} {ds : List D} : Reps K H O (kvs.map (·.2)) ds → OwR K H O (.dK kvs) (.odc (kvs.map (·.1)) ds)
/-- a value as it stands: frozen, or an owned list -/
inductive Val (K : PySem.W.Frag) (H : Hp) (O : Addr → Prop) : V → D → Prop
  | rep {v : V} {d : D} : Rep K H O v d → Val K H O v d
  | own {a : Addr} {u : HO} {d : D} : O a → H a = some u → OwR K H O u d → Val K H O (.ref a) d

section
variable {K : PySem.W.Frag} {H H' : Hp} {O O' : Addr → Prop}
theorem Reps.length : ∀ {vs : List V} {ds : List D}, Reps K H O vs ds → vs.length = ds.length
  | _, _, .nil => rfl
  | _, _, .cons _ t => by rw [List.length_cons, List.length_cons, Reps.length t]
theorem Reps.get : ∀ {vs : List V} {ds : List D} {i : Nat} {d : D}, Reps K H O vs ds → ds[i]? = some d → ∃ v, vs[i]? = some v ∧ Rep K H O v d
  | _, _, _, _, .nil, e => by simp at e
  | _, _, 0, _, .cons r _, e => by simp at e; subst e; exact ⟨_, rfl, r⟩
  | _, _, i + 1, x, .cons _ t, e => by
    obtain ⟨u, h1, h2⟩ := Reps.get (i := i) (d := x) t (by simpa using e)
    exact ⟨u, by simpa using h1, h2⟩
theorem Reps.getV : ∀ {vs : List V} {ds : List D} {i : Nat} {v : V}, Reps K H O vs ds → vs[i]? = some v → ∃ d, ds[i]? = some d ∧ Rep K H O v d
  | _, _, _, _, .nil, e => by simp at e
  | _, _, 0, _, .cons r _, e => by simp at e; subst e; exact ⟨_, rfl, r⟩
  | _, _, i + 1, x, .cons _ t, e => by
    obtain ⟨u, h1, h2⟩ := Reps.getV (i := i) (v := x) t (by simpa using e)
    exact ⟨u, by simpa using h1, h2⟩
theorem Reps.append : ∀ {vs ws : List V} {ds es : List D}, Reps K H O vs ds → Reps K H O ws es → Reps K H O (vs ++ ws) (ds ++ es)
  | _, _, _, _, .nil, s => s
  | _, _, _, _, .cons r t, s => .cons r (Reps.append t s)
theorem Reps.take : ∀ {vs : List V} {ds : List D} (n : Nat), Reps K H O vs ds → Reps K H O (vs.take n) (ds.take n)
  | _, _, 0, _ => .nil
  | _, _, _ + 1, .nil => .nil
  | _, _, n + 1, .cons r t => .cons r (Reps.take n t)
theorem Reps.drop : ∀ {vs : List V} {ds : List D} (n : Nat), Reps K H O vs ds → Reps K H O (vs.drop n) (ds.drop n)
  | _, _, 0, r => r
  | _, _, _ + 1, .nil => .nil
  | _, _, n + 1, .cons _ t => Reps.drop n t
theorem Reps.set {v : V} {d : D} (r : Rep K H O v d) : ∀ {vs : List V} {ds : List D} (i : Nat), Reps K H O vs ds → Reps K H O (vs.set i v) (ds.set i d)
  | _, _, _, .nil => .nil
  | _, _, 0, .cons _ t => .cons r t
  | _, _, i + 1, .cons q t => .cons q (Reps.set r i t)

/-- the heap moved on: what is not in S stands as it stood -/
structure Ext (S : Addr → Prop) (H : Hp) (O : Addr → Prop) (H' : Hp) (O' : Addr → Prop) : Prop where
  keep : ∀ a u, H a = some u → ¬ S a → H' a = some u ∧ (O' a ↔ O a)
  dom : ∀ a u, H a = some u → ∃ u', H' a = some u'
theorem Ext.refl {S : Addr → Prop} : Ext S H O H O := ⟨fun _ _ h _ => ⟨h, Iff.rfl⟩, fun _ u h => ⟨u, h⟩⟩
theorem Ext.mono {S T : Addr → Prop} (h : ∀ a, S a → T a) (e : Ext S H O H' O') : Ext T H O H' O' :=
  ⟨fun a u q n => e.keep a u q fun s => n (h a s), e.dom⟩
theorem Ext.trans {S S1 : Addr → Prop} {H1 : Hp} {O1 : Addr → Prop} (hs : ∀ a u, H a = some u → S1 a → S a) (e : Ext S H O H1 O1) (f : Ext S1 H1 O1 H' O') : Ext S H O H' O' :=
  ⟨fun a u q n => by
    obtain ⟨h1, o1⟩ := e.keep a u q n
    obtain ⟨h2, o2⟩ := f.keep a u h1 fun z => n (hs a u q z)
    exact ⟨h2, o2.trans o1⟩, fun a u q => by
    obtain ⟨u1, h1⟩ := e.dom a u q
    exact f.dom a u1 h1⟩
theorem Ext.free {S : Addr → Prop} (e : Ext S H O H' O') {a : Addr} (h : H' a = none) : H a = none := by
  cases q : H a with
  | none => rfl
  | some u =>
    obtain ⟨u', h'⟩ := e.dom a u q
    rw [h] at h'; cases h'
theorem OwR.h {u : HO} {d : D} (r : OwR K H O u d) : OwH u := by cases r <;> constructor
theorem OwR.o {u : HO} {d : D} (r : OwR K H O u d) : d.own = true := by cases r <;> rfl
/-- S holds owned objects alone -/
def Lsts (H : Hp) (O S : Addr → Prop) : Prop := ∀ a, S a → O a ∧ ∃ u, H a = some u ∧ OwH u

theorem sqT_ext {S : Addr → Prop} (e : Ext S H O H' O') (hS : Lsts H O S) {a : Addr} {vs : List V} (h : SqT K H a vs) : SqT K H' a vs := by
  have go : ∀ u, H a = some u → ¬ OwH u → H' a = some u := fun u q n => (e.keep a u q fun s => by
    obtain ⟨_, ws, z, w⟩ := hS a s
    rw [q] at z
    cases z
    exact n w).1
  rcases h with (h | ⟨o, h⟩) | h
  · exact .inl (.inl (go _ h fun z => by cases z))
  · exact .inl (.inr ⟨o, go _ h fun z => by cases z⟩)
  · exact .inr h
theorem rd_ext {S : Addr → Prop} (e : Ext S H O H' O') (hS : Lsts H O S) {a : Addr} {vs : List V} (h : H a = some (.lst vs)) (n : ¬ O a) : H' a = some (.lst vs) ∧ ¬ O' a := by
  have ns : ¬ S a := fun s => n (hS a s).1
  obtain ⟨q, i⟩ := e.keep a _ h ns
  exact ⟨q, fun z => n (i.mp z)⟩
theorem fz_ext {S : Addr → Prop} (e : Ext S H O H' O') (hS : Lsts H O S) {a : Addr} {o : Obj} {u : HO} (h : H a = some (.frz o u)) : H' a = some (.frz o u) :=
  (e.keep a _ h fun s => by
    obtain ⟨_, ws, z, w⟩ := hS a s
    rw [h] at z; cases z; cases w).1
theorem dk_ext {S : Addr → Prop} (e : Ext S H O H' O') (hS : Lsts H O S) {a : Addr} {kvs : List (Key × V)} (h : H a = some (.dK kvs)) (n : ¬ O a) : H' a = some (.dK kvs) ∧ ¬ O' a := by
  have ns : ¬ S a := fun s => n (hS a s).1
  obtain ⟨q, i⟩ := e.keep a _ h ns
  exact ⟨q, fun z => n (i.mp z)⟩
theorem scr_ext {S : Addr → Prop} (e : Ext S H O H' O') (hS : Lsts H O S) {a : Addr} {vs : List V} (h : Scr K H a vs) : Scr K H' a vs := by
  rcases h with ⟨o, h⟩ | h
  · exact .inl ⟨o, fz_ext e hS h⟩
  · exact .inr h
mutual
theorem Rep.ext {S : Addr → Prop} (e : Ext S H O H' O') (hS : Lsts H O S) : ∀ {v : V} {d : D}, Rep K H O v d → Rep K H' O' v d
  | _, _, .non => .non
  | _, _, .bl b => .bl b
  | _, _, .int i => .int i
  | _, _, .str x => .str x
  | _, _, .tup h r => .tup (sqT_ext e hS h) (Reps.ext e hS r)
  | _, _, .lst h n r => let ⟨q, m⟩ := rd_ext e hS h n; .lst q m (Reps.ext e hS r)
  | _, _, .scr h r => .scr (scr_ext e hS h) (Reps.ext e hS r)
  | _, _, .dic h n r => let ⟨q, m⟩ := dk_ext e hS h n; .dic q m (Reps.ext e hS r)
theorem Reps.ext {S : Addr → Prop} (e : Ext S H O H' O') (hS : Lsts H O S) : ∀ {vs : List V} {ds : List D}, Reps K H O vs ds → Reps K H' O' vs ds
  | _, _, .nil => .nil
  | _, _, .cons r t => .cons (Rep.ext e hS r) (Reps.ext e hS t)
end
mutual
theorem Rep.less (h : ∀ a, O' a → O a) : ∀ {v : V} {d : D}, Rep K H O v d → Rep K H O' v d
  | _, _, .non => .non
  | _, _, .bl b => .bl b
  | _, _, .int i => .int i
  | _, _, .str x => .str x
  | _, _, .tup q r => .tup q (Reps.less h r)
  | _, _, .lst q n r => .lst q (fun z => n (h _ z)) (Reps.less h r)
  | _, _, .scr q r => .scr q (Reps.less h r)
  | _, _, .dic q n r => .dic q (fun z => n (h _ z)) (Reps.less h r)
theorem Reps.less (h : ∀ a, O' a → O a) : ∀ {vs : List V} {ds : List D}, Reps K H O vs ds → Reps K H O' vs ds
  | _, _, .nil => .nil
  | _, _, .cons r t => .cons (Rep.less h r) (Reps.less h t)
end
end

theorem OwR.ext {K : PySem.W.Frag} {H H' : Hp} {O O' : Addr → Prop} {S : Addr → Prop} (e : Ext S H O H' O') (hS : Lsts H O S) {u : HO} {d : D} (r : OwR K H O u d) : OwR K H' O' u d := by
  cases r with
  | lst r => exact .lst (r.ext e hS)
  | dK r => exact .dK (r.ext e hS)
theorem OwR.less {K : PySem.W.Frag} {H : Hp} {O O' : Addr → Prop} (h : ∀ a, O' a → O a) {u : HO} {d : D} (r : OwR K H O u d) : OwR K H O' u d := by
  cases r with
  | lst r => exact .lst (r.less h)
  | dK r => exact .dK (r.less h)
theorem Rep.nown {K : PySem.W.Frag} {H : Hp} {O : Addr → Prop} {v : V} {d : D} (r : Rep K H O v d) : d.own = false := by cases r <;> rfl
theorem Rep.frz {K : PySem.W.Frag} {H : Hp} {O : Addr → Prop} {v : V} {d : D} (r : Rep K H O v d) : d.frz = d := by cases r <;> rfl
/-- frozen: it is owned no more -/
theorem OwR.frz {K : PySem.W.Frag} {H : Hp} {O O' : Addr → Prop} {a : Addr} {u : HO} {d : D} (r : OwR K H O u d) (e : H a = some u) (n : ¬ O' a) (h : ∀ a, O' a → O a) : Rep K H O' (.ref a) d.frz := by
  cases r with
  | lst r => exact .lst e n (r.less h)
  | dK r => exact .dic e n (r.less h)
theorem OwR.lst_of {K : PySem.W.Frag} {H : Hp} {O : Addr → Prop} {u : HO} {xs : List D} (r : OwR K H O u (.lst true xs)) : ∃ vs, u = .lst vs ∧ Reps K H O vs xs := by
  cases r with
  | lst r => exact ⟨_, rfl, r⟩
theorem D.frz_own {d : D} : d.frz.own = false := by cases d <;> rfl
/-- where the owned objects of the slots stand -/
def Sl (ρ : Rho) (σ : St) : Addr → Prop := fun a => ∃ (i : Nat) (d : D), ρ[i]? = some (some d) ∧ d.own = true ∧ σ[i]? = some (some (.ref a))

structure Sr (K : PySem.W.Frag) (ρ : Rho) (σ : St) (H : Hp) (O : Addr → Prop) : Prop where
  len : ρ.length = σ.length
  slot : ∀ (i : Nat) d, ρ[i]? = some (some d) → ∃ v, σ[i]? = some (some v) ∧ Val K H O v d
  uniq : ∀ (i j : Nat) d e a, ρ[i]? = some (some d) → d.own = true → ρ[j]? = some (some e) → e.own = true → σ[i]? = some (some (.ref a)) → σ[j]? = some (some (.ref a)) → i = j
  own : ∀ a, O a → ∃ u, H a = some u ∧ OwH u

section
variable {K : PySem.W.Frag} {ρ ρ' : Rho} {σ : St} {H H' : Hp} {O O' : Addr → Prop}
theorem Sr.lsts (s : Sr K ρ σ H O) : Lsts H O (Sl ρ σ) := fun a ⟨i, d, h1, hd, h2⟩ => by
  obtain ⟨v, e, q⟩ := s.slot i _ h1
  rw [h2] at e; cases e
  cases q with
  | rep r => rw [r.nown] at hd; cases hd
  | own o h r => exact ⟨o, _, h, r.h⟩
theorem Sr.fresh (s : Sr K ρ σ H O) {a : Addr} (h : H a = none) : ¬ O a := fun z => by
  obtain ⟨vs, e, _⟩ := s.own a z
  rw [h] at e; cases e
theorem Sr.nsl (s : Sr K ρ σ H O) {a : Addr} (h : H a = none) : ¬ Sl ρ σ a := fun z => s.fresh h (s.lsts a z).1

/-- behind an expression -/
structure After (K : PySem.W.Frag) (ρ : Rho) (σ : St) (H : Hp) (O : Addr → Prop) (ρ' : Rho) (H' : Hp) (O' : Addr → Prop) : Prop where
  sr : Sr K ρ' σ H' O'
  ext : Ext (Sl ρ σ) H O H' O'
  sub : ∀ a, Sl ρ' σ a → Sl ρ σ a
theorem After.refl (s : Sr K ρ σ H O) : After K ρ σ H O ρ H O := ⟨s, .refl, fun _ h => h⟩
theorem After.trans {ρ1 : Rho} {H1 : Hp} {O1 : Addr → Prop} (a : After K ρ σ H O ρ1 H1 O1) (b : After K ρ1 σ H1 O1 ρ' H' O') : After K ρ σ H O ρ' H' O' :=
  ⟨b.sr, a.ext.trans (fun x _ _ z => a.sub x z) b.ext, fun x z => a.sub x (b.sub x z)⟩

/-- a value that was made behind H: if it is owned it is new -/
structure VOk (K : PySem.W.Frag) (H : Hp) (H' : Hp) (O' : Addr → Prop) (v : V) (d : D) : Prop where
  val : Val K H' O' v d
  new : ∀ a, d.own = true → v = .ref a → H a = none
theorem VOk.back {H0 : Hp} {v : V} {d : D} (h : ∀ a, H a = none → H0 a = none) (q : VOk K H H' O' v d) : VOk K H0 H' O' v d := ⟨q.val, fun a e1 e2 => h a (q.new a e1 e2)⟩
theorem VOk.rep {v : V} {d : D} (r : Rep K H' O' v d) : VOk K H H' O' v d := ⟨.rep r, fun a e _ => by rw [r.nown] at e; cases e⟩
/-- a value stays, behind what an expression does -/
theorem VOk.ext {H0 : Hp} {v : V} {d : D} (s : Sr K ρ σ H O) (hs : ∀ a, H0 a = none → ¬ Sl ρ σ a) (q : VOk K H0 H O v d) (e : Ext (Sl ρ σ) H O H' O') : VOk K H0 H' O' v d := by
  refine ⟨?_, q.new⟩
  cases q.val with
  | rep r => exact .rep (r.ext e s.lsts)
  | own o h r =>
    obtain ⟨h1, i1⟩ := e.keep _ _ h (hs _ (q.new _ r.o rfl))
    exact .own (i1.mpr o) h1 (r.ext e s.lsts)
end
end Bx
namespace Bx
open PySem L2

/-! ### slots -/
def rget : Rho → Nat → Option D
  | [], _ => none
  | x :: _, 0 => x
  | _ :: r, n + 1 => rget r n
def rset : Rho → Nat → Option D → Rho
  | [], _, _ => []
  | _ :: r, 0, d => d :: r
  | x :: r, n + 1, d => x :: rset r n d
theorem rget_get : ∀ {ρ : Rho} {i : Nat} {d : D}, rget ρ i = some d → ρ[i]? = some (some d)
  | [], _, _, h => by cases h
  | x :: _, 0, _, h => by
    have h : x = some _ := h
    rw [h]; rfl
  | _ :: r, n + 1, _, h => by
    have q := rget_get (ρ := r) (i := n) h
    simpa using q
theorem rget_of : ∀ {ρ : Rho} {i : Nat} {d : D}, ρ[i]? = some (some d) → rget ρ i = some d
  | [], _, _, h => by simp at h
  | x :: _, 0, _, h => by
    have h : some x = some (some _) := h
    exact Option.some.inj h
  | _ :: r, n + 1, _, h => rget_of (ρ := r) (i := n) (by simpa using h)
theorem rset_set : ∀ {ρ : Rho} {i : Nat} {d : Option D}, rset ρ i d = ρ.set i d
  | [], _, _ => by simp [rset]
  | _ :: _, 0, _ => rfl
  | x :: r, n + 1, d => by
    show x :: rset r n d = x :: r.set n d
    rw [rset_set]

/-! ### operands: a slot (read when the operation is done), or a value -/
inductive DOp where
  | s (i : Nat)
  | d (x : D)
def rd (ρ : Rho) : DOp → Option D
  | .s i => rget ρ i
  | .d x => some x
abbrev DE := (D → Rho → Prop) → Rho → Prop
abbrev DO := (DOp → Rho → Prop) → Rho → Prop
abbrev DA := (List DOp → Rho → Prop) → Rho → Prop
abbrev DT := (Bool → Rho → Prop) → Rho → Prop

def OOk (K : PySem.W.Frag) (σ : St) (H H' : Hp) (O' : Addr → Prop) (v : V) : DOp → Prop
  | .s i => σ[i]? = some (some v)
  | .d x => VOk K H H' O' v x
inductive OOks (K : PySem.W.Frag) (σ : St) (H H' : Hp) (O' : Addr → Prop) : List V → List DOp → Prop
  | nil : OOks K σ H H' O' [] []
  | cons {v : V} {vs : List V} {o : DOp} {os : List DOp} : OOk K σ H H' O' v o → OOks K σ H H' O' vs os → OOks K σ H H' O' (v :: vs) (o :: os)

def SE (X : Cx) (e : Expr) (w : DE) : Prop :=
  ∃ t, PE X e t ∧ ∀ (σ : St) (H : Hp) (ρ : Rho) (O : Addr → Prop) (k : D → Rho → Prop) (R : VK), Sr X.K ρ σ H O → w k ρ →
    (∀ v H' ρ' O' d, After X.K ρ σ H O ρ' H' O' → VOk X.K H H' O' v d → k d ρ' → R v H') → t σ H R
def SO (X : Cx) (e : Expr) (w : DO) : Prop :=
  ∃ t, PE X e t ∧ ∀ (σ : St) (H : Hp) (ρ : Rho) (O : Addr → Prop) (k : DOp → Rho → Prop) (R : VK), Sr X.K ρ σ H O → w k ρ →
    (∀ v H' ρ' O' o, After X.K ρ σ H O ρ' H' O' → OOk X.K σ H H' O' v o → k o ρ' → R v H') → t σ H R
def SA (X : Cx) (es : List Expr) (w : DA) : Prop :=
  ∃ t, PA X es t ∧ ∀ (σ : St) (H : Hp) (ρ : Rho) (O : Addr → Prop) (k : List DOp → Rho → Prop) (R : List V → Hp → Prop), Sr X.K ρ σ H O → w k ρ →
    (∀ vs H' ρ' O' os, After X.K ρ σ H O ρ' H' O' → OOks X.K σ H H' O' vs os → vs.length = es.length → k os ρ' → R vs H') → t σ H R
def ST (X : Cx) (e : Expr) (w : DT) : Prop :=
  ∃ t, PT X e t ∧ ∀ (σ : St) (H : Hp) (ρ : Rho) (O : Addr → Prop) (k : Bool → Rho → Prop) (R : Bool → Hp → Prop), Sr X.K ρ σ H O → w k ρ →
    (∀ b H' ρ' O', After X.K ρ σ H O ρ' H' O' → k b ρ' → R b H') → t σ H R
def SW (X : Cx) (e : Expr) (w : DT) : Prop :=
  ∃ t, PW X e t ∧ ∀ (σ : St) (H : Hp) (ρ : Rho) (O : Addr → Prop) (k : Bool → Rho → Prop) (R : Bool → Hp → Prop), Sr X.K ρ σ H O → w k ρ →
    (∀ b H' ρ' O', After X.K ρ σ H O ρ' H' O' → k b ρ' → R b H') → t σ H R

section
variable {K : PySem.W.Frag} {ρ ρ1 ρ' : Rho} {σ : St} {H H1 H' : Hp} {O O1 O' : Addr → Prop}
theorem After.nsl (a : After K ρ σ H O ρ1 H1 O1) (s : Sr K ρ σ H O) {b : Addr} (h : H b = none) : ¬ Sl ρ1 σ b := fun z => s.nsl h (a.sub b z)
theorem After.back (a : After K ρ σ H O ρ1 H1 O1) : ∀ b, H1 b = none → H b = none := fun _ h => a.ext.free h
/-- what was made stays, behind a further expression -/
theorem VOk.then {v : V} {d : D} (s : Sr K ρ σ H O) (a : After K ρ σ H O ρ1 H1 O1) (q : VOk K H H1 O1 v d) (b : After K ρ1 σ H1 O1 ρ' H' O') : VOk K H H' O' v d :=
  q.ext a.sr (fun _ h => a.nsl s h) b.ext
theorem OOk.then {v : V} {o : DOp} (s : Sr K ρ σ H O) (a : After K ρ σ H O ρ1 H1 O1) (q : OOk K σ H H1 O1 v o) (b : After K ρ1 σ H1 O1 ρ' H' O') : OOk K σ H H' O' v o := by
  cases o with
  | s i => exact q
  | d x => exact VOk.then s a q b
theorem OOk.back {v : V} {o : DOp} (a : After K ρ σ H O ρ1 H1 O1) (q : OOk K σ H1 H' O' v o) : OOk K σ H H' O' v o := by
  cases o with
  | s i => exact q
  | d x => exact VOk.back a.back q
theorem OOks.back (a : After K ρ σ H O ρ1 H1 O1) : ∀ {vs : List V} {os : List DOp}, OOks K σ H1 H' O' vs os → OOks K σ H H' O' vs os
  | _, _, .nil => .nil
  | _, _, .cons q t => .cons (OOk.back a q) (OOks.back a t)
/-- an operand read -/
theorem OOk.val {v : V} {o : DOp} {d : D} (s : Sr K ρ1 σ H1 O1) (q : OOk K σ H H1 O1 v o) (e : rd ρ1 o = some d) : Val K H1 O1 v d := by
  cases o with
  | s i =>
    obtain ⟨u, h1, h2⟩ := s.slot i d (rget_get e)
    have q : σ[i]? = some (some v) := q
    rw [q] at h1; cases h1
    exact h2
  | d x =>
    have e : some x = some d := e
    cases e
    exact VOk.val q

/-- an operation that lays new objects alone -/
theorem Sr.ext0 (s : Sr K ρ σ H O) (e : Ext (fun _ => False) H O H' O') (own : ∀ a, O' a → ∃ u, H' a = some u ∧ OwH u) : After K ρ σ H O ρ H' O' := by
  have no : Lsts H O fun _ => False := fun _ z => z.elim
  refine ⟨⟨s.len, fun i d h => ?_, s.uniq, own⟩, e.mono fun _ z => z.elim, fun _ z => z⟩
  obtain ⟨v, h1, h2⟩ := s.slot i d h
  refine ⟨v, h1, ?_⟩
  cases h2 with
  | rep r => exact .rep (r.ext e no)
  | own o hh r =>
    obtain ⟨q, i⟩ := e.keep _ _ hh fun z => z
    exact .own (i.mpr o) q (r.ext e no)
/-- a new object that is not owned -/
theorem ext_new {p : Addr} {o : HO} (h : H p = none) : Ext (fun _ => False) H O (upd H p o) O :=
  ⟨fun a u q _ => ⟨by rw [upd_ne (ne_of_none q h)]; exact q, Iff.rfl⟩, fun a u q => ⟨u, by rw [upd_ne (ne_of_none q h)]; exact q⟩⟩
/-- a new owned list -/
def adO (O : Addr → Prop) (p : Addr) : Addr → Prop := fun a => O a ∨ a = p
theorem ext_own {p : Addr} {o : HO} (h : H p = none) : Ext (fun _ => False) H O (upd H p o) (adO O p) :=
  ⟨fun a u q _ => ⟨by rw [upd_ne (ne_of_none q h)]; exact q, ⟨fun z => z.elim id fun e => absurd e (ne_of_none q h), .inl⟩⟩, fun a u q => ⟨u, by rw [upd_ne (ne_of_none q h)]; exact q⟩⟩
theorem own_new {p : Addr} {o : HO} (own : ∀ a, O a → ∃ u, H a = some u ∧ OwH u) (h : H p = none) : ∀ a, O a → ∃ u, (upd H p o) a = some u ∧ OwH u := fun a z => by
  obtain ⟨vs, e, w⟩ := own a z
  exact ⟨vs, by rw [upd_ne (ne_of_none e h)]; exact e, w⟩
theorem own_ownH {p : Addr} {o : HO} (ho : OwH o) (own : ∀ a, O a → ∃ u, H a = some u ∧ OwH u) (h : H p = none) : ∀ a, adO O p a → ∃ u, (upd H p o) a = some u ∧ OwH u := fun a z => by
  by_cases e : a = p
  · subst e; exact ⟨_, upd_same, ho⟩
  · rcases z with z | z
    · obtain ⟨vs, q, w⟩ := own a z
      exact ⟨vs, by rw [upd_ne e]; exact q, w⟩
    · exact absurd z e
theorem own_own {p : Addr} {ws : List V} (own : ∀ a, O a → ∃ u, H a = some u ∧ OwH u) (h : H p = none) : ∀ a, adO O p a → ∃ u, (upd H p (.lst ws)) a = some u ∧ OwH u := own_ownH .lst own h
/-- new objects: the parts stay -/
theorem Reps.fresh {p : Addr} {o : HO} {vs : List V} {ds : List D} (h : H p = none) (r : Reps K H O vs ds) : Reps K (upd H p o) O vs ds := r.ext (ext_new h) fun _ z => z.elim
theorem Reps.fresho {p : Addr} {o : HO} {vs : List V} {ds : List D} (h : H p = none) (r : Reps K H O vs ds) : Reps K (upd H p o) (adO O p) vs ds := r.ext (ext_own h) fun _ z => z.elim
theorem VOk.tup {p : Addr} {vs : List V} {ds : List D} (h : H p = none) (r : Reps K H O vs ds) : VOk K H (upd H p (.tup vs)) O (.ref p) (.tup ds) := .rep (.tup (.of upd_same) (r.fresh h))
theorem VOk.lst {p : Addr} {vs : List V} {ds : List D} (h : H p = none) (r : Reps K H O vs ds) : VOk K H (upd H p (.lst vs)) (adO O p) (.ref p) (.lst true ds) :=
  ⟨.own (.inr rfl) upd_same (.lst (r.fresho h)), fun a _ e => by cases e; exact h⟩
theorem VOk.odc {p : Addr} {kvs : List (Key × V)} {ds : List D} (h : H p = none) (r : Reps K H O (kvs.map (·.2)) ds) : VOk K H (upd H p (.dK kvs)) (adO O p) (.ref p) (.odc (kvs.map (·.1)) ds) :=
  ⟨.own (.inr rfl) upd_same (.dK (r.fresho h)), fun a _ e => by cases e; exact h⟩

/-! ### freezing -/
def rmO (O : Addr → Prop) (p : Addr) : Addr → Prop := fun a => O a ∧ a ≠ p
theorem Sr.less (s : Sr K ρ σ H O) (hO : ∀ a, O' a → O a) (k : ∀ a, Sl ρ σ a → O' a) : Sr K ρ σ H O' := by
  refine ⟨s.len, fun i d h => ?_, s.uniq, fun a z => s.own a (hO a z)⟩
  obtain ⟨v, h1, h2⟩ := s.slot i d h
  refine ⟨v, h1, ?_⟩
  cases h2 with
  | rep r => exact .rep (r.less hO)
  | own o e r => exact .own (k _ ⟨i, _, h, r.o, h1⟩) e (r.less hO)
theorem get_rset {i j : Nat} {d : Option D} {x : Option D} (h : (rset ρ i d)[j]? = some x) : (j = i ∧ x = d ∧ i < ρ.length) ∨ (j ≠ i ∧ ρ[j]? = some x) := by
  rw [rset_set] at h
  by_cases e : j = i
  · subst e
    by_cases l : j < ρ.length
    · rw [List.getElem?_set_self l] at h
      exact .inl ⟨rfl, (Option.some.inj h).symm, l⟩
    · rw [List.getElem?_eq_none (by simpa using l)] at h
      cases h
  · rw [List.getElem?_set_ne (Ne.symm e)] at h
    exact .inr ⟨e, h⟩
theorem rset_len {i : Nat} {d : Option D} : (rset ρ i d).length = ρ.length := by rw [rset_set, List.length_set]
theorem rset_self {i : Nat} {d : D} (h : rget ρ i = some d) : rset ρ i (some d) = ρ := by
  rw [rset_set]
  have q := rget_get h
  obtain ⟨l, e⟩ := List.getElem?_eq_some_iff.mp q
  rw [← e, List.set_getElem_self]
/-- a slot's list is frozen: from the state behind something that began at H -/
theorem freeze_slot {i : Nat} {d : D} (s : Sr K ρ1 σ H O1) (h : rget ρ1 i = some d) :
    ∃ O2, (∀ a, O2 a → O1 a) ∧ (∀ a, O1 a → O2 a ∨ Sl ρ1 σ a) ∧ Sr K (rset ρ1 i (some d.frz)) σ H O2 ∧ (∀ a, Sl (rset ρ1 i (some d.frz)) σ a → Sl ρ1 σ a) ∧ ∃ v, σ[i]? = some (some v) ∧ Rep K H O2 v d.frz := by
  obtain ⟨v, h1, h2⟩ := s.slot i d (rget_get h)
  cases h2 with
  | rep r =>
    have e : d.frz = d := r.frz
    rw [e, rset_self h]
    exact ⟨O1, fun _ z => z, fun _ z => .inl z, s, fun _ z => z, v, h1, r⟩
  | @own a u d o e r =>
    have sub : ∀ b, Sl (rset ρ1 i (some d.frz)) σ b → Sl ρ1 σ b := fun b ⟨j, xs, q1, qo, q2⟩ => by
      rcases get_rset q1 with ⟨_, z, _⟩ | ⟨_, z⟩
      · cases z; rw [D.frz_own] at qo; cases qo
      · exact ⟨j, xs, z, qo, q2⟩
    have hin : Sl ρ1 σ a := ⟨i, d, rget_get h, r.o, h1⟩
    refine ⟨rmO O1 a, fun _ z => z.1, fun b z => ?_, ⟨by rw [rset_len]; exact s.len, fun j d' q => ?_, fun j k xs ys b q1 o1 q2 o2 q3 q4 => ?_, fun b z => s.own b z.1⟩, sub, _, h1, r.frz e (fun z => z.2 rfl) fun _ z => z.1⟩
    · by_cases eb : b = a
      · subst eb; exact .inr hin
      · exact .inl ⟨z, eb⟩
    · rcases get_rset q with ⟨ej, ed, _⟩ | ⟨nj, q⟩
      · subst ej
        cases ed
        exact ⟨_, h1, .rep (r.frz e (fun z => z.2 rfl) fun _ z => z.1)⟩
      · obtain ⟨u, g1, g2⟩ := s.slot j d' q
        refine ⟨u, g1, ?_⟩
        cases g2 with
        | rep r' => exact .rep (r'.less fun _ z => z.1)
        | own o' e' r' => exact .own ⟨o', fun z => nj (s.uniq j i _ _ _ q r'.o (rget_get h) r.o g1 (by rw [z]; exact h1))⟩ e' (r'.less fun _ z => z.1)
    · rcases get_rset q1 with ⟨_, z, _⟩ | ⟨_, q1⟩
      · cases z; rw [D.frz_own] at o1; cases o1
      · rcases get_rset q2 with ⟨_, z, _⟩ | ⟨_, q2⟩
        · cases z; rw [D.frz_own] at o2; cases o2
        · exact s.uniq j k xs ys b q1 o1 q2 o2 q3 q4
theorem After.freeze_slot {i : Nat} {d : D} (s : Sr K ρ σ H O) (a : After K ρ σ H O ρ1 H1 O1) (h : rget ρ1 i = some d) :
    ∃ O2, (∀ a, O2 a → O1 a) ∧ After K ρ σ H O (rset ρ1 i (some d.frz)) H1 O2 ∧ ∃ v, σ[i]? = some (some v) ∧ Rep K H1 O2 v d.frz := by
  obtain ⟨O2, l, m, s2, sub, v, h1, r⟩ := Bx.freeze_slot a.sr h
  refine ⟨O2, l, ⟨s2, ⟨fun b u q n => ?_, a.ext.dom⟩, fun b z => a.sub b (sub b z)⟩, v, h1, r⟩
  obtain ⟨q1, q2⟩ := a.ext.keep b u q n
  refine ⟨q1, ⟨fun z => q2.mp (l b z), fun z => ?_⟩⟩
  rcases m b (q2.mpr z) with y | y
  · exact y
  · exact absurd (a.sub b y) n
/-- a new owned value is frozen -/
theorem After.freeze_val {v : V} {d : D} (s : Sr K ρ σ H O) (a : After K ρ σ H O ρ1 H1 O1) {O2 : Addr → Prop} (q : VOk K H H1 O2 v d) (h2 : ∀ a, O1 a → O2 a) :
    ∃ O3, (∀ a, O3 a → O1 a) ∧ After K ρ σ H O ρ1 H1 O3 ∧ Rep K H1 O3 v d.frz := by
  cases q.val with
  | rep r =>
    have e : d.frz = d := r.frz
    rw [e]
    exact ⟨O1, fun _ z => z, a, r.less h2⟩
  | @own p u d o e r =>
    have hp : H p = none := q.new p r.o rfl
    have ns : ¬ Sl ρ1 σ p := a.nsl s hp
    refine ⟨rmO O1 p, fun _ z => z.1, ⟨a.sr.less (fun _ z => z.1) fun b z => ⟨(a.sr.lsts b z).1, fun eb => ns (eb ▸ z)⟩, ⟨fun b u g n => ?_, a.ext.dom⟩, a.sub⟩, r.frz e (fun z => z.2 rfl) fun b z => h2 b z.1⟩
    obtain ⟨q1, q2⟩ := a.ext.keep b u g n
    exact ⟨q1, ⟨fun z => q2.mp z.1, fun z => ⟨q2.mpr z, ne_of_none g hp⟩⟩⟩
end

/-! ### all operands taken, frozen -/
def kTk (d : D) (k : List D → Rho → Prop) (ds : List D) (ρ : Rho) : Prop := k (d :: ds) ρ
def tkOps : List DOp → (List D → Rho → Prop) → Rho → Prop
  | [], k, ρ => k [] ρ
  | .s i :: r, k, ρ => match rget ρ i with
    | some d => tkOps r (kTk d.frz k) (rset ρ i (some d.frz))
    | none => False
  | .d x :: r, k, ρ => tkOps r (kTk x.frz k) ρ
section
variable {K : PySem.W.Frag} {ρ ρ1 ρ' : Rho} {σ : St} {H H1 H' : Hp} {O O1 O' : Addr → Prop}
theorem take_ok (s : Sr K ρ σ H O) : ∀ {os : List DOp} {vs : List V} {ρ2 : Rho} {O2 : Addr → Prop} {k : List D → Rho → Prop}, OOks K σ H H1 O1 vs os → (∀ a, O2 a → O1 a) → After K ρ σ H O ρ2 H1 O2 → tkOps os k ρ2 →
    ∃ ds ρ3 O3, (∀ a, O3 a → O2 a) ∧ After K ρ σ H O ρ3 H1 O3 ∧ Reps K H1 O3 vs ds ∧ k ds ρ3
  | [], _, ρ2, O2, _, .nil, _, a, h => ⟨[], ρ2, O2, fun _ z => z, a, .nil, h⟩
  | .s i :: r, _, ρ2, O2, k, .cons q t, l, a, h => by
    unfold tkOps at h
    cases e : rget ρ2 i with
    | none => rw [e] at h; exact h.elim
    | some d =>
      rw [e] at h
      obtain ⟨O3, l3, a3, v, h1, rv⟩ := After.freeze_slot s a e
      have q : σ[i]? = some (some _) := q
      rw [q] at h1; cases h1
      obtain ⟨ds, ρ4, O4, l4, a4, r4, h4⟩ := take_ok s t (fun b z => l b (l3 b z)) a3 h
      exact ⟨_, ρ4, O4, fun b z => l3 b (l4 b z), a4, .cons (rv.less l4) r4, h4⟩
  | .d x :: r, _, ρ2, O2, k, .cons q t, l, a, h => by
    unfold tkOps at h
    obtain ⟨O3, l3, a3, rv⟩ := After.freeze_val s a (O2 := O1) q l
    obtain ⟨ds, ρ4, O4, l4, a4, r4, h4⟩ := take_ok s t (fun b z => l b (l3 b z)) a3 h
    exact ⟨_, ρ4, O4, fun b z => l3 b (l4 b z), a4, .cons (rv.less l4) r4, h4⟩
end

/-! ### names and constants -/
section
variable {X : Cx} {pos : Pos}
def oVar (i : Nat) (k : DOp → Rho → Prop) (ρ : Rho) : Prop := match rget ρ i with
  | some _ => k (.s i) ρ
  | none => False
def dVar (i : Nat) (k : D → Rho → Prop) (ρ : Rho) : Prop := match rget ρ i with
  | some d => k d.frz (rset ρ i (some d.frz))
  | none => False
def dC (d : D) (k : D → Rho → Prop) (ρ : Rho) : Prop := k d ρ
def kOp (k : DOp → Rho → Prop) (d : D) (ρ : Rho) : Prop := k (.d d) ρ
def oVal (w : DE) (k : DOp → Rho → Prop) (ρ : Rho) : Prop := w (kOp k) ρ
theorem so_var {i : Nat} {e : Expr} (h : PE X e (tVar i)) : SO X e (oVar i) := by
  refine ⟨_, h, fun σ H ρ O k R s w q => ?_⟩
  unfold oVar at w
  cases e : rget ρ i with
  | none => rw [e] at w; exact w.elim
  | some d =>
    rw [e] at w
    obtain ⟨v, h1, h2⟩ := s.slot i d (rget_get e)
    exact ⟨v, h1, q v H ρ O (.s i) (.refl s) h1 w⟩
theorem se_var {i : Nat} {e : Expr} (h : PE X e (tVar i)) : SE X e (dVar i) := by
  refine ⟨_, h, fun σ H ρ O k R s w q => ?_⟩
  unfold dVar at w
  cases e : rget ρ i with
  | none => rw [e] at w; exact w.elim
  | some d =>
    rw [e] at w
    obtain ⟨O2, _, a, v, h1, r⟩ := After.freeze_slot s (.refl s) e
    exact ⟨v, h1, q v H _ O2 _ a (.rep r) w⟩
theorem so_val {e : Expr} {w : DE} (h : SE X e w) : SO X e (oVal w) := by
  obtain ⟨t, p, f⟩ := h
  refine ⟨t, p, fun σ H ρ O k R s hw q => ?_⟩
  exact f σ H ρ O _ R s hw fun v H' ρ' O' d a c hk => q v H' ρ' O' (.d d) a c hk
theorem se_C {e : Expr} {v : V} {d : D} (h : PE X e (tC v)) (hd : ∀ K H O, Rep K H O v d) : SE X e (dC d) :=
  ⟨_, h, fun σ H ρ O k R s w q => q v H ρ O d (.refl s) (.rep (hd _ _ _)) w⟩
theorem se_int {i : Int} {j : Nat} : SE X (.Constant (.int i) j pos) (dC (.int i)) := se_C pe_int fun _ _ _ => .int i
theorem se_bl {b : Bool} {j : Nat} : SE X (.Constant (.bool b) j pos) (dC (.bl b)) := se_C pe_bl fun _ _ _ => .bl b
theorem se_non {j : Nat} : SE X (.Constant .none j pos) (dC .non) := se_C pe_non fun _ _ _ => .non
theorem se_str {x : Str} {j : Nat} : SE X (.Constant (.str x) j pos) (dC (.str x)) := se_C pe_str fun _ _ _ => .str x
end

/-! ### argument lists, displays -/
section
variable {X : Cx} {pos : Pos} {e : Expr} {es : List Expr}
def aNil (k : List DOp → Rho → Prop) (ρ : Rho) : Prop := k [] ρ
def kA2 (x : DOp) (k : List DOp → Rho → Prop) (xs : List DOp) (ρ : Rho) : Prop := k (x :: xs) ρ
def kA1 (w : DA) (k : List DOp → Rho → Prop) (x : DOp) (ρ : Rho) : Prop := w (kA2 x k) ρ
def aCons (o : DO) (w : DA) (k : List DOp → Rho → Prop) (ρ : Rho) : Prop := o (kA1 w k) ρ
theorem sa_nil : SA X [] aNil := ⟨_, pa_nil, fun σ H ρ O k R s w q => q [] H ρ O [] (.refl s) .nil rfl w⟩
theorem sa_cons {o : DO} {w : DA} (h : SO X e o) (r : SA X es w) (hs : starEach (e :: es) X.env = (false, eval e X.env) :: starEach es X.env := by rfl) : SA X (e :: es) (aCons o w) := by
  obtain ⟨t, p, f⟩ := h
  obtain ⟨u, p2, g⟩ := r
  refine ⟨_, pa_cons p p2 hs, fun σ H ρ O k R s hw q => ?_⟩
  refine f σ H ρ O _ _ s hw fun v H1 ρ1 O1 d a c hk => ?_
  refine g σ H1 ρ1 O1 _ _ a.sr hk fun vs H2 ρ2 O2 ds a2 c2 hl hk2 => ?_
  exact q (v :: vs) H2 ρ2 O2 (d :: ds) (a.trans a2) (.cons (c.then s a a2) (c2.back a)) (by rw [List.length_cons, List.length_cons, hl]) hk2
def kTake (k : List D → Rho → Prop) (os : List DOp) (ρ : Rho) : Prop := tkOps os k ρ
def kTup (k : D → Rho → Prop) (ds : List D) (ρ : Rho) : Prop := k (.tup ds) ρ
def kLst (k : D → Rho → Prop) (ds : List D) (ρ : Rho) : Prop := k (.lst true ds) ρ
def dTup (w : DA) (k : D → Rho → Prop) (ρ : Rho) : Prop := w (kTake (kTup k)) ρ
def dLst (w : DA) (k : D → Rho → Prop) (ρ : Rho) : Prop := w (kTake (kLst k)) ρ
theorem OOks.len {K : PySem.W.Frag} {σ : St} {H H' : Hp} {O' : Addr → Prop} : ∀ {vs : List V} {os : List DOp}, OOks K σ H H' O' vs os → vs.length = os.length
  | _, _, .nil => rfl
  | _, _, .cons _ t => by rw [List.length_cons, List.length_cons, OOks.len t]
theorem le_line {n : Nat} (h : n ≤ 1000) : n ≤ sizeLine := Nat.le_of_lt (small1000 h)
theorem se_tup {w : DA} {x1 : Nat} (h : SA X es w) (hl : es.length ≤ 1000 := by decide) : SE X (.Tuple es x1 pos) (dTup w) := by
  obtain ⟨t, p, f⟩ := h
  refine ⟨_, pe_tup p, fun σ H ρ O k R s hw q => ?_⟩
  refine f σ H ρ O _ _ s hw fun vs H1 ρ1 O1 os a c el hk => ?_
  obtain ⟨ds, ρ2, O2, l, a2, r, hk2⟩ := take_ok s c (fun _ z => z) a hk
  refine ⟨le_line (by omega), fun n hn => ?_⟩
  have a3 := a2.sr.ext0 (ext_new (o := .tup vs) hn) (own_new a2.sr.own hn)
  exact q _ _ _ _ _ (a2.trans a3) ((VOk.tup hn r).back a2.back) hk2
theorem se_lst {w : DA} (h : SA X es w) (hl : es.length ≤ 1000 := by decide) : SE X (.List es pos) (dLst w) := by
  obtain ⟨t, p, f⟩ := h
  refine ⟨_, pe_lst p, fun σ H ρ O k R s hw q => ?_⟩
  refine f σ H ρ O _ _ s hw fun vs H1 ρ1 O1 os a c el hk => ?_
  obtain ⟨ds, ρ2, O2, l, a2, r, hk2⟩ := take_ok s c (fun _ z => z) a hk
  refine ⟨le_line (by omega), fun n hn => ?_⟩
  have a3 := a2.sr.ext0 (ext_own (o := .lst vs) hn) (own_own a2.sr.own hn)
  exact q _ _ _ _ _ (a2.trans a3) ((VOk.lst hn r).back a2.back) hk2
end
end Bx
namespace Bx
open PySem L2

def onSome {α : Type} (o : Option α) (k : α → Prop) : Prop := match o with
  | some a => k a
  | none => False
theorem onSome.ex {α : Type} {o : Option α} {k : α → Prop} (h : onSome o k) : ∃ a, o = some a ∧ k a := by
  cases o with
  | none => exact h.elim
  | some a => exact ⟨a, rfl, h⟩
abbrev Own (H : Hp) (O : Addr → Prop) : Prop := ∀ a, O a → ∃ u, H a = some u ∧ OwH u
abbrev no : Addr → Prop := fun _ => False
/-- what an operation by values may do: it lays new objects -/
abbrev Fin0 (X : Cx) (H : Hp) (O : Addr → Prop) (k : D → Prop) (R : VK) : Prop :=
  ∀ v H' O' d, Ext no H O H' O' → Own H' O' → VOk X.K H H' O' v d → k d → R v H'
abbrev G1 := D → (D → Prop) → Prop
abbrev G2 := D → D → (D → Prop) → Prop
abbrev GL := List D → (D → Prop) → Prop
def OpD (X : Cx) (f : Value → Value → Sem Value) (g : G2) : Prop :=
  ∃ r, OpR X f r ∧ ∀ (H : Hp) (O : Addr → Prop) (x y : V) (dx dy : D) (k : D → Prop) (R : VK), Own H O → Val X.K H O x dx → Val X.K H O y dy → g dx dy k → Fin0 X H O k R → r x y H R
def IxD (X : Cx) (g : G2) : Prop :=
  ∃ r, IxR X r ∧ ∀ (H : Hp) (O : Addr → Prop) (x y : V) (dx dy : D) (k : D → Prop) (R : VK), Own H O → Val X.K H O x dx → Val X.K H O y dy → g dx dy k → Fin0 X H O k R → r x y H R
def UnD (X : Cx) (f : Value → Sem Value) (g : G1) : Prop :=
  ∃ r, UnR X f r ∧ ∀ (H : Hp) (O : Addr → Prop) (x : V) (dx : D) (k : D → Prop) (R : VK), Own H O → Val X.K H O x dx → g dx k → Fin0 X H O k R → r x H R
inductive ValL (K : PySem.W.Frag) (H : Hp) (O : Addr → Prop) : List V → List D → Prop
  | nil : ValL K H O [] []
  | cons {v : V} {vs : List V} {d : D} {ds : List D} : Val K H O v d → ValL K H O vs ds → ValL K H O (v :: vs) (d :: ds)
def CallD (X : Cx) (f : Value) (g : GL) : Prop :=
  ∃ r, CallR X f r ∧ ∀ (H : Hp) (O : Addr → Prop) (xs : List V) (ds : List D) (k : D → Prop) (R : VK), Own H O → ValL X.K H O xs ds → g ds k → Fin0 X H O k R → r xs H R

section
variable {K : PySem.W.Frag} {H : Hp} {O : Addr → Prop}
theorem Val.non {v : V} (h : Val K H O v .non) : v = .non := by cases h with | rep r => cases r; rfl | own _ _ r => cases r
theorem Val.int {v : V} {i : Int} (h : Val K H O v (.int i)) : v = .int i := by cases h with | rep r => cases r; rfl | own _ _ r => cases r
theorem Val.bl {v : V} {i : Bool} (h : Val K H O v (.bl i)) : v = .bl i := by cases h with | rep r => cases r; rfl | own _ _ r => cases r
theorem Val.str {v : V} {i : Str} (h : Val K H O v (.str i)) : v = .str i := by cases h with | rep r => cases r; rfl | own _ _ r => cases r
theorem Val.tup {v : V} {ds : List D} (h : Val K H O v (.tup ds)) : ∃ a vs, v = .ref a ∧ SqT K H a vs ∧ Reps K H O vs ds := by
  cases h with
  | rep r => cases r with | tup h r => exact ⟨_, _, rfl, h, r⟩
  | own _ _ r => cases r
theorem _root_.Bx.OwR.lst_of' {u : HO} {o : Bool} {xs : List D} (r : OwR K H O u (.lst o xs)) : ∃ vs, u = .lst vs ∧ Reps K H O vs xs := by
  cases r with
  | lst r => exact ⟨_, rfl, r⟩
theorem Val.lst {v : V} {o : Bool} {ds : List D} (h : Val K H O v (.lst o ds)) : ∃ a vs, v = .ref a ∧ H a = some (.lst vs) ∧ Reps K H O vs ds := by
  cases h with
  | rep r => cases r with | lst h _ r => exact ⟨_, _, rfl, h, r⟩
  | own _ h r => obtain ⟨vs, rfl, q⟩ := r.lst_of'; exact ⟨_, _, rfl, h, q⟩
theorem Val.scr {v : V} {ds : List D} (h : Val K H O v (.scr ds)) : ∃ a vs, v = .ref a ∧ SqL K H a vs ∧ Reps K H O vs ds := by
  cases h with
  | rep r => cases r with | scr h r => exact ⟨_, _, rfl, h.sqL, r⟩
  | own _ _ r => cases r
/-- any sequence -/
def D.seq : D → Option (List D)
  | .tup xs => some xs
  | .lst _ xs => some xs
  | .scr xs => some xs
  | _ => none
theorem Val.seq {v : V} {d : D} {ds : List D} (h : Val K H O v d) (e : d.seq = some ds) : ∃ a vs, v = .ref a ∧ (SqL K H a vs ∨ SqT K H a vs) ∧ Reps K H O vs ds := by
  cases d with
  | tup xs => cases e; obtain ⟨a, vs, e, h, r⟩ := h.tup; exact ⟨a, vs, e, .inr h, r⟩
  | lst o xs => cases e; obtain ⟨a, vs, e, h, r⟩ := h.lst; exact ⟨a, vs, e, .inl (.of h), r⟩
  | scr xs => cases e; obtain ⟨a, vs, e, h, r⟩ := h.scr; exact ⟨a, vs, e, .inl h, r⟩
  | _ => cases e
/-- any list -/
def D.sql : D → Option (List D)
  | .lst _ xs => some xs
  | .scr xs => some xs
  | _ => none
theorem Val.sql {v : V} {d : D} {ds : List D} (h : Val K H O v d) (e : d.sql = some ds) : ∃ a vs, v = .ref a ∧ SqL K H a vs ∧ Reps K H O vs ds := by
  cases d with
  | lst o xs => cases e; obtain ⟨a, vs, e, h, r⟩ := h.lst; exact ⟨a, vs, e, .of h, r⟩
  | scr xs => cases e; exact h.scr
  | _ => cases e

/-! ### rows of ints, of truths -/
def asInts : List D → Option (List Int)
  | [] => some []
  | .int i :: r => (asInts r).map (i :: ·)
  | _ :: _ => none
theorem asInts_map : ∀ ns : List Int, asInts (ns.map D.int) = some ns
  | [] => rfl
  | n :: r => by
    show (asInts (r.map D.int)).map (n :: ·) = _
    rw [asInts_map r]; rfl
theorem asInts_eq : ∀ {ds : List D} {ns : List Int}, asInts ds = some ns → ds = ns.map D.int
  | [], _, h => by cases h; rfl
  | .int i :: r, ns, h => by
    cases e : asInts r with
    | none => simp [asInts, e] at h
    | some l =>
      have h : (asInts r).map (i :: ·) = some ns := h
      rw [e] at h
      cases h
      rw [asInts_eq e]; rfl
  | .non :: _, _, h | .bl _ :: _, _, h | .str _ :: _, _, h | .tup _ :: _, _, h | .lst _ _ :: _, _, h | .scr _ :: _, _, h | .dic _ _ :: _, _, h | .odc _ _ :: _, _, h => by cases h
def asBls : List D → Option (List Bool)
  | [] => some []
  | .bl i :: r => (asBls r).map (i :: ·)
  | _ :: _ => none
theorem asBls_map : ∀ ns : List Bool, asBls (ns.map D.bl) = some ns
  | [] => rfl
  | n :: r => by
    show (asBls (r.map D.bl)).map (n :: ·) = _
    rw [asBls_map r]; rfl
theorem asBls_eq : ∀ {ds : List D} {ns : List Bool}, asBls ds = some ns → ds = ns.map D.bl
  | [], _, h => by cases h; rfl
  | .bl i :: r, ns, h => by
    cases e : asBls r with
    | none => simp [asBls, e] at h
    | some l =>
      have h : (asBls r).map (i :: ·) = some ns := h
      rw [e] at h
      cases h
      rw [asBls_eq e]; rfl
  | .non :: _, _, h | .int _ :: _, _, h | .str _ :: _, _, h | .tup _ :: _, _, h | .lst _ _ :: _, _, h | .scr _ :: _, _, h | .dic _ _ :: _, _, h | .odc _ _ :: _, _, h => by cases h
theorem Reps.ints : ∀ {vs : List V} {ns : List Int}, Reps K H O vs (ns.map D.int) → vs = ns.map V.int
  | _, [], .nil => rfl
  | _, _ :: _, .cons r t => by cases r; rw [Reps.ints t]; rfl
theorem Reps.bls : ∀ {vs : List V} {ns : List Bool}, Reps K H O vs (ns.map D.bl) → vs = ns.map V.bl
  | _, [], .nil => rfl
  | _, _ :: _, .cons r t => by cases r; rw [Reps.bls t]; rfl
theorem Reps.of_ints : ∀ ns : List Int, Reps K H O (ns.map V.int) (ns.map D.int)
  | [] => .nil
  | n :: r => .cons (.int n) (Reps.of_ints r)
end

theorem fin_id {X : Cx} {H : Hp} {O : Addr → Prop} {k : D → Prop} {R : VK} (own : Own H O) (f : Fin0 X H O k R) {v : V} {d : D} (r : Rep X.K H O v d) (h : k d) : R v H := f v H O d .refl own (.rep r) h
theorem fin_tup {X : Cx} {H : Hp} {O : Addr → Prop} {k : D → Prop} {R : VK} (own : Own H O) (f : Fin0 X H O k R) {vs : List V} {ds : List D} {p : Addr} (hp : H p = none) (r : Reps X.K H O vs ds) (h : k (.tup ds)) : R (.ref p) (upd H p (.tup vs)) :=
  f _ _ O _ (ext_new hp) (own_new own hp) (.tup hp r) h
theorem fin_lst {X : Cx} {H : Hp} {O : Addr → Prop} {k : D → Prop} {R : VK} (own : Own H O) (f : Fin0 X H O k R) {vs : List V} {ds : List D} {p : Addr} (hp : H p = none) (r : Reps X.K H O vs ds) (h : k (.lst true ds)) : R (.ref p) (upd H p (.lst vs)) :=
  f _ _ (adO O p) _ (ext_own hp) (own_own own hp) (VOk.lst hp r) h

/-! ### the operators -/
section
variable {X : Cx}
def gAdd : G2
  | .int i, .int j, k => k (.int (i + j))
  | .str a, .str b, k => a.length + b.length ≤ sizeLine ∧ k (.str (a ++ b))
  | .tup a, .tup b, k => a.length + b.length ≤ sizeLine ∧ k (.tup (a ++ b))
  | .lst _ a, .lst _ b, k => a.length + b.length ≤ sizeLine ∧ k (.lst true (a ++ b))
  | _, _, _ => False
theorem opd_add : OpD X (binaryOp .Add) gAdd := by
  refine ⟨_, op_add.or (op_add_str.or (op_catA.or op_cat)), fun H O x y dx dy k R own vx vy g f => ?_⟩
  cases dx <;> cases dy <;> try exact False.elim g
  · exact .inl ⟨_, _, vx.int, vy.int, fin_id own f (.int _) g⟩
  · exact .inr (.inl ⟨_, _, vx.str, vy.str, g.1, fin_id own f (.str _) g.2⟩)
  · obtain ⟨a, vs, rfl, h1, r1⟩ := vx.tup
    obtain ⟨b, ws, rfl, h2, r2⟩ := vy.tup
    refine .inr (.inr (.inl ⟨a, b, vs, ws, rfl, rfl, h1, h2, by rw [r1.length, r2.length]; exact g.1, fun e => ?_, fun _ e => ?_, fun _ _ p hp => fin_tup own f hp (r1.append r2) g.2⟩))
    · subst e; cases r1
      exact fin_id own f (.tup h2 r2) g.2
    · subst e; cases r2
      exact fin_id own f (.tup h1 r1) (by have q := g.2; rw [List.append_nil] at q; exact q)
  · obtain ⟨a, vs, rfl, h1, r1⟩ := vx.lst
    obtain ⟨b, ws, rfl, h2, r2⟩ := vy.lst
    exact .inr (.inr (.inr ⟨a, b, vs, ws, rfl, rfl, h1, h2, by rw [r1.length, r2.length]; exact g.1, fun p hp => fin_lst own f hp (r1.append r2) g.2⟩))
def gII (C : Int → Int → Prop) (h : Int → Int → D) : G2
  | .int i, .int j, k => C i j ∧ k (h i j)
  | _, _, _ => False
theorem opd_ii {f : Value → Value → Sem Value} {C : Int → Int → Prop} {g : Int → Int → V} {h : Int → Int → D} (o : OpR X f (rI C g)) (e : ∀ i j K H O, Rep K H O (g i j) (h i j)) : OpD X f (gII C h) := by
  refine ⟨_, o, fun H O x y dx dy k R own vx vy q fin => ?_⟩
  cases dx <;> cases dy <;> try exact False.elim q
  exact ⟨_, _, vx.int, vy.int, q.1, fin_id own fin (e ..) q.2⟩
def gII0 (h : Int → Int → D) : G2
  | .int i, .int j, k => k (h i j)
  | _, _, _ => False
theorem opd_ii0 {f : Value → Value → Sem Value} {g : Int → Int → V} {h : Int → Int → D} (o : OpR X f (rI0 g)) (e : ∀ i j K H O, Rep K H O (g i j) (h i j)) : OpD X f (gII0 h) := by
  refine ⟨_, o, fun H O x y dx dy k R own vx vy q fin => ?_⟩
  cases dx <;> cases dy <;> try exact False.elim q
  exact ⟨_, _, vx.int, vy.int, fin_id own fin (e ..) q⟩
def gSub : G2 := gII0 fun i j => .int (i - j)
theorem opd_sub : OpD X (binaryOp .Sub) gSub := opd_ii0 op_sub fun _ _ _ _ _ => .int _
/-- * : one factor small, or both of together less than a million bits -/
def CMulX (i j : Int) : Prop := (-(2 ^ 64) < i ∧ i < 2 ^ 64) ∨ (-(2 ^ 64) < j ∧ j < 2 ^ 64) ∨ CMulW i j
def gMul : G2
  | .int i, .int j, k => CMulX i j ∧ k (.int (i * j))
  | .lst _ a, .int j, k => (-(2 ^ 63) ≤ j ∧ j < 2 ^ 63 ∧ a.length * j.toNat ≤ sizeLine) ∧ k (.lst true (List.replicate j.toNat a).flatten)
  | _, _, _ => False
theorem Reps.rep {K : PySem.W.Frag} {H : Hp} {O : Addr → Prop} {vs : List V} {ds : List D} (h : Reps K H O vs ds) : ∀ k : Nat, Reps K H O (List.replicate k vs).flatten (List.replicate k ds).flatten
  | 0 => .nil
  | k + 1 => by
    rw [List.replicate_succ, List.flatten_cons, List.replicate_succ, List.flatten_cons]
    exact h.append (Reps.rep h k)
theorem opd_mul : OpD X (binaryOp .Mult) gMul := by
  refine ⟨_, (op_mul.or op_mulW).or op_rep, fun H O x y dx dy k R own vx vy g f => ?_⟩
  cases dx <;> cases dy <;> try exact False.elim g
  · rcases g.1 with h | h | h
    · exact .inl (.inl ⟨_, _, vx.int, vy.int, .inl h, fin_id own f (.int _) g.2⟩)
    · exact .inl (.inl ⟨_, _, vx.int, vy.int, .inr h, fin_id own f (.int _) g.2⟩)
    · exact .inl (.inr ⟨_, _, vx.int, vy.int, h, fin_id own f (.int _) g.2⟩)
  · obtain ⟨a, vs, rfl, h1, r1⟩ := vx.lst
    exact .inr ⟨a, _, vs, rfl, vy.int, h1, g.1.1, g.1.2.1, by rw [r1.length]; exact g.1.2.2, fun p hp => fin_lst own f hp (r1.rep _) g.2⟩
def gDiv : G2 := gII CDiv fun i j => .int (i / j)
theorem opd_div : OpD X (binaryOp .FloorDiv) gDiv := opd_ii op_fdiv fun _ _ _ _ _ => .int _
def gMod : G2 := gII (fun _ j => 0 < j) fun i j => .int (i % j)
theorem opd_mod : OpD X (binaryOp .Mod) gMod := opd_ii op_mod fun _ _ _ _ _ => .int _
def gPow : G2 := gII CPow fun i j => .int (i ^ j.toNat)
theorem opd_pow : OpD X (binaryOp .Pow) gPow := opd_ii op_pow fun _ _ _ _ _ => .int _
def gShl : G2 := gII CPow fun i j => .int (i * 2 ^ j.toNat)
theorem opd_shl : OpD X (binaryOp .LShift) gShl := opd_ii op_shl fun _ _ _ _ _ => .int _
def gShr : G2 := gII (fun _ j => 0 ≤ j) fun i j => .int (i / 2 ^ j.toNat)
theorem opd_shr : OpD X (binaryOp .RShift) gShr := opd_ii op_shr fun _ _ _ _ _ => .int _
def gAnd : G2 := gII0 fun i j => .int (Builtin.bitAnd i j)
theorem opd_and : OpD X (binaryOp .BitAnd) gAnd := opd_ii0 op_and fun _ _ _ _ _ => .int _
def gNeg : G1
  | .int i, k => k (.int (-i))
  | _, _ => False
theorem und_neg : UnD X (unaryOp .USub) gNeg := by
  refine ⟨_, un_neg, fun H O x dx k R own vx g f => ?_⟩
  cases dx <;> try exact False.elim g
  exact ⟨_, vx.int, fin_id own f (.int _) g⟩

/-! ### comparisons -/
def gLt : G2 := gII0 fun i j => .bl (decide (i < j))
def gLe : G2 := gII0 fun i j => .bl (decide (i ≤ j))
def gGt : G2 := gII0 fun i j => .bl (decide (j < i))
def gGe : G2 := gII0 fun i j => .bl (decide (j ≤ i))
theorem opd_lt : OpD X (compareOp .Lt) gLt := opd_ii0 op_lt fun _ _ _ _ _ => .bl _
theorem opd_le : OpD X (compareOp .LtE) gLe := opd_ii0 op_le fun _ _ _ _ _ => .bl _
theorem opd_gt : OpD X (compareOp .Gt) gGt := opd_ii0 op_gt fun _ _ _ _ _ => .bl _
theorem opd_ge : OpD X (compareOp .GtE) gGe := opd_ii0 op_ge fun _ _ _ _ _ => .bl _
def D.isNon : D → Bool
  | .non => true
  | _ => false
def gIsN : G2
  | d, .non, k => k (.bl d.isNon)
  | _, _, _ => False
def gNotN : G2
  | d, .non, k => k (.bl (!d.isNon))
  | _, _, _ => False
theorem Val.isNon {K : PySem.W.Frag} {H : Hp} {O : Addr → Prop} {v : V} {d : D} (h : Val K H O v d) : decide (v = .non) = d.isNon := by
  cases h with
  | rep r => cases r <;> rfl
  | own _ _ r => cases r <;> rfl
theorem opd_isN : OpD X (compareOp .Is) gIsN := by
  refine ⟨_, op_isN, fun H O x y dx dy k R own vx vy g f => ?_⟩
  cases dy <;> try exact False.elim g
  refine ⟨vy.non, ?_⟩
  rw [vx.isNon]
  exact fin_id own f (.bl _) g
theorem opd_notN : OpD X (compareOp .IsNot) gNotN := by
  refine ⟨_, op_notN, fun H O x y dx dy k R own vx vy g f => ?_⟩
  cases dy <;> try exact False.elim g
  refine ⟨vy.non, ?_⟩
  rw [vx.isNon]
  exact fin_id own f (.bl _) g
mutual
def D.pd : D → PyData
  | .non => .none
  | .bl b => .bool b
  | .int i => .int i
  | .str x => .str x
  | .tup xs => .tuple (D.pds xs)
  | .lst _ xs => .list (D.pds xs)
  | .scr xs => .list (D.pds xs)
  | .dic _ _ => .dict []
  | .odc _ _ => .dict []
def D.pds : List D → List PyData
  | [] => []
  | x :: r => x.pd :: D.pds r
end
mutual
/-- no dict within -/
def D.ndc : D → Bool
  | .tup xs => D.ndcs xs
  | .lst _ xs => D.ndcs xs
  | .scr xs => D.ndcs xs
  | .dic _ _ => false
  | .odc _ _ => false
  | _ => true
def D.ndcs : List D → Bool
  | [] => true
  | x :: r => x.ndc && D.ndcs r
end
mutual
theorem ndc_lay : ∀ {d : D}, d.pd.canLay0 = true → d.ndc = true
  | .non, _ | .bl _, _ | .int _, _ | .str _, _ => by simp [D.ndc]
  | .tup xs, h => by
    simp only [D.pd, PyData.canLay0] at h
    simp only [D.ndc]
    exact ndcs_lay h
  | .lst _ xs, h => by
    simp only [D.pd, PyData.canLay0] at h
    simp only [D.ndc]
    exact ndcs_lay h
  | .scr xs, h => by
    simp only [D.pd, PyData.canLay0] at h
    simp only [D.ndc]
    exact ndcs_lay h
  | .dic _ _, h => by simp [D.pd, PyData.canLay0] at h
  | .odc _ _, h => by simp [D.pd, PyData.canLay0] at h
theorem ndcs_lay : ∀ {ds : List D}, PyData.canLayAll0 (D.pds ds) = true → D.ndcs ds = true
  | [], _ => by simp [D.ndcs]
  | x :: r, h => by
    simp only [D.pds, PyData.canLayAll0, Bool.and_eq_true] at h
    simp only [D.ndcs, Bool.and_eq_true]
    exact ⟨ndc_lay h.1, ndcs_lay h.2⟩
end
mutual
theorem Rep.dp {K : PySem.W.Frag} {H : Hp} {O : Addr → Prop} : ∀ {v : V} {d : D}, Rep K H O v d → d.ndc = true → Dp K H v d.pd
  | _, _, .non, _ => by unfold D.pd; exact .non
  | _, _, .bl b, _ => by unfold D.pd; exact .bl b
  | _, _, .int i, _ => by unfold D.pd; exact .int i
  | _, _, .str x, _ => by unfold D.pd; exact .str x
  | _, _, .tup h r, n => by unfold D.pd; exact .tup h (Reps.dp r (by simpa only [D.ndc] using n))
  | _, _, .lst h _ r, n => by unfold D.pd; exact .lst (.of h) (Reps.dp r (by simpa only [D.ndc] using n))
  | _, _, .scr h r, n => by unfold D.pd; exact .lst h.sqL (Reps.dp r (by simpa only [D.ndc] using n))
  | _, _, .dic _ _ _, n => by simp [D.ndc] at n
theorem Reps.dp {K : PySem.W.Frag} {H : Hp} {O : Addr → Prop} : ∀ {vs : List V} {ds : List D}, Reps K H O vs ds → D.ndcs ds = true → DpAll K H vs (D.pds ds)
  | _, _, .nil, _ => by unfold D.pds; exact .nil
  | _, _, .cons r t, n => by
    simp only [D.ndcs, Bool.and_eq_true] at n
    unfold D.pds; exact .cons (Rep.dp r n.1) (Reps.dp t n.2)
end
theorem Val.dp {K : PySem.W.Frag} {H : Hp} {O : Addr → Prop} {v : V} {d : D} (h : Val K H O v d) (n : d.ndc = true) : Dp K H v d.pd := by
  cases h with
  | rep r => exact r.dp n
  | own _ h r =>
    cases r with
    | lst r => unfold D.pd; exact .lst (.of h) (r.dp (by simpa only [D.ndc] using n))
    | dK r => simp [D.ndc] at n
/-- == and what it asks: texts of some length, no deeper than 64 (the shallower one) -/
def D.eqv (x y : D) : Bool := PyData.eqv x.pd y.pd
def D.eqOk (x y : D) : Prop := PyData.canLay0 x.pd = true ∧ PyData.canLay0 y.pd = true ∧ min x.pd.depth y.pd.depth ≤ 64
def gEq (x y : D) (k : D → Prop) : Prop := D.eqOk x y ∧ k (.bl (D.eqv x y))
def gNe (x y : D) (k : D → Prop) : Prop := D.eqOk x y ∧ k (.bl (!D.eqv x y))
def rEqA (K : PySem.W.Frag) : R2 := fun x y H Q => ∃ d e, Dp K H x d ∧ Dp K H y e ∧ d.canLay0 = true ∧ e.canLay0 = true ∧ min d.depth e.depth ≤ 64 ∧ Q (.bl (PyData.eqv d e)) H
def rNeA (K : PySem.W.Frag) : R2 := fun x y H Q => ∃ d e, Dp K H x d ∧ Dp K H y e ∧ d.canLay0 = true ∧ e.canLay0 = true ∧ min d.depth e.depth ≤ 64 ∧ Q (.bl (!PyData.eqv d e)) H
theorem op_eqA (hu : X.A.units + 64 < cLine) : OpR X (compareOp .Eq) (rEqA X.K) := by
  intro pins s σ H x y v u Q I rx ry h
  obtain ⟨d, e, hd, he, sd, se, hm, q⟩ := h
  obtain ⟨as, r1⟩ := Dp.reads I d x v hd rx
  obtain ⟨bs, r2⟩ := Dp.reads I e y u he ry
  exact SeqAt.compareEq_reads r1 r2 sd se (by omega) ⟨.bl _, H, I, rfl, q⟩
theorem op_neA (hu : X.A.units + 64 < cLine) : OpR X (compareOp .NotEq) (rNeA X.K) := by
  intro pins s σ H x y v u Q I rx ry h
  obtain ⟨d, e, hd, he, sd, se, hm, q⟩ := h
  obtain ⟨as, r1⟩ := Dp.reads I d x v hd rx
  obtain ⟨bs, r2⟩ := Dp.reads I e y u he ry
  exact SeqAt.compareNe_reads r1 r2 sd se (by omega) ⟨.bl _, H, I, rfl, q⟩
theorem opd_eq (hu : X.A.units + 64 < cLine) : OpD X (compareOp .Eq) gEq := by
  refine ⟨_, op_eqA hu, fun H O x y dx dy k R own vx vy g f => ?_⟩
  exact ⟨_, _, vx.dp (ndc_lay g.1.1), vy.dp (ndc_lay g.1.2.1), g.1.1, g.1.2.1, g.1.2.2, fin_id own f (.bl _) g.2⟩
theorem opd_ne (hu : X.A.units + 64 < cLine) : OpD X (compareOp .NotEq) gNe := by
  refine ⟨_, op_neA hu, fun H O x y dx dy k R own vx vy g f => ?_⟩
  exact ⟨_, _, vx.dp (ndc_lay g.1.1), vy.dp (ndc_lay g.1.2.1), g.1.1, g.1.2.1, g.1.2.2, fin_id own f (.bl _) g.2⟩

/-! ### items -/
theorem atI_reps {K : PySem.W.Frag} {H : Hp} {O : Addr → Prop} {vs : List V} {ds : List D} {i : Int} {d : D} (r : Reps K H O vs ds) (h : atI ds i = some d) : ∃ v, atI vs i = some v ∧ Rep K H O v d := by
  unfold atI at h ⊢
  rw [r.length]
  cases e : ixN ds.length i with
  | none => rw [e] at h; cases h
  | some j =>
    rw [e] at h
    exact r.get h
/-- what stands at a key -/
def dget : List Key → List D → Key → Option D
  | k :: ks, v :: vs, q => if k = q then some v else dget ks vs q
  | _, _, _ => none
theorem dget_reps {K : PySem.W.Frag} {H : Hp} {O : Addr → Prop} : ∀ {kvs : List (Key × V)} {ds : List D} {k : Key} {d : D}, Reps K H O (kvs.map (·.2)) ds → dget (kvs.map (·.1)) ds k = some d → ∃ v, valV kvs k = some v ∧ Rep K H O v d
  | [], _, _, _, _, h => by cases h
  | p :: kvs, _, k, d, .cons r t, h => by
    simp only [List.map_cons, dget] at h
    by_cases e : p.1 = k
    · rw [if_pos e] at h
      cases h
      exact ⟨_, valV_pos e, r⟩
    · rw [if_neg e] at h
      obtain ⟨v, e1, e2⟩ := dget_reps t h
      exact ⟨v, by rw [valV_neg e]; exact e1, e2⟩
theorem Val.dic {K : PySem.W.Frag} {H : Hp} {O : Addr → Prop} {v : V} {ks : List Key} {ds : List D} (h : Val K H O v (.dic ks ds)) : ∃ a kvs, v = .ref a ∧ H a = some (.dK kvs) ∧ ks = kvs.map (·.1) ∧ Reps K H O (kvs.map (·.2)) ds := by
  cases h with
  | rep r => cases r with | dic h _ r => exact ⟨_, _, rfl, h, rfl, r⟩
  | own _ h r => cases r
theorem Val.odc {K : PySem.W.Frag} {H : Hp} {O : Addr → Prop} {v : V} {ks : List Key} {ds : List D} (h : Val K H O v (.odc ks ds)) : ∃ a kvs, v = .ref a ∧ H a = some (.dK kvs) ∧ ks = kvs.map (·.1) ∧ Reps K H O (kvs.map (·.2)) ds := by
  cases h with
  | rep r => cases r
  | own _ h r => cases r with | dK r => exact ⟨_, _, rfl, h, rfl, r⟩
def rIxDK : R2 := fun x y H Q => ∃ (a : Addr) (kvs : List (Key × V)) (k : Key) (v : V), x = .ref a ∧ y = kV k ∧ H a = some (.dK kvs) ∧ valV kvs k = some v ∧ Q v H
theorem ix_dk : IxR X rIxDK := by
  intro value slice pins s σ H x y v u Q I rx ry h hs
  obtain ⟨a, kvs, k, r, rfl, rfl, e, l, q⟩ := h
  obtain rfl : v = Value.ref a := rx
  obtain ⟨z, hd, vs, rel, dd⟩ := dk_rd I.hok (.inl e)
  obtain ⟨w', hw, rw'⟩ := RelO.some_of (v := r) (o := valueAt vs k) (by rw [← l]; exact rel.val k)
  exact PyProof.Rows.tail_any (dd.mapOf).typeIs PySem.F.slot_dict_getitem.lookup (PySem.wpAny_getItem_of (kV_is ry) dd.mapOf hw ⟨r, H, I.tok _, rw', q⟩) hs
def gIx : G2
  | .tup xs, .int i, k => onSome (atI xs i) k
  | .lst _ xs, .int i, k => onSome (atI xs i) k
  | .scr xs, .int i, k => onSome (atI xs i) k
  | .str z, .int i, k => z.length ≤ sizeLine ∧ onSome (atI z.cps.toList i) fun c => k (.str ⟨#[c]⟩)
  | .dic ks vs, .int i, k => onSome (dget ks vs (.inl i)) k
  | .dic ks vs, .str i, k => onSome (dget ks vs (.inr i)) k
  | .odc ks vs, .int i, k => onSome (dget ks vs (.inl i)) k
  | .odc ks vs, .str i, k => onSome (dget ks vs (.inr i)) k
  | _, _, _ => False
theorem ixd : IxD X gIx := by
  refine ⟨_, ix_seq.or ix_dk, fun H O x y dx dy k R own vx vy g f => ?_⟩
  cases dx <;> cases dy <;> try exact False.elim g
  · have g : _ ∧ onSome _ _ := g
    obtain ⟨c, e, g2⟩ := g.2.ex
    exact .inl (.inr (.inr ⟨_, _, c, vx.str, vy.int, g.1, e, fin_id own f (.str _) g2⟩))
  · obtain ⟨a, vs, rfl, h1, r1⟩ := vx.tup
    have g : onSome _ _ := g
    obtain ⟨d, e, g2⟩ := g.ex
    obtain ⟨v, e2, r2⟩ := atI_reps r1 e
    exact .inl (.inr (.inl ⟨a, vs, _, v, rfl, vy.int, h1, e2, fin_id own f r2 g2⟩))
  · obtain ⟨a, vs, rfl, h1, r1⟩ := vx.lst
    have g : onSome _ _ := g
    obtain ⟨d, e, g2⟩ := g.ex
    obtain ⟨v, e2, r2⟩ := atI_reps r1 e
    exact .inl (.inl ⟨a, vs, _, v, rfl, vy.int, .of h1, e2, fin_id own f r2 g2⟩)
  · obtain ⟨a, vs, rfl, h1, r1⟩ := vx.scr
    have g : onSome _ _ := g
    obtain ⟨d, e, g2⟩ := g.ex
    obtain ⟨v, e2, r2⟩ := atI_reps r1 e
    exact .inl (.inl ⟨a, vs, _, v, rfl, vy.int, h1, e2, fin_id own f r2 g2⟩)
  · obtain ⟨a, kvs, rfl, h1, rfl, r1⟩ := vx.dic
    have g : onSome _ _ := g
    obtain ⟨d, e, g2⟩ := g.ex
    obtain ⟨v, e2, r2⟩ := dget_reps r1 e
    exact .inr ⟨a, kvs, .inl _, v, rfl, vy.int, h1, e2, fin_id own f r2 g2⟩
  · obtain ⟨a, kvs, rfl, h1, rfl, r1⟩ := vx.dic
    have g : onSome _ _ := g
    obtain ⟨d, e, g2⟩ := g.ex
    obtain ⟨v, e2, r2⟩ := dget_reps r1 e
    exact .inr ⟨a, kvs, .inr _, v, rfl, vy.str, h1, e2, fin_id own f r2 g2⟩
  · obtain ⟨a, kvs, rfl, h1, rfl, r1⟩ := vx.odc
    have g : onSome _ _ := g
    obtain ⟨d, e, g2⟩ := g.ex
    obtain ⟨v, e2, r2⟩ := dget_reps r1 e
    exact .inr ⟨a, kvs, .inl _, v, rfl, vy.int, h1, e2, fin_id own f r2 g2⟩
  · obtain ⟨a, kvs, rfl, h1, rfl, r1⟩ := vx.odc
    have g : onSome _ _ := g
    obtain ⟨d, e, g2⟩ := g.ex
    obtain ⟨v, e2, r2⟩ := dget_reps r1 e
    exact .inr ⟨a, kvs, .inr _, v, rfl, vy.str, h1, e2, fin_id own f r2 g2⟩
/-! ### calls of built-ins -/
def gLen : GL
  | [.str x], k => x.length ≤ sizeLine ∧ k (.int x.length)
  | [d], k => onSome d.seq fun xs => k (.int xs.length)
  | _, _ => False
theorem calld_len : CallD X (.builtin "len") gLen := by
  refine ⟨_, call_len_seq.or call_len_str, fun H O xs ds k R own vs g f => ?_⟩
  cases vs with
  | nil => exact False.elim g
  | @cons v vr d dr h t =>
    cases t with
    | cons _ _ => cases d <;> exact False.elim g
    | nil =>
      have seq : onSome d.seq (fun ys => k (.int ys.length)) → (∃ p ys, [v] = [.ref p] ∧ (SqL X.K H p ys ∨ SqT X.K H p ys) ∧ R (.int ys.length) H) := fun g => by
        obtain ⟨ys, e, g⟩ := g.ex
        obtain ⟨a, ws, rfl, q, r⟩ := h.seq e
        refine ⟨a, ws, rfl, q, ?_⟩
        rw [r.length]
        exact fin_id own f (.int _) g
      cases d with
      | str x =>
        have g : _ ∧ _ := g
        exact .inr ⟨x, by rw [h.str], g.1, fin_id own f (.int _) g.2⟩
      | tup ys => exact .inl (seq g)
      | lst o ys => exact .inl (seq g)
      | scr ys => exact .inl (seq g)
      | non => exact False.elim g
      | bl _ => exact False.elim g
      | int _ => exact False.elim g
      | dic _ _ => exact False.elim g
      | odc _ _ => exact False.elim g
theorem ValL.one {K : PySem.W.Frag} {H : Hp} {O : Addr → Prop} {vs : List V} {d : D} (h : ValL K H O vs [d]) : ∃ v, vs = [v] ∧ Val K H O v d := by
  cases h with | cons h t => cases t; exact ⟨_, rfl, h⟩
theorem ValL.two {K : PySem.W.Frag} {H : Hp} {O : Addr → Prop} {vs : List V} {d e : D} (h : ValL K H O vs [d, e]) : ∃ v w, vs = [v, w] ∧ Val K H O v d ∧ Val K H O w e := by
  cases h with | cons h t => obtain ⟨w, rfl, q⟩ := t.one; exact ⟨_, _, rfl, h, q⟩
def gAbs : GL
  | [.int i], k => k (.int (if i < 0 then -i else i))
  | _, _ => False
theorem calld_abs : CallD X (.builtin "abs") gAbs := by
  refine ⟨_, call_abs, fun H O xs ds k R own vs g f => ?_⟩
  unfold gAbs at g
  split at g
  · obtain ⟨v, rfl, h⟩ := vs.one
    exact ⟨_, by rw [h.int], fin_id own f (.int _) g⟩
  · exact g.elim
def gSum : GL
  | [d], k => onSome (d.sql.bind asInts) fun ns => k (.int ns.sum)
  | _, _ => False
theorem calld_sum (hc : X.calm = true) : CallD X (.builtin "sum") gSum := by
  refine ⟨_, cr_sum hc, fun H O xs ds k R own vs g f => ?_⟩
  unfold gSum at g
  split at g
  · obtain ⟨ns, e0, g⟩ := g.ex
    obtain ⟨ds, e1, e2⟩ := Option.bind_eq_some_iff.mp e0
    · · obtain ⟨v, rfl, h⟩ := vs.one
        obtain ⟨a, ws, rfl, q, r⟩ := h.sql e1
        rw [asInts_eq e2] at r
        exact ⟨a, ns, rfl, by rw [← r.ints]; exact q, fin_id own f (.int _) g⟩
  · exact g.elim
def gMax : GL
  | [.int i, .int j], k => k (.int (if j > i then j else i))
  | [d], k => onSome (d.sql.bind asInts) fun ns => 0 < ns.length ∧ ∀ m, m ∈ ns → (∀ y, y ∈ ns → y ≤ m) → k (.int m)
  | _, _ => False
theorem calld_max (hc : X.calm = true) : CallD X (.builtin "max") gMax := by
  refine ⟨_, (call_max2 hc).or (cr_max hc), fun H O xs ds k R own vs g f => ?_⟩
  unfold gMax at g
  split at g
  · obtain ⟨v, w, rfl, h1, h2⟩ := vs.two
    exact .inl ⟨_, _, by rw [h1.int, h2.int], fin_id own f (.int _) g⟩
  · obtain ⟨ns, e0, g⟩ := g.ex
    obtain ⟨ds, e1, e2⟩ := Option.bind_eq_some_iff.mp e0
    · · obtain ⟨v, rfl, h⟩ := vs.one
        obtain ⟨a, ws, rfl, q, r⟩ := h.sql e1
        rw [asInts_eq e2] at r
        exact .inr ⟨a, ns, rfl, by rw [← r.ints]; exact q, g.1, fun m h1 h2 => fin_id own f (.int _) (g.2 m h1 h2)⟩
  · exact g.elim
def gMin : GL
  | [.int i, .int j], k => k (.int (if j < i then j else i))
  | [d], k => onSome (d.sql.bind asInts) fun ns => 0 < ns.length ∧ ∀ m, m ∈ ns → (∀ y, y ∈ ns → m ≤ y) → k (.int m)
  | _, _ => False
theorem calld_min (hc : X.calm = true) : CallD X (.builtin "min") gMin := by
  refine ⟨_, (call_min2 hc).or (cr_min hc), fun H O xs ds k R own vs g f => ?_⟩
  unfold gMin at g
  split at g
  · obtain ⟨v, w, rfl, h1, h2⟩ := vs.two
    exact .inl ⟨_, _, by rw [h1.int, h2.int], fin_id own f (.int _) g⟩
  · obtain ⟨ns, e0, g⟩ := g.ex
    obtain ⟨ds, e1, e2⟩ := Option.bind_eq_some_iff.mp e0
    · · obtain ⟨v, rfl, h⟩ := vs.one
        obtain ⟨a, ws, rfl, q, r⟩ := h.sql e1
        rw [asInts_eq e2] at r
        exact .inr ⟨a, ns, rfl, by rw [← r.ints]; exact q, g.1, fun m h1 h2 => fin_id own f (.int _) (g.2 m h1 h2)⟩
  · exact g.elim
def gAll : GL
  | [d], k => onSome (d.sql.bind asBls) fun ns => k (.bl (ns.all id))
  | _, _ => False
theorem calld_all (hc : X.calm = true) : CallD X (.builtin "all") gAll := by
  refine ⟨_, cr_all hc, fun H O xs ds k R own vs g f => ?_⟩
  unfold gAll at g
  split at g
  · obtain ⟨ns, e0, g⟩ := g.ex
    obtain ⟨ds, e1, e2⟩ := Option.bind_eq_some_iff.mp e0
    · · obtain ⟨v, rfl, h⟩ := vs.one
        obtain ⟨a, ws, rfl, q, r⟩ := h.sql e1
        rw [asBls_eq e2] at r
        exact ⟨a, ns, rfl, by rw [← r.bls]; exact q, fin_id own f (.bl _) g⟩
  · exact g.elim
def gAny : GL
  | [d], k => onSome (d.sql.bind asBls) fun ns => k (.bl (ns.any id))
  | _, _ => False
theorem calld_any (hc : X.calm = true) : CallD X (.builtin "any") gAny := by
  refine ⟨_, cr_any hc, fun H O xs ds k R own vs g f => ?_⟩
  unfold gAny at g
  split at g
  · obtain ⟨ns, e0, g⟩ := g.ex
    obtain ⟨ds, e1, e2⟩ := Option.bind_eq_some_iff.mp e0
    · · obtain ⟨v, rfl, h⟩ := vs.one
        obtain ⟨a, ws, rfl, q, r⟩ := h.sql e1
        rw [asBls_eq e2] at r
        exact ⟨a, ns, rfl, by rw [← r.bls]; exact q, fin_id own f (.bl _) g⟩
  · exact g.elim
def gInt1 : GL
  | [.int i], k => k (.int i)
  | [.bl b], k => k (.int (if b then 1 else 0))
  | _, _ => False
theorem calld_int1 : CallD X (.type "int") gInt1 := by
  refine ⟨_, call_int1, fun H O xs ds k R own vs g f => ?_⟩
  unfold gInt1 at g
  split at g
  · obtain ⟨v, rfl, h⟩ := vs.one
    exact .inl ⟨_, by rw [h.int], fin_id own f (.int _) g⟩
  · obtain ⟨v, rfl, h⟩ := vs.one
    exact .inr ⟨_, by rw [h.bl], fin_id own f (.int _) g⟩
  · exact g.elim
def gList : GL
  | [d], k => onSome d.seq fun xs => k (.lst true xs)
  | _, _ => False
theorem calld_list : CallD X (.type "list") gList := by
  refine ⟨_, call_list_of, fun H O xs ds k R own vs g f => ?_⟩
  unfold gList at g
  split at g
  · obtain ⟨ys, e1, g⟩ := g.ex
    · obtain ⟨v, rfl, h⟩ := vs.one
      obtain ⟨a, ws, rfl, q, r⟩ := h.seq e1
      exact ⟨a, ws, rfl, q, fun l hl => fin_lst own f hl r g⟩
  · exact g.elim
def gTuple : GL
  | [d], k => onSome d.seq fun xs => k (.tup xs)
  | _, _ => False
theorem calld_tuple : CallD X (.type "tuple") gTuple := by
  refine ⟨_, call_tuple_of, fun H O xs ds k R own vs g f => ?_⟩
  unfold gTuple at g
  split at g
  · obtain ⟨ys, e1, g⟩ := g.ex
    · obtain ⟨v, rfl, h⟩ := vs.one
      obtain ⟨a, ws, rfl, q, r⟩ := h.seq e1
      refine ⟨a, ws, rfl, ?_⟩
      rcases q with q | q
      · exact .inl ⟨q, fun l hl => fin_tup own f hl r g⟩
      · exact .inr ⟨q, fin_id own f (.tup q r) g⟩
  · exact g.elim
end
end Bx
namespace Bx
open PySem L2

/-- a way that a truth picks -/
def pick (c : Bool) (f g : Rho → Prop) (ρ : Rho) : Prop := match c with
  | true => f ρ
  | false => g ρ
theorem pick_true {f g : Rho → Prop} {ρ : Rho} : pick true f g ρ = f ρ := rfl
theorem pick_false {f g : Rho → Prop} {ρ : Rho} : pick false f g ρ = g ρ := rfl
theorem pick_by {c : Bool} {f g : Rho → Prop} {ρ : Rho} (h1 : c = true → f ρ) (h2 : c = false → g ρ) : pick c f g ρ := by
  cases c with
  | true => exact h1 rfl
  | false => exact h2 rfl
def kV (k : D → Rho → Prop) (ρ : Rho) (d : D) : Prop := k d ρ

section
variable {X : Cx} {a b c e : Expr} {es : List Expr} {pos p p2 : Pos}

/-! ### two operands -/
def kB2 (g : G2) (x : DOp) (k : D → Rho → Prop) (y : DOp) (ρ : Rho) : Prop := onSome (rd ρ x) fun dx => onSome (rd ρ y) fun dy => g dx dy (kV k ρ)
def kB1 (g : G2) (b : DO) (k : D → Rho → Prop) (x : DOp) (ρ : Rho) : Prop := b (kB2 g x k) ρ
def dBin (g : G2) (a b : DO) (k : D → Rho → Prop) (ρ : Rho) : Prop := a (kB1 g b k) ρ
theorem bin_ok {ta tb : TE} {r : R2} {g : G2} {wa wb : DO}
    (hr : ∀ (H : Hp) (O : Addr → Prop) (x y : V) (dx dy : D) (k : D → Prop) (R : VK), Own H O → Val X.K H O x dx → Val X.K H O y dy → g dx dy k → Fin0 X H O k R → r x y H R)
    (fa : ∀ (σ : St) (H : Hp) (ρ : Rho) (O : Addr → Prop) (k : DOp → Rho → Prop) (R : VK), Sr X.K ρ σ H O → wa k ρ → (∀ v H' ρ' O' o, After X.K ρ σ H O ρ' H' O' → OOk X.K σ H H' O' v o → k o ρ' → R v H') → ta σ H R)
    (fb : ∀ (σ : St) (H : Hp) (ρ : Rho) (O : Addr → Prop) (k : DOp → Rho → Prop) (R : VK), Sr X.K ρ σ H O → wb k ρ → (∀ v H' ρ' O' o, After X.K ρ σ H O ρ' H' O' → OOk X.K σ H H' O' v o → k o ρ' → R v H') → tb σ H R) :
    ∀ (σ : St) (H : Hp) (ρ : Rho) (O : Addr → Prop) (k : D → Rho → Prop) (R : VK), Sr X.K ρ σ H O → dBin g wa wb k ρ →
    (∀ v H' ρ' O' d, After X.K ρ σ H O ρ' H' O' → VOk X.K H H' O' v d → k d ρ' → R v H') → tOp r ta tb σ H R := by
  intro σ H ρ O k R s hw q
  refine fa σ H ρ O _ _ s hw fun x H1 ρ1 O1 ox a1 c1 h1 => ?_
  refine fb σ H1 ρ1 O1 _ _ a1.sr h1 fun y H2 ρ2 O2 oy a2 c2 h2 => ?_
  obtain ⟨dx, ex, h2⟩ := h2.ex
  obtain ⟨dy, ey, h2⟩ := h2.ex
  have a12 := a1.trans a2
  refine hr H2 O2 x y dx dy _ R a2.sr.own ((c1.then s a1 a2).val a2.sr ex) (c2.val a2.sr ey) h2 fun v H' O' d e own vo hk => ?_
  have a3 := a2.sr.ext0 e own
  exact q v H' ρ2 O' d (a12.trans a3) (vo.back a12.back) hk
theorem se_bin {op : Operator} {g : G2} {wa wb : DO} (o : OpD X (binaryOp op) g) (ha : SO X a wa) (hb : SO X b wb) : SE X (.BinOp a op b pos) (dBin g wa wb) := by
  obtain ⟨r, o1, o2⟩ := o
  obtain ⟨ta, pa, fa⟩ := ha
  obtain ⟨tb, pb, fb⟩ := hb
  exact ⟨_, pe_op o1 pa pb, bin_ok o2 fa fb⟩
theorem se_cmp {op : CmpOp} {g : G2} {wa wb : DO} (o : OpD X (compareOp op) g) (ha : SO X a wa) (hb : SO X b wb) (hm : behindInMarks op b = false := by with_unfolding_all rfl) : SE X (.Compare a [op] [b] pos) (dBin g wa wb) := by
  obtain ⟨r, o1, o2⟩ := o
  obtain ⟨ta, pa, fa⟩ := ha
  obtain ⟨tb, pb, fb⟩ := hb
  exact ⟨_, pe_cmpR o1 pa pb hm, bin_ok o2 fa fb⟩
theorem se_ix {g : G2} {wa wb : DO} (o : IxD X g) (ha : SO X a wa) (hb : SO X b wb) (hs : PlainIx b := by intro _ _; rfl) : SE X (.Subscript a b pos) (dBin g wa wb) := by
  obtain ⟨r, o1, o2⟩ := o
  obtain ⟨ta, pa, fa⟩ := ha
  obtain ⟨tb, pb, fb⟩ := hb
  exact ⟨_, pe_ix o1 pa pb hs, bin_ok o2 fa fb⟩
/-! ### one operand -/
def kU (g : G1) (k : D → Rho → Prop) (x : DOp) (ρ : Rho) : Prop := onSome (rd ρ x) fun dx => g dx (kV k ρ)
def dUn (g : G1) (a : DO) (k : D → Rho → Prop) (ρ : Rho) : Prop := a (kU g k) ρ
theorem se_un {op : UnaryOp} {g : G1} {wa : DO} (o : UnD X (unaryOp op) g) (ha : SO X a wa) : SE X (.UnaryOp op a pos) (dUn g wa) := by
  obtain ⟨r, o1, o2⟩ := o
  obtain ⟨ta, pa, fa⟩ := ha
  refine ⟨_, pe_un o1 pa, fun σ H ρ O k R s hw q => ?_⟩
  refine fa σ H ρ O _ _ s hw fun x H1 ρ1 O1 ox a1 c1 h1 => ?_
  obtain ⟨dx, ex, h1⟩ := h1.ex
  refine o2 H1 O1 x dx _ R a1.sr.own (c1.val a1.sr ex) h1 fun v H' O' d e own vo hk => ?_
  have a3 := a1.sr.ext0 e own
  exact q v H' ρ1 O' d (a1.trans a3) (vo.back a1.back) hk

/-! ### tests -/
def kBl (k : Bool → Rho → Prop) (d : D) (ρ : Rho) : Prop := match d with
  | .bl b => k b ρ
  | _ => False
def tVal (w : DE) (k : Bool → Rho → Prop) (ρ : Rho) : Prop := w (kBl k) ρ
theorem kBl_ok {K : PySem.W.Frag} {H H' : Hp} {O' : Addr → Prop} {v : V} {d : D} {k : Bool → Rho → Prop} {ρ' : Rho} (vo : VOk K H H' O' v d) (h : kBl k d ρ') : ∃ b, v = .bl b ∧ k b ρ' := by
  cases d <;> try exact False.elim h
  exact ⟨_, vo.val.bl, h⟩
theorem st_val {w : DE} (h : SE X e w) (he : ∀ whole, isTrue e X.env whole = (do let v ← whole; standAt e.pos; holding [v] (truthy v)) := by intro _; rfl) : ST X e (tVal w) := by
  obtain ⟨t, p, f⟩ := h
  refine ⟨_, pt_val p he, fun σ H ρ O k R s hw q => ?_⟩
  refine f σ H ρ O _ _ s hw fun v H' ρ' O' d a vo hk => ?_
  obtain ⟨b, e, hk⟩ := kBl_ok vo hk
  exact ⟨b, e, q b H' ρ' O' a hk⟩
theorem st_cmp {op : CmpOp} {g : G2} {wa wb : DO} (o : OpD X (compareOp op) g) (ha : SO X a wa) (hb : SO X b wb) (hm : behindInMarks op b = false := by with_unfolding_all rfl) : ST X (.Compare a [op] [b] pos) (tVal (dBin g wa wb)) := by
  obtain ⟨r, o1, o2⟩ := o
  obtain ⟨ta, pa, fa⟩ := ha
  obtain ⟨tb, pb, fb⟩ := hb
  refine ⟨_, pt_cmpR o1 pa pb hm, fun σ H ρ O k R s hw q => ?_⟩
  refine bin_ok o2 fa fb σ H ρ O _ _ s hw fun v H' ρ' O' d a vo hk => ?_
  obtain ⟨b, e, hk⟩ := kBl_ok vo hk
  exact ⟨b, e, q b H' ρ' O' a hk⟩
def kAnd (w : DT) (k : Bool → Rho → Prop) (b : Bool) (ρ : Rho) : Prop := pick b (w k) (k false) ρ
def tAnd (a w : DT) (k : Bool → Rho → Prop) (ρ : Rho) : Prop := a (kAnd w k) ρ
def kOr (w : DT) (k : Bool → Rho → Prop) (b : Bool) (ρ : Rho) : Prop := pick b (k true) (w k) ρ
def tOr (a w : DT) (k : Bool → Rho → Prop) (ρ : Rho) : Prop := a (kOr w k) ρ
def kNot (k : Bool → Rho → Prop) (b : Bool) (ρ : Rho) : Prop := k (!b) ρ
def tNot (a : DT) (k : Bool → Rho → Prop) (ρ : Rho) : Prop := a (kNot k) ρ
variable {rest : List Expr} {wa wb : DT}
theorem sw_and1 (h : ST X a wa) : SW X (.BoolOp .And [a] pos) wa := by
  obtain ⟨t, p, f⟩ := h
  exact ⟨t, pw_and1 p, f⟩
theorem sw_or1 (h : ST X a wa) : SW X (.BoolOp .Or [a] pos) wa := by
  obtain ⟨t, p, f⟩ := h
  exact ⟨t, pw_or1 p, f⟩
theorem sw_and (h : ST X a wa) (h2 : SW X (.BoolOp .And (b :: rest) pos) wb) : SW X (.BoolOp .And (a :: b :: rest) pos) (tAnd wa wb) := by
  obtain ⟨t, p, f⟩ := h
  obtain ⟨t2, p2, f2⟩ := h2
  refine ⟨_, pw_and p p2, fun σ H ρ O k R s hw q => ?_⟩
  refine f σ H ρ O _ _ s hw fun c H1 ρ1 O1 a1 h1 => ?_
  cases c with
  | true => exact iteT (f2 σ H1 ρ1 O1 _ _ a1.sr h1 fun c H' ρ' O' a' h' => q c H' ρ' O' (a1.trans a') h')
  | false => exact iteF (q false H1 ρ1 O1 a1 h1)
theorem sw_or (h : ST X a wa) (h2 : SW X (.BoolOp .Or (b :: rest) pos) wb) : SW X (.BoolOp .Or (a :: b :: rest) pos) (tOr wa wb) := by
  obtain ⟨t, p, f⟩ := h
  obtain ⟨t2, p2, f2⟩ := h2
  refine ⟨_, pw_or p p2, fun σ H ρ O k R s hw q => ?_⟩
  refine f σ H ρ O _ _ s hw fun c H1 ρ1 O1 a1 h1 => ?_
  cases c with
  | true => exact iteT (q true H1 ρ1 O1 a1 h1)
  | false => exact iteF (f2 σ H1 ρ1 O1 _ _ a1.sr h1 fun c H' ρ' O' a' h' => q c H' ρ' O' (a1.trans a') h')
theorem st_w (h : SW X e wa) : ST X e wa := by
  obtain ⟨t, p, f⟩ := h
  exact ⟨t, p.pt, f⟩
theorem st_not (h : ST X a wa) : ST X (.UnaryOp .Not a pos) (tNot wa) := by
  obtain ⟨t, p, f⟩ := h
  refine ⟨_, pt_not p, fun σ H ρ O k R s hw q => ?_⟩
  exact f σ H ρ O _ _ s hw fun c H1 ρ1 O1 a1 h1 => q (!c) H1 ρ1 O1 a1 h1
/-- and, or, not as values, of truths -/
def kAndV (w : DE) (k : D → Rho → Prop) (d : D) (ρ : Rho) : Prop := match d with
  | .bl c => pick c (w k) (k (.bl false)) ρ
  | _ => False
def dAnd (a w : DE) (k : D → Rho → Prop) (ρ : Rho) : Prop := a (kAndV w k) ρ
def kOrV (w : DE) (k : D → Rho → Prop) (d : D) (ρ : Rho) : Prop := match d with
  | .bl c => pick c (k (.bl true)) (w k) ρ
  | _ => False
def dOr (a w : DE) (k : D → Rho → Prop) (ρ : Rho) : Prop := a (kOrV w k) ρ
def kNotV (k : D → Rho → Prop) (d : D) (ρ : Rho) : Prop := match d with
  | .bl c => k (.bl (!c)) ρ
  | _ => False
def dNot (a : DE) (k : D → Rho → Prop) (ρ : Rho) : Prop := a (kNotV k) ρ
variable {va vb vc : DE}
theorem se_one {op : BoolOp} (h : SE X a va) : SE X (.BoolOp op [a] pos) va := by
  obtain ⟨t, p, f⟩ := h
  exact ⟨t, pe_one p, f⟩
theorem se_and (h : SE X a va) (h2 : SE X (.BoolOp .And (b :: rest) pos) vb) : SE X (.BoolOp .And (a :: b :: rest) pos) (dAnd va vb) := by
  obtain ⟨t, p, f⟩ := h
  obtain ⟨t2, p2, f2⟩ := h2
  refine ⟨_, pe_and p p2, fun σ H ρ O k R s hw q => ?_⟩
  refine f σ H ρ O _ _ s hw fun v H1 ρ1 O1 d a1 vo h1 => ?_
  cases d <;> try exact False.elim h1
  rename_i c
  refine ⟨c, vo.val.bl, ?_⟩
  cases c with
  | true => exact iteT (f2 σ H1 ρ1 O1 _ _ a1.sr h1 fun c H' ρ' O' d a' vo' h' => q c H' ρ' O' d (a1.trans a') (vo'.back a1.back) h')
  | false => exact iteF (q _ H1 ρ1 O1 _ a1 (.rep (.bl false)) h1)
theorem se_or (h : SE X a va) (h2 : SE X (.BoolOp .Or (b :: rest) pos) vb) : SE X (.BoolOp .Or (a :: b :: rest) pos) (dOr va vb) := by
  obtain ⟨t, p, f⟩ := h
  obtain ⟨t2, p2, f2⟩ := h2
  refine ⟨_, pe_or p p2, fun σ H ρ O k R s hw q => ?_⟩
  refine f σ H ρ O _ _ s hw fun v H1 ρ1 O1 d a1 vo h1 => ?_
  cases d <;> try exact False.elim h1
  rename_i c
  refine ⟨c, vo.val.bl, ?_⟩
  cases c with
  | true => exact iteT (q _ H1 ρ1 O1 _ a1 (.rep (.bl true)) h1)
  | false => exact iteF (f2 σ H1 ρ1 O1 _ _ a1.sr h1 fun c H' ρ' O' d a' vo' h' => q c H' ρ' O' d (a1.trans a') (vo'.back a1.back) h')
theorem se_not (h : SE X a va) : SE X (.UnaryOp .Not a pos) (dNot va) := by
  obtain ⟨t, p, f⟩ := h
  refine ⟨_, pe_not p, fun σ H ρ O k R s hw q => ?_⟩
  refine f σ H ρ O _ _ s hw fun v H1 ρ1 O1 d a1 vo h1 => ?_
  cases d <;> try exact False.elim h1
  exact ⟨_, vo.val.bl, q _ H1 ρ1 O1 _ a1 (.rep (.bl _)) h1⟩
def kIf (a b : DE) (k : D → Rho → Prop) (c : Bool) (ρ : Rho) : Prop := pick c (a k) (b k) ρ
def dIf (t : DT) (a b : DE) (k : D → Rho → Prop) (ρ : Rho) : Prop := t (kIf a b k) ρ
theorem se_ifExp (h : ST X c wa) (h1 : SE X a va) (h2 : SE X b vb) : SE X (.IfExp c a b pos) (dIf wa va vb) := by
  obtain ⟨t, p, f⟩ := h
  obtain ⟨t1, p1, f1⟩ := h1
  obtain ⟨t2, p2, f2⟩ := h2
  refine ⟨_, pe_ifExp p p1 p2, fun σ H ρ O k R s hw q => ?_⟩
  refine f σ H ρ O _ _ s hw fun c H1 ρ1 O1 a1 h1 => ?_
  cases c with
  | true => exact iteT (f1 σ H1 ρ1 O1 _ _ a1.sr h1 fun c H' ρ' O' d a' vo' h' => q c H' ρ' O' d (a1.trans a') (vo'.back a1.back) h')
  | false => exact iteF (f2 σ H1 ρ1 O1 _ _ a1.sr h1 fun c H' ρ' O' d a' vo' h' => q c H' ρ' O' d (a1.trans a') (vo'.back a1.back) h')
/-- a op b op' c -/
def kC3 (g' : G2) (y : DOp) (k : D → Rho → Prop) (z : DOp) (ρ : Rho) : Prop := onSome (rd ρ y) fun dy => onSome (rd ρ z) fun dz => g' dy dz (kV k ρ)
def kC2b (g' : G2) (c : DO) (y : DOp) (k : D → Rho → Prop) (ρ : Rho) : Prop := c (kC3 g' y k) ρ
def kC2a (g' : G2) (c : DO) (y : DOp) (k : D → Rho → Prop) (ρ : Rho) (d : D) : Prop := match d with
  | .bl b => pick b (kC2b g' c y k) (k (.bl false)) ρ
  | _ => False
def kC2 (g g' : G2) (c : DO) (x : DOp) (k : D → Rho → Prop) (y : DOp) (ρ : Rho) : Prop := onSome (rd ρ x) fun dx => onSome (rd ρ y) fun dy => g dx dy (kC2a g' c y k ρ)
def kC1 (g g' : G2) (b c : DO) (k : D → Rho → Prop) (x : DOp) (ρ : Rho) : Prop := b (kC2 g g' c x k) ρ
def dChain (g g' : G2) (a b c : DO) (k : D → Rho → Prop) (ρ : Rho) : Prop := a (kC1 g g' b c k) ρ
theorem chain_ok {ta tb tc : TE} {r r' : R2} {g g' : G2} {wa wb wc : DO}
    (hr : ∀ (H : Hp) (O : Addr → Prop) (x y : V) (dx dy : D) (k : D → Prop) (R : VK), Own H O → Val X.K H O x dx → Val X.K H O y dy → g dx dy k → Fin0 X H O k R → r x y H R)
    (hr' : ∀ (H : Hp) (O : Addr → Prop) (x y : V) (dx dy : D) (k : D → Prop) (R : VK), Own H O → Val X.K H O x dx → Val X.K H O y dy → g' dx dy k → Fin0 X H O k R → r' x y H R)
    (fa : ∀ (σ : St) (H : Hp) (ρ : Rho) (O : Addr → Prop) (k : DOp → Rho → Prop) (R : VK), Sr X.K ρ σ H O → wa k ρ → (∀ v H' ρ' O' o, After X.K ρ σ H O ρ' H' O' → OOk X.K σ H H' O' v o → k o ρ' → R v H') → ta σ H R)
    (fb : ∀ (σ : St) (H : Hp) (ρ : Rho) (O : Addr → Prop) (k : DOp → Rho → Prop) (R : VK), Sr X.K ρ σ H O → wb k ρ → (∀ v H' ρ' O' o, After X.K ρ σ H O ρ' H' O' → OOk X.K σ H H' O' v o → k o ρ' → R v H') → tb σ H R)
    (fc : ∀ (σ : St) (H : Hp) (ρ : Rho) (O : Addr → Prop) (k : DOp → Rho → Prop) (R : VK), Sr X.K ρ σ H O → wc k ρ → (∀ v H' ρ' O' o, After X.K ρ σ H O ρ' H' O' → OOk X.K σ H H' O' v o → k o ρ' → R v H') → tc σ H R) :
    ∀ (σ : St) (H : Hp) (ρ : Rho) (O : Addr → Prop) (k : D → Rho → Prop) (R : VK), Sr X.K ρ σ H O → dChain g g' wa wb wc k ρ →
    (∀ v H' ρ' O' d, After X.K ρ σ H O ρ' H' O' → VOk X.K H H' O' v d → k d ρ' → R v H') → tChain r r' ta tb tc σ H R := by
  intro σ H ρ O k R s hw q
  refine fa σ H ρ O _ _ s hw fun x H1 ρ1 O1 ox a1 c1 h1 => ?_
  refine fb σ H1 ρ1 O1 _ _ a1.sr h1 fun y H2 ρ2 O2 oy a2 c2 h2 => ?_
  obtain ⟨dx, ex, h2⟩ := h2.ex
  obtain ⟨dy, ey, h2⟩ := h2.ex
  have a12 := a1.trans a2
  refine hr H2 O2 x y dx dy _ _ a2.sr.own ((c1.then s a1 a2).val a2.sr ex) (c2.val a2.sr ey) h2 fun v H3 O3 d e own vo hk => ?_
  have a3 := a2.sr.ext0 e own
  cases d <;> try exact False.elim hk
  rename_i bo
  refine ⟨bo, vo.val.bl, ?_⟩
  cases bo with
  | false => exact iteF (q _ H3 ρ2 O3 _ (a12.trans a3) (.rep (.bl false)) hk)
  | true =>
    refine iteT (fc σ H3 ρ2 O3 _ _ a3.sr hk fun z H4 ρ4 O4 oz a4 c4 h4 => ?_)
    obtain ⟨dy', ey', h4⟩ := h4.ex
    obtain ⟨dz, ez, h4⟩ := h4.ex
    have a34 := a3.trans a4
    have a14 := a12.trans a34
    refine hr' H4 O4 y z dy' dz _ R a4.sr.own ((c2.then a1.sr a2 a34).val a4.sr ey') (c4.val a4.sr ez) h4 fun v H' O' d e own vo hk => ?_
    exact q v H' ρ4 O' d (a14.trans (a4.sr.ext0 e own)) (vo.back a14.back) hk
theorem se_chain {op op' : CmpOp} {g g' : G2} {wa wb wc : DO} (o : OpD X (compareOp op) g) (o' : OpD X (compareOp op') g') (ha : SO X a wa) (hb : SO X b wb) (hc : SO X c wc)
    (hm : lastMarks [op, op'] [b, c] = false := by with_unfolding_all rfl) : SE X (.Compare a [op, op'] [b, c] pos) (dChain g g' wa wb wc) := by
  obtain ⟨r, o1, o2⟩ := o
  obtain ⟨r', o1', o2'⟩ := o'
  obtain ⟨ta, pa, fa⟩ := ha
  obtain ⟨tb, pb, fb⟩ := hb
  obtain ⟨tc, pc, fc⟩ := hc
  exact ⟨_, pe_chain o1 o1' pa pb pc hm, chain_ok o2 o2' fa fb fc⟩
theorem st_chain {op op' : CmpOp} {g g' : G2} {wa wb wc : DO} (o : OpD X (compareOp op) g) (o' : OpD X (compareOp op') g') (ha : SO X a wa) (hb : SO X b wb) (hc : SO X c wc)
    (hm : lastMarks [op, op'] [b, c] = false := by with_unfolding_all rfl) : ST X (.Compare a [op, op'] [b, c] pos) (tVal (dChain g g' wa wb wc)) := by
  obtain ⟨r, o1, o2⟩ := o
  obtain ⟨r', o1', o2'⟩ := o'
  obtain ⟨ta, pa, fa⟩ := ha
  obtain ⟨tb, pb, fb⟩ := hb
  obtain ⟨tc, pc, fc⟩ := hc
  refine ⟨_, pt_chain o1 o1' pa pb pc hm, fun σ H ρ O k R s hw q => ?_⟩
  refine chain_ok o2 o2' fa fb fc σ H ρ O _ _ s hw fun v H' ρ' O' d a vo hk => ?_
  obtain ⟨b, e, hk⟩ := kBl_ok vo hk
  exact ⟨b, e, q b H' ρ' O' a hk⟩

/-! ### built-ins called -/
def rdAll (ρ : Rho) : List DOp → Option (List D)
  | [] => some []
  | o :: r => (rd ρ o).bind fun d => (rdAll ρ r).map (d :: ·)
theorem OOks.vals {K : PySem.W.Frag} {σ : St} {ρ1 : Rho} {H H1 : Hp} {O1 : Addr → Prop} (s : Sr K ρ1 σ H1 O1) : ∀ {vs : List V} {os : List DOp} {ds : List D}, OOks K σ H H1 O1 vs os → rdAll ρ1 os = some ds → ValL K H1 O1 vs ds
  | _, [], _, .nil, e => by cases e; exact .nil
  | _, o :: r, ds, .cons h t, e => by
    obtain ⟨d, e1, e⟩ := Option.bind_eq_some_iff.mp e
    obtain ⟨l, e2, e⟩ := Option.map_eq_some_iff.mp e
    subst e
    exact .cons (h.val s e1) (OOks.vals s t e2)
def kCB (g : GL) (k : D → Rho → Prop) (os : List DOp) (ρ : Rho) : Prop := onSome (rdAll ρ os) fun ds => g ds (kV k ρ)
def dCB (g : GL) (w : DA) (k : D → Rho → Prop) (ρ : Rho) : Prop := w (kCB g k) ρ
theorem callB_ok {r : List V → Hp → VK → Prop} {g : GL} {w : DA} {t : TA}
    (o2 : ∀ (H : Hp) (O : Addr → Prop) (xs : List V) (ds : List D) (k : D → Prop) (R : VK), Own H O → ValL X.K H O xs ds → g ds k → Fin0 X H O k R → r xs H R)
    (f : ∀ (σ : St) (H : Hp) (ρ : Rho) (O : Addr → Prop) (k : List DOp → Rho → Prop) (R : List V → Hp → Prop), Sr X.K ρ σ H O → w k ρ →
    (∀ vs H' ρ' O' os, After X.K ρ σ H O ρ' H' O' → OOks X.K σ H H' O' vs os → vs.length = es.length → k os ρ' → R vs H') → t σ H R) :
    ∀ (σ : St) (H : Hp) (ρ : Rho) (O : Addr → Prop) (k : D → Rho → Prop) (R : VK), Sr X.K ρ σ H O → dCB g w k ρ →
    (∀ v H' ρ' O' d, After X.K ρ σ H O ρ' H' O' → VOk X.K H H' O' v d → k d ρ' → R v H') → tCB r t σ H R := by
  intro σ H ρ O k R s hw q
  refine f σ H ρ O _ _ s hw fun vs H1 ρ1 O1 os a1 c1 _ h1 => ?_
  obtain ⟨ds, e, h1⟩ := h1.ex
  refine o2 H1 O1 vs ds _ R a1.sr.own (c1.vals a1.sr e) h1 fun v H' O' d e own vo hk => ?_
  exact q v H' ρ1 O' d (a1.trans (a1.sr.ext0 e own)) (vo.back a1.back) hk
theorem se_callB {id : String} {x : Str} {g : GL} {w : DA} (o : CallD X (.builtin id) g) (hg : Gl X x) (hm : X.mg x = none) (hv : bootBuiltins x = some (.builtin id)) (h : SA X (e :: es) w) (hn : x ≠ "__name__" := by decide) (hdb : (x == ("__debug__" : Str)) = false := by decide)
    (he : starEach (e :: es) X.env = (false, eval e X.env) :: starEach es X.env := by rfl) (hpl : (backTo pos (starEach es X.env)).any (·.1) = false := by rfl) : SE X (.Call (.Name x p) (e :: es) [] pos) (dCB g w) := by
  obtain ⟨r, o1, o2⟩ := o
  obtain ⟨t, pt, f⟩ := h
  exact ⟨_, pe_callB o1 hg hm hv pt hn hdb he hpl, callB_ok o2 f⟩
theorem se_callTy {T : String} {x : Str} {g : GL} {w : DA} (o : CallD X (.type T) g) (hg : Gl X x) (hm : X.mg x = none) (hv : bootBuiltins x = some (.type T)) (h : SA X (e :: es) w) (hn : x ≠ "__name__" := by decide) (hdb : (x == ("__debug__" : Str)) = false := by decide)
    (he : starEach (e :: es) X.env = (false, eval e X.env) :: starEach es X.env := by rfl) (hpl : (backTo pos (starEach es X.env)).any (·.1) = false := by rfl) : SE X (.Call (.Name x p) (e :: es) [] pos) (dCB g w) := by
  obtain ⟨r, o1, o2⟩ := o
  obtain ⟨t, pt, f⟩ := h
  exact ⟨_, pe_callTy o1 hg hm hv pt hn hdb he hpl, callB_ok o2 f⟩

/-! ### isinstance -/
def D.ty : D → String
  | .non => "NoneType" | .bl _ => "bool" | .int _ => "int" | .str _ => "str" | .tup _ => "tuple" | .lst _ _ => "list" | .scr _ => "list" | .dic _ _ => "dict" | .odc _ _ => "dict"
def isTy (a T : String) : Bool := a == T || (a == "bool" && T == "int")
theorem Val.ty {K : PySem.W.Frag} {H : Hp} {O : Addr → Prop} {v : V} {d : D} (h : Val K H O v d) : TyX K H v (.type d.ty) := by
  cases h with
  | own _ h r =>
    cases r with
    | lst _ => exact .base (.lst h)
    | dK _ => exact .base (.dK h)
  | rep r =>
    cases r with
    | non => exact .base .non
    | bl b => exact .base (.bl b)
    | int i => exact .base (.int i)
    | str x => exact .base (.str x)
    | tup h _ =>
      rcases h with (h | ⟨o, h⟩) | ⟨o, its, n, hk, hc, _⟩
      · exact .base (.tup h)
      · exact .fTuple h
      · exact .kTuple hk hc
    | lst h _ _ => exact .base (.lst h)
    | scr h _ =>
      rcases h with ⟨o, h⟩ | ⟨o, its, n, hk, hc, _⟩
      · exact .base (.frz h)
      · exact .kList hk hc
    | dic h _ _ => exact .base (.dK h)
def kIsi (T : String) (k : D → Rho → Prop) (x : DOp) (ρ : Rho) : Prop := onSome (rd ρ x) fun d => k (.bl (isTy d.ty T)) ρ
def dIsi (T : String) (o : DO) (k : D → Rho → Prop) (ρ : Rho) : Prop := o (kIsi T k) ρ
def tysOk (T : String) : Bool := ["NoneType", "bool", "int", "str", "tuple", "list", "dict"].all fun a => kitB a T == some (isTy a T)
theorem tysOk_at {T : String} (h : tysOk T = true) (d : D) : kitB d.ty T = some (isTy d.ty T) := by
  have q := List.all_eq_true.mp h
  cases d <;> exact eq_of_beq (q _ (by simp [D.ty]))
theorem se_isi {T : String} {x : Str} {w : DO} {pt : Pos} (hg : Gl X "isinstance") (hm : X.mg "isinstance" = none) (hgT : Gl X x) (hmT : X.mg x = none) (hvT : bootBuiltins x = some (.type T)) (hT : tysOk T = true) (h : SO X e w)
    (hnT : x ≠ "__name__" := by decide) (hdT : (x == ("__debug__" : Str)) = false := by decide)
    (he : starEach [e, .Name x pt] X.env = (false, eval e X.env) :: starEach [.Name x pt] X.env := by rfl) (he2 : starEach [.Name x pt] X.env = (false, eval (.Name x pt) X.env) :: starEach [] X.env := by rfl) (hpl : (backTo pos (starEach [.Name x pt] X.env)).any (·.1) = false := by rfl) :
    SE X (.Call (.Name "isinstance" p) [e, .Name x pt] [] pos) (dIsi T w) := by
  obtain ⟨t, pe, f⟩ := h
  refine ⟨_, pe_callB call_isi hg hm (by decide +kernel) (pa_cons pe (pa_cons (pe_bltn (v := .ty T) hgT hmT hvT rfl hnT hdT) pa_nil he2) he) (by decide) (by decide) he hpl, fun σ H ρ O k R s hw q => ?_⟩
  refine f σ H ρ O _ _ s hw fun v H1 ρ1 O1 o a1 c1 h1 => ?_
  obtain ⟨d, ed, h1⟩ := h1.ex
  exact ⟨v, .ty T, _, _, _, rfl, .ty T, (c1.val a1.sr ed).ty, kit_ty (tysOk_at hT d), q _ H1 ρ1 O1 _ a1 (.rep (.bl _)) h1⟩

/-! ### slices -/
abbrev DP := (Option Int → Rho → Prop) → Rho → Prop
def SP' (X : Cx) (e : Option Expr) (w : DP) : Prop :=
  ∃ t, PO X e t ∧ ∀ (σ : St) (H : Hp) (ρ : Rho) (O : Addr → Prop) (k : Option Int → Rho → Prop) (R : Option Int → Hp → Prop), Sr X.K ρ σ H O → w k ρ →
    (∀ l H' ρ' O', After X.K ρ σ H O ρ' H' O' → k l ρ' → R l H') → t σ H R
def pNo (k : Option Int → Rho → Prop) (ρ : Rho) : Prop := k none ρ
def kPI (k : Option Int → Rho → Prop) (d : D) (ρ : Rho) : Prop := match d with
  | .int i => k (some i) ρ
  | _ => False
def pInt (w : DE) (k : Option Int → Rho → Prop) (ρ : Rho) : Prop := w (kPI k) ρ
theorem sp_no : SP' X none pNo := ⟨_, po_none, fun σ H ρ O k R s hw q => q none H ρ O (.refl s) hw⟩
theorem sp_int {w : DE} (h : SE X e w) : SP' X (some e) (pInt w) := by
  obtain ⟨t, p, f⟩ := h
  refine ⟨_, po_some p, fun σ H ρ O k R s hw q => ?_⟩
  refine f σ H ρ O _ _ s hw fun v H1 ρ1 O1 d a1 c1 h1 => ?_
  cases d <;> try exact False.elim h1
  exact ⟨_, c1.val.int, q _ H1 ρ1 O1 a1 h1⟩
def cutD (xs : List D) (lo hi : Option Int) : List D := (xs.drop (HT.sIx xs.length 0 lo)).take (HT.sIx xs.length xs.length hi - HT.sIx xs.length 0 lo)
theorem Reps.cut {K : PySem.W.Frag} {H : Hp} {O : Addr → Prop} {vs : List V} {ds : List D} (h : Reps K H O vs ds) (lo hi : Option Int) : Reps K H O (cutV vs lo hi) (cutD ds lo hi) := by
  unfold cutV cutD
  rw [h.length]
  exact (h.drop _).take _
def gSl (d : D) (lo hi : Option Int) (k : D → Prop) : Prop := match d with
  | .tup xs => k (.tup (cutD xs lo hi))
  | .lst _ xs => k (.lst true (cutD xs lo hi))
  | .scr xs => k (.lst true (cutD xs lo hi))
  | .str z => z.length ≤ sizeLine ∧ k (.str (cutS z lo hi))
  | _ => False
def rSlD (K : PySem.W.Frag) : V → Option Int → Option Int → Hp → VK → Prop := fun x lo hi H Q => rSlA K x lo hi H Q ∨ rSlL K x lo hi H Q ∨ rSlS x lo hi H Q
theorem sl_ok {H : Hp} {O : Addr → Prop} {v : V} {d : D} {lo hi : Option Int} {k : D → Prop} {R : VK} (own : Own H O) (h : Val X.K H O v d) (g : gSl d lo hi k) (f : Fin0 X H O k R) : rSlD X.K v lo hi H R := by
  cases d <;> try exact False.elim g
  · have g : _ ∧ _ := g
    exact .inr (.inr ⟨_, h.str, g.1, fin_id own f (.str _) g.2⟩)
  · obtain ⟨a, vs, rfl, h1, r1⟩ := h.tup
    refine .inl ⟨a, vs, rfl, h1, fun w => ?_, fun _ p hp => fin_tup own f hp (r1.cut lo hi) g⟩
    refine fin_id own f (.tup h1 r1) ?_
    have e : ∀ xs : List D, HT.sIx xs.length 0 lo = 0 → HT.sIx xs.length xs.length hi = xs.length → cutD xs lo hi = xs := fun xs h0 h1 => by
      unfold cutD
      rw [h0, h1]; simp
    rw [r1.length] at w
    have q := e _ w.1 w.2
    have g : k (.tup (cutD _ lo hi)) := g
    rw [q] at g
    exact g
  · obtain ⟨a, vs, rfl, h1, r1⟩ := h.lst
    exact .inr (.inl ⟨a, vs, rfl, .of h1, fun p hp => fin_lst own f hp (r1.cut lo hi) g⟩)
  · obtain ⟨a, vs, rfl, h1, r1⟩ := h.scr
    exact .inr (.inl ⟨a, vs, rfl, h1, fun p hp => fin_lst own f hp (r1.cut lo hi) g⟩)
def kS3 (x : DOp) (l : Option Int) (k : D → Rho → Prop) (u : Option Int) (ρ : Rho) : Prop := onSome (rd ρ x) fun d => gSl d l u (kV k ρ)
def kS2 (hi : DP) (x : DOp) (k : D → Rho → Prop) (l : Option Int) (ρ : Rho) : Prop := hi (kS3 x l k) ρ
def kS1 (lo hi : DP) (k : D → Rho → Prop) (x : DOp) (ρ : Rho) : Prop := lo (kS2 hi x k) ρ
def dSl (a : DO) (lo hi : DP) (k : D → Rho → Prop) (ρ : Rho) : Prop := a (kS1 lo hi k) ρ
theorem se_slice {lo hi : Option Expr} {w : DO} {wl wh : DP} (h : SO X e w) (hl : SP' X lo wl) (hu : SP' X hi wh) : SE X (.Subscript e (.Slice lo hi none p2) pos) (dSl w wl wh) := by
  obtain ⟨t, pe, f⟩ := h
  obtain ⟨tl, pl, fl⟩ := hl
  obtain ⟨tu, pu, fu⟩ := hu
  refine ⟨_, pe_slice (sl_tupA.or (sl_list.or sl_str)) pe pl pu, fun σ H ρ O k R s hw q => ?_⟩
  refine f σ H ρ O _ _ s hw fun x H1 ρ1 O1 ox a1 c1 h1 => ?_
  refine fl σ H1 ρ1 O1 _ _ a1.sr h1 fun l H2 ρ2 O2 a2 h2 => ?_
  refine fu σ H2 ρ2 O2 _ _ a2.sr h2 fun u H3 ρ3 O3 a3 h3 => ?_
  obtain ⟨d, ed, h3⟩ := h3.ex
  have a23 := a2.trans a3
  have a13 := a1.trans a23
  refine sl_ok (X := X) a3.sr.own ((c1.then s a1 a23).val a3.sr ed) h3 fun v H' O' d e own vo hk => ?_
  exact q v H' ρ3 O' d (a13.trans (a3.sr.ext0 e own)) (vo.back a13.back) hk
end
end Bx
namespace Bx
open PySem L2

/-! ### from one state to a later one -/
structure Stp (K : PySem.W.Frag) (ios : List Nat) (ρ : Rho) (σ : St) (H : Hp) (O : Addr → Prop) (ρ' : Rho) (σ' : St) (H' : Hp) (O' : Addr → Prop) : Prop where
  sr : Sr K ρ' σ' H' O'
  keep : ∀ a u, H a = some u → ¬ Sl ρ σ a → H' a = some u ∧ (O' a ↔ O a) ∧ ¬ Sl ρ' σ' a
  dom : ∀ a u, H a = some u → ∃ u', H' a = some u'
  io : ∀ i ∈ ios, σ'[i]? = σ[i]?
section
variable {K : PySem.W.Frag} {ios : List Nat} {ρ ρ1 ρ' : Rho} {σ σ1 σ' : St} {H H1 H' : Hp} {O O1 O' : Addr → Prop}
theorem Stp.refl (s : Sr K ρ σ H O) : Stp K ios ρ σ H O ρ σ H O := ⟨s, fun _ _ h n => ⟨h, Iff.rfl, n⟩, fun _ u h => ⟨u, h⟩, fun _ _ => rfl⟩
theorem Stp.trans (a : Stp K ios ρ σ H O ρ1 σ1 H1 O1) (b : Stp K ios ρ1 σ1 H1 O1 ρ' σ' H' O') : Stp K ios ρ σ H O ρ' σ' H' O' :=
  ⟨b.sr, fun x u h n => by
    obtain ⟨h1, o1, n1⟩ := a.keep x u h n
    obtain ⟨h2, o2, n2⟩ := b.keep x u h1 n1
    exact ⟨h2, o2.trans o1, n2⟩, fun x u h => by
    obtain ⟨u1, h1⟩ := a.dom x u h
    exact b.dom x u1 h1, fun i hi => (b.io i hi).trans (a.io i hi)⟩
theorem After.stp (a : After K ρ σ H O ρ' H' O') : Stp K ios ρ σ H O ρ' σ H' O' :=
  ⟨a.sr, fun x u h n => ⟨(a.ext.keep x u h n).1, (a.ext.keep x u h n).2, fun z => n (a.sub x z)⟩, a.ext.dom, fun _ _ => rfl⟩
theorem Stp.ext (a : Stp K ios ρ σ H O ρ' σ' H' O') : Ext (Sl ρ σ) H O H' O' := ⟨fun x u h n => ⟨(a.keep x u h n).1, (a.keep x u h n).2.1⟩, a.dom⟩
theorem Stp.free (a : Stp K ios ρ σ H O ρ' σ' H' O') {x : Addr} (h : H' x = none) : H x = none := a.ext.free h

/-! ### a slot is stored -/
theorem get_set {i j : Nat} {v : Option V} {x : Option V} (h : (σ.set i v)[j]? = some x) : (j = i ∧ x = v ∧ i < σ.length) ∨ (j ≠ i ∧ σ[j]? = some x) := by
  by_cases e : j = i
  · subst e
    by_cases l : j < σ.length
    · rw [List.getElem?_set_self l] at h
      exact .inl ⟨rfl, (Option.some.inj h).symm, l⟩
    · rw [List.getElem?_eq_none (by simpa using l)] at h
      cases h
  · rw [List.getElem?_set_ne (Ne.symm e)] at h
    exact .inr ⟨e, h⟩
theorem Sr.store {i : Nat} {v : V} {d : D} (s : Sr K ρ σ H O) (q : Val K H O v d) (n : d.own = true → ∀ a, v = .ref a → ¬ Sl ρ σ a) : Sr K (rset ρ i (some d)) (σ.set i (some v)) H O := by
  have len := s.len
  refine ⟨by rw [rset_len, List.length_set, len], fun j d' h => ?_, fun j k xs ys a h1 o1 h2 o2 h3 h4 => ?_, s.own⟩
  · rcases get_rset h with ⟨rfl, e, l⟩ | ⟨nj, h⟩
    · cases e
      exact ⟨v, by rw [List.getElem?_set_self (by omega)], q⟩
    · obtain ⟨u, g1, g2⟩ := s.slot j d' h
      exact ⟨u, by rw [List.getElem?_set_ne (Ne.symm nj)]; exact g1, g2⟩
  · rcases get_rset h1 with ⟨ej, e1, l1⟩ | ⟨nj, g1⟩
    · rcases get_rset h2 with ⟨ek, e2, l2⟩ | ⟨nk, g2⟩
      · rw [ej, ek]
      · rw [List.getElem?_set_ne (Ne.symm nk)] at h4
        rw [ej, List.getElem?_set_self (by omega)] at h3
        cases h3
        cases e1
        exact absurd ⟨k, ys, g2, o2, h4⟩ (n o1 a rfl)
    · rw [List.getElem?_set_ne (Ne.symm nj)] at h3
      rcases get_rset h2 with ⟨ek, e2, l2⟩ | ⟨nk, g2⟩
      · rw [ek, List.getElem?_set_self (by omega)] at h4
        cases h4
        cases e2
        exact absurd ⟨j, xs, g1, o1, h3⟩ (n o2 a rfl)
      · rw [List.getElem?_set_ne (Ne.symm nk)] at h4
        exact s.uniq j k xs ys a g1 o1 g2 o2 h3 h4
theorem sl_store {i : Nat} {v : V} {d : D} {a : Addr} (h : Sl (rset ρ i (some d)) (σ.set i (some v)) a) (len : ρ.length = σ.length) : Sl ρ σ a ∨ (d.own = true ∧ v = .ref a) := by
  obtain ⟨j, xs, h1, ho, h2⟩ := h
  rcases get_rset h1 with ⟨ej, e, l⟩ | ⟨nj, h1⟩
  · subst ej
    rw [List.getElem?_set_self (by omega)] at h2
    cases h2; cases e
    exact .inr ⟨ho, rfl⟩
  · rw [List.getElem?_set_ne (Ne.symm nj)] at h2
    exact .inl ⟨j, xs, h1, ho, h2⟩
end

/-! ### targets: names, and tuples of targets -/
abbrev DG := D → (Rho → Prop) → Rho → Prop
abbrev DGs := List D → (Rho → Prop) → Rho → Prop
def SG (X : Cx) (ws : List Nat) (tg : Expr) (w : DG) : Prop :=
  ∃ g, PG X tg g ∧ ∀ (v : V) (d : D) (σ : St) (H : Hp) (ρ : Rho) (O : Addr → Prop) (k : Rho → Prop) (Q : St → Hp → Prop), Sr X.K ρ σ H O → Val X.K H O v d → (d.own = true → ∀ a, v = .ref a → ¬ Sl ρ σ a) → w d k ρ →
    (∀ ρ' σ', Sr X.K ρ' σ' H O → (∀ a, Sl ρ' σ' a → Sl ρ σ a ∨ (d.own = true ∧ v = .ref a)) → (∀ i, i ∉ ws → σ'[i]? = σ[i]?) → σ'.length = σ.length → k ρ' → Q σ' H) → g v σ H Q
def SGs (X : Cx) (ws : List Nat) (tgs : List Expr) (w : DGs) : Prop :=
  ∃ g, PGs X tgs g ∧ ∀ (vs : List V) (ds : List D) (σ : St) (H : Hp) (ρ : Rho) (O : Addr → Prop) (k : Rho → Prop) (Q : St → Hp → Prop), Sr X.K ρ σ H O → Reps X.K H O vs ds → w ds k ρ →
    (∀ ρ' σ', Sr X.K ρ' σ' H O → (∀ a, Sl ρ' σ' a → Sl ρ σ a) → (∀ i, i ∉ ws → σ'[i]? = σ[i]?) → σ'.length = σ.length → k ρ' → Q σ' H) → g vs σ H Q
section
variable {X : Cx} {pos : Pos}
def gN (i : Nat) (d : D) (k : Rho → Prop) (ρ : Rho) : Prop := k (rset ρ i (some d))
theorem sg_name {i : Nat} {x : Str} (hN : X.N.Nodup) (hi : X.N[i]? = some x) (hx : Loc X.env.scope x) (hf : X.fn x = true ∨ X.env.scope.names.lookup x = some .local := by first | exact .inl rfl | exact .inr rfl | assumption) : SG X [i] (.Name x pos) (gN i) := by
  refine ⟨_, pg_name hN hi hx hf, fun v d σ H ρ O k Q s vo n hw q => ?_⟩
  refine q _ _ (s.store vo n) (fun a z => sl_store z s.len) (fun j hj => ?_) (List.length_set ..) hw
  rw [List.getElem?_set_ne]
  intro e
  exact hj (by simp [e])
def gsNil (ds : List D) (k : Rho → Prop) (ρ : Rho) : Prop := match ds with
  | [] => k ρ
  | _ => False
def kGs (w : DGs) (r : List D) (k : Rho → Prop) (ρ : Rho) : Prop := w r k ρ
def gsCons (g : DG) (w : DGs) (ds : List D) (k : Rho → Prop) (ρ : Rho) : Prop := match ds with
  | d :: r => g d (kGs w r k) ρ
  | [] => False
theorem sgs_nil : SGs X [] [] gsNil := by
  refine ⟨_, pgs_nil, fun vs ds σ H ρ O k Q s r hw q => ?_⟩
  cases ds with
  | nil => cases r; exact ⟨rfl, q ρ σ s (fun _ z => z) (fun _ _ => rfl) rfl hw⟩
  | cons _ _ => exact hw.elim
theorem sgs_cons {e : Expr} {es : List Expr} {g : DG} {w : DGs} {ws us : List Nat} (h : SG X ws e g) (t : SGs X us es w)
    (hs : (assignEach (e :: es) X.env).map (·.2) = assign e X.env :: (assignEach es X.env).map (·.2) := by rfl) : SGs X (ws ++ us) (e :: es) (gsCons g w) := by
  obtain ⟨g1, p1, f1⟩ := h
  obtain ⟨g2, p2, f2⟩ := t
  refine ⟨_, pgs_cons p1 p2 hs, fun vs ds σ H ρ O k Q s r hw q => ?_⟩
  cases r with
  | nil => exact hw.elim
  | @cons v vs d ds r1 r2 =>
    have nown : d.own = true → ∀ a, v = .ref a → ¬ Sl ρ σ a := fun e => by cases r1 <;> cases e
    refine ⟨v, vs, rfl, f1 v d σ H ρ O _ _ s (.rep r1) nown hw fun ρ' σ' s' sl' ot' ln' hk => ?_⟩
    refine f2 vs ds σ' H ρ' O _ _ s' r2 hk fun ρ2 σ2 s2 sl2 ot2 ln2 hk2 => ?_
    refine q ρ2 σ2 s2 (fun a z => ?_) (fun i hi => ?_) (ln2.trans ln') hk2
    · rcases sl' a (sl2 a z) with z | ⟨z, _⟩
      · exact z
      · cases r1 <;> cases z
    · rw [ot2 i fun z => hi (List.mem_append_right _ z), ot' i fun z => hi (List.mem_append_left _ z)]
def gT (w : DGs) (n : Nat) (d : D) (k : Rho → Prop) (ρ : Rho) : Prop := match d with
  | .tup ds => ds.length = n ∧ w ds k ρ
  | _ => False
theorem sg_tup {es : List Expr} {kk n : Nat} {w : DGs} {ws : List Nat} (hc : X.calm = true) (h : SGs X ws es w) (hn : (assignEach es X.env).length = n := by rfl) (hst : (assignEach es X.env).findIdx? (·.1) = none := by rfl) : SG X ws (.Tuple es kk pos) (gT w n) := by
  obtain ⟨g, p, f⟩ := h
  refine ⟨_, pg_tup hc p hn hst, fun v d σ H ρ O k Q s vo nn hw q => ?_⟩
  cases d <;> try exact False.elim hw
  obtain ⟨a, vs, rfl, h1, r⟩ := vo.tup
  have hw : _ ∧ _ := hw
  refine ⟨a, vs, rfl, h1, by rw [r.length]; exact hw.1, ?_⟩
  exact f vs _ σ H ρ O _ _ s r hw.2 fun ρ' σ' s' sl' ot' ln' hk => q ρ' σ' s' (fun a z => .inl (sl' a z)) ot' ln' hk
end

/-! ### what is walked -/
/-- the items, whatever happens meanwhile -/
def Items (K : PySem.W.Frag) (J : It) (H : Hp) (O S : Addr → Prop) (items : List D) : Prop :=
  ∀ (H1 : Hp) (O1 : Addr → Prop), Own H1 O1 → Ext S H O H1 O1 → ∀ i : Nat,
    (∀ d, items[i]? = some d → J.go i H1 ∧ ∀ x H2, J.yld i H1 x H2 → Ext no H1 O1 H2 O1 ∧ Own H2 O1 ∧ Rep K H2 O1 x d) ∧ (items.length ≤ i → J.stop i H1)
abbrev DI := (List D → Rho → Prop) → Rho → Prop
def SI (X : Cx) (tg iter : Expr) (w : DI) : Prop :=
  ∃ wi, PI X tg iter wi ∧ ∀ (σ : St) (H : Hp) (ρ : Rho) (O : Addr → Prop) (k : List D → Rho → Prop) (R : It → Hp → Prop), Sr X.K ρ σ H O → w k ρ →
    (∀ J H' ρ' O' items, After X.K ρ σ H O ρ' H' O' → Items X.K J H' O' (Sl ρ' σ) items → k items ρ' → R J H') → wi σ H R
section
variable {K : PySem.W.Frag} {H H1 : Hp} {O O1 S : Addr → Prop} {a : Addr} {vs : List V} {ds : List D}
/-- a list, a tuple that stays -/
theorem items_L (hS : Lsts H O S) (hs : ∀ H1 O1, Ext S H O H1 O1 → SqL K H1 a vs) (r : Reps K H O vs ds) : Items K (Itl K a) H O S ds := by
  intro H1 O1 own e i
  have q := hs H1 O1 e
  have r1 := r.ext e hS
  refine ⟨fun d hd => ?_, fun hl => ⟨vs, q, by rw [r.length]; exact hl⟩⟩
  obtain ⟨v, hv, rv⟩ := r1.get hd
  refine ⟨⟨vs, v, q, hv⟩, fun x H2 ⟨e2, hx⟩ => ?_⟩
  subst e2
  have ev := hx vs q
  rw [hv] at ev
  cases ev
  exact ⟨.refl, own, rv⟩
theorem items_T (hS : Lsts H O S) (h : SqT K H a vs) (r : Reps K H O vs ds) : Items K (Itt K a) H O S ds := by
  intro H1 O1 own e i
  have q := sqT_ext e hS h
  have r1 := r.ext e hS
  refine ⟨fun d hd => ?_, fun hl => ⟨vs, q, by rw [r.length]; exact hl⟩⟩
  obtain ⟨v, hv, rv⟩ := r1.get hd
  refine ⟨⟨vs, v, q, hv⟩, fun x H2 ⟨e2, hx⟩ => ?_⟩
  subst e2
  have ev := hx vs q
  rw [hv] at ev
  cases ev
  exact ⟨.refl, own, rv⟩
end
section
variable {X : Cx} {tg e e2 : Expr} {pos p : Pos}
/-- a sequence, a text -/
def iAny (K : PySem.W.Frag) (te : TE) : TI := fun σ H R => te σ H fun x H1 => (∃ a, x = .ref a ∧ (((∃ xs, SqL K H1 a xs) ∧ R (Itl K a) H1) ∨ ((∃ xs, SqT K H1 a xs) ∧ R (Itt K a) H1))) ∨ ∃ z, x = .str z ∧ R (Its z) H1
theorem pi_any {te : TE} (he : PE X e te) : PI X tg e (iAny X.K te) := by
  refine ⟨fun pins s σ H R I h => ?_⟩
  refine thn (he.run pins s σ H _ I h) fun v s1 ⟨x, H1, I1, r1, q1⟩ => ?_
  rcases q1 with ⟨a, rfl, ⟨⟨xs, hq⟩, q⟩ | ⟨⟨xs, hq⟩, q⟩⟩ | ⟨z, rfl, q⟩
  · cases r1
    obtain ⟨its, rv, p, hz⟩ := I1.list hq
    refine wpAny_pyIter_list p.isList ?_
    refine ⟨s1.heap.objs.size, [s1.heap.objs.size], _, _, H1, rfl, I1.kept (t' := s1.toks) fun b o e => Heap.get?_push_of_some _ e, turn_list a _, ⟨_, Heap.get?_push_size _ rfl, rfl, rfl⟩, fun b hb => ?_, q⟩
    have e : b = s1.heap.objs.size := by simpa using hb
    subst e
    exact I1.fpOk (Nat.le_refl _) (I1.hok.fresh (Nat.le_refl _))
  · cases r1
    obtain ⟨its, rv, p, hz⟩ := I1.tuple hq
    refine wpAny_pyIter_tuple (show s1.heap.IsTuple a its.toArray from p) ?_
    refine ⟨s1.heap.objs.size, [s1.heap.objs.size], _, _, H1, rfl, I1.kept (t' := s1.toks) fun b o e => Heap.get?_push_of_some _ e, turn_tuple a _, ⟨_, Heap.get?_push_size _ rfl, rfl, rfl⟩, fun b hb => ?_, q⟩
    have e : b = s1.heap.objs.size := by simpa using hb
    subst e
    exact I1.fpOk (Nat.le_refl _) (I1.hok.fresh (Nat.le_refl _))
  · obtain ⟨t, rfl⟩ := r1
    cases ha : z.cps.all (· < 128)
    · exact wpAny_pyIter_wide ha (pi_one (tk := s1.toks) I1 _ (turn_str _ z t "str_iterator" (.inr rfl)) ⟨_, Heap.get?_push_size _ rfl, rfl, rfl⟩ q)
    · exact wpAny_pyIter_ascii ha (pi_one (tk := s1.toks) I1 _ (turn_str _ z t "str_ascii_iterator" (.inl rfl)) ⟨_, Heap.get?_push_size _ rfl, rfl, rfl⟩ q)
theorem items_S {K : PySem.W.Frag} {H : Hp} {O S : Addr → Prop} {z : Str} : Items K (Its z) H O S (z.cps.toList.map fun c => D.str ⟨#[c]⟩) := by
  intro H1 O1 own e i
  refine ⟨fun d hd => ?_, fun hl => ?_⟩
  · rw [List.getElem?_map] at hd
    cases hc : z.cps.toList[i]? with
    | none => rw [hc] at hd; cases hd
    | some c =>
      rw [hc] at hd
      cases hd
      have hc' : z.cps[i]? = some c := by rw [← Array.getElem?_toList]; exact hc
      refine ⟨?_, fun x H2 ⟨e2, c2, h2, ex⟩ => ?_⟩
      · have := (List.getElem?_eq_some_iff.mp hc).1
        show i < z.cps.size
        simpa using this
      · subst e2 ex
        rw [hc'] at h2
        cases h2
        exact ⟨.refl, own, .str _⟩
  · show z.cps.size ≤ i
    simpa using hl
def kIt (k : List D → Rho → Prop) (d : D) (ρ : Rho) : Prop := match d with
  | .tup xs => k xs ρ
  | .lst _ xs => k xs ρ
  | .scr xs => k xs ρ
  | .str z => k (z.cps.toList.map fun c => D.str ⟨#[c]⟩) ρ
  | _ => False
def iOf (w : DE) (k : List D → Rho → Prop) (ρ : Rho) : Prop := w (kIt k) ρ
theorem si_of {w : DE} (h : SE X e w) : SI X tg e (iOf w) := by
  obtain ⟨t, p, f⟩ := h
  refine ⟨_, pi_any p, fun σ H ρ O k R s hw q => ?_⟩
  refine f σ H ρ O _ _ s hw fun v H1 ρ1 O1 d a vo hk => ?_
  have L := a.sr.lsts
  cases d <;> try exact False.elim hk
  · rw [vo.val.str]
    exact .inr ⟨_, rfl, q _ H1 ρ1 O1 _ a items_S hk⟩
  · obtain ⟨b, vs, rfl, h1, r⟩ := vo.val.tup
    exact .inl ⟨b, rfl, .inr ⟨⟨vs, h1⟩, q _ H1 ρ1 O1 _ a (items_T L h1 r) hk⟩⟩
  · rename_i o ds
    cases vo.val with
    | @own b u ds oo h r =>
      obtain ⟨vs, rfl, r'⟩ := r.lst_of'
      have ns : ¬ Sl ρ1 σ b := a.nsl s (vo.new b r.o rfl)
      have r := r'
      exact .inl ⟨b, rfl, .inl ⟨⟨vs, .of h⟩, q _ H1 ρ1 O1 _ a (items_L L (fun H2 O2 e => .of (e.keep b _ h ns).1) r) hk⟩⟩
    | rep r =>
      cases r with
      | @lst b vs ds h n r => exact .inl ⟨b, rfl, .inl ⟨⟨vs, .of h⟩, q _ H1 ρ1 O1 _ a (items_L L (fun H2 O2 e => .of (rd_ext e L h n).1) r) hk⟩⟩
  · cases vo.val with
    | rep r =>
      cases r with
      | @scr b vs ds h r => exact .inl ⟨b, rfl, .inl ⟨⟨vs, h.sqL⟩, q _ H1 ρ1 O1 _ a (items_L L (fun H2 O2 e => (scr_ext e L h).sqL) r) hk⟩⟩
    | own _ _ r => cases r
/-! ### range -/
def rangeD (lo : Int) (n : Nat) : List D := (List.range n).map fun i => D.int (lo + (i : Nat))
theorem items_R {K : PySem.W.Frag} {H : Hp} {O S : Addr → Prop} {lo : Int} {n : Nat} : Items K (Itr lo n) H O S (rangeD lo n) := by
  intro H1 O1 own e i
  refine ⟨fun d hd => ?_, fun hl => by
    show n ≤ i
    unfold rangeD at hl; simpa using hl⟩
  unfold rangeD at hd
  rw [List.getElem?_map] at hd
  cases hc : (List.range n)[i]? with
  | none => rw [hc] at hd; cases hd
  | some c =>
    rw [hc] at hd
    cases hd
    obtain ⟨h1, h2⟩ := List.getElem?_eq_some_iff.mp hc
    rw [List.getElem_range] at h2
    subst h2
    refine ⟨show i < n by simpa using h1, fun x H2 ⟨e2, ex⟩ => ?_⟩
    subst e2 ex
    exact ⟨.refl, own, .int _⟩
def i62 (j : Int) : Prop := -(2 ^ 62) ≤ j ∧ j < 2 ^ 62
def gR1 (ds : List D) (k : List D → Prop) : Prop := match ds with
  | [.int j] => i62 j ∧ k (rangeD 0 j.toNat)
  | _ => False
def gR2 (ds : List D) (k : List D → Prop) : Prop := match ds with
  | [.int i, .int j] => (i62 i ∧ i62 j) ∧ k (rangeD i (j - i).toNat)
  | _ => False
def kVs (k : List D → Rho → Prop) (ρ : Rho) (d : List D) : Prop := k d ρ
def kR (g : List D → (List D → Prop) → Prop) (k : List D → Rho → Prop) (os : List DOp) (ρ : Rho) : Prop := onSome (rdAll ρ os) fun ds => g ds (kVs k ρ)
def iR (g : List D → (List D → Prop) → Prop) (w : DA) (k : List D → Rho → Prop) (ρ : Rho) : Prop := w (kR g k) ρ
theorem si_range1 {a : Expr} {w : DA} (hg : Gl X "range") (hm : X.mg "range" = none) (h : SA X [a] w) (hs : starEach [a] X.env = [(false, eval a X.env)] := by rfl) : SI X tg (.Call (.Name "range" p) [a] [] pos) (iR gR1 w) := by
  obtain ⟨t, pt, f⟩ := h
  refine ⟨_, pi_range1 hg hm pt hs, fun σ H ρ O k R s hw q => ?_⟩
  refine f σ H ρ O _ _ s hw fun vs H1 ρ1 O1 os a c _ hk => ?_
  obtain ⟨ds, e, hk⟩ := hk.ex
  have v := c.vals a.sr e
  unfold gR1 at hk
  split at hk
  · obtain ⟨u, rfl, h⟩ := v.one
    exact ⟨_, by rw [h.int], hk.1.1, hk.1.2, q _ H1 ρ1 O1 _ a items_R hk.2⟩
  · exact hk.elim
theorem si_range2 {a b : Expr} {w : DA} (hg : Gl X "range") (hm : X.mg "range" = none) (h : SA X [a, b] w) (hs : starEach [a, b] X.env = [(false, eval a X.env), (false, eval b X.env)] := by rfl) (hs2 : starEach [b] X.env = [(false, eval b X.env)] := by rfl) :
    SI X tg (.Call (.Name "range" p) [a, b] [] pos) (iR gR2 w) := by
  obtain ⟨t, pt, f⟩ := h
  refine ⟨_, pi_range2 hg hm pt hs hs2, fun σ H ρ O k R s hw q => ?_⟩
  refine f σ H ρ O _ _ s hw fun vs H1 ρ1 O1 os a c _ hk => ?_
  obtain ⟨ds, e, hk⟩ := hk.ex
  have v := c.vals a.sr e
  unfold gR2 at hk
  split at hk
  · obtain ⟨u, u', rfl, h, h'⟩ := v.two
    exact ⟨_, _, by rw [h.int, h'.int], ⟨hk.1.1.1, hk.1.1.2, hk.1.2.1, hk.1.2.2⟩, q _ H1 ρ1 O1 _ a items_R hk.2⟩
  · exact hk.elim
/-! ### zip -/
def zipD : List D → List D → List D
  | x :: xs, y :: ys => .tup [x, y] :: zipD xs ys
  | _, _ => []
theorem zipD_get : ∀ {xs ys : List D} {i : Nat} {d : D}, (zipD xs ys)[i]? = some d → ∃ x y, d = .tup [x, y] ∧ xs[i]? = some x ∧ ys[i]? = some y
  | [], _, _, _, h => by simp [zipD] at h
  | _ :: _, [], _, _, h => by simp [zipD] at h
  | x :: xs, y :: ys, 0, d, h => by simp [zipD] at h; exact ⟨x, y, h.symm, rfl, rfl⟩
  | x :: xs, y :: ys, i + 1, d, h => by
    have h : (zipD xs ys)[i]? = some d := by simpa [zipD] using h
    obtain ⟨x', y', e, h1, h2⟩ := zipD_get h
    exact ⟨x', y', e, by simpa using h1, by simpa using h2⟩
theorem zipD_len : ∀ {xs ys : List D} {i : Nat}, (zipD xs ys).length ≤ i → xs.length ≤ i ∨ ys.length ≤ i
  | [], _, _, _ => .inl (Nat.zero_le _)
  | _ :: _, [], _, _ => .inr (Nat.zero_le _)
  | x :: xs, y :: ys, i, h => by
    have h : (zipD xs ys).length + 1 ≤ i := h
    cases i with
    | zero => omega
    | succ i =>
      rcases zipD_len (xs := xs) (ys := ys) (i := i) (by omega) with z | z
      · exact .inl (Nat.succ_le_succ z)
      · exact .inr (Nat.succ_le_succ z)
theorem items_Z {K : PySem.W.Frag} {H : Hp} {O S : Addr → Prop} {a b : Addr} {vs ws : List V} {xs ys : List D} (hS : Lsts H O S) (h1 : ∀ H1 O1, Ext S H O H1 O1 → SqL K H1 a vs) (h2 : ∀ H1 O1, Ext S H O H1 O1 → SqL K H1 b ws) (r1 : Reps K H O vs xs) (r2 : Reps K H O ws ys) : Items K (Itz K a b) H O S (zipD xs ys) := by
  intro H1 O1 own e i
  have q1 := h1 H1 O1 e
  have q2 := h2 H1 O1 e
  have s1 := r1.ext e hS
  have s2 := r2.ext e hS
  refine ⟨fun d hd => ?_, fun hl => ⟨vs, ws, q1, q2, by rw [r1.length, r2.length]; exact zipD_len hl⟩⟩
  obtain ⟨x, y, rfl, hx, hy⟩ := zipD_get hd
  obtain ⟨v, hv, rv⟩ := s1.get hx
  obtain ⟨w, hw, rw'⟩ := s2.get hy
  refine ⟨⟨vs, ws, v, w, q1, q2, hv, hw⟩, fun z H2 ⟨T, v', w', ez, hT, eh, g1, g2⟩ => ?_⟩
  subst ez eh
  have e1 := g1 vs q1
  have e2 := g2 ws q2
  rw [hv] at e1; cases e1
  rw [hw] at e2; cases e2
  exact ⟨ext_new hT, own_new own hT, .tup (.of upd_same) (Reps.fresh hT (.cons rv (.cons rw' .nil)))⟩
theorem items_ZT {K : PySem.W.Frag} {H : Hp} {O S : Addr → Prop} {a b : Addr} {vs ws : List V} {xs ys : List D} (hS : Lsts H O S) (h1 : SqT K H a vs) (h2 : SqT K H b ws) (r1 : Reps K H O vs xs) (r2 : Reps K H O ws ys) : Items K (RZ.ItzT K a b) H O S (zipD xs ys) := by
  intro H1 O1 own e i
  have q1 := sqT_ext e hS h1
  have q2 := sqT_ext e hS h2
  have s1 := r1.ext e hS
  have s2 := r2.ext e hS
  refine ⟨fun d hd => ?_, fun hl => ⟨vs, ws, q1, q2, by rw [r1.length, r2.length]; exact zipD_len hl⟩⟩
  obtain ⟨x, y, rfl, hx, hy⟩ := zipD_get hd
  obtain ⟨v, hv, rv⟩ := s1.get hx
  obtain ⟨w, hw, rw'⟩ := s2.get hy
  refine ⟨⟨vs, ws, v, w, q1, q2, hv, hw⟩, fun z H2 ⟨T, v', w', ez, hT, eh, g1, g2⟩ => ?_⟩
  subst ez eh
  have e1 := g1 vs q1
  have e2 := g2 ws q2
  rw [hv] at e1; cases e1
  rw [hw] at e2; cases e2
  exact ⟨ext_new hT, own_new own hT, .tup (.of upd_same) (Reps.fresh hT (.cons rv (.cons rw' .nil)))⟩
theorem Reps.two {K : PySem.W.Frag} {H : Hp} {O : Addr → Prop} {vs : List V} {d e : D} (h : Reps K H O vs [d, e]) : ∃ v w, vs = [v, w] ∧ Rep K H O v d ∧ Rep K H O w e := by
  cases h with | cons h t => cases t with | cons h' t => cases t; exact ⟨_, _, rfl, h, h'⟩
theorem Reps.one {K : PySem.W.Frag} {H : Hp} {O : Addr → Prop} {vs : List V} {d : D} (h : Reps K H O vs [d]) : ∃ v, vs = [v] ∧ Rep K H O v d := by
  cases h with | cons h t => cases t; exact ⟨_, rfl, h⟩
/-- what a frozen list stays -/
theorem Rep.sqL {K : PySem.W.Frag} {H : Hp} {O S : Addr → Prop} {v : V} {d : D} {xs : List D} (hS : Lsts H O S) (r : Rep K H O v d) (e : d.sql = some xs) : ∃ a vs, v = .ref a ∧ (∀ H1 O1, Ext S H O H1 O1 → SqL K H1 a vs) ∧ Reps K H O vs xs := by
  cases r with
  | lst h n r => cases e; exact ⟨_, _, rfl, fun H1 O1 e => .of (rd_ext e hS h n).1, r⟩
  | scr h r => cases e; exact ⟨_, _, rfl, fun H1 O1 e => (scr_ext e hS h).sqL, r⟩
  | _ => cases e
def gZ (ds : List D) (k : List D → Prop) : Prop := match ds with
  | [.tup xs, .tup ys] => k (zipD xs ys)
  | [.lst _ xs, .lst _ ys] => k (zipD xs ys)
  | [.scr xs, .lst _ ys] => k (zipD xs ys)
  | [.lst _ xs, .scr ys] => k (zipD xs ys)
  | _ => False
def kZ (k : List D → Rho → Prop) (ds : List D) (ρ : Rho) : Prop := gZ ds (kVs k ρ)
def iZ (w : DA) (k : List D → Rho → Prop) (ρ : Rho) : Prop := w (kTake (kZ k)) ρ
theorem si_zip {elts : List Expr} {kk : Nat} {tpos : Pos} {w : DA} (hg : Gl X "zip") (hm : X.mg "zip" = none) (h : SA X [e, e2] w)
    (hs : starEach [e, e2] X.env = (false, eval e X.env) :: starEach [e2] X.env := by rfl) (hpl : (backTo pos (starEach [e2] X.env)).any (·.1) = false := by rfl) :
    SI X (.Tuple elts kk tpos) (.Call (.Name "zip" p) [e, e2] [] pos) (iZ w) := by
  obtain ⟨t, pt, f⟩ := h
  refine ⟨_, RZ.pi_zipA hg hm pt hs hpl, fun σ H ρ O k R s hw q => ?_⟩
  refine f σ H ρ O _ _ s hw fun vs H1 ρ1 O1 os a c _ hk => ?_
  obtain ⟨ds, ρ2, O2, l, a2, r, hk⟩ := take_ok s c (fun _ z => z) a hk
  have L := a2.sr.lsts
  have lists : ∀ {d e : D} {xs ys : List D}, ds = [d, e] → d.sql = some xs → e.sql = some ys → k (zipD xs ys) ρ2 → RZ.iZipA X.K (fun _ _ Q => Q vs H1) σ H1 R := fun {d e xs ys} e0 e1 e2 hq => by
    subst e0
    obtain ⟨u, u', rfl, h1, h2⟩ := r.two
    obtain ⟨b, bs, rfl, p1, s1⟩ := h1.sqL L e1
    obtain ⟨b', bs', rfl, p2, s2⟩ := h2.sqL L e2
    exact ⟨b, b', bs, bs', rfl, .inl ⟨p1 _ _ .refl, p2 _ _ .refl, q _ H1 ρ2 O2 _ a2 (items_Z L p1 p2 s1 s2) hq⟩⟩
  have hk : gZ ds (kVs k ρ2) := hk
  unfold gZ at hk
  split at hk
  · obtain ⟨u, u', rfl, h1, h2⟩ := r.two
    cases h1 with
    | tup g1 s1 =>
      cases h2 with
      | tup g2 s2 => exact ⟨_, _, _, _, rfl, .inr ⟨g1, g2, q _ H1 ρ2 O2 _ a2 (items_ZT L g1 g2 s1 s2) hk⟩⟩
  · exact lists rfl rfl rfl hk
  · exact lists rfl rfl rfl hk
  · exact lists rfl rfl rfl hk
  · exact hk.elim
/-! ### enumerate -/
def enumD (n : Nat) : List D → List D
  | [] => []
  | x :: r => .tup [.int (n : Nat), x] :: enumD (n + 1) r
theorem enumD_get : ∀ {n : Nat} {xs : List D} {i : Nat} {d : D}, (enumD n xs)[i]? = some d → ∃ x, d = .tup [.int ((n + i : Nat) : Int), x] ∧ xs[i]? = some x
  | _, [], _, _, h => by simp [enumD] at h
  | n, x :: xs, 0, d, h => by simp [enumD] at h; exact ⟨x, h.symm, rfl⟩
  | n, x :: xs, i + 1, d, h => by
    have h : (enumD (n + 1) xs)[i]? = some d := by simpa [enumD] using h
    obtain ⟨x', e, h1⟩ := enumD_get h
    exact ⟨x', by rw [e, show n + 1 + i = n + (i + 1) by omega], by simpa using h1⟩
theorem enumD_len : ∀ {n : Nat} {xs : List D}, (enumD n xs).length = xs.length
  | _, [] => rfl
  | n, x :: xs => by
    show (enumD (n + 1) xs).length + 1 = xs.length + 1
    rw [enumD_len]
theorem items_E {K : PySem.W.Frag} {H : Hp} {O S : Addr → Prop} {a : Addr} {vs : List V} {xs : List D} (hS : Lsts H O S) (h1 : ∀ H1 O1, Ext S H O H1 O1 → SqL K H1 a vs) (r1 : Reps K H O vs xs) : Items K (Ite K a) H O S (enumD 0 xs) := by
  intro H1 O1 own e i
  have q1 := h1 H1 O1 e
  have s1 := r1.ext e hS
  refine ⟨fun d hd => ?_, fun hl => ⟨vs, q1, by rw [r1.length]; rw [enumD_len] at hl; exact hl⟩⟩
  obtain ⟨x, rfl, hx⟩ := enumD_get hd
  obtain ⟨v, hv, rv⟩ := s1.get hx
  refine ⟨⟨vs, v, q1, hv⟩, fun z H2 ⟨T, v', ez, hT, eh, g1⟩ => ?_⟩
  subst ez eh
  have e1 := g1 vs q1
  rw [hv] at e1; cases e1
  rw [Nat.zero_add]
  exact ⟨ext_new hT, own_new own hT, .tup (.of upd_same) (Reps.fresh hT (.cons (.int _) (.cons rv .nil)))⟩
def gE (ds : List D) (k : List D → Prop) : Prop := match ds with
  | [.lst _ xs] => k (enumD 0 xs)
  | [.scr xs] => k (enumD 0 xs)
  | _ => False
def kE (k : List D → Rho → Prop) (ds : List D) (ρ : Rho) : Prop := gE ds (kVs k ρ)
def iE (w : DA) (k : List D → Rho → Prop) (ρ : Rho) : Prop := w (kTake (kE k)) ρ
theorem si_enum {elts : List Expr} {kk : Nat} {tpos : Pos} {w : DA} (hg : Gl X "enumerate") (hm : X.mg "enumerate" = none) (h : SA X [e] w) (hs : starEach [e] X.env = [(false, eval e X.env)] := by rfl) :
    SI X (.Tuple elts kk tpos) (.Call (.Name "enumerate" p) [e] [] pos) (iE w) := by
  obtain ⟨t, pt, f⟩ := h
  refine ⟨_, pi_enum hg hm pt hs, fun σ H ρ O k R s hw q => ?_⟩
  refine f σ H ρ O _ _ s hw fun vs H1 ρ1 O1 os a c _ hk => ?_
  obtain ⟨ds, ρ2, O2, l, a2, r, hk⟩ := take_ok s c (fun _ z => z) a hk
  have L := a2.sr.lsts
  have hk : gE ds (kVs k ρ2) := hk
  unfold gE at hk
  split at hk
  · obtain ⟨u, rfl, h1⟩ := r.one
    obtain ⟨b, bs, rfl, p1, s1⟩ := h1.sqL L rfl
    exact ⟨b, bs, rfl, p1 _ _ .refl, q _ H1 ρ2 O2 _ a2 (items_E L p1 s1) hk⟩
  · obtain ⟨u, rfl, h1⟩ := r.one
    obtain ⟨b, bs, rfl, p1, s1⟩ := h1.sqL L rfl
    exact ⟨b, bs, rfl, p1 _ _ .refl, q _ H1 ρ2 O2 _ a2 (items_E L p1 s1) hk⟩
  · exact hk.elim
end
end Bx
namespace Bx
open PySem L2

/-! ### statements -/
structure DEnds where
  nx : Rho → Prop
  rt : D → Rho → Prop
  bk : Rho → Prop
  ct : Rho → Prop
abbrev DS := DEnds → Rho → Prop
structure RelE (K : PySem.W.Frag) (ios : List Nat) (ρ0 : Rho) (σ0 : St) (H0 : Hp) (O0 : Addr → Prop) (D : Ends) (E : DEnds) : Prop where
  nx : ∀ ρ σ H O, Stp K ios ρ0 σ0 H0 O0 ρ σ H O → E.nx ρ → D.nx σ H
  bk : ∀ ρ σ H O, Stp K ios ρ0 σ0 H0 O0 ρ σ H O → E.bk ρ → D.bk σ H
  ct : ∀ ρ σ H O, Stp K ios ρ0 σ0 H0 O0 ρ σ H O → E.ct ρ → D.ct σ H
  rt : ∀ ρ σ H O v d, Stp K ios ρ0 σ0 H0 O0 ρ σ H O → Val K H O v d → (d.own = true → ∀ a, v = .ref a → ¬ Sl ρ σ a ∧ ∀ u, H0 a = some u → Sl ρ0 σ0 a) → E.rt d ρ → D.rt v H
theorem RelE.step {K : PySem.W.Frag} {ios : List Nat} {ρ0 ρ1 : Rho} {σ0 σ1 : St} {H0 H1 : Hp} {O0 O1 : Addr → Prop} {D : Ends} {E : DEnds} (r : RelE K ios ρ0 σ0 H0 O0 D E) (s : Stp K ios ρ0 σ0 H0 O0 ρ1 σ1 H1 O1) : RelE K ios ρ1 σ1 H1 O1 D E :=
  ⟨fun ρ σ H O t h => r.nx ρ σ H O (s.trans t) h, fun ρ σ H O t h => r.bk ρ σ H O (s.trans t) h, fun ρ σ H O t h => r.ct ρ σ H O (s.trans t) h, fun ρ σ H O v d t q n h => r.rt ρ σ H O v d (s.trans t) q (fun e a ea => by
    obtain ⟨n1, n2⟩ := n e a ea
    refine ⟨n1, fun u hu => Classical.byContradiction fun c => ?_⟩
    obtain ⟨g1, g2, g3⟩ := s.keep a u hu c
    exact g3 (n2 u g1)) h⟩
def SS (X : Cx) (ios : List Nat) (st : Stmt) (w : DS) : Prop :=
  ∃ t, PS X st t ∧ ∀ (σ : St) (H : Hp) (ρ : Rho) (O : Addr → Prop) (D : Ends) (E : DEnds), Sr X.K ρ σ H O → RelE X.K ios ρ σ H O D E → w E ρ → t D σ H
def SSs (X : Cx) (ios : List Nat) (st : List Stmt) (w : DS) : Prop :=
  ∃ t, PSs X st t ∧ ∀ (σ : St) (H : Hp) (ρ : Rho) (O : Addr → Prop) (D : Ends) (E : DEnds), Sr X.K ρ σ H O → RelE X.K ios ρ σ H O D E → w E ρ → t D σ H
/-- the canonical reading of an expression, for the contexts that share K -/
def tE (K : PySem.W.Frag) (w : DE) : TE := fun σ H R => ∃ ρ O k, Sr K ρ σ H O ∧ w k ρ ∧ ∀ v H' ρ' O' d, After K ρ σ H O ρ' H' O' → VOk K H H' O' v d → k d ρ' → R v H'
def tTt (K : PySem.W.Frag) (w : DT) : TT := fun σ H R => ∃ ρ O k, Sr K ρ σ H O ∧ w k ρ ∧ ∀ b H' ρ' O', After K ρ σ H O ρ' H' O' → k b ρ' → R b H'
def tGg (K : PySem.W.Frag) (ws : List Nat) (w : DG) : TG := fun v σ H Q => ∃ d ρ O k, Sr K ρ σ H O ∧ Val K H O v d ∧ (d.own = true → ∀ a, v = .ref a → ¬ Sl ρ σ a) ∧ w d k ρ ∧
  ∀ ρ' σ', Sr K ρ' σ' H O → (∀ a, Sl ρ' σ' a → Sl ρ σ a ∨ (d.own = true ∧ v = .ref a)) → (∀ i, i ∉ ws → σ'[i]? = σ[i]?) → σ'.length = σ.length → k ρ' → Q σ' H
section
variable {X : Cx} {e : Expr}
theorem SE.pe {w : DE} (h : SE X e w) : PE X e (tE X.K w) := by
  obtain ⟨t, p, f⟩ := h
  exact ⟨fun pins s σ H Q I ⟨ρ, O, k, sr, hw, q⟩ => p.run pins s σ H Q I (f σ H ρ O k Q sr hw q)⟩
theorem ST.pt {w : DT} (h : ST X e w) : PT X e (tTt X.K w) := by
  obtain ⟨t, p, f⟩ := h
  exact ⟨fun pins s σ H Q I ⟨ρ, O, k, sr, hw, q⟩ => p.run pins s σ H Q I (f σ H ρ O k Q sr hw q)⟩
theorem SG.pg {w : DG} {ws : List Nat} (h : SG X ws e w) : PG X e (tGg X.K ws w) := by
  obtain ⟨t, p, f⟩ := h
  exact ⟨fun pins s σ H v u Q I r ⟨d, ρ, O, k, sr, vo, n, hw, q⟩ => p.run pins s σ H v u Q I r (f v d σ H ρ O k Q sr vo n hw q)⟩
end

section
variable {X : Cx} {ios : List Nat} {st : Stmt} {rest : List Stmt} {e : Expr} {pos : Pos} {w u : DS}
def dNext (E : DEnds) (ρ : Rho) : Prop := E.nx ρ
def dSeq (w u : DS) (E : DEnds) (ρ : Rho) : Prop := w ⟨u E, E.rt, E.bk, E.ct⟩ ρ
theorem sss_nil : SSs X ios [] dNext := ⟨_, pss_nil, fun σ H ρ O D E s r h => r.nx _ _ _ _ (.refl s) h⟩
theorem sss_cons (h1 : SS X ios st w) (h2 : SSs X ios rest u) : SSs X ios (st :: rest) (dSeq w u) := by
  obtain ⟨t1, p1, f1⟩ := h1
  obtain ⟨t2, p2, f2⟩ := h2
  refine ⟨_, pss_cons p1 p2, fun σ H ρ O D E s r h => ?_⟩
  refine f1 σ H ρ O _ ⟨u E, E.rt, E.bk, E.ct⟩ s ⟨fun ρ1 σ1 H1 O1 t q => ?_, r.bk, r.ct, r.rt⟩ h
  exact f2 σ1 H1 ρ1 O1 D E t.sr (r.step t) q
theorem sss_one (h1 : SS X ios st w) : SSs X ios [st] w := by
  obtain ⟨t1, p1, f1⟩ := h1
  exact ⟨_, pss_one p1, f1⟩
theorem ss_pass : SS X ios (.Pass pos) dNext := ⟨_, ps_pass, fun σ H ρ O D E s r h => r.nx _ _ _ _ (.refl s) h⟩
theorem ss_doc {x : Str} {j : Nat} {pos' : Pos} : SS X ios (.Expr (.Constant (.str x) j pos) pos') dNext := ⟨_, ps_doc, fun σ H ρ O D E s r h => r.nx _ _ _ _ (.refl s) h⟩
def dBreak (E : DEnds) (ρ : Rho) : Prop := E.bk ρ
def dCont (E : DEnds) (ρ : Rho) : Prop := E.ct ρ
theorem ss_break : SS X ios (.Break pos) dBreak := ⟨_, ps_break, fun σ H ρ O D E s r h => r.bk _ _ _ _ (.refl s) h⟩
theorem ss_continue : SS X ios (.Continue pos) dCont := ⟨_, ps_continue, fun σ H ρ O D E s r h => r.ct _ _ _ _ (.refl s) h⟩
def kExp (nx : Rho → Prop) (_ : D) (ρ : Rho) : Prop := nx ρ
def dExp (w : DE) (E : DEnds) (ρ : Rho) : Prop := w (kExp E.nx) ρ
theorem ss_expr {w : DE} (h : SE X e w) (hs : swapsWith e none pos.line X.env = pure false := by rfl) : SS X ios (.Expr e pos) (dExp w) := by
  obtain ⟨t, p, f⟩ := h
  refine ⟨_, ps_expr p hs, fun σ H ρ O D E s r h => ?_⟩
  exact f σ H ρ O _ _ s h fun v H' ρ' O' d a _ hk => r.nx _ _ _ _ a.stp hk
def dRet (w : DE) (E : DEnds) (ρ : Rho) : Prop := w E.rt ρ
theorem ss_ret {w : DE} (h : SE X e w) : SS X ios (.Return (some e) pos) (dRet w) := by
  obtain ⟨t, p, f⟩ := h
  refine ⟨_, ps_ret p, fun σ H ρ O D E s r h => ?_⟩
  refine f σ H ρ O _ _ s h fun v H' ρ' O' d a vo hk => r.rt _ _ _ _ v d a.stp vo.val (fun e x ex => ?_) hk
  have hn := vo.new x e ex
  exact ⟨a.nsl s hn, fun u hu => by rw [hn] at hu; cases hu⟩
/-- a local is handed back, with its list -/
def dRetV (i : Nat) (E : DEnds) (ρ : Rho) : Prop := onSome (rget ρ i) fun d => E.rt d (rset ρ i none)
theorem Sr.drop {K : PySem.W.Frag} {ρ : Rho} {σ : St} {H : Hp} {O : Addr → Prop} {i : Nat} (s : Sr K ρ σ H O) : Sr K (rset ρ i none) σ H O := by
  refine ⟨by rw [rset_len]; exact s.len, fun j d h => ?_, fun j k xs ys a h1 o1 h2 o2 => ?_, s.own⟩
  · rcases get_rset h with ⟨_, e, _⟩ | ⟨_, h⟩
    · cases e
    · exact s.slot j d h
  · rcases get_rset h1 with ⟨_, e, _⟩ | ⟨_, h1⟩
    · cases e
    · rcases get_rset h2 with ⟨_, e, _⟩ | ⟨_, h2⟩
      · cases e
      · exact s.uniq j k xs ys a h1 o1 h2 o2
theorem sl_drop {ρ : Rho} {σ : St} {i : Nat} {a : Addr} (h : Sl (rset ρ i none) σ a) : Sl ρ σ a := by
  obtain ⟨j, xs, h1, ho, h2⟩ := h
  rcases get_rset h1 with ⟨_, e, _⟩ | ⟨_, h1⟩
  · cases e
  · exact ⟨j, xs, h1, ho, h2⟩
theorem ss_retV {i : Nat} (h : PE X e (tVar i)) : SS X ios (.Return (some e) pos) (dRetV i) := by
  refine ⟨_, ps_ret h, fun σ H ρ O D E s r h => ?_⟩
  obtain ⟨d, ed, hk⟩ := onSome.ex h
  obtain ⟨v, h1, vo⟩ := s.slot i d (rget_get ed)
  refine ⟨v, h1, r.rt _ _ _ _ v d ⟨s.drop, fun a u hu n => ⟨hu, Iff.rfl, fun z => n (sl_drop z)⟩, fun a u hu => ⟨u, hu⟩, fun _ _ => rfl⟩ vo (fun e a ea => ?_) hk⟩
  subst ea
  cases vo with
  | rep r => rw [r.nown] at e; cases e
  | @own a vs ds o hh r =>
    refine ⟨fun ⟨j, xs, g1, go, g2⟩ => ?_, fun u _ => ⟨i, _, rget_get ed, r.o, h1⟩⟩
    rcases get_rset g1 with ⟨_, e, _⟩ | ⟨nj, g1⟩
    · cases e
    · exact nj (s.uniq j i _ _ _ g1 go (rget_get ed) r.o g2 h1)
def dRetN (E : DEnds) (ρ : Rho) : Prop := E.rt .non ρ
theorem ss_retN : SS X ios (.Return none pos) dRetN := ⟨_, ps_retN, fun σ H ρ O D E s r h => r.rt _ _ _ _ .non .non (.refl s) (.rep .non) (fun e => by cases e) h⟩
def kIfS (a b : DS) (E : DEnds) (c : Bool) (ρ : Rho) : Prop := pick c (a E) (b E) ρ
def dIfS (t : DT) (a b : DS) (E : DEnds) (ρ : Rho) : Prop := t (kIfS a b E) ρ
theorem ss_if {c : Expr} {a b : List Stmt} {t : DT} (hc : ST X c t) (ha : SSs X ios a w) (hb : SSs X ios b u) : SS X ios (.If c a b pos) (dIfS t w u) := by
  obtain ⟨t, p, f⟩ := hc
  obtain ⟨t1, p1, f1⟩ := ha
  obtain ⟨t2, p2, f2⟩ := hb
  refine ⟨_, ps_if p p1 p2, fun σ H ρ O D E s r h => ?_⟩
  refine f σ H ρ O _ _ s h fun b H' ρ' O' a hk => ?_
  cases b with
  | true => exact iteT (f1 σ H' ρ' O' D E a.sr (r.step a.stp) hk)
  | false => exact iteF (f2 σ H' ρ' O' D E a.sr (r.step a.stp) hk)
def kAsg (i : Nat) (nx : Rho → Prop) (d : D) (ρ : Rho) : Prop := nx (rset ρ i (some d))
def dAsg (i : Nat) (w : DE) (E : DEnds) (ρ : Rho) : Prop := w (kAsg i E.nx) ρ
/-- a slot stored, from the expression's start -/
theorem After.store {K : PySem.W.Frag} {ios : List Nat} {ρ ρ1 : Rho} {σ : St} {H H1 : Hp} {O O1 : Addr → Prop} {i : Nat} {v : V} {d : D} (s : Sr K ρ σ H O) (a : After K ρ σ H O ρ1 H1 O1) (vo : VOk K H H1 O1 v d) (hi : i ∉ ios) : Stp K ios ρ σ H O (rset ρ1 i (some d)) (σ.set i (some v)) H1 O1 := by
  refine ⟨a.sr.store vo.val fun e x ex => a.nsl s (vo.new x e ex), fun x u hu n => ?_, a.ext.dom, fun j hj => ?_⟩
  · obtain ⟨h1, h2⟩ := a.ext.keep x u hu n
    refine ⟨h1, h2, fun z => ?_⟩
    rcases sl_store z a.sr.len with z | ⟨z1, z2⟩
    · exact n (a.sub x z)
    · rw [vo.new x z1 z2] at hu; cases hu
  · rw [List.getElem?_set_ne (by intro e; subst e; exact hi hj)]
theorem ss_set {i : Nat} {x : Str} {w : DE} {pos' : Pos} (hN : X.N.Nodup) (hi : X.N[i]? = some x) (hx : Loc X.env.scope x) (h : SE X e w) (hio : i ∉ ios := by decide) (hs : swapsWith e (some (.Name x pos')) pos.line X.env = pure false := by rfl) (hf : X.fn x = true ∨ X.env.scope.names.lookup x = some .local := by first | exact .inl rfl | exact .inr rfl | assumption) :
    SS X ios (.Assign [.Name x pos'] e pos) (dAsg i w) := by
  obtain ⟨t, p, f⟩ := h
  refine ⟨_, ps_set hN hi hx p hs hf, fun σ H ρ O D E s r h => ?_⟩
  exact f σ H ρ O _ _ s h fun v H' ρ' O' d a vo hk => r.nx _ _ _ _ (a.store s vo hio) hk
def kAsgG (g : DG) (nx : Rho → Prop) (d : D) (ρ : Rho) : Prop := g d nx ρ
def dAsgG (g : DG) (w : DE) (E : DEnds) (ρ : Rho) : Prop := w (kAsgG g E.nx) ρ
theorem ss_asg {tg : Expr} {ws : List Nat} {g : DG} {w : DE} (h : SE X e w) (hg : SG X ws tg g) (hio : ∀ i ∈ ios, i ∉ ws := by decide) (hs : swapsWithSole [tg] e pos.line X.env = pure false := by rfl) (hw : swappedStores [tg] e X.env = pure none := by rfl)
    (h1 : (assignEach [tg] X.env).map (·.2) = [assign tg X.env] := by rfl) : SS X ios (.Assign [tg] e pos) (dAsgG g w) := by
  obtain ⟨t, p, f⟩ := h
  obtain ⟨t2, p2, f2⟩ := hg
  refine ⟨_, ps_asg p p2 hs hw h1, fun σ H ρ O D E s r h => ?_⟩
  refine f σ H ρ O _ _ s h fun v H1 ρ1 O1 d a vo hk => ?_
  refine f2 v d σ H1 ρ1 O1 _ _ a.sr vo.val (fun e x ex => a.nsl s (vo.new x e ex)) hk fun ρ' σ' s' sl ot ln hk2 => ?_
  refine r.nx _ _ _ O1 ⟨s', fun x u hu n => ?_, a.ext.dom, fun j hj => ot j (hio j hj)⟩ hk2
  obtain ⟨h1, h2⟩ := a.ext.keep x u hu n
  refine ⟨h1, h2, fun z => ?_⟩
  rcases sl x z with z | ⟨z1, z2⟩
  · exact n (a.sub x z)
  · rw [vo.new x z1 z2] at hu; cases hu
/-- a, b = x, y and a, b, c = x, y, z -/
def kPar2b (i j : Nat) (nx : Rho → Prop) (d d' : D) (ρ : Rho) : Prop := nx (rset (rset ρ i (some d)) j (some d'))
def kPar2 (i j : Nat) (b : DE) (nx : Rho → Prop) (d : D) (ρ : Rho) : Prop := b (kPar2b i j nx d) ρ
def dPar2 (i j : Nat) (a b : DE) (E : DEnds) (ρ : Rho) : Prop := a (kPar2 i j b E.nx) ρ
theorem VOk.nsl2 {K : PySem.W.Frag} {ρ ρ1 : Rho} {σ : St} {H H1 : Hp} {O O1 : Addr → Prop} {v : V} {d : D} (s : Sr K ρ σ H O) (a : After K ρ σ H O ρ1 H1 O1) (vo : VOk K H H1 O1 v d) : d.own = true → ∀ x, v = .ref x → ¬ Sl ρ1 σ x := fun e x ex => a.nsl s (vo.new x e ex)
theorem ss_par2 {i j : Nat} {x y : Str} {a b : Expr} {wa wb : DE} {px py pt pt2 : Pos} {kt k2 : Nat} (hc : X.calm = true) (hN : X.N.Nodup) (hi : X.N[i]? = some x) (hj : X.N[j]? = some y) (hij : i ≠ j)
    (hx : X.env.scope.names.lookup x = some .local) (hy : X.env.scope.names.lookup y = some .local) (ha : SE X a wa) (hb : SE X b wb) (hio : ∀ z ∈ ios, z ≠ i ∧ z ≠ j := by decide)
    (hw : swappedStores [.Tuple [.Name x px, .Name y py] kt pt] (.Tuple [a, b] k2 pt2) X.env = pure (some [x, y]))
    (hs : swapsWithSole [.Tuple [.Name x px, .Name y py] kt pt] (.Tuple [a, b] k2 pt2) pos.line X.env = pure false := by rfl)
    (s1 : starEach [a, b] X.env = (false, eval a X.env) :: starEach [b] X.env := by rfl) (s2 : starEach [b] X.env = (false, eval b X.env) :: starEach [] X.env := by rfl) :
    SS X ios (.Assign [.Tuple [.Name x px, .Name y py] kt pt] (.Tuple [a, b] k2 pt2) pos) (dPar2 i j wa wb) := by
  obtain ⟨ta, pa, fa⟩ := ha
  obtain ⟨tb, pb, fb⟩ := hb
  refine ⟨_, ps_par hc hN hi hj hij hx hy (pa_cons pa (pa_cons pb pa_nil s2) s1) hw hs, fun σ H ρ O D E s r h => ?_⟩
  refine fa σ H ρ O _ _ s h fun v H1 ρ1 O1 d a1 v1 h1 => ?_
  refine fb σ H1 ρ1 O1 _ _ a1.sr h1 fun v' H2 ρ2 O2 d' a2 v2 h2 => ?_
  refine ⟨v, v', rfl, ?_⟩
  have a12 := a1.trans a2
  have v1' : VOk X.K H H2 O2 v d := v1.then s a1 a2
  have S1 := a12.store (i := i) (ios := ios) s v1' fun z => (hio i z).1 rfl
  have n2 : d'.own = true → ∀ a, v' = .ref a → ¬ Sl (rset ρ2 i (some d)) (σ.set i (some v)) a := fun e a ea z => by
    have hn := v2.new a e ea
    rcases sl_store z a2.sr.len with z | ⟨z1, z2⟩
    · exact a2.nsl a1.sr hn z
    · cases v1.val with
      | rep r => cases r <;> cases z1
      | own o h _ => cases z2; rw [hn] at h; cases h
  refine r.nx _ _ _ O2 ⟨S1.sr.store v2.val n2, fun b u hu n => ?_, S1.dom, fun k hk => ?_⟩ h2
  · obtain ⟨g1, g2, g3⟩ := S1.keep b u hu n
    refine ⟨g1, g2, fun z => ?_⟩
    rcases sl_store z S1.sr.len with z | ⟨z1, z2⟩
    · exact g3 z
    · have hn := a1.back _ (v2.new b z1 z2)
      rw [hn] at hu; cases hu
  · rw [List.getElem?_set_ne (fun e => (hio k hk).2 e.symm), List.getElem?_set_ne (fun e => (hio k hk).1 e.symm)]
/-- name op= e -/
def kAugS (i : Nat) (nx : Rho → Prop) (ρ : Rho) (d : D) : Prop := nx (rset ρ i (some d))
def kAug (g : G2) (i : Nat) (nx : Rho → Prop) (y : DOp) (ρ : Rho) : Prop := onSome (rget ρ i) fun dx => onSome (rd ρ y) fun dy => g dx dy (kAugS i nx ρ)
def dAug (g : G2) (i : Nat) (o : DO) (E : DEnds) (ρ : Rho) : Prop := onSome (rget ρ i) fun _ => o (kAug g i E.nx) ρ
theorem ss_aug {i : Nat} {x : Str} {op : Operator} {g : G2} {o : DO} {pos' : Pos} (hN : X.N.Nodup) (hi : X.N[i]? = some x) (hx : Loc X.env.scope x) (ho : OpD X (inplaceOp op) g) (h : SO X e o) (hio : i ∉ ios := by decide) (hf : X.fn x = true ∨ X.env.scope.names.lookup x = some .local := by first | exact .inl rfl | exact .inr rfl | assumption) :
    SS X ios (.AugAssign (.Name x pos') op e pos) (dAug g i o) := by
  obtain ⟨t, p, f⟩ := h
  obtain ⟨r2, o1, o2⟩ := ho
  refine ⟨_, ps_aug hN hi hx p (ti := r2) o1 hf, fun σ H ρ O D E s r h => ?_⟩
  obtain ⟨d0, e0, h⟩ := h.ex
  obtain ⟨v0, g1, _⟩ := s.slot i d0 (rget_get e0)
  refine ⟨v0, g1, f σ H ρ O _ _ s h fun v H1 ρ1 O1 oy a1 c1 h1 => ?_⟩
  obtain ⟨dx, ex, h1⟩ := h1.ex
  obtain ⟨dy, ey, h1⟩ := h1.ex
  obtain ⟨v1, g2, vx⟩ := a1.sr.slot i dx (rget_get ex)
  rw [g1] at g2; cases g2
  refine o2 H1 O1 v0 v dx dy _ _ a1.sr.own vx (c1.val a1.sr ey) h1 fun z H' O' d e own vo hk => ?_
  have a2 := a1.trans (a1.sr.ext0 e own)
  exact r.nx _ _ _ _ (a2.store s (vo.back a1.back) hio) hk
/-! ### loops -/
def kWh (b : DS) (E : DEnds) (next : Rho → Prop) (c : Bool) (ρ : Rho) : Prop := pick c (b ⟨next, E.rt, E.nx, next⟩) E.nx ρ
def whGo (c : DT) (b : DS) (E : DEnds) : Nat → Rho → Prop
  | 0, _ => False
  | n + 1, ρ => c (kWh b E (whGo c b E n)) ρ
def dWhile (c : DT) (b : DS) (E : DEnds) (ρ : Rho) : Prop := ∃ n, whGo c b E n ρ
theorem ss_while {c : Expr} {body : List Stmt} {t : DT} (hp : PassesOwn (model X.prog X.w) X.A X.env X.xe) (hc : ST X c t) (hb : SSs X ios body w) : SS X ios (.While c body [] pos) (dWhile t w) := by
  obtain ⟨t1, p1, f1⟩ := hc
  obtain ⟨t2, p2, f2⟩ := hb
  refine ⟨_, ps_while hp p1 p2, fun σ0 H0 ρ0 O0 D E s0 r h => ?_⟩
  obtain ⟨n, h⟩ := h
  refine ⟨fun m σ H => ∃ ρ O, Stp X.K ios ρ0 σ0 H0 O0 ρ σ H O ∧ whGo t w E m ρ, ⟨n, ρ0, O0, .refl s0, h⟩, fun m σ H ⟨ρ, O, st, h⟩ => ?_⟩
  cases m with
  | zero => exact h.elim
  | succ m =>
    refine f1 σ H ρ O _ _ st.sr h fun b H1 ρ1 O1 a hk => ?_
    have st1 := st.trans a.stp
    cases b with
    | false => exact iteF (r.nx _ _ _ _ st1 hk)
    | true =>
      refine iteT ⟨fun σ' H' => ∃ ρ O, Stp X.K ios ρ0 σ0 H0 O0 ρ σ' H' O ∧ whGo t w E m ρ, fun σ' H' q => ⟨m, Nat.lt_succ_self m, q⟩, ?_⟩
      have r1 := r.step st1
      exact f2 σ H1 ρ1 O1 _ ⟨_, E.rt, E.nx, _⟩ a.sr ⟨fun ρ2 σ2 H2 O2 t2 q => ⟨ρ2, O2, st1.trans t2, q⟩, r1.nx, fun ρ2 σ2 H2 O2 t2 q => ⟨ρ2, O2, st1.trans t2, q⟩, r1.rt⟩ hk
def kForB (b : DS) (E : DEnds) (next : Rho → Prop) (ρ : Rho) : Prop := b ⟨next, E.rt, E.nx, next⟩ ρ
def forGo (g : DG) (b : DS) (E : DEnds) : List D → Rho → Prop
  | [], ρ => E.nx ρ
  | x :: r, ρ => g x (kForB b E (forGo g b E r)) ρ
def kFor (g : DG) (b : DS) (E : DEnds) (items : List D) (ρ : Rho) : Prop := forGo g b E items ρ
def dFor (i : DI) (g : DG) (b : DS) (E : DEnds) (ρ : Rho) : Prop := i (kFor g b E) ρ
theorem ss_for {iter tg : Expr} {body : List Stmt} {i : DI} {g : DG} {ws : List Nat} (hp : PassesOwn (model X.prog X.w) X.A X.env X.xe) (hc : X.calm = true) (hi : SI X tg iter i) (hg : SG X ws tg g) (hb : SSs X ios body w) (hio : ∀ i ∈ ios, i ∉ ws := by decide)
    (hs : ∀ x, foldedSetIterable iter X.env x = pure x := by intro _; rfl) : SS X ios (.For tg iter body [] pos) (dFor i g w) := by
  obtain ⟨ti, pi, fi⟩ := hi
  obtain ⟨tg, pg, fg⟩ := hg
  obtain ⟨tb, pb, fb⟩ := hb
  refine ⟨_, ps_for hp hc pi pg pb hs, fun σ0 H0 ρ0 O0 D E s0 r h => ?_⟩
  refine fi σ0 H0 ρ0 O0 _ _ s0 h fun J H1 ρ1 O1 items a it hk => ?_
  have st1 : Stp X.K ios ρ0 σ0 H0 O0 ρ1 σ0 H1 O1 := a.stp
  refine ⟨fun n m σ H => m = items.length - n ∧ ∃ ρ O, Stp X.K ios ρ1 σ0 H1 O1 ρ σ H O ∧ forGo g w E (items.drop n) ρ, ⟨_, rfl, ρ1, O1, .refl a.sr, hk⟩, fun n m σ H ⟨em, ρ, O, st, h⟩ => ?_⟩
  have itn := it H O st.sr.own st.ext n
  cases e : items.drop n with
  | nil =>
    rw [e] at h
    refine .inl ⟨itn.2 (by simpa using e), ?_⟩
    exact r.nx _ _ _ _ (st1.trans st) h
  | cons d rst =>
    rw [e] at h
    have hd : items[n]? = some d := by
      have := congrArg (·[0]?) e
      simpa using this
    have hlt : n < items.length := (List.getElem?_eq_some_iff.mp hd).1
    have er : rst = items.drop (n + 1) := by
      have := congrArg List.tail e
      simpa using this.symm
    obtain ⟨go, yl⟩ := itn.1 d hd
    refine .inr ⟨go, fun σ' H' => ∃ ρ O, Stp X.K ios ρ1 σ0 H1 O1 ρ σ' H' O ∧ forGo g w E rst ρ, fun σ' H' ⟨ρ', O', t, q⟩ => ⟨items.length - (n + 1), by omega, rfl, ρ', O', t, by rw [← er]; exact q⟩, fun x H2 y => ?_⟩
    obtain ⟨e2, own2, rx⟩ := yl x H2 y
    have a2 := st.sr.ext0 e2 own2
    have nown : d.own = true → ∀ a, x = .ref a → ¬ Sl ρ σ a := fun e => by cases rx <;> cases e
    refine fg x d σ H2 ρ O _ _ a2.sr (.rep rx) nown h fun ρ3 σ3 s3 sl ot ln hk3 => ?_
    have st3 : Stp X.K ios ρ1 σ0 H1 O1 ρ3 σ3 H2 O := st.trans ((a2.stp (ios := ios)).trans ⟨s3, fun b u hu nb => ⟨hu, Iff.rfl, fun z => (sl b z).elim nb fun ⟨z1, _⟩ => by cases rx <;> cases z1⟩, fun b u hu => ⟨u, hu⟩, fun j hj => ot j (hio j hj)⟩)
    have r3 := r.step (st1.trans st3)
    exact fb σ3 H2 ρ3 O _ ⟨_, E.rt, E.nx, _⟩ s3 ⟨fun ρ4 σ4 H4 O4 t4 q => ⟨ρ4, O4, st3.trans t4, q⟩, r3.nx, fun ρ4 σ4 H4 O4 t4 q => ⟨ρ4, O4, st3.trans t4, q⟩, r3.rt⟩ hk3
end
end Bx
/-! promises of defs that are called where no object is being shown (its text made): what str of a tuple needs -/
namespace Bx
open PySem PySem.Spec PyProof.Rows L2
structure RoomG (k : Nat) (A : Around) : Prop where
  rm : Room k A
  gd : A.guards = some []
theorem RoomG.mono {j k : Nat} {A : Around} (r : RoomG k A) (h : j ≤ k) : RoomG j A := ⟨r.rm.mono h, r.gd⟩
theorem RoomG.deeper {k : Nat} {A : Around} (r : RoomG (k + 1) A) (env : Env) : RoomG k (A.deeper env) := ⟨r.rm.deeper env, r.gd⟩
theorem RoomG.in1 {k : Nat} {A : Around} (r : RoomG (k + 1) A) : RoomG k A.in1 := ⟨r.rm.in1, r.gd⟩
theorem RoomG.units {k : Nat} {A : Around} (r : RoomG k A) : A.units + 64 < cLine := r.rm.units
/-- the promise of a def -/
structure FnG (P : Program) (w : World) (K : PySem.W.Frag) (mg : Str → Option Value) (base : Heap) (k : Nat) (f : Addr) (fd : FuncData) (ps : List Str) (sp : Sp) : Prop where
  len : ∀ vs H Q E, sp vs H Q E → vs.length = ps.length
  run : ∀ (A : Around) (outer : List Env) (s : Shared) (H : Hp) (args : Args) (us : List Value) (vs : List V) (Q : VK) (E : XK), RoomG k A → Env0 P w K mg base A outer s H → BindsTo s fd args (ps.zip us) → Vals vs us → sp vs H Q E →
    codeAny (model P w) A (.call (.ref f) args) (CR CX0 outer P w H s Q E) s
section
variable {P : Program} {w : World} {K : PySem.W.Frag} {mg : Str → Option Value} {base : Heap}
theorem FnG.mono {j k : Nat} {f : Addr} {fd : FuncData} {ps : List Str} {sp : Sp} (F : FnG P w K mg base j f fd ps sp) (h : j ≤ k) : FnG P w K mg base k f fd ps sp :=
  ⟨F.len, fun A outer s H args us vs Q E hr => F.run A outer s H args us vs Q E (hr.mono h)⟩
/-- how a body that ran to its end ends its call -/
theorem end_of {N : List Str} {qual : Str} {scope : Scope} {f : Addr} {cdv : Value} {A : Around} {outer : List Env} {s : Shared} {H : Hp} {E : XK} {Q : VK} {fl : Flow} {s' : Shared}
    (h : SP (cxOf CX0 P w K mg base N qual scope f cdv A outer s H E) [] { nx := fun _ H' => Q .non H', rt := Q } fl s') : ∃ u, (match fl with | .ret u => u | _ => Value.none) = u ∧ CE outer P w H s Q u s' ∧ (fl = .next ∨ fl = .ret u) := by
  cases fl with
  | brk => obtain ⟨_, _, _, q⟩ := h; exact q.elim
  | cont => obtain ⟨_, _, _, q⟩ := h; exact q.elim
  | next =>
    obtain ⟨σ', H', J, q⟩ := h
    exact ⟨_, rfl, ⟨.non, H', J.os, J.bare, J.base, J.hok, rfl, q⟩, .inl rfl⟩
  | ret u =>
    obtain ⟨v, σ', H', J, rv, q⟩ := h
    exact ⟨_, rfl, ⟨v, H', J.os, J.bare, J.base, J.hok, rv, q⟩, .inr rfl⟩
theorem fnG_of {x qual : Str} {st : Stmt} {f : Addr} {fd : FuncData} {N ps : List Str} {k : Nat} {sp : Sp} (F : Fun K x qual st f fd) (S : FnScope N ps (defScope st)) (len : ∀ vs H Q E, sp vs H Q E → vs.length = ps.length)
    (hb : ∀ (cdv : Value) (A : Around) (outer : List Env) (s : Shared) (H : Hp) (vs : List V) (Q : VK) (E : XK), RoomG k (A.deeper (envOfC qual (defScope st) s.heap.objs.size f cdv)) → sp vs H Q E →
      ∃ t, PSs (cxOf CX0 P w K mg base N qual (defScope st) f cdv A outer s H E).nox (defBody st) t ∧ t { nx := fun _ H' => Q .non H', rt := Q } (start N vs) H) : FnG P w K mg base (k + 1) f fd ps sp := by
  obtain ⟨oc, od, kV, doc, pm, an, cdv, ct, osl, rfl, lk, hcd⟩ := F.ex
  constructor
  · exact len
  intro A outer s H args us vs Q E hr e0 hbd rv hsp
  have heap0 : K.In s.heap := e0.mod.kin.keeps fun b o e => (e0.bs b o e).1
  obtain ⟨t, pt, ht⟩ := hb cdv A outer s H vs Q E (hr.deeper _) hsp
  refine codeAny_call_function hr.rm.depth (heap0 _ _ lk) rfl S.co S.gen rfl (PySem.W.codeRec_of heap0 hcd) (hbd _ _ _ _ (wpAny_newFunctionEnv_cells S.kind (fun z hz => ?_) fun env he s1 y => ?_))
  · obtain ⟨n, v⟩ := z
    rcases S.par n (List.of_mem_zip hz).1 with g | g
    · exact .inl g
    · exact .inr ⟨g, PySem.W.cellsFrom_some _ _ _ (.inl g)⟩
  · cases he
    refine ⟨(e0.mod.nolimit.keeps fun b o e => (e0.bs b o e).1).keeps y.toInCall.keep, codeAny_func (wpAny_mono (pt.nox.run [] s1 (start N vs) H _ (inv_start S hr.rm.hd e0 (len _ _ _ _ hsp) rv y) ht) (fun fl s' h => ?_) fun e s' h => h)⟩
    obtain ⟨u, eu, ce, hf⟩ := end_of h
    rcases hf with rfl | rfl
    · cases eu; exact ce
    · exact ce
end
section
variable {X : Cx} {k : Nat} {f : Addr} {fd : FuncData} {ps : List Str} {sp : Sp} {x : Str} {p pos : Pos} {e : Expr} {es : List Expr} {t : TA}
theorem run_fnG {pins : List (Addr × Obj)} {σ : L2.St} {H : Hp} {s : Shared} {Q : VK} {us : List Value} {vs : List V} (F : FnG X.prog X.w X.K X.mg X.base k f fd ps sp) (hr : RoomG k X.A) (hb : Binds X.K fd ps [])
    (I : Inv X pins σ H s) (r : Vals vs us) (h : sp vs H Q E0) : wpAny (model X.prog X.w) X.A (call (.ref f) us) (EP X pins σ Q) X.xe s := by
  have hl : (us ++ []).length = ps.length := by rw [List.append_nil, ← r.length]; exact F.len _ _ _ _ h
  have hb2 := hb s us I.kIn hl
  rw [List.append_nil] at hb2
  refine wpAny_call (codeAny_mono (F.run X.A X.stack s H ⟨us, []⟩ us vs Q E0 hr I.env0 hb2 r h) fun r s' hq => ?_)
  match r, hq with
  | .error _, hq => exact hq.elim
  | .ok (.ret _), hq => exact I.after hq
  | .ok .next, hq => exact hq.elim
  | .ok .brk, hq => exact hq.elim
  | .ok .cont, hq => exact hq.elim
theorem pe_callG (F : FnG X.prog X.w X.K X.mg X.base k f fd ps sp) (hr : RoomG k X.A) (hg : Gl X x) (hm : X.mg x = some (.ref f)) (hk : PySem.W.keepIn X.K (.ref f) = true) (hb : Binds X.K fd ps [])
    (ha : PA X (e :: es) t) (hdb : (x == ("__debug__" : Str)) = false := by decide) (he : starEach (e :: es) X.env = (false, eval e X.env) :: starEach es X.env := by rfl) (hpl : (backTo pos (starEach es X.env)).any (·.1) = false := by rfl) :
    PE X (.Call (.Name x p) (e :: es) [] pos) (tCall sp [] E0 t) :=
  ⟨fun pins s σ H Q I h => wpAny_Call_Name_kw (ld_glob I hg hm (PySem.W.callWith_K (h₀ := X.base) I.ok.mod.kin hk (thn (ha.run pos pins s σ H _ I h) fun us s1 ⟨vs, H1, I1, r, q⟩ => ⟨I1.kIn, run_fnG F hr hb I1 r (by simpa using q)⟩) he hpl) hdb)⟩
theorem pe_callG0 (F : FnG X.prog X.w X.K X.mg X.base k f fd ps sp) (hr : RoomG k X.A) (hg : Gl X x) (hm : X.mg x = some (.ref f)) (hk : PySem.W.keepIn X.K (.ref f) = true) (hb : Binds X.K fd ps [])
    (hdb : (x == ("__debug__" : Str)) = false := by decide) : PE X (.Call (.Name x p) [] [] pos) (tCall sp [] E0 tNil) :=
  ⟨fun pins s σ H Q I h => wpAny_Call_Name_kw (ld_glob I hg hm (PySem.W.callWith_K0 I.kIn hk (run_fnG (us := []) F hr hb I .nil (show sp [] H Q E0 from h))) hdb)⟩
end
/-- the law's def is called by the claim's own caller -/
theorem end_call {P : Program} {w : World} {K : PySem.W.Frag} {mg mb : Str → Option Value} {k : Nat} {fa a : Addr} {fd : FuncData} {x : Str} {sp : Sp} {s₁ : Shared} {vs : List Value} {ns : List Int}
    (KX : K.In s₁.heap) (hns : s₁.heap.Ns mainGlobals mg) (hb : s₁.heap.Ns builtinsNs mb) (hbb : ∀ x : Str, x ≠ "__name__" → mb x = bootBuiltins x) (hlim : s₁.heap.NoLimit) (hg : s₁.gens = #[])
    (ha : s₁.heap.get? a = some { cls := .type "list", data := .seq vs.toArray }) (hi : IntsAre vs ns) (hl : ns.length ≤ sizeLine) (hr : Room k callerA)
    (F : ∀ base : Heap, K.In base → base.Ns mainGlobals mg → FnG P w K mg base k fa fd [x] sp) (hbind : ∀ (s : Shared) (u : Value), BindsTo s fd ⟨[u], []⟩ [(x, u)])
    (hsp : ∀ H : Hp, Only H → SqL K H a (ns.map V.int) → sp [.ref a] H (fun v _ => v = .bl true) E0) :
    codeAny (model P w) callerA (.call (.ref fa) ⟨[.ref a], []⟩) (fun r s' => r = .ok (.ret (.bool true)) ∧ OldK s₁.heap s'.heap ∧ s'.os = s₁.os ∧ AllBare s'.gens) s₁ := by
  have rv := vals_ints hi
  obtain ⟨oa, eo⟩ : ∃ o : Obj, o = { cls := .type "list", data := .seq vs.toArray } := ⟨_, rfl⟩
  obtain ⟨H, hH⟩ : ∃ H : Hp, ∀ b, H b = if b = a ∧ K.lookup a = none then some (.frz oa (.lst (ns.map V.int))) else none := ⟨fun b => if b = a ∧ K.lookup a = none then some (.frz oa (.lst (ns.map V.int))) else none, fun _ => rfl⟩
  have only : ∀ b u, H b = some u → b = a ∧ K.lookup a = none ∧ u = .frz oa (.lst (ns.map V.int)) := fun b u e => by
    rw [hH] at e
    split at e
    · rename_i c
      cases e
      exact ⟨c.1, c.2, rfl⟩
    · cases e
  have hOnly : Only H := fun b => by
    cases e : H b with
    | none => exact .inl rfl
    | some u => exact .inr ⟨_, _, by rw [(only b u e).2.2]⟩
  have free : ∀ {b : Addr} {o : Obj}, s₁.heap.get? b = some o → (∀ xs n, o.data ≠ .seq xs n) → H b = none := fun {b o} e d => by
    cases q : H b with
    | none => rfl
    | some u =>
      rw [(only b u q).1, ha] at e
      cases e
      exact absurd rfl (d _ _)
  have hNs : ∀ {b : Addr} {m : Str → Option Value}, s₁.heap.Ns b m → (hidT s₁.heap H).Ns b m := fun {b m} ⟨o, es, ep, e, d, r⟩ => ⟨o, es, ep, hidT_get e (free e fun _ _ z => by rw [d] at z; cases z), d, r⟩
  have hKb : K.In (hidT s₁.heap H) := fun b o e => hidT_get (KX b o e) (by
    cases q : H b with
    | none => rfl
    | some u =>
      obtain ⟨rfl, z, _⟩ := only b u q
      rw [z] at e; cases e)
  have hok : HOk P w H s₁.heap := fun b u e => by
    obtain ⟨rfl, _, rfl⟩ := only b u e
    subst eo
    exact ⟨ha, by rw [List.length_map]; exact hl, vs, _, rv, ha⟩
  have hsq : SqL K H a (ns.map V.int) := by
    cases hk : K.lookup a with
    | none => exact .inl (.inr ⟨oa, by rw [hH, if_pos ⟨rfl, hk⟩]⟩)
    | some o =>
      have e := KX a o hk
      rw [ha] at e
      cases e
      exact .inr ⟨_, vs.toArray, _, hk, rfl, rfl, rfl, by rw [List.size_toArray, hi.length]; exact hl, by simpa using rv⟩
  have hM : Mod K mg (hidT s₁.heap H) := ⟨hKb, hNs hns, ⟨mb, hNs hb, hbb⟩, let ⟨mc, h1, h2⟩ := hlim; ⟨mc, hNs h1, h2⟩⟩
  have e0 : Env0 P w K mg (hidT s₁.heap H) callerA [] s₁ H := ⟨rfl, hM, fun b o e => of_hidT e, Nat.le_of_eq (hidT_size _ _), trivial, fun b hb => absurd hb (List.not_mem_nil), hok, .of_eq hg⟩
  refine codeAny_mono ((F _ hKb (hNs hns)).run callerA [] s₁ H ⟨[.ref a], []⟩ [.ref a] [.ref a] _ _ ⟨hr, rfl⟩ e0 (hbind s₁ (.ref a)) (.cons rfl .nil) (hsp H hOnly hsq)) fun r s' h => ?_
  match r, h with
  | .error _, h => exact h.elim
  | .ok .next, h => exact h.elim
  | .ok .brk, h => exact h.elim
  | .ok .cont, h => exact h.elim
  | .ok (.ret u), h =>
    obtain ⟨v, H', os, bare, un, hok', r', q⟩ := h
    subst q
    cases (show u = Value.bool true from r')
    refine ⟨rfl, .of_keep fun b o e => ?_, os, bare⟩
    cases q : H b with
    | none => exact un.keep b o e q (List.not_mem_nil) (List.not_mem_nil)
    | some u =>
      obtain ⟨rfl, _, rfl⟩ := only b u q
      have e1 := (hok' b _ (un.frzs b _ _ q)).1
      have e2 := (hok b _ q).1
      rw [e] at e2; cases e2
      exact e1
abbrev FnGp (l : PySem.W.OpenLaw) (w : World) (K : PySem.W.Frag) (mg : Str → Option Value) (base : Heap) (k : Nat) (fa : Addr) (fd : FuncData) (x : Str) (sp : Sp) : Prop := FnG l.prog w K mg base k fa fd [x] sp
theorem walk_G {l : PySem.W.OpenLaw} {n k : Nat} {q : Program} {loose : List Str} {XP : (Str → Option Value) → Heap → Prop} {YP : World → Heap → Prop} {d : DefRec} {K : Params → PySem.W.Frag} {sp : World → Sp} {x : Str}
    (hn : l.most = some n) (hn2 : n ≤ sizeLine) (hdf : d.params.defaults = []) (hr : Room k callerA) (hY : ∀ (w : World) (h : Heap), YP w h → (K w.params).In h)
    (F : ∀ (w : World) (mg : Str → Option Value) (fa : Addr) (h : Heap), (K w.params).In h → h.Ns mainGlobals mg → mg d.name = some (.ref fa) →
      ∃ fd : FuncData, (∀ (s : Shared) (u : Value), BindsTo s fd ⟨[u], []⟩ [(x, u)]) ∧ ∀ base : Heap, (K w.params).In base → base.Ns mainGlobals mg → FnG l.prog w (K w.params) mg base k fa fd [x] (sp w))
    (hsp : ∀ (w : World) (H : Hp) (a : Addr) (ns : List Int), ns.length ≤ n → Only H → SqL (K w.params) H a (ns.map V.int) → sp w [.ref a] H (fun v _ => v = .bl true) E0) :
    PySem.W.WalkO q loose XP YP l.row.toRowW d [] (fun f vs => PySem.call f vs) :=
  Att.attach_call hn hdf fun w s₀ s₁ mg mb fa o pm cd doc a vs ns G Y ho hd hcd hmg hobj hints hlen hg => by
    obtain ⟨fd, hb, hF⟩ := F w mg fa _ (hY w _ Y) G.T.g hmg
    exact end_call (hY w _ Y) G.T.g G.T.b G.T.builtins G.T.nolimit hg hobj hints (Nat.le_trans hlen hn2) hr hF hb fun H hO hS => hsp w H a ns hlen hO hS
end Bx
namespace Bx
open PySem PySem.Spec PyProof.Rows L2

/-! ### what a def promises: of data -/
abbrev PSpec := List D → (D → List D → Prop) → Prop
/-- the lists that were handed in to be changed, at the end -/
def outsOf : List Nat → Rho → Option (List D)
  | [], _ => some []
  | i :: r, ρ => match rget ρ i with
    | some (.lst o xs) => (outsOf r ρ).map (.lst o xs :: ·)
    | _ => none
def endsOf (ios : List Nat) (P : D → List D → Prop) : DEnds :=
  ⟨fun ρ => onSome (outsOf ios ρ) (P .non), fun d ρ => onSome (outsOf ios ρ) (P d), fun _ => False, fun _ => False⟩
def initR (n : Nat) (ds : List D) : Rho := ds.map some ++ List.replicate (n - ds.length) none
def OutOk (K : PySem.W.Frag) (H' : Hp) (O' : Addr → Prop) (vs : List V) : List Nat → List D → Prop
  | [], [] => True
  | i :: r, e :: es => (∃ v, vs[i]? = some v ∧ Val K H' O' v e) ∧ OutOk K H' O' vs r es
  | _, _ => False
def spD (K : PySem.W.Frag) (ios : List Nat) (W : PSpec) : Sp := fun vs H Q _ => ∃ (ds : List D) (O : Addr → Prop) (P : D → List D → Prop), Sr K (ds.map some) (vs.map some) H O ∧ (∀ k d, ds[k]? = some d → d.own = true → k ∈ ios) ∧ W ds P ∧
  ∀ v H' O' d outs, Ext (Sl (ds.map some) (vs.map some)) H O H' O' → Own H' O' → VOk K H H' O' v d → OutOk K H' O' vs ios outs → P d outs → Q v H'
theorem getmap {α β : Type} {f : α → β} {l : List α} {i : Nat} {b : β} (h : (l.map f)[i]? = some b) : ∃ a, l[i]? = some a ∧ f a = b := by
  rw [List.getElem?_map] at h
  exact Option.map_eq_some_iff.mp h
theorem init_get {n : Nat} {ds : List D} {i : Nat} {d : D} : (initR n ds)[i]? = some (some d) ↔ (ds.map some)[i]? = some (some d) := by
  unfold initR
  constructor
  · intro h
    by_cases hl : i < (ds.map some).length
    · rw [List.getElem?_append_left hl] at h; exact h
    · rw [List.getElem?_append_right (by omega), List.getElem?_replicate] at h
      split at h <;> cases h
  · intro h
    have hl := (List.getElem?_eq_some_iff.mp h).1
    rw [List.getElem?_append_left hl]; exact h
theorem start_get {N : List Str} {vs : List V} {i : Nat} {v : V} : (L2.start N vs)[i]? = some (some v) ↔ (vs.map some)[i]? = some (some v) := by
  unfold L2.start
  constructor
  · intro h
    by_cases hl : i < (vs.map some).length
    · rw [List.getElem?_append_left hl] at h; exact h
    · rw [List.getElem?_append_right (by omega), List.getElem?_replicate] at h
      split at h <;> cases h
  · intro h
    have hl := (List.getElem?_eq_some_iff.mp h).1
    rw [List.getElem?_append_left hl]; exact h
theorem init_sl {N : List Str} {vs : List V} {ds : List D} {a : Addr} : Sl (initR N.length ds) (L2.start N vs) a ↔ Sl (ds.map some) (vs.map some) a :=
  ⟨fun ⟨i, xs, h1, ho, h2⟩ => ⟨i, xs, init_get.mp h1, ho, start_get.mp h2⟩, fun ⟨i, xs, h1, ho, h2⟩ => ⟨i, xs, init_get.mpr h1, ho, start_get.mpr h2⟩⟩
theorem init_sr {K : PySem.W.Frag} {N : List Str} {vs : List V} {ds : List D} {H : Hp} {O : Addr → Prop} (s : Sr K (ds.map some) (vs.map some) H O) : Sr K (initR N.length ds) (L2.start N vs) H O := by
  have len : ds.length = vs.length := by have := s.len; simpa using this
  refine ⟨by unfold initR L2.start; simp [len], fun i d h => ?_, fun i j xs ys a h1 o1 h2 o2 h3 h4 => s.uniq i j xs ys a (init_get.mp h1) o1 (init_get.mp h2) o2 (start_get.mp h3) (start_get.mp h4), s.own⟩
  obtain ⟨v, h1, h2⟩ := s.slot i d (init_get.mp h)
  exact ⟨v, start_get.mpr h1, h2⟩
theorem outs_ok {K : PySem.W.Frag} {vs : List V} {ρ : Rho} {σ σ0 : L2.St} {H : Hp} {O : Addr → Prop} (s : Sr K ρ σ H O) (h0 : ∀ (i : Nat) (v : V), σ0[i]? = some (some v) → vs[i]? = some v) : ∀ {ios : List Nat} {outs : List D}, (∀ i ∈ ios, σ[i]? = σ0[i]?) → outsOf ios ρ = some outs → OutOk K H O vs ios outs
  | [], outs, _, h => by cases h; trivial
  | i :: r, outs, hs, h => by
    unfold outsOf at h
    split at h
    · rename_i o xs e
      obtain ⟨l, e2, e3⟩ := Option.map_eq_some_iff.mp h
      subst e3
      obtain ⟨v, h1, h2⟩ := s.slot i _ (rget_get e)
      refine ⟨⟨v, h0 i v ?_, h2⟩, outs_ok s h0 (fun j hj => hs j (List.mem_cons_of_mem _ hj)) e2⟩
      rw [← hs i List.mem_cons_self]; exact h1
    · cases h
theorem outs_lst {ρ : Rho} : ∀ {ios : List Nat} {outs : List D}, outsOf ios ρ = some outs → ∀ i ∈ ios, ∃ o xs, rget ρ i = some (.lst o xs)
  | [], _, _, _, hi => by cases hi
  | i :: r, outs, h, j, hj => by
    unfold outsOf at h
    split at h
    · rename_i o xs e
      obtain ⟨l, e2, _⟩ := Option.map_eq_some_iff.mp h
      rcases List.mem_cons.mp hj with rfl | hj
      · exact ⟨o, xs, e⟩
      · exact outs_lst e2 j hj
    · cases h

/-- the context of a def's body -/
abbrev bX (P : Program) (w : World) (K : PySem.W.Frag) (mg : Str → Option Value) (base : Heap) (N : List Str) (qual : Str) (scope : Scope) (f : Addr) (cdv : Value) (A : Around) (outer : List Env) (s : Shared) (H : Hp) (E : XK) : Cx :=
  (cxOf CX0 P w K mg base N qual scope f cdv A outer s H E).nox
section
variable {P : Program} {w : World} {K : PySem.W.Frag} {mg : Str → Option Value} {base : Heap}
/-- what a def's body is worth, as a promise -/
def bodyW (ios : List Nat) (n m : Nat) (b : DS) : PSpec := fun ds P => ds.length = m ∧ b (endsOf ios P) (initR n ds)
theorem fnD {x qual : Str} {st : Stmt} {f : Addr} {fd : FuncData} {N ps : List Str} {k : Nat} {ios : List Nat} {b : DS} {W : PSpec} (F : Fun K x qual st f fd) (S : FnScope N ps (defScope st))
    (hb : ∀ (cdv : Value) (A : Around) (outer : List Env) (s : Shared) (H : Hp) (E : XK), RoomG k (A.deeper (envOfC qual (defScope st) s.heap.objs.size f cdv)) → SSs (bX P w K mg base N qual (defScope st) f cdv A outer s H E) ios (defBody st) b)
    (hW : ∀ ds Q, W ds Q → bodyW ios N.length ps.length b ds Q) : FnG P w K mg base (k + 1) f fd ps (spD K ios W) := by
  refine fnG_of F S (fun vs H Q E h => ?_) (fun cdv A outer s H vs Q E hr h => ?_)
  · obtain ⟨ds, O, Pd, sr, _, h, _⟩ := h
    have l := (hW _ _ h).1
    have := sr.len
    simp at this
    omega
  · obtain ⟨ds, O, Pd, sr, hio, h, q⟩ := h
    obtain ⟨t, p, g⟩ := hb cdv A outer s H E hr
    refine ⟨t, p, ?_⟩
    have s0 := init_sr (N := N) sr
    have h0 : ∀ (i : Nat) (v : V), (L2.start N vs)[i]? = some (some v) → vs[i]? = some v := fun i v e => by
      obtain ⟨a, h1, h2⟩ := getmap (start_get.mp e)
      cases h2; exact h1
    have fin : ∀ (ρ : Rho) (σ : L2.St) (H' : Hp) (O' : Addr → Prop) (v : V) (d : D), Stp K ios (initR N.length ds) (L2.start N vs) H O ρ σ H' O' → Val K H' O' v d → (d.own = true → ∀ a, v = .ref a → ¬ Sl ρ σ a ∧ ∀ u, H a = some u → Sl (initR N.length ds) (L2.start N vs) a) → onSome (outsOf ios ρ) (Pd d) → Q v H' := fun ρ σ H' O' v d st vo n h => by
      obtain ⟨outs, eo, h⟩ := h.ex
      refine q v H' O' d outs (st.ext.mono fun a z => init_sl.mp z) st.sr.own ⟨vo, fun a e ea => ?_⟩ (outs_ok st.sr h0 st.io eo) h
      obtain ⟨n1, n2⟩ := n e a ea
      cases hu : H a with
      | none => rfl
      | some u =>
        obtain ⟨i, xs, h1, ho, h2⟩ := n2 u hu
        have hi : i ∈ ios := by
          obtain ⟨d', g1, g2⟩ := getmap (init_get.mp h1)
          cases g2
          exact hio i xs g1 ho
        obtain ⟨o, ys, e2⟩ := outs_lst eo i hi
        have e3 : σ[i]? = some (some (.ref a)) := (st.io i hi).trans h2
        cases o with
        | true => exact absurd ⟨i, _, rget_get e2, rfl, e3⟩ n1
        | false =>
          obtain ⟨v', g1, g2⟩ := st.sr.slot i _ (rget_get e2)
          rw [e3] at g1
          cases g1
          subst ea
          cases g2 with
          | rep r =>
            cases r with
            | lst _ no _ =>
              cases vo with
              | rep r => rw [r.nown] at e; cases e
              | own o _ _ => exact absurd o no
          | own _ _ r => cases r
    refine g (L2.start N vs) H (initR N.length ds) O _ _ s0 ⟨fun ρ σ H' O' st h => ?_, fun _ _ _ _ _ z => False.elim z, fun _ _ _ _ _ z => False.elim z, fun ρ σ H' O' v d st vo n h => fin ρ σ H' O' v d st vo n h⟩ (hW _ _ h).2
    exact fin ρ σ H' O' .non .non st (.rep .non) (fun e => by cases e) h
end

/-! ### calls of defs -/
section
variable {X : Cx} {e : Expr} {es : List Expr} {x : Str} {p pos : Pos} {k : Nat} {f : Addr} {fd : FuncData} {ps : List Str} {W : PSpec}
theorem sr_reps {K : PySem.W.Frag} {H : Hp} {O : Addr → Prop} {vs : List V} {ds : List D} (own : Own H O) (r : Reps K H O vs ds) : Sr K (ds.map some) (vs.map some) H O ∧ ∀ a, ¬ Sl (ds.map some) (vs.map some) a := by
  have nol : ∀ (i : Nat) (d : D), (ds.map some)[i]? = some (some d) → d.own = false := fun i d h => by
    obtain ⟨d, h1, h2⟩ := getmap h
    cases h2
    obtain ⟨v, _, q⟩ := r.get h1
    exact q.nown
  refine ⟨⟨by simp [r.length], fun i d h => ?_, fun i j xs ys a h ho => (by rw [nol i xs h] at ho; cases ho), own⟩, fun a ⟨i, xs, h, ho, _⟩ => (by rw [nol i xs h] at ho; cases ho)⟩
  obtain ⟨d', h1, h2⟩ := getmap h
  cases h2
  obtain ⟨v, hv, q⟩ := r.get h1
  exact ⟨v, by rw [List.getElem?_map, hv]; rfl, .rep q⟩
def kRet (k : D → Rho → Prop) (ρ : Rho) (d : D) (_ : List D) : Prop := k d ρ
def kCall (W : PSpec) (k : D → Rho → Prop) (ds : List D) (ρ : Rho) : Prop := W ds (kRet k ρ)
def dCall (W : PSpec) (w : DA) (k : D → Rho → Prop) (ρ : Rho) : Prop := w (kTake (kCall W k)) ρ
theorem call_ok {t : TA} {w : DA}
    (f : ∀ (σ : L2.St) (H : Hp) (ρ : Rho) (O : Addr → Prop) (k : List DOp → Rho → Prop) (R : List V → Hp → Prop), Sr X.K ρ σ H O → w k ρ →
    (∀ vs H' ρ' O' os, After X.K ρ σ H O ρ' H' O' → OOks X.K σ H H' O' vs os → vs.length = es.length → k os ρ' → R vs H') → t σ H R) :
    ∀ (σ : L2.St) (H : Hp) (ρ : Rho) (O : Addr → Prop) (k : D → Rho → Prop) (R : VK), Sr X.K ρ σ H O → dCall W w k ρ →
    (∀ v H' ρ' O' d, After X.K ρ σ H O ρ' H' O' → VOk X.K H H' O' v d → k d ρ' → R v H') → tCall (spD X.K [] W) [] E0 t σ H R := by
  intro σ H ρ O k R s hw q
  refine f σ H ρ O _ _ s hw fun vs H1 ρ1 O1 os a c _ hk => ?_
  obtain ⟨ds, ρ2, O2, l, a2, r, hk⟩ := take_ok s c (fun _ z => z) a hk
  obtain ⟨sr, nsl⟩ := sr_reps a2.sr.own r
  show spD X.K [] W (vs ++ []) H1 R E0
  rw [List.append_nil]
  refine ⟨ds, O2, _, sr, fun i xs h ho => ?_, hk, fun v H' O' d outs e own vo _ h => ?_⟩
  · obtain ⟨v, _, q⟩ := r.get h
    rw [q.nown] at ho; cases ho
  · have e0 : Ext no H1 O2 H' O' := e.mono fun b z => nsl b z
    exact q v H' ρ2 O' d (a2.trans (a2.sr.ext0 e0 own)) (vo.back a2.back) h
theorem se_call {w : DA} (F : FnG X.prog X.w X.K X.mg X.base k f fd ps (spD X.K [] W)) (hr : RoomG k X.A) (hg : Gl X x) (hm : X.mg x = some (.ref f)) (hk : PySem.W.keepIn X.K (.ref f) = true) (hb : Binds X.K fd ps [])
    (ha : SA X (e :: es) w) (hdb : (x == ("__debug__" : Str)) = false := by decide) (he : starEach (e :: es) X.env = (false, eval e X.env) :: starEach es X.env := by rfl) (hpl : (backTo pos (starEach es X.env)).any (·.1) = false := by rfl) :
    SE X (.Call (.Name x p) (e :: es) [] pos) (dCall W w) := by
  obtain ⟨t, pt, f⟩ := ha
  exact ⟨_, pe_callG F hr hg hm hk hb pt hdb he hpl, call_ok f⟩
/-- a call that changes the list in one slot, its n-th argument -/
def ownL (ρ : Rho) (i : Nat) : Option (List D) := match rget ρ i with
  | some (.lst true xs) => some xs
  | _ => none
theorem ownL_eq {ρ : Rho} {i : Nat} {xs : List D} (h : ownL ρ i = some xs) : rget ρ i = some (.lst true xs) := by
  unfold ownL at h
  split at h
  · rename_i ys e
    cases h; exact e
  · cases h
def tkIO (i : Nat) : Nat → List DOp → (List D → Rho → Prop) → Rho → Prop
  | 0, .s j :: r, k, ρ => j = i ∧ tkOps r (kTk .non k) ρ
  | n + 1, .s j :: r, k, ρ => match rget ρ j with
    | some d => tkIO i n r (kTk d.frz k) (rset ρ j (some d.frz))
    | none => False
  | n + 1, .d x :: r, k, ρ => tkIO i n r (kTk x.frz k) ρ
  | _, _, _, _ => False
def kRetIO (i : Nat) (k : D → Rho → Prop) (ρ : Rho) (d : D) (outs : List D) : Prop := match outs with
  | [e] => k d (rset ρ i (some e))
  | _ => False
def kCallIO (n i : Nat) (W : PSpec) (k : D → Rho → Prop) (ds : List D) (ρ : Rho) : Prop := onSome (ownL ρ i) fun xs => W (ds.set n (.lst true xs)) (kRetIO i k ρ)
def kTakeIO (n i : Nat) (k : List D → Rho → Prop) (os : List DOp) (ρ : Rho) : Prop := tkIO i n os k ρ
def dCallIO (n i : Nat) (W : PSpec) (w : DA) (k : D → Rho → Prop) (ρ : Rho) : Prop := w (kTakeIO n i (kCallIO n i W k)) ρ
/-- the arguments but one -/
inductive RepsBut (K : PySem.W.Frag) (σ : L2.St) (H : Hp) (O : Addr → Prop) (i : Nat) : Nat → List V → List D → Prop
  | here {v : V} {vs : List V} {d : D} {ds : List D} : σ[i]? = some (some v) → Reps K H O vs ds → RepsBut K σ H O i 0 (v :: vs) (d :: ds)
  | there {n : Nat} {v : V} {vs : List V} {d : D} {ds : List D} : Rep K H O v d → RepsBut K σ H O i n vs ds → RepsBut K σ H O i (n + 1) (v :: vs) (d :: ds)
theorem takeIO_ok {K : PySem.W.Frag} {ρ : Rho} {σ : L2.St} {H H1 : Hp} {O O1 : Addr → Prop} {i : Nat} (s : Sr K ρ σ H O) : ∀ {n : Nat} {os : List DOp} {vs : List V} {ρ2 : Rho} {O2 : Addr → Prop} {k : List D → Rho → Prop}, OOks K σ H H1 O1 vs os → (∀ a, O2 a → O1 a) → After K ρ σ H O ρ2 H1 O2 → tkIO i n os k ρ2 →
    ∃ ds ρ3 O3, (∀ a, O3 a → O2 a) ∧ After K ρ σ H O ρ3 H1 O3 ∧ RepsBut K σ H1 O3 i n vs ds ∧ k ds ρ3
  | 0, .s j :: r, _, ρ2, O2, k, .cons q t, l, a, h => by
    obtain ⟨ej, h⟩ := h
    subst ej
    obtain ⟨ds, ρ4, O4, l4, a4, r4, h4⟩ := take_ok s t l a h
    exact ⟨_, ρ4, O4, l4, a4, .here q r4, h4⟩
  | n + 1, .s j :: r, _, ρ2, O2, k, .cons q t, l, a, h => by
    unfold tkIO at h
    cases e : rget ρ2 j with
    | none => rw [e] at h; exact h.elim
    | some d =>
      rw [e] at h
      obtain ⟨O3, l3, a3, v, h1, rv⟩ := After.freeze_slot s a e
      have q : σ[j]? = some (some _) := q
      rw [q] at h1; cases h1
      obtain ⟨ds, ρ4, O4, l4, a4, r4, h4⟩ := takeIO_ok s t (fun b z => l b (l3 b z)) a3 h
      exact ⟨_, ρ4, O4, fun b z => l3 b (l4 b z), a4, .there (rv.less l4) r4, h4⟩
  | n + 1, .d x :: r, _, ρ2, O2, k, .cons q t, l, a, h => by
    unfold tkIO at h
    obtain ⟨O3, l3, a3, rv⟩ := After.freeze_val s a (O2 := O1) q l
    obtain ⟨ds, ρ4, O4, l4, a4, r4, h4⟩ := takeIO_ok s t (fun b z => l b (l3 b z)) a3 h
    exact ⟨_, ρ4, O4, fun b z => l3 b (l4 b z), a4, .there (rv.less l4) r4, h4⟩
  | 0, .d x :: r, _, _, _, _, _, _, _, h => h.elim
  | _, [], _, _, _, _, _, _, _, h => by cases ‹Nat› <;> exact h.elim
theorem RepsBut.len {K : PySem.W.Frag} {σ : L2.St} {H : Hp} {O : Addr → Prop} {i : Nat} : ∀ {n : Nat} {vs : List V} {ds : List D}, RepsBut K σ H O i n vs ds → vs.length = ds.length ∧ n < vs.length
  | _, _, _, .here _ r => by simp [r.length]
  | _, _, _, .there _ r => by have := RepsBut.len r; simp; omega
theorem RepsBut.at {K : PySem.W.Frag} {σ : L2.St} {H : Hp} {O : Addr → Prop} {i : Nat} : ∀ {n : Nat} {vs : List V} {ds : List D}, RepsBut K σ H O i n vs ds → ∃ v, vs[n]? = some v ∧ σ[i]? = some (some v)
  | _, _, _, .here h _ => ⟨_, rfl, h⟩
  | _, _, _, .there _ r => by obtain ⟨v, h1, h2⟩ := RepsBut.at r; exact ⟨v, by simpa using h1, h2⟩
theorem RepsBut.get {K : PySem.W.Frag} {σ : L2.St} {H : Hp} {O : Addr → Prop} {i : Nat} : ∀ {n : Nat} {vs : List V} {ds : List D} {j : Nat} {d : D}, RepsBut K σ H O i n vs ds → j ≠ n → ds[j]? = some d → ∃ v, vs[j]? = some v ∧ Rep K H O v d
  | _, _, _, 0, _, .here _ _, h, _ => absurd rfl h
  | _, _, _, j + 1, d, .here _ r, _, e => by obtain ⟨v, h1, h2⟩ := r.get (i := j) (d := d) (by simpa using e); exact ⟨v, by simpa using h1, h2⟩
  | _, _, _, 0, d, .there q _, _, e => by simp at e; subst e; exact ⟨_, rfl, q⟩
  | _, _, _, j + 1, d, .there _ r, h, e => by obtain ⟨v, h1, h2⟩ := RepsBut.get (j := j) (d := d) r (by omega) (by simpa using e); exact ⟨v, by simpa using h1, h2⟩
theorem callIO_ok {t : TA} {w : DA} {n i : Nat}
    (f : ∀ (σ : L2.St) (H : Hp) (ρ : Rho) (O : Addr → Prop) (k : List DOp → Rho → Prop) (R : List V → Hp → Prop), Sr X.K ρ σ H O → w k ρ →
    (∀ vs H' ρ' O' os, After X.K ρ σ H O ρ' H' O' → OOks X.K σ H H' O' vs os → vs.length = es.length → k os ρ' → R vs H') → t σ H R) :
    ∀ (σ : L2.St) (H : Hp) (ρ : Rho) (O : Addr → Prop) (k : D → Rho → Prop) (R : VK), Sr X.K ρ σ H O → dCallIO n i W w k ρ →
    (∀ v H' ρ' O' d, After X.K ρ σ H O ρ' H' O' → VOk X.K H H' O' v d → k d ρ' → R v H') → tCall (spD X.K [n] W) [] E0 t σ H R := by
  intro σ H ρ O k R s hw q
  refine f σ H ρ O _ _ s hw fun vs H1 ρ1 O1 os a c _ hk => ?_
  obtain ⟨ds, ρ2, O2, l, a2, r, hk⟩ := takeIO_ok s c (fun _ z => z) a hk
  obtain ⟨xs, eo, hk⟩ := onSome.ex hk
  have eo := ownL_eq eo
  obtain ⟨v0, hv0, hs0⟩ := r.at
  obtain ⟨vx, g1, g2⟩ := a2.sr.slot i _ (rget_get eo)
  rw [hs0] at g1; cases g1
  obtain ⟨len, hn⟩ := r.len
  cases g2 with
  | rep r => cases r
  | @own b u _ o hb rb =>
  obtain ⟨ws, rfl, rb'⟩ := rb.lst_of
  have only : ∀ (j : Nat) (y : D), ((ds.set n (.lst true xs)).map some)[j]? = some (some y) → y.own = true → j = n := fun j y h ho => by
    obtain ⟨d, h1, h2⟩ := getmap h
    cases h2
    by_cases e : j = n
    · exact e
    · rw [List.getElem?_set_ne (Ne.symm e)] at h1
      obtain ⟨v, _, q⟩ := r.get e h1
      rw [q.nown] at ho; cases ho
  have hvn : (vs.map some)[n]? = some (some (V.ref b)) := by rw [List.getElem?_map, hv0]; rfl
  have sl : ∀ c, Sl ((ds.set n (.lst true xs)).map some) (vs.map some) c → c = b := fun c ⟨j, y, h1, ho, h2⟩ => by
    have e := only j y h1 ho
    subst e
    rw [hvn] at h2
    cases h2; rfl
  have sr : Sr X.K ((ds.set n (.lst true xs)).map some) (vs.map some) H1 O2 := by
    refine ⟨by simp [len], fun j d h => ?_, fun j1 j2 xs1 ys1 c h1 q1 h2 q2 _ _ => (only j1 xs1 h1 q1).trans (only j2 ys1 h2 q2).symm, a2.sr.own⟩
    by_cases e : j = n
    · subst e
      obtain ⟨d', h1, h2⟩ := getmap h
      cases h2
      rw [List.getElem?_set_self (by omega)] at h1
      cases h1
      exact ⟨_, hvn, .own o hb rb⟩
    · obtain ⟨d', h1, h2⟩ := getmap h
      cases h2
      rw [List.getElem?_set_ne (Ne.symm e)] at h1
      obtain ⟨v, hv, q⟩ := r.get e h1
      exact ⟨v, by rw [List.getElem?_map, hv]; rfl, .rep q⟩
  show spD X.K [n] W (vs ++ []) H1 R E0
  rw [List.append_nil]
  refine ⟨_, O2, _, sr, fun j ys h ho => ?_, hk, fun v H' O' d outs e own vo out h => ?_⟩
  · have := only j ys (by rw [List.getElem?_map, h]; rfl) ho
    simp [this]
  · have h : kRetIO i k ρ2 d outs := h
    unfold kRetIO at h
    split at h
    · rename_i eo' _
      obtain ⟨⟨v', h1, h2⟩, _⟩ := out
      rw [hv0] at h1; cases h1
      have inb : Sl ρ2 σ b := ⟨i, _, rget_get eo, rfl, hs0⟩
      have e1 : Ext (fun c => c = b) H1 O2 H' O' := e.mono sl
      have L1 : Lsts H1 O2 fun c => c = b := fun c z => by subst z; exact ⟨o, _, hb, rb.h⟩
      have sub : ∀ c, Sl (rset ρ2 i (some eo')) σ c → Sl ρ2 σ c := fun c ⟨j, ys, z1, zo, z2⟩ => by
        rcases get_rset z1 with ⟨ej, ez, _⟩ | ⟨nj, z1⟩
        · subst ej
          rw [hs0] at z2; cases z2
          exact inb
        · exact ⟨j, ys, z1, zo, z2⟩
      have a3 : After X.K ρ2 σ H1 O2 (rset ρ2 i (some eo')) H' O' := by
        refine ⟨⟨by rw [rset_len]; exact a2.sr.len, fun j d' z => ?_, fun j1 j2 xs1 ys1 c z1 q1 z2 q2 z3 z4 => ?_, own⟩, e1.mono fun c z => by subst z; exact inb, sub⟩
        · rcases get_rset z with ⟨ej, ez, _⟩ | ⟨nj, z⟩
          · subst ej; cases ez
            exact ⟨_, hs0, h2⟩
          · obtain ⟨u, y1, y2⟩ := a2.sr.slot j d' z
            refine ⟨u, y1, ?_⟩
            cases y2 with
            | rep r => exact .rep (r.ext e1 L1)
            | @own c ws' ys o' hc rc =>
              have nc : c ≠ b := fun z' => nj (a2.sr.uniq j i _ _ _ z rc.o (rget_get eo) rfl y1 (by rw [z']; exact hs0))
              obtain ⟨k1, k2⟩ := e1.keep c _ hc nc
              exact .own (k2.mpr o') k1 (rc.ext e1 L1)
        · rcases get_rset z1 with ⟨e1', _, _⟩ | ⟨n1, y1⟩
          · rcases get_rset z2 with ⟨e2', _, _⟩ | ⟨n2, y2⟩
            · rw [e1', e2']
            · rw [e1', hs0] at z3; cases z3
              exact absurd (a2.sr.uniq j2 i _ _ _ y2 q2 (rget_get eo) rfl z4 hs0) n2
          · rcases get_rset z2 with ⟨e2', _, _⟩ | ⟨n2, y2⟩
            · rw [e2', hs0] at z4; cases z4
              exact absurd (a2.sr.uniq j1 i _ _ _ y1 q1 (rget_get eo) rfl z3 hs0) n1
            · exact a2.sr.uniq j1 j2 xs1 ys1 c y1 q1 y2 q2 z3 z4
      exact q v H' _ O' d (a2.trans a3) (vo.back a2.back) h
    · exact h.elim
theorem se_callIO {w : DA} {n i : Nat} (F : FnG X.prog X.w X.K X.mg X.base k f fd ps (spD X.K [n] W)) (hr : RoomG k X.A) (hg : Gl X x) (hm : X.mg x = some (.ref f)) (hk : PySem.W.keepIn X.K (.ref f) = true) (hb : Binds X.K fd ps [])
    (ha : SA X (e :: es) w) (hdb : (x == ("__debug__" : Str)) = false := by decide) (he : starEach (e :: es) X.env = (false, eval e X.env) :: starEach es X.env := by rfl) (hpl : (backTo pos (starEach es X.env)).any (·.1) = false := by rfl) :
    SE X (.Call (.Name x p) (e :: es) [] pos) (dCallIO n i W w) := by
  obtain ⟨t, pt, f⟩ := ha
  exact ⟨_, pe_callG F hr hg hm hk hb pt hdb he hpl, callIO_ok f⟩
end

/-! ### an object in a slot is changed -/
theorem mutU {K : PySem.W.Frag} {ρ : Rho} {σ : L2.St} {H : Hp} {O : Addr → Prop} {i : Nat} {a : Addr} {x y : D} {u : HO} (s : Sr K ρ σ H O) (h : rget ρ i = some x) (hx : x.own = true) (hs : σ[i]? = some (some (.ref a)))
    (r : ∀ H' O', Ext (fun c => c = a) H O H' O' → (Lsts H O fun c => c = a) → OwR K H' O' u y) :
    After K ρ σ H O (rset ρ i (some y)) (upd H a u) O := by
  have ina : Sl ρ σ a := ⟨i, x, rget_get h, hx, hs⟩
  obtain ⟨oa, u0, ha, hu0⟩ := s.lsts a ina
  have e1 : Ext (fun c => c = a) H O (upd H a u) O := ⟨fun c u hc n => ⟨by rw [upd_ne n]; exact hc, Iff.rfl⟩, fun c u hc => by
    by_cases e : c = a
    · subst e; exact ⟨_, upd_same⟩
    · exact ⟨u, by rw [upd_ne e]; exact hc⟩⟩
  have L1 : Lsts H O fun c => c = a := fun c z => by subst z; exact ⟨oa, _, ha, hu0⟩
  have r1 := r _ _ e1 L1
  refine ⟨⟨by rw [rset_len]; exact s.len, fun j d q => ?_, fun j1 j2 xs1 ys1 c z1 q1 z2 q2 z3 z4 => ?_, fun c z => ?_⟩, e1.mono fun c z => by subst z; exact ina, fun c ⟨j, zs, z1, zo, z2⟩ => ?_⟩
  · rcases get_rset q with ⟨ej, ez, _⟩ | ⟨nj, q⟩
    · subst ej; cases ez
      exact ⟨_, hs, .own oa upd_same r1⟩
    · obtain ⟨u, y1, y2⟩ := s.slot j d q
      refine ⟨u, y1, ?_⟩
      cases y2 with
      | rep r => exact .rep (r.ext e1 L1)
      | @own c ws' zs o' hc rc =>
        have nc : c ≠ a := fun z' => nj (s.uniq j i _ _ _ q rc.o (rget_get h) hx y1 (by rw [z']; exact hs))
        exact .own o' (by rw [upd_ne nc]; exact hc) (rc.ext e1 L1)
  · rcases get_rset z1 with ⟨e1', _, _⟩ | ⟨n1, y1⟩
    · rcases get_rset z2 with ⟨e2', _, _⟩ | ⟨n2, y2⟩
      · rw [e1', e2']
      · rw [e1', hs] at z3; cases z3
        exact absurd (s.uniq j2 i _ _ _ y2 q2 (rget_get h) hx z4 hs) n2
    · rcases get_rset z2 with ⟨e2', _, _⟩ | ⟨n2, y2⟩
      · rw [e2', hs] at z4; cases z4
        exact absurd (s.uniq j1 i _ _ _ y1 q1 (rget_get h) hx z3 hs) n1
      · exact s.uniq j1 j2 xs1 ys1 c y1 q1 y2 q2 z3 z4
  · by_cases e : c = a
    · subst e; exact ⟨_, upd_same, r1.h⟩
    · obtain ⟨vs, q, w⟩ := s.own c z
      exact ⟨vs, by rw [upd_ne e]; exact q, w⟩
  · rcases get_rset z1 with ⟨ej, _, _⟩ | ⟨_, z1⟩
    · subst ej
      rw [hs] at z2; cases z2
      exact ina
    · exact ⟨j, zs, z1, zo, z2⟩
theorem mut_slot {K : PySem.W.Frag} {ρ : Rho} {σ : L2.St} {H : Hp} {O : Addr → Prop} {i : Nat} {a : Addr} {xs ys : List D} {ws : List V} (s : Sr K ρ σ H O) (h : rget ρ i = some (.lst true xs)) (hs : σ[i]? = some (some (.ref a))) (r : Reps K H O ws ys) :
    After K ρ σ H O (rset ρ i (some (.lst true ys))) (upd H a (.lst ws)) O := mutU s h rfl hs fun _ _ e L => .lst (r.ext e L)
theorem mut_dic {K : PySem.W.Frag} {ρ : Rho} {σ : L2.St} {H : Hp} {O : Addr → Prop} {i : Nat} {a : Addr} {ks : List Key} {xs ys : List D} {kvs : List (Key × V)} (s : Sr K ρ σ H O) (h : rget ρ i = some (.odc ks xs)) (hs : σ[i]? = some (some (.ref a))) (r : Reps K H O (kvs.map (·.2)) ys) :
    After K ρ σ H O (rset ρ i (some (.odc (kvs.map (·.1)) ys))) (upd H a (.dK kvs)) O := mutU s h rfl hs fun _ _ e L => .dK (r.ext e L)
section
variable {X : Cx} {e o : Expr} {es : List Expr} {x : Str} {p pos apos cpos : Pos}
theorem slot_own {K : PySem.W.Frag} {ρ : Rho} {σ : L2.St} {H : Hp} {O : Addr → Prop} {i : Nat} {xs : List D} (s : Sr K ρ σ H O) (h : ownL ρ i = some xs) : ∃ a vs, σ[i]? = some (some (.ref a)) ∧ H a = some (.lst vs) ∧ Reps K H O vs xs := by
  obtain ⟨v, h1, h2⟩ := s.slot i _ (rget_get (ownL_eq h))
  cases h2 with
  | rep r => cases r
  | own _ h r => obtain ⟨vs, rfl, q⟩ := r.lst_of; exact ⟨_, _, h1, h, q⟩
def kApp (i : Nat) (k : D → Rho → Prop) (d : D) (ρ : Rho) : Prop := onSome (ownL ρ i) fun xs => xs.length < sizeLine ∧ k .non (rset ρ i (some (.lst true (xs ++ [d.frz]))))
def dApp (i : Nat) (w : DE) (k : D → Rho → Prop) (ρ : Rho) : Prop := onSome (ownL ρ i) fun _ => w (kApp i k) ρ
theorem se_append {i : Nat} {w : DE} (hv : PE X o (tVar i)) (h : SE X e w) (hbase : attributeBase o "append" X.env (eval o X.env) = eval o X.env := by rfl)
    (hfew : ((backTo cpos (starEach [e] X.env)).all (fun x => !x.1) && (backToKw cpos (keywordEach [] X.env)).all (fun x => x.1.isSome)
      && decide (([e] : List Expr).length + ([] : List Keyword).length + (if ([] : List Keyword).isEmpty then 0 else 1) < 30)) = true := by rfl)
    (hline : (apos.endLine == cpos.line) = true := by rfl) (hs : starEach [e] X.env = (false, eval e X.env) :: starEach [] X.env := by rfl) :
    SE X (.Call (.Attribute o "append" apos) [e] [] cpos) (dApp i w) := by
  obtain ⟨t, pe, f⟩ := h
  refine ⟨_, pe_bm PySem.F.plainAttrs_list PySem.F.slot_list_append PySem.F.type_list_append mt_append hv (pa_cons pe pa_nil hs) hbase hfew hline hs rfl, fun σ H ρ O k R s hw q => ?_⟩
  obtain ⟨xs, ex, hw⟩ := onSome.ex hw
  obtain ⟨a, vs, hs1, ha, r⟩ := slot_own s ex
  refine ⟨.ref a, hs1, .inl ⟨rfl, _, .of ha⟩, f σ H ρ O _ _ s hw fun v H1 ρ1 O1 d a1 vo hk => ?_⟩
  obtain ⟨ys, ey, hk⟩ := onSome.ex hk
  obtain ⟨O2, l2, a2, rv⟩ := After.freeze_val s a1 vo fun _ z => z
  obtain ⟨a', ws, hs2, ha2, r2⟩ := slot_own a2.sr ey
  rw [hs1] at hs2; cases hs2
  refine ⟨a, ws, v, rfl, rfl, ha2, by rw [r2.length]; exact hk.1, ?_⟩
  have m := mut_slot a2.sr (ownL_eq ey) hs1 (r2.append (.cons rv .nil))
  exact q _ _ _ _ _ (a2.trans m) (.rep .non) hk.2
/-- xs.pop() -/
def dPop (i : Nat) (k : D → Rho → Prop) (ρ : Rho) : Prop := onSome (ownL ρ i) fun xs => onSome xs.getLast? fun d => k d (rset ρ i (some (.lst true xs.dropLast)))
theorem Reps.dropLast {K : PySem.W.Frag} {H : Hp} {O : Addr → Prop} {vs : List V} {ds : List D} (h : Reps K H O vs ds) : Reps K H O vs.dropLast ds.dropLast := by
  rw [List.dropLast_eq_take, List.dropLast_eq_take, h.length]
  exact h.take _
theorem se_pop {i : Nat} (hv : PE X o (tVar i)) (hbase : attributeBase o "pop" X.env (eval o X.env) = eval o X.env := by rfl) (hline : (apos.endLine == cpos.line) = true := by rfl) :
    SE X (.Call (.Attribute o "pop" apos) [] [] cpos) (dPop i) := by
  refine ⟨_, pe_bm0 PySem.F.plainAttrs_list PySem.F.slot_list_pop PySem.F.type_list_pop mt_pop hv hbase hline, fun σ H ρ O k R s hw q => ?_⟩
  obtain ⟨xs, ex, hw⟩ := onSome.ex hw
  obtain ⟨d, ed, hw⟩ := onSome.ex hw
  obtain ⟨a, vs, hs1, ha, r⟩ := slot_own s ex
  have ed' : xs[xs.length - 1]? = some d := by rw [← List.getLast?_eq_getElem?]; exact ed
  obtain ⟨v, hv1, rv⟩ := r.get ed'
  refine ⟨.ref a, hs1, .inl ⟨rfl, _, .of ha⟩, a, vs, v, rfl, rfl, ha, by rw [r.length]; exact hv1, ?_⟩
  have m := mut_slot s (ownL_eq ex) hs1 r.dropLast
  refine q _ _ _ _ _ m (.rep (rv.ext (S := fun c => c = a) ⟨fun c u hc n => ⟨by rw [upd_ne n]; exact hc, Iff.rfl⟩, fun c u hc => ?_⟩ fun c z => ?_)) hw
  · by_cases e : c = a
    · subst e; exact ⟨_, upd_same⟩
    · exact ⟨u, by rw [upd_ne e]; exact hc⟩
  · subst z
    exact s.lsts c ⟨i, _, rget_get (ownL_eq ex), rfl, hs1⟩
variable {ios : List Nat}
/-- xs[j] = e -/
def kSub2 (i : Nat) (d : D) (nx : Rho → Prop) (y : DOp) (ρ : Rho) : Prop := onSome (rd ρ y) fun dy => onSome (ownL ρ i) fun xs => match dy with
  | .int j => onSome (ixN xs.length j) fun n => nx (rset ρ i (some (.lst true (xs.set n d.frz))))
  | _ => False
def kSub1 (i : Nat) (b : DO) (nx : Rho → Prop) (d : D) (ρ : Rho) : Prop := onSome (ownL ρ i) fun _ => b (kSub2 i d nx) ρ
def dSub (i : Nat) (w : DE) (b : DO) (E : DEnds) (ρ : Rho) : Prop := w (kSub1 i b E.nx) ρ
theorem ss_sub {i : Nat} {w : DE} {b : DO} {ix : Expr} {spos : Pos} (hv : PE X o (tVar i)) (h : SE X e w) (hb : SO X ix b) (hs : swapsWithSole [.Subscript o ix spos] e pos.line X.env = pure false := by rfl) (hw : swappedStores [.Subscript o ix spos] e X.env = pure none := by rfl)
    (h1 : (assignEach [.Subscript o ix spos] X.env).map (·.2) = [assign (.Subscript o ix spos) X.env] := by rfl)
    (ha : ∀ v, assign (.Subscript o ix spos) X.env v = (do
      let ov ← holding [v] (eval o X.env)
      let iv ← holding [v, ov] (eval ix X.env)
      standAt spos
      holding [v, ov, iv] (setItem ov iv v)
      release [v, ov, iv] []) := by intro _; rfl) : SS X ios (.Assign [.Subscript o ix spos] e pos) (dSub i w b) := by
  obtain ⟨t, p, f⟩ := h
  obtain ⟨t2, p2, f2⟩ := hb
  refine ⟨_, ps_asg p (pg_sub hv p2 set_list ha) hs hw h1, fun σ H ρ O D E s r h => ?_⟩
  refine f σ H ρ O _ _ s h fun v H1 ρ1 O1 d a1 vo hk => ?_
  obtain ⟨xs0, ex0, hk⟩ := onSome.ex hk
  obtain ⟨a0, vs0, hs1, _, _⟩ := slot_own a1.sr ex0
  refine ⟨.ref a0, hs1, f2 σ H1 ρ1 O1 _ _ a1.sr hk fun y H2 ρ2 O2 oy a2 c2 h2 => ?_⟩
  obtain ⟨dy, ey, h2⟩ := onSome.ex h2
  obtain ⟨xs, ex, h2⟩ := onSome.ex h2
  have a12 := a1.trans a2
  cases dy <;> try exact False.elim h2
  obtain ⟨n, en, h2⟩ := onSome.ex h2
  have vy := (c2.val a2.sr ey).int
  obtain ⟨O3, l3, a3, rv⟩ := After.freeze_val s a12 (vo.then s a1 a2) fun _ z => z
  obtain ⟨a', ws, hs2, ha2, r2⟩ := slot_own a3.sr ex
  rw [hs1] at hs2; cases hs2
  refine ⟨a0, ws, _, n, rfl, vy, ha2, by rw [r2.length]; exact en, ?_⟩
  have m := mut_slot a3.sr (ownL_eq ex) hs1 (r2.set rv n)
  exact r.nx _ _ _ _ (a3.trans m).stp h2
end
end Bx
namespace PySem.W
open PySem PySem.Calls PySem.NumText PyProof.Rows
namespace KIN
set_option maxHeartbeats 1000000 in
theorem wp_text2 {M : Model} {A : Around} {E : Value → Shared → Prop} {s : Shared} {Q : Value → Shared → Prop} {v : Value} {text : List Nat} {n : Int} (hd : s.heap.NoDigits)
    (hs : ¬ (text.takeWhile (· != 0)).length ≤ 640) (hr : (int_private% "readNumeral") 4300 10 (text.takeWhile (· != 0)) = (int_private% "Numeral.value") n)
    (ha : ((text.takeWhile (· != 0)).length == text.length) = true) (h : Q (.int n s.toks) { s with toks := s.toks + 1 }) :
    wpAny M A ((int_private% "intFromText") v text 10) Q E s := by
  obtain ⟨mc, hns, hnone⟩ := hd
  obtain ⟨hp, g, d, tk, os⟩ := s
  have lim : ∀ (A : Around) (Q : Nat → Shared → Prop) (E : Value → Shared → Prop) (s : Shared), s.heap = hp → Q 4300 s → wpAny M A PySem.Builtin.intMaxStrDigits Q E s := by
    intro A Q E s e q
    unfold PySem.Builtin.intMaxStrDigits
    refine wpAny_bind (wpAny_nsGet (by rw [e]; exact hns) ?_)
    rw [hnone]
    exact wpAny_pure q
  repeat (any_goals (first
    | assumption
    | (with_reducible refine wpAny_ite_false (decide_eq_false hs) ?_)
    | (with_reducible refine wpAny_ite_true (decide_eq_true ha) ?_)
    | (with_reducible refine wpAny_bind (lim _ _ _ _ rfl ?_))
    | (with_reducible refine lim _ _ _ _ rfl ?_)
    | wp_step))
  all_goals (try rw [hr])
  all_goals (try dsimp only)
  repeat (any_goals (first
    | assumption
    | (with_reducible refine wpAny_ite_true (decide_eq_true ha) ?_)
    | wp_step))
set_option maxHeartbeats 8000000 in
theorem meets_text2 {x : PySem.Str} {u : Tok} {n : Int} (hl : ¬ (numSeenOf x).length ≤ 640) (hz : x.length ≤ sizeLine) (hn : PySem.intText? x = some n) :
    Meets (Builtin.«int.__new__» ⟨[.type "int", .str x u], []⟩) (fun A R s => s.heap.NoDigits ∧ (Made.int n).post (fun v s' => R (.ok (.ret v)) s') s) :=
  .of_wp fun prog w A R s hS => by
    obtain ⟨hd, h⟩ := hS
    obtain ⟨hp, g, d, tk, os⟩ := s
    have f1 := F.conv_sub_int
    have f2 := F.madeHere_int
    have f3 := str_int
    have f4 := str_idx
    have f5 := str_trunc
    have f6 : typeOf (.str x u) = pure (.type "str") := rfl
    have hr : (int_private% "readNumeral") 4300 10 (numSeenOf x) = (int_private% "Numeral.value") n ∧ ((numSeenOf x).length == (numTextOf x).length) = true := by
      rcases read4300 x hz with ⟨m, h1, h2, h3⟩ | ⟨h1, _⟩
      · rw [hn] at h1
        injection h1 with h1
        subst h1
        exact ⟨h3, h2⟩
      · rw [hn] at h1
        cases h1
    have hk := Hid.mk (And.intro hd (And.intro hl hr))
    clear hl hr hn hd hz
    repeat (any_goals (first
      | assumption
      | ((with_reducible show wpAny _ _ ((int_private% "intFromText") _ _ _) _ _ _); refine wp_text2 (by exact hk.out.1) hk.out.2.1 hk.out.2.2.1 hk.out.2.2.2 ?_)
      | wp_step))
    all_goals first | exact ⟨_, rfl, h⟩ | skip
theorem call_text2 {prog : Program} {w : World} {A : Around} {E : Value → Shared → Prop} {s : Shared} {Q : Value → Shared → Prop} {x : PySem.Str} {t : Tok} {n : Int} (hd : s.heap.NoDigits) (hs : (numSeenOf x).length = x.length) (hn : PySem.intText? x = some n) (hz : x.length ≤ sizeLine) (h : Q (.int n s.toks) { s with toks := s.toks + 1 }) :
    wpAny (model prog w) A (call (.type "int") [.str x t]) Q E s := by
  by_cases hl : x.length ≤ 640
  · exact call_text hn hl h
  · exact call_int_1 (meets_text2 (by rw [hs]; exact hl) hz hn) ⟨hd, rfl, h⟩
end KIN
end PySem.W
namespace Bx
open PySem PySem.Spec PyProof.Rows L2
/-! ### int(text), text * int -/
section
variable {X : Cx}
def HasDigits (K : PySem.W.Frag) : Prop := PySem.W.nsIn K cStatics "sys.int_max_str_digits" = some none
theorem call_int_text (hD : HasDigits X.K) : CallR X (.type "int") (fun xs H Q => ∃ a n, xs = [.str a] ∧ PySem.intText? a = some n ∧ ((numSeenOf a).length = a.length ∧ a.length ≤ sizeLine) ∧ Q (.int n) H) := by
  intro pins s σ H xs us Q I rs h
  obtain ⟨a, n, rfl, hn, hl, h⟩ := h
  cases rs with
  | cons r1 rs =>
    cases rs
    obtain ⟨t, rfl⟩ := r1
    obtain ⟨mc, hns, _⟩ := I.nolimit
    exact PySem.W.KIN.call_text2 ⟨mc, hns, PySem.W.ns_none_of I.kIn hns hD⟩ hl.1 hn hl.2 ⟨.int n, H, I.tok _, ⟨_, rfl⟩, h⟩
def gInt : GL
  | [.int i], k => k (.int i)
  | [.bl b], k => k (.int (if b then 1 else 0))
  | [.str a], k => ((numSeenOf a).length = a.length ∧ a.length ≤ sizeLine) ∧ onSome (PySem.intText? a) fun n => k (.int n)
  | _, _ => False
theorem calld_int (hD : HasDigits X.K) : CallD X (.type "int") gInt := by
  refine ⟨_, call_int1.or (call_int_text hD), fun H O xs ds k R own vs g f => ?_⟩
  unfold gInt at g
  split at g
  · obtain ⟨v, rfl, h⟩ := vs.one
    exact .inl (.inl ⟨_, by rw [h.int], fin_id own f (.int _) g⟩)
  · obtain ⟨v, rfl, h⟩ := vs.one
    exact .inl (.inr ⟨_, by rw [h.bl], fin_id own f (.int _) g⟩)
  · obtain ⟨v, rfl, h⟩ := vs.one
    obtain ⟨n, e, g2⟩ := onSome.ex g.2
    exact .inr ⟨_, n, by rw [h.str], e, g.1, fin_id own f (.int _) g2⟩
  · exact g.elim
/-- text * int -/
def repS (x : Str) (n : Nat) : Str := ⟨(List.replicate n x.cps.toList).flatten.toArray⟩
theorem fold_rep (x : Array Nat) : ∀ (n : Nat) (acc : Array Nat), (List.replicate n x).foldl (· ++ ·) acc = acc ++ (List.replicate n x.toList).flatten.toArray
  | 0, acc => by simp
  | n + 1, acc => by
    rw [List.replicate_succ, List.foldl_cons, fold_rep x n, List.replicate_succ, List.flatten_cons]
    apply Array.ext'
    simp
theorem len_rep (xs : List Nat) : ∀ k : Nat, (List.replicate k xs).flatten.length = k * xs.length
  | 0 => by simp
  | k + 1 => by
    rw [List.replicate_succ, List.flatten_cons, List.length_append, len_rep xs k, Nat.succ_mul, Nat.add_comm]
theorem op_mul_str : OpR X (binaryOp .Mult) (fun x y H Q => ∃ (a : Str) (n : Int), x = .str a ∧ y = .int n ∧ 1 < n ∧ n < 2 ^ 32 ∧ 0 < a.length ∧ a.length * n.toNat ≤ sizeLine ∧ Q (.str (repS a n.toNat)) H) := by
  intro pins s σ H x y v u Q I rx ry h
  obtain ⟨a, n, rfl, rfl, h1, h2, h3, h4, q⟩ := h
  obtain ⟨t, rfl⟩ := rx
  obtain ⟨t', rfl⟩ := ry
  have e : (List.replicate n.toNat a.cps).foldl (· ++ ·) #[] = (List.replicate n.toNat a.cps.toList).flatten.toArray := by
    rw [fold_rep]; simp
  have hz := sizeLine_eq
  have hal : a.length ≤ a.length * n.toNat := Nat.le_mul_of_pos_right _ (by omega)
  have hc : ¬ (n == 1 || a.length == 0) = true := by
    simp only [Bool.or_eq_true, beq_iff_eq]
    omega
  refine PySem.P.mul_str ?_ (fun _ _ => ?_) (fun _ _ => ?_) ?_
  · rw [decide_eq_false (by omega), decide_eq_false (by omega)]; rfl
  · have h5 : (2 ^ 30 : Int) ≤ (2 ^ 63 - 1) / n := by
      rw [Int.le_ediv_iff_mul_le (by omega)]
      omega
    omega
  · show decide (a.length * n.toNat > sizeLine) = false
    exact decide_eq_false (by omega)
  · rw [if_neg (by omega), if_neg hc, e]
    refine ⟨?_, .str _, H, I.tok _, ⟨_, rfl⟩, q⟩
    show (List.replicate n.toNat a.cps.toList).flatten.toArray.size ≤ sizeLine
    have : (List.replicate n.toNat a.cps.toList).flatten.length = n.toNat * a.length := len_rep a.cps.toList n.toNat
    rw [List.size_toArray, this, Nat.mul_comm]
    exact h4
def gMul2 : G2
  | .str a, .int n, k => (1 < n ∧ n < 2 ^ 32 ∧ 0 < a.length ∧ a.length * n.toNat ≤ sizeLine) ∧ k (.str (repS a n.toNat))
  | x, y, k => gMul x y k
theorem opd_mul2 : OpD X (binaryOp .Mult) gMul2 := by
  obtain ⟨r, o1, o2⟩ := opd_mul (X := X)
  refine ⟨_, o1.or op_mul_str, fun H O x y dx dy k R own vx vy g f => ?_⟩
  unfold gMul2 at g
  split at g
  · exact .inr ⟨_, _, vx.str, vy.int, g.1.1, g.1.2.1, g.1.2.2.1, g.1.2.2.2, fin_id own f (.str _) g.2⟩
  · exact .inl (o2 H O x y _ _ k R own vx vy g f)
end
end Bx
namespace Bx
open PySem PySem.Spec PyProof.Rows L2

/-! ### list comprehensions -/
def wipeR : Rho → List Nat → Rho
  | ρ, [] => ρ
  | ρ, v :: vs => rset (wipeR ρ vs) v none
/-- the comprehension's own slots as they stood (an owned list is forgotten) -/
def oldD : Option D → Option D
  | some (.lst true _) => none
  | some (.odc _ _) => none
  | o => o
def backR (ρ1 : Rho) : Rho → List Nat → Rho
  | ρ, [] => ρ
  | ρ, v :: vs => rset (backR ρ1 ρ vs) v (oldD (rget ρ1 v))
abbrev DTs := DT
def tAll (k : Bool → Rho → Prop) (ρ : Rho) : Prop := k true ρ
def kCo3 (vs : List Nat) (go : List D → Rho → Prop) (acc : List D) (d : D) (ρ : Rho) : Prop := match d with
  | .lst _ xs => go (acc ++ [.lst false xs]) (wipeR ρ vs)
  | .odc ks xs => go (acc ++ [.dic ks xs]) (wipeR ρ vs)
  | d => go (acc ++ [d]) (wipeR ρ vs)
def kCo2 (vs : List Nat) (elt : DE) (go : List D → Rho → Prop) (acc : List D) (b : Bool) (ρ : Rho) : Prop := pick b (elt (kCo3 vs go acc)) (fun ρ => go acc (wipeR ρ vs)) ρ
def kCo1 (vs : List Nat) (cond : DT) (elt : DE) (go : List D → Rho → Prop) (acc : List D) (ρ : Rho) : Prop := cond (kCo2 vs elt go acc) ρ
def coGo (vs : List Nat) (tg : DG) (cond : DT) (elt : DE) (ρ1 : Rho) (k : D → Rho → Prop) : List D → List D → Rho → Prop
  | [], acc, ρ => k (.lst true acc) (backR ρ1 ρ vs)
  | x :: r, acc, ρ => tg x (kCo1 vs cond elt (coGo vs tg cond elt ρ1 k r) acc) ρ
def kCo (vs : List Nat) (tg : DG) (cond : DT) (elt : DE) (k : D → Rho → Prop) (items : List D) (ρ : Rho) : Prop := items.length ≤ sizeLine ∧ coGo vs tg cond elt ρ k items [] (wipeR ρ vs)
def dComp (i : DI) (vs : List Nat) (tg : DG) (cond : DT) (elt : DE) (k : D → Rho → Prop) (ρ : Rho) : Prop := i (kCo vs tg cond elt k) ρ

section
variable {K : PySem.W.Frag} {ρ ρ1 ρ' : Rho} {σ : L2.St} {H H1 H' : Hp} {O O1 O' : Addr → Prop}
theorem wipeR_len : ∀ vs : List Nat, (wipeR ρ vs).length = ρ.length
  | [] => rfl
  | v :: vs => by unfold wipeR; rw [rset_len, wipeR_len vs]
theorem wipeR_get : ∀ {vs : List Nat} {i : Nat} {d : D}, (wipeR ρ vs)[i]? = some (some d) → ρ[i]? = some (some d) ∧ i ∉ vs
  | [], _, _, h => ⟨h, by simp⟩
  | v :: vs, i, d, h => by
    unfold wipeR at h
    rcases get_rset h with ⟨_, e, _⟩ | ⟨n, h⟩
    · cases e
    · obtain ⟨h1, h2⟩ := wipeR_get h
      exact ⟨h1, by simp only [List.mem_cons, not_or]; exact ⟨n, h2⟩⟩
theorem wipe_not : ∀ {vs : List Nat} {i : Nat}, i ∉ vs → (wipe σ vs)[i]? = σ[i]?
  | [], _, _ => rfl
  | v :: vs, i, h => by
    simp only [List.mem_cons, not_or] at h
    unfold wipe
    rw [List.getElem?_set_ne (Ne.symm h.1), wipe_not h.2]
theorem wipe_in : ∀ {vs : List Nat} {i : Nat}, i ∈ vs → (wipe σ vs)[i]? = if i < σ.length then some none else none
  | v :: vs, i, h => by
    unfold wipe
    by_cases e : v = i
    · subst e
      by_cases hl : v < σ.length
      · rw [if_pos hl, List.getElem?_set_self (by rw [wipe_length]; exact hl)]
      · rw [if_neg hl, List.getElem?_eq_none (by rw [List.length_set, wipe_length]; omega)]
    · rw [List.getElem?_set_ne e]
      exact wipe_in ((List.mem_cons.mp h).resolve_left (Ne.symm e))
theorem sr_wipe (vs : List Nat) {σ' : L2.St} (s : Sr K ρ σ' H O) (e : wipe σ' vs = wipe σ vs) : Sr K (wipeR ρ vs) (wipe σ vs) H O := by
  have g : ∀ i, i ∉ vs → (wipe σ vs)[i]? = σ'[i]? := fun i hi => by rw [← e, wipe_not hi]
  refine ⟨by rw [wipeR_len, ← e, wipe_length]; exact s.len, fun i d h => ?_, fun i j xs ys a h1 o1 h2 o2 h3 h4 => ?_, s.own⟩
  · obtain ⟨h1, h2⟩ := wipeR_get h
    rw [g i h2]
    exact s.slot i d h1
  · obtain ⟨h1, n1⟩ := wipeR_get h1
    obtain ⟨h2, n2⟩ := wipeR_get h2
    rw [g i n1] at h3
    rw [g j n2] at h4
    exact s.uniq i j xs ys a h1 o1 h2 o2 h3 h4
theorem sl_wipe (vs : List Nat) {σ' : L2.St} (e : wipe σ' vs = wipe σ vs) {a : Addr} (h : Sl (wipeR ρ vs) (wipe σ vs) a) : Sl ρ σ' a := by
  obtain ⟨i, xs, h1, ho, h2⟩ := h
  obtain ⟨h1, n1⟩ := wipeR_get h1
  rw [← e, wipe_not n1] at h2
  exact ⟨i, xs, h1, ho, h2⟩
theorem backR_len : ∀ vs : List Nat, (backR ρ1 ρ vs).length = ρ.length
  | [] => rfl
  | v :: vs => by unfold backR; rw [rset_len, backR_len vs]
theorem backR_get : ∀ {vs : List Nat} {i : Nat} {d : D}, (backR ρ1 ρ vs)[i]? = some (some d) → (i ∈ vs ∧ rget ρ1 i = some d ∧ d.own = false) ∨ (i ∉ vs ∧ ρ[i]? = some (some d))
  | [], _, _, h => .inr ⟨by simp, h⟩
  | v :: vs, i, d, h => by
    unfold backR at h
    rcases get_rset h with ⟨ei, e, _⟩ | ⟨n, h⟩
    · subst ei
      refine .inl ⟨List.mem_cons_self, ?_⟩
      unfold oldD at e
      split at e
      · cases e
      · cases e
      · rename_i hn hn2
        refine ⟨e.symm, ?_⟩
        cases d with
        | lst o xs =>
          cases o with
          | false => rfl
          | true => exact absurd e.symm (by intro z; exact hn xs z)
        | odc ks xs => exact absurd e.symm (by intro z; exact hn2 ks xs z)
        | _ => rfl
    · rcases backR_get h with ⟨h1, h2⟩ | ⟨h1, h2⟩
      · exact .inl ⟨List.mem_cons_of_mem _ h1, h2⟩
      · exact .inr ⟨by simp only [List.mem_cons, not_or]; exact ⟨n, h1⟩, h2⟩
/-- behind the block: the frame's own slots -/
theorem sr_back (vs : List Nat) (s1 : Sr K ρ1 σ H1 O1) (s : Sr K ρ (wipe σ vs) H O) (e : Ext (Sl ρ1 σ) H1 O1 H O) (sub : ∀ a, Sl ρ (wipe σ vs) a → Sl ρ1 σ a) : After K ρ1 σ H1 O1 (backR ρ1 ρ vs) H O := by
  have own : ∀ {i : Nat} {d : D}, (backR ρ1 ρ vs)[i]? = some (some d) → d.own = true → i ∉ vs ∧ ρ[i]? = some (some d) := fun {i xs} h ho => by
    rcases backR_get h with ⟨_, _, z⟩ | z
    · rw [z] at ho; cases ho
    · exact z
  refine ⟨⟨by rw [backR_len, s.len, wipe_length], fun i d h => ?_, fun i j xs ys a h1 o1 h2 o2 h3 h4 => ?_, s.own⟩, e, fun a ⟨i, xs, h1, o1, h2⟩ => ?_⟩
  · rcases backR_get h with ⟨hi, h1, ho⟩ | ⟨hi, h1⟩
    · obtain ⟨v, g1, g2⟩ := s1.slot i d (rget_get h1)
      refine ⟨v, g1, ?_⟩
      cases g2 with
      | rep r => exact .rep (r.ext e s1.lsts)
      | own _ _ r => rw [r.o] at ho; cases ho
    · obtain ⟨v, g1, g2⟩ := s.slot i d h1
      rw [wipe_not hi] at g1
      exact ⟨v, g1, g2⟩
  · obtain ⟨n1, h1⟩ := own h1 o1
    obtain ⟨n2, h2⟩ := own h2 o2
    exact s.uniq i j xs ys a h1 o1 h2 o2 (by rw [wipe_not n1]; exact h3) (by rw [wipe_not n2]; exact h4)
  · obtain ⟨n1, h1⟩ := own h1 o1
    exact sub a ⟨i, xs, h1, o1, by rw [wipe_not n1]; exact h2⟩
end

section
variable {X : Cx} {elt tg iter : Expr} {ifs : List Expr} {scope : Scope} {own : List (Str × Nat)} {pos : Pos}
/-- a clause's tests -/
def SF (X : Cx) (ifs : List Expr) (w : DT) : Prop :=
  ∃ t, PTs X ifs t ∧ ∀ (σ : L2.St) (H : Hp) (ρ : Rho) (O : Addr → Prop) (k : Bool → Rho → Prop) (R : Bool → Hp → Prop), Sr X.K ρ σ H O → w k ρ →
    (∀ b H' ρ' O', After X.K ρ σ H O ρ' H' O' → k b ρ' → R b H') → t σ H R
theorem sf_nil : SF X [] tAll := ⟨_, pts_nil, fun σ H ρ O k R s h q => q true H ρ O (.refl s) h⟩
theorem sf_one {c : Expr} {w : DT} (h : ST X c w) : SF X [c] w := by
  obtain ⟨t, p, f⟩ := h
  exact ⟨t, pts_one p, f⟩
theorem SF.pt {w : DT} (h : SF X ifs w) : PTs X ifs (tTt X.K w) := by
  obtain ⟨t, p, f⟩ := h
  exact ⟨fun pins s σ H Q I ⟨ρ, O, k, sr, hw, q⟩ => p.run pins s σ H Q I (f σ H ρ O k Q sr hw q)⟩
theorem frz_go {vs : List Nat} {go : List D → Rho → Prop} {acc : List D} {d : D} {ρ : Rho} (h : kCo3 vs go acc d ρ) : go (acc ++ [d.frz]) (wipeR ρ vs) := by
  cases d <;> exact h
theorem comp_ok {i : DI} {ws : List Nat} {g : DG} {cond : DT} {w : DE} {wi : TI}
    (fi : ∀ (σ : L2.St) (H : Hp) (ρ : Rho) (O : Addr → Prop) (k : List D → Rho → Prop) (R : It → Hp → Prop), Sr X.K ρ σ H O → i k ρ →
      (∀ J H' ρ' O' items, After X.K ρ σ H O ρ' H' O' → Items X.K J H' O' (Sl ρ' σ) items → k items ρ' → R J H') → wi σ H R)
    (hw : ∀ i ∈ ws, i ∈ own.map (·.2)) :
    ∀ (σ : L2.St) (H : Hp) (ρ : Rho) (O : Addr → Prop) (k : D → Rho → Prop) (R : VK), Sr X.K ρ σ H O → dComp i (own.map (·.2)) g cond w k ρ →
    (∀ v H' ρ' O' d, After X.K ρ σ H O ρ' H' O' → VOk X.K H H' O' v d → k d ρ' → R v H') → tLc wi (tGg X.K ws g) (tTt X.K cond) (tE X.K w) (own.map (·.2)) σ H R := by
  intro σ H ρ O k R s h q
  generalize own.map (·.2) = vs at hw h ⊢
  refine fi σ H ρ O _ _ s h fun J H1 ρ1 O1 items a1 it hk => ?_
  obtain ⟨hz, hk⟩ := hk
  intro Dp hD
  have hDs : ¬ Sl ρ1 σ Dp := a1.sr.nsl hD
  refine ⟨fun n m Hc => m = items.length - n ∧ ∃ (ρc : Rho) (Oc : Addr → Prop) (acc : List D) (vacc : List V), Sr X.K ρc (wipe σ vs) Hc Oc ∧ Ext (Sl ρ1 σ) H1 O1 Hc Oc ∧ (∀ a, Sl ρc (wipe σ vs) a → Sl ρ1 σ a) ∧
      Hc Dp = some (.lst vacc) ∧ Oc Dp ∧ Reps X.K Hc Oc vacc acc ∧ acc.length ≤ n ∧ coGo vs g cond w ρ1 k (items.drop n) acc ρc, ⟨_, rfl, wipeR ρ1 vs, adO O1 Dp, [], [], ?_, ?_, ?_, upd_same, .inr rfl, .nil, Nat.le_refl _, hk⟩, fun n m Hc hm => ?_⟩
  · exact sr_wipe vs (a1.sr.ext0 (ext_own (o := .lst []) hD) (own_own a1.sr.own hD)).sr rfl
  · exact (ext_own hD).mono fun _ z => z.elim
  · exact fun a z => sl_wipe vs rfl z
  · obtain ⟨em, ρc, Oc, acc, vacc, sc, ec, sub, hc, oc, rc, hl, hgo⟩ := hm
    have itn := it Hc Oc sc.own ec n
    cases e : items.drop n with
    | nil =>
      rw [e] at hgo
      refine .inl ⟨itn.2 (by simpa using e), ?_⟩
      have ab := sr_back vs a1.sr sc ec sub
      exact q _ _ _ _ _ (a1.trans ab) ⟨.own oc hc (.lst rc), fun a _ ea => by cases ea; exact a1.back _ hD⟩ hgo
    | cons d rst =>
      rw [e] at hgo
      have hd : items[n]? = some d := by
        have := congrArg (·[0]?) e
        simpa using this
      have hlt : n < items.length := (List.getElem?_eq_some_iff.mp hd).1
      have er : items.drop (n + 1) = rst := by
        have := congrArg List.tail e
        simpa using this
      obtain ⟨go, yl⟩ := itn.1 d hd
      refine .inr ⟨go, fun Hn => ∃ (ρc : Rho) (Oc : Addr → Prop) (acc : List D) (vacc : List V), Sr X.K ρc (wipe σ vs) Hn Oc ∧ Ext (Sl ρ1 σ) H1 O1 Hn Oc ∧ (∀ a, Sl ρc (wipe σ vs) a → Sl ρ1 σ a) ∧
        Hn Dp = some (.lst vacc) ∧ Oc Dp ∧ Reps X.K Hn Oc vacc acc ∧ acc.length ≤ n + 1 ∧ coGo vs g cond w ρ1 k rst acc ρc, fun Hn ⟨r1, r2, r3, r4, r5⟩ => ⟨items.length - (n + 1), by omega, rfl, r1, r2, r3, r4, by rw [er]; exact r5⟩, fun x H2 y => ?_⟩
      obtain ⟨e2, own2, rx⟩ := yl x H2 y
      have a2 := sc.ext0 e2 own2
      have nown : d.own = true → ∀ a, x = .ref a → ¬ Sl ρc (wipe σ vs) a := fun e => by cases rx <;> cases e
      have hgo : g d (kCo1 vs cond w (coGo vs g cond w ρ1 k rst) acc) ρc := hgo
      -- the new list stands by itself
      have nDc : ¬ Sl ρc (wipe σ vs) Dp := fun z => hDs (sub _ z)
      refine ⟨d, ρc, Oc, _, a2.sr, .rep rx, nown, hgo, fun ρ3 σ3 s3 sl3 ot3 ln3 hk3 => ?_⟩
      have wq : wipe σ3 vs = wipe σ vs := by
        refine List.ext_getElem? fun j => ?_
        by_cases hj : j ∈ vs
        · rw [wipe_in hj, wipe_in hj, ln3, wipe_length]
        · rw [wipe_not hj, wipe_not hj, ot3 j fun z => hj (hw j z), wipe_not hj]
      refine ⟨wq, ρ3, Oc, _, s3, hk3, fun b H4 ρ4 O4 a4 hk4 => ?_⟩
      have sub3 : ∀ a, Sl ρ3 σ3 a → Sl ρ1 σ a := fun a z => (sl3 a z).elim (sub a) fun ⟨z1, _⟩ => by cases rx <;> cases z1
      have nD3 : ¬ Sl ρ3 σ3 Dp := fun z => hDs (sub3 _ z)
      have h2D := (e2.keep Dp _ hc id)
      have r2D : Reps X.K H2 Oc vacc acc := rc.ext e2 fun _ z => z.elim
      have e12 : Ext (Sl ρ1 σ) H1 O1 H2 Oc := ec.trans (fun a u hu z => z.elim) e2
      have k4 := a4.ext.keep Dp _ h2D.1 nD3
      have o2D : Oc Dp := oc
      have r4D : Reps X.K H4 O4 vacc acc := r2D.ext a4.ext s3.lsts
      have e14 : Ext (Sl ρ1 σ) H1 O1 H4 O4 := e12.trans (fun a u hu z => sub3 a z) a4.ext
      have sub4 : ∀ a, Sl ρ4 σ3 a → Sl ρ1 σ a := fun a z => sub3 a (a4.sub a z)
      cases b with
      | false =>
        refine iteF ⟨wipeR ρ4 vs, O4, acc, vacc, sr_wipe vs a4.sr wq, e14, fun a z => sub4 a (sl_wipe vs wq z), k4.1, k4.2.mpr o2D, r4D, Nat.le_succ_of_le hl, hk4⟩
      | true =>
        refine iteT ⟨ρ4, O4, _, a4.sr, hk4, fun yv H5 ρ5 O5 dy a5 vo5 hk5 => ?_⟩
        obtain ⟨O6, l6, a6, ry⟩ := After.freeze_val a4.sr a5 vo5 fun _ z => z
        have nD4 : ¬ Sl ρ4 σ3 Dp := fun z => hDs (sub4 _ z)
        have k5 := a6.ext.keep Dp _ k4.1 nD4
        have o6 : O6 Dp := k5.2.mpr (k4.2.mpr o2D)
        have r6 : Reps X.K H5 O6 vacc acc := r4D.ext a6.ext a4.sr.lsts
        have e16 : Ext (Sl ρ1 σ) H1 O1 H5 O6 := e14.trans (fun a u hu z => sub4 a z) a6.ext
        refine ⟨vacc, k5.1, ?_, ?_⟩
        · rw [r6.length]; omega
        · have eD : Ext (fun c => c = Dp) H5 O6 (upd H5 Dp (.lst (vacc ++ [yv]))) O6 := ⟨fun c u hc n => ⟨by rw [upd_ne n]; exact hc, Iff.rfl⟩, fun c u hc => by
            by_cases e : c = Dp
            · subst e; exact ⟨_, upd_same⟩
            · exact ⟨u, by rw [upd_ne e]; exact hc⟩⟩
          have LD : Lsts H5 O6 fun c => c = Dp := fun c z => by subst z; exact ⟨o6, _, k5.1, .lst⟩
          have s6 := sr_wipe vs a6.sr wq
          have nD6 : ¬ Sl (wipeR ρ5 vs) (wipe σ vs) Dp := fun z => hDs (sub4 _ (a6.sub _ (sl_wipe vs wq z)))
          refine ⟨wipeR ρ5 vs, O6, acc ++ [dy.frz], vacc ++ [yv], ⟨s6.len, fun j d' z => ?_, s6.uniq, fun c z => ?_⟩, ?_, fun a z => sub4 a (a6.sub a (sl_wipe vs wq z)), upd_same, o6, (r6.append (.cons ry .nil)).ext eD LD, by rw [List.length_append]; exact Nat.succ_le_succ hl, frz_go hk5⟩
          · obtain ⟨u, y1, y2⟩ := s6.slot j d' z
            refine ⟨u, y1, ?_⟩
            cases y2 with
            | rep r => exact .rep (r.ext eD LD)
            | @own c ws' zs o' hc rc' =>
              have nc : c ≠ Dp := fun z' => nD6 ⟨j, _, z, rc'.o, by rw [← z']; exact y1⟩
              exact .own o' (by rw [upd_ne nc]; exact hc) (rc'.ext eD LD)
          · by_cases e : c = Dp
            · subst e; exact ⟨_, upd_same, .lst⟩
            · obtain ⟨vs', q', w'⟩ := s6.own c z
              exact ⟨vs', by rw [upd_ne e]; exact q', w'⟩
          · refine ⟨fun c u hu n => ?_, fun c u hu => ?_⟩
            · obtain ⟨g1, g2⟩ := e16.keep c u hu n
              have nc : c ≠ Dp := ne_of_none hu hD
              exact ⟨by rw [upd_ne nc]; exact g1, g2⟩
            · obtain ⟨u', g⟩ := e16.dom c u hu
              have nc : c ≠ Dp := ne_of_none hu hD
              exact ⟨u', by rw [upd_ne nc]; exact g⟩
theorem se_comp {i : DI} {ws : List Nat} {g : DG} {cond : DT} {w : DE} (hc : X.calm = true) (hN : X.N.Nodup) (hi : SI X tg iter i) (ok : BlkOk X.N X.env.scope scope own)
    (hg : ∀ (s : Shared) (H : Hp) (C : Addr) (cl : List (Str × Addr)) (fp : List Addr), SG (X.blk s H scope (compEnvC scope cl C X.env) fp) ws tg g)
    (ht : ∀ (s : Shared) (H : Hp) (C : Addr) (cl : List (Str × Addr)) (fp : List Addr), SF (X.blk s H scope (compEnvC scope cl C X.env) fp) ifs cond)
    (he : ∀ (s : Shared) (H : Hp) (C : Addr) (cl : List (Str × Addr)) (fp : List Addr), SE (X.blk s H scope (compEnvC scope cl C X.env) fp) elt w)
    (hw : ∀ i ∈ ws, i ∈ own.map (·.2) := by decide) (hs : ∀ x, foldedSetIterable iter X.env x = pure x := by intro _; rfl) :
    SE X (.ListComp elt [⟨tg, iter, ifs, 0⟩] scope pos) (dComp i (own.map (·.2)) g cond w) := by
  obtain ⟨ti, pi, fi⟩ := hi
  exact ⟨_, pe_lc (g := tGg X.K ws g) (tt := tTt X.K cond) (te := tE X.K w) hc hN pi ok (fun s H C cl fp => (hg s H C cl fp).pg) (fun s H C cl fp => (ht s H C cl fp).pt) (fun s H C cl fp => (he s H C cl fp).pe) hs, comp_ok fi hw⟩
theorem ss_setComp {ios : List Nat} {j : Nat} {y : Str} {py spos : Pos} {i : DI} {ws : List Nat} {g : DG} {cond : DT} {w : DE} (hc : X.calm = true) (hN : X.N.Nodup) (hy : X.N[j]? = some y) (hyl : X.env.scope.names.lookup y = some .local)
    (hsw : swapsWith (.ListComp elt [⟨tg, iter, ifs, 0⟩] scope pos) (some (.Name y py)) spos.line X.env = pure true) (hi : SI X tg iter i) (ok : BlkOk X.N X.env.scope scope own)
    (hg : ∀ (s : Shared) (H : Hp) (C : Addr) (cl : List (Str × Addr)) (fp : List Addr), SG (X.blk s H scope (compEnvC scope cl C X.env) fp) ws tg g)
    (ht : ∀ (s : Shared) (H : Hp) (C : Addr) (cl : List (Str × Addr)) (fp : List Addr), SF (X.blk s H scope (compEnvC scope cl C X.env) fp) ifs cond)
    (he : ∀ (s : Shared) (H : Hp) (C : Addr) (cl : List (Str × Addr)) (fp : List Addr), SE (X.blk s H scope (compEnvC scope cl C X.env) fp) elt w)
    (hio : j ∉ ios := by decide) (hw : ∀ i ∈ ws, i ∈ own.map (·.2) := by decide) (hs : ∀ x, foldedSetIterable iter X.env x = pure x := by intro _; rfl) :
    SS X ios (.Assign [.Name y py] (.ListComp elt [⟨tg, iter, ifs, 0⟩] scope pos) spos) (dAsg j (dComp i (own.map (·.2)) g cond w)) := by
  obtain ⟨ti, pi, fi⟩ := hi
  refine ⟨_, ps_setLc (g := tGg X.K ws g) (tt := tTt X.K cond) (te := tE X.K w) hc hN hy hyl hsw pi ok (fun s H C cl fp => (hg s H C cl fp).pg) (fun s H C cl fp => (ht s H C cl fp).pt) (fun s H C cl fp => (he s H C cl fp).pe) hs, fun σ H ρ O D E s r h => ?_⟩
  exact comp_ok fi hw σ H ρ O _ _ s h fun v H' ρ' O' d a vo hk => r.nx _ _ _ _ (a.store s vo hio) hk
end
end Bx
namespace Bx
open PySem PySem.Spec PyProof.Rows L2
section
variable {X : Cx} {ios : List Nat} {pos : Pos}
/-- a, b, c = x, y, z -/
def kPar3c (i j l : Nat) (nx : Rho → Prop) (d d' d'' : D) (ρ : Rho) : Prop := nx (rset (rset (rset ρ i (some d)) j (some d')) l (some d''))
def kPar3b (i j l : Nat) (c : DE) (nx : Rho → Prop) (d d' : D) (ρ : Rho) : Prop := c (kPar3c i j l nx d d') ρ
def kPar3 (i j l : Nat) (b c : DE) (nx : Rho → Prop) (d : D) (ρ : Rho) : Prop := b (kPar3b i j l c nx d) ρ
def dPar3 (i j l : Nat) (a b c : DE) (E : DEnds) (ρ : Rho) : Prop := a (kPar3 i j l b c E.nx) ρ
theorem ss_par3 {i j l : Nat} {x y z : Str} {a b c : Expr} {wa wb wc : DE} {px py pz pt pt2 : Pos} {kt k2 : Nat} (hc : X.calm = true) (hN : X.N.Nodup) (hi : X.N[i]? = some x) (hj : X.N[j]? = some y) (hl : X.N[l]? = some z) (hij : i ≠ j) (hil : i ≠ l) (hjl : j ≠ l)
    (hx : X.env.scope.names.lookup x = some .local) (hy : X.env.scope.names.lookup y = some .local) (hz : X.env.scope.names.lookup z = some .local) (ha : SE X a wa) (hb : SE X b wb) (hcc : SE X c wc) (hio : ∀ t ∈ ios, t ≠ i ∧ t ≠ j ∧ t ≠ l := by decide)
    (hw : swappedStores [.Tuple [.Name x px, .Name y py, .Name z pz] kt pt] (.Tuple [a, b, c] k2 pt2) X.env = pure (some [x, y, z]))
    (hs : swapsWithSole [.Tuple [.Name x px, .Name y py, .Name z pz] kt pt] (.Tuple [a, b, c] k2 pt2) pos.line X.env = pure false := by rfl)
    (s1 : starEach [a, b, c] X.env = (false, eval a X.env) :: starEach [b, c] X.env := by rfl) (s2 : starEach [b, c] X.env = (false, eval b X.env) :: starEach [c] X.env := by rfl) (s3 : starEach [c] X.env = (false, eval c X.env) :: starEach [] X.env := by rfl) :
    SS X ios (.Assign [.Tuple [.Name x px, .Name y py, .Name z pz] kt pt] (.Tuple [a, b, c] k2 pt2) pos) (dPar3 i j l wa wb wc) := by
  obtain ⟨ta, pa, fa⟩ := ha
  obtain ⟨tb, pb, fb⟩ := hb
  obtain ⟨tc, pc, fc⟩ := hcc
  refine ⟨_, ps_par3 hc hN hi hj hl hij hil hjl hx hy hz (pa_cons pa (pa_cons pb (pa_cons pc pa_nil s3) s2) s1) hw hs, fun σ H ρ O D E s r h => ?_⟩
  refine fa σ H ρ O _ _ s h fun v H1 ρ1 O1 d a1 v1 h1 => ?_
  refine fb σ H1 ρ1 O1 _ _ a1.sr h1 fun v' H2 ρ2 O2 d' a2 v2 h2 => ?_
  refine fc σ H2 ρ2 O2 _ _ a2.sr h2 fun v'' H3 ρ3 O3 d'' a3 v3 h3 => ?_
  refine ⟨v, v', v'', rfl, ?_⟩
  have a12 := a1.trans a2
  have a13 := a12.trans a3
  have w1 : VOk X.K H H3 O3 v d := (v1.then s a1 a2).then s a12 a3
  have w2 : VOk X.K H1 H3 O3 v' d' := v2.then a1.sr a2 a3
  have S1 := a13.store (i := i) (ios := ios) s w1 fun t => (hio i t).1 rfl
  have own1 : ∀ a, d.own = true → v = .ref a → ∃ u, H1 a = some u := fun a e ea => by
    cases v1.val with
    | rep r => rw [r.nown] at e; cases e
    | own o h _ => cases ea; exact ⟨_, h⟩
  have own2 : ∀ a, d'.own = true → v' = .ref a → ∃ u, H2 a = some u := fun a e ea => by
    cases v2.val with
    | rep r => rw [r.nown] at e; cases e
    | own o h _ => cases ea; exact ⟨_, h⟩
  have n2 : d'.own = true → ∀ a, v' = .ref a → ¬ Sl (rset ρ3 i (some d)) (σ.set i (some v)) a := fun e a ea z => by
    have hn := w2.new a e ea
    rcases sl_store z a3.sr.len with z | ⟨z1, z2⟩
    · exact (a2.trans a3).nsl a1.sr hn z
    · obtain ⟨u, hu⟩ := own1 a z1 z2
      rw [hn] at hu; cases hu
  have S2 := S1.sr.store (i := j) w2.val n2
  have n3 : d''.own = true → ∀ a, v'' = .ref a → ¬ Sl (rset (rset ρ3 i (some d)) j (some d')) ((σ.set i (some v)).set j (some v')) a := fun e a ea z => by
    have hn := v3.new a e ea
    rcases sl_store z S1.sr.len with z | ⟨z1, z2⟩
    · rcases sl_store z a3.sr.len with z | ⟨z1, z2⟩
      · exact a3.nsl a2.sr hn z
      · obtain ⟨u, hu⟩ := own1 a z1 z2
        obtain ⟨u', hu'⟩ := a2.ext.dom a u hu
        rw [hn] at hu'; cases hu'
    · obtain ⟨u, hu⟩ := own2 a z1 z2
      rw [hn] at hu; cases hu
  refine r.nx _ _ _ O3 ⟨S2.store v3.val n3, fun b u hu n => ?_, S1.dom, fun k hk => ?_⟩ h3
  · obtain ⟨g1, g2, g3⟩ := S1.keep b u hu n
    refine ⟨g1, g2, fun z => ?_⟩
    rcases sl_store z S2.len with z | ⟨z1, z2⟩
    · rcases sl_store z S1.sr.len with z | ⟨z1, z2⟩
      · exact g3 z
      · have hn := a1.back _ (w2.new b z1 z2)
        rw [hn] at hu; cases hu
    · have hn := a12.back _ (v3.new b z1 z2)
      rw [hn] at hu; cases hu
  · rw [List.getElem?_set_ne (fun e => (hio k hk).2.2 e.symm), List.getElem?_set_ne (fun e => (hio k hk).2.1 e.symm), List.getElem?_set_ne (fun e => (hio k hk).1 e.symm)]
end
/-! ### built-ins' names -/
theorem bb_len : bootBuiltins "len" = some (.builtin "len") := by decide +kernel
theorem bb_abs : bootBuiltins "abs" = some (.builtin "abs") := by decide +kernel
theorem bb_sum : bootBuiltins "sum" = some (.builtin "sum") := by decide +kernel
theorem bb_max : bootBuiltins "max" = some (.builtin "max") := by decide +kernel
theorem bb_min : bootBuiltins "min" = some (.builtin "min") := by decide +kernel
theorem bb_all : bootBuiltins "all" = some (.builtin "all") := by decide +kernel
theorem bb_any : bootBuiltins "any" = some (.builtin "any") := by decide +kernel
theorem bb_int : bootBuiltins "int" = some (.type "int") := by decide +kernel
theorem bb_bool : bootBuiltins "bool" = some (.type "bool") := by decide +kernel
theorem bb_str : bootBuiltins "str" = some (.type "str") := by decide +kernel
theorem bb_list : bootBuiltins "list" = some (.type "list") := by decide +kernel
theorem bb_tuple : bootBuiltins "tuple" = some (.type "tuple") := by decide +kernel
theorem bb_dict : bootBuiltins "dict" = some (.type "dict") := by decide +kernel
theorem ty_int : tysOk "int" = true := by decide +kernel
theorem ty_bool : tysOk "bool" = true := by decide +kernel
theorem ty_str : tysOk "str" = true := by decide +kernel
theorem ty_list : tysOk "list" = true := by decide +kernel
theorem ty_tuple : tysOk "tuple" = true := by decide +kernel
theorem ty_dict : tysOk "dict" = true := by decide +kernel

/-- nothing is promised -/
theorem fn_zero {P : Program} {w : World} {K : PySem.W.Frag} {mg : Str → Option Value} {base : Heap} {f : Addr} {fd : FuncData} {k : Nat} {ps : List Str} {ios : List Nat} {W : PSpec} (h : ∀ ds Q, ¬ W ds Q) : FnG P w K mg base k f fd ps (spD K ios W) := by
  have no : ∀ vs H Q E, ¬ spD K ios W vs H Q E := fun vs H Q E ⟨ds, O, Pd, _, _, z, _⟩ => h _ _ z
  exact ⟨fun vs H Q E h => absurd h (no vs H Q E), fun A outer s H args us vs Q E _ _ _ _ h => absurd h (no vs H Q E)⟩
end Bx
namespace Bx
open PySem PySem.Spec PyProof.Rows L2
/-- what the law promises: of at most 63 ints, True -/
def CLaw : PSpec := fun ds Q => ∃ ns : List Int, ds = [.scr (ns.map D.int)] ∧ ns.length ≤ 63 ∧ Q (.bl true) []
theorem law_start {K : PySem.W.Frag} {H : Hp} {a : Addr} {ns : List Int} {E : XK} (hl : ns.length ≤ 63) (hO : Only H) (hS : SqL K H a (ns.map V.int)) : spD K [] CLaw [.ref a] H (fun v _ => v = .bl true) E := by
  have hs : Scr K H a (ns.map V.int) := by
    rcases hS with (h | ⟨o, h⟩) | h
    · rcases hO a with z | ⟨o, xs, z⟩
      · rw [h] at z; cases z
      · rw [h] at z; cases z
    · exact .inl ⟨o, h⟩
    · exact .inr h
  have own : Own H no := fun _ z => z.elim
  have r : Reps K H no [.ref a] [.scr (ns.map D.int)] := .cons (.scr hs (Reps.of_ints ns)) .nil
  obtain ⟨sr, _⟩ := sr_reps own r
  refine ⟨_, no, fun d _ => d = .bl true, sr, fun k xs h ho => ?_, ⟨ns, rfl, hl, rfl⟩, fun v H' O' d outs _ _ vo _ h => ?_⟩
  · obtain ⟨v, _, q⟩ := r.get h
    rw [q.nown] at ho; cases ho
  · subst h
    exact vo.val.bl
end Bx
namespace Bx
open PySem PySem.Spec PyProof.Rows L2
section
variable {X : Cx}
def gIAdd : G2 := gII0 fun i j => .int (i + j)
theorem opd_iadd : OpD X (inplaceOp .Add) gIAdd := opd_ii0 iop_add fun _ _ _ _ _ => .int _
def gISub : G2 := gII0 fun i j => .int (i - j)
theorem opd_isub : OpD X (inplaceOp .Sub) gISub := opd_ii0 iop_sub fun _ _ _ _ _ => .int _
def gIMul : G2 := gII CMul fun i j => .int (i * j)
theorem opd_imul : OpD X (inplaceOp .Mult) gIMul := opd_ii iop_mul fun _ _ _ _ _ => .int _
end
end Bx
namespace Bx
open PySem PySem.Spec PyProof.Rows L2
theorem ends_rt {ios : List Nat} {P : D → List D → Prop} {d : D} {ρ : Rho} : (endsOf ios P).rt d ρ = onSome (outsOf ios ρ) (P d) := rfl
theorem ends_nx {ios : List Nat} {P : D → List D → Prop} {ρ : Rho} : (endsOf ios P).nx ρ = onSome (outsOf ios ρ) (P .non) := rfl
theorem onSome_some {α : Type} {a : α} {k : α → Prop} : onSome (some a) k = k a := rfl
theorem outs0 {ρ : Rho} : outsOf [] ρ = some [] := rfl
theorem rget_s {x : Option D} {r : Rho} {n : Nat} : rget (x :: r) (n + 1) = rget r n := rfl
theorem rget_0 {x : Option D} {r : Rho} : rget (x :: r) 0 = x := rfl
theorem rset_s {x d : Option D} {r : Rho} {n : Nat} : rset (x :: r) (n + 1) d = x :: rset r n d := rfl
theorem rset_0 {x d : Option D} {r : Rho} : rset (x :: r) 0 d = d :: r := rfl
theorem frz_lst {o : Bool} {xs : List D} : (D.lst o xs).frz = .lst false xs := rfl
theorem frz_tup {xs : List D} : (D.tup xs).frz = .tup xs := rfl
theorem frz_int {i : Int} : (D.int i).frz = .int i := rfl
theorem frz_bl {i : Bool} : (D.bl i).frz = .bl i := rfl
theorem frz_str {i : Str} : (D.str i).frz = .str i := rfl
theorem frz_scr {xs : List D} : (D.scr xs).frz = .scr xs := rfl
theorem frz_dic {ks : List Key} {xs : List D} : (D.dic ks xs).frz = .dic ks xs := rfl
theorem frz_non : D.non.frz = .non := rfl
/-- a frozen value -/
def Fz (d : D) : Prop := d.frz = d
theorem i62_of {j : Int} (h1 : -1000000000000 ≤ j) (h2 : j ≤ 1000000000000) : i62 j := ⟨by omega, by omega⟩
/-- a for loop, by what holds ahead of each turn -/
theorem for_rule {g : DG} {b : DS} {E : DEnds} (I : List D → Rho → Prop) {items : List D} {ρ : Rho} (h0 : I items ρ) (hn : ∀ ρ, I [] ρ → E.nx ρ)
    (hs : ∀ x r ρ (N : Rho → Prop), I (x :: r) ρ → (∀ ρ', I r ρ' → N ρ') → g x (kForB b E N) ρ) : forGo g b E items ρ := by
  induction items generalizing ρ with
  | nil => exact hn ρ h0
  | cons x r ih => exact hs x r ρ _ h0 fun ρ' h' => ih h'
/-- a while loop, by a measure -/
theorem while_rule {c : DT} {b : DS} {E : DEnds} (I : Nat → Rho → Prop) {n : Nat} {ρ : Rho} (h0 : I n ρ)
    (hs : ∀ n ρ (N : Rho → Prop), I n ρ → (∀ m ρ', m < n → I m ρ' → N ρ') → c (kWh b E N) ρ) : dWhile c b E ρ := by
  refine ⟨n + 1, ?_⟩
  have go : ∀ m n ρ, n < m → I n ρ → whGo c b E m ρ := fun m => by
    induction m with
    | zero => exact fun n ρ h _ => absurd h (Nat.not_lt_zero _)
    | succ m ih => exact fun n ρ h i => hs n ρ _ i fun k ρ' hk i' => ih k ρ' (by omega) i'
  exact go (n + 1) n ρ (Nat.lt_succ_self n) h0
/-- a comprehension, by what holds ahead of each turn -/
theorem comp_rule {vs : List Nat} {tg : DG} {cond : DT} {elt : DE} {ρ1 : Rho} {k : D → Rho → Prop} (I : List D → List D → Rho → Prop) {items : List D} {ρ : Rho} (h0 : I items [] ρ) (hn : ∀ acc ρ, I [] acc ρ → k (.lst true acc) (backR ρ1 ρ vs))
    (hs : ∀ x r acc ρ (N : List D → Rho → Prop), I (x :: r) acc ρ → (∀ acc' ρ', I r acc' ρ' → N acc' ρ') → tg x (kCo1 vs cond elt N acc) ρ) : coGo vs tg cond elt ρ1 k items [] ρ := by
  have go : ∀ items acc ρ, I items acc ρ → coGo vs tg cond elt ρ1 k items acc ρ := fun items => by
    induction items with
    | nil => exact fun acc ρ h => hn acc ρ h
    | cons x r ih => exact fun acc ρ h => hs x r acc ρ _ h fun acc' ρ' h' => ih acc' ρ' h'
  exact go items [] ρ h0
end Bx
namespace Bx
open PySem L2
theorem atI_nat' {α : Type} {xs : List α} {i : Int} (h0 : 0 ≤ i) : atI xs i = xs[i.toNat]? := by
  unfold atI ixN
  rw [if_pos h0]
  by_cases h : i < xs.length
  · rw [if_pos h]; rfl
  · rw [if_neg h]
    rw [List.getElem?_eq_none (by omega)]; rfl
theorem atI_map {α β : Type} {f : α → β} {xs : List α} {i : Nat} {a : α} (h : xs[i]? = some a) : atI (xs.map f) (i : Int) = some (f a) := by
  rw [atI_nat' (by omega)]
  simp [h]
theorem atI_int {row : List Int} {i : Nat} (h : i < row.length) : atI (row.map D.int) (i : Int) = some (.int (row.getD i 0)) := by
  refine atI_map ?_
  rw [List.getD_eq_getElem?_getD, List.getElem?_eq_getElem h]; rfl
theorem cdiv2 {i : Int} : CDiv i 2 := ⟨by decide, by decide⟩
end Bx

namespace Bx
open PySem L2
open PySem.NumText (AllDigits digitsVal)
/-! ### texts of figures -/
theorem seen_digits {x : Str} (h : AllDigits x.cps.toList) : (numSeenOf x).length = x.length := by
  have h1 : x.cps.all (· < 128) = true := by
    rw [← Array.all_toList]
    exact List.all_eq_true.mpr fun c hc => decide_eq_true (by have := h c hc; omega)
  have h2 : numTextOf x = x.cps.toList := if_pos h1
  have h3 : ∀ l : List Nat, (∀ c ∈ l, 48 ≤ c ∧ c ≤ 57) → l.takeWhile (· != 0) = l := fun l => by
    induction l with
    | nil => exact fun _ => rfl
    | cons c r ih =>
      intro hc
      have := hc c List.mem_cons_self
      rw [List.takeWhile_cons, if_pos (by simp; omega), ih fun d hd => hc d (List.mem_cons_of_mem _ hd)]
  show ((numTextOf x).takeWhile (· != 0)).length = x.length
  rw [h2, h3 _ h]
  exact Array.length_toList
theorem foldl_ge : ∀ (l : List Nat) (a b : Nat), a ≤ b → a ≤ l.foldl (fun acc c => acc * 10 + (c - 48)) b
  | [], _, _, h => h
  | c :: r, a, b, h => foldl_ge r a _ (by show a ≤ b * 10 + (c - 48); omega)
/-- int("1" + "0" * n), n great -/
theorem big_text {n : Nat} (h0 : 0 < n) (h1 : n ≤ 4200) : ∃ m : Int, 0 < m ∧ PySem.intText? (("1" : Str) ++ repS "0" n) = some m ∧ (numSeenOf (("1" : Str) ++ repS "0" n)).length = (("1" : Str) ++ repS "0" n).length ∧ (("1" : Str) ++ repS "0" n).length = n + 1 := by
  have e : (("1" : Str) ++ repS "0" n).cps.toList = 49 :: List.replicate n 48 := by
    have a : (("1" : Str) ++ repS "0" n).cps = ("1" : Str).cps ++ (repS "0" n).cps := rfl
    rw [a]
    unfold repS
    have b : (("0" : Str)).cps.toList = [48] := by decide
    have c : (("1" : Str)).cps.toList = [49] := by decide
    rw [Array.toList_append, b, c]
    simp
  have d : AllDigits (("1" : Str) ++ repS "0" n).cps.toList := by
    rw [e]
    intro c hc
    rcases List.mem_cons.mp hc with rfl | hc
    · decide
    · rw [(List.mem_replicate.mp hc).2]; decide
  have hl : (("1" : Str) ++ repS "0" n).length = n + 1 := by
    have : (("1" : Str) ++ repS "0" n).length = (("1" : Str) ++ repS "0" n).cps.toList.length := Array.length_toList.symm
    rw [this, e]; simp
  refine ⟨_, ?_, PySem.intText_digits d (by rw [e]; simp) (by omega), seen_digits d, hl⟩
  rw [e]
  unfold digitsVal
  have := foldl_ge (List.replicate n 48) 1 1 (Nat.le_refl _)
  show (0 : Int) < ((List.foldl _ _ _ : Nat) : Int)
  rw [List.foldl_cons]
  show (0 : Int) < ((List.foldl (fun acc c => acc * 10 + (c - 48)) 1 (List.replicate n 48) : Nat) : Int)
  omega
end Bx
namespace Bx
open PySem L2
theorem big_ok {p : Int → Prop} (h : ∀ m : Int, 0 < m → p m) : ((1 : Int) < 4000 ∧ (4000 : Int) < 2 ^ 32 ∧ 0 < ("0" : Str).length ∧ ("0" : Str).length * Int.toNat 4000 ≤ sizeLine) ∧ ("1" : Str).length + (repS "0" (Int.toNat 4000)).length ≤ sizeLine ∧
    ((numSeenOf (("1" : Str) ++ repS "0" (Int.toNat 4000))).length = (("1" : Str) ++ repS "0" (Int.toNat 4000)).length ∧ (("1" : Str) ++ repS "0" (Int.toNat 4000)).length ≤ sizeLine) ∧ onSome (PySem.intText? (("1" : Str) ++ repS "0" (Int.toNat 4000))) p := by
  obtain ⟨m, m0, m1, m2, m3⟩ := big_text (n := 4000) (by decide) (by decide)
  have e4 : ((4000 : Int)).toNat = 4000 := rfl
  have sl := sizeLine_eq
  rw [e4]
  have s0 : ("0" : Str).length = 1 := by decide
  have s1 : ("1" : Str).length = 1 := by decide
  have l4 : (repS "0" 4000).length = 4000 := by
    have : (repS "0" 4000).length = (List.replicate 4000 ("0" : Str).cps.toList).flatten.length := by
      show (List.replicate 4000 ("0" : Str).cps.toList).flatten.toArray.size = _
      rw [List.size_toArray]
    rw [this, len_rep]
    rfl
  rw [m1]
  exact ⟨⟨by decide, by decide, by rw [s0]; decide, by rw [s0, sl]; decide⟩, by rw [s1, l4, sl]; decide, ⟨m2, by rw [m3, sl]; decide⟩, h m m0⟩
end Bx
namespace Bx
theorem it_NoneType_tuple : isTy "NoneType" "tuple" = false := by decide
theorem it_NoneType_int : isTy "NoneType" "int" = false := by decide
theorem it_NoneType_bool : isTy "NoneType" "bool" = false := by decide
theorem it_NoneType_str : isTy "NoneType" "str" = false := by decide
theorem it_NoneType_list : isTy "NoneType" "list" = false := by decide
theorem it_NoneType_dict : isTy "NoneType" "dict" = false := by decide
theorem it_bool_tuple : isTy "bool" "tuple" = false := by decide
theorem it_bool_int : isTy "bool" "int" = true := by decide
theorem it_bool_bool : isTy "bool" "bool" = true := by decide
theorem it_bool_str : isTy "bool" "str" = false := by decide
theorem it_bool_list : isTy "bool" "list" = false := by decide
theorem it_bool_dict : isTy "bool" "dict" = false := by decide
theorem it_int_tuple : isTy "int" "tuple" = false := by decide
theorem it_int_int : isTy "int" "int" = true := by decide
theorem it_int_bool : isTy "int" "bool" = false := by decide
theorem it_int_str : isTy "int" "str" = false := by decide
theorem it_int_list : isTy "int" "list" = false := by decide
theorem it_int_dict : isTy "int" "dict" = false := by decide
theorem it_str_tuple : isTy "str" "tuple" = false := by decide
theorem it_str_int : isTy "str" "int" = false := by decide
theorem it_str_bool : isTy "str" "bool" = false := by decide
theorem it_str_str : isTy "str" "str" = true := by decide
theorem it_str_list : isTy "str" "list" = false := by decide
theorem it_str_dict : isTy "str" "dict" = false := by decide
theorem it_dict_tuple : isTy "dict" "tuple" = false := by decide
theorem it_dict_int : isTy "dict" "int" = false := by decide
theorem it_dict_bool : isTy "dict" "bool" = false := by decide
theorem it_dict_str : isTy "dict" "str" = false := by decide
theorem it_dict_list : isTy "dict" "list" = false := by decide
theorem it_dict_dict : isTy "dict" "dict" = true := by decide
theorem it_tuple_tuple : isTy "tuple" "tuple" = true := by decide
theorem it_tuple_int : isTy "tuple" "int" = false := by decide
theorem it_tuple_bool : isTy "tuple" "bool" = false := by decide
theorem it_tuple_str : isTy "tuple" "str" = false := by decide
theorem it_tuple_list : isTy "tuple" "list" = false := by decide
theorem it_tuple_dict : isTy "tuple" "dict" = false := by decide
theorem it_list_tuple : isTy "list" "tuple" = false := by decide
theorem it_list_int : isTy "list" "int" = false := by decide
theorem it_list_bool : isTy "list" "bool" = false := by decide
theorem it_list_str : isTy "list" "str" = false := by decide
theorem it_list_list : isTy "list" "list" = true := by decide
theorem it_list_dict : isTy "list" "dict" = false := by decide
end Bx
set_option maxHeartbeats 4000000
/-! more of what the laws ask: is of two truths, a tuple times a number -/
namespace Bx
open PySem PySem.Spec PyProof.Rows L2
theorem tuple_once (l : Addr) (items : Array Value) (n : Nat) (dd : Option Addr) (sl : Array (Option Value)) (x : Int) (u : Tok) (c0 : (decide (x < -(2 ^ 63)) || decide (x ≥ 2 ^ 63)) = false) (c1 : (items.isEmpty || x == 1) = true) :
    Meets (Builtin.«tuple.__mul__» ⟨[.ref l, .int x u], []⟩) (fun _ R s => s.heap.get? l = some { cls := .type "tuple", dict := dd, data := .seq items n, slots := sl } ∧ R (.ok (.ret (Value.ref l))) s) :=
  .of_wp fun prog w A R s h => by
    obtain ⟨hp, g, d, tk, os⟩ := s
    obtain ⟨hl, h⟩ := h
    have f1 := AutoSeq1.idx_int
    wp_walk using wpAny_loadPart' hl
    repeat (first
      | (refine wpAny_ite_false (decide_eq_false (by rw [c0]; exact Bool.false_ne_true)) ?_; wp_walk using wpAny_loadPart' hl)
      | (refine wpAny_ite_true (decide_eq_true c1) ?_; wp_walk using wpAny_loadPart' hl))
    exact ⟨_, rfl, h⟩
section
variable {X : Cx}
theorem op_once : OpR X (binaryOp .Mult) (fun x y H Q => ∃ l xs, x = .ref l ∧ y = .int 1 ∧ SqT X.K H l xs ∧ Q (.ref l) H) := by
  intro pins s σ H x y v u Q I rx ry h
  obtain ⟨l, xs, rfl, rfl, hT, q⟩ := h
  cases rx
  obtain ⟨t, rfl⟩ := ry
  obtain ⟨its, r, ⟨⟨cls, dd, data, sl⟩, ho, hc, n, hd⟩, hs⟩ := I.tuple hT
  simp only at hc hd
  subst hc hd
  refine wpAny_binaryOp_repeat_ref (T := "tuple") (U := "int") (by decide) ⟨_, ho, rfl⟩ (fun s' => typeIs_int s' 1 t) noFill_tuple_mul F.fills_int_mul F.slot_int_rmul repeat_tuple F.slot_int_index.lookup
    (call_meets F.slot_int_rmul (typeIs_int s 1 t) F.entry_int_rmul (F.args_int_rmul_2 _ _) (int_rmul_tuple 1 t l its.toArray n dd sl)
      ⟨ho, rfl, ⟨_, ho, rfl⟩, call_meets F.slot_tuple_mul ⟨_, ho, rfl⟩ F.entry_tuple_mul (F.args_tuple_mul_2 _ _) (tuple_once l its.toArray n dd sl 1 t (by decide) (by simp)) ⟨ho, ?_⟩⟩)
  exact ⟨.ref l, H, I, rfl, q⟩
theorem op_isB : OpR X (compareOp .Is) (fun x y H Q => ∃ a b, x = .bl a ∧ y = .bl b ∧ Q (.bl (a == b)) H) := by
  intro pins s σ H x y v u Q I rx ry h
  obtain ⟨a, b, rfl, rfl, q⟩ := h
  cases rx; cases ry
  exact is_bool (fin_bl I q rfl)
theorem op_notB : OpR X (compareOp .IsNot) (fun x y H Q => ∃ a b, x = .bl a ∧ y = .bl b ∧ Q (.bl (a != b)) H) := by
  intro pins s σ H x y v u Q I rx ry h
  obtain ⟨a, b, rfl, rfl, q⟩ := h
  cases rx; cases ry
  exact isnot_bool (fin_bl I q rfl)
def gIsB : G2
  | .bl a, .bl b, k => k (.bl (a == b))
  | _, _, _ => False
def gNotB : G2
  | .bl a, .bl b, k => k (.bl (a != b))
  | _, _, _ => False
theorem opd_isB : OpD X (compareOp .Is) gIsB := by
  refine ⟨_, op_isB, fun H O x y dx dy k R own vx vy g f => ?_⟩
  cases dx <;> cases dy <;> try exact False.elim g
  exact ⟨_, _, vx.bl, vy.bl, fin_id own f (.bl _) g⟩
theorem opd_notB : OpD X (compareOp .IsNot) gNotB := by
  refine ⟨_, op_notB, fun H O x y dx dy k R own vx vy g f => ?_⟩
  cases dx <;> cases dy <;> try exact False.elim g
  exact ⟨_, _, vx.bl, vy.bl, fin_id own f (.bl _) g⟩
theorem tuple_mul0 (l : Addr) (items : Array Value) (n : Nat) (dd : Option Addr) (sl : Array (Option Value)) (x : Int) (u : Tok) (c0 : (decide (x < -(2 ^ 63)) || decide (x ≥ 2 ^ 63)) = false) (c1 : (items.isEmpty || x == 1) = false) (c2 : (decide (x ≤ 0) || items.isEmpty) = true) :
    Meets (Builtin.«tuple.__mul__» ⟨[.ref l, .int x u], []⟩) (fun _ R s => s.heap.get? l = some { cls := .type "tuple", dict := dd, data := .seq items n, slots := sl } ∧
      R (.ok (.ret (Value.ref s.heap.objs.size))) { s with heap := s.heap.push { cls := Value.type "tuple", data := Data.seq #[] }, toks := s.toks }) :=
  .of_wp fun prog w A R s h => by
    obtain ⟨hp, g, d, tk, os⟩ := s
    obtain ⟨hl, h⟩ := h
    have f1 := AutoSeq1.idx_int
    wp_walk using wpAny_loadPart' hl
    repeat (first
      | (refine wpAny_ite_false (decide_eq_false (by rw [c0]; exact Bool.false_ne_true)) ?_; wp_walk using wpAny_loadPart' hl)
      | (refine wpAny_ite_false (decide_eq_false (by rw [c1]; exact Bool.false_ne_true)) ?_; wp_walk using wpAny_loadPart' hl)
      | (refine wpAny_ite_true (decide_eq_true (by rw [c2])) ?_; wp_walk using wpAny_loadPart' hl))
    exact ⟨_, rfl, h⟩
theorem op_rep0 : OpR X (binaryOp .Mult) (fun x y H Q => ∃ l xs, x = .ref l ∧ y = .int 0 ∧ SqT X.K H l xs ∧ xs ≠ [] ∧ ∀ p, H p = none → Q (.ref p) (upd H p (.tup []))) := by
  intro pins s σ H x y v u Q I rx ry h
  obtain ⟨l, xs, rfl, rfl, hT, hne, q⟩ := h
  cases rx
  obtain ⟨t, rfl⟩ := ry
  obtain ⟨its, r, ⟨⟨cls, dd, data, sl⟩, ho, hc, n, hd⟩, hs⟩ := I.tuple hT
  simp only at hc hd
  subst hc hd
  have hle : its.length = xs.length := r.length.symm
  have hn : its ≠ [] := fun e => hne (by
    rw [e] at hle
    exact List.eq_nil_of_length_eq_zero hle.symm)
  have hi : its.toArray.isEmpty = false := by
    cases its with
    | nil => exact absurd rfl hn
    | cons a b => rfl
  have c1 : (its.toArray.isEmpty || (0 : Int) == 1) = false := by rw [hi]; rfl
  refine wpAny_binaryOp_repeat_ref (T := "tuple") (U := "int") (by decide) ⟨_, ho, rfl⟩ (fun s' => typeIs_int s' 0 t) noFill_tuple_mul F.fills_int_mul F.slot_int_rmul repeat_tuple F.slot_int_index.lookup
    (call_meets F.slot_int_rmul (typeIs_int s 0 t) F.entry_int_rmul (F.args_int_rmul_2 _ _) (int_rmul_tuple 0 t l its.toArray n dd sl)
      ⟨ho, rfl, ⟨_, ho, rfl⟩, call_meets F.slot_tuple_mul ⟨_, ho, rfl⟩ F.entry_tuple_mul (F.args_tuple_mul_2 _ _) (tuple_mul0 l its.toArray n dd sl 0 t (by decide) c1 (by simp)) ⟨ho, ?_⟩⟩)
  refine ⟨.ref s.heap.objs.size, _, I.laid (t' := s.toks) (o := .tup []) (fun b ob q => Heap.get?_push_of_some _ q) (Nat.le_refl _) ?_, rfl, q _ (I.hok.fresh (Nat.le_refl _))⟩
  exact ⟨Nat.zero_le _, _, .nil, IsTup.new _ _⟩
/-- a tuple, so many times -/
def gTMul : G2
  | .tup xs, .int j, k => (xs ≠ [] ∧ 0 ≤ j ∧ j ≤ 1000 ∧ xs.length ≤ 1000) ∧ k (.tup (List.replicate j.toNat xs).flatten)
  | _, _, _ => False
theorem opd_tmul : OpD X (binaryOp .Mult) gTMul := by
  refine ⟨_, (op_once.or op_repT).or op_rep0, fun H O x y dx dy k R own vx vy g f => ?_⟩
  cases dx <;> cases dy <;> try exact False.elim g
  obtain ⟨⟨h0, h1, h2, h3⟩, g⟩ := g
  obtain ⟨a, vs, rfl, ht, r⟩ := vx.tup
  have e := vy.int
  rename_i xs j
  by_cases hj : j = 1
  · subst hj
    refine .inl (.inl ⟨_, _, rfl, e, ht, fin_id own f (.tup ht r) ?_⟩)
    have : (List.replicate (Int.toNat 1) xs).flatten = xs := by simp
    rwa [this] at g
  · have hv : vs ≠ [] := fun e => by subst e; cases r; exact h0 rfl
    by_cases h0 : j = 0
    · subst h0
      exact .inr ⟨_, _, rfl, e, ht, hv, fun p hp => fin_tup own f hp .nil g⟩
    exact .inl (.inr ⟨_, _, _, rfl, e, ht, hv, by omega, h2, by rw [r.length]; exact h3, fun p hp => fin_tup own f hp (r.rep _) g⟩)
end
end Bx
set_option maxHeartbeats 4000000
/-! zip of two sequences, each a list or a tuple -/
namespace Bx
open PySem PySem.Spec PyProof.Rows L2
/-- a kind of sequence, and of its walker -/
structure SK where
  wk : String
  S : Heap → Addr → Array Value → Prop
  V : PySem.W.Frag → Hp → Addr → List L2.V → Prop
  sExt : ∀ {h h' : Heap} {a b : Addr} {xs : Array Value}, S h a xs → Heap.ExtBut b h h' → a ≠ b → S h' a xs
  sPush : ∀ {h : Heap} {a : Addr} {xs : Array Value} (o : Obj), S h a xs → S (h.push o) a xs
  lt : ∀ {h : Heap} {a : Addr} {xs : Array Value}, S h a xs → a < h.objs.size
  read : ∀ {X : Cx} {pins : List (Addr × Obj)} {σ : L2.St} {H : Hp} {s : Shared} {a : Addr} {xs : List L2.V}, Inv X pins σ H s → V X.K H a xs → ∃ its : List Value, Vals xs its ∧ S s.heap a its.toArray
  inj : ∀ {X : Cx} {pins : List (Addr × Obj)} {σ : L2.St} {H : Hp} {s : Shared} {a : Addr} {xs ys : List L2.V}, Inv X pins σ H s → V X.K H a xs → V X.K H a ys → xs = ys
  item : ∀ {prog : Program} {w : World} {A : Around} {E : Value → Shared → Prop} {s : Shared} {it l : Addr} {i : Nat} {xs : Array Value} {x : Value} {Q : Value → Shared → Prop},
    (∃ o, s.heap.get? it = some o ∧ o.cls = .type wk ∧ o.data = .fields #[.ref l, .int i 0]) → S s.heap l xs → xs[i]? = some x →
    (∀ h', (∃ o, h'.get? it = some o ∧ o.cls = .type wk ∧ o.data = .fields #[.ref l, .int (i + 1 : Nat) 0]) → Heap.SameBut it s.heap h' → Q x { s with heap := h' }) → wpAny (model prog w) A (Builtin.SmallTypes.nextOf (.ref it)) Q E s
  done : ∀ {prog : Program} {w : World} {A : Around} {E : Value → Shared → Prop} {s : Shared} {it l : Addr} {i : Nat} {xs : Array Value} {Q : Value → Shared → Prop}, A.handled = none →
    (∃ o, s.heap.get? it = some o ∧ o.cls = .type wk ∧ o.data = .fields #[.ref l, .int i 0]) → S s.heap l xs → xs[i]? = none →
    (∀ h' e, Heap.ExtBut it s.heap h' → (∃ o, h'.get? e = some o ∧ o.cls = .type "StopIteration") → E (.ref e) { s with heap := h' }) → wpAny (model prog w) A (Builtin.SmallTypes.nextOf (.ref it)) Q E s
  start : ∀ {prog : Program} {w : World} {A : Around} {E : Value → Shared → Prop} {s : Shared} {l : Addr} {xs : Array Value} {Q : Value → Shared → Prop}, S s.heap l xs →
    Q (.ref s.heap.objs.size) { s with heap := s.heap.push { cls := .type wk, data := .fields #[.ref l, .int 0 0] } } → wpAny (model prog w) A (pyIter (.ref l)) Q E s
abbrev skT : SK where
  wk := "tuple_iterator"
  S := fun h a xs => h.IsTuple a xs
  V := fun K H a xs => SqT K H a xs
  sExt := fun x e n => x.extBut e n
  sPush := fun o x => x.push o
  lt := fun ⟨_, e, _⟩ => Heap.lt_size e
  read := fun I h => let ⟨its, r, p, _⟩ := I.tuple h; ⟨its, r, p⟩
  inj := fun I h h' => I.tuple_inj h h'
  item := fun a b c d => RZ.nextOf_tuple_item a b c d
  done := fun h a b c d => RZ.nextOf_tuple_end h a b c d
  start := fun a q => wpAny_pyIter_tuple a q
abbrev skL : SK where
  wk := "list_iterator"
  S := fun h a xs => h.IsList a xs
  V := fun K H a xs => SqL K H a xs
  sExt := fun x e n => x.extBut e n
  sPush := fun o x => x.push o
  lt := fun ⟨_, e, _⟩ => Heap.lt_size e
  read := fun I h => let ⟨its, r, p, _⟩ := I.list h; ⟨its, r, p.isList⟩
  inj := fun I h h' => I.list_inj h h'
  item := fun a b c d => wpAny_nextOf_list_item a b c d
  done := fun h a b c d => wpAny_nextOf_list_end h a b c d
  start := fun a q => wpAny_pyIter_list a q
def SK.W (k : SK) (h : Heap) (it l : Addr) (i : Nat) : Prop := ∃ o, h.get? it = some o ∧ o.cls = .type k.wk ∧ o.data = .fields #[.ref l, .int i 0]
theorem SK.W.at {k : SK} {h h' : Heap} {it l : Addr} {i : Nat} (x : k.W h it l i) (e : ∀ o, h.get? it = some o → h'.get? it = some o) : k.W h' it l i := let ⟨o, ho, r⟩ := x; ⟨o, e o ho, r⟩
theorem SK.W.ext {k : SK} {h h' : Heap} {it b l : Addr} {i : Nat} (x : k.W h it l i) (e : Heap.ExtBut b h h') (n : it ≠ b) : k.W h' it l i := x.at fun o q => e it o n q
section
variable {prog : Program} {w : World} {A : Around} {E : Value → Shared → Prop} {s : Shared} (p q : SK)
theorem zx_item {z TI TO i1 i2 l1 l2 : Addr} {k1 k2 : Nat} {xs ys : Array Value} {x y a b : Value} {Q : Value → Shared → Prop} (D : ZipApart z TI TO i1 i2 l1 l2) (hz : IsZip s.heap z TI TO .none) (hI : IsPair s.heap TI (.ref i1) (.ref i2)) (hO : IsPair s.heap TO a b)
    (w1 : p.W s.heap i1 l1 k1) (w2 : q.W s.heap i2 l2 k2) (s1 : p.S s.heap l1 xs) (s2 : q.S s.heap l2 ys) (hx : xs[k1]? = some x) (hy : ys[k2]? = some y)
    (hQ : ∀ h', IsZip h' z TI TO (rawInt s.heap.objs.size) → IsPair h' TO x y → p.W h' i1 l1 (k1 + 1) → q.W h' i2 l2 (k2 + 1) → IsPair h' s.heap.objs.size x y → h'.objs.size = s.heap.objs.size + 1 →
      (∀ c o, c ≠ z → c ≠ TO → c ≠ i1 → c ≠ i2 → s.heap.get? c = some o → h'.get? c = some o) → Q (.ref s.heap.objs.size) { s with heap := h' }) :
    wpAny (model prog w) A (Builtin.«zip.__next__» ⟨[.ref z], []⟩) (fun fin s' => ∃ v, fin = .done (.ret v) ∧ Q v s') E s := by
  show wpAny _ _ (field (.ref z) 2 >>= _) _ _ _; refine wpAny_bind (wpAny_field hz rfl (x := .bool false) rfl ?_)
  show wpAny _ _ (field (.ref z) 3 >>= _) _ _ _; refine wpAny_bind (wpAny_field hz rfl (x := .ref TI) rfl ?_); refine wpAny_bind (wpAny_seqItems hI rfl ?_)
  show wpAny _ _ (Builtin.SmallTypes.ownedTupleIsFree (.ref z) >>= _) _ _ _; refine wpAny_bind ?_; unfold Builtin.SmallTypes.ownedTupleIsFree
  refine wpAny_bind (wpAny_field hz rfl (x := .none) rfl (wpAny_pure ?_)); simp only [if_true]; refine wpAny_bind (wpAny_rule ?_); refine wpAny_bind (wpAny_field hz rfl (x := .ref TO) rfl ?_)
  refine wpAny_bind (wpAny_setField_rec hz (by simp) fun g1 z1 e1 => ?_); replace z1 : IsZip g1 z TI TO .ellipsis := z1
  refine wpAny_bind ?_; simp only [List.zipIdx_cons, List.zipIdx_nil, List.forIn_cons, List.forIn_nil]; refine wpAny_bind (wpAny_bind (wpAny_onRaise ?_))
  show wpAny _ _ (Builtin.SmallTypes.nextOf (.ref i1) >>= _) _ _ _
  refine wpAny_bind (p.item (w1.ext e1.extBut D.i1z) (p.sExt s1 e1.extBut D.l1z) hx fun g2 v1 e2 => wpAny_pure ?_); replace v1 : p.W g2 i1 l1 (k1 + 1) := v1
  have o2 : IsPair g2 TO a b := e2.extBut _ _ D.TOi1 (e1.extBut _ _ D.TOz hO)
  refine wpAny_bind (wpAny_seqItems o2 rfl ?_); refine wpAny_bind (wpAny_updateSeq_pair o2 fun g3 o3 e3 => ?_); replace o3 : IsPair g3 TO x b := o3
  refine wpAny_bind (wpAny_letGo (wpAny_pure ?_)); refine wpAny_bind (wpAny_bind (wpAny_onRaise ?_))
  show wpAny _ _ (Builtin.SmallTypes.nextOf (.ref i2) >>= _) _ _ _
  refine wpAny_bind (q.item (((w2.ext e1.extBut D.i2z).ext e2.extBut D.i12.symm).ext e3.extBut D.TOi2.symm) (q.sExt (q.sExt (q.sExt s2 e1.extBut D.l2z) e2.extBut D.l2i1) e3.extBut D.l2TO) hy fun g4 v2 e4 => wpAny_pure ?_)
  replace v2 : q.W g4 i2 l2 (k2 + 1) := v2
  have o4 : IsPair g4 TO x b := e4.extBut _ _ D.TOi2 o3
  refine wpAny_bind (wpAny_seqItems o4 rfl ?_); refine wpAny_bind (wpAny_updateSeq_pair o4 fun g5 o5 e5 => ?_); replace o5 : IsPair g5 TO x y := o5
  refine wpAny_bind (wpAny_letGo (wpAny_pure (wpAny_pure ?_))); refine wpAny_bind (wpAny_seqItems o5 rfl ?_); refine wpAny_bind (wpAny_newTuple ?_)
  have sz : g5.objs.size = s.heap.objs.size := by rw [e5.1, e4.1, e3.1, e2.1, e1.1]
  have z5 : IsZip g5 z TI TO .ellipsis := e5.extBut _ _ D.TOz.symm (e4.extBut _ _ D.i2z.symm (e3.extBut _ _ D.TOz.symm (e2.extBut _ _ D.i1z.symm z1)))
  have keep : ∀ c o, c ≠ z → c ≠ TO → c ≠ i1 → c ≠ i2 → s.heap.get? c = some o → g5.get? c = some o := fun c o c1 c2 c3 c4 e => e5.extBut _ _ c2 (e4.extBut _ _ c4 (e3.extBut _ _ c2 (e2.extBut _ _ c3 (e1.extBut _ _ c1 e))))
  have v15 : p.W g5 i1 l1 (k1 + 1) := ((v1.ext e3.extBut D.TOi1.symm).ext e4.extBut D.i12).ext e5.extBut D.TOi1.symm
  have v25 : q.W g5 i2 l2 (k2 + 1) := v2.ext e5.extBut D.TOi2.symm
  have ltz : z < g5.objs.size := Heap.lt_size z5
  show wpAny _ _ (Builtin.SmallTypes.ownedTupleHandOut (.ref z) (.ref g5.objs.size) >>= _) _ _ _; refine wpAny_bind ?_; unfold Builtin.SmallTypes.ownedTupleHandOut
  have z6 : IsZip (g5.push { cls := .type "tuple", data := .seq #[x, y] }) z TI TO .ellipsis := Heap.get?_push_of_some _ z5
  refine wpAny_bind (wpAny_setField_rec z6 (by simp) fun g7 z7 e7 => ?_); replace z7 : IsZip g7 z TI TO (rawInt g5.objs.size) := z7
  refine wpAny_setField_rec z7 (by simp) fun g8 z8 e8 => ?_; replace z8 : IsZip g8 z TI TO (rawInt g5.objs.size) := z8
  have up : ∀ c o, c ≠ z → g5.get? c = some o → g8.get? c = some o := fun c o c1 e => e8.extBut _ _ c1 (e7.extBut _ _ c1 (Heap.get?_push_of_some _ e))
  have t8 : IsPair g8 g5.objs.size x y := e8.extBut _ _ (Nat.ne_of_gt ltz) (e7.extBut _ _ (Nat.ne_of_gt ltz) (Heap.get?_push_size _ rfl))
  have l8 : g8.objs.size = g5.objs.size + 1 := by rw [e8.1, e7.1, Heap.size_push]
  rw [sz] at z8 t8 l8; refine wpAny_pure ⟨_, rfl, ?_⟩; show Q (.ref g5.objs.size) _; rw [sz]
  exact hQ g8 z8 (up _ _ D.TOz o5) (v15.at fun o e => up _ o D.i1z e) (v25.at fun o e => up _ o D.i2z e) t8 l8 fun c o c1 c2 c3 c4 e => up c o c1 (keep c o c1 c2 c3 c4 e)
theorem zx_end {z TI TO i1 i2 l1 l2 : Addr} {k1 k2 : Nat} {xs ys : Array Value} {a b : Value} {Q : Fin → Shared → Prop} (hh : A.handled = none) (D : ZipApart z TI TO i1 i2 l1 l2) (hz : IsZip s.heap z TI TO .none) (hI : IsPair s.heap TI (.ref i1) (.ref i2)) (hO : IsPair s.heap TO a b)
    (w1 : p.W s.heap i1 l1 k1) (w2 : q.W s.heap i2 l2 k2) (s1 : p.S s.heap l1 xs) (s2 : q.S s.heap l2 ys) (hend : xs[k1]? = none ∨ ys[k2]? = none)
    (hE : ∀ h' e, (∀ c o, c ≠ z → c ≠ TO → c ≠ i1 → c ≠ i2 → s.heap.get? c = some o → h'.get? c = some o) → (∃ o, h'.get? e = some o ∧ o.cls = .type "StopIteration") → E (.ref e) { s with heap := h' }) : wpAny (model prog w) A (Builtin.«zip.__next__» ⟨[.ref z], []⟩) Q E s := by
  show wpAny _ _ (field (.ref z) 2 >>= _) _ _ _; refine wpAny_bind (wpAny_field hz rfl (x := .bool false) rfl ?_)
  show wpAny _ _ (field (.ref z) 3 >>= _) _ _ _; refine wpAny_bind (wpAny_field hz rfl (x := .ref TI) rfl ?_); refine wpAny_bind (wpAny_seqItems hI rfl ?_)
  show wpAny _ _ (Builtin.SmallTypes.ownedTupleIsFree (.ref z) >>= _) _ _ _; refine wpAny_bind ?_; unfold Builtin.SmallTypes.ownedTupleIsFree
  refine wpAny_bind (wpAny_field hz rfl (x := .none) rfl (wpAny_pure ?_)); simp only [if_true]; refine wpAny_bind (wpAny_rule ?_); refine wpAny_bind (wpAny_field hz rfl (x := .ref TO) rfl ?_)
  refine wpAny_bind (wpAny_setField_rec hz (by simp) fun g1 z1 e1 => ?_); replace z1 : IsZip g1 z TI TO .ellipsis := z1
  refine wpAny_bind ?_; simp only [List.zipIdx_cons, List.zipIdx_nil, List.forIn_cons, List.forIn_nil]; refine wpAny_bind (wpAny_bind (wpAny_onRaise ?_))
  show wpAny _ _ (Builtin.SmallTypes.nextOf (.ref i1) >>= _) _ _ _
  cases hx : xs[k1]? with
  | none =>
    refine wpAny_bind (p.done hh (w1.ext e1.extBut D.i1z) (p.sExt s1 e1.extBut D.l1z) hx fun g2 e e2 he => ?_); obtain ⟨oe, hoe, hce⟩ := he
    have z2 : IsZip g2 z TI TO .ellipsis := e2 _ _ D.i1z.symm z1
    have ne : e ≠ z := fun x => by subst x; rw [z2] at hoe; cases hoe; simp at hce
    refine wpAny_setField_rec z2 (by simp) fun g3 _ e3 => hE g3 e (fun c o c1 _ c3 _ x => e3.extBut _ _ c1 (e2 _ _ c3 (e1.extBut _ _ c1 x))) ⟨oe, e3.extBut _ _ ne hoe, hce⟩
  | some x =>
    have hy : ys[k2]? = none := by rcases hend with h | h; rw [hx] at h; cases h; exact h
    refine wpAny_bind (p.item (w1.ext e1.extBut D.i1z) (p.sExt s1 e1.extBut D.l1z) hx fun g2 v1 e2 => wpAny_pure ?_)
    have o2 : IsPair g2 TO a b := e2.extBut _ _ D.TOi1 (e1.extBut _ _ D.TOz hO)
    refine wpAny_bind (wpAny_seqItems o2 rfl ?_); refine wpAny_bind (wpAny_updateSeq_pair o2 fun g3 o3 e3 => ?_)
    refine wpAny_bind (wpAny_letGo (wpAny_pure ?_)); refine wpAny_bind (wpAny_bind (wpAny_onRaise ?_))
    show wpAny _ _ (Builtin.SmallTypes.nextOf (.ref i2) >>= _) _ _ _
    refine wpAny_bind (q.done hh (((w2.ext e1.extBut D.i2z).ext e2.extBut D.i12.symm).ext e3.extBut D.TOi2.symm) (q.sExt (q.sExt (q.sExt s2 e1.extBut D.l2z) e2.extBut D.l2i1) e3.extBut D.l2TO) hy fun g4 e e4 he => ?_)
    obtain ⟨oe, hoe, hce⟩ := he
    have z4 : IsZip g4 z TI TO .ellipsis := e4 _ _ D.i2z.symm (e3.extBut _ _ D.TOz.symm (e2.extBut _ _ D.i1z.symm z1))
    have ne : e ≠ z := fun x => by subst x; rw [z4] at hoe; cases hoe; simp at hce
    refine wpAny_setField_rec z4 (by simp) fun g5 _ e5 => hE g5 e (fun c o c1 c2 c3 c4 x => e5.extBut _ _ c1 (e4 _ _ c4 (e3.extBut _ _ c2 (e2.extBut _ _ c3 (e1.extBut _ _ c1 x))))) ⟨oe, e5.extBut _ _ ne hoe, hce⟩
theorem zx_next {z TI TO i1 i2 l1 l2 : Addr} {k1 k2 : Nat} {xs ys : Array Value} {x y a b : Value} {Q : Option Value → Shared → Prop} (D : ZipApart z TI TO i1 i2 l1 l2) (hz : IsZip s.heap z TI TO .none) (hI : IsPair s.heap TI (.ref i1) (.ref i2)) (hO : IsPair s.heap TO a b)
    (w1 : p.W s.heap i1 l1 k1) (w2 : q.W s.heap i2 l2 k2) (s1 : p.S s.heap l1 xs) (s2 : q.S s.heap l2 ys) (hx : xs[k1]? = some x) (hy : ys[k2]? = some y)
    (hQ : ∀ h', IsZip h' z TI TO (rawInt s.heap.objs.size) → IsPair h' TO x y → p.W h' i1 l1 (k1 + 1) → q.W h' i2 l2 (k2 + 1) → IsPair h' s.heap.objs.size x y → h'.objs.size = s.heap.objs.size + 1 →
      (∀ c o, c ≠ z → c ≠ TO → c ≠ i1 → c ≠ i2 → s.heap.get? c = some o → h'.get? c = some o) → Q (some (.ref s.heap.objs.size)) { s with heap := h' }) : wpAny (model prog w) A (pyNext (.ref z)) Q E s := by
  have hT : s.TypeIs (.ref z) "zip" := ⟨_, hz, rfl⟩
  unfold pyNext
  exact wpAny_bind (wpAny_attempt (wpAny_callSpecial?_slot (name := Str.ofString "__next__") hT F.slot_zip_next (wpAny_call_entry F.slot_zip_next hT F.entry_zip_next (zx_item p q D hz hI hO w1 w2 s1 s2 hx hy fun h' a1 a2 a3 a4 a5 a6 a7 => wpAny_pure (hQ h' a1 a2 a3 a4 a5 a6 a7)) (F.args_zip_next_1 _))))
theorem zx_stop {z TI TO i1 i2 l1 l2 : Addr} {k1 k2 : Nat} {xs ys : Array Value} {a b : Value} {Q : Option Value → Shared → Prop} (hh : A.handled = none) (D : ZipApart z TI TO i1 i2 l1 l2) (hz : IsZip s.heap z TI TO .none) (hI : IsPair s.heap TI (.ref i1) (.ref i2)) (hO : IsPair s.heap TO a b)
    (w1 : p.W s.heap i1 l1 k1) (w2 : q.W s.heap i2 l2 k2) (s1 : p.S s.heap l1 xs) (s2 : q.S s.heap l2 ys) (hend : xs[k1]? = none ∨ ys[k2]? = none)
    (hQ : ∀ h', (∀ c o, c ≠ z → c ≠ TO → c ≠ i1 → c ≠ i2 → s.heap.get? c = some o → h'.get? c = some o) → Q none { s with heap := h' }) : wpAny (model prog w) A (pyNext (.ref z)) Q E s := by
  have hT : s.TypeIs (.ref z) "zip" := ⟨_, hz, rfl⟩
  unfold pyNext
  refine wpAny_bind (wpAny_attempt (wpAny_callSpecial?_slot (name := Str.ofString "__next__") hT F.slot_zip_next (wpAny_call_entry F.slot_zip_next hT F.entry_zip_next (zx_end p q hh D hz hI hO w1 w2 s1 s2 hend fun h' e hk he => ?_) (F.args_zip_next_1 _))))
  obtain ⟨o, ho, hc⟩ := he
  exact wpAny_bind (wpAny_isInstance (T := "StopIteration") (b := true) ⟨o, ho, hc⟩ isSubtype_stop (wpAny_pure (hQ _ hk)))
abbrev zxH (p q : SK) (h : Heap) (l1 l2 : Addr) : Heap := ((((h.push { cls := .type p.wk, data := .fields #[.ref l1, .int 0 0] }).push { cls := .type q.wk, data := .fields #[.ref l2, .int 0 0] }).push { cls := .type "tuple", data := .seq #[.ref h.objs.size, .ref (h.push { cls := .type p.wk, data := .fields #[.ref l1, .int 0 0] }).objs.size] }).push { cls := .type "tuple", data := .seq #[.none, .none] })
theorem zx_new (l1 l2 : Addr) (xs ys : Array Value) (hp : p = skT ∧ q = skL ∨ p = skL ∧ q = skT) : Meets (Builtin.«zip.__new__» ⟨[.type "zip", .ref l1, .ref l2], []⟩) (fun _ R s => p.S s.heap l1 xs ∧ q.S s.heap l2 ys ∧
      R (.ok (.ret (.ref (zxH p q s.heap l1 l2).objs.size))) { s with heap := (zxH p q s.heap l1 l2).push { cls := .type "zip", data := .fields #[.none, .bool false, .bool false, .ref ((s.heap.push { cls := .type p.wk, data := .fields #[.ref l1, .int 0 0] }).push { cls := .type q.wk, data := .fields #[.ref l2, .int 0 0] }).objs.size,
        .ref (((s.heap.push { cls := .type p.wk, data := .fields #[.ref l1, .int 0 0] }).push { cls := .type q.wk, data := .fields #[.ref l2, .int 0 0] }).push { cls := .type "tuple", data := .seq #[.ref s.heap.objs.size, .ref (s.heap.push { cls := .type p.wk, data := .fields #[.ref l1, .int 0 0] }).objs.size] }).objs.size] } }) :=
  .of_wp fun prog w A R s h => by
    obtain ⟨hp', g, d, tk, os⟩ := s; obtain ⟨a1, a2, h⟩ := h
    have hsub := sub_zip
    rcases hp with ⟨rfl, rfl⟩ | ⟨rfl, rfl⟩
    · have b1 : Heap.IsTuple (Shared.heap ⟨hp', g, d, tk, os⟩) l1 xs := a1
      have b2 : Heap.IsList (Shared.heap ⟨hp'.push { cls := .type "tuple_iterator", data := .fields #[.ref l1, .int 0 0] }, g, d, tk, os⟩) l2 ys := Heap.IsList.push a2 _
      wp_walk using wpAny_pyIter_tuple b1, wpAny_pyIter_list b2; exact ⟨_, rfl, h⟩
    · have b1 : Heap.IsList (Shared.heap ⟨hp', g, d, tk, os⟩) l1 xs := a1
      have b2 : Heap.IsTuple (Shared.heap ⟨hp'.push { cls := .type "list_iterator", data := .fields #[.ref l1, .int 0 0] }, g, d, tk, os⟩) l2 ys := Heap.IsTuple.push a2 _
      wp_walk using wpAny_pyIter_list b1, wpAny_pyIter_tuple b2; exact ⟨_, rfl, h⟩
end
end Bx
set_option maxHeartbeats 4000000
/-! zip of two sequences, in loops -/
namespace Bx
open PySem PySem.Spec PyProof.Rows L2
section
variable {prog : Program} {w : World} {A : Around} {E : Value → Shared → Prop} {s : Shared} (p q : SK)
theorem zx_call {l1 l2 : Addr} {xs ys : Array Value} {Q : Value → Shared → Prop} (hp : p = skT ∧ q = skL ∨ p = skL ∧ q = skT) (h1 : p.S s.heap l1 xs) (h2 : q.S s.heap l2 ys)
    (h : ∀ h', IsZip h' (s.heap.objs.size + 4) (s.heap.objs.size + 2) (s.heap.objs.size + 3) .none → IsPair h' (s.heap.objs.size + 2) (.ref s.heap.objs.size) (.ref (s.heap.objs.size + 1)) → IsPair h' (s.heap.objs.size + 3) .none .none → p.W h' s.heap.objs.size l1 0 → q.W h' (s.heap.objs.size + 1) l2 0 →
      (∀ c o, s.heap.get? c = some o → h'.get? c = some o) → Q (.ref (s.heap.objs.size + 4)) { s with heap := h' }) : wpAny (model prog w) A (call (.type "zip") [.ref l1, .ref l2]) Q E s := by
  refine callType_new F.called_zip (by decide) (F.typeCall_zip_2 _ _) (F.newCall_zip_2 _ _) (fun obj => F.args_object_init_3 obj _ _) F.entry_zip_new (zx_new p q l1 l2 xs ys hp) ⟨h1, h2, ?_⟩
  have up1 : ∀ (h : Heap) (o : Obj), (h.push o).objs.size = h.objs.size + 1 := fun h o => Heap.size_push ..
  have keep : ∀ (h : Heap) (o : Obj) (c : Addr) (ob : Obj), h.get? c = some ob → (h.push o).get? c = some ob := fun h o c ob x => Heap.get?_push_of_some _ x
  have new : ∀ (h : Heap) (o : Obj) (n : Nat), h.objs.size = n → o.isFreed = false → (h.push o).get? n = some o := fun h o n e f => e ▸ Heap.get?_push_size _ f
  have e4 : (zxH p q s.heap l1 l2).objs.size = s.heap.objs.size + 4 := by simp only [up1]
  show _ ∧ _
  rw [e4]
  refine ⟨⟨_, new _ _ _ e4 rfl, rfl⟩, h _ ?_ ?_ ?_ ⟨{ cls := .type p.wk, data := .fields #[.ref l1, .int 0 0] }, ?_, rfl, rfl⟩ ⟨{ cls := .type q.wk, data := .fields #[.ref l2, .int 0 0] }, ?_, rfl, rfl⟩ fun c o x => keep _ _ _ _ (keep _ _ _ _ (keep _ _ _ _ (keep _ _ _ _ (keep _ _ _ _ x))))⟩
  · have x := new (zxH p q s.heap l1 l2) { cls := .type "zip", data := .fields #[.none, .bool false, .bool false, .ref (s.heap.objs.size + 2), .ref (s.heap.objs.size + 3)] } _ e4 rfl
    simp only [up1] at x ⊢
    exact x
  · refine keep _ _ _ _ (keep _ _ _ _ ?_)
    have x := new ((s.heap.push { cls := .type p.wk, data := .fields #[.ref l1, .int 0 0] }).push { cls := .type q.wk, data := .fields #[.ref l2, .int 0 0] }) { cls := .type "tuple", data := .seq #[.ref s.heap.objs.size, .ref (s.heap.objs.size + 1)] } (s.heap.objs.size + 2) (by simp only [up1]) rfl
    simp only [up1] at x ⊢
    exact x
  · exact keep _ _ _ _ (new _ _ _ (by simp only [up1]) rfl)
  · exact keep _ _ _ _ (keep _ _ _ _ (keep _ _ _ _ (keep _ _ _ _ (new _ _ _ rfl rfl))))
  · exact keep _ _ _ _ (keep _ _ _ _ (keep _ _ _ _ (new _ _ _ (by simp only [up1]) rfl)))
/-- the two as they stand at each turn -/
def ItX (K : PySem.W.Frag) (p q : SK) (a b : Addr) : It :=
  ⟨fun i H => ∃ (xs ys : List V) (x y : V), p.V K H a xs ∧ q.V K H b ys ∧ xs[i]? = some x ∧ ys[i]? = some y, fun i H v H' => ∃ T x y, v = .ref T ∧ H T = none ∧ H' = upd H T (.tup [x, y]) ∧ (∀ xs, p.V K H a xs → xs[i]? = some x) ∧ ∀ ys, q.V K H b ys → ys[i]? = some y, fun i H => ∃ xs ys : List V, p.V K H a xs ∧ q.V K H b ys ∧ (xs.length ≤ i ∨ ys.length ≤ i)⟩
theorem five {α : Type} {a b c d e x : α} {P : α → Prop} (h : x ∈ [a, b, c, d, e]) (ha : P a) (hb : P b) (hc : P c) (hd : P d) (he : P e) : P x := by
  simp only [List.mem_cons, List.not_mem_nil, or_false] at h
  rcases h with rfl | rfl | rfl | rfl | rfl <;> assumption
theorem turn_X {P : Program} {w : World} {K : PySem.W.Frag} {elts : List Expr} {kk : Nat} {tpos : Pos} {a b z TI TO i1 i2 : Addr} (D : ZipApart z TI TO i1 i2 a b) :
    Turn P w K (.Tuple elts kk tpos) (ItX K p q a b) [z, TI, TO, i1, i2] z (fun i h => IsZip h z TI TO .none ∧ IsPair h TI (.ref i1) (.ref i2) ∧ (∃ x y, IsPair h TO x y) ∧ p.W h i1 a i ∧ q.W h i2 b i) where
  mem := List.mem_cons_self
  obj := fun i h ⟨hz, hI, ⟨x, y, hO⟩, ⟨o1, e1, _, d1⟩, ⟨o2, e2, _, d2⟩⟩ c hc => five (P := fun c => ∃ o, h.get? c = some o ∧ ∀ v, o.data ≠ .cell v) hc ⟨_, hz, fun v q => nomatch q⟩ ⟨_, hI, fun v q => nomatch q⟩ ⟨_, hO, fun v q => nomatch q⟩ ⟨o1, e1, fun v q => by rw [d1] at q; cases q⟩ ⟨o2, e2, fun v q => by rw [d2] at q; cases q⟩
  keep := fun i h h' ⟨hz, hI, ⟨x, y, hO⟩, w1, w2⟩ k => ⟨k z (by simp) _ hz, k TI (by simp) _ hI, ⟨x, y, k TO (by simp) _ hO⟩, w1.at fun o q => k i1 (by simp) o q, w2.at fun o q => k i2 (by simp) o q⟩
  item := by
    intro X hP hw hK hc i pins s σ H E I hf ⟨hz, hI, ⟨x0, y0, hO⟩, w1, w2⟩ ⟨xs, ys, x, y, q1, q2, hx, hy⟩
    subst hP hw hK
    obtain ⟨its, r1, s1⟩ := p.read I q1
    obtain ⟨its2, r2, s2⟩ := q.read I q2
    obtain ⟨u, hu, ru⟩ := r1.get hx
    obtain ⟨u2, hu2, ru2⟩ := r2.get hy
    have ltz : z < s.heap.objs.size := Heap.lt_size hz
    refine zx_next p q D hz hI hO w1 w2 s1 s2 (x := u) (y := u2) (by simpa using hu) (by simpa using hu2) fun h' z' o' v1 v2 hT hsz hk => ?_
    refine ⟨_, rfl, wpAny_letOwnedTupleGo_zip (s := { s with heap := h' }) z' fun g z'' sb => ?_⟩
    have T2 : g.get? s.heap.objs.size = some { cls := .type "tuple", data := .seq #[u, u2] } := (sb.2 _ (Nat.ne_of_gt ltz)).trans hT
    have new : ObjOk X.prog X.w (upd H s.heap.objs.size (.tup [x, y])) g s.heap.objs.size (.tup [x, y]) := ⟨by show 2 ≤ sizeLine; decide, [u, u2], .cons ru (.cons ru2 .nil), ⟨_, T2, rfl, _, rfl⟩⟩
    have I1 : Inv X pins σ (upd H s.heap.objs.size (.tup [x, y])) { s with heap := g } := I.turnedNew (t' := s.toks) (ch := [z, TI, TO, i1, i2]) (fun c o hb q => (sb.2 c (fun q' => hb (by simp [q']))).trans (hk c o (fun q' => hb (by simp [q'])) (fun q' => hb (by simp [q'])) (fun q' => hb (by simp [q'])) (fun q' => hb (by simp [q'])) q)) hf (Nat.le_refl _) new
    refine ⟨.ref s.heap.objs.size, _, I1, rfl, ⟨_, x, y, rfl, I.hok.fresh (Nat.le_refl _), rfl, fun l hl => by rw [p.inj I hl q1]; exact hx, fun l hl => by rw [q.inj I hl q2]; exact hy⟩, ⟨z'', (sb.2 _ D.TIz).trans (hk _ _ D.TIz D.TITO D.TIi1 D.TIi2 hI), ⟨u, u2, (sb.2 _ D.TOz).trans o'⟩, v1.at fun o q => (sb.2 _ D.i1z).trans q, v2.at fun o q => (sb.2 _ D.i2z).trans q⟩, fun c hcm => ?_⟩
    have hlt : c < s.heap.objs.size := five (P := fun c => c < s.heap.objs.size) hcm ltz (Heap.lt_size hI) (Heap.lt_size hO) (let ⟨_, e1, _⟩ := w1; Heap.lt_size e1) (let ⟨_, e2, _⟩ := w2; Heap.lt_size e2)
    rw [upd_ne (Nat.ne_of_lt hlt)]; exact (hf c hcm).1
  done := by
    intro X hP hw hK hc i pins s σ H E I hf ⟨hz, hI, ⟨x0, y0, hO⟩, w1, w2⟩ ⟨xs, ys, q1, q2, hend⟩
    subst hP hw hK
    obtain ⟨its, r1, s1⟩ := p.read I q1
    obtain ⟨its2, r2, s2⟩ := q.read I q2
    have l1 := r1.length
    have l2 := r2.length
    have he : its.toArray[i]? = none ∨ its2.toArray[i]? = none := hend.imp (fun q => by simp; omega) (fun q => by simp; omega)
    exact zx_stop p q (I.ok.hd hc) D hz hI hO w1 w2 s1 s2 he fun h' hk => ⟨rfl, I.turnedL (t' := s.toks) (ch := [z, TI, TO, i1, i2]) (fun c o hb q => hk c o (fun q' => hb (by simp [q'])) (fun q' => hb (by simp [q'])) (fun q' => hb (by simp [q'])) (fun q' => hb (by simp [q'])) q) hf⟩
  self := fun A i s Q E st h => wpAny_pyIter_zip st.1 h
def iZipX (K : PySem.W.Frag) (ta : TA) : TI := fun σ H R => ta σ H fun vs H1 => ∃ a b xs ys, vs = [.ref a, .ref b] ∧ ((SqT K H1 a xs ∧ SqL K H1 b ys ∧ R (ItX K skT skL a b) H1) ∨ (SqL K H1 a xs ∧ SqT K H1 b ys ∧ R (ItX K skL skT a b) H1) ∨ (SqL K H1 a xs ∧ SqL K H1 b ys ∧ R (Itz K a b) H1) ∨ (SqT K H1 a xs ∧ SqT K H1 b ys ∧ R (RZ.ItzT K a b) H1))
theorem pi_zipX {X : Cx} {e e2 : Expr} {ta : TA} {p pos tpos : Pos} {elts : List Expr} {kk : Nat} (hg : Gl X "zip") (hm : X.mg "zip" = none) (ha : PA X [e, e2] ta)
    (hs : starEach [e, e2] X.env = (false, eval e X.env) :: starEach [e2] X.env := by rfl) (hpl : (backTo pos (starEach [e2] X.env)).any (·.1) = false := by rfl) : PI X (.Tuple elts kk tpos) (.Call (.Name "zip" p) [e, e2] [] pos) (iZipX X.K ta) := by
  refine ⟨fun pins s σ H R I h => Call_ (ld_blt I hg hm PyProof.Rows.boot_zip (PyProof.Rows.callWith_type1 (thn (ha.run pos pins s σ H _ I h) fun us s1 ⟨vs, H1, I1, r1, q1⟩ => ?_) hs hpl))⟩
  obtain ⟨a, b, xs, ys, ex, q1⟩ := q1
  subst ex
  cases r1 with | cons r rr => cases rr with | cons r' rr => cases rr; cases r; cases r'; (
    have lt4 : ∀ c, c ∈ [s1.heap.objs.size + 4, s1.heap.objs.size + 2, s1.heap.objs.size + 3, s1.heap.objs.size, s1.heap.objs.size + 1] → FpOk X pins H1 c := fun c hcm =>
      five (P := fun c => s1.heap.objs.size ≤ c → FpOk X pins H1 c) hcm (fun h => I1.fpOk h (I1.hok.fresh h)) (fun h => I1.fpOk h (I1.hok.fresh h)) (fun h => I1.fpOk h (I1.hok.fresh h)) (fun h => I1.fpOk h (I1.hok.fresh h)) (fun h => I1.fpOk h (I1.hok.fresh h))
        (five (P := fun c => s1.heap.objs.size ≤ c) hcm (Nat.le_add_right _ _) (Nat.le_add_right _ _) (Nat.le_add_right _ _) (Nat.le_refl _) (Nat.le_add_right _ _))
    have mixed : ∀ (p q : SK), (p = skT ∧ q = skL ∨ p = skL ∧ q = skT) → p.V X.K H1 a xs → q.V X.K H1 b ys → R (ItX X.K p q a b) H1 → wpAny (model X.prog X.w) X.A (call (.type "zip") [.ref a, .ref b]) (fun v s2 => wpAny (model X.prog X.w) X.A (pyIter v) (PIE X pins σ (.Tuple elts kk tpos) R) X.xe s2) X.xe s1 := fun p q hp v1 v2 hR => by
      obtain ⟨its, _, p1⟩ := p.read I1 v1
      obtain ⟨its2, _, p2⟩ := q.read I1 v2
      refine zx_call p q hp p1 p2 fun h' z' hI hO w1 w2 hk => wpAny_pyIter_zip z' ?_
      exact ⟨s1.heap.objs.size + 4, [s1.heap.objs.size + 4, s1.heap.objs.size + 2, s1.heap.objs.size + 3, s1.heap.objs.size, s1.heap.objs.size + 1], _, _, H1, rfl, I1.kept (t' := s1.toks) hk, turn_X p q (PySem.W.ktu_apart s1.heap.objs.size a b (p.lt p1) (q.lt p2)), ⟨z', hI, ⟨_, _, hO⟩, w1, w2⟩, lt4, hR⟩
    rcases q1 with ⟨v1, v2, q⟩ | ⟨v1, v2, q⟩ | ⟨v1, v2, q⟩ | ⟨v1, v2, q⟩
    · exact mixed skT skL (.inl ⟨rfl, rfl⟩) v1 v2 q
    · exact mixed skL skT (.inr ⟨rfl, rfl⟩) v1 v2 q
    · obtain ⟨its, _, p1, _⟩ := I1.list v1
      obtain ⟨its2, _, p2, _⟩ := I1.list v2
      refine call_zip_2 p1.isList p2.isList fun h' z' hI hO w1 w2 _ hk => wpAny_pyIter_zip z' ?_
      exact ⟨s1.heap.objs.size + 4, [s1.heap.objs.size + 4, s1.heap.objs.size + 2, s1.heap.objs.size + 3, s1.heap.objs.size, s1.heap.objs.size + 1], _, _, H1, rfl, I1.kept (t' := s1.toks) hk, turn_zip (PySem.W.ktu_apart s1.heap.objs.size a b p1.lt p2.lt), ⟨z', hI, ⟨_, _, hO⟩, w1, w2⟩, lt4, q⟩
    · obtain ⟨its, _, p1, _⟩ := I1.tuple v1
      obtain ⟨its2, _, p2, _⟩ := I1.tuple v2
      refine RZ.call_zipT (show s1.heap.IsTuple a its.toArray from p1) (show s1.heap.IsTuple b its2.toArray from p2) fun h' z' hI hO w1 w2 _ hk => wpAny_pyIter_zip z' ?_
      exact ⟨s1.heap.objs.size + 4, [s1.heap.objs.size + 4, s1.heap.objs.size + 2, s1.heap.objs.size + 3, s1.heap.objs.size, s1.heap.objs.size + 1], _, _, H1, rfl, I1.kept (t' := s1.toks) hk, RZ.turn_zipT (PySem.W.ktu_apart s1.heap.objs.size a b (let ⟨_, e, _⟩ := p1; Heap.lt_size e) (let ⟨_, e, _⟩ := p2; Heap.lt_size e)), ⟨z', hI, ⟨_, _, hO⟩, w1, w2⟩, lt4, q⟩)
end
theorem items_X {K : PySem.W.Frag} {p q : SK} {H : Hp} {O S : Addr → Prop} {a b : Addr} {vs ws : List V} {xs ys : List D} (hS : Lsts H O S) (h1 : ∀ H1 O1, Ext S H O H1 O1 → p.V K H1 a vs) (h2 : ∀ H1 O1, Ext S H O H1 O1 → q.V K H1 b ws) (r1 : Reps K H O vs xs) (r2 : Reps K H O ws ys) : Items K (ItX K p q a b) H O S (zipD xs ys) := by
  intro H1 O1 own e i
  have q1 := h1 H1 O1 e
  have q2 := h2 H1 O1 e
  have s1 := r1.ext e hS
  have s2 := r2.ext e hS
  refine ⟨fun d hd => ?_, fun hl => ⟨vs, ws, q1, q2, by rw [r1.length, r2.length]; exact zipD_len hl⟩⟩
  obtain ⟨x, y, rfl, hx, hy⟩ := zipD_get hd
  obtain ⟨v, hv, rv⟩ := s1.get hx
  obtain ⟨w, hw, rw'⟩ := s2.get hy
  refine ⟨⟨vs, ws, v, w, q1, q2, hv, hw⟩, fun z H2 ⟨T, v', w', ez, hT, eh, g1, g2⟩ => ?_⟩
  subst ez eh
  have e1 := g1 vs q1
  have e2 := g2 ws q2
  rw [hv] at e1; cases e1
  rw [hw] at e2; cases e2
  exact ⟨ext_new hT, own_new own hT, .tup (.of upd_same) (Reps.fresh hT (.cons rv (.cons rw' .nil)))⟩
/-- zip: of any two -/
def gZX (ds : List D) (k : List D → Prop) : Prop := match ds with
  | [.tup xs, .tup ys] => k (zipD xs ys)
  | [.tup xs, .lst _ ys] => k (zipD xs ys)
  | [.tup xs, .scr ys] => k (zipD xs ys)
  | [.lst _ xs, .tup ys] => k (zipD xs ys)
  | [.scr xs, .tup ys] => k (zipD xs ys)
  | [.lst _ xs, .lst _ ys] => k (zipD xs ys)
  | [.scr xs, .lst _ ys] => k (zipD xs ys)
  | [.lst _ xs, .scr ys] => k (zipD xs ys)
  | _ => False
def kZX (k : List D → Rho → Prop) (ds : List D) (ρ : Rho) : Prop := gZX ds (kVs k ρ)
def iZX (w : DA) (k : List D → Rho → Prop) (ρ : Rho) : Prop := w (kTake (kZX k)) ρ
section
variable {X : Cx} {e e2 : Expr} {pos p : Pos}
theorem si_zipX {elts : List Expr} {kk : Nat} {tpos : Pos} {w : DA} (hg : Gl X "zip") (hm : X.mg "zip" = none) (h : SA X [e, e2] w)
    (hs : starEach [e, e2] X.env = (false, eval e X.env) :: starEach [e2] X.env := by rfl) (hpl : (backTo pos (starEach [e2] X.env)).any (·.1) = false := by rfl) : SI X (.Tuple elts kk tpos) (.Call (.Name "zip" p) [e, e2] [] pos) (iZX w) := by
  obtain ⟨t, pt, f⟩ := h
  refine ⟨_, pi_zipX hg hm pt hs hpl, fun σ H ρ O k R s hw q => ?_⟩
  refine f σ H ρ O _ _ s hw fun vs H1 ρ1 O1 os a c _ hk => ?_
  obtain ⟨ds, ρ2, O2, l, a2, r, hk⟩ := take_ok s c (fun _ z => z) a hk
  have L := a2.sr.lsts
  have tl : ∀ {d e : D} {xs ys : List D}, ds = [d, e] → d = .tup xs → e.sql = some ys → k (zipD xs ys) ρ2 → iZipX X.K (fun _ _ Q => Q vs H1) σ H1 R := fun {d e xs ys} e0 e1 e2 hq => by
    subst e0 e1
    obtain ⟨u, u', rfl, h1, h2⟩ := r.two
    cases h1 with
    | tup g1 s1 =>
      obtain ⟨b', bs', rfl, p2, s2⟩ := h2.sqL L e2
      exact ⟨_, b', _, bs', rfl, .inl ⟨g1, p2 _ _ .refl, q _ H1 ρ2 O2 _ a2 (items_X (p := skT) (q := skL) L (fun H1 O1 e => sqT_ext e L g1) p2 s1 s2) hq⟩⟩
  have lt : ∀ {d e : D} {xs ys : List D}, ds = [d, e] → d.sql = some xs → e = .tup ys → k (zipD xs ys) ρ2 → iZipX X.K (fun _ _ Q => Q vs H1) σ H1 R := fun {d e xs ys} e0 e1 e2 hq => by
    subst e0 e2
    obtain ⟨u, u', rfl, h1, h2⟩ := r.two
    obtain ⟨b', bs', rfl, p2, s2⟩ := h1.sqL L e1
    cases h2 with
    | tup g1 s1 => exact ⟨b', _, bs', _, rfl, .inr (.inl ⟨p2 _ _ .refl, g1, q _ H1 ρ2 O2 _ a2 (items_X (p := skL) (q := skT) L p2 (fun H1 O1 e => sqT_ext e L g1) s2 s1) hq⟩)⟩
  have ll : ∀ {d e : D} {xs ys : List D}, ds = [d, e] → d.sql = some xs → e.sql = some ys → k (zipD xs ys) ρ2 → iZipX X.K (fun _ _ Q => Q vs H1) σ H1 R := fun {d e xs ys} e0 e1 e2 hq => by
    subst e0
    obtain ⟨u, u', rfl, h1, h2⟩ := r.two
    obtain ⟨b, bs, rfl, p1, s1⟩ := h1.sqL L e1
    obtain ⟨b', bs', rfl, p2, s2⟩ := h2.sqL L e2
    exact ⟨b, b', bs, bs', rfl, .inr (.inr (.inl ⟨p1 _ _ .refl, p2 _ _ .refl, q _ H1 ρ2 O2 _ a2 (items_Z L p1 p2 s1 s2) hq⟩))⟩
  have hk : gZX ds (kVs k ρ2) := hk
  unfold gZX at hk
  split at hk
  · obtain ⟨u, u', rfl, h1, h2⟩ := r.two
    cases h1 with
    | tup g1 s1 =>
      cases h2 with
      | tup g2 s2 => exact ⟨_, _, _, _, rfl, .inr (.inr (.inr ⟨g1, g2, q _ H1 ρ2 O2 _ a2 (items_ZT L g1 g2 s1 s2) hk⟩))⟩
  · exact tl rfl rfl rfl hk
  · exact tl rfl rfl rfl hk
  · exact lt rfl rfl rfl hk
  · exact lt rfl rfl rfl hk
  · exact ll rfl rfl rfl hk
  · exact ll rfl rfl rfl hk
  · exact ll rfl rfl rfl hk
  · exact hk.elim
end
end Bx
/-! a module's constants: numbers, texts, tuples of them -/
namespace Bx
open PySem PySem.Spec PyProof.Rows L2
mutual
/-- the value u of the written part is the datum -/
def KD (K : PySem.W.Frag) : D → Value → Prop
  | .non, u => u = .none
  | .bl b, u => u = .bool b
  | .int i, u => ∃ t, u = .int i t
  | .str x, u => ∃ t, u = .str x t
  | .tup ds, u => ∃ a o its n, u = .ref a ∧ K.lookup a = some o ∧ o.cls = .type "tuple" ∧ o.data = .seq its n ∧ its.size ≤ sizeLine ∧ KDs K ds its.toList
  | _, _ => False
def KDs (K : PySem.W.Frag) : List D → List Value → Prop
  | [], us => us = []
  | d :: r, us => ∃ u w, us = u :: w ∧ KD K d u ∧ KDs K r w
end
mutual
theorem KD.rep {K : PySem.W.Frag} : ∀ (d : D) (u : Value), KD K d u → ∃ v, RelV v u ∧ ∀ H O, Rep K H O v d
  | .non, u, h => ⟨.non, h, fun _ _ => .non⟩
  | .bl b, u, h => ⟨.bl b, h, fun _ _ => .bl b⟩
  | .int i, u, h => ⟨.int i, h, fun _ _ => .int i⟩
  | .str x, u, h => ⟨.str x, h, fun _ _ => .str x⟩
  | .tup ds, u, h => by
    unfold KD at h
    obtain ⟨a, o, its, n, rfl, h1, h2, h3, h4, h5⟩ := h
    obtain ⟨vs, r, p⟩ := KDs.reps ds _ h5
    exact ⟨.ref a, rfl, fun H O => .tup (.inr ⟨o, its, n, h1, h2, h3, h4, r⟩) (p H O)⟩
  | .lst _ _, u, h => by unfold KD at h; exact h.elim
  | .scr _, u, h => by unfold KD at h; exact h.elim
  | .dic _ _, u, h => by unfold KD at h; exact h.elim
  | .odc _ _, u, h => by unfold KD at h; exact h.elim
theorem KDs.reps {K : PySem.W.Frag} : ∀ (ds : List D) (us : List Value), KDs K ds us → ∃ vs, Vals vs us ∧ ∀ H O, Reps K H O vs ds
  | [], us, h => by
    unfold KDs at h
    subst h
    exact ⟨[], .nil, fun _ _ => .nil⟩
  | d :: r, us, h => by
    unfold KDs at h
    obtain ⟨u, w, rfl, h1, h2⟩ := h
    obtain ⟨v, rv, pv⟩ := KD.rep d u h1
    obtain ⟨vs, rs, ps⟩ := KDs.reps r w h2
    exact ⟨v :: vs, .cons rv rs, fun H O => .cons (pv H O) (ps H O)⟩
end
theorem se_kd {X : Cx} {x : Str} {d : D} {pos : Pos} (hg : Gl X x) (h : ∃ u, X.mg x = some u ∧ KD X.K d u) (hd : (x == ("__debug__" : Str)) = false := by decide) : SE X (.Name x pos) (dC d) := by
  obtain ⟨u, hm, k⟩ := h
  obtain ⟨v, r, p⟩ := KD.rep d u k
  exact ⟨_, pe_glob hg hm r hd, fun σ H ρ O k R s w q => q v H ρ O d (.refl s) (.rep (p H O)) w⟩
end Bx
/-! sorted of lists of data -/
namespace Bx
open PySem PySem.Spec PyProof.Rows L2
abbrev dLe (a b : D) : Bool := PySem.W.dataLe false D.pd a b
/-- what sorted may be asked of -/
def srtOk (ds : List D) : Prop := PySem.W.AllAlike (ds.map D.pd) ∧ PySem.W.Sortable (ds.map D.pd) ∧ ∀ d ∈ ds, d.pd.depth ≤ 60
mutual
theorem alike_ndc : ∀ {d : D}, PySem.W.alike d.pd d.pd = true → d.ndc = true
  | .non, _ | .bl _, _ | .int _, _ | .str _, _ => by simp [D.ndc]
  | .tup xs, h => by
    simp only [D.pd, PySem.W.alike] at h
    simp only [D.ndc]
    exact alikes_ndc h
  | .lst _ xs, h => by
    simp only [D.pd, PySem.W.alike] at h
    simp only [D.ndc]
    exact alikes_ndc h
  | .scr xs, h => by
    simp only [D.pd, PySem.W.alike] at h
    simp only [D.ndc]
    exact alikes_ndc h
  | .dic _ _, h => by simp [D.pd, PySem.W.alike] at h
  | .odc _ _, h => by simp [D.pd, PySem.W.alike] at h
theorem alikes_ndc : ∀ {ds : List D}, PySem.W.alikeAll (D.pds ds) (D.pds ds) = true → D.ndcs ds = true
  | [], _ => by simp [D.ndcs]
  | x :: r, h => by
    simp only [D.pds, PySem.W.alikeAll, Bool.and_eq_true] at h
    simp only [D.ndcs, Bool.and_eq_true]
    exact ⟨alike_ndc h.1, alikes_ndc h.2⟩
end
theorem each_vals : ∀ {bs : List (V × D)} {us : List Value}, Vals (bs.map (·.1)) us → PySem.W.EachIs (fun u (p : V × D) => RelV p.1 u) us bs
  | [], _, h => by cases h; exact .nil
  | p :: bs, _, h => by
    cases h with
    | cons r rs => exact .cons r (each_vals rs)
theorem vals_each : ∀ {bs : List (V × D)} {us : List Value}, PySem.W.EachIs (fun u (p : V × D) => RelV p.1 u) us bs → Vals (bs.map (·.1)) us
  | [], _, h => by cases h; exact .nil
  | p :: bs, _, h => by
    cases h with
    | cons r rs => exact .cons r (vals_each rs)
theorem each_reads {X : Cx} {pins : List (Addr × Obj)} {σ : L2.St} {H : Hp} {s : Shared} (I : Inv X pins σ H s) : ∀ {bs : List (V × D)} {us : List Value}, (∀ p ∈ bs, Dp X.K H p.1 p.2.pd) → Vals (bs.map (·.1)) us → PySem.W.EachIs (fun u (p : V × D) => ∃ as, Reads s.heap u p.2.pd as) us bs
  | [], _, _, h => by cases h; exact .nil
  | p :: bs, _, hd, h => by
    cases h with
    | cons r rs => exact .cons (Dp.reads I _ _ _ (hd p List.mem_cons_self) r) (each_reads I (fun q hq => hd q (List.mem_cons_of_mem _ hq)) rs)
def rSortD (K : PySem.W.Frag) : List V → Hp → VK → Prop := fun vs H Q => ∃ (a : Addr) (bs : List (V × D)), vs = [V.ref a] ∧ SqL K H a (bs.map (·.1)) ∧ (∀ p ∈ bs, Dp K H p.1 p.2.pd) ∧ srtOk (bs.map (·.2)) ∧
  ∀ p, H p = none → Q (.ref p) (upd H p (.lst ((bs.mergeSort (fun p q => dLe p.2 q.2)).map (·.1))))
section
open PySem.Calls PySem.W
variable {prog : Program} {w : World} {A : Around} {E : Value → Shared → Prop} {s : Shared}
theorem collectS {T : String} (hT : T = "list" ∨ T = "tuple") {l : Addr} {o : Obj} {vs : List Value} {n : Nat} {Q : List Value → Shared → Prop} (ho : s.heap.get? l = some o) (hc : o.cls = .type T) (hd : o.data = .seq vs.toArray n)
    (h : Q vs { s with heap := (s.heap.push (seqObj "list" #[] 0)).update s.heap.objs.size (Obj.mapSeq (· ++ vs.toArray)) }) (hsz : vs.length ≤ sizeLine) :
    wpAny (model prog w) A (collect (.ref l)) Q E s := by
  unfold collect
  refine wpAny_bind (wpAny_runValue (codeAny_builtin entry_proto_collect' ?_))
  show wpAny _ _ (do again (.builtin "list.__iadd__" ⟨[← newList [], .ref l], []⟩)) _ _ s
  refine wpAny_bind (wpAny_newList (wpAny_pure ⟨Code.quiet_builtin _ (by decide +kernel), codeAny_builtin entry_list_iadd' ?_⟩))
  show wpAny _ _ (Builtin.List.listExtendWith (.ref s.heap.objs.size) (.ref l) (.ref s.heap.objs.size)) _ _ { s with heap := s.heap.push (seqObj "list" #[] 0) }
  unfold Builtin.List.listExtendWith
  have ho' : (s.heap.push (seqObj "list" #[] 0)).get? l = some o := Heap.get?_push_of_some _ ho
  refine wpAny_bind (wpAny_typeOf (T := T) ⟨o, ho', hc⟩ ?_)
  have ht : ((Value.type T == Value.type "list") || (Value.type T == Value.type "tuple")) = true := by
    rcases hT with rfl | rfl <;> rfl
  rw [if_pos (by rw [Bool.or_assoc, ht]; simp)]
  refine wpAny_bind (listItems_at ho' hd ?_)
  refine wpAny_bind (listItems_at (xs := #[]) (n := 0) (Heap.get?_push_size _ rfl) rfl ?_)
  rw [if_neg (by simp)]
  refine wpAny_bind (listUpdate_at (xs := #[]) (n := 0) (Heap.get?_push_size _ rfl) rfl ?_ (Nat.zero_le _) (by show (#[] ++ vs.toArray).size ≤ sizeLine + 1; simp only [Array.size_append, List.size_toArray, List.length_nil]; omega))
  refine wpAny_pure ?_
  show wpAny (model prog w) A (do
      let o ← load s.heap.objs.size
      match o.data with
      | .seq xs _ => pure xs.toList
      | _ => unsupported "internal:collect") Q E { s with heap := (s.heap.push (seqObj "list" #[] 0)).update s.heap.objs.size (Obj.mapSeq (· ++ vs.toArray)) }
  refine wpAny_bind (wpAny_load (get?_update_seq (Heap.get?_push_size _ rfl) _) ?_)
  show wpAny _ _ (pure ((#[] : Array Value) ++ vs.toArray).toList) Q E _
  rw [show ((#[] : Array Value) ++ vs.toArray).toList = vs by simp]
  exact wpAny_pure h
theorem sortedS_of_sort {l : Addr} {vs : List Value} {T : String} {o : Obj} {n : Nat} {Q : Value → Shared → Prop} (hT : T = "list" ∨ T = "tuple") (ho : s.heap.get? l = some o) (hc : o.cls = .type T) (hd : o.data = .seq vs.toArray n) (hL : vs.length ≤ sizeLine)
    (body : ∀ E' : Value → Shared → Prop, wpAny (model prog w) A.in1.in1 (Builtin.«list.sort» ⟨[.ref (s.heap.objs.size + 1)], []⟩) (fun f s' => f = .done (.ret .none) ∧ Q (.ref (s.heap.objs.size + 1)) s') E' { s with heap := copyHeap s.heap vs }) :
    wpAny (model prog w) A (call (.builtin "sorted") [.ref l]) Q E s := by
  refine call_function_entry_kw kind_sorted plain_sorted entry_sorted (args_sorted1 _) ?_
  unfold Builtin.«sorted»
  refine wpAny_bind (m := checkCount "sorted" 1 1 _) (wpAny_pure ?_)
  refine wpAny_bind (collectS hT ho hc hd ?_ hL)
  refine wpAny_bind (wpAny_newList ?_ hL)
  have hsz : ((s.heap.push (seqObj "list" #[] 0)).update s.heap.objs.size (Obj.mapSeq (· ++ vs.toArray))).objs.size = s.heap.objs.size + 1 := by
    rw [Heap.size_update, size_push']
  show wpAny _ _ _ _ _ { s with heap := copyHeap s.heap vs }
  rw [hsz]
  refine wpAny_bind (wpAny_holding (wpAny_call_entry_kw slot_list_sort ⟨_, copyHeap_at s.heap vs, rfl⟩ entry_list_sort ?body (args_list_sort _)))
  case body =>
    show wpAny (model prog w) A.in1.in1 (Builtin.«list.sort» ⟨[.ref (s.heap.objs.size + 1)], []⟩) _ _ _
    refine wpAny_mono (body _) (fun f s' hf => ?_) fun _ _ e => e
    obtain ⟨rfl, hq⟩ := hf
    exact ⟨_, rfl, wpAny_pure ⟨_, rfl, hq⟩⟩
theorem sortedS_data {β : Type} {vs : List Value} {bs : List β} {enc : β → PyData} {R : Value → β → Prop} {l : Addr} {T : String} {o : Obj} {n : Nat} {Q : Value → Shared → Prop} (hT : T = "list" ∨ T = "tuple") (ho : s.heap.get? l = some o) (hc : o.cls = .type T) (hd : o.data = .seq vs.toArray n)
    (e : EachIs R vs bs) (er : EachIs (fun v b => ∃ as, Reads s.heap v (enc b) as) vs bs) (hal : AllAlike (bs.map enc)) (hk : Sortable (bs.map enc)) (hL : bs.length ≤ sizeLine)
    (hu : ∀ b, b ∈ bs → A.units + 2 + (enc b).depth < cLine) (h : ∀ out, out.length = bs.length → EachIs R out (bs.mergeSort (dataLe false enc)) → Q (.ref (s.heap.objs.size + 1)) { s with heap := sortedAll s.heap vs (List.toArray out) }) :
    wpAny (model prog w) A (call (.builtin "sorted") [.ref l]) Q E s := by
  have er' : EachIs (fun v b => ∃ as, Reads (sortingHeap (copyHeap s.heap vs) (s.heap.objs.size + 1) vs) v (enc b) as) vs bs := er.mono fun _ _ ⟨as, r⟩ => ⟨as, PyProof.Rows.Reads.keeps (fun _ _ => sorting_copy_old) r⟩
  have hq := h _ (by rw [sortVals_length false rfl]; exact e.length) (sortVals_data false e er' hal)
  exact sortedS_of_sort hT ho hc hd (by rw [e.length]; exact hL) fun _ => list_sort_vals (s := { s with heap := copyHeap s.heap vs }) (copyHeap_at s.heap vs)
    (SortsAt.data (s := { s with heap := sortingHeap (copyHeap s.heap vs) (s.heap.objs.size + 1) vs }) (each_map (R := fun v d => ∃ as, Reads (sortingHeap (copyHeap s.heap vs) (s.heap.objs.size + 1) vs) v d as) enc er') hal hk (bound_map hu)) (by rw [e.length]; exact hL) ⟨rfl, hq⟩
end
def rSortS (K : PySem.W.Frag) : List V → Hp → VK → Prop := fun vs H Q => ∃ (a : Addr) (bs : List (V × D)), vs = [V.ref a] ∧ (SqL K H a (bs.map (·.1)) ∨ SqT K H a (bs.map (·.1))) ∧ (∀ p ∈ bs, Dp K H p.1 p.2.pd) ∧ srtOk (bs.map (·.2)) ∧
  ∀ p, H p = none → Q (.ref p) (upd H p (.lst ((bs.mergeSort (fun p q => dLe p.2 q.2)).map (·.1))))
section
variable {X : Cx}
theorem cr_sortedD (hu : X.A.units + 64 < cLine) : CallR X (.builtin "sorted") (rSortD X.K) := by
  intro pins s σ H vs us Q I r h
  obtain ⟨a, bs, rfl, hs, hd, ⟨h1, h2, h3⟩, q⟩ := h
  obtain ⟨its, rv, hl, hz⟩ := I.list hs
  rw [Vals.ref1 r]
  rw [List.length_map] at hz
  have e1 : (bs.map fun p : V × D => p.2.pd) = (bs.map (·.2)).map D.pd := by rw [List.map_map]; rfl
  refine PySem.W.sorted_data (enc := fun p : V × D => p.2.pd) hl.isList (each_vals rv) (each_reads I hd rv) (by rw [e1]; exact h1) (by rw [e1]; exact h2) hz (fun p hp => ?_) fun out k1 k2 => ?_
  · have := h3 p.2 (List.mem_map_of_mem hp)
    omega
  obtain ⟨ep, he'⟩ := PyProof.Rows.sortedAll_at s.heap its out.toArray
  have k2 : PySem.W.EachIs (fun u (p : V × D) => RelV p.1 u) out (bs.mergeSort fun p q => dLe p.2 q.2) := k2
  have hlen : ((bs.mergeSort fun p q => dLe p.2 q.2).map (·.1)).length ≤ sizeLine := by rw [List.length_map, List.length_mergeSort]; exact hz
  exact ⟨.ref _, upd H (s.heap.objs.size + 1) (.lst ((bs.mergeSort fun p q => dLe p.2 q.2).map (·.1))), I.laid (t' := s.toks) (fun _ _ => PyProof.Rows.sortedAll_old) (Nat.le_succ _) ⟨hlen, out, ep, vals_each k2, he'⟩, rfl, q _ (I.hok.fresh (Nat.le_succ _))⟩
theorem cr_sortedS (hu : X.A.units + 64 < cLine) : CallR X (.builtin "sorted") (rSortS X.K) := by
  intro pins s σ H vs us Q I r h
  obtain ⟨a, bs, rfl, hs, hd, ⟨h1, h2, h3⟩, q⟩ := h
  have hh : ∃ (its : List Value) (T : String) (o : Obj) (n : Nat), Vals (bs.map (·.1)) its ∧ (T = "list" ∨ T = "tuple") ∧ s.heap.get? a = some o ∧ o.cls = .type T ∧ o.data = .seq its.toArray n ∧ (bs.map (·.1)).length ≤ sizeLine := by
    rcases hs with hs | hs
    · obtain ⟨its, rv, hl, hz⟩ := I.list hs
      obtain ⟨o, ho, hc, n, hd⟩ := hl.isList
      exact ⟨its, _, o, n, rv, .inl rfl, ho, hc, hd, hz⟩
    · obtain ⟨its, rv, ⟨o, ho, hc, n, hd⟩, hz⟩ := I.tuple hs
      exact ⟨its, _, o, n, rv, .inr rfl, ho, hc, hd, hz⟩
  obtain ⟨its, T, o, n, rv, hT, ho, hc, hdd, hz⟩ := hh
  rw [Vals.ref1 r]
  rw [List.length_map] at hz
  have e1 : (bs.map fun p : V × D => p.2.pd) = (bs.map (·.2)).map D.pd := by rw [List.map_map]; rfl
  refine sortedS_data (enc := fun p : V × D => p.2.pd) hT ho hc hdd (each_vals rv) (each_reads I hd rv) (by rw [e1]; exact h1) (by rw [e1]; exact h2) hz (fun p hp => ?_) fun out k1 k2 => ?_
  · have := h3 p.2 (List.mem_map_of_mem hp)
    omega
  obtain ⟨ep, he'⟩ := PyProof.Rows.sortedAll_at s.heap its out.toArray
  have k2 : PySem.W.EachIs (fun u (p : V × D) => RelV p.1 u) out (bs.mergeSort fun p q => dLe p.2 q.2) := k2
  have hlen : ((bs.mergeSort fun p q => dLe p.2 q.2).map (·.1)).length ≤ sizeLine := by rw [List.length_map, List.length_mergeSort]; exact hz
  exact ⟨.ref _, upd H (s.heap.objs.size + 1) (.lst ((bs.mergeSort fun p q => dLe p.2 q.2).map (·.1))), I.laid (t' := s.toks) (fun _ _ => PyProof.Rows.sortedAll_old) (Nat.le_succ _) ⟨hlen, out, ep, vals_each k2, he'⟩, rfl, q _ (I.hok.fresh (Nat.le_succ _))⟩
/-- sorted of a list -/
def gSorted : GL
  | [d], k => onSome d.seq fun xs => srtOk xs ∧ k (.lst true (xs.mergeSort dLe))
  | _, _ => False
theorem reps_zip {K : PySem.W.Frag} {H : Hp} {O : Addr → Prop} : ∀ {vs : List V} {ds : List D}, Reps K H O vs ds → ∃ bs : List (V × D), vs = bs.map (·.1) ∧ ds = bs.map (·.2) ∧ ∀ p ∈ bs, Rep K H O p.1 p.2
  | _, _, .nil => ⟨[], rfl, rfl, fun _ h => absurd h List.not_mem_nil⟩
  | _, _, .cons r rs => by
    obtain ⟨bs, rfl, rfl, h⟩ := reps_zip rs
    refine ⟨(_, _) :: bs, rfl, rfl, fun p hp => ?_⟩
    rcases List.mem_cons.mp hp with rfl | hp
    · exact r
    · exact h p hp
theorem zip_reps {K : PySem.W.Frag} {H : Hp} {O : Addr → Prop} : ∀ {bs : List (V × D)}, (∀ p ∈ bs, Rep K H O p.1 p.2) → Reps K H O (bs.map (·.1)) (bs.map (·.2))
  | [], _ => .nil
  | p :: bs, h => .cons (h p List.mem_cons_self) (zip_reps fun q hq => h q (List.mem_cons_of_mem _ hq))
theorem calld_sorted (hu : X.A.units + 64 < cLine) : CallD X (.builtin "sorted") gSorted := by
  refine ⟨_, cr_sortedS hu, fun H O xs ds k R own vs g f => ?_⟩
  unfold gSorted at g
  split at g
  · obtain ⟨ds, e1, h0, g⟩ := g.ex
    obtain ⟨v, rfl, h⟩ := vs.one
    obtain ⟨a, ws, rfl, q, r⟩ := h.seq e1
    obtain ⟨bs, rfl, rfl, hb⟩ := reps_zip r
    refine ⟨a, bs, rfl, q, fun p hp => (hb p hp).dp (alike_ndc (h0.1 _ (List.mem_map_of_mem (List.mem_map_of_mem hp)) _ (List.mem_map_of_mem (List.mem_map_of_mem hp)))), h0, fun p hp => fin_lst own f hp (zip_reps fun p hp => hb p (List.mem_mergeSort.mp hp)) ?_⟩
    have e : (bs.mergeSort fun p q => dLe p.2 q.2).map (·.2) = (bs.map (·.2)).mergeSort dLe := List.map_mergeSort (fun a _ b _ => rfl)
    rw [e]
    exact g
  · exact g.elim
end
end Bx
/-! xs.extend(ys) -/
namespace Bx
open PySem PySem.Spec PyProof.Rows L2
theorem bb_sorted : bootBuiltins "sorted" = some (.builtin "sorted") := by decide +kernel
section
variable {X : Cx} {o e : Expr} {apos cpos : Pos}
def kExt (i : Nat) (k : D → Rho → Prop) (d : D) (ρ : Rho) : Prop := onSome (ownL ρ i) fun xs => match d with
  | .lst _ ys => xs.length + ys.length ≤ sizeLine ∧ k .non (rset ρ i (some (.lst true (xs ++ ys))))
  | _ => False
def dExt (i : Nat) (w : DE) (k : D → Rho → Prop) (ρ : Rho) : Prop := onSome (ownL ρ i) fun _ => w (kExt i k) ρ
theorem se_extend {i : Nat} {w : DE} (hv : PE X o (tVar i)) (h : SE X e w) (hbase : attributeBase o "extend" X.env (eval o X.env) = eval o X.env := by rfl)
    (hfew : ((backTo cpos (starEach [e] X.env)).all (fun x => !x.1) && (backToKw cpos (keywordEach [] X.env)).all (fun x => x.1.isSome)
      && decide (([e] : List Expr).length + ([] : List Keyword).length + (if ([] : List Keyword).isEmpty then 0 else 1) < 30)) = true := by rfl)
    (hline : (apos.endLine == cpos.line) = true := by rfl) (hs : starEach [e] X.env = (false, eval e X.env) :: starEach [] X.env := by rfl) : SE X (.Call (.Attribute o "extend" apos) [e] [] cpos) (dExt i w) := by
  obtain ⟨t, pe, f⟩ := h
  refine ⟨_, pe_bm PySem.F.plainAttrs_list PySem.F.slot_list_extend PySem.F.type_list_extend mt_extend hv (pa_cons pe pa_nil hs) hbase hfew hline hs rfl, fun σ H ρ O k R s hw q => ?_⟩
  obtain ⟨xs, ex, hw⟩ := onSome.ex hw
  obtain ⟨a, vs, hs1, ha, r⟩ := slot_own s ex
  refine ⟨.ref a, hs1, .inl ⟨rfl, _, .of ha⟩, f σ H ρ O _ _ s hw fun v H1 ρ1 O1 d a1 vo hk => ?_⟩
  obtain ⟨ys, ey, hk⟩ := onSome.ex hk
  obtain ⟨O2, l2, a2, rv⟩ := After.freeze_val s a1 vo fun _ z => z
  obtain ⟨a', ws, hs2, ha2, r2⟩ := slot_own a2.sr ey
  rw [hs1] at hs2; cases hs2
  cases d with
  | lst o2 zs =>
    obtain ⟨b, us, rfl, hb, r3⟩ := (Val.rep rv : Val X.K H1 O2 v (.lst false zs)).lst
    refine ⟨a, b, ws, us, rfl, rfl, ha2, hb, by rw [r2.length, r3.length]; exact hk.1, ?_⟩
    have m := mut_slot a2.sr (ownL_eq ey) hs1 (r2.append r3)
    exact q _ _ _ _ _ (a2.trans m) (.rep .non) hk.2
  | _ => exact hk.elim
end
end Bx
/-! dicts: {}, {text: int, ..}, dict(pairs) -/
namespace Bx
open PySem PySem.Spec PyProof.Rows L2
section
variable {X : Cx} {pos : Pos}
theorem se_dict0 : SE X (.Dict [] [] pos) (dC (.dic [] [])) := by
  refine ⟨_, pe_dnewK, fun σ H ρ O k R s hw q => fun n hn => ?_⟩
  have a3 := s.ext0 (ext_new (o := .dK []) hn) (own_new s.own hn)
  exact q _ _ _ _ _ a3 (.rep (.dic (kvs := []) upd_same (s.fresh hn) .nil)) hw
/-- written entries -/
structure SDs (X : Cx) (pos : Pos) (keys : List (Option Expr)) (values : List Expr) (ents : List (Str × Int)) : Prop where
  run : PPs X pos keys values (ents.map fun p => (tC (.str p.1), tC (.int p.2)))
theorem sds_nil : SDs X pos [] [] [] := ⟨pps_nil⟩
theorem sds_cons {x : Str} {i : Int} {j1 j2 : Nat} {p1 p2 : Pos} {ks : List (Option Expr)} {vs : List Expr} {ents : List (Str × Int)} (h : SDs X pos ks vs ents) :
    SDs X pos (some (.Constant (.str x) j1 p1) :: ks) (.Constant (.int i) j2 p2 :: vs) ((x, i) :: ents) := ⟨pps_cons pe_str pe_int h.run⟩
theorem tPairs_c {σ : L2.St} {H : Hp} {Q : List (V × V) → Hp → Prop} : ∀ {ents : List (Str × Int)} {acc : List (V × V)}, Q (acc ++ ents.map fun p => (V.str p.1, V.int p.2)) H → tPairs (ents.map fun p => (tC (.str p.1), tC (.int p.2))) σ H (fun ps H' => Q (acc ++ ps) H')
  | [], acc, h => h
  | p :: ents, acc, h => by
    show tPairs (ents.map fun p => (tC (.str p.1), tC (.int p.2))) σ H (fun ps H' => Q (acc ++ (V.str p.1, V.int p.2) :: ps) H')
    have := tPairs_c (σ := σ) (H := H) (Q := Q) (ents := ents) (acc := acc ++ [(V.str p.1, V.int p.2)]) (by simpa using h)
    simpa using this
theorem putK_no {kvs : List (Key × V)} {k : Key} {v : V} (h : k ∉ kvs.map (·.1)) : putK kvs k v = kvs ++ [(k, v)] := by
  unfold putK
  rw [if_neg]
  intro e
  obtain ⟨p, hp, e⟩ := List.any_eq_true.mp e
  exact h (List.mem_map.mpr ⟨p, hp, of_decide_eq_true e⟩)
theorem mergeK_nodup : ∀ {more kvs : List (Key × V)}, ((kvs ++ more).map (·.1)).Nodup → mergeK kvs more = kvs ++ more
  | [], kvs, _ => by simp [mergeK]
  | p :: more, kvs, h => by
    show mergeK (putK kvs p.1 p.2) more = _
    have hn : p.1 ∉ kvs.map (·.1) := fun hp => by
      rw [List.map_append] at h
      exact (List.nodup_append.mp h).2.2 _ hp _ (by simp) rfl
    rw [putK_no hn, mergeK_nodup (by simpa using h)]
    simp
def eKey (p : Str × Int) : Key := .inr p.1
theorem se_dictC {keys : List (Option Expr)} {values : List Expr} {ents : List (Str × Int)} (h : SDs X pos keys values ents) (hall : keys.all (·.isSome) = true) (hl : keys.length = values.length) (h0 : keys ≠ []) (h15 : keys.length ≤ 15) (e15 : ents.length ≤ 15)
    (nd : (ents.map eKey).Nodup) : SE X (.Dict keys values pos) (dC (.dic (ents.map eKey) (ents.map fun p => .int p.2))) := by
  refine ⟨_, pe_disp h.run hall hl h0 h15, fun σ H ρ O k R s hw q => fun n hn => ?_⟩
  refine tPairs_c (acc := []) (Q := fun ps H2 => H2 n = some (.dK []) ∧ ∃ kvs : List (Key × V), ps = kvs.map (fun kv => (L2.kV kv.1, kv.2)) ∧ kvs.length ≤ 15 ∧ R (.ref n) (upd H2 n (.dK (mergeK [] kvs)))) ⟨upd_same, ents.map (fun p => (eKey p, V.int p.2)), ?_, by simpa using e15, ?_⟩
  · rw [List.nil_append, List.map_map]; rfl
  · have e1 : (ents.map (fun p => (eKey p, V.int p.2))).map (·.1) = ents.map eKey := by rw [List.map_map]; rfl
    have e2 : (ents.map (fun p => (eKey p, V.int p.2))).map (·.2) = (ents.map (·.2)).map V.int := by rw [List.map_map, List.map_map]; rfl
    rw [mergeK_nodup (by rw [List.nil_append, e1]; exact nd), List.nil_append, upd_upd]
    have a3 := s.ext0 (ext_new (o := .dK (ents.map (fun p => (eKey p, V.int p.2)))) hn) (own_new s.own hn)
    refine q _ _ _ _ _ a3 (.rep ?_) hw
    have r : Rep X.K (upd H n (.dK (ents.map (fun p => (eKey p, V.int p.2))))) O (.ref n) (.dic ((ents.map (fun p => (eKey p, V.int p.2))).map (·.1)) ((ents.map (·.2)).map D.int)) := .dic upd_same (s.fresh hn) (by rw [e2]; exact Reps.of_ints _)
    rw [e1, List.map_map] at r
    exact r
end
/-! ### dict(pairs) -/
def asKV : List D → Option (List (Key × D))
  | [] => some []
  | .tup [.int i, v] :: r => (asKV r).map ((.inl i, v) :: ·)
  | .tup [.str i, v] :: r => (asKV r).map ((.inr i, v) :: ·)
  | _ :: _ => none
def putD (l : List (Key × D)) (k : Key) (v : D) : List (Key × D) :=
  if (l.any fun kv => decide (kv.1 = k)) = true then l.map (fun kv => if kv.1 = k then (kv.1, v) else kv) else l ++ [(k, v)]
def mergeD (l more : List (Key × D)) : List (Key × D) := more.foldl (fun acc kv => putD acc kv.1 kv.2) l
def dicD (l : List (Key × D)) : D := .dic (l.map (·.1)) (l.map (·.2))
section
variable {K : PySem.W.Frag} {H : Hp} {O : Addr → Prop}
abbrev RK (K : PySem.W.Frag) (H : Hp) (O : Addr → Prop) : List (Key × V) → List (Key × D) → Prop := Paired fun a b => a.1 = b.1 ∧ Rep K H O a.2 b.2
theorem RK.keys : ∀ {kvs : List (Key × V)} {l : List (Key × D)}, RK K H O kvs l → kvs.map (·.1) = l.map (·.1)
  | _, _, .nil => rfl
  | _, _, .cons h t => by rw [List.map_cons, List.map_cons, h.1, RK.keys t]
theorem RK.vals : ∀ {kvs : List (Key × V)} {l : List (Key × D)}, RK K H O kvs l → Reps K H O (kvs.map (·.2)) (l.map (·.2))
  | _, _, .nil => .nil
  | _, _, .cons h t => .cons h.2 (RK.vals t)
theorem RK.any {k : Key} : ∀ {kvs : List (Key × V)} {l : List (Key × D)}, RK K H O kvs l → (kvs.any fun kv => decide (kv.1 = k)) = l.any fun kv => decide (kv.1 = k)
  | _, _, .nil => rfl
  | _, _, .cons h t => by rw [List.any_cons, List.any_cons, h.1, RK.any t]
theorem RK.snoc {a : Key × V} {b : Key × D} (h : a.1 = b.1 ∧ Rep K H O a.2 b.2) : ∀ {kvs : List (Key × V)} {l : List (Key × D)}, RK K H O kvs l → RK K H O (kvs ++ [a]) (l ++ [b])
  | _, _, .nil => .cons h .nil
  | _, _, .cons g t => .cons g (RK.snoc h t)
theorem RK.upd {k : Key} {v : V} {d : D} (r : Rep K H O v d) : ∀ {kvs : List (Key × V)} {l : List (Key × D)}, RK K H O kvs l → RK K H O (kvs.map fun kv => if kv.1 = k then (kv.1, v) else kv) (l.map fun kv => if kv.1 = k then (kv.1, d) else kv)
  | _, _, .nil => .nil
  | _, _, .cons (a := a) (b := b) h t => by
    rw [List.map_cons, List.map_cons]
    refine .cons ?_ (RK.upd r t)
    by_cases e : a.1 = k
    · rw [if_pos e, if_pos (h.1 ▸ e)]; exact ⟨h.1, r⟩
    · rw [if_neg e, if_neg (h.1 ▸ e)]; exact h
theorem RK.put {k : Key} {v : V} {d : D} (r : Rep K H O v d) {kvs : List (Key × V)} {l : List (Key × D)} (h : RK K H O kvs l) : RK K H O (putK kvs k v) (putD l k d) := by
  unfold putK putD
  rw [h.any]
  split
  · exact h.upd r
  · exact h.snoc ⟨rfl, r⟩
theorem RK.merge : ∀ {more : List (Key × V)} {m2 : List (Key × D)} {kvs : List (Key × V)} {l : List (Key × D)}, RK K H O more m2 → RK K H O kvs l → RK K H O (mergeK kvs more) (mergeD l m2)
  | _, _, _, _, .nil, h => h
  | _, _, _, _, .cons (a := a) (b := b) g t, h => by
    obtain ⟨k, d⟩ := b
    obtain ⟨e, r⟩ := g
    show RK K H O (mergeK (putK _ a.1 a.2) _) (mergeD (putD _ _ _) _)
    have e : a.1 = k := e
    rw [e]
    exact RK.merge t (h.put r)
theorem Reps.pair {vs : List V} {a b : D} (h : Reps K H O vs [a, b]) : ∃ v w, vs = [v, w] ∧ Rep K H O v a ∧ Rep K H O w b := by
  cases h with
  | cons h t => cases t with
    | cons h2 t2 => cases t2; exact ⟨_, _, rfl, h, h2⟩
theorem kv_of : ∀ {ws : List V} {xs : List D} {l : List (Key × D)}, Reps K H O ws xs → asKV xs = some l → ∃ (ps : List Addr) (kvs : List (Key × V)), ws = ps.map V.ref ∧ Paired (fun p kv => SqT K H p [L2.kV kv.1, kv.2]) ps kvs ∧ RK K H O kvs l := by
  intro ws xs l r e
  induction xs generalizing ws l with
  | nil =>
    cases r
    cases e
    exact ⟨[], [], rfl, .nil, .nil⟩
  | cons x xs ih =>
    cases r with
    | cons rx rs =>
    unfold asKV at e
    split at e
    · rename_i heq; cases heq
    · rename_i i v r' heq
      cases heq
      obtain ⟨l', e1, rfl⟩ := Option.map_eq_some_iff.mp e
      obtain ⟨ps, kvs, rfl, h1, h2⟩ := ih rs e1
      cases rx with
      | tup q rr =>
        obtain ⟨a, b, rfl, ra, rb⟩ := rr.pair
        cases ra
        exact ⟨_ :: ps, (.inl _, b) :: kvs, rfl, .cons q h1, .cons ⟨rfl, rb⟩ h2⟩
    · rename_i i v r' heq
      cases heq
      obtain ⟨l', e1, rfl⟩ := Option.map_eq_some_iff.mp e
      obtain ⟨ps, kvs, rfl, h1, h2⟩ := ih rs e1
      cases rx with
      | tup q rr =>
        obtain ⟨a, b, rfl, ra, rb⟩ := rr.pair
        cases ra
        exact ⟨_ :: ps, (.inr _, b) :: kvs, rfl, .cons q h1, .cons ⟨rfl, rb⟩ h2⟩
    · cases e
end
/-- dict of a list of pairs -/
def gDict : GL
  | [d], k => onSome (d.sql.bind asKV) fun l => k (dicD (mergeD [] l))
  | _, _ => False
section
variable {X : Cx}
theorem calld_dict (hc : X.calm = true) : CallD X (.type "dict") gDict := by
  refine ⟨_, call_dictP hc, fun H O xs ds k R own vs g f => ?_⟩
  unfold gDict at g
  split at g
  · obtain ⟨l, e0, g⟩ := g.ex
    obtain ⟨xs, e1, e2⟩ := Option.bind_eq_some_iff.mp e0
    obtain ⟨v, rfl, h⟩ := vs.one
    obtain ⟨a, ws, rfl, q, r⟩ := h.sql e1
    obtain ⟨ps, kvs, rfl, h1, h2⟩ := kv_of r e2
    refine ⟨a, ps, kvs, rfl, q, h1, fun p hp => ?_⟩
    have hm := RK.merge h2 (.nil : RK X.K H O [] [])
    refine f (.ref p) (upd H p (.dK (mergeK [] kvs))) O _ (ext_new hp) (own_new own hp) (.rep ?_) g
    unfold dicD
    rw [← hm.keys]
    refine .dic upd_same (fun z => ?_) (hm.vals.fresh hp)
    obtain ⟨u, e, _⟩ := own p z
    rw [hp] at e; cases e
  · exact g.elim
end
theorem putD_no {l : List (Key × D)} {k : Key} {v : D} (h : k ∉ l.map (·.1)) : putD l k v = l ++ [(k, v)] := by
  unfold putD
  rw [if_neg]
  intro e
  obtain ⟨p, hp, e⟩ := List.any_eq_true.mp e
  exact h (List.mem_map.mpr ⟨p, hp, of_decide_eq_true e⟩)
theorem mergeD_nodup : ∀ {more l : List (Key × D)}, ((l ++ more).map (·.1)).Nodup → mergeD l more = l ++ more
  | [], l, _ => by simp [mergeD]
  | p :: more, l, h => by
    show mergeD (putD l p.1 p.2) more = _
    have hn : p.1 ∉ l.map (·.1) := fun hp => by
      rw [List.map_append] at h
      exact (List.nodup_append.mp h).2.2 _ hp _ (by simp) rfl
    rw [putD_no hn, mergeD_nodup (by simpa using h)]
    simp
end Bx
/-! calls without arguments -/
namespace Bx
open PySem PySem.Spec PyProof.Rows L2
section
variable {X : Cx} {x : Str} {p pos : Pos} {k : Nat} {f : Addr} {fd : FuncData} {ps : List Str} {W : PSpec}
theorem se_call0 (F : FnG X.prog X.w X.K X.mg X.base k f fd ps (spD X.K [] W)) (hr : RoomG k X.A) (hg : Gl X x) (hm : X.mg x = some (.ref f)) (hk : PySem.W.keepIn X.K (.ref f) = true) (hb : Binds X.K fd ps [])
    (hdb : (x == ("__debug__" : Str)) = false := by decide) : SE X (.Call (.Name x p) [] [] pos) (dCall W aNil) :=
  ⟨_, pe_callG0 F hr hg hm hk hb hdb, call_ok (es := []) (fun σ H ρ O k R s w q => q [] H ρ O [] (.refl s) .nil rfl w)⟩
end
end Bx
/-! in, not in; str of an int -/
namespace Bx
open PySem PySem.Spec PyProof.Rows L2
/-- a value without parts -/
def D.flat : D → Option V
  | .non => some .non
  | .bl b => some (.bl b)
  | .int i => some (.int i)
  | .str x => some (.str x)
  | _ => none
def asFlat : List D → Option (List V)
  | [] => some []
  | d :: r => d.flat.bind fun v => (asFlat r).map (v :: ·)
theorem Val.flat {K : PySem.W.Frag} {H : Hp} {O : Addr → Prop} {v u : V} {d : D} (h : Val K H O v d) (e : d.flat = some u) : v = u ∧ flatV u = true := by
  cases h with
  | own _ _ r => cases r <;> cases e
  | rep r => cases r <;> cases e <;> exact ⟨rfl, rfl⟩
theorem Reps.flat {K : PySem.W.Frag} {H : Hp} {O : Addr → Prop} : ∀ {vs us : List V} {ds : List D}, Reps K H O vs ds → asFlat ds = some us → vs = us ∧ us.all flatV = true
  | _, _, [], .nil, e => by cases e; exact ⟨rfl, rfl⟩
  | _, _, d :: r, .cons h t, e => by
    obtain ⟨u, e1, e⟩ := Option.bind_eq_some_iff.mp e
    obtain ⟨l, e2, e⟩ := Option.map_eq_some_iff.mp e
    subst e
    obtain ⟨rfl, f1⟩ := Val.flat (.rep h) e1
    obtain ⟨rfl, f2⟩ := Reps.flat t e2
    exact ⟨rfl, by rw [List.all_cons, f1, f2]; rfl⟩
def gInG (neg : Bool) : G2
  | .int i, .dic ks vs, k => k (.bl (xor neg (dget ks vs (.inl i)).isSome))
  | .str i, .dic ks vs, k => k (.bl (xor neg (dget ks vs (.inr i)).isSome))
  | x, .tup ys, k => onSome x.flat fun u => onSome (asFlat ys) fun us => k (.bl (xor neg (inV u us)))
  | x, .lst _ ys, k => onSome x.flat fun u => onSome (asFlat ys) fun us => k (.bl (xor neg (inV u us)))
  | .int i, .odc ks vs, k => k (.bl (xor neg (dget ks vs (.inl i)).isSome))
  | .str i, .odc ks vs, k => k (.bl (xor neg (dget ks vs (.inr i)).isSome))
  | _, _, _ => False
def gIn : G2 := gInG false
def gNin : G2 := gInG true
section
variable {X : Cx}
def rInDK (neg : Bool) : R2 := fun x y H Q => ∃ (a : Addr) (kvs : List (Key × V)) (k : Key), y = .ref a ∧ x = L2.kV k ∧ H a = some (.dK kvs) ∧ Q (.bl (xor neg (valV kvs k).isSome)) H
theorem op_inDK (hu : X.A.units + 64 < cLine) : OpR X (compareOp .In) (rInDK false) := by
  intro pins s σ H x y v u Q I rx ry h
  obtain ⟨a, kvs, k, rfl, rfl, e, q⟩ := h
  cases ry
  exact d_in (by omega) I (DGet.k e) rx fun s3 I3 => ⟨.bl _, H, I3, rfl, by simpa using q⟩
theorem op_ninDK (hu : X.A.units + 64 < cLine) : OpR X (compareOp .NotIn) (rInDK true) := by
  intro pins s σ H x y v u Q I rx ry h
  obtain ⟨a, kvs, k, rfl, rfl, e, q⟩ := h
  cases ry
  exact d_notIn (by omega) I (DGet.k e) rx fun s3 I3 => ⟨.bl _, H, I3, rfl, by simpa using q⟩
theorem dget_some {K : PySem.W.Frag} {H : Hp} {O : Addr → Prop} : ∀ {kvs : List (Key × V)} {ds : List D} {k : Key}, Reps K H O (kvs.map (·.2)) ds → (dget (kvs.map (·.1)) ds k).isSome = (valV kvs k).isSome
  | [], _, _, .nil => rfl
  | p :: kvs, _, k, .cons r t => by
    simp only [List.map_cons, dget]
    by_cases e : p.1 = k
    · rw [if_pos e, valV_pos e]; rfl
    · rw [if_neg e, valV_neg e]; exact dget_some t
theorem in_ok {neg : Bool} {H : Hp} {O : Addr → Prop} {x y : V} {dx dy : D} {k : D → Prop} {R : VK} (own : Own H O) (vx : Val X.K H O x dx) (vy : Val X.K H O y dy) (g : gInG neg dx dy k) (f : Fin0 X H O k R) :
    rInDK neg x y H R ∨ rIn X.K neg x y H R := by
  have fin : ∀ {u : V} {us vs : List V} {ys : List D} {a : Addr}, dx.flat = some u → asFlat ys = some us → Reps X.K H O vs ys → k (.bl (xor neg (inV u us))) → y = .ref a → (SqL X.K H a vs ∨ SqT X.K H a vs) → rIn X.K neg x y H R := fun {u us vs ys a} e1 e2 r h ey hq => by
    obtain ⟨rfl, f1⟩ := vx.flat e1
    obtain ⟨rfl, f2⟩ := r.flat e2
    refine ⟨a, vs, ey, hq, f1, f2, ?_⟩
    rw [show (if neg = true then !inV x vs else inV x vs) = (neg ^^ inV x vs) by cases neg <;> simp]
    exact fin_id own f (.bl _) h
  unfold gInG at g
  split at g
  · obtain ⟨a, kvs, rfl, h1, rfl, r1⟩ := vy.dic
    refine .inl ⟨a, kvs, .inl _, rfl, vx.int, h1, ?_⟩
    rw [← dget_some r1]
    exact fin_id own f (.bl _) g
  · obtain ⟨a, kvs, rfl, h1, rfl, r1⟩ := vy.dic
    refine .inl ⟨a, kvs, .inr _, rfl, vx.str, h1, ?_⟩
    rw [← dget_some r1]
    exact fin_id own f (.bl _) g
  · obtain ⟨u, e1, g⟩ := g.ex
    obtain ⟨us, e2, g⟩ := g.ex
    obtain ⟨a, vs, rfl, h1, r1⟩ := vy.tup
    exact .inr (fin e1 e2 r1 g rfl (.inr h1))
  · obtain ⟨u, e1, g⟩ := g.ex
    obtain ⟨us, e2, g⟩ := g.ex
    obtain ⟨a, vs, rfl, h1, r1⟩ := vy.lst
    exact .inr (fin e1 e2 r1 g rfl (.inl (.of h1)))
  · obtain ⟨a, kvs, rfl, h1, rfl, r1⟩ := vy.odc
    refine .inl ⟨a, kvs, .inl _, rfl, vx.int, h1, ?_⟩
    rw [← dget_some r1]
    exact fin_id own f (.bl _) g
  · obtain ⟨a, kvs, rfl, h1, rfl, r1⟩ := vy.odc
    refine .inl ⟨a, kvs, .inr _, rfl, vx.str, h1, ?_⟩
    rw [← dget_some r1]
    exact fin_id own f (.bl _) g
  · exact g.elim
theorem opd_in (hu : X.A.units + 64 < cLine) : OpD X (compareOp .In) gIn :=
  ⟨_, (op_inDK hu).or op_in_seq, fun H O x y dx dy k R own vx vy g f => in_ok own vx vy g f⟩
theorem opd_nin (hu : X.A.units + 64 < cLine) : OpD X (compareOp .NotIn) gNin :=
  ⟨_, (op_ninDK hu).or op_notIn_seq, fun H O x y dx dy k R own vx vy g f => in_ok own vx vy g f⟩
end
theorem asFlat_ints : ∀ l : List Int, asFlat (l.map D.int) = some (l.map V.int)
  | [] => rfl
  | i :: r => by
    rw [List.map_cons]
    show (asFlat (r.map D.int)).map (V.int i :: ·) = _
    rw [asFlat_ints r]; rfl
theorem inV_ints (i : Int) (l : List Int) : inV (.int i) (l.map V.int) = l.any (· == i) := by
  unfold inV
  rw [List.any_map]; rfl
/-! ### str(i) -/
def gStr : GL
  | [.int i], k => i.natAbs.log2 < 1920 ∧ k (.str (toString i))
  | [.str a], k => k (.str a)
  | _, _ => False
section
variable {X : Cx}
theorem calld_str : CallD X (.type "str") gStr := by
  refine ⟨_, call_str_int.or SkE.call_str_str, fun H O xs ds k R own vs g f => ?_⟩
  unfold gStr at g
  split at g
  · obtain ⟨v, rfl, h⟩ := vs.one
    exact .inl ⟨_, by rw [h.int], g.1, fin_id own f (.str _) g.2⟩
  · obtain ⟨v, rfl, h⟩ := vs.one
    exact .inr ⟨_, by rw [h.str], fin_id own f (.str _) g⟩
  · exact g.elim
end
end Bx
/-! == () of any tuple -/
namespace Bx
open PySem PySem.Spec PyProof.Rows L2
def gEqE : G2
  | .tup xs, .tup [], k => k (.bl xs.isEmpty)
  | x, y, k => gEq x y k
theorem isEmpty_len {α β : Type} {xs : List α} {ys : List β} (h : xs.length = ys.length) : xs.isEmpty = ys.isEmpty := by
  cases xs <;> cases ys <;> simp at h ⊢
section
variable {X : Cx}
def rEqE (K : PySem.W.Frag) : R2 := fun x y H Q => ∃ a b xs, x = .ref a ∧ y = .ref b ∧ SqT K H a xs ∧ SqT K H b [] ∧ Q (.bl xs.isEmpty) H
theorem op_eqE (hu : X.A.units + 64 < cLine) : OpR X (compareOp .Eq) (rEqE X.K) := by
  intro pins s σ H x y v u Q I rx ry h
  obtain ⟨a, b, xs, rfl, rfl, h1, h2, q⟩ := h
  cases rx
  cases ry
  obtain ⟨is1, v1, t1, _⟩ := I.tuple h1
  obtain ⟨is2, v2, t2, _⟩ := I.tuple h2
  cases v2
  obtain ⟨o1, g1, c1, n1, d1⟩ := t1
  obtain ⟨o2, g2, c2, n2, d2⟩ := t2
  refine SeqAt.eq_tupleAt (e := fun _ => true) ⟨o1, g1, c1, _, d1⟩ ⟨o2, g2, c2, _, d2⟩ (by omega) (fun j h1 h2 => absurd h2 (by simp)) ⟨.bl _, H, I, ?_, q⟩
  have e : xs.length = is1.length := v1.length
  have : xs.isEmpty = (is1.length == 0) := by rw [← e]; cases xs <;> rfl
  rw [this]
  simp
  rfl
theorem opd_eqE (hu : X.A.units + 64 < cLine) : OpD X (compareOp .Eq) gEqE := by
  obtain ⟨r, o1, o2⟩ := opd_eq (X := X) hu
  refine ⟨_, (op_eqE hu).or o1, fun H O x y dx dy k R own vx vy g f => ?_⟩
  unfold gEqE at g
  split at g
  · obtain ⟨a, vs, rfl, h1, r1⟩ := vx.tup
    obtain ⟨b, ws, rfl, h2, r2⟩ := vy.tup
    cases r2
    refine .inl ⟨a, b, vs, rfl, rfl, h1, h2, ?_⟩
    rw [show vs.isEmpty = _ from isEmpty_len r1.length]
    exact fin_id own f (.bl _) g
  · exact .inr (o2 H O x y dx dy k R own vx vy g f)
end
end Bx
/-! reversed walks; a[i], a[j] = x, y -/
namespace Bx
open PySem PySem.Spec PyProof.Rows L2
section
variable {K : PySem.W.Frag} {H H1 : Hp} {O O1 S : Addr → Prop} {a : Addr} {vs : List V} {ds : List D}
theorem rev_get {α : Type} {xs : List α} {i : Nat} {x : α} (h : xs.reverse[i]? = some x) : i < xs.length ∧ xs[xs.length - 1 - i]? = some x := by
  have hl : i < xs.length := by
    have := (List.getElem?_eq_some_iff.mp h).1
    simpa using this
  refine ⟨hl, ?_⟩
  rw [List.getElem?_reverse hl] at h
  exact h
theorem items_revL (hS : Lsts H O S) (hs : ∀ H1 O1, Ext S H O H1 O1 → SqL K H1 a vs) (r : Reps K H O vs ds) : Items K (Itv K a vs.length) H O S ds.reverse := by
  intro H1 O1 own e i
  have q := hs H1 O1 e
  have r1 := r.ext e hS
  have hl : vs.length = ds.length := r.length
  refine ⟨fun d hd => ?_, fun hl2 => ?_⟩
  · obtain ⟨h1, h2⟩ := rev_get hd
    obtain ⟨v, hv, rv⟩ := r1.get h2
    refine ⟨⟨by omega, vs, v, q, by rw [hl]; exact hv⟩, fun x H2 ⟨e2, hx⟩ => ?_⟩
    subst e2
    have ev := hx vs q
    rw [hl, hv] at ev
    cases ev
    exact ⟨.refl, own, rv⟩
  · show vs.length ≤ i
    simp at hl2; omega
theorem items_revT (hS : Lsts H O S) (h : SqT K H a vs) (r : Reps K H O vs ds) : Items K (RT.ItvT K a vs.length) H O S ds.reverse := by
  intro H1 O1 own e i
  have q := sqT_ext e hS h
  have r1 := r.ext e hS
  have hl : vs.length = ds.length := r.length
  refine ⟨fun d hd => ?_, fun hl2 => ?_⟩
  · obtain ⟨h1, h2⟩ := rev_get hd
    obtain ⟨v, hv, rv⟩ := r1.get h2
    refine ⟨⟨by omega, vs, v, q, by rw [hl]; exact hv⟩, fun x H2 ⟨e2, hx⟩ => ?_⟩
    subst e2
    have ev := hx vs q
    rw [hl, hv] at ev
    cases ev
    exact ⟨.refl, own, rv⟩
  · show vs.length ≤ i
    simp at hl2; omega
end
section
variable {X : Cx} {tg e : Expr} {pos p : Pos}
/-- reversed of a tuple or a list -/
def kRev (k : List D → Rho → Prop) (d : D) (ρ : Rho) : Prop := match d with
  | .tup xs => k xs.reverse ρ
  | .lst _ xs => k xs.reverse ρ
  | _ => False
def iRev (w : DE) (k : List D → Rho → Prop) (ρ : Rho) : Prop := w (kRev k) ρ
theorem si_rev {w : DE} (hg : Gl X "reversed") (hm : X.mg "reversed" = none) (h : SE X e w) (he : starEach [e] X.env = (false, eval e X.env) :: starEach [] X.env := by rfl) : SI X tg (.Call (.Name "reversed" p) [e] [] pos) (iRev w) := by
  obtain ⟨t, pe, f⟩ := h
  refine ⟨_, RT.pi_revA hg hm pe he, fun σ H ρ O k R s hw q => ?_⟩
  refine f σ H ρ O _ _ s hw fun v H1 ρ1 O1 d a vo hk => ?_
  have L := a.sr.lsts
  cases d <;> try exact False.elim hk
  · obtain ⟨b, vs, rfl, h1, r⟩ := vo.val.tup
    exact ⟨b, vs, rfl, .inr ⟨h1, q _ H1 ρ1 O1 _ a (items_revT L h1 r) hk⟩⟩
  · rename_i o ds
    cases vo.val with
    | @own b u _ oo h r0 =>
      obtain ⟨vs, rfl, r⟩ := r0.lst_of'
      have ns : ¬ Sl ρ1 σ b := a.nsl s (vo.new b r0.o rfl)
      exact ⟨b, vs, rfl, .inl ⟨.of h, q _ H1 ρ1 O1 _ a (items_revL L (fun H2 O2 e => .of (e.keep b _ h ns).1) r) hk⟩⟩
    | rep r =>
      cases r with
      | @lst b vs ds h n r => exact ⟨b, vs, rfl, .inl ⟨.of h, q _ H1 ρ1 O1 _ a (items_revL L (fun H2 O2 e => .of (rd_ext e L h n).1) r) hk⟩⟩
end
/-! ### a[i], a[j] = x, y -/
section
variable {X : Cx} {o : Expr} {pos : Pos} {ios : List Nat}
theorem rep_frz {K : PySem.W.Frag} {H : Hp} {O : Addr → Prop} {v : V} {d : D} (r : Rep K H O v d) : d.frz = d := by cases r <;> rfl
/-- one store, of a value that stands -/
theorem sub_step {i : Nat} {b : DO} {t2 : TE} (f2 : ∀ (σ : L2.St) (H : Hp) (ρ : Rho) (O : Addr → Prop) (k : DOp → Rho → Prop) (R : VK), Sr X.K ρ σ H O → b k ρ →
    (∀ v H' ρ' O' o, After X.K ρ σ H O ρ' H' O' → OOk X.K σ H H' O' v o → k o ρ' → R v H') → t2 σ H R) {σ : L2.St} {H : Hp} {ρ : Rho} {O : Addr → Prop} {v : V} {d : D} {nx : Rho → Prop} {Q : L2.St → Hp → Prop}
    (s : Sr X.K ρ σ H O) (rv : Rep X.K H O v d) (hk : kSub1 i b nx d ρ) (q : ∀ H' ρ' O', After X.K ρ σ H O ρ' H' O' → nx ρ' → Q σ H') : L2.gSub (tVar i) t2 rSetL v σ H Q := by
  obtain ⟨xs0, ex0, hk⟩ := onSome.ex hk
  obtain ⟨a0, vs0, hs1, _, _⟩ := slot_own s ex0
  refine ⟨.ref a0, hs1, f2 σ H ρ O _ _ s hk fun y H2 ρ2 O2 oy a2 c2 h2 => ?_⟩
  obtain ⟨dy, ey, h2⟩ := onSome.ex h2
  obtain ⟨xs, ex, h2⟩ := onSome.ex h2
  cases dy <;> try exact False.elim h2
  obtain ⟨n, en, h2⟩ := onSome.ex h2
  have vy := (c2.val a2.sr ey).int
  have rv2 := rv.ext a2.ext s.lsts
  obtain ⟨a', ws, hs2, ha2, r2⟩ := slot_own a2.sr ex
  rw [hs1] at hs2; cases hs2
  refine ⟨a0, ws, _, n, rfl, vy, ha2, by rw [r2.length]; exact en, ?_⟩
  rw [rep_frz rv] at h2
  have m := mut_slot a2.sr (ownL_eq ex) hs1 (r2.set rv2 n)
  exact q _ _ _ (a2.trans m) h2
def kSubs (i : Nat) (b1 b2 : DO) (nx : Rho → Prop) (d : D) (ρ : Rho) : Prop := match d with
  | .tup [x, y] => kSub1 i b1 (kSub1 i b2 nx y) x ρ
  | _ => False
def dSubs (i : Nat) (w : DE) (b1 b2 : DO) (E : DEnds) (ρ : Rho) : Prop := w (kSubs i b1 b2 E.nx) ρ
theorem ss_subs {i k1 : Nat} {w : DE} {b1 b2 : DO} {i1 i2 e : Expr} {p1 p2 pt : Pos} (hc : X.calm = true) (hv : PE X o (tVar i)) (hv2 : PE X o' (tVar i)) (h : SE X e w) (hb1 : SO X i1 b1) (hb2 : SO X i2 b2)
    (hs : swapsWithSole [.Tuple [.Subscript o i1 p1, .Subscript o' i2 p2] k1 pt] e pos.line X.env = pure false := by rfl) (hw : swappedStores [.Tuple [.Subscript o i1 p1, .Subscript o' i2 p2] k1 pt] e X.env = pure none := by rfl)
    (h1 : (assignEach [.Tuple [.Subscript o i1 p1, .Subscript o' i2 p2] k1 pt] X.env).map (·.2) = [assign (.Tuple [.Subscript o i1 p1, .Subscript o' i2 p2] k1 pt) X.env] := by rfl)
    (ha1 : ∀ v, assign (.Subscript o i1 p1) X.env v = (do
      let ov ← holding [v] (eval o X.env)
      let iv ← holding [v, ov] (eval i1 X.env)
      standAt p1
      holding [v, ov, iv] (setItem ov iv v)
      release [v, ov, iv] []) := by intro _; rfl)
    (ha2 : ∀ v, assign (.Subscript o' i2 p2) X.env v = (do
      let ov ← holding [v] (eval o' X.env)
      let iv ← holding [v, ov] (eval i2 X.env)
      standAt p2
      holding [v, ov, iv] (setItem ov iv v)
      release [v, ov, iv] []) := by intro _; rfl)
    (g1 : (assignEach [.Subscript o i1 p1, .Subscript o' i2 p2] X.env).map (·.2) = assign (.Subscript o i1 p1) X.env :: (assignEach [.Subscript o' i2 p2] X.env).map (·.2) := by rfl)
    (g2 : (assignEach [.Subscript o' i2 p2] X.env).map (·.2) = assign (.Subscript o' i2 p2) X.env :: (assignEach [] X.env).map (·.2) := by rfl)
    (hn : (assignEach [.Subscript o i1 p1, .Subscript o' i2 p2] X.env).length = 2 := by rfl) (hst : (assignEach [.Subscript o i1 p1, .Subscript o' i2 p2] X.env).findIdx? (·.1) = none := by rfl) :
    SS X ios (.Assign [.Tuple [.Subscript o i1 p1, .Subscript o' i2 p2] k1 pt] e pos) (dSubs i w b1 b2) := by
  obtain ⟨t, p, f⟩ := h
  obtain ⟨t1, q1, f1⟩ := hb1
  obtain ⟨t2, q2, f2⟩ := hb2
  refine ⟨_, ps_asg p (pg_tup hc (pgs_cons (pg_sub hv q1 set_list ha1) (pgs_cons (pg_sub hv2 q2 set_list ha2) pgs_nil g2) g1) hn hst) hs hw h1, fun σ H ρ O D E s r h => ?_⟩
  refine f σ H ρ O _ _ s h fun v H1 ρ1 O1 d a vo hk => ?_
  unfold kSubs at hk
  split at hk
  · rename_i x y
    obtain ⟨b, vs, rfl, h1, rr⟩ := vo.val.tup
    obtain ⟨vx, vy, rfl, rx, ry⟩ := rr.pair
    refine ⟨b, [vx, vy], rfl, h1, rfl, vx, [vy], rfl, ?_⟩
    refine sub_step f1 a.sr rx hk fun H2 ρ2 O2 a2 hk2 => ?_
    refine ⟨vy, [], rfl, ?_⟩
    refine sub_step f2 a2.sr (ry.ext a2.ext a.sr.lsts) hk2 fun H3 ρ3 O3 a3 hk3 => ?_
    exact ⟨rfl, r.nx _ _ _ _ (a.trans (a2.trans a3)).stp hk3⟩
  · exact hk.elim
end
end Bx
/-! xs[::-1] of lists and tuples -/
namespace HT
open PySem PySem.Spec PyProof.Rows PySem.Builtin
section
variable {prog : Program} {w : World} {A : Around} {E : Value → Shared → Prop} {s : Shared}
theorem bx_adjust (n : Nat) : Builtin.Slice.sliceAdjust none none (-1) (n : Int) = ((n : Int) - 1, -1) := rfl
theorem bx_places (n : Nat) : Builtin.Slice.slicePlaces ((n : Int) - 1) (-1) (-1) = n := by
  unfold Builtin.Slice.slicePlaces
  rw [if_neg (by decide)]
  by_cases h : (n : Int) - 1 > -1
  · rw [if_pos h, show (-(-1 : Int)) = 1 from rfl, Int.ediv_one]; omega
  · rw [if_neg h]; omega
theorem bx_applied {sl : Addr} {vs : Value} {n : Nat} {Q : Int × Int × Nat → Shared → Prop} (hs : s.heap.IsSliceOf sl .none .none vs) (ps : IsPart vs (some (-1))) (h : Q ((n : Int) - 1, -1, n) s) :
    wpAny (model prog w) A (Builtin.Slice.sliceApplied (.ref sl) (pure (n : Int))) Q E s := by
  obtain ⟨os, hos, hcs, hds⟩ := id hs
  unfold Builtin.Slice.sliceApplied Builtin.Slice.sliceFields
  refine wpAny_bind (wpAny_bind (wpAny_field hos hds (x := .none) rfl (wpAny_bind (wpAny_field hos hds (x := .none) rfl (wpAny_bind (wpAny_field hos hds (x := vs) rfl (wpAny_pure ?_)))))))
  refine wpAny_bind (slicePart_ ps ?_)
  show wpAny _ _ (if ((-1 : Int) == 0) = true then _ else _) _ _ s
  rw [if_neg (by decide)]
  refine wpAny_bind (slicePart_none (wpAny_bind (slicePart_none (wpAny_bind (wpAny_pure ?_)))))
  show wpAny _ _ (match Builtin.Slice.sliceAdjust none none (-1) (n : Int) with | (lo, hi) => pure (lo, (-1 : Int), Builtin.Slice.slicePlaces lo hi (-1))) _ _ s
  rw [bx_adjust n]
  show wpAny _ _ (pure ((n : Int) - 1, (-1 : Int), Builtin.Slice.slicePlaces ((n : Int) - 1) (-1) (-1))) _ _ s
  rw [bx_places]
  exact wpAny_pure h
theorem bx_pick (l : List Value) : ((List.range l.length).filterMap fun (m : Nat) => l.toArray[(((l.length : Int) - 1) + (m : Int) * (-1)).toNat]?) = l.reverse := by
  have e : ∀ k, k ≤ l.length → ((List.range k).filterMap fun (m : Nat) => l.toArray[(((l.length : Int) - 1) + (m : Int) * (-1)).toNat]?) = l.reverse.take k := by
    intro k hk
    induction k with
    | zero => rfl
    | succ k ih =>
      rw [List.range_succ, List.filterMap_append, ih (by omega)]
      have h1 : (((l.length : Int) - 1) + (k : Int) * (-1)).toNat = l.length - 1 - k := by omega
      have h2 : l.toArray[l.length - 1 - k]? = some (l[l.length - 1 - k]'(by omega)) := by
        simp
      simp only [List.filterMap_cons, List.filterMap_nil, h1, h2]
      rw [List.take_succ, List.getElem?_reverse (by omega), List.getElem?_eq_getElem (by omega)]
      rfl
  have := e l.length (Nat.le_refl _)
  rw [List.take_of_length_le (by simp)] at this
  exact this
theorem bx_getItem_rev {t sl : Addr} {items : List Value} {vs : Value} {Q : Value → Shared → Prop} (ht : IsTup s.heap t items.toArray) (hs : s.heap.IsSliceOf sl .none .none vs) (ps : IsPart vs (some (-1)))
    (h : Q (.ref s.heap.objs.size) { s with heap := s.heap.push { cls := .type "tuple", data := .seq items.reverse.toArray } })
    (hsz : items.length ≤ sizeLine) : wpAny (model prog w) A (getItem (.ref t) (.ref sl)) Q E s := by
  have htake : sizeOk (.seq items.reverse.toArray) := by
    show items.reverse.toArray.size ≤ sizeLine
    rw [List.size_toArray, List.length_reverse]
    exact hsz
  obtain ⟨os, hos, hcs, hds⟩ := id hs
  have hTs : s.TypeIs (.ref sl) "slice" := ⟨os, hos, hcs⟩
  unfold getItem
  try with_reducible refine wpAny_holding ?_
  first | refine wpAny_bind (wpAny_pure ?_) | skip
  refine wpAny_bind (wpAny_sequenceKey ht.typeIs (by decide) ?_)
  refine wpAny_bind (wpAny_callSpecial?_slot (name := Str.ofString "__getitem__") ht.typeIs PyProof.Rows.slot_tuple_getitem
    (wpAny_call_entry PyProof.Rows.slot_tuple_getitem ht.typeIs entry_tuple_getitem ?_ (args_tuple_getitem _ _)))
  show wpAny _ _ (Builtin.Tuple.tupleItemsOf (.ref t) >>= _) _ _ s
  refine wpAny_bind (tupleItemsOf_ ht ?_)
  refine wpAny_bind (wpAny_typeOf hTs ?_)
  rw [if_pos (by decide)]
  refine wpAny_bind (bx_applied (n := items.toArray.size) hs ps ?_)
  show wpAny _ _ (if ((((items.toArray.size : Nat) : Int) - 1) == 0 && (-1 : Int) == 1 && items.toArray.size == items.toArray.size) = true then _ else _) _ _ s
  rw [if_neg (by simp)]
  rw [List.size_toArray, bx_pick]
  first
    | exact wpAny_bind (m := Builtin.Tuple.tupleExact _) (wpAny_newObj_type (wpAny_pure ⟨_, rfl, wpAny_pure h⟩) htake)
    | exact wpAny_bind (m := Builtin.Tuple.tupleExact _) (wpAny_newObj_type (wpAny_bind (wpAny_pure (wpAny_pure ⟨_, rfl, wpAny_pure h⟩))) htake)
    | exact wpAny_bind (wpAny_bind (m := Builtin.Tuple.tupleExact _) (wpAny_newObj_type (wpAny_pure (wpAny_pure ⟨_, rfl, wpAny_pure h⟩)) htake))
    | exact wpAny_bind (wpAny_bind (m := Builtin.Tuple.tupleExact _) (wpAny_newObj_type (wpAny_pure ⟨_, rfl, wpAny_pure h⟩) htake))
end
end HT
namespace Bx
open PySem PySem.Spec PyProof.Rows L2
section
variable {X : Cx}
def tRevB (K : PySem.W.Frag) (te : TE) : TE := fun σ H Q => te σ H fun x H1 => ∃ a xs, x = .ref a ∧ ((SqL K H1 a xs ∧ ∀ p, H1 p = none → Q (.ref p) (upd H1 p (.lst xs.reverse))) ∨ (SqT K H1 a xs ∧ ∀ p, H1 p = none → Q (.ref p) (upd H1 p (.tup xs.reverse))))
theorem pe_revB {e : Expr} {te : TE} {k : Nat} {p1 p2 p3 pos : Pos} (he : PE X e te) : PE X (.Subscript e (.Slice none none (some (.UnaryOp .USub (.Constant (.int 1) k p1) p2)) p3) pos) (tRevB X.K te) := by
  refine ⟨fun pins s σ H Q I h => ?_⟩
  refine Subscript_ (thn (he.run pins s σ H _ I h) fun v s1 ⟨x, H1, I1, r1, q1⟩ => ?_)
  obtain ⟨a, xs, ex, q⟩ := q1
  subst ex
  cases r1
  have hst : PO X (some (.UnaryOp .USub (.Constant (.int 1) k p1) p2)) (tPart (tUn (rU fun i => .int (-i)) (tC (.int 1)))) := po_some (pe_un un_neg pe_int)
  refine wpAny_Slice (thn (po_none.run pins s1 σ H1 (fun o H2 => o = none ∧ H2 = H1) I1 ⟨rfl, rfl⟩) fun vl s2 ⟨l, H2, I2, pl, el, e2⟩ => ?_)
  subst el e2
  refine thn (po_none.run pins s2 σ H2 (fun o H3 => o = none ∧ H3 = H2) I2 ⟨rfl, rfl⟩) fun vu s3 ⟨u, H3, I3, pu, eu, e3⟩ => ?_
  subst eu e3
  refine thn (hst.run pins s3 σ H3 (fun o H4 => o = some (-1) ∧ H4 = H3) I3 ⟨1, rfl, -1, rfl, rfl, rfl⟩) fun vs s4 ⟨o, H4, I4, ps, eo, e4⟩ => ?_
  subst eo e4
  have I5 : Inv X pins σ H4 { s4 with heap := s4.heap.push { cls := .type "slice", data := .fields #[vl, vu, vs] } } := I4.kept (t' := s4.toks) fun b ob q => Heap.get?_push_of_some _ q
  rcases q with ⟨hx, q⟩ | ⟨hx, q⟩
  · obtain ⟨its, r, ht, hz⟩ := I5.list hx
    have hlen := r.length
    show wpAny (model X.prog X.w) X.A (subscriptTail e (.Slice none none (some (.UnaryOp .USub (.Constant (.int 1) k p1) p2)) p3) (.ref a) (.ref s4.heap.objs.size)) (EP X pins σ Q) X.xe { s4 with heap := s4.heap.push { cls := .type "slice", data := .fields #[vl, vu, vs] } }
    refine PyProof.Rows.tail_any (ops := [.ref a, .ref s4.heap.objs.size]) ht.isList.typeIs (PySem.slot_list_getitem.lookup) ?_ (by with_unfolding_all rfl)
    refine wpAny_getItem_list_slice ht.isList (Heap.IsSliceOf.new _ vl vu vs) pl pu ps (by decide) ?_ (by rw [List.size_toArray]; omega)
    rw [PySem.W.krv_pick]
    refine ⟨.ref _, _, I5.laid (t' := s4.toks) (o := .lst xs.reverse) (fun b ob q => Heap.get?_push_of_some _ q) (Nat.le_refl _) ?_, rfl, q _ (I5.hok.fresh (Nat.le_refl _))⟩
    exact ⟨by rw [List.length_reverse]; exact hz, _, 0, r.reverse, Heap.get?_push_size _ rfl⟩
  · obtain ⟨its, r, ht, hz⟩ := I5.tuple hx
    have hlen := r.length
    cases pl
    cases pu
    show wpAny (model X.prog X.w) X.A (subscriptTail e (.Slice none none (some (.UnaryOp .USub (.Constant (.int 1) k p1) p2)) p3) (.ref a) (.ref s4.heap.objs.size)) (EP X pins σ Q) X.xe { s4 with heap := s4.heap.push { cls := .type "slice", data := .fields #[.none, .none, vs] } }
    refine PyProof.Rows.tail_any (ops := [.ref a, .ref s4.heap.objs.size]) ht.typeIs (PyProof.Rows.slot_tuple_getitem.lookup) ?_ (by with_unfolding_all rfl)
    refine HT.bx_getItem_rev ht (Heap.IsSliceOf.new _ .none .none vs) ps ?_ (by omega)
    refine ⟨.ref _, _, I5.laid (t' := s4.toks) (o := .tup xs.reverse) (fun b ob q => Heap.get?_push_of_some _ q) (Nat.le_refl _) ?_, rfl, q _ (I5.hok.fresh (Nat.le_refl _))⟩
    exact ⟨by rw [List.length_reverse]; exact hz, _, r.reverse, IsTup.new _ _⟩
def kRvs (k : D → Rho → Prop) (d : D) (ρ : Rho) : Prop := match d with
  | .tup xs => k (.tup xs.reverse) ρ
  | .lst _ xs => k (.lst true xs.reverse) ρ
  | _ => False
def dRvs (w : DE) (k : D → Rho → Prop) (ρ : Rho) : Prop := w (kRvs k) ρ
theorem Reps.rev {K : PySem.W.Frag} {H : Hp} {O : Addr → Prop} : ∀ {vs : List V} {ds : List D}, Reps K H O vs ds → Reps K H O vs.reverse ds.reverse
  | _, _, .nil => .nil
  | _, _, .cons r t => by
    rw [List.reverse_cons, List.reverse_cons]
    exact (Reps.rev t).append (.cons r .nil)
theorem se_rvs {e : Expr} {w : DE} {k : Nat} {p1 p2 p3 pos : Pos} (h : SE X e w) : SE X (.Subscript e (.Slice none none (some (.UnaryOp .USub (.Constant (.int 1) k p1) p2)) p3) pos) (dRvs w) := by
  obtain ⟨t, pe, f⟩ := h
  refine ⟨_, pe_revB pe, fun σ H ρ O k R s hw q => ?_⟩
  refine f σ H ρ O _ _ s hw fun v H1 ρ1 O1 d a vo hk => ?_
  cases d <;> try exact False.elim hk
  · obtain ⟨b, vs, rfl, h1, r⟩ := vo.val.tup
    refine ⟨b, vs, rfl, .inr ⟨h1, fun p hp => ?_⟩⟩
    have a3 := a.sr.ext0 (ext_new (o := .tup vs.reverse) hp) (own_new a.sr.own hp)
    exact q _ _ _ _ _ (a.trans a3) ((VOk.tup hp r.rev).back a.back) hk
  · obtain ⟨b, vs, rfl, h1, r⟩ := vo.val.lst
    refine ⟨b, vs, rfl, .inl ⟨.of h1, fun p hp => ?_⟩⟩
    have a3 := a.sr.ext0 (ext_own (o := .lst vs.reverse) hp) (own_own a.sr.own hp)
    exact q _ _ _ _ _ (a.trans a3) ((VOk.lst hp r.rev).back a.back) hk
end
end Bx
/-! text.upper() and d.get(k) -/
namespace Bx
open PySem PySem.Spec PyProof.Rows L2
section
variable {X : Cx} {a b o : Expr} {pos apos cpos : Pos}
def kUpper (k : D → Rho → Prop) (d : D) (ρ : Rho) : Prop := match d with
  | .str x => x.length ≤ 5592405 ∧ k (.str (Txt.upper x)) ρ
  | _ => False
def dUpper (w : DE) (k : D → Rho → Prop) (ρ : Rho) : Prop := w (kUpper k) ρ
theorem se_upper {w : DE} (h : SE X o w) (hbase : attributeBase o "upper" X.env (eval o X.env) = eval o X.env := by rfl) (hline : (apos.endLine == pos.line) = true := by rfl) :
    SE X (.Call (.Attribute o "upper" apos) [] [] pos) (dUpper w) := by
  obtain ⟨t, pe, f⟩ := h
  refine ⟨_, pe_upper pe hbase hline, fun σ H ρ O k R s hw q => ?_⟩
  refine f σ H ρ O _ _ s hw fun v H1 ρ1 O1 d a vo hk => ?_
  cases d <;> try exact False.elim hk
  have ev := vo.val.str
  subst ev
  exact ⟨⟨_, rfl⟩, _, rfl, rfl, hk.1, q _ _ _ _ _ a (.rep (.str _)) hk.2⟩
def D.isDic : D → Bool
  | .dic _ _ => true
  | .odc _ _ => true
  | _ => false
def dgetO (ks : List Key) (vs : List D) (q : Key) : D := (dget ks vs q).getD .non
theorem dgetO_reps {K : PySem.W.Frag} {H : Hp} {O : Addr → Prop} : ∀ {kvs : List (Key × V)} {ds : List D} {k : Key}, Reps K H O (kvs.map (·.2)) ds → Rep K H O ((valV kvs k).getD .non) (dgetO (kvs.map (·.1)) ds k)
  | [], _, k, .nil => .non
  | p :: kvs, _, k, .cons r t => by
    unfold dgetO
    simp only [List.map_cons, dget]
    by_cases e : p.1 = k
    · rw [if_pos e, valV_pos e]
      exact r
    · rw [if_neg e, valV_neg e]
      exact dgetO_reps t
def gGet : G2
  | .dic ks vs, .str i, k => k (dgetO ks vs (.inr i))
  | .odc ks vs, .str i, k => k (dgetO ks vs (.inr i))
  | .dic ks vs, .int i, k => k (dgetO ks vs (.inl i))
  | .odc ks vs, .int i, k => k (dgetO ks vs (.inl i))
  | _, _, _ => False
def kGet2 (x : DOp) (k : D → Rho → Prop) (y : DOp) (ρ : Rho) : Prop := onSome (rd ρ x) fun dx => onSome (rd ρ y) fun dy => gGet dx dy (kV k ρ)
def kGet1 (b : DO) (k : D → Rho → Prop) (x : DOp) (ρ : Rho) : Prop := onSome (rd ρ x) fun dx => dx.isDic = true ∧ b (kGet2 x k) ρ
def dGet1 (wa wb : DO) (k : D → Rho → Prop) (ρ : Rho) : Prop := wa (kGet1 wb k) ρ
theorem se_dget {wa wb : DO} (hu : X.A.units + 64 < cLine) (ha : SO X a wa) (hb : SO X b wb) (m : M1 X a "get" apos b cpos) : SE X (.Call (.Attribute a "get" apos) [b] [] cpos) (dGet1 wa wb) := by
  obtain ⟨ta, pa, fa⟩ := ha
  obtain ⟨tb, pb, fb⟩ := hb
  refine ⟨_, pe_dget1 (by omega) pa pb m, fun σ H ρ O k R s hw q => ?_⟩
  refine fa σ H ρ O _ _ s hw fun x H1 ρ1 O1 ox a1 c1 h1 => ?_
  obtain ⟨dx, ex, hd, h1⟩ := h1.ex
  have vx := c1.val a1.sr ex
  obtain ⟨p, kvs, rfl, hp⟩ : ∃ p kvs, x = .ref p ∧ H1 p = some (.dK kvs) := by
    cases dx <;> try exact (Bool.false_ne_true hd).elim
    · obtain ⟨p, kvs, rfl, hp, _⟩ := vx.dic; exact ⟨p, kvs, rfl, hp⟩
    · obtain ⟨p, kvs, rfl, hp, _⟩ := vx.odc; exact ⟨p, kvs, rfl, hp⟩
  refine ⟨p, rfl, .inl ⟨kvs, .inl hp⟩, ?_⟩
  refine fb σ H1 ρ1 O1 _ _ a1.sr h1 fun y H2 ρ2 O2 oy a2 c2 h2 => ?_
  have a12 := a1.trans a2
  obtain ⟨dx, ex2, h2⟩ := h2.ex
  obtain ⟨dy, ey, h2⟩ := h2.ex
  have vx2 := (c1.then s a1 a2).val a2.sr ex2
  have vy := c2.val a2.sr ey
  cases dx <;> cases dy <;> try exact False.elim h2
  · obtain ⟨p2, kvs2, e2, hp2, rfl, r2⟩ := vx2.dic
    cases e2
    have ev := vy.int
    subst ev
    exact ⟨_, DGet.k (k := .inl _) hp2, q _ _ _ _ _ a12 (.rep (dgetO_reps r2)) h2⟩
  · obtain ⟨p2, kvs2, e2, hp2, rfl, r2⟩ := vx2.dic
    cases e2
    have ev := vy.str
    subst ev
    exact ⟨_, DGet.k (k := .inr _) hp2, q _ _ _ _ _ a12 (.rep (dgetO_reps r2)) h2⟩
  · obtain ⟨p2, kvs2, e2, hp2, rfl, r2⟩ := vx2.odc
    cases e2
    have ev := vy.int
    subst ev
    exact ⟨_, DGet.k (k := .inl _) hp2, q _ _ _ _ _ a12 (.rep (dgetO_reps r2)) h2⟩
  · obtain ⟨p2, kvs2, e2, hp2, rfl, r2⟩ := vx2.odc
    cases e2
    have ev := vy.str
    subst ev
    exact ⟨_, DGet.k (k := .inr _) hp2, q _ _ _ _ _ a12 (.rep (dgetO_reps r2)) h2⟩
end
end Bx
/-! bool(i) -/
namespace Bx
open PySem PySem.Spec PyProof.Rows L2
def gBool : GL
  | [.int i], k => k (.bl (i != 0))
  | [.bl b], k => k (.bl b)
  | _, _ => False
section
variable {X : Cx}
theorem calld_bool : CallD X (.type "bool") gBool := by
  refine ⟨_, call_bool1, fun H O xs ds k R own vs g f => ?_⟩
  unfold gBool at g
  split at g
  · obtain ⟨v, rfl, h⟩ := vs.one
    exact .inl ⟨_, by rw [h.int], fin_id own f (.bl _) g⟩
  · obtain ⟨v, rfl, h⟩ := vs.one
    exact .inr ⟨_, by rw [h.bl], fin_id own f (.bl _) g⟩
  · exact g.elim
end
end Bx
/-! isinstance(x, (A, B)) -/
namespace Bx
open PySem PySem.Spec PyProof.Rows L2
section
variable {X : Cx} {e : Expr} {p pos : Pos}
def kIsi2 (T U : String) (k : D → Rho → Prop) (x : DOp) (ρ : Rho) : Prop := onSome (rd ρ x) fun d => k (.bl (isTy d.ty T || isTy d.ty U)) ρ
def dIsi2 (T U : String) (o : DO) (k : D → Rho → Prop) (ρ : Rho) : Prop := o (kIsi2 T U k) ρ
theorem se_isi2 {T U : String} {x y : Str} {w : DO} {pt pu pp : Pos} {x1 : Nat} (hg : Gl X "isinstance") (hm : X.mg "isinstance" = none) (hgT : Gl X x) (hmT : X.mg x = none) (hvT : bootBuiltins x = some (.type T)) (hgU : Gl X y) (hmU : X.mg y = none) (hvU : bootBuiltins y = some (.type U)) (hT : tysOk T = true) (hU : tysOk U = true) (h : SO X e w)
    (hnT : x ≠ "__name__" := by decide) (hdT : (x == ("__debug__" : Str)) = false := by decide) (hnU : y ≠ "__name__" := by decide) (hdU : (y == ("__debug__" : Str)) = false := by decide)
    (he : starEach [e, .Tuple [.Name x pt, .Name y pu] x1 pp] X.env = (false, eval e X.env) :: starEach [.Tuple [.Name x pt, .Name y pu] x1 pp] X.env := by rfl)
    (he2 : starEach [.Tuple [.Name x pt, .Name y pu] x1 pp] X.env = (false, eval (.Tuple [.Name x pt, .Name y pu] x1 pp) X.env) :: starEach [] X.env := by rfl)
    (he3 : starEach [.Name x pt, .Name y pu] X.env = (false, eval (.Name x pt) X.env) :: starEach [.Name y pu] X.env := by rfl)
    (he4 : starEach [.Name y pu] X.env = (false, eval (.Name y pu) X.env) :: starEach [] X.env := by rfl)
    (hpl : (backTo pos (starEach [.Tuple [.Name x pt, .Name y pu] x1 pp] X.env)).any (·.1) = false := by rfl) :
    SE X (.Call (.Name "isinstance" p) [e, .Tuple [.Name x pt, .Name y pu] x1 pp] [] pos) (dIsi2 T U w) := by
  obtain ⟨t, pe, f⟩ := h
  refine ⟨_, pe_callB call_isiT hg hm (by decide +kernel) (pa_cons pe (pa_cons (pe_tup (pa_cons (pe_bltn (v := .ty T) hgT hmT hvT rfl hnT hdT) (pa_cons (pe_bltn (v := .ty U) hgU hmU hvU rfl hnU hdU) pa_nil he4) he3)) pa_nil he2) he) (by decide) (by decide) he hpl, fun σ H ρ O k R s hw q => ?_⟩
  refine f σ H ρ O _ _ s hw fun v H1 ρ1 O1 o a1 c1 h1 => ?_
  obtain ⟨d, ed, h1⟩ := h1.ex
  refine ⟨le_line (by simp), fun n hn => ?_⟩
  have a3 : After X.K ρ1 σ H1 O1 ρ1 (upd H1 n (.tup [.ty T, .ty U])) O1 := a1.sr.ext0 (ext_new (o := .tup [.ty T, .ty U]) hn) (own_new a1.sr.own hn)
  have hv : TyX X.K (upd H1 n (.tup [.ty T, .ty U])) v (.type d.ty) := by
    cases o with
    | s j =>
      obtain ⟨v', h1, h2⟩ := (a1.trans a3).sr.slot j d (rget_get ed)
      have h3 : σ[j]? = some (some v) := c1
      rw [h3] at h1; cases h1
      exact h2.ty
    | d z =>
      have ez : z = d := by simpa [rd] using ed
      subst ez
      exact (VOk.then s a1 c1 a3).val.ty
  have hq : R (.bl (isTy d.ty T || isTy d.ty U)) (upd H1 n (.tup [.ty T, .ty U])) := q _ _ ρ1 O1 _ (a1.trans a3) (.rep (.bl (isTy d.ty T || isTy d.ty U))) h1
  show rIsiT X.K [v, .ref n] _ R
  refine ⟨v, n, _, _, [.type T, .type U], _, rfl, upd_same, .cons (.ty T) (.cons (.ty U) .nil), hv, ?_, hq⟩
  refine kitAny_cons (b := isTy d.ty T) (kit_ty (tysOk_at hT d)) (fun e => ?_) (fun e => by rw [e]; rfl)
  rw [e, Bool.false_or]
  exact kitAny_cons (b := isTy d.ty U) (kit_ty (tysOk_at hU d)) (fun e => by rw [e]; exact kitAny_nil) (fun e => e)
end
end Bx
/-! sorted(xs, key=f), f a def of ours -/
namespace Bx
open PySem PySem.Spec PyProof.Rows L2
theorem each_map {α β γ : Type} {R : α → γ → Prop} (g : β → γ) : ∀ {as : List α} {bs : List β}, PySem.W.EachIs (fun a b => R a (g b)) as bs → PySem.W.EachIs R as (bs.map g)
  | [], [], _ => .nil
  | [], _ :: _, h => by cases h
  | _ :: _, [], h => by cases h
  | _ :: _, _ :: _, h => by
    cases h with
    | cons a t => exact .cons a (each_map g t)
theorem vals_snoc {vs : List V} {us : List Value} {v : V} {u : Value} (r : Vals vs us) (h : RelV v u) : Vals (vs ++ [v]) (us ++ [u]) := r.append (.cons h .nil)
/-- what f makes of each -/
def keyOk (W : PSpec) (kf : D → D) (xs : List D) : Prop := ∀ x ∈ xs, W [x] (fun r _ => r = kf x) ∧ (kf x).own = false
section
variable {X : Cx} {k : Nat} {f : Addr} {fd : FuncData} {x : Str} {W : PSpec}
theorem run_sortk (F : FnG X.prog X.w X.K X.mg X.base k f fd [x] (spD X.K [] W)) (hr : RoomG (k + 4) X.A) (hb : Binds X.K fd [x] [])
    {pins : List (Addr × Obj)} {σ : L2.St} {H : Hp} {s : Shared} {Q : VK} {l : Addr} {bs : List (V × D)} {O : Addr → Prop} {kf : D → D} (I : Inv X pins σ H s) (hs : SqL X.K H l (bs.map (·.1))) (own : Own H O)
    (hx : ∀ p ∈ bs, Rep X.K H O p.1 p.2) (hk : keyOk W kf (bs.map (·.2))) (hso : srtOk (bs.map fun p => kf p.2))
    (q : ∀ v H' O', Ext (fun _ => False) H O H' O' → Own H' O' → VOk X.K H H' O' v (.lst true ((bs.mergeSort fun a b => dLe (kf a.2) (kf b.2)).map (·.2))) → Q v H') :
    wpAny (model X.prog X.w) X.A (call (.builtin "sorted") [.ref l] [(Str.ofString "key", .ref f)]) (EP X pins σ Q) X.xe s := by
  obtain ⟨its, rv, hl, hz⟩ := I.list hs
  rw [List.length_map] at hz
  have hlen : its.length = bs.length := by rw [← rv.length, List.length_map]
  refine PySem.W.sorted_of_sort hl.isList (by omega) (ksk_s1 _ _) (fun _ => ksk_l1 _ _) fun E' => ?_
  rw [ksk_t1]
  have ho := PySem.W.copyHeap_at s.heap its
  have oldC : ∀ b o, s.heap.get? b = some o → (PySem.W.copyHeap s.heap its).get? b = some o := fun b o e => PySem.W.copyHeap_old e
  generalize hh0 : PySem.W.copyHeap s.heap its = h0 at ho oldC ⊢
  generalize ha : s.heap.objs.size + 1 = a at ho ⊢
  have alt : a < h0.objs.size := Heap.lt_size ho
  have aS : s.heap.objs.size ≤ a := ha ▸ Nat.le_succ _
  obtain ⟨e1, ho1⟩ : ∃ e1, (h0.update a (Obj.mapSeq fun _ => (#[] : Array Value))).get? a = some (seqObj "list" #[] e1) := ⟨_, get?_update_seq ho fun _ => #[]⟩
  have hkS : ((h0.update a (Obj.mapSeq fun _ => (#[] : Array Value))).push (seqObj "tuple" its.toArray 0)).objs.size = h0.objs.size + 1 := by rw [size_push', Heap.size_update]
  unfold ksk_tree
  refine wpAny_bind (listItems_at ho rfl ?_)
  refine wpAny_bind (listUpdate_at ho rfl ?_ (by rw [List.size_toArray]; omega) (Nat.zero_le _))
  refine wpAny_bind (seqEpoch_at ho1 rfl ?_)
  refine wpAny_bind (wpAny_newTuple ?_ (by show its.length ≤ _; omega))
  refine wpAny_bind (wpAny_newList ?_ (Nat.zero_le _))
  refine wpAny_holding ?_
  have nS : ((((h0.update a (Obj.mapSeq fun _ => (#[] : Array Value))).push (seqObj "tuple" its.toArray 0)).push (seqObj "list" #[] 0))).get? (((h0.update a (Obj.mapSeq fun _ => (#[] : Array Value))).push (seqObj "tuple" its.toArray 0)).objs.size) = some (seqObj "list" #[] 0) := Heap.get?_push_size _ rfl
  have nA : ((((h0.update a (Obj.mapSeq fun _ => (#[] : Array Value))).push (seqObj "tuple" its.toArray 0)).push (seqObj "list" #[] 0))).get? a = some (seqObj "list" #[] e1) := Heap.get?_push_of_some _ (Heap.get?_push_of_some _ ho1)
  have kp0 : ∀ b o, s.heap.get? b = some o → ((((h0.update a (Obj.mapSeq fun _ => (#[] : Array Value))).push (seqObj "tuple" its.toArray 0)).push (seqObj "list" #[] 0))).get? b = some o := fun b o e => by
    have hb : b ≠ a := Nat.ne_of_lt (Nat.lt_of_lt_of_le (Heap.lt_size e) aS)
    exact Heap.get?_push_of_some _ (Heap.get?_push_of_some _ ((Heap.get?_update_ne _ _ _ _ hb).trans (oldC b o e)))
  generalize ((((h0.update a (Obj.mapSeq fun _ => (#[] : Array Value))).push (seqObj "tuple" its.toArray 0)).push (seqObj "list" #[] 0))) = h3 at nS nA kp0 ⊢
  have kSlt : a < (((h0.update a (Obj.mapSeq fun _ => (#[] : Array Value))).push (seqObj "tuple" its.toArray 0)).objs.size) := by rw [hkS]; exact Nat.lt_succ_of_lt alt
  generalize (((h0.update a (Obj.mapSeq fun _ => (#[] : Array Value))).push (seqObj "tuple" its.toArray 0)).objs.size) = kS at nS kSlt ⊢
  have kSS : s.heap.objs.size ≤ kS := Nat.le_trans aS (Nat.le_of_lt kSlt)
  have hka : kS ≠ a := Nat.ne_of_gt kSlt
  have pinOk : ∀ {H' : Hp} {b : Addr} {xs : Array Value} {n : Nat} {h : Heap}, s.heap.objs.size ≤ b → H' b = none → h.get? b = some (seqObj "list" xs n) →
      h.get? (b, seqObj "list" xs n).1 = some (b, seqObj "list" xs n).2 ∧ H' (b, seqObj "list" xs n).1 = none ∧ (b, seqObj "list" xs n).1 ≠ X.env.locals ∧ (b, seqObj "list" xs n).1 ∉ X.fs ∧ ∀ v, (b, seqObj "list" xs n).2.data ≠ .cell v :=
    fun hb hn hg => ⟨hg, hn, (Nat.ne_of_lt (Nat.lt_of_lt_of_le I.lt hb)).symm, I.nofs hb, fun v z => by cases z⟩
  have I3 : Inv X pins σ H { s with heap := h3 } := I.kept (t' := s.toks) kp0
  have I4 : Inv X (pins ++ [(kS, seqObj "list" #[] 0), (a, seqObj "list" #[] e1)]) σ H { s with heap := h3 } := I3.pins_of fun p hp => by
    rcases List.mem_append.mp hp with hp | hp
    · exact I3.pin p (List.mem_append_right _ hp)
    · simp only [List.mem_cons, List.not_mem_nil, or_false] at hp
      rcases hp with rfl | rfl
      · exact pinOk kSS (I.hok.fresh kSS) nS
      · exact pinOk aS (I.hok.fresh aS) nA
  have newK : ∀ b, b = kS ∨ b = a → (b ∈ X.ex ∨ X.s_0.heap.objs.size ≤ b) ∧ b ≠ X.env.locals ∧ (∀ x c, X.env.cells.lookup x = some c → c ≠ b) ∧ ∀ p ∈ X.pn ++ pins, p.1 ≠ b := fun b hb => by
    have hbs : s.heap.objs.size ≤ b := by rcases hb with rfl | rfl <;> assumption
    refine ⟨.inr (Nat.le_trans I.sz hbs), (Nat.ne_of_lt (Nat.lt_of_lt_of_le I.lt hbs)).symm, fun x c e => ?_, fun p hp => ?_⟩
    · obtain ⟨v, o, hc, _⟩ := I.cell x c e
      exact Nat.ne_of_lt (Nat.lt_of_lt_of_le (Heap.lt_size hc) hbs)
    · exact Nat.ne_of_lt (Nat.lt_of_lt_of_le (Heap.lt_size (I.pin p hp).1) hbs)
  unfold ksk_rest
  refine wpAny_bind (wpAny_rule ?_)
  first
    | rw [List.forIn_toArray]
    | (rw [← Array.forIn_toList]; simp only [List.toList_toArray])
    | rw [← Array.forIn_toList]
  refine wpAny_bind (ksk_fold (fun i s' => ∃ (H' : Hp) (O' : Addr → Prop) (kA : Array Value) (e : Nat) (kvs : List V), Inv X (pins ++ [(kS, seqObj "list" kA e), (a, seqObj "list" #[] e1)]) σ H' s' ∧ Ext (fun _ => False) H O H' O' ∧ Own H' O' ∧
    Vals kvs kA.toList ∧ Reps X.K H' O' kvs ((bs.map fun p => kf p.2).take i)) its 0 _ ⟨H, O, #[], 0, [], I4, .refl, own, .nil, by rw [List.take_zero]; exact .nil⟩ ?step ?done)
  case step =>
    rintro j u s' hu ⟨H', O', kA, e, kvs, I', ext, own', vk, rk⟩
    simp only [Nat.zero_add] at rk ⊢
    have hj : j < bs.length := by have := (List.getElem?_eq_some_iff.mp hu).1; omega
    have hbj : bs[j]? = some bs[j] := List.getElem?_eq_getElem hj
    obtain ⟨u', hu', rx⟩ := rv.get (i := j) (x := (bs[j]).1) (by rw [List.getElem?_map, hbj]; rfl)
    rw [hu] at hu'; cases hu'
    have hm : bs[j] ∈ bs := List.getElem_mem hj
    have rep : Rep X.K H' O' (bs[j]).1 (bs[j]).2 := (hx _ hm).ext ext (fun _ z => z.elim)
    obtain ⟨hW, hno⟩ := hk (bs[j]).2 (List.mem_map_of_mem (f := (·.2)) hm)
    obtain ⟨sr, nsl⟩ := sr_reps (vs := [(bs[j]).1]) (ds := [(bs[j]).2]) own' (.cons rep .nil)
    have kAl : kA.size = j := by
      have h1 : kvs.length = kA.size := by simpa using vk.length
      have h2 := rk.length
      rw [List.length_take, List.length_map] at h2
      omega
    refine wpAny_bind (wpAny_attempt ?_)
    refine wpAny_call (codeAny_mono (F.run X.A.in1.in1 X.stack s' H' ⟨[u], []⟩ [u] [(bs[j]).1] (fun v H2 => ∃ O2, Ext (fun _ => False) H' O' H2 O2 ∧ Own H2 O2 ∧ Rep X.K H2 O2 v (kf (bs[j]).2)) E0
      ((hr.mono (by omega : k + 2 ≤ k + 4)).in1.in1) I'.env0.in1.in1 (by have := hb s' [u] I'.kIn rfl; rwa [List.append_nil] at this) (.cons rx .nil) ?sp) fun r s2 hq => ?_)
    case sp =>
      refine ⟨[(bs[j]).2], O', fun r _ => r = kf (bs[j]).2, sr, fun i xs h ho => ?_, hW, fun v H2 O2 d outs ex ow vo _ hd => ?_⟩
      · match i, h with
        | 0, h =>
          have h' : (bs[j]).2 = xs := Option.some.inj h
          have := rep.nown
          rw [h', ho] at this; cases this
        | i + 1, h => simp at h
      · subst hd
        refine ⟨O2, ex.mono fun b z => nsl b z, ow, ?_⟩
        have vv := vo.val
        generalize kf (bs[j]).2 = dd at vv hno ⊢
        cases vv with
        | rep r => exact r
        | own _ _ r => rw [r.o] at hno; cases hno
    match r, hq with
    | .error _, hq => exact hq.elim
    | .ok .next, hq => exact hq.elim
    | .ok .brk, hq => exact hq.elim
    | .ok .cont, hq => exact hq.elim
    | .ok (.ret uk), hq =>
      obtain ⟨v, H2, I2, rk2, O2, ex2, ow2, rep2⟩ := I'.after hq
      try dsimp only
      have pS := I2.pin (kS, seqObj "list" kA e) (by simp)
      have pA := I2.pin (a, seqObj "list" #[] e1) (by simp)
      obtain ⟨c2, hc2⟩ : ∃ c2, (s2.heap.update kS (Obj.mapSeq (·.push uk))).get? kS = some (seqObj "list" (kA.push uk) c2) := ⟨_, get?_update_seq pS.1 (·.push uk)⟩
      refine wpAny_bind (listUpdate_at pS.1 rfl ?_ (by omega) (Nat.le_trans (Nat.le_of_eq (Array.size_push ..)) (by omega)))
      have I5 : Inv X pins σ H2 s2 := I2.pins_of fun p hp => I2.pin p (by simp [hp])
      have kpS : ∀ b o, b ≠ kS → s2.heap.get? b = some o → (s2.heap.update kS (Obj.mapSeq (·.push uk))).get? b = some o := fun b o hb' e => (Heap.get?_update_ne _ _ _ _ hb').trans e
      obtain ⟨n1, n2, n3, n4⟩ := newK kS (.inl rfl)
      have I6 : Inv X pins σ H2 { s2 with heap := s2.heap.update kS (Obj.mapSeq (·.push uk)) } := I5.turned (t' := s2.toks) kpS pS.2.1 n2 n1 n3 n4
      have I7 : Inv X (pins ++ [(kS, seqObj "list" (kA.push uk) c2), (a, seqObj "list" #[] e1)]) σ H2 { s2 with heap := s2.heap.update kS (Obj.mapSeq (·.push uk)) } := I6.pins_of fun p hp => by
        rcases List.mem_append.mp hp with hp | hp
        · exact I6.pin p (List.mem_append_right _ hp)
        · simp only [List.mem_cons, List.not_mem_nil, or_false] at hp
          rcases hp with rfl | rfl
          · exact pinOk kSS pS.2.1 hc2
          · exact pinOk aS pA.2.1 (kpS a _ hka.symm pA.1)
      have et : (bs.map fun p => kf p.2).take (j + 1) = (bs.map fun p => kf p.2).take j ++ [kf (bs[j]).2] := by
        rw [List.take_add_one, List.getElem?_map, hbj]; rfl
      refine wpAny_pure ⟨rfl, H2, O2, kA.push uk, c2, kvs ++ [v], I7, ext.trans (fun _ _ _ z => z) ex2, ow2, ?_, ?_⟩
      · rw [Array.toList_push]
        exact vals_snoc vk rk2
      · rw [et]
        exact (rk.ext ex2 (fun _ z => z.elim)).append (.cons rep2 .nil)
  case done =>
    rintro s' ⟨H', O', kA, e, kvs, I', ext, own', vk, rk⟩
    rw [Nat.zero_add, List.take_of_length_le (by rw [List.length_map]; omega)] at rk
    have pS := I'.pin (kS, seqObj "list" kA e) (by simp)
    have pA := I'.pin (a, seqObj "list" #[] e1) (by simp)
    try dsimp only
    refine wpAny_bind (listItems_at pS.1 rfl ?_)
    obtain ⟨kbs, rfl, ek, hkb⟩ := reps_zip rk
    have kAl : kA.size = its.length := by
      have h1 : kbs.length = kA.size := by simpa using vk.length
      have h2 : bs.length = kbs.length := by simpa using congrArg List.length ek
      omega
    have hk' : PySem.W.EachIs (fun v d => ∃ as, Reads s'.heap v d as) kA.toList ((bs.map fun p => kf p.2).map D.pd) := by
      rw [ek, List.map_map]
      refine each_map (fun p : V × D => p.2.pd) (each_reads I' (fun p hp => (hkb p hp).dp (alike_ndc ?_)) vk)
      have : p.2 ∈ bs.map fun p => kf p.2 := by rw [ek]; exact List.mem_map_of_mem hp
      exact hso.1 _ (List.mem_map_of_mem this) _ (List.mem_map_of_mem this)
    obtain ⟨G, g1, g2⟩ := restrict s'.heap fun b => decide (b ≠ kS)
    refine PySem.W.keyH_end (κ := PySem.W.dataKind s'.heap ((bs.map fun p => kf p.2).map D.pd)) (h₁ := G) (vs := its) (fun b o hb' eo => ?_) (g2 kS (by simp)) pS.1 pA.1 hka (PySem.W.SortsAt.data (s := s') hk' hso.1 hso.2.1 (fun d hd => ?_)) kAl (by omega) fun h' tk c kp nA' => ?_
    · by_cases hk2 : b = kS
      · rw [hk2, g2 kS (by simp)] at eo; cases eo
      · rw [← g1 b (by simp [hk2])]; exact eo
    · obtain ⟨d0, hd0, rfl⟩ := List.mem_map.mp hd
      have := hso.2.2 d0 hd0
      have := hr.rm.un
      show X.A.units + 1 + 1 + _ < _
      omega
    · have ko : PySem.W.KeyedOut false ((bs.map fun p => kf p.2).map D.pd) its (PySem.W.sortVals (PySem.W.dataKind s'.heap ((bs.map fun p => kf p.2).map D.pd)) false kA.toList its) := ⟨s'.heap, kA.toList, hso.1, rfl, hk'⟩
      have eR : PySem.W.EachIs (fun u (p : V × D) => RelV p.1 u) its bs := each_vals rv
      have em : (bs.map fun p => kf p.2).map D.pd = bs.map fun p => (kf p.2).pd := by rw [List.map_map]; rfl
      have eo : PySem.W.EachIs (fun u (p : V × D) => RelV p.1 u) (PySem.W.sortVals (PySem.W.dataKind s'.heap ((bs.map fun p => kf p.2).map D.pd)) false kA.toList its) (bs.mergeSort fun a b => dLe (kf a.2) (kf b.2)) := by
        rw [em] at ko ⊢
        exact PySem.W.keyedOut_each (fun p : V × D => (kf p.2).pd) ko eR
      have vo := vals_each eo
      generalize PySem.W.sortVals (PySem.W.dataKind s'.heap ((bs.map fun p => kf p.2).map D.pd)) false kA.toList its = out at nA' vo
      have na : H' a = none := pA.2.1
      have kp2 : ∀ b o, b ≠ kS → b ≠ a → s'.heap.get? b = some o → h'.get? b = some o := fun b o h1 h2 e2 => kp b o h2 ((g1 b (by simp [h1])).trans e2)
      have neT : ∀ b u, H' b = some u → b ≠ kS ∧ b ≠ a := fun b u e2 => ⟨fun z => (by rw [z] at e2; rw [pS.2.1] at e2; cases e2), fun z => (by rw [z, na] at e2; cases e2)⟩
      have ml : ((bs.mergeSort fun a b => dLe (kf a.2) (kf b.2)).map (·.1)).length ≤ sizeLine := by rw [List.length_map, List.length_mergeSort]; omega
      have I8 : Inv X pins σ H' s' := I'.pins_of fun p hp => I'.pin p (by simp [hp])
      have I9 : Inv X pins σ (upd H' a (.lst ((bs.mergeSort fun a b => dLe (kf a.2) (kf b.2)).map (·.1)))) { s' with heap := h', toks := tk } := by
        refine I8.step (g' := s'.gens) (d' := s'.drawn) (ch := [kS, a]) (fun b hb' => newK b (by simpa using hb')) (fun b o _ _ hc e2 _ => kp2 b o (fun z => hc (by simp [z])) (fun z => hc (by simp [z])) e2)
          (fun b o _ _ hc e2 _ => ⟨o.slots, kp2 b o (fun z => hc (by simp [z])) (fun z => hc (by simp [z])) e2⟩) (fun b o hc _ n => by rw [upd_ne (fun z => hc (by simp [z]))]; exact n)
          (fun b o hc e2 => ⟨o, kp2 b o (fun z => hc (by simp [z])) (fun z => hc (by simp [z])) e2⟩) (fun b xs e2 => by rw [upd_ne (neT b _ e2).2]; exact e2) (fun b o u e2 => by rw [upd_ne (neT b _ e2).2]; exact e2)
          (fun b ps e2 => ⟨#[], by rw [upd_ne (neT b _ e2).2, e2]; simp⟩) (fun m hm => ?_) (fun b u e2 => ?_) I8.bare
        · obtain ⟨o, es, ep, ho', r⟩ := hm
          exact ⟨o, es, ep, kp2 _ o (newK kS (.inl rfl)).2.1.symm (newK a (.inr rfl)).2.1.symm ho', r⟩
        · by_cases hb' : b = a
          · subst hb'
            rw [upd_same] at e2
            cases e2
            exact ⟨ml, out, c, vo, nA'⟩
          · rw [upd_ne hb'] at e2
            refine (I8.hok b u e2).stay (fun c' v hc q => kp2 c' v ?_ ?_ q) (fun c' q => by rw [upd_ne (neT c' _ q).2]; exact q) fun c' xs q => by rw [upd_ne (neT c' _ q).2]; exact q
            · rcases hc with z | z
              · rw [z]; exact (neT b u e2).1
              · exact (neT c' _ z).1
            · rcases hc with z | z
              · rw [z]; exact hb'
              · exact (neT c' _ z).2
      have hE := ext_own (H := H') (O := O') (p := a) (o := .lst ((bs.mergeSort fun a b => dLe (kf a.2) (kf b.2)).map (·.1))) na
      refine ⟨rfl, .ref a, _, I9, rfl, q _ _ (adO O' a) (ext.trans (fun _ _ _ z => z) hE) (own_own own' na) ?_⟩
      have hreps : Reps X.K H' O' ((bs.mergeSort fun a b => dLe (kf a.2) (kf b.2)).map (·.1)) ((bs.mergeSort fun a b => dLe (kf a.2) (kf b.2)).map (·.2)) := zip_reps fun p hp => (hx p (List.mem_mergeSort.mp hp)).ext ext (fun _ z => z.elim)
      exact (VOk.lst na hreps).back fun b hb' => by
        cases e2 : H b with
        | none => rfl
        | some u => 
          have := (ext.keep b u e2 (fun z => z)).1
          rw [hb'] at this; cases this
/-- sorted(xs, key=f), in data -/
def gSortK (W : PSpec) : GL
  | [d], k => onSome d.sql fun xs => ∃ kf : D → D, keyOk W kf xs ∧ srtOk (xs.map kf) ∧ k (.lst true (xs.mergeSort fun a b => dLe (kf a) (kf b)))
  | _, _ => False
def rSK (X : Cx) (f : Addr) (W : PSpec) : List V → List V → Hp → VK → Prop := fun vs zs H Q => ∃ (l : Addr) (bs : List (V × D)) (O : Addr → Prop) (kf : D → D), vs = [V.ref l] ∧ zs = [V.ref f] ∧ SqL X.K H l (bs.map (·.1)) ∧ Own H O ∧
  (∀ p ∈ bs, Rep X.K H O p.1 p.2) ∧ keyOk W kf (bs.map (·.2)) ∧ srtOk (bs.map fun p => kf p.2) ∧
  ∀ v H' O', Ext (fun _ => False) H O H' O' → Own H' O' → VOk X.K H H' O' v (.lst true ((bs.mergeSort fun a b => dLe (kf a.2) (kf b.2)).map (·.2))) → Q v H'
theorem cr_sortk (F : FnG X.prog X.w X.K X.mg X.base k f fd [x] (spD X.K [] W)) (hr : RoomG (k + 4) X.A) (hb : Binds X.K fd [x] []) : CallRK X (.builtin "sorted") [Str.ofString "key"] (rSK X f W) := by
  intro pins s σ H vs zs us ws Q I r rz h
  obtain ⟨l, bs, O, kf, rfl, rfl, hs, own, hx, hk, hso, q⟩ := h
  obtain rfl := Vals.ref1 r
  obtain ⟨w1, rfl, e1⟩ := vals1 rz
  obtain rfl : w1 = Value.ref f := e1
  exact run_sortk F hr hb I hs own hx hk hso q
def tGlo (f : Addr) : TE := fun _ H Q => Q (.ref f) H
theorem pe_glo {y : Str} {p : Pos} (hg : Gl X y) (hm : X.mg y = some (.ref f)) (hdb : (y == ("__debug__" : Str)) = false := by decide) : PE X (.Name y p) (tGlo f) :=
  ⟨fun pins s σ H Q I h => ld_glob I hg hm ⟨.ref f, H, I, rfl, h⟩ hdb⟩
theorem se_sortk {y : Str} {p pf pos kpos : Pos} {e : Expr} {es : List Expr} {w : DA} (F : FnG X.prog X.w X.K X.mg X.base k f fd [x] (spD X.K [] W)) (hr : RoomG (k + 4) X.A) (hb : Binds X.K fd [x] []) (hgf : Gl X y) (hmf : X.mg y = some (.ref f)) (hg : Gl X "sorted") (hm : X.mg "sorted" = none)
    (h : SA X (e :: es) w) (hdf : (y == ("__debug__" : Str)) = false := by decide)
    (he : backTo pos (starEach (e :: es) X.env) = (false, eval e X.env) :: backTo pos (starEach es X.env) := by rfl) (hpl : (backTo pos (starEach (e :: es) X.env)).any (·.1) = false := by rfl)
    (hall : (backToKw pos (keywordEach [⟨some "key", .Name y pf, kpos⟩] X.env)).all (·.1.isSome) = true := by rfl) (hnone : (backToKw pos (keywordEach [⟨some "key", .Name y pf, kpos⟩] X.env)).any (·.1.isNone) = false := by rfl) (hks : (backToKw pos (keywordEach [⟨some "key", .Name y pf, kpos⟩] X.env)).filterMap (·.1) = [Str.ofString "key"] := by rfl) :
    SE X (.Call (.Name "sorted" p) (e :: es) [⟨some "key", .Name y pf, kpos⟩] pos) (dCB (gSortK W) w) := by
  obtain ⟨t, pt, ft⟩ := h
  refine ⟨_, pe_callBK (cr_sortk F hr hb) hg hm (by decide +kernel) pt (pk_cons (pe_glo hgf hmf hdf) pk_nil) (by decide) (by decide) he hpl hall hnone hks, ?_⟩
  show ∀ (σ : L2.St) (H : Hp) (ρ : Rho) (O : Addr → Prop) (k : D → Rho → Prop) (R : VK), Sr X.K ρ σ H O → dCB (gSortK W) w k ρ → _ → tCB (fun vs H Q => rSK X f W vs [.ref f] H Q) t σ H R
  refine callB_ok (fun H O xs ds k R own vs g fz => ?_) ft
  unfold gSortK at g
  split at g
  · obtain ⟨ds, e1, kf, h1, h2, g⟩ := g.ex
    obtain ⟨v, rfl, hv⟩ := vs.one
    obtain ⟨a, ws, rfl, q, r⟩ := hv.sql e1
    obtain ⟨bs, rfl, rfl, hb'⟩ := reps_zip r
    refine ⟨a, bs, O, kf, rfl, rfl, q, own, hb', h1, by rw [List.map_map] at h2; exact h2, fun v H' O' ex ow vo => fz v H' O' _ ex ow vo ?_⟩
    have e2 : (bs.mergeSort fun a b => dLe (kf a.2) (kf b.2)).map (·.2) = (bs.map (·.2)).mergeSort fun a b => dLe (kf a) (kf b) := List.map_mergeSort (fun a _ b _ => rfl)
    rw [e2]
    exact g
  · exact g.elim
end
end Bx
/-! str(x) and repr(x) of data -/
namespace Bx
open PySem PySem.Spec PyProof.Rows L2
theorem bb_repr : bootBuiltins "repr" = some (.builtin "repr") := by decide +kernel
/-- data that can be shown -/
def shOk (d : D) : Prop := d.ndc = true ∧ d.pd.showable = true ∧ d.pd.depth ≤ 60 ∧ d.pd.shown.length ≤ sizeLine
mutual
theorem ndc_nod : ∀ {d : D}, d.ndc = true → d.pd.hasDict = false
  | .non, _ | .bl _, _ | .int _, _ | .str _, _ => by simp [D.pd, PyData.hasDict]
  | .tup xs, h => by
    simp only [D.ndc] at h
    simp only [D.pd, PyData.hasDict]
    exact ndcs_nod h
  | .lst _ xs, h => by
    simp only [D.ndc] at h
    simp only [D.pd, PyData.hasDict]
    exact ndcs_nod h
  | .scr xs, h => by
    simp only [D.ndc] at h
    simp only [D.pd, PyData.hasDict]
    exact ndcs_nod h
  | .dic _ _, h => by simp [D.ndc] at h
  | .odc _ _, h => by simp [D.ndc] at h
theorem ndcs_nod : ∀ {ds : List D}, D.ndcs ds = true → PyData.hasDictAll (D.pds ds) = false
  | [], _ => by simp [D.pds, PyData.hasDictAll]
  | x :: r, h => by
    simp only [D.ndcs, Bool.and_eq_true] at h
    simp only [D.pds, PyData.hasDictAll, Bool.or_eq_false_iff]
    exact ⟨ndc_nod h.1, ndcs_nod h.2⟩
end
def isSeq : D → Bool
  | .tup _ => true
  | .lst _ _ => true
  | _ => false
/-- str(x): a tuple or a list too -/
def gStr2 : GL
  | [.int i], k => i.natAbs.log2 < 1920 ∧ k (.str (toString i))
  | [.str a], k => k (.str a)
  | [.tup xs], k => shOk (.tup xs) ∧ k (.str (D.tup xs).pd.shown)
  | [.lst o xs], k => shOk (.lst o xs) ∧ k (.str (D.lst o xs).pd.shown)
  | _, _ => False
def gRepr : GL
  | [.int i], k => i.natAbs.log2 < 1920 ∧ k (.str (toString i))
  | [.non], k => k (.str "None")
  | [.bl b], k => k (.str (if b then "True" else "False"))
  | [.str a], k => (reprText a).length ≤ sizeLine ∧ k (.str (reprText a))
  | [.tup xs], k => shOk (.tup xs) ∧ k (.str (D.tup xs).pd.shown)
  | [.lst o xs], k => shOk (.lst o xs) ∧ k (.str (D.lst o xs).pd.shown)
  | _, _ => False
def rShow (X : Cx) : List V → Hp → VK → Prop := fun xs H Q => ∃ (a : Addr) (d : D), xs = [.ref a] ∧ Dp X.K H (.ref a) d.pd ∧ shOk d ∧ Q (.str d.pd.shown) H
section
variable {X : Cx}
theorem cr_str {k : Nat} (hr : RoomG k X.A) : CallR X (.type "str") (rShow X) := by
  intro pins s σ H vs us Q I r h
  obtain ⟨a, d, rfl, hd, ⟨h1, h2, h3, h4⟩, q⟩ := h
  obtain rfl := Vals.ref1 r
  obtain ⟨as, rd⟩ := Dp.reads I _ _ _ hd (show RelV (.ref a) (.ref a) from rfl)
  exact str_of_reads rd h2 (PyData.noDict_hsm (ndc_nod h1)) hr.gd (by have := hr.units; omega) (fun _ _ e => e) (fun h' u tk hk => ⟨.str _, H, I.kept hk, ⟨u, rfl⟩, q⟩) h4
theorem cr_repr {k : Nat} (hr : RoomG k X.A) : CallR X (.builtin "repr") (rShow X) := by
  intro pins s σ H vs us Q I r h
  obtain ⟨a, d, rfl, hd, ⟨h1, h2, h3, h4⟩, q⟩ := h
  obtain rfl := Vals.ref1 r
  obtain ⟨as, rd⟩ := Dp.reads I _ _ _ hd (show RelV (.ref a) (.ref a) from rfl)
  exact repr_of_reads' rd h2 (PyData.noDict_hsm (ndc_nod h1)) hr.gd (by have := hr.units; omega) (fun _ _ e => e) (fun h' u tk hk => ⟨.str _, H, I.kept hk, ⟨u, rfl⟩, q⟩) h4
theorem cr_reprA : CallR X (.builtin "repr") (fun xs H Q => (∃ i : Int, xs = [.int i] ∧ i.natAbs.log2 < 1920 ∧ Q (.str (toString i)) H) ∨ (xs = [.non] ∧ Q (.str "None") H) ∨ (∃ b, xs = [.bl b] ∧ Q (.str (if b then "True" else "False")) H) ∨
    ∃ a, xs = [.str a] ∧ (reprText a).length ≤ sizeLine ∧ Q (.str (reprText a)) H) := by
  intro pins s σ H vs us Q I r h
  rcases h with ⟨i, rfl, hi, q⟩ | ⟨rfl, q⟩ | ⟨b, rfl, q⟩ | ⟨a, rfl, ha, q⟩
  · obtain ⟨w, rfl, e⟩ := vals1 r
    obtain ⟨t, rfl⟩ := (show ∃ t, w = Value.int i t from e)
    exact P.repr_of_int hi ⟨.str _, H, I.tok _, ⟨_, rfl⟩, q⟩
  · obtain ⟨w, rfl, e⟩ := vals1 r
    obtain rfl : w = Value.none := e
    exact P.repr_of_none ⟨.str _, H, I.tok _, ⟨_, rfl⟩, q⟩
  · obtain ⟨w, rfl, e⟩ := vals1 r
    obtain rfl : w = Value.bool b := e
    exact P.repr_of_bool ⟨.str _, H, I.tok _, ⟨_, rfl⟩, q⟩
  · obtain ⟨w, rfl, e⟩ := vals1 r
    obtain ⟨t, rfl⟩ := (show ∃ t, w = Value.str a t from e)
    exact P.repr_of_str ⟨.str _, H, I.tok _, ⟨_, rfl⟩, q⟩ ha
theorem show_seq {H : Hp} {O : Addr → Prop} {v : V} {d : D} (h : Val X.K H O v d) (hs : isSeq d = true) (hn : d.ndc = true) : ∃ a, v = .ref a ∧ Dp X.K H (.ref a) d.pd := by
  cases d with
  | tup xs =>
    cases h with
    | rep r =>
      have hd := r.dp hn
      cases r with
      | tup h r => exact ⟨_, rfl, hd⟩
    | own _ _ r => cases r
  | lst o xs =>
    cases h with
    | rep r =>
      have hd := r.dp hn
      cases r with
      | lst h n r => exact ⟨_, rfl, hd⟩
    | own o' ha r => exact ⟨_, rfl, (Val.own o' ha r).dp hn⟩
  | _ => cases hs
theorem calld_str2 {k : Nat} (hr : RoomG k X.A) : CallD X (.type "str") gStr2 := by
  refine ⟨_, (call_str_int.or SkE.call_str_str).or (cr_str hr), fun H O xs ds k R own vs g f => ?_⟩
  unfold gStr2 at g
  split at g
  · obtain ⟨v, rfl, h⟩ := vs.one
    exact .inl (.inl ⟨_, by rw [h.int], g.1, fin_id own f (.str _) g.2⟩)
  · obtain ⟨v, rfl, h⟩ := vs.one
    exact .inl (.inr ⟨_, by rw [h.str], fin_id own f (.str _) g⟩)
  · obtain ⟨v, rfl, h⟩ := vs.one
    obtain ⟨a, rfl, hd⟩ := show_seq h rfl g.1.1
    exact .inr ⟨a, _, rfl, hd, g.1, fin_id own f (.str _) g.2⟩
  · obtain ⟨v, rfl, h⟩ := vs.one
    obtain ⟨a, rfl, hd⟩ := show_seq h rfl g.1.1
    exact .inr ⟨a, _, rfl, hd, g.1, fin_id own f (.str _) g.2⟩
  · exact g.elim
theorem calld_repr {k : Nat} (hr : RoomG k X.A) : CallD X (.builtin "repr") gRepr := by
  refine ⟨_, cr_reprA.or (cr_repr hr), fun H O xs ds k R own vs g f => ?_⟩
  unfold gRepr at g
  split at g
  · obtain ⟨v, rfl, h⟩ := vs.one
    exact .inl (.inl ⟨_, by rw [h.int], g.1, fin_id own f (.str _) g.2⟩)
  · obtain ⟨v, rfl, h⟩ := vs.one
    cases h with
    | rep r => cases r; exact .inl (.inr (.inl ⟨rfl, fin_id own f (.str _) g⟩))
    | own _ _ r => cases r
  · obtain ⟨v, rfl, h⟩ := vs.one
    exact .inl (.inr (.inr (.inl ⟨_, by rw [h.bl], fin_id own f (.str _) g⟩)))
  · obtain ⟨v, rfl, h⟩ := vs.one
    exact .inl (.inr (.inr (.inr ⟨_, by rw [h.str], g.1, fin_id own f (.str _) g.2⟩)))
  · obtain ⟨v, rfl, h⟩ := vs.one
    obtain ⟨a, rfl, hd⟩ := show_seq h rfl g.1.1
    exact .inr ⟨a, _, rfl, hd, g.1, fin_id own f (.str _) g.2⟩
  · obtain ⟨v, rfl, h⟩ := vs.one
    obtain ⟨a, rfl, hd⟩ := show_seq h rfl g.1.1
    exact .inr ⟨a, _, rfl, hd, g.1, fin_id own f (.str _) g.2⟩
  · exact g.elim
end
end Bx
/-! texts compared -/
namespace Bx
open PySem PySem.Spec PyProof.Rows L2
def gEqT : G2
  | .str x, .str y, k => k (.bl (x == y))
  | x, y, k => gEq x y k
def gNeT : G2
  | .str x, .str y, k => k (.bl (!(x == y)))
  | x, y, k => gNe x y k
section
variable {X : Cx}
theorem opd_eqT (hu : X.A.units + 64 < cLine) : OpD X (compareOp .Eq) gEqT := by
  obtain ⟨r, o1, o2⟩ := opd_eq (X := X) hu
  refine ⟨_, op_eq.or o1, fun H O x y dx dy k R own vx vy g f => ?_⟩
  unfold gEqT at g
  split at g
  · rw [vx.str, vy.str]
    refine .inl ⟨rfl, ?_⟩
    rw [dec_str]
    exact fin_id own f (.bl _) g
  · exact .inr (o2 H O x y _ _ k R own vx vy g f)
theorem opd_neT (hu : X.A.units + 64 < cLine) : OpD X (compareOp .NotEq) gNeT := by
  obtain ⟨r, o1, o2⟩ := opd_ne (X := X) hu
  refine ⟨_, op_ne.or o1, fun H O x y dx dy k R own vx vy g f => ?_⟩
  unfold gNeT at g
  split at g
  · rw [vx.str, vy.str]
    refine .inl ⟨rfl, ?_⟩
    rw [dec_str]
    exact fin_id own f (.bl _) g
  · exact .inr (o2 H O x y _ _ k R own vx vy g f)
end
end Bx
/-! a raise that is never come to; sorted(ints, reverse=True) -/
namespace Bx
open PySem PySem.Spec PyProof.Rows L2
def dNever (_ : DEnds) (_ : Rho) : Prop := False
section
variable {X : Cx} {ios : List Nat}
theorem ss_never {st : Stmt} : SS X ios st dNever := ⟨fun _ _ _ => False, ⟨fun _ _ _ _ _ _ h => h.elim⟩, fun _ _ _ _ _ _ _ _ h => h.elim⟩
def gSortRev : GL
  | [d], k => onSome (d.sql.bind asInts) fun ns => ∀ ns' : List Int, ns'.Perm ns → ns'.Pairwise (· ≥ ·) → k (.lst true (ns'.map .int))
  | _, _ => False
theorem reps_ints {K : PySem.W.Frag} {H : Hp} {O : Addr → Prop} : ∀ ns : List Int, Reps K H O (ns.map V.int) (ns.map D.int)
  | [] => .nil
  | n :: ns => .cons (.int n) (reps_ints ns)
theorem se_sortrev {p pos kpos cpos : Pos} {j : Nat} {e : Expr} {es : List Expr} {w : DA} (hg : Gl X "sorted") (hm : X.mg "sorted" = none) (h : SA X (e :: es) w)
    (he : backTo pos (starEach (e :: es) X.env) = (false, eval e X.env) :: backTo pos (starEach es X.env) := by rfl) (hpl : (backTo pos (starEach (e :: es) X.env)).any (·.1) = false := by rfl)
    (hall : (backToKw pos (keywordEach [⟨some "reverse", .Constant (.bool true) j cpos, kpos⟩] X.env)).all (·.1.isSome) = true := by rfl) (hnone : (backToKw pos (keywordEach [⟨some "reverse", .Constant (.bool true) j cpos, kpos⟩] X.env)).any (·.1.isNone) = false := by rfl) (hks : (backToKw pos (keywordEach [⟨some "reverse", .Constant (.bool true) j cpos, kpos⟩] X.env)).filterMap (·.1) = [Str.ofString "reverse"] := by rfl) :
    SE X (.Call (.Name "sorted" p) (e :: es) [⟨some "reverse", .Constant (.bool true) j cpos, kpos⟩] pos) (dCB gSortRev w) := by
  obtain ⟨t, pt, ft⟩ := h
  refine ⟨_, pe_callBK (cr_sortedRev (b := true)) hg hm (by decide +kernel) pt (pk_cons pe_bl pk_nil) (by decide) (by decide) he hpl hall hnone hks, ?_⟩
  show ∀ (σ : L2.St) (H : Hp) (ρ : Rho) (O : Addr → Prop) (k : D → Rho → Prop) (R : VK), Sr X.K ρ σ H O → dCB gSortRev w k ρ → _ → tCB (fun vs H Q => rSortedKw X.K true [.bl true] vs [.bl true] H Q) t σ H R
  refine callB_ok (fun H O xs ds k R own vs g fz => ?_) ft
  unfold gSortRev at g
  split at g
  · obtain ⟨ns, e1, g⟩ := g.ex
    obtain ⟨v, rfl, hv⟩ := vs.one
    obtain ⟨l, e2, e3⟩ := Option.bind_eq_some_iff.mp e1
    obtain ⟨a, ws, rfl, q, r⟩ := hv.sql e2
    have el := asInts_eq e3
    subst el
    have ew : ws = ns.map V.int := r.ints
    subst ew
    exact ⟨a, ns, rfl, rfl, q, fun ns' p hp ho hn => fin_lst own fz hn (reps_ints ns') (g ns' hp (by simpa [OrdB] using ho))⟩
  · exact g.elim
end
end Bx
/-! dicts that are changed: x = {}, {text: e, ..}, x.update(d) -/
namespace Bx
open PySem PySem.Spec PyProof.Rows L2
def odcD (l : List (Key × D)) : D := .odc (l.map (·.1)) (l.map (·.2))
section
variable {X : Cx} {pos : Pos}
theorem se_odc0 : SE X (.Dict [] [] pos) (dC (.odc [] [])) := by
  refine ⟨_, pe_dnewK, fun σ H ρ O k R s hw q => fun n hn => ?_⟩
  have a3 := s.ext0 (ext_own (o := .dK []) hn) (own_ownH .dK s.own hn)
  exact q _ _ _ _ _ a3 (VOk.odc (kvs := []) hn .nil) hw
end
/-! ### displays -/
/-- written entries: texts and expressions -/
def SDx (X : Cx) (pos : Pos) (keys : List (Option Expr)) (values : List Expr) (ks : List Str) (w : DA) : Prop :=
  ∃ ts, PPs X pos keys values ts ∧ ∀ (σ : L2.St) (H : Hp) (ρ : Rho) (O : Addr → Prop) (k : List DOp → Rho → Prop) (R : List (V × V) → Hp → Prop), Sr X.K ρ σ H O → w k ρ →
    (∀ vs H' ρ' O' os, After X.K ρ σ H O ρ' H' O' → OOks X.K σ H H' O' vs os → vs.length = ks.length → k os ρ' → R ((ks.zip vs).map fun p => (V.str p.1, p.2)) H') → tPairs ts σ H R
section
variable {X : Cx} {pos : Pos}
theorem sdx_nil : SDx X pos [] [] [] aNil := ⟨_, pps_nil, fun σ H ρ O k R s w q => q [] H ρ O [] (.refl s) .nil rfl w⟩
theorem sdx_cons {x : Str} {j1 : Nat} {p1 : Pos} {keys : List (Option Expr)} {values : List Expr} {e : Expr} {ks : List Str} {o : DO} {w : DA} (h : SO X e o) (r : SDx X pos keys values ks w) :
    SDx X pos (some (.Constant (.str x) j1 p1) :: keys) (e :: values) (x :: ks) (aCons o w) := by
  obtain ⟨t, p, f⟩ := h
  obtain ⟨ts, p2, g⟩ := r
  refine ⟨_, pps_cons pe_str p p2, fun σ H ρ O k R s hw q => ?_⟩
  refine f σ H ρ O _ _ s hw fun v H1 ρ1 O1 d a c hk => ?_
  refine g σ H1 ρ1 O1 _ _ a.sr hk fun vs H2 ρ2 O2 ds a2 c2 hl hk2 => ?_
  exact q (v :: vs) H2 ρ2 O2 (d :: ds) (a.trans a2) (.cons (c.then s a a2) (c2.back a)) (by rw [List.length_cons, List.length_cons, hl]) hk2
def kOdc (ks : List Str) (k : D → Rho → Prop) (ds : List D) (ρ : Rho) : Prop := k (.odc (ks.map .inr) ds) ρ
def dOdc (ks : List Str) (w : DA) (k : D → Rho → Prop) (ρ : Rho) : Prop := w (kTake (kOdc ks k)) ρ
/-- an owned object that stands in no slot is changed -/
theorem mut_free {K : PySem.W.Frag} {ρ : Rho} {σ : L2.St} {H : Hp} {O : Addr → Prop} {a : Addr} {u u0 : HO} (s : Sr K ρ σ H O) (oa : O a) (ha : H a = some u0) (hu0 : OwH u0) (hu : OwH u) (ns : ¬ Sl ρ σ a) :
    Sr K ρ σ (upd H a u) O ∧ Ext (fun c => c = a) H O (upd H a u) O ∧ Lsts H O fun c => c = a := by
  have e1 : Ext (fun c => c = a) H O (upd H a u) O := ⟨fun c u hc n => ⟨by rw [upd_ne n]; exact hc, Iff.rfl⟩, fun c u hc => by
    by_cases e : c = a
    · subst e; exact ⟨_, upd_same⟩
    · exact ⟨u, by rw [upd_ne e]; exact hc⟩⟩
  have L1 : Lsts H O fun c => c = a := fun c z => by subst z; exact ⟨oa, _, ha, hu0⟩
  refine ⟨⟨s.len, fun j d q => ?_, s.uniq, fun c z => ?_⟩, e1, L1⟩
  · obtain ⟨v, y1, y2⟩ := s.slot j d q
    refine ⟨v, y1, ?_⟩
    cases y2 with
    | rep r => exact .rep (r.ext e1 L1)
    | @own c w zs o' hc rc =>
      have nc : c ≠ a := fun z' => ns ⟨j, _, q, rc.o, by rw [← z']; exact y1⟩
      exact .own o' (by rw [upd_ne nc]; exact hc) (rc.ext e1 L1)
  · by_cases e : c = a
    · subst e; exact ⟨_, upd_same, hu⟩
    · obtain ⟨vs, q, w⟩ := s.own c z
      exact ⟨vs, by rw [upd_ne e]; exact q, w⟩
theorem zip_keys {ks : List Str} : ∀ {vs : List V}, vs.length = ks.length → ((ks.map Sum.inr : List Key).zip vs).map (·.1) = ks.map Sum.inr ∧ ((ks.map Sum.inr : List Key).zip vs).map (·.2) = vs := by
  intro vs h
  exact ⟨List.map_fst_zip (by simp [h]), List.map_snd_zip (by simp [h])⟩
theorem se_odc {keys : List (Option Expr)} {values : List Expr} {ks : List Str} {w : DA} (h : SDx X pos keys values ks w) (hall : keys.all (·.isSome) = true) (hl : keys.length = values.length) (h0 : keys ≠ []) (h15 : keys.length ≤ 15) (e15 : ks.length ≤ 15)
    (nd : (ks.map (Sum.inr : Str → Key)).Nodup) : SE X (.Dict keys values pos) (dOdc ks w) := by
  obtain ⟨ts, pp, f⟩ := h
  refine ⟨_, pe_disp pp hall hl h0 h15, fun σ H ρ O k R s hw q => fun n hn => ?_⟩
  have a0 := s.ext0 (ext_own (o := .dK []) hn) (own_ownH .dK s.own hn)
  refine f σ _ ρ _ _ _ a0.sr hw fun vs H2 ρ2 O2 os a2 c2 len hk => ?_
  obtain ⟨ds, ρ3, O3, l3, a3, r3, hk3⟩ := take_ok a0.sr c2 (fun _ z => z) a2 hk
  have nsl : ¬ Sl ρ σ n := s.nsl hn
  have k2 := a3.ext.keep n (.dK []) upd_same nsl
  have on : O3 n := k2.2.mpr (.inr rfl)
  have n3 : ¬ Sl ρ3 σ n := fun z => nsl (a3.sub n z)
  refine ⟨k2.1, ((ks.map Sum.inr : List Key).zip vs), ?_, by rw [List.length_zip]; simp; omega, ?_⟩
  · rw [List.zip_map_left, List.map_map]
    rfl
  · obtain ⟨z1, z2⟩ := zip_keys len
    rw [mergeK_nodup (by rw [List.nil_append, z1]; exact nd), List.nil_append]
    obtain ⟨s4, e4, L4⟩ := mut_free (u := .dK ((ks.map Sum.inr : List Key).zip vs)) a3.sr on k2.1 .dK .dK n3
    have r4 := r3.ext e4 L4
    have a03 := a0.trans a3
    refine q _ _ ρ3 O3 (.odc (ks.map .inr) ds) ⟨s4, ⟨fun c u hc nc => ?_, fun c u hc => ?_⟩, a03.sub⟩ ⟨?_, fun a _ e => by cases e; exact hn⟩ hk3
    · have ne : c ≠ n := ne_of_none hc hn
      obtain ⟨g1, g2⟩ := a03.ext.keep c u hc nc
      exact ⟨by rw [upd_ne ne]; exact g1, g2⟩
    · have ne : c ≠ n := ne_of_none hc hn
      obtain ⟨u', g⟩ := a03.ext.dom c u hc
      exact ⟨u', by rw [upd_ne ne]; exact g⟩
    · have : OwR X.K (upd H2 n (.dK ((ks.map Sum.inr : List Key).zip vs))) O3 (.dK ((ks.map Sum.inr : List Key).zip vs)) (.odc (((ks.map Sum.inr : List Key).zip vs).map (·.1)) ds) := .dK (by rw [z2]; exact r4)
      rw [z1] at this
      exact .own on upd_same this
/-- the same, never changed -/
def kDicF (ks : List Str) (k : D → Rho → Prop) (ds : List D) (ρ : Rho) : Prop := k (.dic (ks.map .inr) ds) ρ
def dDic (ks : List Str) (w : DA) (k : D → Rho → Prop) (ρ : Rho) : Prop := w (kTake (kDicF ks k)) ρ
end
section
variable {X : Cx}
theorem se_frz {e : Expr} {w w' : DE} (h : SE X e w) (hw : ∀ k ρ, w' k ρ → w (fun d ρ => k d.frz ρ) ρ) : SE X e w' := by
  obtain ⟨t, p, f⟩ := h
  refine ⟨t, p, fun σ H ρ O k R s h1 q => ?_⟩
  refine f σ H ρ O _ R s (hw _ _ h1) fun v H' ρ' O' d a vo hk => ?_
  obtain ⟨O3, l3, a3, rv⟩ := After.freeze_val s a vo fun _ z => z
  exact q v H' ρ' O3 d.frz a3 (.rep rv) hk
theorem se_dic {pos : Pos} {keys : List (Option Expr)} {values : List Expr} {ks : List Str} {w : DA} (h : SDx X pos keys values ks w) (hall : keys.all (·.isSome) = true) (hl : keys.length = values.length) (h0 : keys ≠ []) (h15 : keys.length ≤ 15) (e15 : ks.length ≤ 15)
    (nd : (ks.map (Sum.inr : Str → Key)).Nodup) : SE X (.Dict keys values pos) (dDic ks w) := se_frz (se_odc h hall hl h0 h15 e15 nd) fun k ρ h => h
end
/-! ### x.update(d) -/
def tDUpd (to te : TE) : TE := fun σ H Q => to σ H fun x H1 => ∃ (a : Addr) (kvs : List (Key × V)), x = .ref a ∧ H1 a = some (.dK kvs) ∧ te σ H1 fun y H2 =>
  ∃ (b : Addr) (kvs more : List (Key × V)), y = .ref b ∧ a ≠ b ∧ H2 a = some (.dK kvs) ∧ H2 b = some (.dK more) ∧ kvs.length + more.length ≤ sizeLine ∧ Q .non (upd H2 a (.dK (mergeK kvs more)))
section
variable {X : Cx} {o e : Expr} {apos cpos : Pos}
theorem pe_dupd {td te : TE} (ho : PE X o td) (he : PE X e te) (m : M1 X o "update" apos e cpos) : PE X (.Call (.Attribute o "update" apos) [e] [] cpos) (tDUpd td te) := by
  refine ⟨fun pins s σ H Q I h => ?_⟩
  refine wpAny_Call_method m.base m.few m.line PySem.F.plainAttrs_dict PySem.F.slot_dict_update PySem.F.type_dict_update (thn (ho.run pins s σ H _ I h) fun u s1 ⟨x, H1, I1, rx, a, kvs0, ex, d, q1⟩ => ?_)
  subst ex
  obtain rfl : u = Value.ref a := rx
  obtain ⟨t1, t2, _⟩ := isD_at I1 (.inl ⟨kvs0, .inl d⟩)
  refine ⟨t1, t2, ?_⟩
  rw [m.trees]
  refine Calls.callWith_builtin rfl (Calls.evalArgs_plain (Calls.spliced_cons (thn (he.run pins s1 σ H1 _ I1 q1) fun iv s2 ⟨y, H2, I2, ry, b, kvs, more, ey, ne, ea, eb, hz, q2⟩ => Calls.spliced_nil ?_)))
  subst ey
  obtain rfl : iv = Value.ref b := ry
  obtain ⟨z1, hd1, vs1, r1, dd1⟩ := dk_of I2.hok ea
  obtain ⟨z2, hd2, vs2, r2, dd2⟩ := dk_of I2.hok eb
  refine call_meetsIn PySem.F.slot_dict_update dd1.typeIs PySem.F.entry_dict_update (PySem.F.args_dict_update_2 _ _) (meets_dict_update (mixKind X.prog X.w) a b ne hd2)
    ⟨vs1, vs2, dd1, dd2, by rw [← r1.length, ← r2.length]; exact hz, fun h' hm _ hs => ?_⟩
  have he' : ∃ q, h'.get? a = some q := let ⟨q, _, _, hq, _⟩ := hm; ⟨q, hq⟩
  have hz' : (mergeK kvs more).length ≤ sizeLine := by
    have h1 := length_mergeK more kvs
    omega
  exact ⟨.non, _, d_write I2 (by rw [ea]; exact True.intro) hs he' (dk_new hz' hd1 (r2.merge r1) hm), rfl, q2⟩
def kUpd (i : Nat) (k : D → Rho → Prop) (d : D) (ρ : Rho) : Prop := match rget ρ i, d with
  | some (.odc ks xs), .dic ks2 ys => xs.length + ys.length ≤ sizeLine ∧ k .non (rset ρ i (some (odcD (mergeD (ks.zip xs) (ks2.zip ys)))))
  | _, _ => False
def isOdc : Option D → Bool
  | some (.odc _ _) => true
  | _ => false
def dUpd (i : Nat) (w : DE) (k : D → Rho → Prop) (ρ : Rho) : Prop := isOdc (rget ρ i) = true ∧ w (kUpdF i k) ρ
where kUpdF (i : Nat) (k : D → Rho → Prop) (d : D) (ρ : Rho) : Prop := kUpd i k d.frz ρ
theorem rk_of {K : PySem.W.Frag} {H : Hp} {O : Addr → Prop} : ∀ {kvs : List (Key × V)} {xs : List D}, Reps K H O (kvs.map (·.2)) xs → RK K H O kvs ((kvs.map (·.1)).zip xs)
  | [], _, .nil => .nil
  | p :: kvs, _, .cons r t => .cons ⟨rfl, r⟩ (rk_of t)
theorem se_dupd {i : Nat} {w : DE} (hv : PE X o (tVar i)) (h : SE X e w) (m : M1 X o "update" apos e cpos) : SE X (.Call (.Attribute o "update" apos) [e] [] cpos) (dUpd i w) := by
  obtain ⟨t, pe, f⟩ := h
  refine ⟨_, pe_dupd hv pe m, fun σ H ρ O k R s hw q => ?_⟩
  obtain ⟨hi, hw⟩ := hw
  obtain ⟨ks, xs, ei⟩ : ∃ ks xs, rget ρ i = some (.odc ks xs) := by
    unfold isOdc at hi
    split at hi
    · rename_i ks xs e; exact ⟨ks, xs, e⟩
    · cases hi
  obtain ⟨v0, g1, g2⟩ := s.slot i _ (rget_get ei)
  obtain ⟨a, kvs0, rfl, ha, _, _⟩ := g2.odc
  refine ⟨.ref a, g1, a, kvs0, rfl, ha, f σ H ρ O _ _ s hw fun v H1 ρ1 O1 d a1 vo hk => ?_⟩
  obtain ⟨O2, l2, a2, rv⟩ := After.freeze_val s a1 vo fun _ z => z
  have hk : kUpd i k d.frz ρ1 := hk
  unfold kUpd at hk
  split at hk
  · rename_i ks xs ks2 ys e1 e2
    rw [e2] at rv
    obtain ⟨v1, g3, g4⟩ := a2.sr.slot i _ (rget_get e1)
    rw [g1] at g3; cases g3
    have oa : O2 a := by
      cases g4 with
      | rep r => cases r
      | own o _ _ => exact o
    obtain ⟨a', kvs, e3, ha1, e4, r1⟩ := g4.odc
    cases e3
    cases rv with
    | @dic b more _ hb nb r2 =>
      have ne : a ≠ b := fun z => nb (z ▸ oa)
      have lr1 := r1.length
      have lr2 := r2.length
      rw [List.length_map] at lr1 lr2
      refine ⟨b, kvs, more, rfl, ne, ha1, hb, by rw [lr1, lr2]; exact hk.1, ?_⟩
      have hm := RK.merge (rk_of r2) (rk_of r1)
      have m := mut_dic (ys := (mergeD ((kvs.map (·.1)).zip xs) ((more.map (·.1)).zip ys)).map (·.2)) a2.sr e1 g1 hm.vals
      rw [hm.keys] at m
      subst e4
      exact q _ _ _ _ _ (a2.trans m) (.rep .non) hk.2
  · exact hk.elim
end
end Bx
namespace Bx
def u1_dNext := @Bx.dNext.eq_1
def u1_dSeq := @Bx.dSeq.eq_1
def u1_dBreak := @Bx.dBreak.eq_1
def u1_dCont := @Bx.dCont.eq_1
def u1_kExp := @Bx.kExp.eq_1
def u1_dExp := @Bx.dExp.eq_1
def u1_dRet := @Bx.dRet.eq_1
def u1_dRetV := @Bx.dRetV.eq_1
def u1_dRetN := @Bx.dRetN.eq_1
def u1_kIfS := @Bx.kIfS.eq_1
def u1_dIfS := @Bx.dIfS.eq_1
def u1_kAsg := @Bx.kAsg.eq_1
def u1_dAsg := @Bx.dAsg.eq_1
def u1_kAsgG := @Bx.kAsgG.eq_1
def u1_dAsgG := @Bx.dAsgG.eq_1
def u1_kPar2b := @Bx.kPar2b.eq_1
def u1_kPar2 := @Bx.kPar2.eq_1
def u1_dPar2 := @Bx.dPar2.eq_1
def u1_kPar3c := @Bx.kPar3c.eq_1
def u1_kPar3b := @Bx.kPar3b.eq_1
def u1_kPar3 := @Bx.kPar3.eq_1
def u1_dPar3 := @Bx.dPar3.eq_1
def u1_kAugS := @Bx.kAugS.eq_1
def u1_kAug := @Bx.kAug.eq_1
def u1_dAug := @Bx.dAug.eq_1
def u1_oVar := @Bx.oVar.eq_1
def u1_dVar := @Bx.dVar.eq_1
def u1_dC := @Bx.dC.eq_1
def u1_kOp := @Bx.kOp.eq_1
def u1_oVal := @Bx.oVal.eq_1
def u1_aNil := @Bx.aNil.eq_1
def u1_kA2 := @Bx.kA2.eq_1
def u1_kA1 := @Bx.kA1.eq_1
def u1_aCons := @Bx.aCons.eq_1
def u1_kTake := @Bx.kTake.eq_1
def u1_kTk := @Bx.kTk.eq_1
def u1_tkOps := @Bx.tkOps.eq_1
def u2_tkOps := @Bx.tkOps.eq_2
def u3_tkOps := @Bx.tkOps.eq_3
def u1_kTup := @Bx.kTup.eq_1
def u1_kLst := @Bx.kLst.eq_1
def u1_dTup := @Bx.dTup.eq_1
def u1_dLst := @Bx.dLst.eq_1
def u1_kB2 := @Bx.kB2.eq_1
def u1_kB1 := @Bx.kB1.eq_1
def u1_dBin := @Bx.dBin.eq_1
def u1_kU := @Bx.kU.eq_1
def u1_dUn := @Bx.dUn.eq_1
def u1_kBl := @Bx.kBl.eq_1
def u2_kBl := @Bx.kBl.eq_2
def u1_tVal := @Bx.tVal.eq_1
def u1_kAnd := @Bx.kAnd.eq_1
def u1_tAnd := @Bx.tAnd.eq_1
def u1_kOr := @Bx.kOr.eq_1
def u1_tOr := @Bx.tOr.eq_1
def u1_kNot := @Bx.kNot.eq_1
def u1_tNot := @Bx.tNot.eq_1
def u1_kAndV := @Bx.kAndV.eq_1
def u2_kAndV := @Bx.kAndV.eq_2
def u1_dAnd := @Bx.dAnd.eq_1
def u1_kOrV := @Bx.kOrV.eq_1
def u2_kOrV := @Bx.kOrV.eq_2
def u1_dOr := @Bx.dOr.eq_1
def u1_kNotV := @Bx.kNotV.eq_1
def u2_kNotV := @Bx.kNotV.eq_2
def u1_dNot := @Bx.dNot.eq_1
def u1_kIf := @Bx.kIf.eq_1
def u1_dIf := @Bx.dIf.eq_1
def u1_kC3 := @Bx.kC3.eq_1
def u1_kC2b := @Bx.kC2b.eq_1
def u1_kC2a := @Bx.kC2a.eq_1
def u2_kC2a := @Bx.kC2a.eq_2
def u1_kC2 := @Bx.kC2.eq_1
def u1_kC1 := @Bx.kC1.eq_1
def u1_dChain := @Bx.dChain.eq_1
def u1_kCB := @Bx.kCB.eq_1
def u1_dCB := @Bx.dCB.eq_1
def u1_kIsi := @Bx.kIsi.eq_1
def u1_dIsi := @Bx.dIsi.eq_1
def u1_pNo := @Bx.pNo.eq_1
def u1_kPI := @Bx.kPI.eq_1
def u2_kPI := @Bx.kPI.eq_2
def u1_pInt := @Bx.pInt.eq_1
def u1_kS3 := @Bx.kS3.eq_1
def u1_kS2 := @Bx.kS2.eq_1
def u1_kS1 := @Bx.kS1.eq_1
def u1_dSl := @Bx.dSl.eq_1
def u1_gN := @Bx.gN.eq_1
def u1_gsNil := @Bx.gsNil.eq_1
def u2_gsNil := @Bx.gsNil.eq_2
def u1_kGs := @Bx.kGs.eq_1
def u1_gsCons := @Bx.gsCons.eq_1
def u2_gsCons := @Bx.gsCons.eq_2
def u1_gT := @Bx.gT.eq_1
def u2_gT := @Bx.gT.eq_2
def u1_kIt := @Bx.kIt.eq_1
def u2_kIt := @Bx.kIt.eq_2
def u3_kIt := @Bx.kIt.eq_3
def u4_kIt := @Bx.kIt.eq_4
def u5_kIt := @Bx.kIt.eq_5
def u1_iOf := @Bx.iOf.eq_1
def u1_kR := @Bx.kR.eq_1
def u1_iR := @Bx.iR.eq_1
def u1_kZ := @Bx.kZ.eq_1
def u1_iZ := @Bx.iZ.eq_1
def u1_kE := @Bx.kE.eq_1
def u1_iE := @Bx.iE.eq_1
def u1_kVs := @Bx.kVs.eq_1
def u1_kV := @Bx.kV.eq_1
def u1_kApp := @Bx.kApp.eq_1
def u1_dApp := @Bx.dApp.eq_1
def u1_dPop := @Bx.dPop.eq_1
def u1_kSub1 := @Bx.kSub1.eq_1
def u1_kSub2 := @Bx.kSub2.eq_1
def u1_dSub := @Bx.dSub.eq_1
def u1_kTakeIO := @Bx.kTakeIO.eq_1
def u1_tkIO := @Bx.tkIO.eq_1
def u2_tkIO := @Bx.tkIO.eq_2
def u3_tkIO := @Bx.tkIO.eq_3
def u4_tkIO := @Bx.tkIO.eq_4
def u1_kCallIO := @Bx.kCallIO.eq_1
def u1_dCallIO := @Bx.dCallIO.eq_1
def u1_kRetIO := @Bx.kRetIO.eq_1
def u2_kRetIO := @Bx.kRetIO.eq_2
def u1_kRet := @Bx.kRet.eq_1
def u1_kCall := @Bx.kCall.eq_1
def u1_dCall := @Bx.dCall.eq_1
def u1_kFor := @Bx.kFor.eq_1
def u1_dFor := @Bx.dFor.eq_1
def u1_kForB := @Bx.kForB.eq_1
def u1_kWh := @Bx.kWh.eq_1
def u1_kCo := @Bx.kCo.eq_1
def u1_dComp := @Bx.dComp.eq_1
def u1_kCo1 := @Bx.kCo1.eq_1
def u1_kCo2 := @Bx.kCo2.eq_1
def u1_kCo3 := @Bx.kCo3.eq_1
def u2_kCo3 := @Bx.kCo3.eq_3
def u1_tAll := @Bx.tAll.eq_1
def u1_gAdd := @Bx.gAdd.eq_1
def u2_gAdd := @Bx.gAdd.eq_2
def u3_gAdd := @Bx.gAdd.eq_3
def u4_gAdd := @Bx.gAdd.eq_4
def u5_gAdd := @Bx.gAdd.eq_5
def u1_gII := @Bx.gII.eq_1
def u2_gII := @Bx.gII.eq_2
def u1_gII0 := @Bx.gII0.eq_1
def u2_gII0 := @Bx.gII0.eq_2
def u1_gSub := @Bx.gSub.eq_1
def u1_gMul2 := @Bx.gMul2.eq_1
def u2_gMul2 := @Bx.gMul2.eq_2
def u1_gMul := @Bx.gMul.eq_1
def u2_gMul := @Bx.gMul.eq_2
def u3_gMul := @Bx.gMul.eq_3
def u1_gDiv := @Bx.gDiv.eq_1
def u1_gMod := @Bx.gMod.eq_1
def u1_gPow := @Bx.gPow.eq_1
def u1_gShl := @Bx.gShl.eq_1
def u1_gShr := @Bx.gShr.eq_1
def u1_gAnd := @Bx.gAnd.eq_1
def u1_gNeg := @Bx.gNeg.eq_1
def u2_gNeg := @Bx.gNeg.eq_2
def u1_gLt := @Bx.gLt.eq_1
def u1_gLe := @Bx.gLe.eq_1
def u1_gGt := @Bx.gGt.eq_1
def u1_gGe := @Bx.gGe.eq_1
def u1_gIsN := @Bx.gIsN.eq_1
def u2_gIsN := @Bx.gIsN.eq_2
def u1_gNotN := @Bx.gNotN.eq_1
def u2_gNotN := @Bx.gNotN.eq_2
def u1_gEq := @Bx.gEq.eq_1
def u1_gNe := @Bx.gNe.eq_1
def u1_gIx := @Bx.gIx.eq_1
def u2_gIx := @Bx.gIx.eq_2
def u3_gIx := @Bx.gIx.eq_3
def u4_gIx := @Bx.gIx.eq_4
def u5_gIx := @Bx.gIx.eq_5
def u6_gIx := @Bx.gIx.eq_6
def u1_gLen := @Bx.gLen.eq_1
def u2_gLen := @Bx.gLen.eq_2
def u3_gLen := @Bx.gLen.eq_3
def u1_gAbs := @Bx.gAbs.eq_1
def u2_gAbs := @Bx.gAbs.eq_2
def u1_gSum := @Bx.gSum.eq_1
def u2_gSum := @Bx.gSum.eq_2
def u1_gMax := @Bx.gMax.eq_1
def u2_gMax := @Bx.gMax.eq_2
def u3_gMax := @Bx.gMax.eq_3
def u1_gMin := @Bx.gMin.eq_1
def u2_gMin := @Bx.gMin.eq_2
def u3_gMin := @Bx.gMin.eq_3
def u1_gAll := @Bx.gAll.eq_1
def u2_gAll := @Bx.gAll.eq_2
def u1_gAny := @Bx.gAny.eq_1
def u2_gAny := @Bx.gAny.eq_2
def u1_gInt := @Bx.gInt.eq_1
def u2_gInt := @Bx.gInt.eq_2
def u3_gInt := @Bx.gInt.eq_3
def u4_gInt := @Bx.gInt.eq_4
def u1_gList := @Bx.gList.eq_1
def u2_gList := @Bx.gList.eq_2
def u1_gTuple := @Bx.gTuple.eq_1
def u2_gTuple := @Bx.gTuple.eq_2
def u1_gSl := @Bx.gSl.eq_1
def u2_gSl := @Bx.gSl.eq_2
def u3_gSl := @Bx.gSl.eq_3
def u4_gSl := @Bx.gSl.eq_4
def u5_gSl := @Bx.gSl.eq_5
def u1_gR1 := @Bx.gR1.eq_1
def u2_gR1 := @Bx.gR1.eq_2
def u1_gR2 := @Bx.gR2.eq_1
def u2_gR2 := @Bx.gR2.eq_2
def u1_gZ := @Bx.gZ.eq_1
def u2_gZ := @Bx.gZ.eq_2
def u3_gZ := @Bx.gZ.eq_3
def u4_gZ := @Bx.gZ.eq_4
def u5_gZ := @Bx.gZ.eq_5
def u1_gE := @Bx.gE.eq_1
def u2_gE := @Bx.gE.eq_2
def u3_gE := @Bx.gE.eq_3
def u1_gIAdd := @Bx.gIAdd.eq_1
def u1_gISub := @Bx.gISub.eq_1
def u1_gIMul := @Bx.gIMul.eq_1
def u_onSome_some := @Bx.onSome_some

def u_pick_true := @Bx.pick_true

def u_pick_false := @Bx.pick_false

def u_ends_rt := @Bx.ends_rt

def u_ends_nx := @Bx.ends_nx

def u1_gIsB := @Bx.gIsB.eq_1
def u2_gIsB := @Bx.gIsB.eq_2
def u1_gNotB := @Bx.gNotB.eq_1
def u2_gNotB := @Bx.gNotB.eq_2
def u1_gTMul := @Bx.gTMul.eq_1
def u2_gTMul := @Bx.gTMul.eq_2
def u1_iZX := @Bx.iZX.eq_1
def u1_kZX := @Bx.kZX.eq_1
def u1_gZX := @Bx.gZX.eq_1
def u2_gZX := @Bx.gZX.eq_2
def u3_gZX := @Bx.gZX.eq_3
def u4_gZX := @Bx.gZX.eq_4
def u5_gZX := @Bx.gZX.eq_5
def u6_gZX := @Bx.gZX.eq_6
def u7_gZX := @Bx.gZX.eq_7
def u8_gZX := @Bx.gZX.eq_8
def u9_gZX := @Bx.gZX.eq_9
def u1_gSorted := @Bx.gSorted.eq_1
def u2_gSorted := @Bx.gSorted.eq_2
def u1_kExt := @Bx.kExt.eq_1
def u1_dExt := @Bx.dExt.eq_1
def u1_gDict := @Bx.gDict.eq_1
def u2_gDict := @Bx.gDict.eq_2
def u1_gIn := @Bx.gIn.eq_1
def u1_gNin := @Bx.gNin.eq_1
def u1_gInG := @Bx.gInG.eq_1
def u2_gInG := @Bx.gInG.eq_2
def u3_gInG := @Bx.gInG.eq_3
def u4_gInG := @Bx.gInG.eq_4
def u1_flat := @Bx.D.flat.eq_1
def u2_flat := @Bx.D.flat.eq_2
def u3_flat := @Bx.D.flat.eq_3
def u4_flat := @Bx.D.flat.eq_4
def u1_asFlat := @Bx.asFlat.eq_1
def u2_asFlat := @Bx.asFlat.eq_2
def u1_gStr := @Bx.gStr.eq_1
def u2_gStr := @Bx.gStr.eq_2
def u1_gEqE := @Bx.gEqE.eq_1
def u2_gEqE := @Bx.gEqE.eq_2
def u1_kRev := @Bx.kRev.eq_1
def u2_kRev := @Bx.kRev.eq_2
def u1_iRev := @Bx.iRev.eq_1
def u1_kSubs := @Bx.kSubs.eq_1
def u1_dSubs := @Bx.dSubs.eq_1
def u1_kRvs := @Bx.kRvs.eq_1
def u2_kRvs := @Bx.kRvs.eq_2
def u1_dRvs := @Bx.dRvs.eq_1
def u1_kUpper := @Bx.kUpper.eq_1
def u1_dUpper := @Bx.dUpper.eq_1
def u1_dgetO := @Bx.dgetO.eq_1
def u1_gGet := @Bx.gGet.eq_1
def u2_gGet := @Bx.gGet.eq_2
def u1_kGet2 := @Bx.kGet2.eq_1
def u1_kGet1 := @Bx.kGet1.eq_1
def u1_dGet1 := @Bx.dGet1.eq_1
def u1_isDic := @Bx.D.isDic.eq_1
def u2_isDic := @Bx.D.isDic.eq_2
def u1_gBool := @Bx.gBool.eq_1
def u2_gBool := @Bx.gBool.eq_2
def u1_kIsi2 := @Bx.kIsi2.eq_1
def u1_dIsi2 := @Bx.dIsi2.eq_1
def u1_gStr2 := @Bx.gStr2.eq_1
def u2_gStr2 := @Bx.gStr2.eq_2
def u3_gStr2 := @Bx.gStr2.eq_3
def u4_gStr2 := @Bx.gStr2.eq_4
def u1_gRepr := @Bx.gRepr.eq_1
def u2_gRepr := @Bx.gRepr.eq_2
def u3_gRepr := @Bx.gRepr.eq_3
def u4_gRepr := @Bx.gRepr.eq_4
def u5_gRepr := @Bx.gRepr.eq_5
def u6_gRepr := @Bx.gRepr.eq_6
def u1_gSortK := @Bx.gSortK.eq_1
def u1_gEqT := @Bx.gEqT.eq_1
def u1_gNeT := @Bx.gNeT.eq_1
def u1_gSortRev := @Bx.gSortRev.eq_1
def u1_dNever := @Bx.dNever.eq_1
def u7_gIx := @Bx.gIx.eq_7
def u8_gIx := @Bx.gIx.eq_8
def u5_gInG := @Bx.gInG.eq_5
def u6_gInG := @Bx.gInG.eq_6
def u3_gGet := @Bx.gGet.eq_3
def u4_gGet := @Bx.gGet.eq_4
def u1_kOdc := @Bx.kOdc.eq_1
def u1_dOdc := @Bx.dOdc.eq_1
def u1_kDicF := @Bx.kDicF.eq_1
def u1_dDic := @Bx.dDic.eq_1
def u1_kUpd := @Bx.kUpd.eq_1
def u1_isOdc := @Bx.isOdc.eq_1
def u1_dUpd := @Bx.dUpd.eq_1
def u1_kUpdF := @Bx.dUpd.kUpdF.eq_1
theorem frz_odc {ks : List L2.Key} {vs : List D} : (D.odc ks vs).frz = .dic ks vs := rfl
def u_frz_odc := @frz_odc
end Bx
namespace Bx

theorem x_bind_some {α β : Type} {a : α} {f : α → Option β} : (some a).bind f = f a := rfl
theorem x_omap_some {α β : Type} {a : α} {f : α → β} : (some a).map f = some (f a) := rfl
theorem x_length_cons {α : Type} {a : α} {l : List α} : (a :: l).length = l.length + 1 := rfl
theorem x_length_nil {α : Type} : ([] : List α).length = 0 := rfl
theorem x_map_cons {α β : Type} {f : α → β} {a : α} {l : List α} : (a :: l).map f = f a :: l.map f := rfl
theorem x_map_nil {α β : Type} {f : α → β} : ([] : List α).map f = [] := rfl
theorem x_set_zero {α : Type} {a x : α} {l : List α} : (a :: l).set 0 x = x :: l := rfl
theorem x_set_succ {α : Type} {a x : α} {l : List α} {n : Nat} : (a :: l).set (n + 1) x = a :: l.set n x := rfl
theorem x_length_map {α β : Type} {f : α → β} {l : List α} : (l.map f).length = l.length := List.length_map f
theorem x_rep_zero {α : Type} {a : α} : List.replicate 0 a = [] := rfl
theorem x_rep_succ {α : Type} {a : α} {n : Nat} : List.replicate (n + 1) a = a :: List.replicate n a := rfl
theorem x_cons_append {α : Type} {a : α} {l m : List α} : a :: l ++ m = a :: (l ++ m) := rfl
theorem x_nil_append {α : Type} {l : List α} : [] ++ l = l := rfl
def g0 := (And.intro (And.intro (And.intro (And.intro (@u1_dNext) (@u1_dSeq)) (And.intro (@u1_dBreak) (@u1_dCont))) (And.intro (And.intro (@u1_kExp) (@u1_dExp)) (And.intro (@u1_dRet) (@u1_dRetV)))) (And.intro (And.intro (And.intro (@u1_dRetN) (@u1_kIfS)) (And.intro (@u1_dIfS) (@u1_kAsg))) (And.intro (And.intro (@u1_dAsg) (@u1_kAsgG)) (And.intro (@u1_dAsgG) (@u1_kPar2b)))))
def g1 := (And.intro (And.intro (And.intro (And.intro (@u1_kPar2) (@u1_dPar2)) (And.intro (@u1_kPar3c) (@u1_kPar3b))) (And.intro (And.intro (@u1_kPar3) (@u1_dPar3)) (And.intro (@u1_kAugS) (@u1_kAug)))) (And.intro (And.intro (And.intro (@u1_dAug) (@u1_oVar)) (And.intro (@u1_dVar) (@u1_dC))) (And.intro (And.intro (@u1_kOp) (@u1_oVal)) (And.intro (@u1_aNil) (@u1_kA2)))))
def g2 := (And.intro (And.intro (And.intro (And.intro (@u1_kA1) (@u1_aCons)) (And.intro (@u1_kTake) (@u1_kTk))) (And.intro (And.intro (@u1_tkOps) (@u2_tkOps)) (And.intro (@u3_tkOps) (@u1_kTup)))) (And.intro (And.intro (And.intro (@u1_kLst) (@u1_dTup)) (And.intro (@u1_dLst) (@u1_kB2))) (And.intro (And.intro (@u1_kB1) (@u1_dBin)) (And.intro (@u1_kU) (@u1_dUn)))))
def g3 := (And.intro (And.intro (And.intro (And.intro (@u1_kBl) (@u2_kBl)) (And.intro (@u1_tVal) (@u1_kAnd))) (And.intro (And.intro (@u1_tAnd) (@u1_kOr)) (And.intro (@u1_tOr) (@u1_kNot)))) (And.intro (And.intro (And.intro (@u1_tNot) (@u1_kAndV)) (And.intro (@u2_kAndV) (@u1_dAnd))) (And.intro (And.intro (@u1_kOrV) (@u2_kOrV)) (And.intro (@u1_dOr) (@u1_kNotV)))))
def g4 := (And.intro (And.intro (And.intro (And.intro (@u2_kNotV) (@u1_dNot)) (And.intro (@u1_kIf) (@u1_dIf))) (And.intro (And.intro (@u1_kC3) (@u1_kC2b)) (And.intro (@u1_kC2a) (@u2_kC2a)))) (And.intro (And.intro (And.intro (@u1_kC2) (@u1_kC1)) (And.intro (@u1_dChain) (@u1_kCB))) (And.intro (And.intro (@u1_dCB) (@u1_kIsi)) (And.intro (@u1_dIsi) (@u1_pNo)))))
def g5 := (And.intro (And.intro (And.intro (And.intro (@u1_kPI) (@u2_kPI)) (And.intro (@u1_pInt) (@u1_kS3))) (And.intro (And.intro (@u1_kS2) (@u1_kS1)) (And.intro (@u1_dSl) (@u1_gN)))) (And.intro (And.intro (And.intro (@u1_gsNil) (@u2_gsNil)) (And.intro (@u1_kGs) (@u1_gsCons))) (And.intro (And.intro (@u2_gsCons) (@u1_gT)) (And.intro (@u2_gT) (@u1_kIt)))))
def g6 := (And.intro (And.intro (And.intro (And.intro (@u2_kIt) (@u3_kIt)) (And.intro (@u4_kIt) (@u5_kIt))) (And.intro (And.intro (@u1_iOf) (@u1_kR)) (And.intro (@u1_iR) (@u1_kZ)))) (And.intro (And.intro (And.intro (@u1_iZ) (@u1_kE)) (And.intro (@u1_iE) (@u1_kVs))) (And.intro (And.intro (@u1_kV) (@u1_kApp)) (And.intro (@u1_dApp) (@u1_dPop)))))
def g7 := (And.intro (And.intro (And.intro (And.intro (@u1_kSub1) (@u1_kSub2)) (And.intro (@u1_dSub) (@u1_kTakeIO))) (And.intro (And.intro (@u1_tkIO) (@u2_tkIO)) (And.intro (@u3_tkIO) (@u4_tkIO)))) (And.intro (And.intro (And.intro (@u1_kCallIO) (@u1_dCallIO)) (And.intro (@Bx.ownL.eq_1) (@u1_kRetIO))) (And.intro (And.intro (@u2_kRetIO) (@u1_kRet)) (And.intro (@u1_kCall) (@u1_dCall)))))
def g8 := (And.intro (And.intro (And.intro (And.intro (@u1_kFor) (@u1_dFor)) (And.intro (@u1_kForB) (@u1_kWh))) (And.intro (And.intro (@u1_kCo) (@u1_dComp)) (And.intro (@u1_kCo1) (@u1_kCo2)))) (And.intro (And.intro (And.intro (@u1_kCo3) (@u2_kCo3)) (And.intro (@u1_tAll) (@u1_gAdd))) (And.intro (And.intro (@u2_gAdd) (@u3_gAdd)) (And.intro (@u4_gAdd) (@u5_gAdd)))))
def g9 := (And.intro (And.intro (And.intro (And.intro (@u1_gII) (@u2_gII)) (And.intro (@u1_gII0) (@u2_gII0))) (And.intro (And.intro (@u1_gSub) (@u1_gMul2)) (And.intro (@u2_gMul2) (@u1_gMul)))) (And.intro (And.intro (And.intro (@u2_gMul) (@u3_gMul)) (And.intro (@u1_gDiv) (@u1_gMod))) (And.intro (And.intro (@u1_gPow) (@u1_gShl)) (And.intro (@u1_gShr) (@u1_gAnd)))))
def g10 := (And.intro (And.intro (And.intro (And.intro (@u1_gNeg) (@u2_gNeg)) (And.intro (@u1_gLt) (@u1_gLe))) (And.intro (And.intro (@u1_gGt) (@u1_gGe)) (And.intro (@u1_gIsN) (@u2_gIsN)))) (And.intro (And.intro (And.intro (@u1_gNotN) (@u2_gNotN)) (And.intro (@u1_gEq) (@u1_gNe))) (And.intro (And.intro (@u1_gIx) (@u2_gIx)) (And.intro (@u3_gIx) (@u4_gIx)))))
def g11 := (And.intro (And.intro (And.intro (And.intro (@u5_gIx) (@u6_gIx)) (And.intro (@u7_gIx) (@u8_gIx))) (And.intro (And.intro (@u1_gLen) (@u2_gLen)) (And.intro (@u3_gLen) (@u1_gAbs)))) (And.intro (And.intro (And.intro (@u2_gAbs) (@u1_gSum)) (And.intro (@u2_gSum) (@u1_gMax))) (And.intro (And.intro (@u2_gMax) (@u3_gMax)) (And.intro (@u1_gMin) (@u2_gMin)))))
def g12 := (And.intro (And.intro (And.intro (And.intro (@u3_gMin) (@u1_gAll)) (And.intro (@u2_gAll) (@u1_gAny))) (And.intro (And.intro (@u2_gAny) (@u1_gInt)) (And.intro (@u2_gInt) (@u3_gInt)))) (And.intro (And.intro (And.intro (@u4_gInt) (@u1_gList)) (And.intro (@u2_gList) (@u1_gTuple))) (And.intro (And.intro (@u2_gTuple) (@u1_gSl)) (And.intro (@u2_gSl) (@u3_gSl)))))
def g13 := (And.intro (And.intro (And.intro (And.intro (@u4_gSl) (@u5_gSl)) (And.intro (@u1_gR1) (@u2_gR1))) (And.intro (And.intro (@u1_gR2) (@u2_gR2)) (And.intro (@u1_gZ) (@u2_gZ)))) (And.intro (And.intro (And.intro (@u3_gZ) (@u4_gZ)) (And.intro (@u5_gZ) (@u1_gE))) (And.intro (And.intro (@u2_gE) (@u3_gE)) (And.intro (@u1_gIAdd) (@u1_gISub)))))
def g14 := (And.intro (And.intro (And.intro (And.intro (@u1_gIMul) (@Bx.rget_s)) (And.intro (@Bx.rget_0) (@Bx.rset_s))) (And.intro (And.intro (@Bx.rset_0) (@Bx.rd.eq_1)) (And.intro (@Bx.rd.eq_2) (@Bx.rdAll.eq_1)))) (And.intro (And.intro (And.intro (@Bx.rdAll.eq_2) (@u_onSome_some)) (And.intro (@Bx.frz_lst) (@Bx.frz_tup))) (And.intro (And.intro (@Bx.frz_int) (@Bx.frz_bl)) (And.intro (@Bx.frz_str) (@Bx.frz_scr)))))
def g15 := (And.intro (And.intro (And.intro (And.intro (@Bx.frz_non) (@Bx.frz_dic)) (And.intro (@Bx.D.isNon.eq_1) (@Bx.D.isNon.eq_2))) (And.intro (And.intro (@Bx.D.seq.eq_1) (@Bx.D.seq.eq_2)) (And.intro (@Bx.D.seq.eq_3) (@Bx.D.seq.eq_4)))) (And.intro (And.intro (And.intro (@Bx.D.sql.eq_1) (@Bx.D.sql.eq_2)) (And.intro (@Bx.D.sql.eq_3) (@Bx.D.ty.eq_1))) (And.intro (And.intro (@Bx.D.ty.eq_2) (@Bx.D.ty.eq_3)) (And.intro (@Bx.D.ty.eq_4) (@Bx.D.ty.eq_5)))))
def g16 := (And.intro (And.intro (And.intro (And.intro (@Bx.D.ty.eq_6) (@Bx.D.ty.eq_7)) (And.intro (@Bx.D.ty.eq_8) (@Bx.D.ty.eq_9))) (And.intro (And.intro (@u_pick_true) (@u_pick_false)) (And.intro (@u_ends_rt) (@u_ends_nx)))) (And.intro (And.intro (And.intro (@Bx.outs0) (@Bx.outsOf.eq_1)) (And.intro (@Bx.outsOf.eq_2) (@Bx.wipeR.eq_1))) (And.intro (And.intro (@Bx.wipeR.eq_2) (@Bx.backR.eq_1)) (And.intro (@Bx.backR.eq_2) (@Bx.it_NoneType_tuple)))))
def g17 := (And.intro (And.intro (And.intro (And.intro (@Bx.it_NoneType_int) (@Bx.it_NoneType_bool)) (And.intro (@Bx.it_NoneType_str) (@Bx.it_NoneType_list))) (And.intro (And.intro (@Bx.it_NoneType_dict) (@Bx.it_bool_tuple)) (And.intro (@Bx.it_bool_int) (@Bx.it_bool_bool)))) (And.intro (And.intro (And.intro (@Bx.it_bool_str) (@Bx.it_bool_list)) (And.intro (@Bx.it_bool_dict) (@Bx.it_int_tuple))) (And.intro (And.intro (@Bx.it_int_int) (@Bx.it_int_bool)) (And.intro (@Bx.it_int_str) (@Bx.it_int_list)))))
def g18 := (And.intro (And.intro (And.intro (And.intro (@Bx.it_int_dict) (@Bx.it_str_tuple)) (And.intro (@Bx.it_str_int) (@Bx.it_str_bool))) (And.intro (And.intro (@Bx.it_str_str) (@Bx.it_str_list)) (And.intro (@Bx.it_str_dict) (@Bx.it_dict_tuple)))) (And.intro (And.intro (And.intro (@Bx.it_dict_int) (@Bx.it_dict_bool)) (And.intro (@Bx.it_dict_str) (@Bx.it_dict_list))) (And.intro (And.intro (@Bx.it_dict_dict) (@Bx.it_tuple_tuple)) (And.intro (@Bx.it_tuple_int) (@Bx.it_tuple_bool)))))
def g19 := (And.intro (And.intro (And.intro (And.intro (@Bx.it_tuple_str) (@Bx.it_tuple_list)) (And.intro (@Bx.it_tuple_dict) (@Bx.it_list_tuple))) (And.intro (And.intro (@Bx.it_list_int) (@Bx.it_list_bool)) (And.intro (@Bx.it_list_str) (@Bx.it_list_list)))) (And.intro (And.intro (And.intro (@Bx.it_list_dict) (@Bx.initR.eq_1)) (And.intro (@u1_gIsB) (@u2_gIsB))) (And.intro (And.intro (@u1_gNotB) (@u2_gNotB)) (And.intro (@u1_gTMul) (@u2_gTMul)))))
def g20 := (And.intro (And.intro (And.intro (And.intro (@u1_iZX) (@u1_kZX)) (And.intro (@u1_gZX) (@u2_gZX))) (And.intro (And.intro (@u3_gZX) (@u4_gZX)) (And.intro (@u5_gZX) (@u6_gZX)))) (And.intro (And.intro (And.intro (@u7_gZX) (@u8_gZX)) (And.intro (@u9_gZX) (@u1_gSorted))) (And.intro (And.intro (@u2_gSorted) (@u1_kExt)) (And.intro (@u1_dExt) (@u1_gDict)))))
def g21 := (And.intro (And.intro (And.intro (And.intro (@u2_gDict) (@u1_gIn)) (And.intro (@u1_gNin) (@u1_gInG))) (And.intro (And.intro (@u2_gInG) (@u3_gInG)) (And.intro (@u4_gInG) (@u5_gInG)))) (And.intro (And.intro (And.intro (@u6_gInG) (@u1_flat)) (And.intro (@u2_flat) (@u3_flat))) (And.intro (And.intro (@u4_flat) (@u1_asFlat)) (And.intro (@u2_asFlat) (@u1_gStr)))))
def g22 := (And.intro (And.intro (And.intro (And.intro (@u2_gStr) (@u1_gEqE)) (And.intro (@u2_gEqE) (@u1_kRev))) (And.intro (And.intro (@u2_kRev) (@u1_iRev)) (And.intro (@u1_kSubs) (@u1_dSubs)))) (And.intro (And.intro (And.intro (@u1_kRvs) (@u2_kRvs)) (And.intro (@u1_dRvs) (@u1_kUpper))) (And.intro (And.intro (@u1_dUpper) (@u1_dgetO)) (And.intro (@u1_gGet) (@u2_gGet)))))
def g23 := (And.intro (And.intro (And.intro (And.intro (@u3_gGet) (@u4_gGet)) (And.intro (@u1_kGet2) (@u1_kGet1))) (And.intro (And.intro (@u1_dGet1) (@u1_isDic)) (And.intro (@u2_isDic) (@u1_gBool)))) (And.intro (And.intro (And.intro (@u2_gBool) (@u1_kIsi2)) (And.intro (@u1_dIsi2) (@u1_gStr2))) (And.intro (And.intro (@u2_gStr2) (@u3_gStr2)) (And.intro (@u4_gStr2) (@u1_gRepr)))))
def g24 := (And.intro (And.intro (And.intro (And.intro (@u2_gRepr) (@u3_gRepr)) (And.intro (@u4_gRepr) (@u5_gRepr))) (And.intro (And.intro (@u6_gRepr) (@u1_gSortK)) (And.intro (@u1_gEqT) (@u1_gNeT)))) (And.intro (And.intro (And.intro (@u1_gSortRev) (@u1_dNever)) (And.intro (@u1_kOdc) (@u1_dOdc))) (And.intro (And.intro (@u1_kDicF) (@u1_dDic)) (And.intro (@u1_kUpd) (@u1_isOdc)))))
def g25 := (And.intro (And.intro (And.intro (And.intro (@u1_dUpd) (@u1_kUpdF)) (And.intro (@u_frz_odc) (@x_bind_some))) (And.intro (And.intro (@x_omap_some) (@x_length_cons)) (And.intro (@x_length_nil) (@x_map_cons)))) (And.intro (And.intro (And.intro (@x_map_nil) (@x_set_zero)) (And.intro (@x_set_succ) (@x_length_map))) (And.intro (And.intro (@x_rep_zero) (@x_rep_succ)) (And.intro (@x_cons_append) (@x_nil_append)))))
def g26 := (And.intro (And.intro (And.intro (@Bool.not_true) (@Bool.not_false)) (And.intro (@decide_true) (And.intro (@decide_false) (@true_and)))) (And.intro (And.intro (@and_true) (@Bool.and_true)) (And.intro (@Bool.true_and) (And.intro (@Bool.and_false) (@Bool.false_and)))))
def go := (And.intro (And.intro (And.intro (And.intro (g0) (And.intro (g1) (g2))) (And.intro (g3) (And.intro (g4) (g5)))) (And.intro (And.intro (g6) (And.intro (g7) (g8))) (And.intro (And.intro (g9) (g10)) (And.intro (g11) (g12))))) (And.intro (And.intro (And.intro (g13) (And.intro (g14) (g15))) (And.intro (And.intro (g16) (g17)) (And.intro (g18) (g19)))) (And.intro (And.intro (g20) (And.intro (g21) (g22))) (And.intro (And.intro (g23) (g24)) (And.intro (g25) (g26))))))
end Bx
/-! the helpers that most laws have -/
namespace Bx
open PySem L2
def wCell : DS :=
  (dSeq (dIfS (tVal (dBin gLt (oVar 1) (oVal (dCB gLen (aCons (oVar 0) aNil)))))
    (dRet (dBin gIx (oVar 0) (oVar 1)))
    dNext)
    (dRet (dC (.int 0))))
def sCell : PSpec := fun ds Q => ∃ (ns : List Int) (k : Int), ds = [.scr (ns.map .int), .int k] ∧ 0 ≤ k ∧ ∀ r : Int, Q (.int r) []
theorem imp_cell : ∀ ds Q, sCell ds Q → bodyW [] 2 2 wCell ds Q := by
  rintro ds Q ⟨ns, k, rfl, h0, q⟩
  refine ⟨rfl, ?_⟩
  simp only [wCell, Bx.go]
  refine pick_by (fun h => ?_) (fun h => ?_)
  · have h := of_decide_eq_true h
    simp only [Bx.go]
    obtain ⟨j, rfl⟩ : ∃ j : Nat, k = j := ⟨k.toNat, by omega⟩
    rw [atI_int (by omega)]
    exact q _
  · simp only [Bx.go]
    exact q 0
def wLeft (C__law_cell_at : PSpec) : DS :=
  (dSeq (dAsg 2 (dCall C__law_cell_at (aCons (oVar 0) (aCons (oVal (dBin gMod (oVar 1) (oVal (dCB gMax (aCons (oVal (dC (.int 1))) (aCons (oVal (dCB gLen (aCons (oVar 0) aNil))) aNil)))))) aNil))))
    (dSeq (dAsg 3 (dBin gMod (oVal (dBin gMul2 (oVal (dBin gAdd (oVal (dBin gAdd (oVal (dBin gMod (oVar 2) (oVal (dC (.int 2147483629))))) (oVal (dBin gMul2 (oVal (dBin gMul2 (oVal (dC (.int 7919))) (oVar 1))) (oVar 1))))) (oVal (dC (.int 11))))) (oVal (dC (.int 48271))))) (oVal (dC (.int 2147483647)))))
    (dRet (dLst (aCons (oVal (dBin gMod (oVal (dBin gMul2 (oVar 2) (oVal (dCB gInt (aCons (oVal (dBin gGe (oVar 2) (oVal (dBin gPow (oVal (dC (.int 10))) (oVal (dC (.int 18))))))) aNil))))) (oVal (dCB gInt (aCons (oVal (dBin gAdd (oVal (dC (.str "1"))) (oVal (dBin gMul2 (oVal (dC (.str "0"))) (oVal (dC (.int 4000))))))) aNil))))) (aCons (oVar 3) aNil))))))
def sLeft : PSpec := fun ds Q => ∃ (ns : List Int) (k : Int), ds = [.scr (ns.map .int), .int k] ∧ ns.length ≤ 63 ∧ 0 ≤ k ∧ k ≤ 1000 ∧ ∀ a s : Int, Q (.lst true [.int a, .int s]) []
theorem imp_left : ∀ ds Q, sLeft ds Q → bodyW [] 4 2 (wLeft sCell) ds Q := by
  rintro ds Q ⟨ns, k, rfl, hl, h0, h1, q⟩
  refine ⟨rfl, ?_⟩
  simp only [wLeft, Bx.go]
  have hm : (0 : Int) < if (ns.length : Int) > 1 then (ns.length : Int) else 1 := by split <;> omega
  refine ⟨hm, ns, _, rfl, Int.emod_nonneg _ (by omega), fun r => ?_⟩
  simp only [Bx.go]
  refine ⟨by decide, .inl (by omega), .inl (by omega), .inr (.inl (by omega)), by decide, ⟨by decide, by decide, by decide⟩, .inr (.inl (by split <;> decide)), big_ok fun m m0 => ⟨m0, q _ _⟩⟩
def wPick : DS :=
  (dSeq (dIfS (tVal (dBin gGt (oVal (dBin gIx (oVar 0) (oVal (dC (.int 0))))) (oVal (dC (.int 0)))))
    (dSeq (dAsg 2 (dBin gMod (oVal (dBin gIx (oVar 0) (oVal (dC (.int 0))))) (oVar 1)))
    (dSeq (dSub 0 (dBin gDiv (oVal (dBin gIx (oVar 0) (oVal (dC (.int 0))))) (oVar 1)) (oVal (dC (.int 0))))
    (dRetV 2)))
    dNext)
    (dSeq (dSub 0 (dBin gMod (oVal (dBin gAdd (oVal (dBin gMul2 (oVal (dBin gIx (oVar 0) (oVal (dC (.int 1))))) (oVal (dC (.int 48271))))) (oVal (dC (.int 12345))))) (oVal (dC (.int 2147483647)))) (oVal (dC (.int 1))))
    (dRet (dBin gMod (oVal (dBin gMod (oVal (dBin gMul2 (oVal (dBin gIx (oVar 0) (oVal (dC (.int 1))))) (oVal (dBin gIx (oVar 0) (oVal (dC (.int 1))))))) (oVal (dC (.int 1999999973))))) (oVar 1)))))
def sPick : PSpec := fun ds Q => ∃ (a s m : Int), ds = [.lst true [.int a, .int s], .int m] ∧ 0 < m ∧ m < 1000000 ∧ ∀ r a' s' : Int, 0 ≤ r → r < m → Q (.int r) [.lst true [.int a', .int s']]
theorem imp_pick : ∀ ds Q, sPick ds Q → bodyW [0] 3 2 wPick ds Q := by
  rintro ds Q ⟨a, s, m, rfl, h0, h1, q⟩
  refine ⟨rfl, ?_⟩
  simp only [wPick, Bx.go]
  have e0 : ∀ x y : Int, atI [D.int x, D.int y] 0 = some (.int x) := fun _ _ => rfl
  have e1 : ∀ x y : Int, atI [D.int x, D.int y] 1 = some (.int y) := fun _ _ => rfl
  have x0 : ixN 2 0 = some 0 := rfl
  have x1 : ixN 2 1 = some 1 := rfl
  simp only [e0, e1, Bx.go]
  refine pick_by (fun h => ?_) (fun h => ?_)
  · simp only [e0, e1, x0, x1, Nat.zero_add, Bx.go]
    exact ⟨h0, ⟨h0, by omega⟩, q _ _ _ (Int.emod_nonneg _ (by omega)) (Int.emod_lt_of_pos _ h0)⟩
  · simp only [e0, e1, x0, x1, Nat.zero_add, Bx.go]
    refine ⟨.inr (.inl ⟨by decide, by decide⟩), by decide, ?_, by decide, h0, q _ _ _ (Int.emod_nonneg _ (by omega)) (Int.emod_lt_of_pos _ h0)⟩
    have z1 := Int.emod_nonneg (s * 48271 + 12345) (show (2147483647 : Int) ≠ 0 by decide)
    have z2 := Int.emod_lt_of_pos (s * 48271 + 12345) (show (0 : Int) < 2147483647 by decide)
    exact .inl ⟨by omega, by omega⟩
/-! ### the same, in kinds, too -/
def wSame (C : PSpec) : DS :=
  (dSeq (dIfS (tVal (dIsi "tuple" (oVar 1)))
    (dSeq (dIfS (tOr (tNot (tVal (dIsi "tuple" (oVar 0)))) (tVal (dBin gNe (oVal (dCB gLen (aCons (oVar 0) aNil))) (oVal (dCB gLen (aCons (oVar 1) aNil))))))
    (dRet (dC (.bl false)))
    dNext)
    (dRet (dCB gAll (aCons (oVal (dComp (iZX (aCons (oVar 0) (aCons (oVar 1) aNil))) [2, 3] (gT (gsCons (gN 2) (gsCons (gN 3) gsNil)) 2) tAll (dCall C (aCons (oVar 2) (aCons (oVar 3) aNil))))) aNil))))
    dNext)
    (dSeq (dIfS (tVal (dBin gIsN (oVar 1) (oVal (dC .non))))
    (dRet (dBin gIsN (oVar 0) (oVal (dC .non))))
    dNext)
    (dSeq (dIfS (tVal (dIsi "str" (oVar 1)))
    (dRet (dAnd (dIsi "str" (oVar 0)) (dBin gEq (oVar 0) (oVar 1))))
    dNext)
    (dSeq (dIfS (tOr (tVal (dIsi "bool" (oVar 1))) (tVal (dIsi "bool" (oVar 0))))
    (dRet (dAnd (dIsi "bool" (oVar 0)) (dAnd (dIsi "bool" (oVar 1)) (dBin gEq (oVar 0) (oVar 1)))))
    dNext)
    (dRet (dAnd (dIsi "int" (oVar 0)) (dBin gEq (oVar 0) (oVar 1))))))))
def okS : Nat → D → Prop
  | 0, _ => False
  | n + 1, .tup xs => xs.length ≤ sizeLine ∧ ∀ x ∈ xs, okS n x
  | _ + 1, .int _ => True
  | _ + 1, .bl _ => True
  | _ + 1, .non => True
  | _ + 1, .str z => (PyData.str z).canLay0 = true
  | _ + 1, _ => False
theorem okS.frz {n : Nat} {y : D} (h : okS n y) : y.frz = y := by
  cases y with
  | lst o xs => cases n <;> exact h.elim
  | odc _ _ => cases n <;> exact h.elim
  | _ => rfl
/-- what is the same is told to be so -/
def sSame : Nat → PSpec
  | 0 => fun _ _ => False
  | n + 1 => fun ds Q => ∃ y : D, ds = [y, y] ∧ okS (n + 1) y ∧ Q (.bl true) []
theorem eqv_int (i j : Int) : D.eqv (.int i) (.int j) = (i == j) := by unfold D.eqv D.pd PyData.eqv; rfl
theorem eqOk_int (i j : Int) : D.eqOk (.int i) (.int j) := by
  refine ⟨?_, ?_, ?_⟩
  · simp [D.pd, PyData.canLay0]
  · simp [D.pd, PyData.canLay0]
  · simp [D.pd, PyData.depth]
theorem eqv_bl (i j : Bool) : D.eqv (.bl i) (.bl j) = (i == j) := by unfold D.eqv D.pd PyData.eqv; rfl
theorem eqOk_bl (i j : Bool) : D.eqOk (.bl i) (.bl j) := by
  refine ⟨?_, ?_, ?_⟩
  · simp [D.pd, PyData.canLay0]
  · simp [D.pd, PyData.canLay0]
  · simp [D.pd, PyData.depth]
theorem eqv_str (i j : Str) : D.eqv (.str i) (.str j) = (i == j) := by unfold D.eqv D.pd PyData.eqv; rfl

theorem eqOk_str {i j : Str} (h1 : (PyData.str i).canLay0 = true) (h2 : (PyData.str j).canLay0 = true) : D.eqOk (.str i) (.str j) := by
  refine ⟨by unfold D.pd; exact h1, by unfold D.pd; exact h2, ?_⟩
  simp [D.pd, PyData.depth]
theorem bls_true : ∀ n : Nat, asBls (List.replicate n (D.bl true)) = some (List.replicate n true)
  | 0 => rfl
  | n + 1 => by
    rw [List.replicate_succ]
    show (asBls (List.replicate n (D.bl true))).map (true :: ·) = _
    rw [bls_true n]; rfl
theorem zip_same {xs ys : List D} {x : D} {r : List D} (h : zipD xs ys = x :: r) : ∃ a b as bs, xs = a :: as ∧ ys = b :: bs ∧ x = .tup [a, b] ∧ r = zipD as bs := by
  cases xs with
  | nil => simp [zipD] at h
  | cons a as =>
    cases ys with
    | nil => simp [zipD] at h
    | cons b bs =>
      simp only [zipD, List.cons.injEq] at h
      exact ⟨a, b, as, bs, rfl, rfl, h.1.symm, h.2.symm⟩
theorem zipD_len' : ∀ {xs ys : List D}, (zipD xs ys).length ≤ xs.length
  | [], _ => Nat.zero_le _
  | _ :: _, [] => Nat.zero_le _
  | x :: xs, y :: ys => Nat.succ_le_succ zipD_len'
theorem imp_same (n : Nat) : ∀ ds Q, sSame (n + 1) ds Q → bodyW [] 4 2 (wSame (sSame n)) ds Q := by
  rintro ds Q ⟨y, rfl, hy, q⟩
  refine ⟨rfl, ?_⟩
  have eq (i : Int) : (i == i) = true := by simp
  cases y with
  | int i =>
    simp only [wSame, Bx.go]
    exact ⟨eqOk_int _ _, by simp only [eqv_int, eq, Bx.go]; exact q⟩
  | non =>
    simp only [wSame, Bx.go]
    exact q
  | bl b =>
    simp only [wSame, Bx.go]
    exact ⟨eqOk_bl _ _, by simp only [eqv_bl, beq_self_eq_true, Bx.go]; exact q⟩
  | str z =>
    simp only [wSame, Bx.go]
    exact ⟨eqOk_str hy hy, by simp only [eqv_str, beq_self_eq_true, Bx.go]; exact q⟩
  | tup xs =>
    simp only [wSame, Bx.go]
    refine ⟨eqOk_int _ _, ?_⟩
    simp only [eqv_int, eq, Bx.go]
    refine ⟨Nat.le_trans zipD_len' hy.1, ?_⟩
    refine comp_rule (fun items acc ρ => ρ = [some (.tup xs), some (.tup xs), none, none] ∧ (∃ r, items = zipD r r ∧ ∀ x ∈ r, x ∈ xs) ∧ ∃ k, acc = List.replicate k (.bl true)) ⟨rfl, ⟨xs, rfl, fun _ h => h⟩, 0, rfl⟩ ?_ ?_
    · rintro acc ρ ⟨rfl, _, k, rfl⟩
      simp only [bls_true, Bx.go]
      rw [show (List.replicate k true).all id = true by simp]
      exact q
    · rintro x r acc ρ N ⟨rfl, ⟨l, hl, hm⟩, k, rfl⟩ hN
      obtain ⟨a, b, as, bs, e1, e2, rfl, rfl⟩ := zip_same hl.symm
      subst e1
      cases e2
      have ha := hy.2 a (hm a List.mem_cons_self)
      obtain ⟨m, rfl⟩ : ∃ m, n = m + 1 := by
        cases n with
        | zero => exact ha.elim
        | succ m => exact ⟨m, rfl⟩
      have hf := ha.frz
      simp only [hf, Bx.go]
      refine ⟨a, rfl, ha, ?_⟩
      simp only [hf, Bx.go]
      refine hN _ _ ⟨rfl, ⟨as, rfl, fun x hx => hm x (List.mem_cons_of_mem _ hx)⟩, k + 1, ?_⟩
      rw [List.replicate_succ']
  | lst o xs => exact hy.elim
  | scr xs => exact hy.elim
  | dic ks xs => exact hy.elim
  | odc ks xs => exact hy.elim
end Bx
namespace Bx
open PySem L2
theorem rangeD_mem {lo : Int} {n : Nat} {x : D} (h : x ∈ rangeD lo n) : ∃ i : Int, x = .int i ∧ lo ≤ i ∧ i < lo + n := by
  unfold rangeD at h
  obtain ⟨i, hi, rfl⟩ := List.mem_map.mp h
  have := List.mem_range.mp hi
  exact ⟨_, rfl, by omega, by omega⟩
theorem rangeD_len {lo : Int} {n : Nat} : (rangeD lo n).length = n := by unfold rangeD; simp
/-- an item of a written list of ints -/
theorem atI_of {ns : List Int} {r : Int} (p : Int → Prop) (hp : ∀ n ∈ ns, p n) (h0 : 0 ≤ r) (h1 : r < ns.length) : ∃ v, atI (ns.map D.int) r = some (.int v) ∧ p v := by
  have h : r.toNat < ns.length := by omega
  refine ⟨ns[r.toNat], ?_, hp _ (List.getElem_mem h)⟩
  rw [atI_nat' h0, List.getElem?_map, List.getElem?_eq_getElem h]; rfl
theorem atI_mem {xs : List D} {r : Int} (h0 : 0 ≤ r) (h1 : r < xs.length) : ∃ d, d ∈ xs ∧ atI xs r = some d := by
  have h : r.toNat < xs.length := by omega
  refine ⟨xs[r.toNat], List.getElem_mem h, ?_⟩
  rw [atI_nat' h0, List.getElem?_eq_getElem h]
end Bx
namespace Bx
open PySem L2
theorem pds_ints : ∀ ns : List Int, D.pds (ns.map D.int) = ns.map PyData.int
  | [] => by simp [D.pds]
  | n :: r => by simp only [List.map_cons, D.pds, D.pd, pds_ints r]
theorem lay_ints : ∀ ns : List Int, PyData.canLayAll0 (ns.map PyData.int) = true
  | [] => by simp [PyData.canLayAll0]
  | n :: r => by simp [PyData.canLayAll0, PyData.canLay0, lay_ints r]
theorem dep_ints : ∀ ns : List Int, PyData.depthAll (ns.map PyData.int) = 0
  | [] => by simp [PyData.depthAll]
  | n :: r => by simp [PyData.depthAll, PyData.depth, dep_ints r]
theorem eqvAll_ints : ∀ a b : List Int, PyData.eqvAll (a.map PyData.int) (b.map PyData.int) = (a == b)
  | [], [] => by simp [PyData.eqvAll]
  | [], _ :: _ => by simp [PyData.eqvAll]
  | _ :: _, [] => by simp [PyData.eqvAll]
  | x :: a, y :: b => by
    simp only [List.map_cons, PyData.eqvAll, PyData.eqv, eqvAll_ints a b]
    rfl
theorem eqv_ints (a b : List Int) : D.eqv (.tup (a.map .int)) (.tup (b.map .int)) = (a == b) := by
  unfold D.eqv
  simp only [D.pd, pds_ints, PyData.eqv, eqvAll_ints]
theorem lay_tup_ints (a : List Int) : (D.tup (a.map .int)).pd.canLay0 = true := by simp only [D.pd, pds_ints, PyData.canLay0, lay_ints]
theorem eqOk_ints (a b : List Int) : D.eqOk (.tup (a.map .int)) (.tup (b.map .int)) := by
  refine ⟨lay_tup_ints a, lay_tup_ints b, ?_⟩
  simp only [D.pd, pds_ints, PyData.depth, dep_ints]
  decide
theorem cutD_map {α : Type} (f : α → D) (xs : List α) (lo hi : Option Int) : ∃ zs : List α, cutD (xs.map f) lo hi = zs.map f ∧ zs.length ≤ xs.length := by
  refine ⟨(xs.drop (HT.sIx xs.length 0 lo)).take (HT.sIx xs.length xs.length hi - HT.sIx xs.length 0 lo), ?_, ?_⟩
  · unfold cutD
    rw [List.length_map, List.map_take, List.map_drop]
  · rw [List.length_take, List.length_drop]; omega
end Bx
namespace Bx
open PySem L2
theorem asInts_f {α : Type} (f : α → Int) : ∀ l : List α, asInts (l.map fun x => D.int (f x)) = some (l.map f)
  | [] => rfl
  | x :: r => by
    rw [List.map_cons]
    show (asInts (r.map fun x => D.int (f x))).map (f x :: ·) = _
    rw [asInts_f f r]; rfl
theorem asBls_f {α : Type} (f : α → Bool) : ∀ l : List α, asBls (l.map fun x => D.bl (f x)) = some (l.map f)
  | [] => rfl
  | x :: r => by
    rw [List.map_cons]
    show (asBls (r.map fun x => D.bl (f x))).map (f x :: ·) = _
    rw [asBls_f f r]; rfl
theorem eqv_lints (o o2 : Bool) (a b : List Int) : D.eqv (.lst o (a.map .int)) (.lst o2 (b.map .int)) = (a == b) := by
  unfold D.eqv
  simp only [D.pd, pds_ints, PyData.eqv, eqvAll_ints]
theorem eqOk_lints (o o2 : Bool) (a b : List Int) : D.eqOk (.lst o (a.map .int)) (.lst o2 (b.map .int)) := by
  refine ⟨?_, ?_, ?_⟩
  · simp only [D.pd, pds_ints, PyData.canLay0, lay_ints]
  · simp only [D.pd, pds_ints, PyData.canLay0, lay_ints]
  · simp only [D.pd, pds_ints, PyData.depth, dep_ints]
    decide
end Bx
namespace Bx
open PySem L2
theorem rangeD_cons {lo : Int} {n : Nat} : rangeD lo (n + 1) = .int lo :: rangeD (lo + 1) n := by
  unfold rangeD
  rw [List.range_succ_eq_map, List.map_cons, List.map_map]
  congr 1
  · simp
  · refine List.map_congr_left fun i _ => ?_
    simp only [Function.comp_def]
    congr 1
    omega
theorem atI_last {α : Type} {xs : List α} {a : α} : atI (xs ++ [a]) (-1) = some a := by
  have : ((xs ++ [a]).length : Int) = xs.length + 1 := by simp
  unfold atI ixN
  rw [if_neg (by decide), if_pos (by omega)]
  have e : ((-1 : Int) + ((xs ++ [a]).length : Int)).toNat = xs.length := by omega
  rw [Option.bind_some, e]
  simp
end Bx
namespace Bx
open PySem L2
/-- one after the other, by what holds between: keeps what follows closed -/
theorem seq_cut {a b : DS} {E : DEnds} {ρ : Rho} (P : Rho → Prop) (h1 : ∀ R : Rho → Prop, (∀ ρ', P ρ' → R ρ') → a ⟨R, E.rt, E.bk, E.ct⟩ ρ) (h2 : ∀ ρ', P ρ' → b E ρ') : dSeq a b E ρ := h1 (b E) h2
end Bx
/-! the other hand: a state of three numbers -/
namespace Bx
open PySem L2
def wHand : DS :=
  (dSeq (dAsg 1 (dLst (aCons (oVal (dC (.int 0))) (aCons (oVal (dC (.int 0))) (aCons (oVal (dC (.int 0))) aNil)))))
    (dSeq (dIfS (tAnd (tVal (dBin gGt (oVal (dCB gLen (aCons (oVar 0) aNil))) (oVal (dC (.int 0))))) (tVal (dBin gGe (oVal (dBin gIx (oVar 0) (oVal (dC (.int 0))))) (oVal (dBin gPow (oVal (dC (.int 10))) (oVal (dC (.int 18))))))))
    (dSeq (dAsg 4 (dC (.int 1)))
    (dFor (iOf (dSl (oVar 0) pNo (pInt (dC (.int 63))))) (gN 3)
    (dSeq (dSub 1 (dBin gAdd (oVal (dBin gIx (oVar 1) (oVal (dC (.int 0))))) (oVal (dBin gMul2 (oVal (dBin gMod (oVal (dCB gAbs (aCons (oVar 3) aNil))) (oVal (dBin gPow (oVal (dC (.int 10))) (oVal (dC (.int 60))))))) (oVar 4)))) (oVal (dC (.int 0))))
    (dAsg 4 (dBin gMul2 (oVar 4) (oVal (dBin gPow (oVal (dC (.int 10))) (oVal (dC (.int 60))))))))))
    dNext)
    (dSeq (dFor (iE (aCons (oVal (dSl (oVar 0) pNo (pInt (dC (.int 63))))) aNil)) (gT (gsCons (gN 2) (gsCons (gN 3) gsNil)) 2)
    (dSeq (dAsg 5 (dBin gAdd (oVal (dBin gAdd (oVal (dBin gMod (oVar 3) (oVal (dC (.int 2305843009213693951))))) (oVal (dBin gMul2 (oVal (dC (.int 7919))) (oVar 2))))) (oVal (dC (.int 3)))))
    (dSub 1 (dBin gMod (oVal (dBin gAdd (oVal (dBin gMul2 (oVal (dBin gIx (oVar 1) (oVal (dC (.int 1))))) (oVal (dC (.int 48271))))) (oVar 5))) (oVal (dC (.int 2305843009213693951)))) (oVal (dC (.int 1))))))
    (dRetV 1))))
def sHand : PSpec := fun ds Q => ∃ ns : List Int, ds = [.scr (ns.map .int)] ∧ ns.length ≤ 63 ∧ ∀ a b : Int, Q (.lst true [.int a, .int b, .int 0]) []
theorem a0 {x y z : D} : atI [x, y, z] 0 = some x := rfl
theorem a1 {x y z : D} : atI [x, y, z] 1 = some y := rfl
theorem a2 {x y z : D} : atI [x, y, z] 2 = some z := rfl
theorem n30 : ixN (1 + 1 + 1) 0 = some 0 := rfl
theorem n31 : ixN (1 + 1 + 1) 1 = some 1 := rfl
theorem n32 : ixN (1 + 1 + 1) 2 = some 2 := rfl
theorem imp_hand : ∀ ds Q, sHand ds Q → bodyW [] 6 1 wHand ds Q := by
  rintro ds Q ⟨ns, rfl, hl, q⟩
  refine ⟨rfl, ?_⟩
  have sl := sizeLine_eq
  refine seq_cut (fun ρ => ρ = [some (.scr (ns.map .int)), some (.lst true [.int 0, .int 0, .int 0]), none, none, none, none]) (fun R hR => ?_) ?_
  · simp only [Bx.go]
    exact hR _ rfl
  rintro _ rfl
  obtain ⟨z, ez, lz⟩ := cutD_map D.int ns none (some 63)
  refine seq_cut (fun ρ => ∃ (a : Int) (x3 x4 : Option D), ρ = [some (.scr (ns.map .int)), some (.lst true [.int a, .int 0, .int 0]), none, x3, x4, none]) (fun R hR => ?_) ?_
  · simp only [Bx.go]
    refine pick_by (fun h => ?_) (fun h => ?_)
    · have h := of_decide_eq_true h
      obtain ⟨v, ev, _⟩ := atI_of (ns := ns) (r := 0) (fun _ => True) (fun _ _ => trivial) (by omega) (by omega)
      simp only [ev, Bx.go]
      refine ⟨⟨by decide, by decide, by decide⟩, ?_⟩
      refine pick_by (fun h => ?_) (fun h => ?_)
      · simp only [ez, Bx.go]
        refine for_rule (fun items ρ => ∃ (a f : Int) (x3 : Option D) (k : Nat) (l : List Int), items = l.map .int ∧ f.natAbs < 2 ^ (200 * k + 1) ∧ k + l.length ≤ 63 ∧ ρ = [some (.scr (ns.map .int)), some (.lst true [.int a, .int 0, .int 0]), none, x3, some (.int f), none]) ⟨0, 1, none, 0, z, rfl, by decide, by omega, rfl⟩ ?_ ?_
        · rintro ρ ⟨a, f, x3, k, l, _, _, _, rfl⟩
          exact hR _ ⟨a, x3, _, rfl⟩
        · rintro x it ρ N ⟨a, f, x3, k, l, el, hf, hk, rfl⟩ hN
          cases l with
          | nil => simp at el
          | cons y l =>
          simp only [List.map_cons, List.cons.injEq] at el
          obtain ⟨rfl, rfl⟩ := el
          simp only [List.length_cons] at hk
          have p60 : ((10 : Int) ^ (60 : Int).toNat).natAbs < 2 ^ 200 := by decide
          have m1 : ((if y < 0 then -y else y) % 10 ^ (60 : Int).toNat).natAbs < 2 ^ 200 := wide_le (Int.emod_nonneg _ (by decide)) (Int.le_of_lt (Int.emod_lt_of_pos _ (by decide))) p60
          simp only [a0, n30, Nat.zero_add, Bx.go]
          refine ⟨⟨by decide, by decide, by decide⟩, by decide, .inr (.inr (wide_mul m1 hf (by decide) (by omega) (by omega))), ⟨by decide, by decide, by decide⟩, .inr (.inr (wide_mul hf p60 (by omega) (by decide) (by omega))), ?_⟩
          exact hN _ ⟨_, _, some (.int y), k + 1, l, rfl, by
            have := wide_lt hf p60
            rw [show 200 * (k + 1) + 1 = 200 * k + 1 + 200 by omega]; exact this, by omega, rfl⟩
      · exact hR _ ⟨0, none, none, rfl⟩
    · exact hR _ ⟨0, none, none, rfl⟩
  rintro _ ⟨a, x3, x4, rfl⟩
  simp only [ez, Bx.go]
  refine for_rule (fun items ρ => ∃ (a b : Int) (i : Nat) (l : List Int) (x2 x3 x4 x5 : Option D), items = enumD i (l.map .int) ∧ ρ = [some (.scr (ns.map .int)), some (.lst true [.int a, .int b, .int 0]), x2, x3, x4, x5]) ⟨a, 0, 0, z, none, x3, x4, none, rfl, rfl⟩ ?_ ?_
  · rintro ρ ⟨a, b, i, l, x2, x3, x4, x5, _, rfl⟩
    exact q a b
  · rintro x it ρ N ⟨a, b, i, l, x2, x3, x4, x5, el, rfl⟩ hN
    cases l with
    | nil => simp [enumD] at el
    | cons y l =>
    simp only [List.map_cons, enumD, List.cons.injEq] at el
    obtain ⟨rfl, rfl⟩ := el
    simp only [a1, n31, Nat.zero_add, Bx.go]
    refine ⟨by decide, .inl (by decide), .inr (.inl (by decide)), by decide, ?_⟩
    exact hN _ ⟨a, _, i + 1, l, _, _, _, _, rfl, rfl⟩
def wTake : DS :=
  (dSeq (dIfS (tVal (dBin gGt (oVal (dBin gIx (oVar 0) (oVal (dC (.int 0))))) (oVal (dC (.int 0)))))
    (dSeq (dAsg 3 (dBin gMod (oVal (dBin gIx (oVar 0) (oVal (dC (.int 0))))) (oVar 1)))
    (dSeq (dSub 0 (dBin gDiv (oVal (dBin gIx (oVar 0) (oVal (dC (.int 0))))) (oVar 1)) (oVal (dC (.int 0))))
    (dRetV 3)))
    dNext)
    (dSeq (dSub 0 (dBin gAdd (oVal (dBin gIx (oVar 0) (oVal (dC (.int 2))))) (oVal (dC (.int 1)))) (oVal (dC (.int 2))))
    (dSeq (dAsg 2 (dBin gMod (oVal (dBin gMul2 (oVal (dBin gAdd (oVal (dBin gAdd (oVal (dBin gIx (oVar 0) (oVal (dC (.int 1))))) (oVal (dBin gMul2 (oVal (dBin gMul2 (oVal (dC (.int 65537))) (oVal (dBin gIx (oVar 0) (oVal (dC (.int 2))))))) (oVal (dBin gIx (oVar 0) (oVal (dC (.int 2))))))))) (oVal (dC (.int 11))))) (oVal (dC (.int 48271))))) (oVal (dC (.int 2305843009213693921)))))
    (dSeq (dAsg 2 (dBin gMod (oVal (dBin gMul2 (oVar 2) (oVal (dBin gAdd (oVal (dBin gMod (oVar 2) (oVal (dC (.int 1000003))))) (oVal (dBin gMul2 (oVal (dC (.int 99991))) (oVal (dBin gIx (oVar 0) (oVal (dC (.int 2))))))))))) (oVal (dC (.int 2305843009213693907)))))
    (dRet (dBin gMod (oVal (dBin gAdd (oVal (dBin gDiv (oVar 2) (oVal (dC (.int 97))))) (oVal (dBin gDiv (oVar 2) (oVal (dC (.int 1000033))))))) (oVar 1)))))))
/-- the state, after at most n takes -/
def hnd (n : Nat) (xs : List D) : Prop := ∃ a b c : Int, xs = [.int a, .int b, .int c] ∧ 0 ≤ c ∧ c ≤ n
def sTake : PSpec := fun ds Q => ∃ (h : List D) (n : Nat) (m : Int), ds = [.lst true h, .int m] ∧ hnd n h ∧ n ≤ 10 ^ 15 ∧ 0 < m ∧ m < 1000000 ∧ ∀ (r : Int) (h' : List D), 0 ≤ r → r < m → hnd (n + 1) h' → Q (.int r) [.lst true h']
theorem imp_take : ∀ ds Q, sTake ds Q → bodyW [0] 4 2 wTake ds Q := by
  rintro ds Q ⟨h, n, m, rfl, ⟨a, b, c, rfl, c0, c1⟩, hn, m0, m1, q⟩
  refine ⟨rfl, ?_⟩
  simp only [wTake, a0, Bx.go]
  refine pick_by (fun h => ?_) (fun h => ?_)
  · simp only [a0, n30, Nat.zero_add, Bx.go]
    exact ⟨m0, ⟨m0, by omega⟩, q _ _ (Int.emod_nonneg _ (by omega)) (Int.emod_lt_of_pos _ m0) ⟨_, _, _, rfl, by omega, by omega⟩⟩
  · simp only [a0, a1, a2, n32, Nat.zero_add, Bx.go]
    have z1 := Int.emod_nonneg ((b + 65537 * (c + 1) * (c + 1) + 11) * 48271) (show (2305843009213693921 : Int) ≠ 0 by decide)
    have z2 := Int.emod_lt_of_pos ((b + 65537 * (c + 1) * (c + 1) + 11) * 48271) (show (0 : Int) < 2305843009213693921 by decide)
    refine ⟨.inl (by decide), .inr (.inl ⟨by omega, by omega⟩), .inr (.inl (by decide)), by decide, by decide, .inl (by decide), .inl ⟨by omega, by omega⟩, by decide, ⟨by decide, by decide⟩, ⟨by decide, by decide⟩, m0, ?_⟩
    exact q _ _ (Int.emod_nonneg _ (by omega)) (Int.emod_lt_of_pos _ m0) ⟨_, _, _, rfl, by omega, by omega⟩
end Bx
namespace Bx
open PySem L2
theorem p0 {x y : D} : atI [x, y] 0 = some x := rfl
theorem p1 {x y : D} : atI [x, y] 1 = some y := rfl
theorem hnd.mono {n m : Nat} {d : List D} (h : hnd n d) (l : n ≤ m) : hnd m d := by
  obtain ⟨a, b, c, e, h0, h1⟩ := h
  exact ⟨a, b, c, e, h0, by omega⟩
end Bx
namespace Bx
open PySem L2
/-- plain data of so many storeys: what == may be asked of -/
def okE : Nat → D → Prop
  | _, .non => True
  | _, .bl _ => True
  | _, .int _ => True
  | _, .str z => (PyData.str z).canLay0 = true
  | n + 1, .tup xs => ∀ x ∈ xs, okE n x
  | n + 1, .lst _ xs => ∀ x ∈ xs, okE n x
  | _, _ => False
theorem pds_map : ∀ xs : List D, D.pds xs = xs.map D.pd
  | [] => by simp [D.pds]
  | x :: r => by simp only [D.pds, List.map_cons, pds_map r]
theorem layAll {xs : List D} : (∀ x ∈ xs, x.pd.canLay0 = true) → PyData.canLayAll0 (D.pds xs) = true := by
  induction xs with
  | nil => intro _; simp [D.pds, PyData.canLayAll0]
  | cons x r ih => intro h; simp only [D.pds, PyData.canLayAll0]; rw [h x List.mem_cons_self, ih fun y hy => h y (List.mem_cons_of_mem _ hy)]; rfl
theorem depAll {n : Nat} {xs : List D} : (∀ x ∈ xs, x.pd.depth ≤ n) → PyData.depthAll (D.pds xs) ≤ n := by
  induction xs with
  | nil => intro _; simp [D.pds, PyData.depthAll]
  | cons x r ih => intro h; simp only [D.pds, PyData.depthAll]; have := h x List.mem_cons_self; have := ih fun y hy => h y (List.mem_cons_of_mem _ hy); omega
theorem eqvAll_refl {xs : List D} : (∀ x ∈ xs, PyData.eqv x.pd x.pd = true) → PyData.eqvAll (D.pds xs) (D.pds xs) = true := by
  induction xs with
  | nil => intro _; simp [D.pds, PyData.eqvAll]
  | cons x r ih => intro h; simp only [D.pds, PyData.eqvAll]; rw [h x List.mem_cons_self, ih fun y hy => h y (List.mem_cons_of_mem _ hy)]; rfl
theorem okE.lay : ∀ {n : Nat} {y : D}, okE n y → y.pd.canLay0 = true
  | _, .non, _ => by simp [D.pd, PyData.canLay0]
  | _, .bl _, _ => by simp [D.pd, PyData.canLay0]
  | _, .int _, _ => by simp [D.pd, PyData.canLay0]
  | _, .str _, h => by unfold okE at h; unfold D.pd; exact h
  | 0, .tup _, h => by unfold okE at h; exact h.elim
  | 0, .lst _ _, h => by unfold okE at h; exact h.elim
  | n + 1, .tup xs, h => by
    unfold okE at h; simp only [D.pd, PyData.canLay0]
    exact layAll fun x hx => okE.lay (h x hx)
  | n + 1, .lst _ xs, h => by
    unfold okE at h; simp only [D.pd, PyData.canLay0]
    exact layAll fun x hx => okE.lay (h x hx)
  | 0, .scr _, h => by unfold okE at h; exact h.elim
  | 0, .dic _ _, h => by unfold okE at h; exact h.elim
  | 0, .odc _ _, h => by unfold okE at h; exact h.elim
  | _ + 1, .scr _, h => by unfold okE at h; exact h.elim
  | _ + 1, .dic _ _, h => by unfold okE at h; exact h.elim
  | _ + 1, .odc _ _, h => by unfold okE at h; exact h.elim
theorem okE.dep : ∀ {n : Nat} {y : D}, okE n y → y.pd.depth ≤ n
  | _, .non, _ => by simp [D.pd, PyData.depth]
  | _, .bl _, _ => by simp [D.pd, PyData.depth]
  | _, .int _, _ => by simp [D.pd, PyData.depth]
  | _, .str _, _ => by simp [D.pd, PyData.depth]
  | 0, .tup _, h => by unfold okE at h; exact h.elim
  | 0, .lst _ _, h => by unfold okE at h; exact h.elim
  | n + 1, .tup xs, h => by
    unfold okE at h; simp only [D.pd, PyData.depth]
    exact Nat.succ_le_succ (depAll fun x hx => okE.dep (h x hx))
  | n + 1, .lst _ xs, h => by
    unfold okE at h; simp only [D.pd, PyData.depth]
    exact Nat.succ_le_succ (depAll fun x hx => okE.dep (h x hx))
  | 0, .scr _, h => by unfold okE at h; exact h.elim
  | 0, .dic _ _, h => by unfold okE at h; exact h.elim
  | 0, .odc _ _, h => by unfold okE at h; exact h.elim
  | _ + 1, .scr _, h => by unfold okE at h; exact h.elim
  | _ + 1, .dic _ _, h => by unfold okE at h; exact h.elim
  | _ + 1, .odc _ _, h => by unfold okE at h; exact h.elim
theorem okE.refl : ∀ {n : Nat} {y : D}, okE n y → PyData.eqv y.pd y.pd = true
  | _, .non, _ => by simp [D.pd, PyData.eqv]
  | _, .bl _, _ => by simp [D.pd, PyData.eqv]
  | _, .int _, _ => by simp [D.pd, PyData.eqv]
  | _, .str _, _ => by simp [D.pd, PyData.eqv]
  | 0, .tup _, h => by unfold okE at h; exact h.elim
  | 0, .lst _ _, h => by unfold okE at h; exact h.elim
  | n + 1, .tup xs, h => by
    unfold okE at h; simp only [D.pd, PyData.eqv]
    exact eqvAll_refl fun x hx => okE.refl (h x hx)
  | n + 1, .lst _ xs, h => by
    unfold okE at h; simp only [D.pd, PyData.eqv]
    exact eqvAll_refl fun x hx => okE.refl (h x hx)
  | 0, .scr _, h => by unfold okE at h; exact h.elim
  | 0, .dic _ _, h => by unfold okE at h; exact h.elim
  | 0, .odc _ _, h => by unfold okE at h; exact h.elim
  | _ + 1, .scr _, h => by unfold okE at h; exact h.elim
  | _ + 1, .dic _ _, h => by unfold okE at h; exact h.elim
  | _ + 1, .odc _ _, h => by unfold okE at h; exact h.elim
theorem eqOk_of {n m : Nat} {x y : D} (hx : okE n x) (hy : okE m y) (h : n ≤ 64) : D.eqOk x y := ⟨hx.lay, hy.lay, by have := hx.dep; omega⟩
theorem eqv_refl {n : Nat} {x : D} (h : okE n x) : D.eqv x x = true := h.refl
end Bx
namespace Bx
open PySem L2
def wSame2 (C : PSpec) : DS :=
  (dSeq (dIfS (tVal (dIsi "tuple" (oVar 1)))
    (dSeq (dIfS (tOr (tNot (tVal (dIsi "tuple" (oVar 0)))) (tVal (dBin gNe (oVal (dCB gLen (aCons (oVar 0) aNil))) (oVal (dCB gLen (aCons (oVar 1) aNil))))))
    (dRet (dC (.bl false)))
    dNext)
    (dRet (dCB gAll (aCons (oVal (dComp (iZX (aCons (oVar 0) (aCons (oVar 1) aNil))) [2, 3] (gT (gsCons (gN 2) (gsCons (gN 3) gsNil)) 2) tAll (dCall C (aCons (oVar 2) (aCons (oVar 3) aNil))))) aNil))))
    dNext)
    (dSeq (dIfS (tVal (dBin gIsN (oVar 1) (oVal (dC .non))))
    (dRet (dBin gIsN (oVar 0) (oVal (dC .non))))
    dNext)
    (dSeq (dIfS (tOr (tVal (dIsi "bool" (oVar 1))) (tVal (dIsi "bool" (oVar 0))))
    (dRet (dAnd (dIsi "bool" (oVar 1)) (dAnd (dIsi "bool" (oVar 0)) (dBin gEq (oVar 0) (oVar 1)))))
    dNext)
    (dSeq (dIfS (tVal (dIsi "str" (oVar 1)))
    (dRet (dAnd (dIsi "str" (oVar 0)) (dBin gEq (oVar 0) (oVar 1))))
    dNext)
    (dRet (dAnd (dIsi "int" (oVar 0)) (dBin gEq (oVar 0) (oVar 1))))))))
theorem imp_same2 (n : Nat) : ∀ ds Q, sSame (n + 1) ds Q → bodyW [] 4 2 (wSame2 (sSame n)) ds Q := by
  rintro ds Q ⟨y, rfl, hy, q⟩
  refine ⟨rfl, ?_⟩
  have eq (i : Int) : (i == i) = true := by simp
  cases y with
  | int i =>
    simp only [wSame2, Bx.go]
    exact ⟨eqOk_int _ _, by simp only [eqv_int, eq, Bx.go]; exact q⟩
  | non =>
    simp only [wSame2, Bx.go]
    exact q
  | bl b =>
    simp only [wSame2, Bx.go]
    exact ⟨eqOk_bl _ _, by simp only [eqv_bl, beq_self_eq_true, Bx.go]; exact q⟩
  | str z =>
    simp only [wSame2, Bx.go]
    exact ⟨eqOk_str hy hy, by simp only [eqv_str, beq_self_eq_true, Bx.go]; exact q⟩
  | tup xs =>
    simp only [wSame2, Bx.go]
    refine ⟨eqOk_int _ _, ?_⟩
    simp only [eqv_int, eq, Bx.go]
    refine ⟨Nat.le_trans zipD_len' hy.1, ?_⟩
    refine comp_rule (fun items acc ρ => ρ = [some (.tup xs), some (.tup xs), none, none] ∧ (∃ r, items = zipD r r ∧ ∀ x ∈ r, x ∈ xs) ∧ ∃ k, acc = List.replicate k (.bl true)) ⟨rfl, ⟨xs, rfl, fun _ h => h⟩, 0, rfl⟩ ?_ ?_
    · rintro acc ρ ⟨rfl, _, k, rfl⟩
      simp only [bls_true, Bx.go]
      rw [show (List.replicate k true).all id = true by simp]
      exact q
    · rintro x r acc ρ N ⟨rfl, ⟨l, hl, hm⟩, k, rfl⟩ hN
      obtain ⟨a, b, as, bs, e1, e2, rfl, rfl⟩ := zip_same hl.symm
      subst e1
      cases e2
      have ha := hy.2 a (hm a List.mem_cons_self)
      obtain ⟨m, rfl⟩ : ∃ m, n = m + 1 := by
        cases n with
        | zero => exact ha.elim
        | succ m => exact ⟨m, rfl⟩
      have hf := ha.frz
      simp only [hf, Bx.go]
      refine ⟨a, rfl, ha, ?_⟩
      simp only [hf, Bx.go]
      refine hN _ _ ⟨rfl, ⟨as, rfl, fun x hx => hm x (List.mem_cons_of_mem _ hx)⟩, k + 1, ?_⟩
      rw [List.replicate_succ']
  | lst o xs => exact hy.elim
  | scr xs => exact hy.elim
  | dic ks xs => exact hy.elim
  | odc ks xs => exact hy.elim
end Bx
namespace Bx
open PySem L2
theorem at0 {x : D} {xs : List D} : atI (x :: xs) 0 = some x := by
  rw [atI_nat' (by decide)]; rfl
theorem ixN_nat {n : Nat} {r : Int} (h0 : 0 ≤ r) (h1 : r < n) : ixN n r = some r.toNat := by
  unfold ixN
  rw [if_pos h0, if_pos h1]
end Bx
/-! rules for loops and comprehensions over mapped lists -/
namespace Bx
open PySem L2
theorem zipD_map {α β : Type} (f : α → D) (g : β → D) : ∀ (xs : List α) (ys : List β), zipD (xs.map f) (ys.map g) = (xs.zip ys).map fun p => .tup [f p.1, g p.2]
  | [], _ => by simp [zipD]
  | _ :: _, [] => by simp [zipD]
  | x :: xs, y :: ys => by simp only [List.map_cons, zipD, List.zip_cons_cons, zipD_map f g xs ys]
theorem enumD_zip {α : Type} (f : α → D) : ∀ (n : Nat) (xs : List α), enumD n (xs.map f) = (xs.zipIdx n).map fun p => .tup [.int (p.2 : Nat), f p.1]
  | _, [] => by simp [enumD]
  | n, x :: xs => by simp only [List.map_cons, enumD, List.zipIdx_cons, enumD_zip f (n + 1) xs]
theorem rangeD_map (lo : Int) (n : Nat) : rangeD lo n = (List.range n).map fun i => D.int (lo + (i : Nat)) := rfl
/-- a loop over a mapped list: what holds behind each part -/
theorem for_each {α : Type} {g : DG} {b : DS} {E : DEnds} (xs : List α) (f : α → D) (I : List α → Rho → Prop) {ρ : Rho} (h0 : I [] ρ)
    (hs : ∀ dn x r ρ (N : Rho → Prop), xs = dn ++ x :: r → I dn ρ → (∀ ρ', I (dn ++ [x]) ρ' → N ρ') → g (f x) (kForB b E N) ρ) (hn : ∀ ρ, I xs ρ → E.nx ρ) : forGo g b E (xs.map f) ρ := by
  refine for_rule (fun items ρ => ∃ dn r, xs = dn ++ r ∧ items = r.map f ∧ I dn ρ) ⟨[], xs, rfl, rfl, h0⟩ ?_ ?_
  · rintro ρ ⟨dn, r, e, e2, i⟩
    have er : r = [] := by simpa using e2.symm
    subst er
    rw [List.append_nil] at e
    subst e
    exact hn ρ i
  · rintro x it ρ N ⟨dn, r, e, e2, i⟩ hN
    cases r with
    | nil => simp at e2
    | cons y r =>
    simp only [List.map_cons, List.cons.injEq] at e2
    obtain ⟨rfl, rfl⟩ := e2
    exact hs dn y r ρ N e i fun ρ' i' => hN ρ' ⟨dn ++ [y], r, by simp [e], rfl, i'⟩
/-- a comprehension over a mapped list -/
theorem co_each {α : Type} {vs : List Nat} {tg : DG} {cond : DT} {elt : DE} {ρ1 : Rho} {k : D → Rho → Prop} (xs : List α) (f : α → D) (I : List α → List D → Rho → Prop) {ρ : Rho} (h0 : I [] [] ρ)
    (hs : ∀ dn x r acc ρ (N : List D → Rho → Prop), xs = dn ++ x :: r → I dn acc ρ → (∀ acc' ρ', I (dn ++ [x]) acc' ρ' → N acc' ρ') → tg (f x) (kCo1 vs cond elt N acc) ρ)
    (hn : ∀ acc ρ, I xs acc ρ → k (.lst true acc) (backR ρ1 ρ vs)) : coGo vs tg cond elt ρ1 k (xs.map f) [] ρ := by
  refine comp_rule (fun items acc ρ => ∃ dn r, xs = dn ++ r ∧ items = r.map f ∧ I dn acc ρ) ⟨[], xs, rfl, rfl, h0⟩ ?_ ?_
  · rintro acc ρ ⟨dn, r, e, e2, i⟩
    have er : r = [] := by simpa using e2.symm
    subst er
    rw [List.append_nil] at e
    subst e
    exact hn acc ρ i
  · rintro x it acc ρ N ⟨dn, r, e, e2, i⟩ hN
    cases r with
    | nil => simp at e2
    | cons y r =>
    simp only [List.map_cons, List.cons.injEq] at e2
    obtain ⟨rfl, rfl⟩ := e2
    exact hs dn y r acc ρ N e i fun acc' ρ' i' => hN acc' ρ' ⟨dn ++ [y], r, by simp [e], rfl, i'⟩
section
variable {α : Type} {vs : List Nat} {tg : DG} {cond : DT} {elt : DE} {ρ1 : Rho} {k : D → Rho → Prop}
/-- a comprehension that leaves the slots: each item adds a few -/
theorem co_sel (xs : List α) (f : α → D) (sel : α → List D) {ρ : Rho} (hs : ∀ x ∈ xs, ∀ acc (N : List D → Rho → Prop), N (acc ++ sel x) ρ → tg (f x) (kCo1 vs cond elt N acc) ρ)
    (hk : k (.lst true (xs.flatMap sel)) (backR ρ1 ρ vs)) : coGo vs tg cond elt ρ1 k (xs.map f) [] ρ := by
  refine co_each xs f (fun dn acc ρ' => ρ' = ρ ∧ acc = dn.flatMap sel) ⟨rfl, rfl⟩ ?_ ?_
  · rintro dn x r acc ρ' N e ⟨rfl, rfl⟩ hN
    exact hs x (by rw [e]; simp) _ _ (hN _ _ ⟨rfl, by simp⟩)
  · rintro acc ρ' ⟨rfl, rfl⟩
    exact hk
/-- a comprehension that leaves the slots: each item gives one -/
theorem co_map (xs : List α) (f : α → D) (g : α → D) {ρ : Rho} (hs : ∀ x ∈ xs, ∀ acc (N : List D → Rho → Prop), N (acc ++ [g x]) ρ → tg (f x) (kCo1 vs cond elt N acc) ρ)
    (hk : k (.lst true (xs.map g)) (backR ρ1 ρ vs)) : coGo vs tg cond elt ρ1 k (xs.map f) [] ρ := by
  refine co_sel xs f (fun x => [g x]) hs ?_
  rw [show xs.flatMap (fun x => [g x]) = xs.map g by
    clear hs hk
    induction xs with
    | nil => rfl
    | cons x r ih => simp [ih]]
  exact hk
/-- a comprehension that leaves the slots: some of the items -/
theorem co_filter (xs : List α) (f : α → D) (p : α → Bool) {ρ : Rho} (hs : ∀ x ∈ xs, ∀ acc (N : List D → Rho → Prop), N (if p x then acc ++ [f x] else acc) ρ → tg (f x) (kCo1 vs cond elt N acc) ρ)
    (hk : k (.lst true ((xs.filter p).map f)) (backR ρ1 ρ vs)) : coGo vs tg cond elt ρ1 k (xs.map f) [] ρ := by
  refine co_sel xs f (fun x => if p x then [f x] else []) (fun x hx acc N h => hs x hx acc N ?_) ?_
  · cases hp : p x <;> simp [hp] at h ⊢ <;> exact h
  rw [show xs.flatMap (fun x => if p x then [f x] else []) = (xs.filter p).map f by
    clear hs hk
    induction xs with
    | nil => rfl
    | cons x r ih => cases hp : p x <;> simp [hp, ih]]
  exact hk
end
theorem rangeD_ints (lo : Int) (n : Nat) : rangeD lo n = ((List.range n).map fun i : Nat => lo + (i : Int)).map D.int := by rw [List.map_map]; rfl
theorem rangeD_nat (n : Nat) : rangeD 0 n = (List.range n).map fun i : Nat => D.int (i : Int) := by unfold rangeD; exact List.map_congr_left fun i _ => by rw [Int.zero_add]
theorem flat_len {α β : Type} {f : α → List β} {k : Nat} : ∀ {l : List α}, (∀ x ∈ l, (f x).length = k) → (l.flatMap f).length = k * l.length
  | [], _ => by simp
  | x :: l, h => by
    rw [List.flatMap_cons, List.length_append, h x List.mem_cons_self, flat_len fun y hy => h y (List.mem_cons_of_mem _ hy), List.length_cons, Nat.mul_succ]
    omega
end Bx
/-! boxes: what many laws share -/
namespace Zb
open PySem PySem.Spec PyProof.Rows L2 Bx
abbrev Eg := Option (Int × Bool)
def eD : Eg → D
  | none => .non
  | some (n, b) => .tup [.int n, .bl b]
def sD (s : Eg × Eg) : D := .tup [eD s.1, eD s.2]
def fl : Eg → Int → Bool
  | none, _ => true
  | some (x, b), n => decide (x < n) || ((n == x) && b)
def fh : Eg → Int → Bool
  | none, _ => true
  | some (x, b), n => decide (n < x) || ((n == x) && b)
def fitB : List (Eg × Eg) → List Int → Bool
  | s :: r, n :: ns => (fl s.1 n && fh s.2 n) && fitB r ns
  | _, _ => true
def C_fits_low : PSpec := fun ds Q => ∃ (e : Eg) (n : Int), ds = [eD e, .int n] ∧ Q (.bl (fl e n)) []
def C_fits_high : PSpec := fun ds Q => ∃ (e : Eg) (n : Int), ds = [eD e, .int n] ∧ Q (.bl (fh e n)) []
def C_fits_span : PSpec := fun ds Q => ∃ (s : Eg × Eg) (n : Int), ds = [sD s, .int n] ∧ Q (.bl (fl s.1 n && fh s.2 n)) []
def C_fits : PSpec := fun ds Q => ∃ (b : List (Eg × Eg)) (p : List Int), ds = [.tup (b.map sD), .tup (p.map .int)] ∧ b.length ≤ 1000 ∧ Q (.bl (fitB b p)) []
def C__law_hand : PSpec := sHand
def C__law_take : PSpec := sTake
def C__law_pool : PSpec := fun ds Q => ∃ (h : List D) (n : Nat), ds = [.lst true h] ∧ hnd n h ∧ n ≤ 10 ^ 14 ∧ ∀ (l : List Int) (h' : List D), l ≠ [] → l.length ≤ 9 → hnd (n + 3) h' → Q (.lst true (l.map .int)) [.lst true h']
def C__law_end : PSpec := fun ds Q => ∃ (h : List D) (n : Nat) (l : List Int), ds = [.lst true h, .lst false (l.map .int)] ∧ hnd n h ∧ n ≤ 10 ^ 14 ∧ l ≠ [] ∧ l.length ≤ 9 ∧ ∀ (e : Eg) (h' : List D), hnd (n + 4) h' → Q (eD e) [.lst true h']
def C__law_span : PSpec := fun ds Q => ∃ (h : List D) (n : Nat) (l : List Int), ds = [.lst true h, .lst false (l.map .int)] ∧ hnd n h ∧ n ≤ 10 ^ 13 ∧ l ≠ [] ∧ l.length ≤ 9 ∧ ∀ (s : Eg × Eg) (h' : List D), hnd (n + 9) h' → Q (sD s) [.lst true h']
def poolD (l : List Int) : D := .lst false (l.map .int)
def Pools (ps : List (List Int)) : Prop := ∀ l ∈ ps, l ≠ [] ∧ l.length ≤ 9
def C__law_box : PSpec := fun ds Q => ∃ (h : List D) (n : Nat) (ps : List (List Int)), ds = [.lst true h, .lst false (ps.map poolD)] ∧ hnd n h ∧ n ≤ 10 ^ 12 ∧ Pools ps ∧ ps.length ≤ 4 ∧ ∀ (b : List (Eg × Eg)) (h' : List D), b.length = ps.length → hnd (n + 36) h' → Q (.tup (b.map sD)) [.lst true h']
abbrev Pr := Option Int × Option Int
def oD : Option Int → D
  | none => .non
  | some i => .int i
def pD (p : Pr) : D := .tup [oD p.1, oD p.2]
def pl (s : Eg × Eg) : Pr := (match s.1 with | none => none | some (x, b) => some (x + if b then 0 else 1), match s.2 with | none => none | some (x, b) => some (x - if b then 0 else 1))
def cr : Pr → Bool
  | (some a, some b) => decide (b < a)
  | _ => false
def plainOf (ps : List Pr) : List Pr := if ps.any cr then ps.map fun _ => (some 1, some 0) else ps
def C_plain_span : PSpec := fun ds Q => ∃ s : Eg × Eg, ds = [sD s] ∧ Q (pD (pl s)) []
def C_is_crossed : PSpec := fun ds Q => ∃ p : Pr, ds = [pD p] ∧ Q (.bl (cr p)) []
def C_plain_of : PSpec := fun ds Q => ∃ ps : List Pr, (ds = [.lst false (ps.map pD)] ∨ ds = [.tup (ps.map pD)]) ∧ ps.length ≤ 1000 ∧ Q (.tup ((plainOf ps).map pD)) []
def C_plain_box : PSpec := fun ds Q => ∃ b : List (Eg × Eg), ds = [.tup (b.map sD)] ∧ b.length ≤ 1000 ∧ Q (.tup ((plainOf (b.map pl)).map pD)) []
def sh : Option Int → Eg
  | none => none
  | some n => some (n, true)
def boxOf (ps : List Pr) : List (Eg × Eg) := ps.map fun p => (sh p.1, sh p.2)
def gr : Option Int → Option Int → Option Int
  | none, b => b
  | some a, none => some a
  | some a, some b => some (if a < b then b else a)
def le : Option Int → Option Int → Option Int
  | none, b => b
  | some a, none => some a
  | some a, some b => some (if b < a then b else a)
def cm (p q : Pr) : Pr := (gr p.1 q.1, le p.2 q.2)
def com (ps qs : List Pr) : List Pr := plainOf (List.zipWith cm ps qs)
def C_shut_end : PSpec := fun ds Q => ∃ a : Option Int, ds = [oD a] ∧ Q (eD (sh a)) []
def C_box_of : PSpec := fun ds Q => ∃ ps : List Pr, ds = [.tup (ps.map pD)] ∧ ps.length ≤ 1000 ∧ Q (.tup ((boxOf ps).map sD)) []
def C_greater_of : PSpec := fun ds Q => ∃ a b : Option Int, ds = [oD a, oD b] ∧ Q (oD (gr a b)) []
def C_lesser_of : PSpec := fun ds Q => ∃ a b : Option Int, ds = [oD a, oD b] ∧ Q (oD (le a b)) []
def C_common : PSpec := fun ds Q => ∃ ps qs : List Pr, ds = [.tup (ps.map pD), .tup (qs.map pD)] ∧ ps.length ≤ 1000 ∧ Q (.tup ((com ps qs).map pD)) []
def C_lies_within : PSpec := fun ds Q => ∃ ps qs : List Pr, ds = [.tup (ps.map pD), .tup (qs.map pD)] ∧ ps.length ≤ 1000 ∧ Q (.bl (decide (com ps qs = ps))) []
def C_lie_apart : PSpec := fun ds Q => ∃ ps qs : List Pr, ds = [.tup (ps.map pD), .tup (qs.map pD)] ∧ ps.length ≤ 1000 ∧ Q (.bl (decide (com ps qs = ps.map fun _ => (some 1, some 0)))) []
def plc (l : List Int) : D := .tup (l.map .int)
/-- bs are the bounds of the columns of ls -/
def Bnd (ls : List (List Int)) (d : Nat) (bs : List Pr) : Prop := bs.length = d ∧ ∀ i, i < d → ∃ m M : Int, bs[i]? = some (some m, some M) ∧ m ∈ ls.map (·.getD i 0) ∧ M ∈ ls.map (·.getD i 0) ∧ ∀ y ∈ ls.map (·.getD i 0), m ≤ y ∧ y ≤ M
def C_bounds : PSpec := fun ds Q => ∃ (ls : List (List Int)) (d : Nat), ds = [.tup (ls.map plc)] ∧ ls ≠ [] ∧ ls.length ≤ 1000 ∧ d ≤ 1000 ∧ (∀ l ∈ ls, l.length = d) ∧ ∀ bs, Bnd ls d bs → Q (.tup (bs.map pD)) []
abbrev c_EMPTY : D := .tup [.int 1, .int 0]
def isW : D → Bool
  | .int _ => true
  | _ => false
def pnum (d : D) : Bool := d.isNon || isW d
def isPair : D → Bool
  | .tup [a, b] => pnum a && pnum b
  | _ => false
def C_is_whole : PSpec := fun ds Q => ∃ d : D, ds = [d] ∧ Q (.bl (isW d)) []
def C_is_pair : PSpec := fun ds Q => ∃ d : D, ds = [d] ∧ Q (.bl (isPair d)) []
def C_is_plain : PSpec := fun ds Q => ∃ (ps : List Pr), ds = [.tup (ps.map pD), .int ps.length] ∧ ps.length ≤ 1000 ∧ Q (.bl (decide (plainOf ps = ps))) []

def w_fits_low : DS :=
  (dRet (dOr (dBin gIsN (oVar 0) (oVal (dC .non))) (dOr (dBin gGt (oVar 1) (oVal (dBin gIx (oVar 0) (oVal (dC (.int 0)))))) (dAnd (dBin gEq (oVar 1) (oVal (dBin gIx (oVar 0) (oVal (dC (.int 0)))))) (dBin gIx (oVar 0) (oVal (dC (.int 1))))))))
abbrev B_fits_low : PSpec := bodyW [] 2 2 w_fits_low

def w_fits_high : DS :=
  (dRet (dOr (dBin gIsN (oVar 0) (oVal (dC .non))) (dOr (dBin gLt (oVar 1) (oVal (dBin gIx (oVar 0) (oVal (dC (.int 0)))))) (dAnd (dBin gEq (oVar 1) (oVal (dBin gIx (oVar 0) (oVal (dC (.int 0)))))) (dBin gIx (oVar 0) (oVal (dC (.int 1))))))))
abbrev B_fits_high : PSpec := bodyW [] 2 2 w_fits_high

def w_fits_span : DS :=
  (dRet (dAnd (dCall C_fits_low (aCons (oVal (dBin gIx (oVar 0) (oVal (dC (.int 0))))) (aCons (oVar 1) aNil))) (dCall C_fits_high (aCons (oVal (dBin gIx (oVar 0) (oVal (dC (.int 1))))) (aCons (oVar 1) aNil)))))
abbrev B_fits_span : PSpec := bodyW [] 2 2 w_fits_span

def w_fits : DS :=
  (dRet (dCB gAll (aCons (oVal (dComp (iZX (aCons (oVar 0) (aCons (oVar 1) aNil))) [2, 3] (gT (gsCons (gN 2) (gsCons (gN 3) gsNil)) 2) tAll (dCall C_fits_span (aCons (oVar 2) (aCons (oVar 3) aNil))))) aNil)))
abbrev B_fits : PSpec := bodyW [] 4 2 w_fits

def w__law_hand : DS :=
  (dSeq (dAsg 1 (dLst (aCons (oVal (dC (.int 0))) (aCons (oVal (dC (.int 0))) (aCons (oVal (dC (.int 0))) aNil)))))
    (dSeq (dIfS (tAnd (tVal (dBin gGt (oVal (dCB gLen (aCons (oVar 0) aNil))) (oVal (dC (.int 0))))) (tVal (dBin gGe (oVal (dBin gIx (oVar 0) (oVal (dC (.int 0))))) (oVal (dBin gPow (oVal (dC (.int 10))) (oVal (dC (.int 18))))))))
    (dSeq (dAsg 4 (dC (.int 1)))
    (dFor (iOf (dSl (oVar 0) pNo (pInt (dC (.int 63))))) (gN 3)
    (dSeq (dSub 1 (dBin gAdd (oVal (dBin gIx (oVar 1) (oVal (dC (.int 0))))) (oVal (dBin gMul2 (oVal (dBin gMod (oVal (dCB gAbs (aCons (oVar 3) aNil))) (oVal (dBin gPow (oVal (dC (.int 10))) (oVal (dC (.int 60))))))) (oVar 4)))) (oVal (dC (.int 0))))
    (dAsg 4 (dBin gMul2 (oVar 4) (oVal (dBin gPow (oVal (dC (.int 10))) (oVal (dC (.int 60))))))))))
    dNext)
    (dSeq (dFor (iE (aCons (oVal (dSl (oVar 0) pNo (pInt (dC (.int 63))))) aNil)) (gT (gsCons (gN 2) (gsCons (gN 3) gsNil)) 2)
    (dSeq (dAsg 5 (dBin gAdd (oVal (dBin gAdd (oVal (dBin gMod (oVar 3) (oVal (dC (.int 2305843009213693951))))) (oVal (dBin gMul2 (oVal (dC (.int 7919))) (oVar 2))))) (oVal (dC (.int 3)))))
    (dSub 1 (dBin gMod (oVal (dBin gAdd (oVal (dBin gMul2 (oVal (dBin gIx (oVar 1) (oVal (dC (.int 1))))) (oVal (dC (.int 48271))))) (oVar 5))) (oVal (dC (.int 2305843009213693951)))) (oVal (dC (.int 1))))))
    (dRetV 1))))
abbrev B__law_hand : PSpec := bodyW [] 6 1 w__law_hand

def w__law_take : DS :=
  (dSeq (dIfS (tVal (dBin gGt (oVal (dBin gIx (oVar 0) (oVal (dC (.int 0))))) (oVal (dC (.int 0)))))
    (dSeq (dAsg 3 (dBin gMod (oVal (dBin gIx (oVar 0) (oVal (dC (.int 0))))) (oVar 1)))
    (dSeq (dSub 0 (dBin gDiv (oVal (dBin gIx (oVar 0) (oVal (dC (.int 0))))) (oVar 1)) (oVal (dC (.int 0))))
    (dRetV 3)))
    dNext)
    (dSeq (dSub 0 (dBin gAdd (oVal (dBin gIx (oVar 0) (oVal (dC (.int 2))))) (oVal (dC (.int 1)))) (oVal (dC (.int 2))))
    (dSeq (dAsg 2 (dBin gMod (oVal (dBin gMul2 (oVal (dBin gAdd (oVal (dBin gAdd (oVal (dBin gIx (oVar 0) (oVal (dC (.int 1))))) (oVal (dBin gMul2 (oVal (dBin gMul2 (oVal (dC (.int 65537))) (oVal (dBin gIx (oVar 0) (oVal (dC (.int 2))))))) (oVal (dBin gIx (oVar 0) (oVal (dC (.int 2))))))))) (oVal (dC (.int 11))))) (oVal (dC (.int 48271))))) (oVal (dC (.int 2305843009213693921)))))
    (dSeq (dAsg 2 (dBin gMod (oVal (dBin gMul2 (oVar 2) (oVal (dBin gAdd (oVal (dBin gMod (oVar 2) (oVal (dC (.int 1000003))))) (oVal (dBin gMul2 (oVal (dC (.int 99991))) (oVal (dBin gIx (oVar 0) (oVal (dC (.int 2))))))))))) (oVal (dC (.int 2305843009213693907)))))
    (dRet (dBin gMod (oVal (dBin gAdd (oVal (dBin gDiv (oVar 2) (oVal (dC (.int 97))))) (oVal (dBin gDiv (oVar 2) (oVal (dC (.int 1000033))))))) (oVar 1)))))))
abbrev B__law_take : PSpec := bodyW [0] 4 2 w__law_take

def w__law_pool : DS :=
  (dSeq (dAsg 1 (dBin gIx (oVal (dLst (aCons (oVal (dC (.int 0))) (aCons (oVal (dUn gNeg (oVal (dC (.int 3))))) (aCons (oVal (dBin gPow (oVal (dC (.int 10))) (oVal (dC (.int 6))))) (aCons (oVal (dUn gNeg (oVal (dBin gPow (oVal (dC (.int 10))) (oVal (dC (.int 17))))))) (aCons (oVal (dBin gMul2 (oVal (dC (.int 9))) (oVal (dBin gPow (oVal (dC (.int 10))) (oVal (dC (.int 17))))))) (aCons (oVal (dBin gSub (oVal (dC (.int 1))) (oVal (dBin gPow (oVal (dC (.int 10))) (oVal (dC (.int 17))))))) aNil)))))))) (oVal (dCallIO 0 0 C__law_take (aCons (oVar 0) (aCons (oVal (dC (.int 6))) aNil))))))
    (dSeq (dAsg 2 (dBin gIx (oVal (dLst (aCons (oVal (dC (.int 1))) (aCons (oVal (dC (.int 1))) (aCons (oVal (dC (.int 2))) (aCons (oVal (dC (.int 7))) aNil)))))) (oVal (dCallIO 0 0 C__law_take (aCons (oVar 0) (aCons (oVal (dC (.int 4))) aNil))))))
    (dRet (dComp (iR gR1 (aCons (oVal (dBin gIx (oVal (dLst (aCons (oVal (dC (.int 1))) (aCons (oVal (dC (.int 2))) (aCons (oVal (dC (.int 4))) (aCons (oVal (dC (.int 9))) aNil)))))) (oVal (dCallIO 0 0 C__law_take (aCons (oVar 0) (aCons (oVal (dC (.int 4))) aNil)))))) aNil)) [3] (gN 3) tAll (dBin gAdd (oVar 1) (oVal (dBin gMul2 (oVar 2) (oVar 3))))))))
abbrev B__law_pool : PSpec := bodyW [0] 4 1 w__law_pool

def w__law_end : DS :=
  (dSeq (dAsg 2 (dBin gAdd (oVal (dBin gIx (oVar 1) (oVal (dCallIO 0 0 C__law_take (aCons (oVar 0) (aCons (oVal (dCB gLen (aCons (oVar 1) aNil))) aNil)))))) (oVal (dBin gIx (oVal (dLst (aCons (oVal (dC (.int 0))) (aCons (oVal (dC (.int 0))) (aCons (oVal (dC (.int 1))) (aCons (oVal (dUn gNeg (oVal (dC (.int 1))))) (aCons (oVal (dC (.int 0))) (aCons (oVal (dC (.int 3))) aNil)))))))) (oVal (dCallIO 0 0 C__law_take (aCons (oVar 0) (aCons (oVal (dC (.int 6))) aNil))))))))
    (dRet (dBin gIx (oVal (dLst (aCons (oVal (dTup (aCons (oVar 2) (aCons (oVal (dBin gEq (oVal (dCallIO 0 0 C__law_take (aCons (oVar 0) (aCons (oVal (dC (.int 2))) aNil)))) (oVal (dC (.int 0))))) aNil)))) (aCons (oVal (dC .non)) aNil)))) (oVal (dCB gInt (aCons (oVal (dBin gEq (oVal (dCallIO 0 0 C__law_take (aCons (oVar 0) (aCons (oVal (dC (.int 5))) aNil)))) (oVal (dC (.int 0))))) aNil))))))
abbrev B__law_end : PSpec := bodyW [0] 3 2 w__law_end

def w__law_span : DS :=
  (dSeq (dPar2 2 3 (dCallIO 0 0 C__law_end (aCons (oVar 0) (aCons (oVar 1) aNil))) (dCallIO 0 0 C__law_end (aCons (oVar 0) (aCons (oVar 1) aNil))))
    (dSeq (dIfS (tAnd (tVal (dBin gNotN (oVar 2) (oVal (dC .non)))) (tAnd (tVal (dBin gNotN (oVar 3) (oVal (dC .non)))) (tAnd (tVal (dBin gGt (oVal (dBin gIx (oVar 2) (oVal (dC (.int 0))))) (oVal (dBin gIx (oVar 3) (oVal (dC (.int 0))))))) (tVal (dBin gGt (oVal (dCallIO 0 0 C__law_take (aCons (oVar 0) (aCons (oVal (dC (.int 6))) aNil)))) (oVal (dC (.int 0))))))))
    (dRet (dTup (aCons (oVar 3) (aCons (oVar 2) aNil))))
    dNext)
    (dRet (dTup (aCons (oVar 2) (aCons (oVar 3) aNil))))))
abbrev B__law_span : PSpec := bodyW [0] 4 2 w__law_span

def w__law_box : DS :=
  (dRet (dCB gTuple (aCons (oVal (dComp (iOf (dVar 1)) [2] (gN 2) tAll (dCallIO 0 0 C__law_span (aCons (oVar 0) (aCons (oVar 2) aNil))))) aNil)))
abbrev B__law_box : PSpec := bodyW [0] 3 2 w__law_box

def w_plain_span : DS :=
  (dSeq (dAsgG (gT (gsCons (gN 1) (gsCons (gN 2) gsNil)) 2) (dVar 0))
    (dSeq (dAsgG (gT (gsCons (gN 3) (gsCons (gN 4) gsNil)) 2) (dTup (aCons (oVal (dC .non)) (aCons (oVal (dC .non)) aNil))))
    (dSeq (dIfS (tVal (dBin gNotN (oVar 1) (oVal (dC .non))))
    (dAsg 3 (dBin gAdd (oVal (dBin gIx (oVar 1) (oVal (dC (.int 0))))) (oVal (dCB gInt (aCons (oVal (dNot (dBin gIx (oVar 1) (oVal (dC (.int 1)))))) aNil)))))
    dNext)
    (dSeq (dIfS (tVal (dBin gNotN (oVar 2) (oVal (dC .non))))
    (dAsg 4 (dBin gSub (oVal (dBin gIx (oVar 2) (oVal (dC (.int 0))))) (oVal (dCB gInt (aCons (oVal (dNot (dBin gIx (oVar 2) (oVal (dC (.int 1)))))) aNil)))))
    dNext)
    (dRet (dTup (aCons (oVar 3) (aCons (oVar 4) aNil))))))))
abbrev B_plain_span : PSpec := bodyW [] 5 1 w_plain_span

def w_is_crossed : DS :=
  (dRet (dAnd (dBin gNotN (oVal (dBin gIx (oVar 0) (oVal (dC (.int 0))))) (oVal (dC .non))) (dAnd (dBin gNotN (oVal (dBin gIx (oVar 0) (oVal (dC (.int 1))))) (oVal (dC .non))) (dBin gGt (oVal (dBin gIx (oVar 0) (oVal (dC (.int 0))))) (oVal (dBin gIx (oVar 0) (oVal (dC (.int 1)))))))))
abbrev B_is_crossed : PSpec := bodyW [] 1 1 w_is_crossed

def w_plain_of : DS :=
  (dSeq (dIfS (tVal (dCB gAny (aCons (oVal (dComp (iOf (dVar 0)) [1] (gN 1) tAll (dCall C_is_crossed (aCons (oVar 1) aNil)))) aNil)))
    (dRet (dCB gTuple (aCons (oVal (dComp (iOf (dVar 0)) [1] (gN 1) tAll (dC c_EMPTY))) aNil)))
    dNext)
    (dRet (dCB gTuple (aCons (oVar 0) aNil))))
abbrev B_plain_of : PSpec := bodyW [] 2 1 w_plain_of

def w_plain_box : DS :=
  (dRet (dCall C_plain_of (aCons (oVal (dComp (iOf (dVar 0)) [1] (gN 1) tAll (dCall C_plain_span (aCons (oVar 1) aNil)))) aNil)))
abbrev B_plain_box : PSpec := bodyW [] 2 1 w_plain_box

def w_shut_end : DS :=
  (dSeq (dIfS (tVal (dBin gIsN (oVar 0) (oVal (dC .non))))
    (dRet (dC .non))
    dNext)
    (dRet (dTup (aCons (oVar 0) (aCons (oVal (dC (.bl true))) aNil)))))
abbrev B_shut_end : PSpec := bodyW [] 1 1 w_shut_end

def w_box_of : DS :=
  (dRet (dCB gTuple (aCons (oVal (dComp (iOf (dVar 0)) [1, 2] (gT (gsCons (gN 1) (gsCons (gN 2) gsNil)) 2) tAll (dTup (aCons (oVal (dCall C_shut_end (aCons (oVar 1) aNil))) (aCons (oVal (dCall C_shut_end (aCons (oVar 2) aNil))) aNil))))) aNil)))
abbrev B_box_of : PSpec := bodyW [] 3 1 w_box_of

def w_greater_of : DS :=
  (dSeq (dIfS (tOr (tVal (dBin gIsN (oVar 0) (oVal (dC .non)))) (tAnd (tVal (dBin gNotN (oVar 1) (oVal (dC .non)))) (tVal (dBin gGt (oVar 1) (oVar 0)))))
    (dRet (dVar 1))
    dNext)
    (dRet (dVar 0)))
abbrev B_greater_of : PSpec := bodyW [] 2 2 w_greater_of

def w_lesser_of : DS :=
  (dSeq (dIfS (tOr (tVal (dBin gIsN (oVar 0) (oVal (dC .non)))) (tAnd (tVal (dBin gNotN (oVar 1) (oVal (dC .non)))) (tVal (dBin gLt (oVar 1) (oVar 0)))))
    (dRet (dVar 1))
    dNext)
    (dRet (dVar 0)))
abbrev B_lesser_of : PSpec := bodyW [] 2 2 w_lesser_of

def w_common : DS :=
  (dSeq (dAsg 2 (dLst aNil))
    (dSeq (dFor (iZX (aCons (oVar 0) (aCons (oVar 1) aNil))) (gT (gsCons (gN 3) (gsCons (gN 4) gsNil)) 2)
    (dExp (dApp 2 (dTup (aCons (oVal (dCall C_greater_of (aCons (oVal (dBin gIx (oVar 3) (oVal (dC (.int 0))))) (aCons (oVal (dBin gIx (oVar 4) (oVal (dC (.int 0))))) aNil)))) (aCons (oVal (dCall C_lesser_of (aCons (oVal (dBin gIx (oVar 3) (oVal (dC (.int 1))))) (aCons (oVal (dBin gIx (oVar 4) (oVal (dC (.int 1))))) aNil)))) aNil))))))
    (dRet (dCall C_plain_of (aCons (oVar 2) aNil)))))
abbrev B_common : PSpec := bodyW [] 5 2 w_common

def w_lies_within : DS :=
  (dRet (dBin gEq (oVal (dCall C_common (aCons (oVar 0) (aCons (oVar 1) aNil)))) (oVar 0)))
abbrev B_lies_within : PSpec := bodyW [] 2 2 w_lies_within

def w_lie_apart : DS :=
  (dRet (dBin gEq (oVal (dCall C_common (aCons (oVar 0) (aCons (oVar 1) aNil)))) (oVal (dCB gTuple (aCons (oVal (dComp (iOf (dVar 0)) [2] (gN 2) tAll (dC c_EMPTY))) aNil)))))
abbrev B_lie_apart : PSpec := bodyW [] 3 2 w_lie_apart

def w_bounds : DS :=
  (dSeq (dAsg 1 (dComp (iR gR1 (aCons (oVal (dCB gLen (aCons (oVal (dBin gIx (oVar 0) (oVal (dC (.int 0))))) aNil))) aNil)) [2] (gN 2) tAll (dComp (iOf (dVar 0)) [3] (gN 3) tAll (dBin gIx (oVar 3) (oVar 2)))))
    (dRet (dCB gTuple (aCons (oVal (dComp (iOf (dVar 1)) [4] (gN 4) tAll (dTup (aCons (oVal (dCB gMin (aCons (oVar 4) aNil))) (aCons (oVal (dCB gMax (aCons (oVar 4) aNil))) aNil))))) aNil))))
abbrev B_bounds : PSpec := bodyW [] 5 1 w_bounds

def w_is_whole : DS :=
  (dRet (dAnd (dIsi "int" (oVar 0)) (dNot (dIsi "bool" (oVar 0)))))
abbrev B_is_whole : PSpec := bodyW [] 1 1 w_is_whole

def w_is_pair : DS :=
  (dSeq (dIfS (tOr (tNot (tVal (dIsi "tuple" (oVar 0)))) (tVal (dBin gNe (oVal (dCB gLen (aCons (oVar 0) aNil))) (oVal (dC (.int 2))))))
    (dRet (dC (.bl false)))
    dNext)
    (dRet (dCB gAll (aCons (oVal (dComp (iOf (dVar 0)) [1] (gN 1) tAll (dOr (dBin gIsN (oVar 1) (oVal (dC .non))) (dCall C_is_whole (aCons (oVar 1) aNil))))) aNil))))
abbrev B_is_pair : PSpec := bodyW [] 2 1 w_is_pair

def w_is_plain : DS :=
  (dSeq (dIfS (tOr (tNot (tVal (dIsi "tuple" (oVar 0)))) (tOr (tVal (dBin gNe (oVal (dCB gLen (aCons (oVar 0) aNil))) (oVar 1))) (tNot (tVal (dCB gAll (aCons (oVal (dComp (iOf (dVar 0)) [2] (gN 2) tAll (dCall C_is_pair (aCons (oVar 2) aNil)))) aNil))))))
    (dRet (dC (.bl false)))
    dNext)
    (dRet (dBin gEq (oVal (dCall C_plain_of (aCons (oVar 0) aNil))) (oVar 0))))
abbrev B_is_plain : PSpec := bodyW [] 3 2 w_is_plain

def inP (p : Pr) (n : Int) : Bool := (match p.1 with | none => true | some a => decide (a ≤ n)) && (match p.2 with | none => true | some b => decide (n ≤ b))
def memP : List Pr → List Int → Bool
  | p :: ps, n :: ns => inP p n && memP ps ns
  | _, _ => true
theorem fl_pl (l h : Eg) (n : Int) : fl l n = (match (pl (l, h)).1 with | none => true | some a => decide (a ≤ n)) := by
  cases l with
  | none => rfl
  | some l =>
    obtain ⟨x, b⟩ := l
    cases b
    · simp only [fl, pl, Bool.and_false, Bool.or_false, Bool.false_eq_true, if_false]
      exact decide_eq_decide.mpr (by omega)
    · simp only [fl, pl, Bool.and_true, if_true, Int.add_zero]
      by_cases h1 : x < n
      · rw [decide_eq_true h1, decide_eq_true (by omega)]; rfl
      · by_cases h2 : n = x
        · subst h2; simp
        · rw [decide_eq_false h1, decide_eq_false (by omega)]; simpa using h2
theorem fh_pl (l h : Eg) (n : Int) : fh h n = (match (pl (l, h)).2 with | none => true | some a => decide (n ≤ a)) := by
  cases h with
  | none => rfl
  | some h =>
    obtain ⟨x, b⟩ := h
    cases b
    · simp only [fh, pl, Bool.and_false, Bool.or_false, Bool.false_eq_true, if_false]
      exact decide_eq_decide.mpr (by omega)
    · simp only [fh, pl, Bool.and_true, if_true, Int.sub_zero]
      by_cases h1 : n < x
      · rw [decide_eq_true h1, decide_eq_true (by omega)]; rfl
      · by_cases h2 : n = x
        · subst h2; simp
        · rw [decide_eq_false h1, decide_eq_false (by omega)]; simpa using h2
theorem fit_mem : ∀ (b : List (Eg × Eg)) (p : List Int), fitB b p = memP (b.map pl) p
  | [], _ => rfl
  | _ :: _, [] => rfl
  | (l, h) :: b, n :: p => by
    simp only [fitB, List.map_cons, memP, inP]
    rw [fl_pl l h, fh_pl l h, fit_mem b p]
theorem fit_box : ∀ (ps : List Pr) (p : List Int), fitB (boxOf ps) p = memP ps p := fun ps p => by
  rw [fit_mem]
  congr 1
  unfold boxOf
  rw [List.map_map]
  refine (List.map_congr_left fun q _ => ?_).trans (List.map_id' ps)
  obtain ⟨a, b⟩ := q
  cases a <;> cases b <;> simp [pl, sh]
theorem crossed_none {p : Pr} {n : Int} (h : cr p = true) : inP p n = false := by
  obtain ⟨a, b⟩ := p
  cases a with
  | none => simp [cr] at h
  | some a =>
    cases b with
    | none => simp [cr] at h
    | some b =>
      have h := of_decide_eq_true h
      simp only [inP]
      by_cases h1 : a ≤ n
      · rw [decide_eq_false (show ¬ n ≤ b by omega), Bool.and_false]
      · rw [decide_eq_false h1, Bool.false_and]
theorem mem_crossed : ∀ {ps : List Pr} {p : List Int}, ps.length = p.length → ps.any cr = true → memP ps p = false
  | [], _, _, h => by simp at h
  | q :: ps, [], l, _ => by simp at l
  | q :: ps, n :: p, l, h => by
    simp only [memP]
    cases hc : cr q with
    | true => rw [crossed_none hc, Bool.false_and]
    | false =>
      rw [List.any_cons, hc, Bool.false_or] at h
      rw [mem_crossed (by simpa using l) h, Bool.and_false]
def ept (ps : List Pr) : List Pr := ps.map fun _ => (some 1, some 0)
theorem ept_any {ps : List Pr} (h : ps ≠ []) : (ept ps).any cr = true := by
  cases ps with
  | nil => exact absurd rfl h
  | cons p ps => rfl
theorem plain_len (ps : List Pr) : (plainOf ps).length = ps.length := by unfold plainOf; split <;> simp
theorem mem_plain {ps : List Pr} {p : List Int} (l : ps.length = p.length) : memP (plainOf ps) p = memP ps p := by
  unfold plainOf
  cases h : ps.any cr with
  | false => rfl
  | true =>
    have h0 : ps ≠ [] := fun e => by subst e; simp at h
    rw [mem_crossed l h]
    exact mem_crossed (by simpa using l) (ept_any h0)
theorem in_cm (p q : Pr) (n : Int) : inP (cm p q) n = (inP p n && inP q n) := by
  obtain ⟨a, b⟩ := p
  obtain ⟨c, d⟩ := q
  have h1 : (match gr a c with | none => true | some a => decide (a ≤ n)) = ((match a with | none => true | some a => decide (a ≤ n)) && (match c with | none => true | some a => decide (a ≤ n))) := by
    cases a <;> cases c <;> simp only [gr, Bool.true_and, Bool.and_true]
    rename_i a c
    by_cases h : a < c
    · rw [if_pos h]
      by_cases h2 : c ≤ n
      · rw [decide_eq_true h2, decide_eq_true (show a ≤ n by omega)]; rfl
      · rw [decide_eq_false h2, Bool.and_false]
    · rw [if_neg h]
      by_cases h2 : a ≤ n
      · rw [decide_eq_true h2, decide_eq_true (show c ≤ n by omega)]; rfl
      · rw [decide_eq_false h2, Bool.false_and]
  have h2 : (match le b d with | none => true | some a => decide (n ≤ a)) = ((match b with | none => true | some a => decide (n ≤ a)) && (match d with | none => true | some a => decide (n ≤ a))) := by
    cases b <;> cases d <;> simp only [le, Bool.true_and, Bool.and_true]
    rename_i a c
    by_cases h : c < a
    · rw [if_pos h]
      by_cases h2 : n ≤ c
      · rw [decide_eq_true h2, decide_eq_true (show n ≤ a by omega)]; rfl
      · rw [decide_eq_false h2, Bool.and_false]
    · rw [if_neg h]
      by_cases h2 : n ≤ a
      · rw [decide_eq_true h2, decide_eq_true (show n ≤ c by omega)]; rfl
      · rw [decide_eq_false h2, Bool.false_and]
  simp only [inP, cm]
  rw [h1, h2]
  cases (match a with | none => true | some a => decide (a ≤ n)) <;> cases (match c with | none => true | some a => decide (a ≤ n)) <;> simp
theorem mem_zip : ∀ {ps qs : List Pr} {p : List Int}, ps.length = qs.length → memP (List.zipWith cm ps qs) p = (memP ps p && memP qs p)
  | [], [], _, _ => by simp [memP]
  | [], _ :: _, _, l => by simp at l
  | _ :: _, [], _, l => by simp at l
  | _ :: _, _ :: _, [], _ => by simp [memP]
  | a :: ps, b :: qs, n :: p, l => by
    simp only [List.zipWith_cons_cons, memP]
    rw [in_cm, mem_zip (by simpa using l)]
    cases inP a n <;> cases inP b n <;> cases memP ps p <;> simp
theorem mem_com {ps qs : List Pr} {p : List Int} (l : ps.length = qs.length) (l2 : ps.length = p.length) : memP (com ps qs) p = (memP ps p && memP qs p) := by
  unfold com
  rw [mem_plain (by simp; omega), mem_zip l]
theorem cm_self (p : Pr) : cm p p = p := by
  obtain ⟨a, b⟩ := p
  cases a <;> cases b <;> simp [cm, gr, le]
theorem zip_self : ∀ ps : List Pr, List.zipWith cm ps ps = ps
  | [] => rfl
  | p :: ps => by rw [List.zipWith_cons_cons, cm_self, zip_self ps]
theorem com_self {ps : List Pr} (h : plainOf ps = ps) : com ps ps = ps := by unfold com; rw [zip_self, h]
theorem plain_idem (ps : List Pr) : plainOf (plainOf ps) = plainOf ps := by
  cases h : ps.any cr with
  | false =>
    have e : plainOf ps = ps := by unfold plainOf; rw [h]; rfl
    rw [e, e]
  | true =>
    have e : plainOf ps = ept ps := by unfold plainOf; rw [h]; rfl
    have h0 : ps ≠ [] := fun e => by subst e; simp at h
    rw [e]
    unfold plainOf
    rw [ept_any h0]
    simp [ept]
theorem zip_open : ∀ ps : List Pr, List.zipWith cm ps (List.replicate ps.length (none, none)) = ps
  | [] => rfl
  | (a, b) :: ps => by
    rw [List.length_cons, List.replicate_succ, List.zipWith_cons_cons, zip_open ps]
    cases a <;> cases b <;> rfl
theorem com_open {ps : List Pr} (h : plainOf ps = ps) : com ps (List.replicate ps.length (none, none)) = ps := by unfold com; rw [zip_open, h]
theorem ept_of {α : Type} (xs : List α) (ps : List Pr) (h : xs.length = ps.length) : (xs.map fun _ => ((some 1, some 0) : Pr)) = ept ps := by
  unfold ept
  rw [List.map_const', List.map_const', h]
theorem com_crossed {ps qs : List Pr} (h : (List.zipWith cm ps qs).any cr = true) (l : ps.length = qs.length) : com ps qs = ept ps := by
  unfold com plainOf
  rw [h, if_pos rfl]
  exact ept_of _ _ (by simp; omega)
theorem cr_el (q : Pr) : cr (cm (some 1, some 0) q) = true := by
  obtain ⟨a, b⟩ := q
  cases a <;> cases b <;> simp only [cm, gr, le, cr] <;> refine decide_eq_true ?_
  · decide
  · split <;> omega
  · split <;> omega
  · split <;> split <;> omega
theorem cr_er (q : Pr) : cr (cm q (some 1, some 0)) = true := by
  obtain ⟨a, b⟩ := q
  cases a <;> cases b <;> simp only [cm, gr, le, cr] <;> refine decide_eq_true ?_
  · decide
  · split <;> omega
  · split <;> omega
  · split <;> split <;> omega
theorem com_el {ps qs : List Pr} (l : ps.length = qs.length) : com (ept ps) qs = ept ps := by
  cases ps with
  | nil => rfl
  | cons p ps =>
    cases qs with
    | nil => simp at l
    | cons q qs =>
      rw [com_crossed (by show ((cr (cm (some 1, some 0) q)) || _) = true; rw [cr_el]; rfl) (by simpa [ept] using l)]
      simp [ept]
theorem com_er {ps qs : List Pr} (l : ps.length = qs.length) : com ps (ept qs) = ept ps := by
  cases ps with
  | nil => cases qs <;> rfl
  | cons p ps =>
    cases qs with
    | nil => simp at l
    | cons q qs =>
      rw [com_crossed (by show ((cr (cm p (some 1, some 0))) || _) = true; rw [cr_er]; rfl) (by simpa [ept] using l)]
theorem gr_l (a b : Option Int) : gr (gr a b) a = gr a b := by
  cases a <;> cases b <;> simp only [gr]
  · simp
  · split <;> first | rfl | (split <;> first | rfl | omega)
theorem gr_r (a b : Option Int) : gr (gr a b) b = gr a b := by
  cases a <;> cases b <;> simp only [gr]
  · simp
  · split <;> first | rfl | (split <;> first | rfl | omega)
theorem le_l (a b : Option Int) : le (le a b) a = le a b := by
  cases a <;> cases b <;> simp only [le]
  · simp
  · split <;> first | rfl | (split <;> first | rfl | omega)
theorem le_r (a b : Option Int) : le (le a b) b = le a b := by
  cases a <;> cases b <;> simp only [le]
  · simp
  · split <;> first | rfl | (split <;> first | rfl | omega)
theorem zip_l : ∀ {ps qs : List Pr}, ps.length = qs.length → List.zipWith cm (List.zipWith cm ps qs) ps = List.zipWith cm ps qs ∧ List.zipWith cm (List.zipWith cm ps qs) qs = List.zipWith cm ps qs
  | [], [], _ => ⟨rfl, rfl⟩
  | [], _ :: _, l => by simp at l
  | _ :: _, [], l => by simp at l
  | p :: ps, q :: qs, l => by
    obtain ⟨h1, h2⟩ := zip_l (ps := ps) (qs := qs) (by simpa using l)
    have e1 : cm (cm p q) p = cm p q := by simp only [cm]; rw [gr_l, le_l]
    have e2 : cm (cm p q) q = cm p q := by simp only [cm]; rw [gr_r, le_r]
    exact ⟨by rw [List.zipWith_cons_cons, List.zipWith_cons_cons, e1, h1], by rw [List.zipWith_cons_cons, List.zipWith_cons_cons, e2, h2]⟩
theorem com_within {ps qs : List Pr} (l : ps.length = qs.length) : com (com ps qs) ps = com ps qs ∧ com (com ps qs) qs = com ps qs := by
  cases h : (List.zipWith cm ps qs).any cr with
  | true =>
    rw [com_crossed h l]
    exact ⟨com_el rfl, com_el l⟩
  | false =>
    have e : com ps qs = List.zipWith cm ps qs := by unfold com plainOf; rw [h]; rfl
    have e2 : plainOf (List.zipWith cm ps qs) = List.zipWith cm ps qs := by unfold plainOf; rw [h]; rfl
    rw [e]
    unfold com
    rw [(zip_l l).1, (zip_l l).2]
    exact ⟨e2, e2⟩
def pnt (p : List Int) : List Pr := p.map fun n => (some n, some n)
theorem cm_in {n : Int} {q : Pr} (h : inP q n = true) : cm (some n, some n) q = (some n, some n) := by
  obtain ⟨a, b⟩ := q
  simp only [inP, Bool.and_eq_true] at h
  obtain ⟨h1, h2⟩ := h
  have e1 : gr (some n) a = some n := by
    cases a with
    | none => rfl
    | some a => have := of_decide_eq_true h1; simp only [gr]; rw [if_neg (by omega)]
  have e2 : le (some n) b = some n := by
    cases b with
    | none => rfl
    | some b => have := of_decide_eq_true h2; simp only [le]; rw [if_neg (by omega)]
  simp only [cm]; rw [e1, e2]
theorem cm_out {n : Int} {q : Pr} (h : inP q n = false) : cr (cm (some n, some n) q) = true := by
  obtain ⟨a, b⟩ := q
  cases a <;> cases b <;> simp only [inP, cm, gr, le, cr, Bool.true_and, Bool.and_true, decide_eq_false_iff_not] at h ⊢
  · cases h
  · refine decide_eq_true ?_; split <;> omega
  · refine decide_eq_true ?_; split <;> omega
  · rename_i a b
    refine decide_eq_true ?_
    rw [Bool.and_eq_false_iff] at h
    rcases h with h | h
    · have h := of_decide_eq_false h; split <;> split <;> omega
    · have h := of_decide_eq_false h; split <;> split <;> omega
theorem pnt_zip : ∀ {ps : List Pr} {p : List Int}, ps.length = p.length → (memP ps p = true → List.zipWith cm (pnt p) ps = pnt p) ∧ (memP ps p = false → (List.zipWith cm (pnt p) ps).any cr = true)
  | [], [], _ => ⟨fun _ => rfl, fun h => by simp [memP] at h⟩
  | [], _ :: _, l => by simp at l
  | _ :: _, [], l => by simp at l
  | q :: ps, n :: p, l => by
    obtain ⟨h1, h2⟩ := pnt_zip (ps := ps) (p := p) (by simpa using l)
    refine ⟨fun h => ?_, fun h => ?_⟩
    · simp only [memP, Bool.and_eq_true] at h
      show cm (some n, some n) q :: List.zipWith cm (pnt p) ps = (some n, some n) :: pnt p
      rw [cm_in h.1, h1 h.2]
    · simp only [memP, Bool.and_eq_false_iff] at h
      show (cr (cm (some n, some n) q) || (List.zipWith cm (pnt p) ps).any cr) = true
      rcases h with h | h
      · rw [cm_out h]; rfl
      · rw [h2 h, Bool.or_true]
theorem pnt_flat : ∀ p : List Int, (pnt p).any cr = false
  | [] => rfl
  | n :: p => by
    show (cr (some n, some n) || (pnt p).any cr) = false
    rw [pnt_flat p]
    simp [cr]
theorem pnt_ne {p : List Int} (h : 1 ≤ p.length) : pnt p ≠ ept (pnt p) := by
  cases p with
  | nil => simp at h
  | cons n p => intro e; simp [pnt, ept] at e; omega
theorem com_pnt {ps : List Pr} {p : List Int} (l : ps.length = p.length) (h : 1 ≤ p.length) : decide (com (pnt p) ps = pnt p) = memP ps p ∧ decide (com (pnt p) ps = ept (pnt p)) = !memP ps p := by
  obtain ⟨h1, h2⟩ := pnt_zip l
  cases hm : memP ps p with
  | true =>
    have e : com (pnt p) ps = pnt p := by unfold com plainOf; rw [h1 hm, pnt_flat]; rfl
    rw [e]
    exact ⟨decide_eq_true rfl, decide_eq_false (pnt_ne h)⟩
  | false =>
    have e : com (pnt p) ps = ept (pnt p) := com_crossed (h2 hm) (by simp [pnt]; omega)
    rw [e]
    exact ⟨decide_eq_false fun e => pnt_ne h e.symm, decide_eq_true rfl⟩
theorem mem_get : ∀ {ps : List Pr} {p : List Int} {i : Nat} {q : Pr}, ps.length = p.length → memP ps p = true → ps[i]? = some q → inP q (p.getD i 0) = true
  | [], _, _, _, _, _, h => by simp at h
  | _ :: _, [], _, _, l, _, _ => by simp at l
  | a :: ps, n :: p, 0, q, _, h, e => by
    simp only [memP, Bool.and_eq_true] at h
    simp at e; subst e
    simpa using h.1
  | a :: ps, n :: p, i + 1, q, l, h, e => by
    simp only [memP, Bool.and_eq_true] at h
    have := mem_get (i := i) (by simpa using l) h.2 (by simpa using e)
    simpa using this
theorem com_bnd {ls : List (List Int)} {d : Nat} {bs ps : List Pr} (hb : Bnd ls d bs) (hl : ∀ l ∈ ls, l.length = d) (hp : ps.length = d) (hm : ∀ l ∈ ls, memP ps l = true) : com bs ps = bs := by
  obtain ⟨h0, h1⟩ := hb
  have z : List.zipWith cm bs ps = bs := by
    refine List.ext_getElem? fun i => ?_
    by_cases hi : i < d
    · obtain ⟨m, M, e, m1, m2, m3⟩ := h1 i hi
      obtain ⟨q, eq⟩ : ∃ q, ps[i]? = some q := ⟨ps[i]'(by omega), List.getElem?_eq_getElem (by omega)⟩
      rw [List.getElem?_zipWith, e, eq]
      obtain ⟨l, hl1, rfl⟩ := List.mem_map.mp m1
      obtain ⟨l2, hl2, rfl⟩ := List.mem_map.mp m2
      have i1 := mem_get (by rw [hp, hl l hl1]) (hm l hl1) eq
      have i2 := mem_get (by rw [hp, hl l2 hl2]) (hm l2 hl2) eq
      obtain ⟨a, b⟩ := q
      simp only [inP, Bool.and_eq_true] at i1 i2
      have g1 : gr (some (l.getD i 0)) a = some (l.getD i 0) := by
        cases a with
        | none => rfl
        | some a => have := of_decide_eq_true i1.1; simp only [gr]; rw [if_neg (by omega)]
      have g2 : le (some (l2.getD i 0)) b = some (l2.getD i 0) := by
        cases b with
        | none => rfl
        | some b => have := of_decide_eq_true i2.2; simp only [le]; rw [if_neg (by omega)]
      show some (cm (some (l.getD i 0), some (l2.getD i 0)) (a, b)) = _
      simp only [cm]; rw [g1, g2]
    · rw [List.getElem?_eq_none (by simp; omega), List.getElem?_eq_none (by omega)]
  unfold com plainOf
  rw [z]
  have f : bs.any cr = false := by
    refine List.any_eq_false.mpr fun q hq => ?_
    obtain ⟨i, hi, e⟩ := List.getElem_of_mem hq
    obtain ⟨m, M, e2, m1, m2, m3⟩ := h1 i (by omega)
    rw [List.getElem?_eq_getElem hi, e] at e2
    cases e2
    simp only [cr]
    have := (m3 M m2).1
    simp; omega
  rw [f]; rfl
theorem bnd_one {p : List Int} {bs : List Pr} (hb : Bnd [p] p.length bs) : bs = pnt p := by
  obtain ⟨h0, h1⟩ := hb
  refine List.ext_getElem? fun i => ?_
  by_cases hi : i < p.length
  · obtain ⟨m, M, e, m1, m2, _⟩ := h1 i hi
    simp only [List.map_cons, List.map_nil, List.mem_cons, List.not_mem_nil, or_false] at m1 m2
    rw [e, m1, m2]
    unfold pnt
    rw [List.getElem?_map, List.getElem?_eq_getElem hi, List.getD_eq_getElem?_getD, List.getElem?_eq_getElem hi]; rfl
  · rw [List.getElem?_eq_none (by omega), List.getElem?_eq_none (by simp [pnt]; omega)]

theorem eD_frz (e : Eg) : (eD e).frz = eD e := by
  cases e <;> rfl
theorem imp_fits_low : ∀ ds Q, C_fits_low ds Q → B_fits_low ds Q := by
  rintro ds Q ⟨e, n, rfl, q⟩
  refine ⟨rfl, ?_⟩
  cases e with
  | none =>
    simp only [w_fits_low, eD, Bx.go]
    exact q
  | some e =>
    obtain ⟨x, b⟩ := e
    simp only [w_fits_low, eD, p0, p1, Bx.go]
    simp only [fl] at q
    refine pick_by (fun h => ?_) (fun h => ?_)
    · rw [h] at q
      exact q
    · simp only [eqv_int, p0, p1, Bx.go]
      refine ⟨eqOk_int _ _, ?_⟩
      rw [h] at q
      refine pick_by (fun h2 => ?_) (fun h2 => ?_)
      · simp only [p1, Bx.go]
        rw [h2] at q
        simpa using q
      · rw [h2] at q
        exact q
theorem imp_fits_high : ∀ ds Q, C_fits_high ds Q → B_fits_high ds Q := by
  rintro ds Q ⟨e, n, rfl, q⟩
  refine ⟨rfl, ?_⟩
  cases e with
  | none =>
    simp only [w_fits_high, eD, Bx.go]
    exact q
  | some e =>
    obtain ⟨x, b⟩ := e
    simp only [w_fits_high, eD, p0, p1, Bx.go]
    simp only [fh] at q
    refine pick_by (fun h => ?_) (fun h => ?_)
    · rw [h] at q
      exact q
    · simp only [eqv_int, p0, p1, Bx.go]
      refine ⟨eqOk_int _ _, ?_⟩
      rw [h] at q
      refine pick_by (fun h2 => ?_) (fun h2 => ?_)
      · simp only [p1, Bx.go]
        rw [h2] at q
        simpa using q
      · rw [h2] at q
        exact q
theorem imp_fits_span : ∀ ds Q, C_fits_span ds Q → B_fits_span ds Q := by
  rintro ds Q ⟨s, n, rfl, q⟩
  refine ⟨rfl, ?_⟩
  simp only [w_fits_span, sD, p0, p1, eD_frz, Bx.go]
  refine ⟨s.1, n, rfl, ?_⟩
  simp only [Bx.go]
  refine pick_by (fun h => ?_) (fun h => ?_)
  · simp only [p1, eD_frz, Bx.go]
    refine ⟨s.2, n, rfl, ?_⟩
    rw [h] at q
    simp only [Bx.go]
    simpa using q
  · rw [h] at q
    exact q
theorem zip_cons {xs ys : List D} {x : D} {r : List D} : zipD xs ys = x :: r → ∃ a b as bs, xs = a :: as ∧ ys = b :: bs ∧ x = .tup [a, b] ∧ r = zipD as bs := zip_same
theorem imp_fits : ∀ ds Q, C_fits ds Q → B_fits ds Q := by
  rintro ds Q ⟨b, p, rfl, hb, q⟩
  refine ⟨rfl, ?_⟩
  have sl := sizeLine_eq
  simp only [w_fits, Bx.go]
  have sf : ∀ s, (sD s).frz = sD s := fun _ => rfl
  refine ⟨by have := zipD_len' (xs := b.map sD) (ys := p.map D.int); simp at this ⊢; omega, ?_⟩
  refine comp_rule (fun items acc ρ => ∃ (bs : List (Eg × Eg)) (ps : List Int) (al : List Bool), items = zipD (bs.map sD) (ps.map .int) ∧ acc = al.map .bl ∧ (al.all id && fitB bs ps) = fitB b p ∧ ρ = [some (.tup (b.map sD)), some (.tup (p.map .int)), none, none]) ⟨b, p, [], rfl, rfl, by simp, rfl⟩ ?_ ?_
  · rintro acc ρ ⟨bs, ps, al, e, rfl, ef, rfl⟩
    have z : fitB bs ps = true := by
      cases bs with
      | nil => rfl
      | cons x bs =>
        cases ps with
        | nil => rfl
        | cons y ps => simp [zipD] at e
    rw [z, Bool.and_true] at ef
    simp only [asBls_map, Bx.go]
    rw [ef]
    exact q
  · rintro x r acc ρ N ⟨bs, ps, al, e, rfl, ef, rfl⟩ hN
    cases bs with
    | nil => simp [zipD] at e
    | cons s bs =>
    cases ps with
    | nil => simp [zipD] at e
    | cons n ps =>
    simp only [List.map_cons, zipD, List.cons.injEq] at e
    obtain ⟨rfl, rfl⟩ := e
    simp only [sf, Bx.go]
    refine ⟨s, n, rfl, ?_⟩
    simp only [Bx.go]
    refine hN _ _ ⟨bs, ps, al ++ [fl s.1 n && fh s.2 n], rfl, by simp, ?_, rfl⟩
    rw [← ef]
    simp [fitB, Bool.and_assoc]
theorem imp__law_hand : ∀ ds Q, C__law_hand ds Q → B__law_hand ds Q := imp_hand
theorem imp__law_take : ∀ ds Q, C__law_take ds Q → B__law_take ds Q := imp_take
theorem imp__law_pool : ∀ ds Q, C__law_pool ds Q → B__law_pool ds Q := by
  rintro ds Q ⟨h, n, rfl, hh, hn, q⟩
  refine ⟨rfl, ?_⟩
  have sl := sizeLine_eq
  simp only [w__law_pool, Bx.go]
  refine ⟨⟨by decide, by decide, by decide⟩, ⟨by decide, by decide, by decide⟩, ⟨by decide, by decide, by decide⟩, .inl (by decide), ⟨by decide, by decide, by decide⟩, h, n, 6, rfl, hh, by omega, by decide, by decide, fun r h h0 h1 hh => ?_⟩
  obtain ⟨f, ef, _⟩ := atI_of (ns := [0, -3, 10 ^ Int.toNat 6, -10 ^ Int.toNat 17, 9 * 10 ^ Int.toNat 17, 1 - 10 ^ Int.toNat 17]) (fun _ => True) (fun _ _ => trivial) h0 (by simpa using h1)
  simp only [List.map] at ef
  simp only [ef, Bx.go]
  refine ⟨h, _, 4, rfl, hh, by omega, by decide, by decide, fun r h h0 h1 hh => ?_⟩
  obtain ⟨a, ea, ha⟩ := atI_of (ns := [1, 1, 2, 7]) (fun v => 0 ≤ v ∧ v ≤ 7) (by decide) h0 (by simpa using h1)
  simp only [List.map] at ea
  simp only [ea, Bx.go]
  refine ⟨h, _, 4, rfl, hh, by omega, by decide, by decide, fun r h h0 h1 hh => ?_⟩
  obtain ⟨c, ec, hc⟩ := atI_of (ns := [1, 2, 4, 9]) (fun v => 1 ≤ v ∧ v ≤ 9) (by decide) h0 (by simpa using h1)
  simp only [List.map] at ec
  simp only [ec, Bx.go]
  refine ⟨i62_of (by omega) (by omega), by rw [rangeD_len]; omega, ?_⟩
  refine comp_rule (fun items acc ρ => ∃ l : List Int, acc = l.map .int ∧ (l.length : Int) + items.length = c ∧ (∀ x ∈ items, ∃ i : Int, x = .int i) ∧ ρ = [some (.lst true h), some (.int f), some (.int a), none]) ⟨[], rfl, by rw [rangeD_len]; simp; omega, fun x hx => let ⟨i, e, _⟩ := rangeD_mem hx; ⟨i, e⟩, rfl⟩ ?_ ?_
  · rintro acc ρ ⟨l, rfl, el, _, rfl⟩
    simp only [backR, Bx.go]
    simp only [List.length_nil] at el
    refine q l h (fun e => ?_) (by omega) hh
    subst e
    simp at el; omega
  · rintro x r acc ρ N ⟨l, rfl, el, hx, rfl⟩ hN
    obtain ⟨i, rfl⟩ := hx x List.mem_cons_self
    simp only [Bx.go]
    refine ⟨.inl ⟨by omega, by omega⟩, ?_⟩
    exact hN _ _ ⟨l ++ [f + a * i], by simp, by simp at el ⊢; omega, fun x h => hx x (List.mem_cons_of_mem _ h), rfl⟩
theorem imp__law_end : ∀ ds Q, C__law_end ds Q → B__law_end ds Q := by
  rintro ds Q ⟨h, n, l, rfl, hh, hn, l0, l9, q⟩
  refine ⟨rfl, ?_⟩
  have lp : 0 < l.length := List.length_pos_iff.mpr l0
  simp only [w__law_end, Bx.go]
  refine ⟨h, n, l.length, rfl, hh, by omega, by omega, by omega, fun r h h0 h1 hh => ?_⟩
  obtain ⟨v, ev, _⟩ := atI_of (ns := l) (fun _ => True) (fun _ _ => trivial) h0 h1
  simp only [ev, Bx.go]
  refine ⟨h, _, 6, rfl, hh, by omega, by decide, by decide, fun r h h0 h1 hh => ?_⟩
  obtain ⟨f, ef, _⟩ := atI_of (ns := [0, 0, 1, -1, 0, 3]) (fun _ => True) (fun _ _ => trivial) h0 (by simpa using h1)
  simp only [List.map] at ef
  simp only [ef, Bx.go]
  refine ⟨h, _, 2, rfl, hh, by omega, by decide, by decide, fun r h h0 h1 hh => ?_⟩
  simp only [eqv_int, Bx.go]
  refine ⟨eqOk_int _ _, h, _, 5, rfl, hh, by omega, by decide, by decide, fun r2 h h0 h1 hh => ?_⟩
  simp only [eqv_int, Bx.go]
  refine ⟨eqOk_int _ _, ?_⟩
  cases r2 == 0
  · simp only [Bool.false_eq_true, if_false, p0, Bx.go]
    exact q (some (v + f, r == 0)) h hh
  · simp only [if_true, p1, Bx.go]
    exact q none h hh
theorem imp__law_span : ∀ ds Q, C__law_span ds Q → B__law_span ds Q := by
  rintro ds Q ⟨h, n, l, rfl, hh, hn, l0, l9, q⟩
  refine ⟨rfl, ?_⟩
  refine seq_cut (fun ρ => ∃ (h' : List D) (e1 e2 : Eg), hnd (n + 8) h' ∧ ρ = [some (.lst true h'), some (.lst false (l.map .int)), some (eD e1), some (eD e2)]) (fun R hR => ?_) ?_
  · simp only [Bx.go]
    refine ⟨h, n, l, rfl, hh, by omega, l0, l9, fun e1 h hh => ?_⟩
    simp only [Bx.go]
    refine ⟨h, _, l, rfl, hh, by omega, l0, l9, fun e2 h hh => ?_⟩
    simp only [Bx.go]
    exact hR _ ⟨h, e1, e2, hh, rfl⟩
  rintro _ ⟨h, e1, e2, hh, rfl⟩
  refine seq_cut (fun ρ => ∃ (h' : List D), hnd (n + 9) h' ∧ ρ = [some (.lst true h'), some (.lst false (l.map .int)), some (eD e1), some (eD e2)]) (fun R hR => ?_) ?_
  · have stay := fun h' hh' => hR [some (.lst true h'), some (.lst false (l.map .int)), some (eD e1), some (eD e2)] ⟨h', hh', rfl⟩
    have swap := fun (h' : List D) (hh' : hnd (n + 9) h') => q (e2, e1) h' hh'
    clear hR q
    cases e1 with
    | none =>
      simp only [eD, Bx.go] at stay ⊢
      exact stay h (hh.mono (by omega))
    | some e1 =>
      cases e2 with
      | none =>
        simp only [eD, Bx.go] at stay ⊢
        exact stay h (hh.mono (by omega))
      | some e2 =>
        obtain ⟨x1, b1⟩ := e1
        obtain ⟨x2, b2⟩ := e2
        simp only [eD, p0, sD, Bx.go] at stay swap ⊢
        refine pick_by (fun _ => ?_) (fun _ => ?_)
        · simp only [Bx.go]
          refine ⟨h, _, 6, rfl, hh, by omega, by decide, by decide, fun r h h0 h1 hh => ?_⟩
          simp only [Bx.go]
          refine pick_by (fun _ => ?_) (fun _ => ?_)
          · simp only [Bx.go]
            exact swap h (hh.mono (by omega))
          · simp only [Bx.go]
            exact stay h (hh.mono (by omega))
        · simp only [Bx.go]
          exact stay h (hh.mono (by omega))
  rintro _ ⟨h, hh, rfl⟩
  have q := q (e1, e2) h hh
  simp only [sD] at q
  simp only [eD_frz, Bx.go]
  exact q
theorem imp__law_box : ∀ ds Q, C__law_box ds Q → B__law_box ds Q := by
  rintro ds Q ⟨h, n, ps, rfl, hh, hn, hp, hl, q⟩
  refine ⟨rfl, ?_⟩
  have sl := sizeLine_eq
  simp only [w__law_box, Bx.go]
  have pz : ∀ l, (poolD l).frz = poolD l := fun _ => rfl
  refine ⟨by omega, ?_⟩
  refine comp_rule (fun items acc ρ => ∃ (h : List D) (b : List (Eg × Eg)) (r : List (List Int)), items = r.map poolD ∧ acc = b.map sD ∧ (∀ l ∈ r, l ∈ ps) ∧ b.length + r.length = ps.length ∧ hnd (n + 9 * b.length) h ∧ ρ = [some (.lst true h), some (.lst false (ps.map poolD)), none]) ⟨h, [], ps, rfl, rfl, fun _ h => h, by simp, hh, rfl⟩ ?_ ?_
  · rintro acc ρ ⟨h, b, r, e, rfl, _, el, hh, rfl⟩
    have er : r = [] := by simpa using e.symm
    subst er
    simp only [backR, Bx.go]
    simp only [List.length_nil] at el
    exact q b h (by omega) (hh.mono (by omega))
  · rintro x it acc ρ N ⟨h, b, r, e, rfl, hm, el, hh, rfl⟩ hN
    cases r with
    | nil => simp at e
    | cons l r =>
    simp only [List.map_cons, List.cons.injEq] at e
    obtain ⟨rfl, rfl⟩ := e
    obtain ⟨h1, h2⟩ := hp l (hm l List.mem_cons_self)
    simp only [List.length_cons] at el
    simp only [pz, Bx.go]
    refine ⟨h, _, l, rfl, hh, by omega, h1, h2, fun s h hh => ?_⟩
    have sz : (sD s).frz = sD s := rfl
    simp only [sz, Bx.go]
    exact hN _ _ ⟨h, b ++ [s], r, rfl, by simp, fun l hl => hm l (List.mem_cons_of_mem _ hl), by simp; omega, hh.mono (by simp; omega), rfl⟩
theorem imp_plain_span : ∀ ds Q, C_plain_span ds Q → B_plain_span ds Q := by
  rintro ds Q ⟨s, rfl, q⟩
  refine ⟨rfl, ?_⟩
  obtain ⟨l, h⟩ := s
  refine seq_cut (fun ρ => ρ = [some (sD (l, h)), some (eD l), some (eD h), none, none]) (fun R hR => ?_) ?_
  · simp only [sD, eD_frz, Bx.go]
    exact hR _ rfl
  rintro _ rfl
  refine seq_cut (fun ρ => ρ = [some (sD (l, h)), some (eD l), some (eD h), some .non, some .non]) (fun R hR => ?_) ?_
  · simp only [Bx.go]
    exact hR _ rfl
  rintro _ rfl
  refine seq_cut (fun ρ => ρ = [some (sD (l, h)), some (eD l), some (eD h), some (oD (pl (l, h)).1), some .non]) (fun R hR => ?_) ?_
  · have hR := hR _ rfl
    cases l with
    | none =>
      simp only [eD, pl, oD, Bx.go] at hR ⊢
      exact hR
    | some l =>
      obtain ⟨x, b⟩ := l
      simp only [eD, pl, oD, p0, p1, Bx.go] at hR ⊢
      cases b <;> simpa using hR
  rintro _ rfl
  refine seq_cut (fun ρ => ρ = [some (sD (l, h)), some (eD l), some (eD h), some (oD (pl (l, h)).1), some (oD (pl (l, h)).2)]) (fun R hR => ?_) ?_
  · have hR := hR _ rfl
    generalize oD (pl (l, h)).1 = z at hR ⊢
    cases h with
    | none =>
      simp only [eD, pl, oD, Bx.go] at hR ⊢
      exact hR
    | some h =>
      obtain ⟨x, b⟩ := h
      simp only [eD, pl, oD, p0, p1, Bx.go] at hR ⊢
      cases b <;> simpa using hR
  rintro _ rfl
  have oz : ∀ o, (oD o).frz = oD o := fun o => by cases o <;> rfl
  simp only [pD] at q
  simp only [oz, Bx.go]
  exact q
theorem imp_is_crossed : ∀ ds Q, C_is_crossed ds Q → B_is_crossed ds Q := by
  rintro ds Q ⟨⟨a, b⟩, rfl, q⟩
  refine ⟨rfl, ?_⟩
  cases a with
  | none =>
    simp only [w_is_crossed, pD, oD, p0, p1, Bx.go]
    exact q
  | some a =>
    cases b with
    | none =>
      simp only [w_is_crossed, pD, oD, p0, p1, Bx.go]
      exact q
    | some b =>
      simp only [w_is_crossed, pD, oD, p0, p1, Bx.go]
      exact q
theorem imp_plain_of : ∀ ds Q, C_plain_of ds Q → B_plain_of ds Q := by
  rintro ds Q ⟨ps, hd, hl, q⟩
  have sl := sizeLine_eq
  have pz : ∀ p, (pD p).frz = pD p := fun _ => rfl
  have ea : (ps.map cr).any id = ps.any cr := by rw [List.any_map]; rfl
  obtain ⟨d, rfl, hd2⟩ : ∃ d : D, ds = [d] ∧ (d = .lst false (ps.map pD) ∨ d = .tup (ps.map pD)) := by
    rcases hd with rfl | rfl
    · exact ⟨_, rfl, .inl rfl⟩
    · exact ⟨_, rfl, .inr rfl⟩
  refine ⟨rfl, ?_⟩
  refine seq_cut (fun ρ => ps.any cr = false ∧ ρ = [some d, none]) (fun R hR => ?_) ?_
  · clear hd
    rcases hd2 with rfl | rfl
    all_goals
      simp only [Bx.go]
      refine ⟨by omega, co_map ps pD (fun p => .bl (cr p)) (fun p hp acc N hN => ?_) ?_⟩
      · simp only [pz, Bx.go]
        refine ⟨p, rfl, ?_⟩
        simp only [Bx.go]
        exact hN
      · simp only [asBls_f, backR, Bx.go]
        rw [ea]
        unfold plainOf at q
        cases hc : ps.any cr
        · simp only [Bx.go]
          exact hR _ ⟨hc, rfl⟩
        · rw [hc] at q
          simp only [Bx.go]
          refine ⟨by omega, co_map ps pD (fun _ => pD (some 1, some 0)) (fun p hp acc N hN => ?_) ?_⟩
          · simp only [pz, Bx.go]
            exact hN
          · simp only [backR, Bx.go]
            have q : Q (.tup (List.map pD (ps.map fun _ => ((some 1, some 0) : Pr)))) [] := q
            rw [List.map_map] at q
            exact q
  rintro _ ⟨hc, rfl⟩
  unfold plainOf at q
  rw [hc] at q
  clear hd
  rcases hd2 with rfl | rfl
  · simp only [Bx.go]
    exact q
  · simp only [Bx.go]
    exact q
theorem imp_plain_box : ∀ ds Q, C_plain_box ds Q → B_plain_box ds Q := by
  rintro ds Q ⟨b, rfl, hl, q⟩
  refine ⟨rfl, ?_⟩
  have sl := sizeLine_eq
  have pz : ∀ p, (pD p).frz = pD p := fun _ => rfl
  have sz : ∀ p, (sD p).frz = sD p := fun _ => rfl
  simp only [w_plain_box, Bx.go]
  refine ⟨by omega, comp_rule (fun items acc ρ => ∃ (dn r : List (Eg × Eg)), b = dn ++ r ∧ items = r.map sD ∧ acc = dn.map (fun s => pD (pl s)) ∧ ρ = [some (.tup (b.map sD)), none]) ⟨[], b, rfl, rfl, rfl, rfl⟩ ?_ ?_⟩
  · rintro acc ρ ⟨dn, r, e1, e2, rfl, rfl⟩
    have er : r = [] := by simpa using e2.symm
    subst er
    rw [List.append_nil] at e1
    subst e1
    simp only [backR, Bx.go]
    refine ⟨b.map pl, .inl (by rw [List.map_map]; rfl), by simpa using hl, ?_⟩
    simp only [Bx.go]
    exact q
  · rintro x it acc ρ N ⟨dn, r, e1, e2, rfl, rfl⟩ hN
    cases r with
    | nil => simp at e2
    | cons y r =>
    simp only [List.map_cons, List.cons.injEq] at e2
    obtain ⟨rfl, rfl⟩ := e2
    simp only [sz, Bx.go]
    refine ⟨y, rfl, ?_⟩
    simp only [pz, Bx.go]
    exact hN _ _ ⟨dn ++ [y], r, by simp [e1], rfl, by simp, rfl⟩
theorem empties (b : List (Eg × Eg)) : (List.replicate (Int.toNat (b.length : Int)) [D.tup [D.int 1, D.int 0]]).flatten = List.map pD ((b.map pl).map fun _ => ((some 1, some 0) : Pr)) := by
  rw [Int.toNat_natCast]
  induction b with
  | nil => rfl
  | cons x b ih => rw [List.length_cons, List.replicate_succ, List.flatten_cons, ih]; rfl
theorem okQ (ps : List Pr) : okE 2 (.tup (ps.map pD)) := by
  intro x hx
  obtain ⟨⟨a, b⟩, _, rfl⟩ := List.mem_map.mp hx
  intro y hy
  simp only [List.mem_cons, List.not_mem_nil, or_false] at hy
  rcases hy with rfl | rfl
  · cases a <;> simp [oD, okE]
  · cases b <;> simp [oD, okE]
theorem okR (p : Pr) : okE 1 (pD p) := by
  obtain ⟨a, b⟩ := p
  intro y hy
  simp only [List.mem_cons, List.not_mem_nil, or_false] at hy
  rcases hy with rfl | rfl
  · cases a <;> simp [oD, okE]
  · cases b <;> simp [oD, okE]
theorem oz (o : Option Int) : (oD o).frz = oD o := by cases o <;> rfl
theorem imp_shut_end : ∀ ds Q, C_shut_end ds Q → B_shut_end ds Q := by
  rintro ds Q ⟨a, rfl, q⟩
  refine ⟨rfl, ?_⟩
  cases a with
  | none =>
    simp only [w_shut_end, oD, Bx.go]
    exact q
  | some a =>
    simp only [w_shut_end, oD, Bx.go]
    exact q
theorem imp_box_of : ∀ ds Q, C_box_of ds Q → B_box_of ds Q := by
  rintro ds Q ⟨ps, rfl, hl, q⟩
  refine ⟨rfl, ?_⟩
  have sl := sizeLine_eq
  have pz : ∀ p, (pD p).frz = pD p := fun _ => rfl
  simp only [w_box_of, Bx.go]
  refine ⟨by omega, comp_rule (fun items acc ρ => ∃ (dn r : List Pr), ps = dn ++ r ∧ items = r.map pD ∧ acc = (boxOf dn).map sD ∧ ρ = [some (.tup (ps.map pD)), none, none]) ⟨[], ps, rfl, rfl, rfl, rfl⟩ ?_ ?_⟩
  · rintro acc ρ ⟨dn, r, e1, e2, rfl, rfl⟩
    have er : r = [] := by simpa using e2.symm
    subst er
    rw [List.append_nil] at e1
    subst e1
    simp only [backR, Bx.go]
    exact q
  · rintro x it acc ρ N ⟨dn, r, e1, e2, rfl, rfl⟩ hN
    cases r with
    | nil => simp at e2
    | cons y r =>
    simp only [List.map_cons, List.cons.injEq] at e2
    obtain ⟨rfl, rfl⟩ := e2
    obtain ⟨a, b⟩ := y
    simp only [pD, oz, Bx.go]
    refine ⟨a, rfl, ?_⟩
    simp only [oz, eD_frz, Bx.go]
    refine ⟨b, rfl, ?_⟩
    simp only [eD_frz, Bx.go]
    exact hN _ _ ⟨dn ++ [(a, b)], r, by simp [e1], rfl, by simp [boxOf, sD], rfl⟩
theorem imp_greater_of : ∀ ds Q, C_greater_of ds Q → B_greater_of ds Q := by
  rintro ds Q ⟨a, b, rfl, q⟩
  refine ⟨rfl, ?_⟩
  cases a with
  | none =>
    cases b with
    | none =>
      simp only [w_greater_of, oD, Bx.go]
      exact q
    | some b =>
      simp only [w_greater_of, oD, Bx.go]
      exact q
  | some a =>
    cases b with
    | none =>
      simp only [w_greater_of, oD, Bx.go]
      exact q
    | some b =>
      simp only [w_greater_of, oD, Bx.go]
      simp only [gr] at q
      refine pick_by (fun h => ?_) (fun h => ?_)
      · simp only [Bx.go]
        rw [if_pos (of_decide_eq_true h)] at q
        exact q
      · simp only [Bx.go]
        rw [if_neg (of_decide_eq_false h)] at q
        exact q
theorem imp_lesser_of : ∀ ds Q, C_lesser_of ds Q → B_lesser_of ds Q := by
  rintro ds Q ⟨a, b, rfl, q⟩
  refine ⟨rfl, ?_⟩
  cases a with
  | none =>
    cases b with
    | none =>
      simp only [w_lesser_of, oD, Bx.go]
      exact q
    | some b =>
      simp only [w_lesser_of, oD, Bx.go]
      exact q
  | some a =>
    cases b with
    | none =>
      simp only [w_lesser_of, oD, Bx.go]
      exact q
    | some b =>
      simp only [w_lesser_of, oD, Bx.go]
      simp only [le] at q
      refine pick_by (fun h => ?_) (fun h => ?_)
      · simp only [Bx.go]
        rw [if_pos (of_decide_eq_true h)] at q
        exact q
      · simp only [Bx.go]
        rw [if_neg (of_decide_eq_false h)] at q
        exact q
theorem imp_common : ∀ ds Q, C_common ds Q → B_common ds Q := by
  rintro ds Q ⟨ps, qs, rfl, hl, q⟩
  refine ⟨rfl, ?_⟩
  have sl := sizeLine_eq
  have pz : ∀ p, (pD p).frz = pD p := fun _ => rfl
  simp only [w_common, Bx.go]
  refine for_rule (fun items ρ => ∃ (dn r s : List Pr) (x3 x4 : Option D), items = zipD (r.map pD) (s.map pD) ∧ dn.length + r.length ≤ ps.length ∧ dn ++ List.zipWith cm r s = List.zipWith cm ps qs ∧ ρ = [some (.tup (ps.map pD)), some (.tup (qs.map pD)), some (.lst true (dn.map pD)), x3, x4]) ⟨[], ps, qs, _, _, rfl, by simp, rfl, rfl⟩ ?_ ?_
  · rintro ρ ⟨dn, r, s, x3, x4, e, hlen, ez, rfl⟩
    have z : List.zipWith cm r s = [] := by
      cases r with
      | nil => rfl
      | cons a r =>
        cases s with
        | nil => rfl
        | cons b s => simp [zipD] at e
    rw [z, List.append_nil] at ez
    simp only [Bx.go]
    refine ⟨dn, .inl rfl, by omega, ?_⟩
    rw [ez]
    exact q
  · rintro x it ρ N ⟨dn, r, s, x3, x4, e, hlen, ez, rfl⟩ hN
    cases r with
    | nil => simp [zipD] at e
    | cons a r =>
    cases s with
    | nil => simp [zipD] at e
    | cons b s =>
    simp only [List.map_cons, zipD, List.cons.injEq] at e
    obtain ⟨rfl, rfl⟩ := e
    obtain ⟨a1, a2⟩ := a
    obtain ⟨b1, b2⟩ := b
    simp only [List.length_cons] at hlen
    simp only [pD, p0, p1, oz, Bx.go]
    refine ⟨a1, b1, rfl, ?_⟩
    simp only [p0, p1, oz, Bx.go]
    refine ⟨a2, b2, rfl, ?_⟩
    simp only [oz, Bx.go]
    refine ⟨by omega, hN _ ⟨dn ++ [cm (a1, a2) (b1, b2)], r, s, some (.tup [oD a1, oD a2]), some (.tup [oD b1, oD b2]), rfl, by simp; omega, by rw [← ez]; simp, by simp [pD, cm]⟩⟩
theorem eqv_o (a b : Option Int) : PyData.eqv (oD a).pd (oD b).pd = decide (a = b) := by
  cases a <;> cases b <;> simp [oD, D.pd, PyData.eqv]
  rw [Bool.eq_iff_iff]; simp
theorem eqv_p (a b : Pr) : PyData.eqv (pD a).pd (pD b).pd = decide (a = b) := by
  obtain ⟨a1, a2⟩ := a
  obtain ⟨b1, b2⟩ := b
  unfold pD
  simp only [D.pd, D.pds, PyData.eqv, PyData.eqvAll, eqv_o, Bool.and_true]
  rw [Bool.eq_iff_iff]
  simp
theorem eqv_ps : ∀ a b : List Pr, D.eqv (.tup (a.map pD)) (.tup (b.map pD)) = decide (a = b) := fun a b => by
  unfold D.eqv
  simp only [D.pd, PyData.eqv]
  induction a generalizing b with
  | nil => cases b <;> simp [D.pds, PyData.eqvAll]
  | cons x a ih =>
    cases b with
    | nil => simp [D.pds, PyData.eqvAll]
    | cons y b =>
      simp only [List.map_cons, D.pds, PyData.eqvAll, eqv_p, ih b]
      rw [Bool.eq_iff_iff]
      simp
theorem imp_lies_within : ∀ ds Q, C_lies_within ds Q → B_lies_within ds Q := by
  rintro ds Q ⟨ps, qs, rfl, hl, q⟩
  refine ⟨rfl, ?_⟩
  simp only [w_lies_within, Bx.go]
  refine ⟨ps, qs, rfl, hl, ?_⟩
  simp only [Bx.go]
  refine ⟨eqOk_of (okQ _) (okQ _) (by decide), ?_⟩
  rw [eqv_ps]
  exact q
theorem imp_lie_apart : ∀ ds Q, C_lie_apart ds Q → B_lie_apart ds Q := by
  rintro ds Q ⟨ps, qs, rfl, hl, q⟩
  refine ⟨rfl, ?_⟩
  have sl := sizeLine_eq
  have pz : ∀ p, (pD p).frz = pD p := fun _ => rfl
  simp only [w_lie_apart, Bx.go]
  refine ⟨ps, qs, rfl, hl, ?_⟩
  simp only [Bx.go]
  refine ⟨by omega, comp_rule (fun items acc ρ => ∃ (dn r : List Pr), ps = dn ++ r ∧ items = r.map pD ∧ acc = (dn.map fun _ => ((some 1, some 0) : Pr)).map pD ∧ ρ = [some (.tup (ps.map pD)), some (.tup (qs.map pD)), none]) ⟨[], ps, rfl, rfl, rfl, rfl⟩ ?_ ?_⟩
  · rintro acc ρ ⟨dn, r, e1, e2, rfl, rfl⟩
    have er : r = [] := by simpa using e2.symm
    subst er
    rw [List.append_nil] at e1
    subst e1
    simp only [backR, Bx.go]
    refine ⟨eqOk_of (okQ _) (okQ _) (by decide), ?_⟩
    rw [eqv_ps]
    exact q
  · rintro x it acc ρ N ⟨dn, r, e1, e2, rfl, rfl⟩ hN
    cases r with
    | nil => simp at e2
    | cons y r =>
    simp only [List.map_cons, List.cons.injEq] at e2
    obtain ⟨rfl, rfl⟩ := e2
    simp only [pz, Bx.go]
    exact hN _ _ ⟨dn ++ [y], r, by simp [e1], rfl, by simp; rfl, rfl⟩
def col (ls : List (List Int)) (i : Nat) : List Int := ls.map (·.getD i 0)
theorem row_comp {ls : List (List Int)} {d k : Nat} (hk : k < d) (hl : ls.length ≤ 1000) (hall : ∀ l ∈ ls, l.length = d) (K : D → Rho → Prop) (x1 x4 : Option D) (hK : K (.lst true ((col ls k).map .int)) [some (.tup (ls.map plc)), x1, some (.int k), none, x4]) :
    dComp (iOf (dVar 0)) [3] (gN 3) tAll (dBin gIx (oVar 3) (oVar 2)) K [some (.tup (ls.map plc)), x1, some (.int k), none, x4] := by
  have sl := sizeLine_eq
  have pz : ∀ p, (plc p).frz = plc p := fun _ => rfl
  simp only [Bx.go]
  refine ⟨by omega, comp_rule (fun items acc ρ => ∃ (dn r : List (List Int)), ls = dn ++ r ∧ items = r.map plc ∧ acc = (col dn k).map .int ∧ ρ = [some (.tup (ls.map plc)), x1, some (.int k), none, x4]) ⟨[], ls, rfl, rfl, rfl, rfl⟩ ?_ ?_⟩
  · rintro acc ρ ⟨dn, r, e1, e2, rfl, rfl⟩
    have er : r = [] := by simpa using e2.symm
    subst er
    rw [List.append_nil] at e1
    subst e1
    simp only [backR, Bx.go]
    exact hK
  · rintro x it acc ρ N ⟨dn, r, e1, e2, rfl, rfl⟩ hN
    cases r with
    | nil => simp at e2
    | cons y r =>
    simp only [List.map_cons, List.cons.injEq] at e2
    obtain ⟨rfl, rfl⟩ := e2
    have ly : y.length = d := hall y (by rw [e1]; simp)
    simp only [plc, Bx.go]
    rw [atI_int (by omega)]
    simp only [Bx.go]
    exact hN _ _ ⟨dn ++ [y], r, by simp [e1], rfl, by simp [col], rfl⟩
theorem imp_bounds : ∀ ds Q, C_bounds ds Q → B_bounds ds Q := by
  rintro ds Q ⟨ls, d, rfl, h0, hl, hd, hall, q⟩
  refine ⟨rfl, ?_⟩
  have sl := sizeLine_eq
  have cl : ∀ k, 0 < (col ls k).length := fun k => by simp [col]; exact List.length_pos_iff.mpr h0
  refine seq_cut (fun ρ => ρ = [some (.tup (ls.map plc)), some (.lst true ((List.range d).map fun i => .lst false ((col ls i).map .int))), none, none, none]) (fun R hR => ?_) ?_
  · obtain ⟨l0, r, rfl⟩ : ∃ l r, ls = l :: r := by
      cases ls with
      | nil => exact absurd rfl h0
      | cons l r => exact ⟨l, r, rfl⟩
    have ll := hall l0 List.mem_cons_self
    have at1 : atI ((l0 :: r).map plc) 0 = some (plc l0) := at0
    have gl : ∀ K : D → Prop, gLen [plc l0] K = K (.int l0.length) := fun K => by simp only [plc, Bx.go]
    simp only [at0, gl, Bx.go]
    rw [ll]
    refine ⟨i62_of (by omega) (by omega), by rw [rangeD_len]; omega, ?_⟩
    refine comp_rule (fun items acc ρ => ∃ k : Nat, k ≤ d ∧ items = rangeD k (d - k) ∧ acc = (List.range k).map (fun i => .lst false ((col (l0 :: r) i).map .int)) ∧ ρ = [some (.tup ((l0 :: r).map plc)), none, none, none, none]) ⟨0, by omega, by simp, rfl, rfl⟩ ?_ ?_
    · rintro acc ρ ⟨k, hk, e, rfl, rfl⟩
      have : d - k = 0 := by
        have := congrArg List.length e
        rw [rangeD_len] at this
        exact this.symm
      have : k = d := by omega
      subst this
      simp only [backR, Bx.go]
      exact hR _ rfl
    · rintro x it acc ρ N ⟨k, hk, e, rfl, rfl⟩ hN
      obtain ⟨j, hj⟩ : ∃ j, d - k = j + 1 := by
        cases h : d - k with
        | zero => rw [h] at e; simp [rangeD] at e
        | succ j => exact ⟨j, rfl⟩
      rw [hj, rangeD_cons] at e
      simp only [List.cons.injEq] at e
      obtain ⟨rfl, rfl⟩ := e
      simp only [u1_gN, u1_kCo1, u1_tAll, u1_kCo2, rset_s, rset_0, u_pick_true]
      refine row_comp (by omega) hl hall _ _ _ ?_
      simp only [Bx.go]
      refine hN _ _ ⟨k + 1, by omega, by rw [show d - (k + 1) = j by omega]; rfl, by rw [List.range_succ]; simp, rfl⟩
  rintro _ rfl
  simp only [Bx.go]
  refine ⟨by rw [List.length_range]; omega, ?_⟩
  refine comp_rule (fun items acc ρ => ∃ (k : Nat) (bs : List Pr), k ≤ d ∧ items = (List.range' k (d - k)).map (fun i => .lst false ((col ls i).map .int)) ∧ acc = bs.map pD ∧ bs.length = k ∧ (∀ i, i < k → ∃ m M : Int, bs[i]? = some (some m, some M) ∧ m ∈ col ls i ∧ M ∈ col ls i ∧ ∀ y ∈ col ls i, m ≤ y ∧ y ≤ M) ∧ ρ = [some (.tup (ls.map plc)), some (.lst false ((List.range d).map fun i => .lst false ((col ls i).map .int))), none, none, none]) ⟨0, [], by omega, by rw [List.range_eq_range']; rfl, rfl, rfl, fun i hi => absurd hi (Nat.not_lt_zero _), rfl⟩ ?_ ?_
  · rintro acc ρ ⟨k, bs, hk, e, rfl, lb, hb, rfl⟩
    have : d - k = 0 := by
      have := congrArg List.length e
      simpa using this.symm
    have : k = d := by omega
    subst this
    simp only [backR, Bx.go]
    exact q bs ⟨lb, hb⟩
  · rintro x it acc ρ N ⟨k, bs, hk, e, rfl, lb, hb, rfl⟩ hN
    obtain ⟨j, hj⟩ : ∃ j, d - k = j + 1 := by
      cases h : d - k with
      | zero => rw [h] at e; simp at e
      | succ j => exact ⟨j, rfl⟩
    rw [hj, List.range'_succ, List.map_cons] at e
    simp only [List.cons.injEq] at e
    obtain ⟨rfl, rfl⟩ := e
    simp only [asInts_map, Bx.go]
    refine ⟨cl k, fun m hm1 hm2 => ?_⟩
    try simp only [asInts_map, Bx.go]
    refine ⟨cl k, fun M hM1 hM2 => ?_⟩
    try simp only [Bx.go]
    refine hN _ _ ⟨k + 1, bs ++ [(some m, some M)], by omega, by rw [show d - (k + 1) = j by omega], by simp [pD, oD], by simp; exact lb, fun i hi => ?_, rfl⟩
    by_cases h : i < k
    · obtain ⟨m', M', e, r⟩ := hb i h
      exact ⟨m', M', by rw [List.getElem?_append_left (by omega)]; exact e, r⟩
    · have : i = k := by omega
      subst this
      exact ⟨m, M, by rw [List.getElem?_append_right (by omega), lb]; simp, hm1, hM1, fun y hy => ⟨hm2 y hy, hM2 y hy⟩⟩

theorem imp_is_whole : ∀ ds Q, C_is_whole ds Q → B_is_whole ds Q := by
  rintro ds Q ⟨d, rfl, q⟩
  refine ⟨rfl, ?_⟩
  cases d <;> simp only [w_is_whole, D.ty, Bx.go] <;> exact q
theorem imp_is_pair : ∀ ds Q, C_is_pair ds Q → B_is_pair ds Q := by
  rintro ds Q ⟨d, rfl, q⟩
  refine ⟨rfl, ?_⟩
  have sl := sizeLine_eq
  cases d with
  | tup xs =>
    simp only [w_is_pair, Bx.go]
    refine ⟨eqOk_int _ _, ?_⟩
    rw [eqv_int]
    by_cases h2 : xs.length = 2
    · obtain ⟨a, b, rfl⟩ : ∃ a b, xs = [a, b] := by
        match xs, h2 with
        | [a, b], _ => exact ⟨a, b, rfl⟩
      have e2 : ((([a, b] : List D).length : Int) == 2) = true := rfl
      rw [e2]
      simp only [Bx.go]
      refine ⟨by rw [sl]; decide, ?_⟩
      rw [show ([a, b] : List D) = [a, b].map id from rfl]
      refine co_map [a, b] id (fun x => .bl (pnum x)) (fun x hx acc N hN => ?_) ?_
      · cases x with
        | non => simp only [id, Bx.go]; exact hN
        | _ =>
          simp only [id, Bx.go]
          refine ⟨_, rfl, ?_⟩
          simp only [isW, Bx.go]
          exact hN
      · have z : asBls [D.bl (pnum a), D.bl (pnum b)] = some [pnum a, pnum b] := rfl
        simp only [z, backR, Bx.go]
        simp only [List.all_cons, List.all_nil, id, Bool.and_true]
        exact q
    · have e2 : ((xs.length : Int) == 2) = false := by simp; omega
      rw [e2]
      simp only [Bx.go]
      have e : isPair (.tup xs) = false := by
        match xs, h2 with
        | [], _ => rfl
        | [a], _ => rfl
        | [a, b], h => exact absurd rfl h
        | a :: b :: c :: r, _ => rfl
      rw [e] at q
      exact q
  | _ => simp only [w_is_pair, Bx.go]; exact q
theorem isPair_pD (p : Pr) : isPair (pD p) = true := by
  obtain ⟨a, b⟩ := p
  cases a <;> cases b <;> rfl
theorem imp_is_plain : ∀ ds Q, C_is_plain ds Q → B_is_plain ds Q := by
  rintro ds Q ⟨ps, rfl, hl, q⟩
  refine ⟨rfl, ?_⟩
  have sl := sizeLine_eq
  have pz : ∀ p, (pD p).frz = pD p := fun _ => rfl
  simp only [w_is_plain, Bx.go]
  refine ⟨eqOk_int _ _, ?_⟩
  rw [eqv_int, beq_self_eq_true]
  simp only [Bx.go]
  refine ⟨by omega, co_map ps pD (fun _ => .bl true) (fun p hp acc N hN => ?_) ?_⟩
  · simp only [pz, Bx.go]
    refine ⟨pD p, rfl, ?_⟩
    rw [isPair_pD]
    simp only [Bx.go]
    exact hN
  · rw [List.map_const']
    simp only [bls_true, backR, Bx.go]
    rw [show (List.replicate ps.length true).all id = true by simp]
    simp only [Bx.go]
    refine ⟨ps, .inr rfl, hl, ?_⟩
    simp only [Bx.go]
    refine ⟨eqOk_of (okQ _) (okQ _) (by decide), ?_⟩
    rw [eqv_ps]
    exact q

end Zb
/-! what is asked of anything -/
namespace Zp
open PySem PySem.Spec PyProof.Rows L2 Bx Zb
def isPlace : D → Int → Bool
  | .tup xs, n => ((xs.length : Int) == n) && xs.all isW
  | _, _ => false
def isEnd : D → Bool
  | .non => true
  | .tup [a, .bl _] => isW a
  | _ => false
def isSpan : D → Bool
  | .tup [a, b] => isEnd a && isEnd b
  | _ => false
def isBox : D → Int → Bool
  | .tup xs, n => ((xs.length : Int) == n) && xs.all isSpan
  | _, _ => false
abbrev C_is_whole : PSpec := Zb.C_is_whole
abbrev C__law_whole : PSpec := Zb.C_is_whole
def C_is_place : PSpec := fun ds Q => ∃ (d : D) (n : Int), ds = [d, .int n] ∧ n ≤ 1000 ∧ Q (.bl (isPlace d n)) []
def C_is_end : PSpec := fun ds Q => ∃ d : D, ds = [d] ∧ Q (.bl (isEnd d)) []
def C_is_span : PSpec := fun ds Q => ∃ d : D, ds = [d] ∧ Q (.bl (isSpan d)) []
def C_is_box : PSpec := fun ds Q => ∃ (d : D) (n : Int), ds = [d, .int n] ∧ n ≤ 1000 ∧ Q (.bl (isBox d n)) []
def C__law_truth : PSpec := fun ds Q => ∃ a b : Bool, ds = [.bl a, .bl b] ∧ Q (.bl (a == b)) []
def C__law_odd : PSpec := fun ds Q => ds = [] ∧ ∀ xs : List D, xs.length ≤ 100 → Q (.lst true xs) []
abbrev C__law_is_place : PSpec := C_is_place
abbrev C__law_is_end : PSpec := C_is_end
abbrev C__law_is_box : PSpec := C_is_box
def w_is_place : DS :=
  (dRet (dAnd (dIsi "tuple" (oVar 0)) (dAnd (dBin gEq (oVal (dCB gLen (aCons (oVar 0) aNil))) (oVar 1)) (dCB gAll (aCons (oVal (dComp (iOf (dVar 0)) [2] (gN 2) tAll (dCall C_is_whole (aCons (oVar 2) aNil)))) aNil)))))
abbrev B_is_place : PSpec := bodyW [] 3 2 w_is_place
def w_is_end : DS :=
  (dSeq (dIfS (tVal (dBin gIsN (oVar 0) (oVal (dC .non))))
    (dRet (dC (.bl true)))
    dNext)
    (dRet (dAnd (dIsi "tuple" (oVar 0)) (dAnd (dBin gEq (oVal (dCB gLen (aCons (oVar 0) aNil))) (oVal (dC (.int 2)))) (dAnd (dCall C_is_whole (aCons (oVal (dBin gIx (oVar 0) (oVal (dC (.int 0))))) aNil)) (dIsi "bool" (oVal (dBin gIx (oVar 0) (oVal (dC (.int 1)))))))))))
abbrev B_is_end : PSpec := bodyW [] 1 1 w_is_end
def w_is_span : DS :=
  (dRet (dAnd (dIsi "tuple" (oVar 0)) (dAnd (dBin gEq (oVal (dCB gLen (aCons (oVar 0) aNil))) (oVal (dC (.int 2)))) (dAnd (dCall C_is_end (aCons (oVal (dBin gIx (oVar 0) (oVal (dC (.int 0))))) aNil)) (dCall C_is_end (aCons (oVal (dBin gIx (oVar 0) (oVal (dC (.int 1))))) aNil))))))
abbrev B_is_span : PSpec := bodyW [] 1 1 w_is_span
def w_is_box : DS :=
  (dRet (dAnd (dIsi "tuple" (oVar 0)) (dAnd (dBin gEq (oVal (dCB gLen (aCons (oVar 0) aNil))) (oVar 1)) (dCB gAll (aCons (oVal (dComp (iOf (dVar 0)) [2] (gN 2) tAll (dCall C_is_span (aCons (oVar 2) aNil)))) aNil)))))
abbrev B_is_box : PSpec := bodyW [] 3 2 w_is_box
def w__law_truth : DS :=
  (dRet (dAnd (dIsi "bool" (oVar 0)) (dBin gEq (oVar 0) (oVar 1))))
abbrev B__law_truth : PSpec := bodyW [] 2 2 w__law_truth
def w__law_odd : DS :=
  (dSeq (dAsg 0 (dLst (aCons (oVal (dC .non)) (aCons (oVal (dC (.bl true))) (aCons (oVal (dC (.bl false))) (aCons (oVal (dC (.int 0))) (aCons (oVal (dUn gNeg (oVal (dC (.int 1))))) (aCons (oVal (dC (.int 7))) (aCons (oVal (dC (.str ""))) (aCons (oVal (dC (.str "box"))) (aCons (oVal (dTup aNil)) (aCons (oVal (dLst aNil)) (aCons (oVal (dC (.dic [] []))) (aCons (oVal (dTup (aCons (oVal (dC .non)) aNil))) (aCons (oVal (dTup (aCons (oVal (dTup aNil)) aNil))) (aCons (oVal (dTup (aCons (oVal (dTup (aCons (oVal (dC .non)) (aCons (oVal (dC .non)) aNil)))) aNil))) (aCons (oVal (dLst (aCons (oVal (dTup (aCons (oVal (dTup (aCons (oVal (dC (.int 0))) (aCons (oVal (dC (.bl true))) aNil)))) (aCons (oVal (dC .non)) aNil)))) aNil))) aNil)))))))))))))))))
    (dSeq (dAsg 0 (dBin gAdd (oVar 0) (oVal (dLst (aCons (oVal (dTup (aCons (oVal (dC (.int 0))) aNil))) (aCons (oVal (dTup (aCons (oVal (dC (.int 0))) (aCons (oVal (dC (.int 0))) aNil)))) (aCons (oVal (dLst (aCons (oVal (dC (.int 0))) aNil))) (aCons (oVal (dTup (aCons (oVal (dC (.bl true))) aNil))) (aCons (oVal (dTup (aCons (oVal (dC (.str "0"))) aNil))) (aCons (oVal (dTup (aCons (oVal (dTup (aCons (oVal (dC (.int 0))) (aCons (oVal (dC (.bl true))) aNil)))) aNil))) (aCons (oVal (dTup (aCons (oVal (dTup (aCons (oVal (dTup (aCons (oVal (dC (.int 0))) (aCons (oVal (dC (.bl true))) aNil)))) (aCons (oVal (dC .non)) aNil)))) aNil))) (aCons (oVal (dTup (aCons (oVal (dTup (aCons (oVal (dTup (aCons (oVal (dC (.int 0))) (aCons (oVal (dC (.int 1))) aNil)))) (aCons (oVal (dC .non)) aNil)))) aNil))) aNil))))))))))))
    (dSeq (dAsg 0 (dBin gAdd (oVar 0) (oVal (dLst (aCons (oVal (dTup (aCons (oVal (dTup (aCons (oVal (dC (.int 0))) (aCons (oVal (dC .non)) aNil)))) aNil))) (aCons (oVal (dTup (aCons (oVal (dTup (aCons (oVal (dTup (aCons (oVal (dC (.int 0))) (aCons (oVal (dC (.bl true))) aNil)))) aNil))) aNil))) (aCons (oVal (dTup (aCons (oVal (dTup (aCons (oVal (dC .non)) (aCons (oVal (dC .non)) (aCons (oVal (dC .non)) aNil))))) aNil))) (aCons (oVal (dTup (aCons (oVal (dTup (aCons (oVal (dTup (aCons (oVal (dC (.bl true))) (aCons (oVal (dC (.bl true))) aNil)))) (aCons (oVal (dC .non)) aNil)))) aNil))) aNil))))))))
    (dSeq (dAsg 0 (dBin gAdd (oVar 0) (oVal (dLst (aCons (oVal (dTup (aCons (oVal (dTup (aCons (oVal (dTup (aCons (oVal (dC .non)) (aCons (oVal (dC (.bl true))) aNil)))) (aCons (oVal (dC .non)) aNil)))) aNil))) aNil)))))
    (dSeq (dAsg 0 (dBin gAdd (oVar 0) (oVal (dLst (aCons (oVal (dTup (aCons (oVal (dTup (aCons (oVal (dTup (aCons (oVal (dC (.str "0"))) (aCons (oVal (dC (.bl true))) aNil)))) (aCons (oVal (dC .non)) aNil)))) aNil))) (aCons (oVal (dTup (aCons (oVal (dTup (aCons (oVal (dLst (aCons (oVal (dC (.int 0))) (aCons (oVal (dC (.bl true))) aNil)))) (aCons (oVal (dC .non)) aNil)))) aNil))) (aCons (oVal (dTup (aCons (oVal (dLst (aCons (oVal (dC .non)) (aCons (oVal (dC .non)) aNil)))) aNil))) (aCons (oVal (dTup (aCons (oVal (dTup (aCons (oVal (dTup (aCons (oVal (dC (.int 0))) (aCons (oVal (dC (.bl true))) (aCons (oVal (dC (.int 1))) aNil))))) (aCons (oVal (dC .non)) aNil)))) aNil))) aNil))))))))
    (dRet (dBin gAdd (oVar 0) (oVal (dLst (aCons (oVal (dC (.dic [.inr "box"] [.int 1]))) aNil))))))))))
abbrev B__law_odd : PSpec := bodyW [] 1 0 w__law_odd
def w__law_is_place : DS :=
  (dRet (dAnd (dIsi "tuple" (oVar 0)) (dAnd (dBin gEq (oVal (dCB gLen (aCons (oVar 0) aNil))) (oVar 1)) (dCB gAll (aCons (oVal (dComp (iOf (dVar 0)) [2] (gN 2) tAll (dCall C__law_whole (aCons (oVar 2) aNil)))) aNil)))))
abbrev B__law_is_place : PSpec := bodyW [] 3 2 w__law_is_place
def w__law_is_end : DS :=
  (dSeq (dIfS (tVal (dBin gIsN (oVar 0) (oVal (dC .non))))
    (dRet (dC (.bl true)))
    dNext)
    (dRet (dAnd (dIsi "tuple" (oVar 0)) (dAnd (dBin gEq (oVal (dCB gLen (aCons (oVar 0) aNil))) (oVal (dC (.int 2)))) (dAnd (dCall C__law_whole (aCons (oVal (dBin gIx (oVar 0) (oVal (dC (.int 0))))) aNil)) (dIsi "bool" (oVal (dBin gIx (oVar 0) (oVal (dC (.int 1)))))))))))
abbrev B__law_is_end : PSpec := bodyW [] 1 1 w__law_is_end
def w__law_is_box : DS :=
  (dSeq (dIfS (tOr (tNot (tVal (dIsi "tuple" (oVar 0)))) (tVal (dBin gNe (oVal (dCB gLen (aCons (oVar 0) aNil))) (oVar 1))))
    (dRet (dC (.bl false)))
    dNext)
    (dSeq (dFor (iOf (dVar 0)) (gN 2)
    (dIfS (tOr (tNot (tVal (dIsi "tuple" (oVar 2)))) (tOr (tVal (dBin gNe (oVal (dCB gLen (aCons (oVar 2) aNil))) (oVal (dC (.int 2))))) (tNot (tVal (dCB gAll (aCons (oVal (dComp (iOf (dVar 2)) [3] (gN 3) tAll (dCall C__law_is_end (aCons (oVar 3) aNil)))) aNil))))))
    (dRet (dC (.bl false)))
    dNext))
    (dRet (dC (.bl true)))))
abbrev B__law_is_box : PSpec := bodyW [] 4 2 w__law_is_box
theorem isW_frz (d : D) : isW d.frz = isW d := by cases d <;> rfl
theorem isEnd_frz (d : D) : isEnd d.frz = isEnd d := by cases d <;> rfl
theorem isSpan_frz (d : D) : isSpan d.frz = isSpan d := by cases d <;> rfl
theorem all_f (f : D → Bool) (xs : List D) : (xs.map f).all id = xs.all f := by rw [List.all_map]; rfl
theorem two_of {xs : List D} (h : ((xs.length : Int) == 2) = true) : ∃ a b, xs = [a, b] := by
  have h : xs.length = 2 := by
    have := eq_of_beq h
    omega
  match xs, h with
  | [a, b], _ => exact ⟨a, b, rfl⟩
theorem isPlace_no {xs : List D} {n : Int} (h : ((xs.length : Int) == n) = false) : isPlace (.tup xs) n = false := by simp only [isPlace, h, Bool.false_and]
theorem isBox_no {xs : List D} {n : Int} (h : ((xs.length : Int) == n) = false) : isBox (.tup xs) n = false := by simp only [isBox, h, Bool.false_and]
theorem isSpan_no {xs : List D} (h : ((xs.length : Int) == 2) = false) : isSpan (.tup xs) = false := by
  match xs, h with
  | [], _ => rfl
  | [a], _ => rfl
  | [a, b], h => simp at h
  | a :: b :: c :: r, _ => rfl
theorem isEnd_no {xs : List D} (h : ((xs.length : Int) == 2) = false) : isEnd (.tup xs) = false := by
  match xs, h with
  | [], _ => rfl
  | [a], _ => rfl
  | [a, b], h => simp at h
  | a :: b :: c :: r, _ => cases b <;> rfl
theorem imp_is_place : ∀ ds Q, C_is_place ds Q → B_is_place ds Q := by
  rintro ds Q ⟨d, n, rfl, hn, q⟩
  refine ⟨rfl, ?_⟩
  have sl := sizeLine_eq
  cases d with
  | tup xs =>
    simp only [w_is_place, Bx.go]
    refine ⟨eqOk_int _ _, ?_⟩
    rw [eqv_int]
    cases h : ((xs.length : Int) == n)
    · simp only [Bx.go]
      rw [isPlace_no h] at q
      exact q
    · have h' := eq_of_beq h
      simp only [Bx.go]
      rw [← List.map_id xs]
      refine ⟨by simp; omega, co_map xs id (fun x => .bl (isW x)) (fun x hx acc N hN => ?_) ?_⟩
      · simp only [id, Bx.go]
        refine ⟨_, rfl, ?_⟩
        rw [isW_frz]
        simp only [Bx.go]
        exact hN
      · simp only [asBls_f, backR, Bx.go]
        rw [all_f]
        simp only [isPlace, h, Bool.true_and] at q
        exact q
  | _ => simp only [w_is_place, Bx.go]; exact q
theorem imp_is_end : ∀ ds Q, C_is_end ds Q → B_is_end ds Q := by
  rintro ds Q ⟨d, rfl, q⟩
  refine ⟨rfl, ?_⟩
  cases d with
  | tup xs =>
    simp only [w_is_end, Bx.go]
    refine ⟨eqOk_int _ _, ?_⟩
    rw [eqv_int]
    cases h : ((xs.length : Int) == 2)
    · simp only [Bx.go]
      rw [isEnd_no h] at q
      exact q
    · obtain ⟨a, b, rfl⟩ := two_of h
      simp only [p0, Bx.go]
      refine ⟨_, rfl, ?_⟩
      rw [isW_frz]
      cases hw : isW a
      · simp only [Bx.go]
        have : isEnd (.tup [a, b]) = false := by cases b <;> simp [isEnd, hw]
        rw [this] at q
        exact q
      · simp only [p1, Bx.go]
        have : isEnd (.tup [a, b]) = isTy b.ty "bool" := by cases b <;> simp [isEnd, hw, D.ty] <;> rfl
        rw [this] at q
        exact q
  | _ => simp only [w_is_end, Bx.go]; exact q
theorem imp_is_span : ∀ ds Q, C_is_span ds Q → B_is_span ds Q := by
  rintro ds Q ⟨d, rfl, q⟩
  refine ⟨rfl, ?_⟩
  cases d with
  | tup xs =>
    simp only [w_is_span, Bx.go]
    refine ⟨eqOk_int _ _, ?_⟩
    rw [eqv_int]
    cases h : ((xs.length : Int) == 2)
    · simp only [Bx.go]
      rw [isSpan_no h] at q
      exact q
    · obtain ⟨a, b, rfl⟩ := two_of h
      simp only [p0, Bx.go]
      refine ⟨_, rfl, ?_⟩
      rw [isEnd_frz]
      cases hw : isEnd a
      · simp only [Bx.go]
        simp only [isSpan, hw, Bool.false_and] at q
        exact q
      · simp only [p1, Bx.go]
        refine ⟨_, rfl, ?_⟩
        rw [isEnd_frz]
        simp only [isSpan, hw, Bool.true_and] at q
        exact q
  | _ => simp only [w_is_span, Bx.go]; exact q
theorem imp_is_box : ∀ ds Q, C_is_box ds Q → B_is_box ds Q := by
  rintro ds Q ⟨d, n, rfl, hn, q⟩
  refine ⟨rfl, ?_⟩
  have sl := sizeLine_eq
  cases d with
  | tup xs =>
    simp only [w_is_box, Bx.go]
    refine ⟨eqOk_int _ _, ?_⟩
    rw [eqv_int]
    cases h : ((xs.length : Int) == n)
    · simp only [Bx.go]
      rw [isBox_no h] at q
      exact q
    · have h' := eq_of_beq h
      simp only [Bx.go]
      rw [← List.map_id xs]
      refine ⟨by simp; omega, co_map xs id (fun x => .bl (isSpan x)) (fun x hx acc N hN => ?_) ?_⟩
      · simp only [id, Bx.go]
        refine ⟨_, rfl, ?_⟩
        rw [isSpan_frz]
        simp only [Bx.go]
        exact hN
      · simp only [asBls_f, backR, Bx.go]
        rw [all_f]
        simp only [isBox, h, Bool.true_and] at q
        exact q
  | _ => simp only [w_is_box, Bx.go]; exact q
theorem imp__law_truth : ∀ ds Q, C__law_truth ds Q → B__law_truth ds Q := by
  rintro ds Q ⟨a, b, rfl, q⟩
  refine ⟨rfl, ?_⟩
  simp only [w__law_truth, Bx.go]
  refine ⟨eqOk_bl _ _, ?_⟩
  rw [eqv_bl]
  exact q
theorem imp__law_odd : ∀ ds Q, C__law_odd ds Q → B__law_odd ds Q := by
  rintro ds Q ⟨rfl, q⟩
  refine ⟨rfl, ?_⟩
  have sl := sizeLine_eq
  simp only [w__law_odd, Bx.go]
  refine ⟨by decide, by decide, by decide, by decide, by decide, ?_⟩
  exact q _ (by simp)
theorem imp__law_is_place : ∀ ds Q, C__law_is_place ds Q → B__law_is_place ds Q := imp_is_place
theorem imp__law_is_end : ∀ ds Q, C__law_is_end ds Q → B__law_is_end ds Q := imp_is_end
theorem imp__law_is_box : ∀ ds Q, C__law_is_box ds Q → B__law_is_box ds Q := by
  rintro ds Q ⟨d, n, rfl, hn, q⟩
  refine ⟨rfl, ?_⟩
  have sl := sizeLine_eq
  cases d with
  | tup xs =>
    simp only [w__law_is_box, Bx.go]
    refine ⟨eqOk_int _ _, ?_⟩
    rw [eqv_int]
    cases h : ((xs.length : Int) == n)
    · simp only [Bx.go]
      rw [isBox_no h] at q
      exact q
    · have h' := eq_of_beq h
      simp only [isBox, h, Bool.true_and] at q
      simp only [Bx.go]
      rw [← List.map_id xs]
      refine for_each xs id (fun dn ρ => dn.all isSpan = true ∧ ∃ x2 x3, ρ = [some (.tup (xs.map id)), some (.int n), x2, x3]) ⟨rfl, _, _, rfl⟩ ?_ ?_
      · rintro dn x r ρ N e ⟨hd, x2, x3, rfl⟩ hN
        have q0 : isSpan x = false → Q (.bl false) [] := fun hx => by
          rw [e] at q
          simp only [List.all_append, List.all_cons, hx, Bool.false_and, Bool.and_false] at q
          exact q
        have h1 : isSpan x = true → ∀ x2 x3, N [some (.tup (xs.map id)), some (.int n), x2, x3] := fun hx x2 x3 => hN _ ⟨by simp [hd, hx], _, _, rfl⟩
        clear hN q
        cases x with
        | tup ys =>
          simp only [id, Bx.go]
          refine ⟨eqOk_int _ _, ?_⟩
          rw [eqv_int]
          cases h2 : ((ys.length : Int) == 2)
          · simp only [Bx.go]
            exact q0 (isSpan_no h2)
          · obtain ⟨a, b, rfl⟩ := two_of h2
            simp only [Bx.go]
            refine ⟨by rw [sl]; decide, ?_⟩
            have e2 : ([a, b] : List D) = [a, b].map id := rfl
            rw [e2]
            refine co_map [a, b] id (fun x => .bl (isEnd x)) (fun x hx acc N hN => ?_) ?_
            · simp only [id, Bx.go]
              refine ⟨_, rfl, ?_⟩
              rw [isEnd_frz]
              simp only [Bx.go]
              exact hN
            · have z : asBls [D.bl (isEnd a), D.bl (isEnd b)] = some [isEnd a, isEnd b] := rfl
              simp only [z, backR, Bx.go]
              simp only [List.all_cons, List.all_nil, id, Bool.and_true]
              cases h3 : (isEnd a && isEnd b)
              · simp only [Bx.go]
                exact q0 h3
              · simp only [Bx.go]
                exact h1 h3 _ _
        | _ =>
          simp only [id, Bx.go]
          exact q0 rfl
      · rintro ρ ⟨hd, x2, x3, rfl⟩
        simp only [Bx.go]
        rw [hd] at q
        exact q
  | _ => simp only [w__law_is_box, Bx.go]; exact q
/-! ### plain boxes -/
abbrev C_plain_of : PSpec := Zb.C_plain_of
abbrev C_is_pair : PSpec := Zb.C_is_pair
def C__law_plain : PSpec := Zb.C_plain_box
def w__law_plain : DS :=
  (dSeq (dAsg 1 (dLst aNil))
    (dSeq (dFor (iOf (dVar 0)) (gT (gsCons (gN 2) (gsCons (gN 3) gsNil)) 2)
    (dSeq (dAsg 4 (dIf (tVal (dBin gIsN (oVar 2) (oVal (dC .non)))) (dC .non) (dBin gSub (oVal (dBin gAdd (oVal (dBin gIx (oVar 2) (oVal (dC (.int 0))))) (oVal (dC (.int 1))))) (oVal (dCB gInt (aCons (oVal (dBin gIx (oVar 2) (oVal (dC (.int 1))))) aNil))))))
    (dSeq (dAsg 5 (dIf (tVal (dBin gIsN (oVar 3) (oVal (dC .non)))) (dC .non) (dBin gAdd (oVal (dBin gSub (oVal (dBin gIx (oVar 3) (oVal (dC (.int 0))))) (oVal (dC (.int 1))))) (oVal (dCB gInt (aCons (oVal (dBin gIx (oVar 3) (oVal (dC (.int 1))))) aNil))))))
    (dExp (dApp 1 (dTup (aCons (oVar 4) (aCons (oVar 5) aNil))))))))
    (dSeq (dIfS (tVal (dCB gAny (aCons (oVal (dComp (iOf (dVar 1)) [4, 5] (gT (gsCons (gN 4) (gsCons (gN 5) gsNil)) 2) tAll (dAnd (dBin gNotN (oVar 4) (oVal (dC .non))) (dAnd (dBin gNotN (oVar 5) (oVal (dC .non))) (dBin gGt (oVar 4) (oVar 5)))))) aNil)))
    (dRet (dBin gTMul (oVal (dTup (aCons (oVal (dTup (aCons (oVal (dC (.int 1))) (aCons (oVal (dC (.int 0))) aNil)))) aNil))) (oVal (dCB gLen (aCons (oVar 1) aNil)))))
    dNext)
    (dRet (dCB gTuple (aCons (oVar 1) aNil))))))
abbrev B__law_plain : PSpec := bodyW [] 6 1 w__law_plain
theorem imp__law_plain : ∀ ds Q, C__law_plain ds Q → B__law_plain ds Q := by
  rintro ds Q ⟨b, rfl, hl, q⟩
  refine ⟨rfl, ?_⟩
  have sl := sizeLine_eq
  have pz : ∀ p, (pD p).frz = pD p := fun _ => rfl
  have oz : ∀ o, (oD o).frz = oD o := fun o => by cases o <;> rfl
  simp only [w__law_plain, Bx.go]
  refine for_rule (fun items ρ => ∃ (dn r : List (Eg × Eg)) (x2 x3 x4 x5 : Option D), b = dn ++ r ∧ items = r.map sD ∧ ρ = [some (.tup (b.map sD)), some (.lst true (dn.map fun s => pD (pl s))), x2, x3, x4, x5]) ⟨[], b, _, _, _, _, rfl, rfl, rfl⟩ ?_ ?_
  · rintro ρ ⟨dn, r, x2, x3, x4, x5, e1, e2, rfl⟩
    have er : r = [] := by simpa using e2.symm
    subst er
    rw [List.append_nil] at e1
    subst e1
    dsimp only
    refine seq_cut (fun ρ => (b.map pl).any cr = false ∧ ∃ x4 x5 : Option D, ρ = [some (.tup (b.map sD)), some (.lst false (b.map fun s => pD (pl s))), x2, x3, x4, x5]) (fun R hR => ?_) ?_
    · simp only [Bx.go]
      refine ⟨by omega, comp_rule (fun items acc ρ => ∃ (dn r : List (Eg × Eg)), b = dn ++ r ∧ items = r.map (fun s => pD (pl s)) ∧ acc = dn.map (fun s => .bl (cr (pl s))) ∧ ρ = [some (.tup (b.map sD)), some (.lst false (b.map fun s => pD (pl s))), x2, x3, none, none]) ⟨[], b, rfl, rfl, rfl, rfl⟩ ?_ ?_⟩
      · rintro acc ρ ⟨dn, r, e1, e2, rfl, rfl⟩
        have er : r = [] := by simpa using e2.symm
        subst er
        rw [List.append_nil] at e1
        subst e1
        simp only [asBls_f, backR, Bx.go]
        have ea : (b.map fun s => cr (pl s)).any id = (b.map pl).any cr := by rw [List.any_map, List.any_map]; rfl
        rw [ea]
        unfold plainOf at q
        cases hc : (b.map pl).any cr
        · simp only [Bx.go]
          exact hR _ ⟨hc, _, _, rfl⟩
        · rw [hc] at q
          simp only [Bx.go]
          have hb0 : b ≠ [] := fun e => by subst e; simp at hc
          have hb1 : 0 < b.length := List.length_pos_iff.mpr hb0
          refine ⟨⟨by simp, by omega, by omega, by simp⟩, ?_⟩
          have q : Q (.tup (List.map pD ((b.map pl).map fun _ => ((some 1, some 0) : Pr)))) [] := q
          have e := empties b
          rw [e]
          exact q
      · rintro x it acc ρ N ⟨dn, r, e1, e2, rfl, rfl⟩ hN
        cases r with
        | nil => simp at e2
        | cons y r =>
        simp only [List.map_cons, List.cons.injEq] at e2
        obtain ⟨rfl, rfl⟩ := e2
        have hN := hN (dn.map (fun s => .bl (cr (pl s))) ++ [.bl (cr (pl y))]) _ ⟨dn ++ [y], r, by simp [e1], rfl, by simp, rfl⟩
        generalize pl y = p at hN ⊢
        obtain ⟨u, v⟩ := p
        cases u with
        | none =>
          simp only [pD, oD, Bx.go]
          exact hN
        | some u =>
          cases v with
          | none =>
            simp only [pD, oD, Bx.go]
            exact hN
          | some v =>
            simp only [pD, oD, Bx.go]
            exact hN
    rintro _ ⟨hc, x4, x5, rfl⟩
    unfold plainOf at q
    rw [hc] at q
    have q : Q (.tup (List.map pD (b.map pl))) [] := q
    rw [List.map_map] at q
    simp only [Bx.go]
    exact q
  · rintro x it ρ N ⟨dn, r, x2, x3, x4, x5, e1, e2, rfl⟩ hN
    have hl2 : dn.length + r.length ≤ 1000 := by rw [e1] at hl; simpa using hl
    cases r with
    | nil => simp at e2
    | cons s r =>
    simp only [List.map_cons, List.cons.injEq] at e2
    obtain ⟨rfl, rfl⟩ := e2
    obtain ⟨l, h⟩ := s
    simp only [List.length_cons] at hl2
    simp only [sD, eD_frz, u1_gT, u2_gT, u1_gsCons, u2_gsCons, u1_gsNil, u2_gsNil, u1_kGs, u1_gN, u1_kForB, rset_s, rset_0, rget_s, rget_0, D.seq, D.sql, u_onSome_some, frz_tup, frz_int, frz_bl, frz_lst, frz_str, frz_non, frz_scr, List.length_cons, List.length_nil, List.map_cons, List.map_nil, Option.bind_some, true_and, and_true]
    refine seq_cut (fun ρ => ρ = [some (.tup (b.map sD)), some (.lst true (dn.map fun s => pD (pl s))), some (eD l), some (eD h), some (oD (pl (l, h)).1), x5]) (fun R hR => ?_) ?_
    · have hR := hR _ rfl
      cases l with
      | none =>
        simp only [eD, pl, oD, Bx.go] at hR ⊢
        exact hR
      | some l =>
        obtain ⟨x, c⟩ := l
        simp only [eD, pl, oD, p0, p1, Bx.go] at hR ⊢
        cases c
        · simp only [Bool.false_eq_true, if_false] at hR ⊢
          rw [show x + 1 - 0 = x + 1 by omega]; exact hR
        · simp only [if_true] at hR ⊢
          rw [show x + 1 - 1 = x + 0 by omega]; exact hR
    rintro _ rfl
    refine seq_cut (fun ρ => ρ = [some (.tup (b.map sD)), some (.lst true (dn.map fun s => pD (pl s))), some (eD l), some (eD h), some (oD (pl (l, h)).1), some (oD (pl (l, h)).2)]) (fun R hR => ?_) ?_
    · have hR := hR _ rfl
      generalize oD (pl (l, h)).1 = z at hR ⊢
      cases h with
      | none =>
        simp only [eD, pl, oD, Bx.go] at hR ⊢
        exact hR
      | some h =>
        obtain ⟨x, c⟩ := h
        simp only [eD, pl, oD, p0, p1, Bx.go] at hR ⊢
        cases c
        · simp only [Bool.false_eq_true, if_false] at hR ⊢
          rw [show x - 1 + 0 = x - 1 by omega]; exact hR
        · simp only [if_true] at hR ⊢
          rw [show x - 1 + 1 = x - 0 by omega]; exact hR
    rintro _ rfl
    simp only [oz, Bx.go]
    refine ⟨by omega, hN _ ⟨dn ++ [(l, h)], r, some (eD l), some (eD h), some (oD (pl (l, h)).1), some (oD (pl (l, h)).2), by simp [e1], rfl, by simp [pD]⟩⟩
theorem fl_pl (l h : Eg) (n : Int) : fl l n = (match (pl (l, h)).1 with | none => true | some a => decide (a ≤ n)) := by
  cases l with
  | none => rfl
  | some l =>
    obtain ⟨x, b⟩ := l
    cases b
    · simp only [fl, pl, Bool.and_false, Bool.or_false, Bool.false_eq_true, if_false]
      exact decide_eq_decide.mpr (by omega)
    · simp only [fl, pl, Bool.and_true, if_true, Int.add_zero]
      by_cases h1 : x < n
      · rw [decide_eq_true h1, decide_eq_true (by omega)]; rfl
      · by_cases h2 : n = x
        · subst h2; simp
        · rw [decide_eq_false h1, decide_eq_false (by omega)]; simpa using h2
theorem fh_pl (l h : Eg) (n : Int) : fh h n = (match (pl (l, h)).2 with | none => true | some a => decide (n ≤ a)) := by
  cases h with
  | none => rfl
  | some h =>
    obtain ⟨x, b⟩ := h
    cases b
    · simp only [fh, pl, Bool.and_false, Bool.or_false, Bool.false_eq_true, if_false]
      exact decide_eq_decide.mpr (by omega)
    · simp only [fh, pl, Bool.and_true, if_true, Int.sub_zero]
      by_cases h1 : n < x
      · rw [decide_eq_true h1, decide_eq_true (by omega)]; rfl
      · by_cases h2 : n = x
        · subst h2; simp
        · rw [decide_eq_false h1, decide_eq_false (by omega)]; simpa using h2
theorem fit1 (l h : Eg) (n : Int) : fitB [(l, h)] [n] = ((match (pl (l, h)).1 with | none => true | some a => decide (a ≤ n)) && (match (pl (l, h)).2 with | none => true | some a => decide (n ≤ a))) := by
  simp only [fitB, Bool.and_true]
  rw [fl_pl l h, fh_pl l h]
def C__law_same : Nat → PSpec := sSame
theorem zero__law_same : ∀ ds Q, ¬ C__law_same 0 ds Q := fun _ _ h => h
def w__law_same (n : Nat) : DS :=
  (dSeq (dIfS (tVal (dIsi "tuple" (oVar 1)))
    (dSeq (dIfS (tOr (tNot (tVal (dIsi "tuple" (oVar 0)))) (tVal (dBin gNe (oVal (dCB gLen (aCons (oVar 0) aNil))) (oVal (dCB gLen (aCons (oVar 1) aNil))))))
    (dRet (dC (.bl false)))
    dNext)
    (dRet (dCB gAll (aCons (oVal (dComp (iZX (aCons (oVar 0) (aCons (oVar 1) aNil))) [2, 3] (gT (gsCons (gN 2) (gsCons (gN 3) gsNil)) 2) tAll (dCall (C__law_same n) (aCons (oVar 2) (aCons (oVar 3) aNil))))) aNil))))
    dNext)
    (dSeq (dIfS (tVal (dBin gIsN (oVar 1) (oVal (dC .non))))
    (dRet (dBin gIsN (oVar 0) (oVal (dC .non))))
    dNext)
    (dSeq (dIfS (tOr (tVal (dIsi "bool" (oVar 1))) (tVal (dIsi "bool" (oVar 0))))
    (dRet (dAnd (dIsi "bool" (oVar 1)) (dAnd (dIsi "bool" (oVar 0)) (dBin gEq (oVar 0) (oVar 1)))))
    dNext)
    (dSeq (dIfS (tVal (dIsi "str" (oVar 1)))
    (dRet (dAnd (dIsi "str" (oVar 0)) (dBin gEq (oVar 0) (oVar 1))))
    dNext)
    (dRet (dAnd (dIsi "int" (oVar 0)) (dBin gEq (oVar 0) (oVar 1))))))))
abbrev B__law_same (n : Nat) : PSpec := bodyW [] 4 2 (w__law_same n)
theorem imp__law_same (n : Nat) : ∀ ds Q, C__law_same (n + 1) ds Q → B__law_same n ds Q := imp_same2 n
def C__law_same1 : Nat → PSpec := sSame
theorem zero__law_same1 : ∀ ds Q, ¬ C__law_same1 0 ds Q := fun _ _ h => h
def w__law_same1 (n : Nat) : DS :=
  (dSeq (dIfS (tVal (dIsi "tuple" (oVar 1)))
    (dSeq (dIfS (tOr (tNot (tVal (dIsi "tuple" (oVar 0)))) (tVal (dBin gNe (oVal (dCB gLen (aCons (oVar 0) aNil))) (oVal (dCB gLen (aCons (oVar 1) aNil))))))
    (dRet (dC (.bl false)))
    dNext)
    (dRet (dCB gAll (aCons (oVal (dComp (iZX (aCons (oVar 0) (aCons (oVar 1) aNil))) [2, 3] (gT (gsCons (gN 2) (gsCons (gN 3) gsNil)) 2) tAll (dCall (C__law_same1 n) (aCons (oVar 2) (aCons (oVar 3) aNil))))) aNil))))
    dNext)
    (dSeq (dIfS (tVal (dBin gIsN (oVar 1) (oVal (dC .non))))
    (dRet (dBin gIsN (oVar 0) (oVal (dC .non))))
    dNext)
    (dSeq (dIfS (tVal (dIsi "str" (oVar 1)))
    (dRet (dAnd (dIsi "str" (oVar 0)) (dBin gEq (oVar 0) (oVar 1))))
    dNext)
    (dSeq (dIfS (tOr (tVal (dIsi "bool" (oVar 1))) (tVal (dIsi "bool" (oVar 0))))
    (dRet (dAnd (dIsi "bool" (oVar 0)) (dAnd (dIsi "bool" (oVar 1)) (dBin gEq (oVar 0) (oVar 1)))))
    dNext)
    (dRet (dAnd (dIsi "int" (oVar 0)) (dBin gEq (oVar 0) (oVar 1))))))))
abbrev B__law_same1 (n : Nat) : PSpec := bodyW [] 4 2 (w__law_same1 n)
theorem imp__law_same1 (n : Nat) : ∀ ds Q, C__law_same1 (n + 1) ds Q → B__law_same1 n ds Q := imp_same n
def numO : D → Option Int
  | .int i => some i
  | _ => none
def toPr : D → Pr
  | .tup [a, b] => (numO a, numO b)
  | _ => (none, none)
theorem num_o {d : D} (h : pnum d = true) : d = oD (numO d) := by
  cases d <;> first | rfl | cases h
theorem pair_p {d : D} (h : isPair d = true) : d = pD (toPr d) := by
  cases d with
  | tup xs =>
    match xs, h with
    | [a, b], h =>
      simp only [isPair, Bool.and_eq_true] at h
      show D.tup [a, b] = .tup [oD (numO a), oD (numO b)]
      rw [← num_o h.1, ← num_o h.2]
    | a :: b :: c :: r, h => simp [isPair] at h
  | _ => cases h
theorem pairs_p {xs : List D} (h : xs.all isPair = true) : xs = (xs.map toPr).map pD := by
  rw [List.map_map]
  refine (List.map_id xs).symm.trans (List.map_congr_left fun x hx => ?_)
  exact pair_p (List.all_eq_true.mp h x hx)
def isPlain : D → Int → Bool
  | .tup xs, n => ((xs.length : Int) == n) && (xs.all isPair && decide (plainOf (xs.map toPr) = xs.map toPr))
  | _, _ => false
def C_is_plain : PSpec := fun ds Q => ∃ (d : D) (n : Int), ds = [d, .int n] ∧ n ≤ 1000 ∧ Q (.bl (isPlain d n)) []
def C__law_is_plain : PSpec := fun ds Q => ∃ (d : D) (n : Int), ds = [d, .int n] ∧ 1 ≤ n ∧ n ≤ 1000 ∧ Q (.bl (isPlain d n)) []
def w_is_plain : DS :=
  (dSeq (dIfS (tOr (tNot (tVal (dIsi "tuple" (oVar 0)))) (tOr (tVal (dBin gNe (oVal (dCB gLen (aCons (oVar 0) aNil))) (oVar 1))) (tNot (tVal (dCB gAll (aCons (oVal (dComp (iOf (dVar 0)) [2] (gN 2) tAll (dCall C_is_pair (aCons (oVar 2) aNil)))) aNil))))))
    (dRet (dC (.bl false)))
    dNext)
    (dRet (dBin gEq (oVal (dCall C_plain_of (aCons (oVar 0) aNil))) (oVar 0))))
abbrev B_is_plain : PSpec := bodyW [] 3 2 w_is_plain
def w__law_is_plain : DS :=
  (dSeq (dIfS (tOr (tNot (tVal (dIsi "tuple" (oVar 0)))) (tVal (dBin gNe (oVal (dCB gLen (aCons (oVar 0) aNil))) (oVar 1))))
    (dRet (dC (.bl false)))
    dNext)
    (dSeq (dFor (iOf (dVar 0)) (gN 2)
    (dIfS (tOr (tNot (tVal (dIsi "tuple" (oVar 2)))) (tOr (tVal (dBin gNe (oVal (dCB gLen (aCons (oVar 2) aNil))) (oVal (dC (.int 2))))) (tNot (tVal (dCB gAll (aCons (oVal (dComp (iOf (dVar 2)) [4] (gN 4) tAll (dOr (dBin gIsN (oVar 4) (oVal (dC .non))) (dCall C__law_whole (aCons (oVar 4) aNil))))) aNil))))))
    (dRet (dC (.bl false)))
    dNext))
    (dSeq (dAsg 3 (dComp (iOf (dVar 0)) [2] (gN 2) (tAnd (tVal (dBin gNin (oVal (dC .non)) (oVar 2))) (tVal (dBin gGt (oVal (dBin gIx (oVar 2) (oVal (dC (.int 0))))) (oVal (dBin gIx (oVar 2) (oVal (dC (.int 1)))))))) (dVar 2)))
    (dRet (dOr (dBin gEq (oVar 3) (oVal (dLst aNil))) (dBin gEq (oVar 0) (oVal (dBin gTMul (oVal (dTup (aCons (oVal (dTup (aCons (oVal (dC (.int 1))) (aCons (oVal (dC (.int 0))) aNil)))) aNil))) (oVar 1)))))))))
abbrev B__law_is_plain : PSpec := bodyW [] 5 2 w__law_is_plain
theorem isPlain_no {xs : List D} {n : Int} (h : ((xs.length : Int) == n) = false) : isPlain (.tup xs) n = false := by simp only [isPlain, h, Bool.false_and]
theorem isPair_frz (d : D) : isPair d.frz = isPair d := by cases d <;> rfl
theorem isPair_no {xs : List D} (h : ((xs.length : Int) == 2) = false) : isPair (.tup xs) = false := by
  match xs, h with
  | [], _ => rfl
  | [a], _ => rfl
  | [a, b], h => simp at h
  | a :: b :: c :: r, _ => rfl
theorem imp_is_plain : ∀ ds Q, C_is_plain ds Q → B_is_plain ds Q := by
  rintro ds Q ⟨d, n, rfl, hn, q⟩
  refine ⟨rfl, ?_⟩
  have sl := sizeLine_eq
  cases d with
  | tup xs =>
    simp only [w_is_plain, Bx.go]
    refine ⟨eqOk_int _ _, ?_⟩
    rw [eqv_int]
    cases h : ((xs.length : Int) == n)
    · simp only [Bx.go]
      rw [isPlain_no h] at q
      exact q
    · have h' := eq_of_beq h
      simp only [Bx.go]
      rw [← List.map_id xs]
      refine ⟨by simp; omega, co_map xs id (fun x => .bl (isPair x)) (fun x hx acc N hN => ?_) ?_⟩
      · simp only [id, Bx.go]
        refine ⟨_, rfl, ?_⟩
        rw [isPair_frz]
        simp only [Bx.go]
        exact hN
      · simp only [asBls_f, backR, Bx.go]
        rw [all_f]
        simp only [isPlain, h, Bool.true_and] at q
        cases h2 : xs.all isPair
        · rw [h2] at q
          simp only [Bx.go]
          exact q
        · rw [h2] at q
          simp only [List.map_id, Bx.go]
          have e := pairs_p h2
          generalize xs.map toPr = ps at e q
          subst e
          refine ⟨ps, .inr rfl, by simp at h'; omega, ?_⟩
          simp only [Bx.go]
          refine ⟨eqOk_of (okQ _) (okQ _) (by decide), ?_⟩
          rw [eqv_ps]
          exact q
  | _ => simp only [w_is_plain, Bx.go]; exact q
theorem plain_iff (ps : List Pr) : decide (plainOf ps = ps) = (decide (ps.filter cr = []) || decide (ps = ept ps)) := by
  have e : (ps.map fun _ => ((some 1, some 0) : Pr)) = ept ps := rfl
  cases h : ps.any cr with
  | false =>
    have h1 : plainOf ps = ps := by unfold plainOf; rw [h]; rfl
    have h2 : ps.filter cr = [] := List.filter_eq_nil_iff.mpr fun p hp => by
      have := List.any_eq_false.mp h p hp
      exact this
    rw [decide_eq_true h1, decide_eq_true h2]; rfl
  | true =>
    have h1 : plainOf ps = ept ps := by unfold plainOf; rw [h]; rfl
    have h2 : ps.filter cr ≠ [] := fun z => by
      obtain ⟨p, hp, hc⟩ := List.any_eq_true.mp h
      have := List.filter_eq_nil_iff.mp z p hp
      exact this hc
    rw [h1, decide_eq_false h2, Bool.false_or, decide_eq_decide]
    exact ⟨fun h => h.symm, fun h => h.symm⟩
theorem eqv_lps (o o2 : Bool) (a b : List Pr) : D.eqv (.lst o (a.map pD)) (.lst o2 (b.map pD)) = decide (a = b) := by
  have h := eqv_ps a b
  unfold D.eqv at h ⊢
  simp only [D.pd, PyData.eqv] at h ⊢
  exact h
theorem okLP (o : Bool) (a : List Pr) : okE 2 (.lst o (a.map pD)) := okQ a
theorem nin_pair (p : Pr) (k : D → Prop) : gInG true .non (pD p) k = k (.bl (p.1.isSome && p.2.isSome)) := by
  obtain ⟨a, b⟩ := p
  cases a <;> cases b <;> simp only [pD, oD, Bx.go] <;> rfl
theorem empt_int (n : Int) (ps : List Pr) (h : (ps.length : Int) = n) : (List.replicate (Int.toNat n) [D.tup [D.int 1, D.int 0]]).flatten = (ept ps).map pD := by
  subst h
  rw [Int.toNat_natCast]
  induction ps with
  | nil => rfl
  | cons x b ih => rw [List.length_cons, List.replicate_succ, List.flatten_cons, ih]; rfl
theorem imp__law_is_plain : ∀ ds Q, C__law_is_plain ds Q → B__law_is_plain ds Q := by
  rintro ds Q ⟨d, n, rfl, n1, hn, q⟩
  refine ⟨rfl, ?_⟩
  have sl := sizeLine_eq
  cases d with
  | tup xs =>
    refine seq_cut (fun ρ => (xs.length : Int) = n ∧ ρ = [some (.tup xs), some (.int n), none, none, none]) (fun R hR => ?_) ?_
    · simp only [Bx.go]
      refine ⟨eqOk_int _ _, ?_⟩
      rw [eqv_int]
      cases h : ((xs.length : Int) == n)
      · simp only [Bx.go]
        rw [isPlain_no h] at q
        exact q
      · simp only [Bx.go]
        exact hR _ ⟨eq_of_beq h, rfl⟩
    rintro _ ⟨hl, rfl⟩
    have hb : ((xs.length : Int) == n) = true := by rw [hl]; simp
    simp only [isPlain, hb, Bool.true_and] at q
    refine seq_cut (fun ρ => xs.all isPair = true ∧ ∃ x2 x4, ρ = [some (.tup xs), some (.int n), x2, none, x4]) (fun R hR => ?_) ?_
    · simp only [Bx.go]
      rw [← List.map_id xs]
      refine for_each xs id (fun dn ρ => dn.all isPair = true ∧ ∃ x2 x4, ρ = [some (.tup (xs.map id)), some (.int n), x2, none, x4]) ⟨rfl, _, _, rfl⟩ ?_ ?_
      · rintro dn x r ρ N e ⟨hd, x2, x4, rfl⟩ hN
        have q0 : isPair x = false → Q (.bl false) [] := fun hx => by
          rw [e] at q
          simp only [List.all_append, List.all_cons, hx, Bool.false_and, Bool.and_false] at q
          exact q
        have h1 : isPair x = true → ∀ x2 x4, N [some (.tup (xs.map id)), some (.int n), x2, none, x4] := fun hx x2 x4 => hN _ ⟨by simp [hd, hx], _, _, rfl⟩
        clear hN q hR
        cases x with
        | tup ys =>
          simp only [id, Bx.go]
          refine ⟨eqOk_int _ _, ?_⟩
          rw [eqv_int]
          cases h2 : ((ys.length : Int) == 2)
          · simp only [Bx.go]
            exact q0 (isPair_no h2)
          · obtain ⟨a, b, rfl⟩ := two_of h2
            simp only [Bx.go]
            refine ⟨by rw [sl]; decide, ?_⟩
            have e2 : ([a, b] : List D) = [a, b].map id := rfl
            rw [e2]
            refine co_map [a, b] id (fun x => .bl (pnum x)) (fun x hx acc N hN => ?_) ?_
            · cases x with
              | non => simp only [id, Bx.go]; exact hN
              | _ =>
                simp only [id, Bx.go]
                refine ⟨_, rfl, ?_⟩
                simp only [isW, Bx.go]
                exact hN
            · have z : asBls [D.bl (pnum a), D.bl (pnum b)] = some [pnum a, pnum b] := rfl
              simp only [z, backR, Bx.go]
              simp only [List.all_cons, List.all_nil, id, Bool.and_true]
              cases h3 : (pnum a && pnum b)
              · simp only [Bx.go]
                exact q0 h3
              · simp only [Bx.go]
                exact h1 h3 _ _
        | _ =>
          simp only [id, Bx.go]
          exact q0 rfl
      · rintro ρ ⟨hd, x2, x4, rfl⟩
        exact hR _ ⟨hd, x2, x4, by rw [List.map_id]⟩
    rintro _ ⟨ha, x2, x4, rfl⟩
    rw [ha, Bool.true_and] at q
    have e := pairs_p ha
    generalize xs.map toPr = ps at e q
    subst e
    have pz : ∀ p, (pD p).frz = pD p := fun _ => rfl
    simp only [List.length_map] at hl
    refine seq_cut (fun ρ => ∃ x2, ρ = [some (.tup (ps.map pD)), some (.int n), x2, some (.lst true ((ps.filter cr).map pD)), x4]) (fun R hR => ?_) ?_
    · simp only [Bx.go]
      refine ⟨by omega, co_filter ps pD cr (fun p hp acc N hN => ?_) ?_⟩
      · simp only [nin_pair, Bx.go]
        obtain ⟨a, b⟩ := p
        cases a with
        | none => simp only [Option.isSome_none, Bool.false_and, Bx.go]; exact hN
        | some a =>
          cases b with
          | none => simp only [Option.isSome_none, Option.isSome_some, Bx.go]; exact hN
          | some b =>
            simp only [Option.isSome_some, pD, oD, p0, p1, Bx.go]
            refine pick_by (fun h => ?_) (fun h => ?_)
            · rw [show cr (some a, some b) = true from h, if_pos rfl] at hN
              simp only [Bx.go]
              exact hN
            · rw [show cr (some a, some b) = false from h, if_neg Bool.false_ne_true] at hN
              simp only [Bx.go]
              exact hN
      · simp only [backR, Bx.go]
        exact hR _ ⟨_, rfl⟩
    rintro _ ⟨x2, rfl⟩
    rw [plain_iff] at q
    simp only [Bx.go]
    refine ⟨eqOk_of (okLP true (ps.filter cr)) (okLP true []) (by decide), ?_⟩
    rw [show D.eqv (.lst true ((ps.filter cr).map pD)) (.lst true []) = decide (ps.filter cr = []) from eqv_lps _ _ _ []]
    cases h1 : decide (ps.filter cr = [])
    · rw [h1, Bool.false_or] at q
      simp only [Bx.go]
      refine ⟨⟨by simp, by omega, by omega, by decide⟩, ?_⟩
      rw [empt_int n ps hl]
      refine ⟨eqOk_of (okQ _) (okQ _) (by decide), ?_⟩
      rw [eqv_ps]
      exact q
    · rw [h1, Bool.true_or] at q
      simp only [Bx.go]
      exact q
  | _ => simp only [w__law_is_plain, Bx.go]; exact q
end Zp
/-! the hand of three numbers (cells), moves -/
namespace Zm
open PySem PySem.Spec PyProof.Rows L2 Bx Zb Zp
def isSpot : D → Int → Bool
  | .int i, n => decide (0 ≤ i) && decide (i < n)
  | _, _ => false
def isStep : D → Int → Bool
  | .tup [.str z, a], n => if z == "shift" then isPlace a n else (z == "mirror") && isSpot a n
  | .tup [.str z, a, b], n => (z == "swap") && (isSpot a n && isSpot b n)
  | _, _ => false
def isMove : D → Int → Bool
  | .tup xs, n => xs.all fun s => isStep s n
  | _, _ => false
abbrev C_is_place : PSpec := Zp.C_is_place
abbrev okZ (z : Str) : Prop := (PyData.str z).canLay0 = true
/-- texts that stand first are lain -/
def okStep (d : D) : Prop := ∀ z r, d = .tup (.str z :: r) → okZ z
def C_is_spot : PSpec := fun ds Q => ∃ (d : D) (n : Int), ds = [d, .int n] ∧ Q (.bl (isSpot d n)) []
abbrev C__law_whole : PSpec := C_is_spot
def C_is_step : PSpec := fun ds Q => ∃ (d : D) (n : Int), ds = [d, .int n] ∧ okStep d ∧ n ≤ 1000 ∧ Q (.bl (isStep d n)) []
def C__law_is_step : PSpec := C_is_step
def C_is_move : PSpec := fun ds Q => ∃ (d : D) (n : Int), ds = [d, .int n] ∧ (∀ xs, d = .tup xs → xs.length ≤ 100000 ∧ ∀ x ∈ xs, okStep x) ∧ n ≤ 1000 ∧ Q (.bl (isMove d n)) []
def C__law_is_move : PSpec := C_is_move
/-- the state: digits, seed, how often -/
def C__law_left : PSpec := fun ds Q => ∃ (ns : List Int) (k : Int), ds = [.scr (ns.map .int), .int k] ∧ ns.length ≤ 63 ∧ 0 ≤ k ∧ k ≤ 1000 ∧ ∀ h : List D, hnd 0 h → Q (.lst true h) []
def C__law_pick : PSpec := sTake
def w_is_spot : DS :=
  (dRet (dAnd (dIsi "int" (oVar 0)) (dAnd (dNot (dIsi "bool" (oVar 0))) (dChain gLe gLt (oVal (dC (.int 0))) (oVar 0) (oVar 1)))))
abbrev B_is_spot : PSpec := bodyW [] 2 2 w_is_spot
def w_is_step : DS :=
  (dSeq (dIfS (tOr (tNot (tVal (dIsi "tuple" (oVar 0)))) (tOr (tVal (dBin gNin (oVal (dCB gLen (aCons (oVar 0) aNil))) (oVal (dTup (aCons (oVal (dC (.int 2))) (aCons (oVal (dC (.int 3))) aNil)))))) (tNot (tVal (dIsi "str" (oVal (dBin gIx (oVar 0) (oVal (dC (.int 0))))))))))
    (dRet (dC (.bl false)))
    dNext)
    (dSeq (dIfS (tVal (dBin gEq (oVal (dCB gLen (aCons (oVar 0) aNil))) (oVal (dC (.int 3)))))
    (dRet (dAnd (dBin gEq (oVal (dBin gIx (oVar 0) (oVal (dC (.int 0))))) (oVal (dC (.str "swap")))) (dAnd (dCall C_is_spot (aCons (oVal (dBin gIx (oVar 0) (oVal (dC (.int 1))))) (aCons (oVar 1) aNil))) (dCall C_is_spot (aCons (oVal (dBin gIx (oVar 0) (oVal (dC (.int 2))))) (aCons (oVar 1) aNil))))))
    dNext)
    (dSeq (dIfS (tVal (dBin gEq (oVal (dBin gIx (oVar 0) (oVal (dC (.int 0))))) (oVal (dC (.str "shift")))))
    (dRet (dCall C_is_place (aCons (oVal (dBin gIx (oVar 0) (oVal (dC (.int 1))))) (aCons (oVar 1) aNil))))
    dNext)
    (dRet (dAnd (dBin gEq (oVal (dBin gIx (oVar 0) (oVal (dC (.int 0))))) (oVal (dC (.str "mirror")))) (dCall C_is_spot (aCons (oVal (dBin gIx (oVar 0) (oVal (dC (.int 1))))) (aCons (oVar 1) aNil))))))))
abbrev B_is_step : PSpec := bodyW [] 2 2 w_is_step
def w_is_move : DS :=
  (dRet (dAnd (dIsi "tuple" (oVar 0)) (dCB gAll (aCons (oVal (dComp (iOf (dVar 0)) [2] (gN 2) tAll (dCall C_is_step (aCons (oVar 2) (aCons (oVar 1) aNil))))) aNil))))
abbrev B_is_move : PSpec := bodyW [] 3 2 w_is_move
def w__law_left : DS :=
  (dSeq (dAsg 2 (dC (.int 0)))
    (dSeq (dIfS (tVal (dBin gGt (oVal (dCB gLen (aCons (oVar 0) aNil))) (oVal (dC (.int 0)))))
    (dAsg 2 (dBin gIx (oVar 0) (oVal (dBin gMod (oVar 1) (oVal (dCB gLen (aCons (oVar 0) aNil)))))))
    dNext)
    (dSeq (dAsg 3 (dBin gMul2 (oVal (dBin gMod (oVal (dCB gAbs (aCons (oVar 2) aNil))) (oVal (dBin gPow (oVal (dC (.int 10))) (oVal (dC (.int 60))))))) (oVal (dCB gInt (aCons (oVal (dBin gGe (oVal (dCB gAbs (aCons (oVar 2) aNil))) (oVal (dBin gPow (oVal (dC (.int 10))) (oVal (dC (.int 18))))))) aNil)))))
    (dRet (dLst (aCons (oVar 3) (aCons (oVal (dBin gMod (oVal (dBin gMul2 (oVal (dBin gAdd (oVal (dBin gAdd (oVal (dBin gMod (oVar 2) (oVal (dC (.int 2305843009213693951))))) (oVal (dBin gMul2 (oVal (dBin gMul2 (oVal (dC (.int 7919))) (oVar 1))) (oVar 1))))) (oVal (dC (.int 11))))) (oVal (dC (.int 48271))))) (oVal (dC (.int 2147483647))))) (aCons (oVal (dC (.int 0))) aNil))))))))
abbrev B__law_left : PSpec := bodyW [] 4 2 w__law_left
def w__law_pick : DS :=
  (dSeq (dIfS (tVal (dBin gGt (oVal (dBin gIx (oVar 0) (oVal (dC (.int 0))))) (oVal (dC (.int 0)))))
    (dSeq (dAsg 2 (dBin gMod (oVal (dBin gIx (oVar 0) (oVal (dC (.int 0))))) (oVar 1)))
    (dSeq (dSub 0 (dBin gDiv (oVal (dBin gIx (oVar 0) (oVal (dC (.int 0))))) (oVar 1)) (oVal (dC (.int 0))))
    (dRetV 2)))
    dNext)
    (dSeq (dSub 0 (dBin gAdd (oVal (dBin gIx (oVar 0) (oVal (dC (.int 2))))) (oVal (dC (.int 1)))) (oVal (dC (.int 2))))
    (dSeq (dSub 0 (dBin gMod (oVal (dBin gAdd (oVal (dBin gAdd (oVal (dBin gMul2 (oVal (dBin gIx (oVar 0) (oVal (dC (.int 1))))) (oVal (dC (.int 48271))))) (oVal (dC (.int 12345))))) (oVal (dBin gIx (oVar 0) (oVal (dC (.int 2))))))) (oVal (dC (.int 2147483647)))) (oVal (dC (.int 1))))
    (dRet (dBin gMod (oVal (dBin gDiv (oVal (dBin gMod (oVal (dBin gMul2 (oVal (dBin gIx (oVar 0) (oVal (dC (.int 1))))) (oVal (dBin gIx (oVar 0) (oVal (dC (.int 1))))))) (oVal (dC (.int 1999999973))))) (oVal (dC (.int 64))))) (oVar 1))))))
abbrev B__law_pick : PSpec := bodyW [0] 3 2 w__law_pick
def w__law_whole : DS :=
  (dRet (dAnd (dIsi "int" (oVar 0)) (dAnd (dNot (dIsi "bool" (oVar 0))) (dChain gLe gLt (oVal (dC (.int 0))) (oVar 0) (oVar 1)))))
abbrev B__law_whole : PSpec := bodyW [] 2 2 w__law_whole
def w__law_is_step : DS :=
  (dSeq (dIfS (tOr (tNot (tVal (dIsi "tuple" (oVar 0)))) (tOr (tVal (dBin gLt (oVal (dCB gLen (aCons (oVar 0) aNil))) (oVal (dC (.int 2))))) (tNot (tVal (dIsi "str" (oVal (dBin gIx (oVar 0) (oVal (dC (.int 0))))))))))
    (dRet (dC (.bl false)))
    dNext)
    (dSeq (dIfS (tVal (dBin gEq (oVal (dBin gIx (oVar 0) (oVal (dC (.int 0))))) (oVal (dC (.str "shift")))))
    (dSeq (dIfS (tOr (tVal (dBin gNe (oVal (dCB gLen (aCons (oVar 0) aNil))) (oVal (dC (.int 2))))) (tOr (tNot (tVal (dIsi "tuple" (oVal (dBin gIx (oVar 0) (oVal (dC (.int 1)))))))) (tVal (dBin gNe (oVal (dCB gLen (aCons (oVal (dBin gIx (oVar 0) (oVal (dC (.int 1))))) aNil))) (oVar 1)))))
    (dRet (dC (.bl false)))
    dNext)
    (dRet (dCB gAll (aCons (oVal (dComp (iOf (dBin gIx (oVar 0) (oVal (dC (.int 1))))) [2] (gN 2) tAll (dAnd (dIsi "int" (oVar 2)) (dNot (dIsi "bool" (oVar 2)))))) aNil))))
    dNext)
    (dSeq (dIfS (tVal (dBin gEq (oVal (dBin gIx (oVar 0) (oVal (dC (.int 0))))) (oVal (dC (.str "mirror")))))
    (dRet (dAnd (dBin gEq (oVal (dCB gLen (aCons (oVar 0) aNil))) (oVal (dC (.int 2)))) (dCall C__law_whole (aCons (oVal (dBin gIx (oVar 0) (oVal (dC (.int 1))))) (aCons (oVar 1) aNil)))))
    dNext)
    (dRet (dAnd (dBin gEq (oVal (dBin gIx (oVar 0) (oVal (dC (.int 0))))) (oVal (dC (.str "swap")))) (dAnd (dBin gEq (oVal (dCB gLen (aCons (oVar 0) aNil))) (oVal (dC (.int 3)))) (dAnd (dCall C__law_whole (aCons (oVal (dBin gIx (oVar 0) (oVal (dC (.int 1))))) (aCons (oVar 1) aNil))) (dCall C__law_whole (aCons (oVal (dBin gIx (oVar 0) (oVal (dC (.int 2))))) (aCons (oVar 1) aNil))))))))))
abbrev B__law_is_step : PSpec := bodyW [] 3 2 w__law_is_step
def w__law_is_move : DS :=
  (dRet (dAnd (dIsi "tuple" (oVar 0)) (dCB gAll (aCons (oVal (dComp (iOf (dVar 0)) [2] (gN 2) tAll (dCall C__law_is_step (aCons (oVar 2) (aCons (oVar 1) aNil))))) aNil))))
abbrev B__law_is_move : PSpec := bodyW [] 3 2 w__law_is_move
theorem isSpot_frz (d : D) (n : Int) : isSpot d.frz n = isSpot d n := by cases d <;> rfl
theorem isPlace_frz (d : D) (n : Int) : isPlace d.frz n = isPlace d n := by cases d <;> rfl
theorem isStep_frz (d : D) (n : Int) : isStep d.frz n = isStep d n := by cases d <;> rfl
theorem okStep_frz {d : D} (h : okStep d) : okStep d.frz := by
  cases d <;> first | exact h | (intro z r e; cases e)
theorem imp_is_spot : ∀ ds Q, C_is_spot ds Q → B_is_spot ds Q := by
  rintro ds Q ⟨d, n, rfl, q⟩
  refine ⟨rfl, ?_⟩
  cases d with
  | int i =>
    simp only [w_is_spot, Bx.go]
    cases h : decide (0 ≤ i)
    · simp only [Bx.go]
      simp only [isSpot, h, Bool.false_and] at q
      exact q
    · simp only [Bx.go]
      simp only [isSpot, h, Bool.true_and] at q
      exact q
  | _ => simp only [w_is_spot, Bx.go]; exact q
theorem imp__law_whole : ∀ ds Q, C__law_whole ds Q → B__law_whole ds Q := imp_is_spot
theorem q0 {x y z : D} : atI [x, y, z] 0 = some x := rfl
theorem q1 {x y z : D} : atI [x, y, z] 1 = some y := rfl
theorem q2 {x y z : D} : atI [x, y, z] 2 = some z := rfl
theorem in23 (n : Int) : inV (.int n) [.int 2, .int 3] = (n == 2 || n == 3) := by
  rw [show ([.int 2, .int 3] : List V) = ([2, 3] : List Int).map V.int from rfl, inV_ints]
  simp only [List.any_cons, List.any_nil, Bool.or_false]
  rw [Bool.eq_iff_iff]; simp; omega
theorem stp2 (z : Str) (a : D) (n : Int) : isStep (.tup [.str z, a]) n = if z == "shift" then isPlace a n else (z == "mirror") && isSpot a n := rfl
theorem stp3 (z : Str) (a b : D) (n : Int) : isStep (.tup [.str z, a, b]) n = ((z == "swap") && (isSpot a n && isSpot b n)) := rfl
theorem stp_no {xs : List D} {n : Int} (h : xs.length ≠ 2) (h' : xs.length ≠ 3) : isStep (.tup xs) n = false := by
  match xs, h, h' with
  | [], _, _ => rfl
  | [a], _, _ => cases a <;> rfl
  | [a, b], h, _ => exact absurd rfl h
  | [a, b, c], _, h => exact absurd rfl h
  | a :: b :: c :: d :: r, _, _ => cases a <;> rfl
theorem len2 {xs : List D} (h : xs.length = 2) : ∃ a b, xs = [a, b] := by
  match xs, h with
  | [a, b], _ => exact ⟨a, b, rfl⟩
theorem len3 {xs : List D} (h : xs.length = 3) : ∃ a b c, xs = [a, b, c] := by
  match xs, h with
  | [a, b, c], _ => exact ⟨a, b, c, rfl⟩
theorem okZ_swap : okZ "swap" := by
  unfold okZ
  simp only [PyData.canLay0]
  decide +kernel
theorem okZ_shift : okZ "shift" := by
  unfold okZ
  simp only [PyData.canLay0]
  decide +kernel
theorem okZ_mirror : okZ "mirror" := by
  unfold okZ
  simp only [PyData.canLay0]
  decide +kernel
theorem imp_is_step : ∀ ds Q, C_is_step ds Q → B_is_step ds Q := by
  rintro ds Q ⟨d, n, rfl, ok, hn, q⟩
  refine ⟨rfl, ?_⟩
  cases d with
  | tup xs =>
    by_cases h2 : xs.length = 2
    · obtain ⟨a, b, rfl⟩ := len2 h2
      have e1 : (true ^^ ((((0 + 1 + 1 : Nat) : Int)) == 2 || (((0 + 1 + 1 : Nat) : Int)) == 3)) = false := by decide
      have e3 : ((((0 + 1 + 1 : Nat) : Int)) == 3) = false := by decide
      simp only [w_is_step, in23, e1, p0, Bx.go]
      cases a with
      | str z =>
        have oz := ok z _ rfl
        simp only [e1, e3, p0, p1, eqv_int, Bx.go]
        refine ⟨eqOk_int _ _, ?_⟩
        refine ⟨eqOk_str oz okZ_shift, ?_⟩
        rw [eqv_str]
        rw [stp2] at q
        cases hz : (z == "shift")
        · rw [hz] at q
          simp only [p0, eqv_str, Bx.go]
          refine ⟨eqOk_str oz okZ_mirror, ?_⟩
          cases hz : (z == "mirror")
          · rw [hz] at q
            simp only [Bx.go]
            exact q
          · rw [hz] at q
            simp only [p1, Bx.go]
            refine ⟨_, _, rfl, ?_⟩
            rw [isSpot_frz]
            exact q
        · rw [hz] at q
          simp only [p1, Bx.go]
          refine ⟨_, _, rfl, hn, ?_⟩
          rw [isPlace_frz]
          exact q
      | _ => simp only [p0, Bx.go]; exact q
    · by_cases h3 : xs.length = 3
      · obtain ⟨a, b, c, rfl⟩ := len3 h3
        have e1 : (true ^^ ((((0 + 1 + 1 + 1 : Nat) : Int)) == 2 || (((0 + 1 + 1 + 1 : Nat) : Int)) == 3)) = false := by decide
        have e3 : ((((0 + 1 + 1 + 1 : Nat) : Int)) == 3) = true := by decide
        simp only [w_is_step, in23, e1, q0, Bx.go]
        cases a with
        | str z =>
          have oz := ok z _ rfl
          simp only [e1, e3, q0, q1, eqv_int, Bx.go]
          refine ⟨eqOk_int _ _, ?_⟩
          refine ⟨eqOk_str oz okZ_swap, ?_⟩
          rw [eqv_str]
          rw [stp3] at q
          cases hz : (z == "swap")
          · rw [hz] at q
            simp only [Bx.go]
            exact q
          · rw [hz] at q
            simp only [q1, Bx.go]
            refine ⟨_, _, rfl, ?_⟩
            rw [isSpot_frz]
            cases hb : isSpot b n
            · rw [hb] at q
              simp only [Bx.go]
              exact q
            · rw [hb] at q
              simp only [q2, Bx.go]
              refine ⟨_, _, rfl, ?_⟩
              rw [isSpot_frz]
              exact q
        | _ => simp only [q0, Bx.go]; exact q
      · simp only [w_is_step, in23, Bx.go]
        rw [show (true ^^ ((xs.length : Int) == 2 || (xs.length : Int) == 3)) = true by
          rw [show ((xs.length : Int) == 2) = false by simp; omega, show ((xs.length : Int) == 3) = false by simp; omega]; rfl]
        simp only [Bx.go]
        rw [stp_no h2 h3] at q
        exact q
  | _ => simp only [w_is_step, Bx.go]; exact q
theorem imp__law_is_step : ∀ ds Q, C__law_is_step ds Q → B__law_is_step ds Q := by
  rintro ds Q ⟨d, n, rfl, ok, hn, q⟩
  refine ⟨rfl, ?_⟩
  have sl := sizeLine_eq
  cases d with
  | tup xs =>
    match xs, ok, q with
    | [], ok, q => simp only [w__law_is_step, Bx.go]; exact q
    | [a], ok, q =>
      simp only [w__law_is_step, show decide ((((0 + 1 : Nat) : Int)) < 2) = true from rfl, Bx.go]
      rw [stp_no (by simp) (by simp)] at q
      exact q
    | a :: b :: r, ok, q =>
      have e1 : decide (((r.length + 1 + 1 : Nat) : Int) < 2) = false := decide_eq_false (by omega)
      have a1 : atI (a :: b :: r) 1 = some b := by rw [atI_nat' (by decide)]; rfl
      simp only [w__law_is_step, e1, at0, Bx.go]
      cases a with
      | str z =>
        have oz := ok z _ rfl
        simp only [at0, a1, eqv_int, eqv_str, Bx.go]
        refine ⟨eqOk_str oz okZ_shift, ?_⟩
        cases hz : (z == "shift")
        · simp only [at0, a1, eqv_int, eqv_str, Bx.go]
          refine ⟨eqOk_str oz okZ_mirror, ?_⟩
          cases hm : (z == "mirror")
          · simp only [at0, a1, eqv_int, eqv_str, Bx.go]
            refine ⟨eqOk_str oz okZ_swap, ?_⟩
            cases hs : (z == "swap")
            · simp only [Bx.go]
              by_cases l2 : r = []
              · subst l2
                rw [stp2, hz, hm] at q
                exact q
              · by_cases l3 : r.length = 1
                · match r, l3 with
                  | [c], _ =>
                    rw [stp3, hs] at q
                    exact q
                · rw [stp_no (by simp; exact l2) (by simp; omega)] at q
                  exact q
            · simp only [eqv_int, Bx.go]
              refine ⟨eqOk_int _ _, ?_⟩
              by_cases l3 : r.length = 1
              · match r, l3 with
                | [c], _ =>
                  have a2 : atI [D.str z, b, c] 2 = some c := rfl
                  rw [stp3, hs] at q
                  rw [show ((((([c] : List D).length + 1 + 1 : Nat)) : Int) == 3) = true from rfl]
                  simp only [q1, Bx.go]
                  refine ⟨_, _, rfl, ?_⟩
                  rw [isSpot_frz]
                  cases hb : isSpot b n
                  · rw [hb] at q
                    simp only [Bx.go]
                    exact q
                  · rw [hb] at q
                    simp only [q2, Bx.go]
                    refine ⟨_, _, rfl, ?_⟩
                    rw [isSpot_frz]
                    exact q
              · rw [show (((r.length + 1 + 1 : Nat) : Int) == 3) = false by simp; omega]
                simp only [Bx.go]
                by_cases l2 : r = []
                · subst l2
                  rw [stp2, hz, hm] at q
                  exact q
                · rw [stp_no (by simp; exact l2) (by simp; omega)] at q
                  exact q
          · simp only [eqv_int, Bx.go]
            refine ⟨eqOk_int _ _, ?_⟩
            cases r with
            | nil =>
              rw [stp2, hz, hm] at q
              rw [show ((((([] : List D).length + 1 + 1 : Nat)) : Int) == 2) = true from rfl]
              simp only [p1, Bx.go]
              refine ⟨_, _, rfl, ?_⟩
              rw [isSpot_frz]
              exact q
            | cons c r =>
              rw [show ((((c :: r).length + 1 + 1 : Nat) : Int) == 2) = false by simp; omega]
              simp only [Bx.go]
              cases r with
              | nil =>
                rw [stp3, show (z == "swap") = false by rw [eq_of_beq hm]; decide] at q
                exact q
              | cons e r =>
                rw [stp_no (by simp) (by simp)] at q
                exact q
        · have zs : z = "shift" := eq_of_beq hz
          simp only [eqv_int, Bx.go]
          refine ⟨eqOk_int _ _, ?_⟩
          cases r with
          | nil =>
            rw [stp2, hz, if_pos rfl] at q
            rw [show (!((((([] : List D).length + 1 + 1 : Nat)) : Int) == 2)) = false from rfl]
            simp only [p1, Bx.go]
            cases b with
            | tup ys =>
              simp only [p1, eqv_int, Bx.go]
              refine ⟨eqOk_int _ _, ?_⟩
              cases hl : ((ys.length : Int) == n)
              · simp only [Bx.go]
                rw [isPlace_no hl] at q
                exact q
              · have hl' := eq_of_beq hl
                simp only [p1, Bx.go]
                rw [← List.map_id ys]
                refine ⟨by simp; omega, co_map ys id (fun x => .bl (isW x)) (fun x hx acc N hN => ?_) ?_⟩
                · cases x <;> simp only [id, isW, Bx.go] at hN ⊢ <;> exact hN
                · simp only [asBls_f, backR, Bx.go]
                  rw [all_f]
                  simp only [isPlace, hl, Bool.true_and] at q
                  exact q
            | _ => simp only [p1, Bx.go]; exact q
          | cons c r =>
            rw [show (!((((c :: r).length + 1 + 1 : Nat) : Int) == 2)) = true by simp; omega]
            simp only [Bx.go]
            cases r with
            | nil =>
              rw [stp3, zs] at q
              exact q
            | cons e r =>
              rw [stp_no (by simp) (by simp)] at q
              exact q
      | _ =>
        simp only [at0, Bx.go]
        exact q
  | _ => simp only [w__law_is_step, Bx.go]; exact q
theorem all_st (n : Int) (xs : List D) : (xs.map fun s => isStep s n).all id = xs.all fun s => isStep s n := by rw [List.all_map]; rfl
theorem imp_is_move : ∀ ds Q, C_is_move ds Q → B_is_move ds Q := by
  rintro ds Q ⟨d, n, rfl, ok, hn, q⟩
  refine ⟨rfl, ?_⟩
  have sl := sizeLine_eq
  cases d with
  | tup xs =>
    obtain ⟨hl, hx⟩ := ok xs rfl
    simp only [w_is_move, Bx.go]
    rw [← List.map_id xs]
    refine ⟨by simp; omega, co_map xs id (fun s => .bl (isStep s n)) (fun s hs acc N hN => ?_) ?_⟩
    · simp only [id, Bx.go]
      refine ⟨_, _, rfl, okStep_frz (hx s hs), hn, ?_⟩
      rw [isStep_frz]
      simp only [Bx.go]
      exact hN
    · simp only [asBls_f, backR, Bx.go]
      rw [all_st]
      exact q
  | _ => simp only [w_is_move, Bx.go]; exact q
theorem imp__law_is_move : ∀ ds Q, C__law_is_move ds Q → B__law_is_move ds Q := imp_is_move
theorem imp__law_left : ∀ ds Q, C__law_left ds Q → B__law_left ds Q := by
  rintro ds Q ⟨ns, k, rfl, hl, k0, k1, q⟩
  refine ⟨rfl, ?_⟩
  refine seq_cut (fun ρ => ρ = [some (.scr (ns.map .int)), some (.int k), some (.int 0), none]) (fun R hR => ?_) ?_
  · simp only [Bx.go]
    exact hR _ rfl
  rintro _ rfl
  refine seq_cut (fun ρ => ∃ v : Int, ρ = [some (.scr (ns.map .int)), some (.int k), some (.int v), none]) (fun R hR => ?_) ?_
  · simp only [Bx.go]
    refine pick_by (fun h => ?_) (fun h => ?_)
    · have h := of_decide_eq_true h
      obtain ⟨v, ev, _⟩ := atI_of (ns := ns) (r := k % (ns.length : Int)) (fun _ => True) (fun _ _ => trivial) (Int.emod_nonneg _ (by omega)) (Int.emod_lt_of_pos _ (by omega))
      simp only [ev, Bx.go]
      exact ⟨by omega, hR _ ⟨v, rfl⟩⟩
    · simp only [Bx.go]
      exact hR _ ⟨0, rfl⟩
  rintro _ ⟨v, rfl⟩
  simp only [Bx.go]
  refine ⟨⟨by decide, by decide, by decide⟩, by decide, ⟨by decide, by decide, by decide⟩, .inr (.inl (by split <;> first | decide | (split <;> decide))), by decide, .inl ⟨by omega, by omega⟩, .inl ⟨by omega, by omega⟩, .inr (.inl ⟨by decide, by decide⟩), by decide, q _ ⟨_, _, _, rfl, by decide, by decide⟩⟩
theorem imp__law_pick : ∀ ds Q, C__law_pick ds Q → B__law_pick ds Q := by
  rintro ds Q ⟨h, n, m, rfl, ⟨a, b, c, rfl, c0, c1⟩, hn, m0, m1, q⟩
  refine ⟨rfl, ?_⟩
  simp only [w__law_pick, a0, Bx.go]
  refine pick_by (fun h => ?_) (fun h => ?_)
  · simp only [a0, n30, Nat.zero_add, Bx.go]
    exact ⟨m0, ⟨m0, by omega⟩, q _ _ (Int.emod_nonneg _ (by omega)) (Int.emod_lt_of_pos _ m0) ⟨_, _, _, rfl, by omega, by omega⟩⟩
  · simp only [a0, a1, a2, n31, n32, Nat.zero_add, Bx.go]
    have z1 := Int.emod_nonneg (b * 48271 + 12345 + (c + 1)) (show (2147483647 : Int) ≠ 0 by decide)
    have z2 := Int.emod_lt_of_pos (b * 48271 + 12345 + (c + 1)) (show (0 : Int) < 2147483647 by decide)
    refine ⟨.inr (.inl ⟨by decide, by decide⟩), by decide, .inl ⟨by omega, by omega⟩, by decide, ⟨by decide, by decide⟩, m0, ?_⟩
    exact q _ _ (Int.emod_nonneg _ (by omega)) (Int.emod_lt_of_pos _ m0) ⟨_, _, _, rfl, by omega, by omega⟩
end Zm
/-! houses, boxes about them, moves -/
namespace Zh
open PySem PySem.Spec PyProof.Rows L2 Bx Zb Zp Zm
inductive Stp where
  | shift (l : List Int) | mirror (i : Nat) | swap (i j : Nat)
def stpD : Stp → D
  | .shift l => .tup [.str "shift", .tup (l.map .int)]
  | .mirror i => .tup [.str "mirror", .int i]
  | .swap i j => .tup [.str "swap", .int i, .int j]
def okP (d : Nat) : Stp → Prop
  | .shift l => l.length = d
  | .mirror i => i < d
  | .swap i j => i < d ∧ j < d
abbrev Th := Int × List Int × Int
def thD (t : Th) : D := .tup [.int t.1, .tup (t.2.1.map .int), .int t.2.2]
def houseD (d : Nat) (ts : List Th) : D := .tup [.int d, .tup (ts.map thD)]
/-- a house of d numbers -/
structure House (d : Nat) (ts : List Th) : Prop where
  len : ts.length ≤ 300
  num : ∀ t ∈ ts, t.2.1.length = d
  nat : ∀ t ∈ ts, 0 ≤ t.1
  ris : ts.Pairwise fun a b => a.1 < b.1
def swpL {α : Type} (xs : List α) (i j : Nat) : List α := match xs[i]?, xs[j]? with
  | some a, some b => (xs.set i b).set j a
  | _, _ => xs
def placeB : Stp → List Int → List Int
  | .shift l, p => List.zipWith (fun a b => a + b) p l
  | .mirror i, p => p.set i (0 - p.getD i 0)
  | .swap i j, p => swpL p i j
def mvP (ss : List Stp) (p : List Int) : List Int := ss.foldl (fun p s => placeB s p) p
def shE (e : Eg) (m : Int) : Eg := e.map fun x => (x.1 + m, x.2)
def miE (e : Eg) : Eg := e.map fun x => (0 - x.1, x.2)
abbrev Bx1 := List (Eg × Eg)
def boxB : Stp → Bx1 → Bx1
  | .shift l, b => List.zipWith (fun s m => (shE s.1 m, shE s.2 m)) b l
  | .mirror i, b => b.set i (miE (b.getD i (none, none)).2, miE (b.getD i (none, none)).1)
  | .swap i j, b => swpL b i j
def mvB (ss : List Stp) (b : Bx1) : Bx1 := ss.foldl (fun b s => boxB s b) b
def mvT (ss : List Stp) (t : Th) : Th := (t.1, mvP ss t.2.1, t.2.2)
def backS : Stp → Stp
  | .shift l => .shift (l.map fun n => 0 - n)
  | s => s
def backM (ss : List Stp) : List Stp := ss.reverse.map backS
abbrev C__law_pick : PSpec := Zm.C__law_pick
def C_swapped : PSpec := fun ds Q => ∃ (xs : List D) (i j : Nat), ds = [.tup xs, .int i, .int j] ∧ i < xs.length ∧ j < xs.length ∧ (∀ x ∈ xs, x.frz = x) ∧ Q (.tup (swpL xs i j)) []
def C_place_behind : PSpec := fun ds Q => ∃ (s : Stp) (p : List Int), ds = [stpD s, .tup (p.map .int)] ∧ okP p.length s ∧ p.length ≤ 1000 ∧ Q (.tup ((placeB s p).map .int)) []
def C_moved_place : PSpec := fun ds Q => ∃ (ss : List Stp) (p : List Int), ds = [.tup (ss.map stpD), .tup (p.map .int)] ∧ (∀ s ∈ ss, okP p.length s) ∧ p.length ≤ 1000 ∧ Q (.tup ((mvP ss p).map .int)) []
def C_moved_house : PSpec := fun ds Q => ∃ (ss : List Stp) (d : Nat) (ts : List Th), ds = [.tup (ss.map stpD), houseD d ts] ∧ (∀ s ∈ ss, okP d s) ∧ d ≤ 1000 ∧ ts.length ≤ 1000 ∧ (∀ t ∈ ts, t.2.1.length = d) ∧ Q (houseD d (ts.map (mvT ss))) []
def C_shifted_end : PSpec := fun ds Q => ∃ (e : Eg) (m : Int), ds = [eD e, .int m] ∧ Q (eD (shE e m)) []
def C_mirrored_end : PSpec := fun ds Q => ∃ (e : Eg), ds = [eD e] ∧ Q (eD (miE e)) []
def C_box_behind : PSpec := fun ds Q => ∃ (s : Stp) (b : Bx1), ds = [stpD s, .tup (b.map sD)] ∧ okP b.length s ∧ b.length ≤ 1000 ∧ Q (.tup ((boxB s b).map sD)) []
def C_moved_box : PSpec := fun ds Q => ∃ (ss : List Stp) (b : Bx1), ds = [.tup (ss.map stpD), .tup (b.map sD)] ∧ (∀ s ∈ ss, okP b.length s) ∧ b.length ≤ 1000 ∧ Q (.tup ((mvB ss b).map sD)) []
def C_back : PSpec := fun ds Q => ∃ (ss : List Stp), ds = [.tup (ss.map stpD)] ∧ ss.length ≤ 1000 ∧ (∀ s ∈ ss, okP 4 s ∨ ∃ d, d ≤ 1000 ∧ okP d s) ∧ Q (.tup ((backM ss).map stpD)) []
def C__law_move : PSpec := fun ds Q => ∃ (h : List D) (n d : Nat), ds = [.lst true h, .int d] ∧ hnd n h ∧ n ≤ 10 ^ 14 ∧ 1 ≤ d ∧ d ≤ 4 ∧ ∀ (ss : List Stp) (h' : List D), ss.length ≤ 5 → (∀ s ∈ ss, okP d s) → hnd (n + 50) h' → Q (.tup (ss.map stpD)) [.lst true h']
def C__law_house : PSpec := fun ds Q => ∃ (h : List D) (n : Nat), ds = [.lst true h] ∧ hnd n h ∧ n ≤ 10 ^ 14 ∧ ∀ (d : Nat) (ts : List Th) (h' : List D), 1 ≤ d → d ≤ 4 → ts.length ≤ 30 → House d ts → hnd (n + 400) h' → Q (houseD d ts) [.lst true h']
def C__law_number : PSpec := fun ds Q => ∃ (h : List D) (n d i : Nat) (ts : List Th), ds = [.lst true h, houseD d ts, .int i] ∧ hnd n h ∧ n ≤ 10 ^ 14 ∧ i < d ∧ House d ts ∧ ∀ (v : Int) (h' : List D), hnd (n + 2) h' → Q (.int v) [.lst true h']
def C__law_box : PSpec := fun ds Q => ∃ (h : List D) (n d : Nat) (ts : List Th), ds = [.lst true h, houseD d ts] ∧ hnd n h ∧ n ≤ 10 ^ 13 ∧ d ≤ 4 ∧ House d ts ∧ ∀ (b : Bx1) (h' : List D), b.length = d → hnd (n + 28) h' → Q (.tup (b.map sD)) [.lst true h']
def w_swapped : DS :=
  (dSeq (dAsg 3 (dCB gList (aCons (oVar 0) aNil)))
    (dSeq (dSubs 3 (dTup (aCons (oVal (dBin gIx (oVar 0) (oVar 2))) (aCons (oVal (dBin gIx (oVar 0) (oVar 1))) aNil))) (oVar 1) (oVar 2))
    (dRet (dCB gTuple (aCons (oVar 3) aNil)))))
abbrev B_swapped : PSpec := bodyW [] 4 3 w_swapped
def w_place_behind : DS :=
  (dSeq (dIfS (tVal (dBin gEq (oVal (dBin gIx (oVar 0) (oVal (dC (.int 0))))) (oVal (dC (.str "shift")))))
    (dRet (dCB gTuple (aCons (oVal (dComp (iZX (aCons (oVar 1) (aCons (oVal (dBin gIx (oVar 0) (oVal (dC (.int 1))))) aNil))) [2, 3] (gT (gsCons (gN 2) (gsCons (gN 3) gsNil)) 2) tAll (dBin gAdd (oVar 2) (oVar 3)))) aNil)))
    dNext)
    (dSeq (dIfS (tVal (dBin gEq (oVal (dBin gIx (oVar 0) (oVal (dC (.int 0))))) (oVal (dC (.str "mirror")))))
    (dRet (dBin gAdd (oVal (dBin gAdd (oVal (dSl (oVar 1) pNo (pInt (dBin gIx (oVar 0) (oVal (dC (.int 1))))))) (oVal (dTup (aCons (oVal (dBin gSub (oVal (dC (.int 0))) (oVal (dBin gIx (oVar 1) (oVal (dBin gIx (oVar 0) (oVal (dC (.int 1))))))))) aNil))))) (oVal (dSl (oVar 1) (pInt (dBin gAdd (oVal (dBin gIx (oVar 0) (oVal (dC (.int 1))))) (oVal (dC (.int 1))))) pNo))))
    dNext)
    (dRet (dCall C_swapped (aCons (oVar 1) (aCons (oVal (dBin gIx (oVar 0) (oVal (dC (.int 1))))) (aCons (oVal (dBin gIx (oVar 0) (oVal (dC (.int 2))))) aNil)))))))
abbrev B_place_behind : PSpec := bodyW [] 4 2 w_place_behind
def w_moved_place : DS :=
  (dSeq (dFor (iOf (dVar 0)) (gN 2)
    (dAsg 1 (dCall C_place_behind (aCons (oVar 2) (aCons (oVar 1) aNil)))))
    (dRet (dVar 1)))
abbrev B_moved_place : PSpec := bodyW [] 3 2 w_moved_place
def w_moved_house : DS :=
  (dRet (dTup (aCons (oVal (dBin gIx (oVar 1) (oVal (dC (.int 0))))) (aCons (oVal (dCB gTuple (aCons (oVal (dComp (iOf (dBin gIx (oVar 1) (oVal (dC (.int 1))))) [2, 3, 4] (gT (gsCons (gN 2) (gsCons (gN 3) (gsCons (gN 4) gsNil))) 3) tAll (dTup (aCons (oVar 2) (aCons (oVal (dCall C_moved_place (aCons (oVar 0) (aCons (oVar 3) aNil)))) (aCons (oVar 4) aNil)))))) aNil))) aNil))))
abbrev B_moved_house : PSpec := bodyW [] 5 2 w_moved_house
def w_shifted_end : DS :=
  (dSeq (dIfS (tVal (dBin gIsN (oVar 0) (oVal (dC .non))))
    (dRet (dC .non))
    dNext)
    (dRet (dTup (aCons (oVal (dBin gAdd (oVal (dBin gIx (oVar 0) (oVal (dC (.int 0))))) (oVar 1))) (aCons (oVal (dBin gIx (oVar 0) (oVal (dC (.int 1))))) aNil)))))
abbrev B_shifted_end : PSpec := bodyW [] 2 2 w_shifted_end
def w_mirrored_end : DS :=
  (dSeq (dIfS (tVal (dBin gIsN (oVar 0) (oVal (dC .non))))
    (dRet (dC .non))
    dNext)
    (dRet (dTup (aCons (oVal (dBin gSub (oVal (dC (.int 0))) (oVal (dBin gIx (oVar 0) (oVal (dC (.int 0))))))) (aCons (oVal (dBin gIx (oVar 0) (oVal (dC (.int 1))))) aNil)))))
abbrev B_mirrored_end : PSpec := bodyW [] 1 1 w_mirrored_end
def w_box_behind : DS :=
  (dSeq (dIfS (tVal (dBin gEq (oVal (dBin gIx (oVar 0) (oVal (dC (.int 0))))) (oVal (dC (.str "shift")))))
    (dRet (dCB gTuple (aCons (oVal (dComp (iZX (aCons (oVar 1) (aCons (oVal (dBin gIx (oVar 0) (oVal (dC (.int 1))))) aNil))) [2, 3, 4] (gT (gsCons (gT (gsCons (gN 2) (gsCons (gN 3) gsNil)) 2) (gsCons (gN 4) gsNil)) 2) tAll (dTup (aCons (oVal (dCall C_shifted_end (aCons (oVar 2) (aCons (oVar 4) aNil)))) (aCons (oVal (dCall C_shifted_end (aCons (oVar 3) (aCons (oVar 4) aNil)))) aNil))))) aNil)))
    dNext)
    (dSeq (dIfS (tVal (dBin gEq (oVal (dBin gIx (oVar 0) (oVal (dC (.int 0))))) (oVal (dC (.str "mirror")))))
    (dSeq (dAsgG (gT (gsCons (gN 2) (gsCons (gN 3) gsNil)) 2) (dBin gIx (oVar 1) (oVal (dBin gIx (oVar 0) (oVal (dC (.int 1)))))))
    (dRet (dBin gAdd (oVal (dBin gAdd (oVal (dSl (oVar 1) pNo (pInt (dBin gIx (oVar 0) (oVal (dC (.int 1))))))) (oVal (dTup (aCons (oVal (dTup (aCons (oVal (dCall C_mirrored_end (aCons (oVar 3) aNil))) (aCons (oVal (dCall C_mirrored_end (aCons (oVar 2) aNil))) aNil)))) aNil))))) (oVal (dSl (oVar 1) (pInt (dBin gAdd (oVal (dBin gIx (oVar 0) (oVal (dC (.int 1))))) (oVal (dC (.int 1))))) pNo)))))
    dNext)
    (dRet (dCall C_swapped (aCons (oVar 1) (aCons (oVal (dBin gIx (oVar 0) (oVal (dC (.int 1))))) (aCons (oVal (dBin gIx (oVar 0) (oVal (dC (.int 2))))) aNil)))))))
abbrev B_box_behind : PSpec := bodyW [] 5 2 w_box_behind
def w_moved_box : DS :=
  (dSeq (dFor (iOf (dVar 0)) (gN 2)
    (dAsg 1 (dCall C_box_behind (aCons (oVar 2) (aCons (oVar 1) aNil)))))
    (dRet (dVar 1)))
abbrev B_moved_box : PSpec := bodyW [] 3 2 w_moved_box
def w_back : DS :=
  (dSeq (dAsg 1 (dLst aNil))
    (dSeq (dFor (iRev (dVar 0)) (gN 2)
    (dIfS (tVal (dBin gEq (oVal (dBin gIx (oVar 2) (oVal (dC (.int 0))))) (oVal (dC (.str "shift")))))
    (dExp (dApp 1 (dTup (aCons (oVal (dC (.str "shift"))) (aCons (oVal (dCB gTuple (aCons (oVal (dComp (iOf (dBin gIx (oVar 2) (oVal (dC (.int 1))))) [3] (gN 3) tAll (dBin gSub (oVal (dC (.int 0))) (oVar 3)))) aNil))) aNil)))))
    (dExp (dApp 1 (dVar 2)))))
    (dRet (dCB gTuple (aCons (oVar 1) aNil)))))
abbrev B_back : PSpec := bodyW [] 4 1 w_back
def w__law_move : DS :=
  (dSeq (dAsg 2 (dLst aNil))
    (dSeq (dFor (iR gR1 (aCons (oVal (dBin gIx (oVal (dLst (aCons (oVal (dC (.int 0))) (aCons (oVal (dC (.int 1))) (aCons (oVal (dC (.int 1))) (aCons (oVal (dC (.int 2))) (aCons (oVal (dC (.int 3))) (aCons (oVal (dC (.int 5))) aNil)))))))) (oVal (dCallIO 0 0 C__law_pick (aCons (oVar 0) (aCons (oVal (dC (.int 6))) aNil)))))) aNil)) (gN 3)
    (dSeq (dAsg 4 (dBin gIx (oVal (dLst (aCons (oVal (dC (.int 1))) (aCons (oVal (dC (.int 1))) (aCons (oVal (dBin gPow (oVal (dC (.int 10))) (oVal (dC (.int 15))))) aNil))))) (oVal (dCallIO 0 0 C__law_pick (aCons (oVar 0) (aCons (oVal (dC (.int 3))) aNil))))))
    (dSeq (dAsg 5 (dTup (aCons (oVal (dC (.str "shift"))) (aCons (oVal (dCB gTuple (aCons (oVal (dComp (iR gR1 (aCons (oVar 1) aNil)) [7] (gN 7) tAll (dBin gMul2 (oVal (dBin gSub (oVal (dCallIO 0 0 C__law_pick (aCons (oVar 0) (aCons (oVal (dC (.int 19))) aNil)))) (oVal (dC (.int 9))))) (oVar 4)))) aNil))) aNil))))
    (dSeq (dAsg 6 (dTup (aCons (oVal (dC (.str "swap"))) (aCons (oVal (dCallIO 0 0 C__law_pick (aCons (oVar 0) (aCons (oVar 1) aNil)))) (aCons (oVal (dCallIO 0 0 C__law_pick (aCons (oVar 0) (aCons (oVar 1) aNil)))) aNil)))))
    (dExp (dApp 2 (dBin gIx (oVal (dLst (aCons (oVar 5) (aCons (oVal (dTup (aCons (oVal (dC (.str "mirror"))) (aCons (oVal (dCallIO 0 0 C__law_pick (aCons (oVar 0) (aCons (oVar 1) aNil)))) aNil)))) (aCons (oVar 6) aNil))))) (oVal (dCallIO 0 0 C__law_pick (aCons (oVar 0) (aCons (oVal (dC (.int 3))) aNil)))))))))))
    (dRet (dCB gTuple (aCons (oVar 2) aNil)))))
abbrev B__law_move : PSpec := bodyW [0] 8 2 w__law_move
def w__law_house : DS :=
  (dSeq (dAsg 1 (dBin gIx (oVal (dLst (aCons (oVal (dC (.int 1))) (aCons (oVal (dC (.int 2))) (aCons (oVal (dC (.int 2))) (aCons (oVal (dC (.int 3))) (aCons (oVal (dC (.int 3))) (aCons (oVal (dC (.int 4))) aNil)))))))) (oVal (dCallIO 0 0 C__law_pick (aCons (oVar 0) (aCons (oVal (dC (.int 6))) aNil))))))
    (dSeq (dAsgG (gT (gsCons (gN 2) (gsCons (gN 3) gsNil)) 2) (dTup (aCons (oVal (dBin gIx (oVal (dLst (aCons (oVal (dC (.int 1))) (aCons (oVal (dC (.int 2))) (aCons (oVal (dC (.int 3))) (aCons (oVal (dC (.int 5))) (aCons (oVal (dC (.int 9))) (aCons (oVal (dC (.int 40))) aNil)))))))) (oVal (dCallIO 0 0 C__law_pick (aCons (oVar 0) (aCons (oVal (dC (.int 6))) aNil)))))) (aCons (oVal (dBin gIx (oVal (dLst (aCons (oVal (dC (.int 1))) (aCons (oVal (dC (.int 1))) (aCons (oVal (dC (.int 3))) (aCons (oVal (dBin gPow (oVal (dC (.int 10))) (oVal (dC (.int 15))))) aNil)))))) (oVal (dCallIO 0 0 C__law_pick (aCons (oVar 0) (aCons (oVal (dC (.int 4))) aNil)))))) aNil))))
    (dSeq (dPar2 4 5 (dLst aNil) (dCallIO 0 0 C__law_pick (aCons (oVar 0) (aCons (oVal (dC (.int 3))) aNil))))
    (dSeq (dFor (iR gR1 (aCons (oVal (dBin gIx (oVal (dLst (aCons (oVal (dC (.int 0))) (aCons (oVal (dC (.int 1))) (aCons (oVal (dC (.int 2))) (aCons (oVal (dC (.int 3))) (aCons (oVal (dC (.int 4))) (aCons (oVal (dC (.int 6))) (aCons (oVal (dC (.int 8))) (aCons (oVal (dC (.int 12))) (aCons (oVal (dC (.int 20))) (aCons (oVal (dC (.int 30))) aNil)))))))))))) (oVal (dCallIO 0 0 C__law_pick (aCons (oVar 0) (aCons (oVal (dC (.int 10))) aNil)))))) aNil)) (gN 6)
    (dSeq (dAsg 7 (dCB gTuple (aCons (oVal (dComp (iR gR1 (aCons (oVar 1) aNil)) [9] (gN 9) tAll (dBin gMul2 (oVal (dBin gSub (oVal (dCallIO 0 0 C__law_pick (aCons (oVar 0) (aCons (oVal (dBin gAdd (oVal (dBin gMul2 (oVal (dC (.int 2))) (oVar 2))) (oVal (dC (.int 1))))) aNil)))) (oVar 2))) (oVar 3)))) aNil)))
    (dSeq (dIfS (tAnd (tVal (dBin gNe (oVar 4) (oVal (dLst aNil)))) (tVal (dBin gEq (oVal (dCallIO 0 0 C__law_pick (aCons (oVar 0) (aCons (oVal (dC (.int 6))) aNil)))) (oVal (dC (.int 0))))))
    (dAsg 7 (dBin gIx (oVal (dBin gIx (oVar 4) (oVal (dCallIO 0 0 C__law_pick (aCons (oVar 0) (aCons (oVal (dCB gLen (aCons (oVar 4) aNil))) aNil)))))) (oVal (dC (.int 1)))))
    dNext)
    (dSeq (dAsg 8 (dBin gIx (oVal (dLst (aCons (oVal (dBin gPow (oVal (dC (.int 10))) (oVal (dC (.int 17))))) (aCons (oVal (dUn gNeg (oVal (dBin gPow (oVal (dC (.int 10))) (oVal (dC (.int 17))))))) aNil)))) (oVal (dCallIO 0 0 C__law_pick (aCons (oVar 0) (aCons (oVal (dC (.int 2))) aNil))))))
    (dSeq (dExp (dApp 4 (dTup (aCons (oVar 5) (aCons (oVar 7) (aCons (oVal (dBin gIx (oVal (dLst (aCons (oVal (dBin gSub (oVal (dCallIO 0 0 C__law_pick (aCons (oVar 0) (aCons (oVal (dC (.int 5))) aNil)))) (oVal (dC (.int 2))))) (aCons (oVal (dBin gSub (oVal (dCallIO 0 0 C__law_pick (aCons (oVar 0) (aCons (oVal (dC (.int 1000))) aNil)))) (oVal (dC (.int 500))))) (aCons (oVar 8) aNil))))) (oVal (dCallIO 0 0 C__law_pick (aCons (oVar 0) (aCons (oVal (dC (.int 3))) aNil)))))) aNil))))))
    (dAsg 5 (dBin gAdd (oVal (dBin gAdd (oVar 5) (oVal (dC (.int 1))))) (oVal (dBin gIx (oVal (dLst (aCons (oVal (dC (.int 0))) (aCons (oVal (dC (.int 0))) (aCons (oVal (dC (.int 1))) (aCons (oVal (dC (.int 7))) (aCons (oVal (dC (.int 40))) aNil))))))) (oVal (dCallIO 0 0 C__law_pick (aCons (oVar 0) (aCons (oVal (dC (.int 5))) aNil)))))))))))))
    (dRet (dTup (aCons (oVar 1) (aCons (oVal (dCB gTuple (aCons (oVar 4) aNil))) aNil))))))))
abbrev B__law_house : PSpec := bodyW [0] 10 1 w__law_house
def w__law_number : DS :=
  (dSeq (dAsg 3 (dBin gAdd (oVal (dComp (iOf (dBin gIx (oVar 1) (oVal (dC (.int 1))))) [4] (gN 4) tAll (dBin gIx (oVal (dBin gIx (oVar 4) (oVal (dC (.int 1))))) (oVar 2)))) (oVal (dLst (aCons (oVal (dC (.int 0))) aNil)))))
    (dRet (dBin gAdd (oVal (dBin gIx (oVar 3) (oVal (dCallIO 0 0 C__law_pick (aCons (oVar 0) (aCons (oVal (dCB gLen (aCons (oVar 3) aNil))) aNil)))))) (oVal (dBin gIx (oVal (dLst (aCons (oVal (dC (.int 0))) (aCons (oVal (dC (.int 0))) (aCons (oVal (dC (.int 0))) (aCons (oVal (dC (.int 1))) (aCons (oVal (dUn gNeg (oVal (dC (.int 1))))) (aCons (oVal (dC (.int 2))) aNil)))))))) (oVal (dCallIO 0 0 C__law_pick (aCons (oVar 0) (aCons (oVal (dC (.int 6))) aNil)))))))))
abbrev B__law_number : PSpec := bodyW [0] 5 3 w__law_number
def w__law_box : DS :=
  (dSeq (dAsg 2 (dLst aNil))
    (dSeq (dFor (iR gR1 (aCons (oVal (dBin gIx (oVar 1) (oVal (dC (.int 0))))) aNil)) (gN 3)
    (dSeq (dPar2 4 5 (dCallIO 0 0 C__law_number (aCons (oVar 0) (aCons (oVar 1) (aCons (oVar 3) aNil)))) (dCallIO 0 0 C__law_number (aCons (oVar 0) (aCons (oVar 1) (aCons (oVar 3) aNil)))))
    (dSeq (dIfS (tAnd (tVal (dBin gGt (oVar 4) (oVar 5))) (tVal (dBin gGt (oVal (dCallIO 0 0 C__law_pick (aCons (oVar 0) (aCons (oVal (dC (.int 5))) aNil)))) (oVal (dC (.int 0))))))
    (dPar2 4 5 (dVar 5) (dVar 4))
    dNext)
    (dSeq (dAsg 6 (dBin gIx (oVal (dLst (aCons (oVal (dC .non)) (aCons (oVal (dTup (aCons (oVar 4) (aCons (oVal (dC (.bl true))) aNil)))) (aCons (oVal (dTup (aCons (oVar 4) (aCons (oVal (dC (.bl false))) aNil)))) (aCons (oVal (dTup (aCons (oVar 4) (aCons (oVal (dC (.bl true))) aNil)))) aNil)))))) (oVal (dCallIO 0 0 C__law_pick (aCons (oVar 0) (aCons (oVal (dC (.int 4))) aNil))))))
    (dExp (dApp 2 (dTup (aCons (oVar 6) (aCons (oVal (dBin gIx (oVal (dLst (aCons (oVal (dC .non)) (aCons (oVal (dTup (aCons (oVar 5) (aCons (oVal (dC (.bl true))) aNil)))) (aCons (oVal (dTup (aCons (oVar 5) (aCons (oVal (dC (.bl false))) aNil)))) (aCons (oVal (dTup (aCons (oVar 5) (aCons (oVal (dC (.bl true))) aNil)))) aNil)))))) (oVal (dCallIO 0 0 C__law_pick (aCons (oVar 0) (aCons (oVal (dC (.int 4))) aNil)))))) aNil)))))))))
    (dRet (dCB gTuple (aCons (oVar 2) aNil)))))
abbrev B__law_box : PSpec := bodyW [0] 7 2 w__law_box
/-! ### rows -/
theorem cut_take {xs : List D} {i : Nat} : Bx.cutD xs none (some (i : Int)) = xs.take i := by
  unfold Bx.cutD
  rw [HT.sIx_none, HT.sIx_nat, List.drop_zero, Nat.sub_zero]
  by_cases h : i ≤ xs.length
  · rw [Nat.min_eq_left h]
  · rw [Nat.min_eq_right (by omega), List.take_of_length_le (Nat.le_refl _), List.take_of_length_le (by omega)]
theorem cut_drop {xs : List D} {i : Nat} : Bx.cutD xs (some (i : Int)) none = xs.drop i := by
  unfold Bx.cutD
  rw [HT.sIx_none, HT.sIx_nat]
  by_cases h : i ≤ xs.length
  · rw [Nat.min_eq_left h, List.take_of_length_le (by simp)]
  · rw [Nat.min_eq_right (by omega), List.drop_of_length_le (Nat.le_refl _), List.drop_of_length_le (by omega)]; simp
theorem set_cut {α : Type} {xs : List α} {i : Nat} {a : α} (h : i < xs.length) : xs.take i ++ [a] ++ xs.drop (i + 1) = xs.set i a := by
  rw [List.set_eq_take_append_cons_drop, if_pos h]
  simp
theorem swpL_len {α : Type} (xs : List α) (i j : Nat) : (swpL xs i j).length = xs.length := by
  unfold swpL
  split <;> simp
theorem swpL_map {α β : Type} (f : α → β) (xs : List α) (i j : Nat) : (swpL xs i j).map f = swpL (xs.map f) i j := by
  unfold swpL
  rw [List.getElem?_map, List.getElem?_map]
  cases xs[i]? <;> cases xs[j]? <;> simp [List.map_set]
theorem swpL_at {α : Type} {xs : List α} {i j : Nat} (hi : i < xs.length) (hj : j < xs.length) : swpL xs i j = (xs.set i xs[j]).set j xs[i] := by
  unfold swpL
  rw [List.getElem?_eq_getElem hi, List.getElem?_eq_getElem hj]
theorem swpL_swpL {α : Type} {xs : List α} {i j : Nat} (hi : i < xs.length) (hj : j < xs.length) : swpL (swpL xs i j) i j = xs := by
  rw [swpL_at (by rw [swpL_len]; exact hi) (by rw [swpL_len]; exact hj)]
  refine List.ext_getElem (by simp [swpL_len]) fun k h1 h2 => ?_
  simp only [swpL_at hi hj, List.getElem_set]
  by_cases e1 : j = k
  · subst e1
    by_cases e2 : j = i
    · subst e2; simp
    · simp [e2]
  · by_cases e2 : i = k
    · subst e2; simp [e1]
    · simp [e1, e2]
theorem placeB_len {s : Stp} {p : List Int} (h : okP p.length s) : (placeB s p).length = p.length := by
  cases s with
  | shift l => have h : l.length = p.length := h; simp [placeB, h]
  | mirror i => simp [placeB]
  | swap i j => simp [placeB, swpL_len]
theorem boxB_len {s : Stp} {p : Bx1} (h : okP p.length s) : (boxB s p).length = p.length := by
  cases s with
  | shift l => have h : l.length = p.length := h; simp [boxB, h]
  | mirror i => simp [boxB]
  | swap i j => simp [boxB, swpL_len]
theorem mvP_len : ∀ {ss : List Stp} {p : List Int}, (∀ s ∈ ss, okP p.length s) → (mvP ss p).length = p.length
  | [], _, _ => rfl
  | s :: ss, p, h => by
    have h1 := placeB_len (h s List.mem_cons_self)
    show (mvP ss (placeB s p)).length = _
    rw [mvP_len (fun t ht => by rw [h1]; exact h t (List.mem_cons_of_mem _ ht)), h1]
theorem mvB_len : ∀ {ss : List Stp} {p : Bx1}, (∀ s ∈ ss, okP p.length s) → (mvB ss p).length = p.length
  | [], _, _ => rfl
  | s :: ss, p, h => by
    have h1 := boxB_len (h s List.mem_cons_self)
    show (mvB ss (boxB s p)).length = _
    rw [mvB_len (fun t ht => by rw [h1]; exact h t (List.mem_cons_of_mem _ ht)), h1]
theorem zip_with {α β γ : Type} (f : α → β → γ) : ∀ (p : List α) (l : List β), (p.zip l).map (fun x => f x.1 x.2) = List.zipWith f p l
  | [], _ => by simp
  | _ :: _, [] => by simp
  | a :: p, b :: l => by simp only [List.zip_cons_cons, List.map_cons, List.zipWith_cons_cons, zip_with f p l]
theorem map_with {α β γ δ : Type} (g : γ → δ) (f : α → β → γ) : ∀ (p : List α) (l : List β), (List.zipWith f p l).map g = List.zipWith (fun a b => g (f a b)) p l
  | [], _ => by simp
  | _ :: _, [] => by simp
  | a :: p, b :: l => by simp only [List.zipWith_cons_cons, List.map_cons, map_with g f p l]
/-! ### the walks -/
theorem stpD_frz (s : Stp) : (stpD s).frz = stpD s := by cases s <;> rfl
theorem thD_frz (t : Th) : (thD t).frz = thD t := rfl
theorem sD_frz (s : Eg × Eg) : (sD s).frz = sD s := rfl
theorem imp_swapped : ∀ ds Q, C_swapped ds Q → B_swapped ds Q := by
  rintro ds Q ⟨xs, i, j, rfl, hi, hj, hf, q⟩
  refine ⟨rfl, ?_⟩
  have ei : atI xs (i : Int) = some xs[i] := by rw [atI_nat' (by omega), Int.toNat_natCast, List.getElem?_eq_getElem hi]
  have ej : atI xs (j : Int) = some xs[j] := by rw [atI_nat' (by omega), Int.toNat_natCast, List.getElem?_eq_getElem hj]
  have fi := hf xs[i] (List.getElem_mem hi)
  have fj := hf xs[j] (List.getElem_mem hj)
  simp only [w_swapped, ei, ej, fi, fj, Bx.go]
  rw [ixN_nat (by omega) (by omega)]
  simp only [fi, fj, Bx.go]
  rw [ixN_nat (by omega) (by simp; omega)]
  simp only [fi, fj, Bx.go]
  rw [swpL_at hi hj] at q
  exact q
theorem z_shift : (("shift" : Str) == "shift") = true := by simp
theorem z_ms : (("mirror" : Str) == "shift") = false := by decide
theorem z_ss : (("swap" : Str) == "shift") = false := by decide
theorem z_mm : (("mirror" : Str) == "mirror") = true := by simp
theorem z_sm : (("swap" : Str) == "mirror") = false := by decide
theorem imp_place_behind : ∀ ds Q, C_place_behind ds Q → B_place_behind ds Q := by
  rintro ds Q ⟨s, p, rfl, ok, hl, q⟩
  refine ⟨rfl, ?_⟩
  have sl := sizeLine_eq
  cases s with
  | shift l =>
    have ok : l.length = p.length := ok
    simp only [w_place_behind, stpD, p0, p1, eqv_str, z_shift, Bx.go]
    refine ⟨eqOk_str okZ_shift okZ_shift, ?_⟩
    rw [zipD_map]
    refine ⟨by simp; omega, co_map (p.zip l) _ (fun x => .int (x.1 + x.2)) (fun x hx acc N hN => ?_) ?_⟩
    · simp only [Bx.go]
      exact hN
    · simp only [backR, Bx.go]
      rw [show (p.zip l).map (fun x => D.int (x.1 + x.2)) = (placeB (.shift l) p).map .int by
        simp only [placeB]; rw [map_with]; exact zip_with (fun a b => D.int (a + b)) p l]
      exact q
  | mirror i =>
    have ok : i < p.length := ok
    have ei := atI_int (row := p) ok
    have c1 : Bx.cutD (p.map D.int) none (some (i : Int)) = (p.map D.int).take i := cut_take
    have c2 : Bx.cutD (p.map D.int) (some ((i : Int) + 1)) none = (p.map D.int).drop (i + 1) := by
      rw [show ((i : Int) + 1) = ((i + 1 : Nat) : Int) by omega]; exact cut_drop
    simp only [w_place_behind, stpD, p0, p1, eqv_str, z_ms, Bx.go]
    refine ⟨eqOk_str okZ_mirror okZ_shift, ?_⟩
    simp only [p0, p1, eqv_str, z_mm, Bx.go]
    refine ⟨eqOk_str okZ_mirror okZ_mirror, ?_⟩
    simp only [p0, p1, ei, c1, c2, Bx.go]
    rw [set_cut (by simpa using ok)]
    refine ⟨by simp; omega, by simp; omega, ?_⟩
    rw [show (p.map D.int).set i (D.int (0 - p.getD i 0)) = (placeB (.mirror i) p).map .int by simp [placeB, List.map_set]]
    exact q
  | swap i j =>
    obtain ⟨hi, hj⟩ : i < p.length ∧ j < p.length := ok
    simp only [w_place_behind, stpD, q0, q1, q2, eqv_str, z_ss, Bx.go]
    refine ⟨eqOk_str okZ_swap okZ_shift, ?_⟩
    refine ⟨eqOk_str okZ_swap okZ_mirror, ?_⟩
    rw [z_sm]
    simp only [q0, q1, q2, Bx.go]
    refine ⟨p.map .int, i, j, rfl, by simpa using hi, by simpa using hj, fun x hx => ?_, ?_⟩
    · obtain ⟨_, _, rfl⟩ := List.mem_map.mp hx; rfl
    · rw [← swpL_map]
      exact q
theorem imp_moved_place : ∀ ds Q, C_moved_place ds Q → B_moved_place ds Q := by
  rintro ds Q ⟨ss, p, rfl, ok, hl, q⟩
  refine ⟨rfl, ?_⟩
  simp only [w_moved_place, Bx.go]
  refine for_each ss stpD (fun dn ρ => ∃ x2, ρ = [some (.tup (ss.map stpD)), some (.tup ((mvP dn p).map .int)), x2]) ⟨_, rfl⟩ ?_ ?_
  · rintro dn s r ρ N e ⟨x2, rfl⟩ hN
    have hd : (mvP dn p).length = p.length := mvP_len fun t ht => ok t (by rw [e]; simp [ht])
    simp only [stpD_frz, Bx.go]
    refine ⟨s, mvP dn p, rfl, by rw [hd]; exact ok s (by rw [e]; simp), by omega, ?_⟩
    simp only [Bx.go]
    exact hN _ ⟨_, by rw [show mvP (dn ++ [s]) p = placeB s (mvP dn p) by simp [mvP]]⟩
  · rintro ρ ⟨x2, rfl⟩
    simp only [Bx.go]
    exact q
theorem imp_moved_house : ∀ ds Q, C_moved_house ds Q → B_moved_house ds Q := by
  rintro ds Q ⟨ss, d, ts, rfl, ok, hd, hl, hn, q⟩
  refine ⟨rfl, ?_⟩
  have sl := sizeLine_eq
  simp only [w_moved_house, houseD, p0, p1, Bx.go]
  refine ⟨by omega, co_map ts thD (fun t => thD (mvT ss t)) (fun t ht acc N hN => ?_) ?_⟩
  · have lt := hn t ht
    simp only [thD, Bx.go]
    refine ⟨ss, t.2.1, rfl, by rw [lt]; exact ok, by omega, ?_⟩
    simp only [Bx.go]
    exact hN
  · simp only [backR, Bx.go]
    rw [show ts.map (fun t => thD (mvT ss t)) = (ts.map (mvT ss)).map thD by rw [List.map_map]; rfl]
    exact q
theorem imp_shifted_end : ∀ ds Q, C_shifted_end ds Q → B_shifted_end ds Q := by
  rintro ds Q ⟨e, m, rfl, q⟩
  refine ⟨rfl, ?_⟩
  cases e with
  | none => simp only [w_shifted_end, eD, Bx.go]; exact q
  | some e => simp only [w_shifted_end, eD, p0, p1, Bx.go]; exact q
theorem imp_mirrored_end : ∀ ds Q, C_mirrored_end ds Q → B_mirrored_end ds Q := by
  rintro ds Q ⟨e, rfl, q⟩
  refine ⟨rfl, ?_⟩
  cases e with
  | none => simp only [w_mirrored_end, eD, Bx.go]; exact q
  | some e => simp only [w_mirrored_end, eD, p0, p1, Bx.go]; exact q
theorem eD_frz (e : Eg) : (eD e).frz = eD e := by cases e <;> rfl
theorem imp_box_behind : ∀ ds Q, C_box_behind ds Q → B_box_behind ds Q := by
  rintro ds Q ⟨s, b, rfl, ok, hl, q⟩
  refine ⟨rfl, ?_⟩
  have sl := sizeLine_eq
  cases s with
  | shift l =>
    have ok : l.length = b.length := ok
    simp only [w_box_behind, stpD, p0, p1, eqv_str, z_shift, Bx.go]
    refine ⟨eqOk_str okZ_shift okZ_shift, ?_⟩
    rw [zipD_map]
    refine ⟨by simp; omega, co_map (b.zip l) _ (fun x => sD (shE x.1.1 x.2, shE x.1.2 x.2)) (fun x hx acc N hN => ?_) ?_⟩
    · simp only [sD, eD_frz, Bx.go]
      refine ⟨x.1.1, x.2, rfl, ?_⟩
      simp only [eD_frz, Bx.go]
      refine ⟨x.1.2, x.2, rfl, ?_⟩
      simp only [eD_frz, Bx.go]
      exact hN
    · simp only [backR, Bx.go]
      rw [show (b.zip l).map (fun x => sD (shE x.1.1 x.2, shE x.1.2 x.2)) = (boxB (.shift l) b).map sD by
        simp only [boxB]; rw [map_with]; exact zip_with (fun s m => sD (shE s.1 m, shE s.2 m)) b l]
      exact q
  | mirror i =>
    have ok : i < b.length := ok
    have ei : atI (b.map sD) (i : Int) = some (sD (b.getD i (none, none))) := atI_map (by rw [List.getD_eq_getElem?_getD, List.getElem?_eq_getElem ok]; rfl)
    have c1 : Bx.cutD (b.map sD) none (some (i : Int)) = (b.map sD).take i := cut_take
    have c2 : Bx.cutD (b.map sD) (some ((i : Int) + 1)) none = (b.map sD).drop (i + 1) := by
      rw [show ((i : Int) + 1) = ((i + 1 : Nat) : Int) by omega]; exact cut_drop
    obtain ⟨lo, hi⟩ : ∃ s, s = b.getD i (none, none) := ⟨_, rfl⟩
    simp only [boxB] at q
    generalize b.getD i (none, none) = s at ei q
    simp only [w_box_behind, stpD, p0, p1, eqv_str, z_ms, Bx.go]
    refine ⟨eqOk_str okZ_mirror okZ_shift, ?_⟩
    simp only [p0, p1, eqv_str, z_mm, Bx.go]
    refine ⟨eqOk_str okZ_mirror okZ_mirror, ?_⟩
    simp only [p0, p1, ei, c1, c2, sD, eD_frz, Bx.go]
    refine ⟨s.2, rfl, ?_⟩
    simp only [p0, p1, ei, c1, c2, eD_frz, Bx.go]
    refine ⟨s.1, rfl, ?_⟩
    simp only [p0, p1, ei, c1, c2, eD_frz, Bx.go]
    rw [show (D.tup [eD (miE s.2), eD (miE s.1)]) = sD (miE s.2, miE s.1) from rfl]
    refine ⟨by simp; omega, by simp; omega, ?_⟩
    rw [set_cut (by simpa using ok)]
    rw [List.map_set] at q
    exact q
  | swap i j =>
    obtain ⟨hi, hj⟩ : i < b.length ∧ j < b.length := ok
    simp only [w_box_behind, stpD, q0, q1, q2, eqv_str, z_ss, Bx.go]
    refine ⟨eqOk_str okZ_swap okZ_shift, ?_⟩
    refine ⟨eqOk_str okZ_swap okZ_mirror, ?_⟩
    rw [z_sm]
    simp only [q0, q1, q2, Bx.go]
    refine ⟨b.map sD, i, j, rfl, by simpa using hi, by simpa using hj, fun x hx => ?_, ?_⟩
    · obtain ⟨_, _, rfl⟩ := List.mem_map.mp hx; rfl
    · rw [← swpL_map]
      exact q
theorem imp_moved_box : ∀ ds Q, C_moved_box ds Q → B_moved_box ds Q := by
  rintro ds Q ⟨ss, p, rfl, ok, hl, q⟩
  refine ⟨rfl, ?_⟩
  simp only [w_moved_box, Bx.go]
  refine for_each ss stpD (fun dn ρ => ∃ x2, ρ = [some (.tup (ss.map stpD)), some (.tup ((mvB dn p).map sD)), x2]) ⟨_, rfl⟩ ?_ ?_
  · rintro dn s r ρ N e ⟨x2, rfl⟩ hN
    have hd : (mvB dn p).length = p.length := mvB_len fun t ht => ok t (by rw [e]; simp [ht])
    simp only [stpD_frz, Bx.go]
    refine ⟨s, mvB dn p, rfl, by rw [hd]; exact ok s (by rw [e]; simp), by omega, ?_⟩
    simp only [Bx.go]
    exact hN _ ⟨_, by rw [show mvB (dn ++ [s]) p = boxB s (mvB dn p) by simp [mvB]]⟩
  · rintro ρ ⟨x2, rfl⟩
    simp only [Bx.go]
    exact q
theorem imp_back : ∀ ds Q, C_back ds Q → B_back ds Q := by
  rintro ds Q ⟨ss, rfl, hl, ok, q⟩
  refine ⟨rfl, ?_⟩
  have sl := sizeLine_eq
  simp only [w_back, Bx.go]
  rw [← List.map_reverse]
  refine for_each ss.reverse stpD (fun dn ρ => ∃ x2 x3, ρ = [some (.tup (ss.map stpD)), some (.lst true ((dn.map backS).map stpD)), x2, x3]) ⟨_, _, rfl⟩ ?_ ?_
  · rintro dn s r ρ N e ⟨x2, x3, rfl⟩ hN
    have hs : s ∈ ss := by
      have : s ∈ ss.reverse := by rw [e]; simp
      simpa using this
    have e := congrArg List.length e
    simp at e
    have fin : ∀ x2 x3, N [some (.tup (ss.map stpD)), some (.lst true ((dn.map backS).map stpD ++ [stpD (backS s)])), x2, x3] := fun x2 x3 => hN _ ⟨x2, x3, by simp⟩
    cases s with
    | shift l =>
      have ll : l.length ≤ 1000 := by
        rcases ok _ hs with h | ⟨d, h1, h2⟩
        · have : l.length = 4 := h; omega
        · have : l.length = d := h2; omega
      simp only [stpD, p0, p1, eqv_str, z_shift, Bx.go]
      refine ⟨eqOk_str okZ_shift okZ_shift, by omega, co_map l D.int (fun n => .int (0 - n)) (fun n hn acc N hN => ?_) ?_⟩
      · simp only [Bx.go]
        exact hN
      · simp only [backR, Bx.go]
        have := fin (some (stpD (.shift l))) (oldD x3)
        simp only [backS, stpD, List.map_map] at this
        refine ⟨by omega, ?_⟩
        simp only [stpD, List.map_map]
        exact this
    | mirror i =>
      simp only [stpD, p0, p1, eqv_str, z_ms, Bx.go]
      refine ⟨eqOk_str okZ_mirror okZ_shift, ?_⟩
      exact ⟨by omega, fin _ _⟩
    | swap i j =>
      simp only [stpD, q0, q1, eqv_str, z_ss, Bx.go]
      refine ⟨eqOk_str okZ_swap okZ_shift, ?_⟩
      exact ⟨by omega, fin _ _⟩
  · rintro ρ ⟨x2, x3, rfl⟩
    simp only [Bx.go]
    exact q
theorem imp__law_move : ∀ ds Q, C__law_move ds Q → B__law_move ds Q := by
  rintro ds Q ⟨h, n, d, rfl, hh, hn, d1, d4, q⟩
  refine ⟨rfl, ?_⟩
  have sl := sizeLine_eq
  simp only [w__law_move, Bx.go]
  refine ⟨h, n, 6, rfl, hh, by omega, by decide, by decide, fun r h h0 h1 hh => ?_⟩
  obtain ⟨m, em, hm⟩ := atI_of (ns := [0, 1, 1, 2, 3, 5]) (fun v => 0 ≤ v ∧ v ≤ 5) (by decide) h0 (by simpa using h1)
  simp only [List.map] at em
  simp only [em, Bx.go]
  refine ⟨i62_of (by omega) (by omega), ?_⟩
  rw [rangeD_nat]
  have hS : ∀ s : Stp, (stpD s).frz = stpD s := fun s => by cases s <;> rfl
  refine for_each (List.range m.toNat) _ (fun dn ρ => ∃ (h : List D) (ss : List Stp) (x3 x4 x5 x6 x7 : Option D), hnd (n + 1 + 9 * dn.length) h ∧ ss.length = dn.length ∧ (∀ s ∈ ss, okP d s) ∧ ρ = [some (.lst true h), some (.int d), some (.lst true (ss.map stpD)), x3, x4, x5, x6, x7]) ⟨h, [], _, _, _, _, _, hh, rfl, fun _ h => absurd h List.not_mem_nil, rfl⟩ ?_ ?_
  · rintro dn x r ρ N e ⟨h, ss, x3, x4, x5, x6, x7, hh, sl', hs, rfl⟩ hN
    have e := congrArg List.length e
    simp at e
    obtain ⟨c, hc⟩ : ∃ c, c = n + 1 + 9 * dn.length := ⟨_, rfl⟩
    rw [← hc] at hh
    simp only [u1_gT, u2_gT, u1_gsCons, u2_gsCons, u1_gsNil, u2_gsNil, u1_kGs, u1_gN, u1_kForB, rset_s, rset_0, rget_s, rget_0, D.seq, D.sql, u_onSome_some, frz_tup, frz_int, frz_bl, frz_lst, frz_str, frz_non, frz_scr, List.length_cons, List.length_nil, List.map_cons, List.map_nil, Option.bind_some, true_and, and_true]
    refine seq_cut (fun ρ => ∃ (h : List D) (f : Int), 1 ≤ f ∧ f ≤ 10 ^ 15 ∧ hnd (c + 1) h ∧ ρ = [some (.lst true h), some (.int d), some (.lst true (ss.map stpD)), some (.int (x : Nat)), some (.int f), x5, x6, x7]) (fun R hR => ?_) ?_
    · simp only [Bx.go]
      refine ⟨⟨by decide, by decide, by decide⟩, h, _, 3, rfl, hh, by omega, by decide, by decide, fun r h h0 h1 hh => ?_⟩
      obtain ⟨f, ef, hf⟩ := atI_of (ns := [1, 1, 10 ^ Int.toNat 15]) (fun v => 1 ≤ v ∧ v ≤ 10 ^ 15) (by decide) h0 (by simpa using h1)
      simp only [List.map] at ef
      simp only [ef, Bx.go]
      exact hR _ ⟨h, f, hf.1, hf.2, hh, rfl⟩
    rintro _ ⟨h, f, f1, f2, hh, rfl⟩
    refine seq_cut (fun ρ => ∃ (h : List D) (l : List Int) (x7 : Option D), l.length = d ∧ hnd (c + 5) h ∧ ρ = [some (.lst true h), some (.int d), some (.lst true (ss.map stpD)), some (.int (x : Nat)), some (.int f), some (stpD (.shift l)), x6, x7]) (fun R hR => ?_) ?_
    · simp only [Bx.go]
      refine ⟨i62_of (by omega) (by omega), by rw [rangeD_len]; omega, ?_⟩
      rw [rangeD_nat]
      refine co_each (List.range (Int.toNat d)) _ (fun dn acc ρ => ∃ (h : List D) (l : List Int), acc = l.map .int ∧ l.length = dn.length ∧ hnd (c + 1 + dn.length) h ∧ ρ = [some (.lst true h), some (.int d), some (.lst true (ss.map stpD)), some (.int (x : Nat)), some (.int f), x5, x6, none]) ⟨h, [], rfl, rfl, hh, rfl⟩ ?_ ?_
      · rintro dm y r acc ρ N e2 ⟨h, l, rfl, ll, hh, rfl⟩ hN
        have e2 := congrArg List.length e2
        simp at e2
        simp only [Bx.go]
        refine ⟨h, _, 19, rfl, hh, by omega, by decide, by decide, fun r h h0 h1 hh => ?_⟩
        simp only [Bx.go]
        exact ⟨.inl ⟨by omega, by omega⟩, hN _ _ ⟨h, l ++ [(r - 9) * f], by simp, by simp [ll], hh.mono (by simp; omega), rfl⟩⟩
      · rintro acc ρ ⟨h, l, rfl, ll, hh, rfl⟩
        simp only [backR, Bx.go]
        simp at ll hh
        exact hR _ ⟨h, l, _, ll, hh.mono (by omega), rfl⟩
    clear x7
    rintro _ ⟨h, l, x7, ll, hh, rfl⟩
    refine seq_cut (fun ρ => ∃ (h : List D) (i j : Nat), i < d ∧ j < d ∧ hnd (c + 7) h ∧ ρ = [some (.lst true h), some (.int d), some (.lst true (ss.map stpD)), some (.int (x : Nat)), some (.int f), some (stpD (.shift l)), some (stpD (.swap i j)), x7]) (fun R hR => ?_) ?_
    · simp only [Bx.go]
      refine ⟨h, _, d, rfl, hh, by omega, by omega, by omega, fun i h i0 i1 hh => ?_⟩
      simp only [Bx.go]
      refine ⟨h, _, d, rfl, hh, by omega, by omega, by omega, fun j h j0 j1 hh => ?_⟩
      simp only [Bx.go]
      refine hR _ ⟨h, i.toNat, j.toNat, by omega, by omega, hh, ?_⟩
      simp only [stpD, Int.toNat_of_nonneg i0, Int.toNat_of_nonneg j0]
    rintro _ ⟨h, i, j, hi, hj, hh, rfl⟩
    simp only [hS, Bx.go]
    refine ⟨h, _, d, rfl, hh, by omega, by omega, by omega, fun k h k0 k1 hh => ?_⟩
    simp only [Bx.go]
    refine ⟨h, _, 3, rfl, hh, by omega, by decide, by decide, fun w h w0 w1 hh => ?_⟩
    have fin : ∀ s : Stp, okP d s → N [some (.lst true h), some (.int d), some (.lst true (ss.map stpD ++ [stpD s])), some (.int (x : Nat)), some (.int f), some (stpD (.shift l)), some (stpD (.swap i j)), x7] := fun s ok => hN _ ⟨h, ss ++ [s], _, _, _, _, _, hh.mono (by simp; omega), by simp [sl'], fun t ht => (by
      rcases List.mem_append.mp ht with ht | ht
      · exact hs t ht
      · simp at ht; subst ht; exact ok), by rw [List.map_append]; rfl⟩
    have lw : (ss.map stpD).length < sizeLine := by rw [List.length_map]; omega
    have hw : w = 0 ∨ w = 1 ∨ w = 2 := by omega
    rcases hw with rfl | rfl | rfl
    · simp only [q0, hS, Bx.go]
      exact ⟨by simpa using lw, fin (.shift l) ll⟩
    · simp only [q1, Bx.go]
      have := fin (.mirror k.toNat) (show k.toNat < d by omega)
      simp only [stpD, Int.toNat_of_nonneg k0] at this
      exact ⟨by simpa using lw, this⟩
    · simp only [q2, hS, Bx.go]
      exact ⟨by simpa using lw, fin (.swap i j) ⟨hi, hj⟩⟩
  · rintro ρ ⟨h, ss, x3, x4, x5, x6, x7, hh, sl', hs, rfl⟩
    simp only [Bx.go]
    simp at sl' hh
    exact q ss h (by omega) hs (hh.mono (by omega))
/-! ### the house's making -/
theorem okE_th (t : Th) : okE 2 (thD t) := by
  intro x hx
  simp only [List.mem_cons, List.not_mem_nil, or_false] at hx
  rcases hx with rfl | rfl | rfl
  · trivial
  · intro y hy
    obtain ⟨i, _, rfl⟩ := List.mem_map.mp hy; trivial
  · trivial
theorem okE_lth (o : Bool) (ts : List Th) : okE 3 (.lst o (ts.map thD)) := by
  intro x hx
  obtain ⟨t, _, rfl⟩ := List.mem_map.mp hx
  exact okE_th t
theorem okE_house (d : Nat) (ts : List Th) : okE 4 (houseD d ts) := by
  intro x hx
  simp only [List.mem_cons, List.not_mem_nil, or_false] at hx
  rcases hx with rfl | rfl
  · trivial
  · intro x hx
    obtain ⟨t, _, rfl⟩ := List.mem_map.mp hx
    exact okE_th t
theorem ne_nil_th (ts : List Th) : D.eqv (.lst true (ts.map thD)) (.lst true []) = ts.isEmpty := by
  cases ts with
  | nil => exact eqv_refl (okE_lth true [])
  | cons t ts =>
    unfold D.eqv
    simp [D.pd, D.pds, PyData.eqv, PyData.eqvAll]
theorem House.snoc {d : Nat} {ts : List Th} {t : Th} (h : House d ts) (l : ts.length < 300) (n : t.2.1.length = d) (z : 0 ≤ t.1) (r : ∀ s ∈ ts, s.1 < t.1) : House d (ts ++ [t]) := by
  refine ⟨by simp; omega, fun s hs => ?_, fun s hs => ?_, ?_⟩
  · rcases List.mem_append.mp hs with hs | hs
    · exact h.num s hs
    · simp at hs; subst hs; exact n
  · rcases List.mem_append.mp hs with hs | hs
    · exact h.nat s hs
    · simp at hs; subst hs; exact z
  · rw [List.pairwise_append]
    refine ⟨h.ris, by simp, fun a ha b hb => ?_⟩
    simp at hb; subst hb; exact r a ha
theorem imp__law_house : ∀ ds Q, C__law_house ds Q → B__law_house ds Q := by
  rintro ds Q ⟨h, n, rfl, hh, hn, q⟩
  refine ⟨rfl, ?_⟩
  have sl := sizeLine_eq
  refine seq_cut (fun ρ => ∃ (h : List D) (d : Nat), 1 ≤ d ∧ d ≤ 4 ∧ hnd (n + 1) h ∧ ρ = [some (.lst true h), some (.int d), none, none, none, none, none, none, none, none]) (fun R hR => ?_) ?_
  · simp only [Bx.go]
    refine ⟨h, n, 6, rfl, hh, by omega, by decide, by decide, fun r h h0 h1 hh => ?_⟩
    obtain ⟨v, ev, hv⟩ := atI_of (ns := [1, 2, 2, 3, 3, 4]) (fun v => 1 ≤ v ∧ v ≤ 4) (by decide) h0 (by simpa using h1)
    simp only [List.map] at ev
    simp only [ev, Bx.go]
    exact hR _ ⟨h, v.toNat, by omega, by omega, hh, by rw [Int.toNat_of_nonneg (by omega)]⟩
  rintro _ ⟨h, d, d1, d4, hh, rfl⟩
  refine seq_cut (fun ρ => ∃ (h : List D) (w f : Int), 1 ≤ w ∧ w ≤ 40 ∧ 1 ≤ f ∧ f ≤ 10 ^ 15 ∧ hnd (n + 3) h ∧ ρ = [some (.lst true h), some (.int d), some (.int w), some (.int f), none, none, none, none, none, none]) (fun R hR => ?_) ?_
  · simp only [Bx.go]
    refine ⟨h, _, 6, rfl, hh, by omega, by decide, by decide, fun r h h0 h1 hh => ?_⟩
    obtain ⟨w, ew, hw⟩ := atI_of (ns := [1, 2, 3, 5, 9, 40]) (fun v => 1 ≤ v ∧ v ≤ 40) (by decide) h0 (by simpa using h1)
    simp only [List.map] at ew
    simp only [ew, Bx.go]
    refine ⟨⟨by decide, by decide, by decide⟩, h, _, 4, rfl, hh, by omega, by decide, by decide, fun r h h0 h1 hh => ?_⟩
    obtain ⟨f, ef, hf⟩ := atI_of (ns := [1, 1, 3, 10 ^ Int.toNat 15]) (fun v => 1 ≤ v ∧ v ≤ 10 ^ 15) (by decide) h0 (by simpa using h1)
    simp only [List.map] at ef
    simp only [ef, Bx.go]
    exact hR _ ⟨h, w, f, hw.1, hw.2, hf.1, hf.2, hh, rfl⟩
  rintro _ ⟨h, w, f, w1, w2, f1, f2, hh, rfl⟩
  refine seq_cut (fun ρ => ∃ (h : List D) (nm : Int), 0 ≤ nm ∧ hnd (n + 4) h ∧ ρ = [some (.lst true h), some (.int d), some (.int w), some (.int f), some (.lst true []), some (.int nm), none, none, none, none]) (fun R hR => ?_) ?_
  · simp only [Bx.go]
    refine ⟨h, _, 3, rfl, hh, by omega, by decide, by decide, fun r h h0 h1 hh => ?_⟩
    simp only [Bx.go]
    exact hR _ ⟨h, r, h0, hh, rfl⟩
  rintro _ ⟨h, nm, nm0, hh, rfl⟩
  refine seq_cut (fun ρ => ∃ (h : List D) (ts : List Th) (x5 x6 x7 x8 x9 : Option D), ts.length ≤ 30 ∧ House d ts ∧ hnd (n + 400) h ∧ ρ = [some (.lst true h), some (.int d), some (.int w), some (.int f), some (.lst true (ts.map thD)), x5, x6, x7, x8, x9]) (fun R hR => ?_) ?_
  · simp only [Bx.go]
    refine ⟨h, _, 10, rfl, hh, by omega, by decide, by decide, fun r h h0 h1 hh => ?_⟩
    obtain ⟨m, em, hm⟩ := atI_of (ns := [0, 1, 2, 3, 4, 6, 8, 12, 20, 30]) (fun v => 0 ≤ v ∧ v ≤ 30) (by decide) h0 (by simpa using h1)
    simp only [List.map] at em
    simp only [em, Bx.go]
    refine ⟨i62_of (by omega) (by omega), ?_⟩
    rw [rangeD_nat]
    refine for_each (List.range m.toNat) _ (fun dn ρ => ∃ (h : List D) (ts : List Th) (nm : Int) (x6 x7 x8 x9 : Option D), ts.length = dn.length ∧ House d ts ∧ 0 ≤ nm ∧ (∀ s ∈ ts, s.1 < nm) ∧ hnd (n + 5 + 12 * dn.length) h ∧ ρ = [some (.lst true h), some (.int d), some (.int w), some (.int f), some (.lst true (ts.map thD)), some (.int nm), x6, x7, x8, x9])
      ⟨h, [], nm, _, _, _, _, rfl, ⟨by simp, fun _ h => absurd h List.not_mem_nil, fun _ h => absurd h List.not_mem_nil, .nil⟩, nm0, fun _ h => absurd h List.not_mem_nil, hh, rfl⟩ ?_ ?_
    · rintro dn x r ρ N e ⟨h, ts, nm, x6, x7, x8, x9, tl, ht, nm0, hr, hh, rfl⟩ hN
      have e := congrArg List.length e
      simp at e
      obtain ⟨c, hc⟩ : ∃ c, c = n + 5 + 12 * dn.length := ⟨_, rfl⟩
      rw [← hc] at hh
      simp only [u1_gT, u2_gT, u1_gsCons, u2_gsCons, u1_gsNil, u2_gsNil, u1_kGs, u1_gN, u1_kForB, rset_s, rset_0, rget_s, rget_0, D.seq, D.sql, u_onSome_some, frz_tup, frz_int, frz_bl, frz_lst, frz_str, frz_non, frz_scr, List.length_cons, List.length_nil, List.map_cons, List.map_nil, Option.bind_some, true_and, and_true]
      refine seq_cut (fun ρ => ∃ (h : List D) (p : List Int) (x9 : Option D), p.length = d ∧ hnd (c + 4) h ∧ ρ = [some (.lst true h), some (.int d), some (.int w), some (.int f), some (.lst true (ts.map thD)), some (.int nm), some (.int (x : Nat)), some (.tup (p.map .int)), x8, x9]) (fun R hR => ?_) ?_
      · simp only [Bx.go]
        refine ⟨i62_of (by omega) (by omega), by rw [rangeD_len]; omega, ?_⟩
        rw [rangeD_nat]
        refine co_each (List.range (Int.toNat d)) _ (fun dm acc ρ => ∃ (h : List D) (p : List Int), acc = p.map .int ∧ p.length = dm.length ∧ hnd (c + dm.length) h ∧ ρ = [some (.lst true h), some (.int d), some (.int w), some (.int f), some (.lst true (ts.map thD)), some (.int nm), some (.int (x : Nat)), x7, x8, none]) ⟨h, [], rfl, rfl, hh, rfl⟩ ?_ ?_
        · rintro dm y r acc ρ N e2 ⟨h, p, rfl, pl, hh, rfl⟩ hN
          have e2 := congrArg List.length e2
          simp at e2
          simp only [Bx.go]
          refine ⟨.inl ⟨by omega, by omega⟩, h, _, 2 * w + 1, rfl, hh, by omega, by omega, by omega, fun r h h0 h1 hh => ?_⟩
          simp only [Bx.go]
          exact ⟨.inl ⟨by omega, by omega⟩, hN _ _ ⟨h, p ++ [(r - w) * f], by simp, by simp [pl], hh.mono (by simp; omega), rfl⟩⟩
        · rintro acc ρ ⟨h, p, rfl, pl, hh, rfl⟩
          simp only [backR, Bx.go]
          simp at pl hh
          exact hR _ ⟨h, p, _, pl, hh.mono (by omega), rfl⟩
      clear x7 x9
      rintro _ ⟨h, p, x9, pl, hh, rfl⟩
      refine seq_cut (fun ρ => ∃ (h : List D) (p : List Int), p.length = d ∧ hnd (c + 6) h ∧ ρ = [some (.lst true h), some (.int d), some (.int w), some (.int f), some (.lst true (ts.map thD)), some (.int nm), some (.int (x : Nat)), some (.tup (p.map .int)), x8, x9]) (fun R hR => ?_) ?_
      · simp only [ne_nil_th, Bx.go]
        refine ⟨eqOk_of (okE_lth true ts) (okE_lth true []) (by decide), ?_⟩
        cases he : ts.isEmpty
        · have t0 : 0 < ts.length := by cases ts <;> simp at he ⊢
          simp only [eqv_int, Bx.go]
          refine ⟨h, _, 6, rfl, hh, by omega, by decide, by decide, fun r h _ _ hh => ?_⟩
          simp only [eqv_int, Bx.go]
          refine ⟨eqOk_int _ _, ?_⟩
          refine pick_by (fun _ => ?_) (fun _ => ?_)
          · simp only [Bx.go]
            refine ⟨h, _, ts.length, rfl, hh, by omega, by omega, by omega, fun r h h0 h1 hh => ?_⟩
            have hr' : r.toNat < ts.length := by omega
            have er := atI_map (f := thD) (List.getElem?_eq_getElem hr')
            rw [Int.toNat_of_nonneg h0] at er
            have hp := ht.num _ (List.getElem_mem hr')
            simp only [er, thD, q1, Bx.go]
            exact hR _ ⟨h, _, hp, hh, rfl⟩
          · simp only [Bx.go]
            exact hR _ ⟨h, p, pl, hh.mono (by omega), rfl⟩
        · simp only [Bx.go]
          exact hR _ ⟨h, p, pl, hh.mono (by omega), rfl⟩
      clear pl p hh h
      rintro _ ⟨h, p, pl, hh, rfl⟩
      refine seq_cut (fun ρ => ∃ (h : List D) (fa : Int), hnd (c + 7) h ∧ ρ = [some (.lst true h), some (.int d), some (.int w), some (.int f), some (.lst true (ts.map thD)), some (.int nm), some (.int (x : Nat)), some (.tup (p.map .int)), some (.int fa), x9]) (fun R hR => ?_) ?_
      · simp only [Bx.go]
        refine ⟨⟨by decide, by decide, by decide⟩, ⟨by decide, by decide, by decide⟩, h, _, 2, rfl, hh, by omega, by decide, by decide, fun r h h0 h1 hh => ?_⟩
        obtain ⟨v, ev, _⟩ := atI_of (ns := [10 ^ Int.toNat 17, -10 ^ Int.toNat 17]) (fun _ => True) (fun _ _ => trivial) h0 (by simpa using h1)
        simp only [List.map] at ev
        simp only [ev, Bx.go]
        exact hR _ ⟨h, v, hh, rfl⟩
      rintro _ ⟨h, fa, hh, rfl⟩
      refine seq_cut (fun ρ => ∃ (h : List D) (wo : Int), hnd (c + 10) h ∧ ρ = [some (.lst true h), some (.int d), some (.int w), some (.int f), some (.lst true ((ts ++ [(nm, p, wo)]).map thD)), some (.int nm), some (.int (x : Nat)), some (.tup (p.map .int)), some (.int fa), x9]) (fun R hR => ?_) ?_
      · simp only [Bx.go]
        refine ⟨h, _, 5, rfl, hh, by omega, by decide, by decide, fun r1 h _ _ hh => ?_⟩
        simp only [Bx.go]
        refine ⟨h, _, 1000, rfl, hh, by omega, by decide, by decide, fun r2 h _ _ hh => ?_⟩
        simp only [Bx.go]
        refine ⟨h, _, 3, rfl, hh, by omega, by decide, by decide, fun r3 h h0 h1 hh => ?_⟩
        obtain ⟨v, ev, _⟩ := atI_of (ns := [r1 - 2, r2 - 500, fa]) (fun _ => True) (fun _ _ => trivial) h0 (by simpa using h1)
        simp only [List.map] at ev
        simp only [ev, Bx.go]
        exact ⟨by omega, hR _ ⟨h, v, hh, by rw [List.map_append]; rfl⟩⟩
      rintro _ ⟨h, wo, hh, rfl⟩
      simp only [Bx.go]
      refine ⟨h, _, 5, rfl, hh, by omega, by decide, by decide, fun r h h0 h1 hh => ?_⟩
      obtain ⟨v, ev, hv⟩ := atI_of (ns := [0, 0, 1, 7, 40]) (fun v => 0 ≤ v) (by decide) h0 (by simpa using h1)
      simp only [List.map] at ev
      simp only [ev, Bx.go]
      refine hN _ ⟨h, ts ++ [(nm, p, wo)], _, _, _, _, _, by simp [tl], ht.snoc (by omega) pl nm0 hr, by omega, fun s hs => ?_, hh.mono (by simp; omega), rfl⟩
      rcases List.mem_append.mp hs with hs | hs
      · have := hr s hs; omega
      · simp at hs; subst hs; show nm < _; omega
    · rintro ρ ⟨h, ts, nm, x6, x7, x8, x9, tl, ht, nm0, hr, hh, rfl⟩
      simp at tl hh
      exact hR _ ⟨h, ts, _, _, _, _, _, by omega, ht, hh.mono (by omega), rfl⟩
  rintro _ ⟨h, ts, x5, x6, x7, x8, x9, tl, ht, hh, rfl⟩
  simp only [Bx.go]
  exact q d ts h d1 d4 tl ht hh
theorem imp__law_number : ∀ ds Q, C__law_number ds Q → B__law_number ds Q := by
  rintro ds Q ⟨h, n, d, i, ts, rfl, hh, hn, hi, ht, q⟩
  refine ⟨rfl, ?_⟩
  have sl := sizeLine_eq
  have tl := ht.len
  refine seq_cut (fun ρ => ∃ (x4 : Option D) (l : List Int), l.length = ts.length + 1 ∧ ρ = [some (.lst true h), some (houseD d ts), some (.int i), some (.lst true (l.map .int)), x4]) (fun R hR => ?_) ?_
  · simp only [houseD, p1, Bx.go]
    refine ⟨by omega, co_map ts thD (fun t => .int (t.2.1.getD i 0)) (fun t htm acc N hN => ?_) ?_⟩
    · have lt := ht.num t htm
      have ei := atI_int (row := t.2.1) (i := i) (by omega)
      simp only [thD, q1, ei, Bx.go]
      exact hN
    · simp only [backR, Bx.go]
      rw [show (ts.map fun t => D.int (t.2.1.getD i 0)) = (ts.map fun t => t.2.1.getD i 0).map .int by rw [List.map_map]; rfl]
      refine ⟨by omega, hR _ ⟨_, (ts.map fun t => t.2.1.getD i 0) ++ [0], by simp, by rw [List.map_append]; rfl⟩⟩
  rintro _ ⟨x4, l, ll, rfl⟩
  simp only [Bx.go]
  refine ⟨h, n, l.length, rfl, hh, by omega, by omega, by omega, fun r h h0 h1 hh => ?_⟩
  obtain ⟨v, ev, _⟩ := atI_of (ns := l) (fun _ => True) (fun _ _ => trivial) h0 h1
  simp only [ev, Bx.go]
  refine ⟨h, _, 6, rfl, hh, by omega, by decide, by decide, fun r h h0 h1 hh => ?_⟩
  obtain ⟨u, eu, _⟩ := atI_of (ns := [0, 0, 0, 1, -1, 2]) (fun _ => True) (fun _ _ => trivial) h0 (by simpa using h1)
  simp only [List.map] at eu
  simp only [eu, Bx.go]
  exact q _ h hh
theorem end_at (x : Int) {r : Int} (h0 : 0 ≤ r) (h1 : r < 4) : ∃ e : Eg, atI [D.non, .tup [.int x, .bl true], .tup [.int x, .bl false], .tup [.int x, .bl true]] r = some (eD e) := by
  have : r = 0 ∨ r = 1 ∨ r = 2 ∨ r = 3 := by omega
  rcases this with rfl | rfl | rfl | rfl
  · exact ⟨none, rfl⟩
  · exact ⟨some (x, true), rfl⟩
  · exact ⟨some (x, false), rfl⟩
  · exact ⟨some (x, true), rfl⟩
theorem imp__law_box : ∀ ds Q, C__law_box ds Q → B__law_box ds Q := by
  rintro ds Q ⟨h, n, d, ts, rfl, hh, hn, d4, ht, q⟩
  refine ⟨rfl, ?_⟩
  have sl := sizeLine_eq
  have hz : (houseD d ts).frz = houseD d ts := rfl
  have h0' : gIx (houseD d ts) (.int 0) = gIx (houseD d ts) (.int 0) := rfl
  refine seq_cut (fun ρ => ρ = [some (.lst true h), some (houseD d ts), some (.lst true []), none, none, none, none]) (fun R hR => ?_) ?_
  · simp only [Bx.go]
    exact hR _ rfl
  rintro _ rfl
  refine seq_cut (fun ρ => ∃ (h : List D) (b : Bx1) (x3 x4 x5 x6 : Option D), b.length = d ∧ hnd (n + 28) h ∧ ρ = [some (.lst true h), some (houseD d ts), some (.lst true (b.map sD)), x3, x4, x5, x6]) (fun R hR => ?_) ?_
  · have gi : ∀ K, gIx (houseD d ts) (.int 0) K = K (.int d) := fun K => by
      unfold houseD
      simp only [p0, Bx.go]
    simp only [gi, Bx.go]
    refine ⟨i62_of (by omega) (by omega), ?_⟩
    rw [rangeD_nat]
    refine for_each (List.range (Int.toNat d)) _ (fun dn ρ => ∃ (h : List D) (b : Bx1) (x3 x4 x5 x6 : Option D), b.length = dn.length ∧ hnd (n + 7 * dn.length) h ∧ ρ = [some (.lst true h), some (houseD d ts), some (.lst true (b.map sD)), x3, x4, x5, x6]) ⟨h, [], _, _, _, _, rfl, hh, rfl⟩ ?_ ?_
    · rintro dn x r ρ N e ⟨h, b, x3, x4, x5, x6, bl, hh, rfl⟩ hN
      have xd : x < d := by
        have : x ∈ List.range (Int.toNat d) := by rw [e]; simp
        have := List.mem_range.mp this
        omega
      have e := congrArg List.length e
      simp at e
      obtain ⟨c, hc⟩ : ∃ c, c = n + 7 * dn.length := ⟨_, rfl⟩
      rw [← hc] at hh
      simp only [u1_gT, u2_gT, u1_gsCons, u2_gsCons, u1_gsNil, u2_gsNil, u1_kGs, u1_gN, u1_kForB, rset_s, rset_0, rget_s, rget_0, D.seq, D.sql, u_onSome_some, frz_tup, frz_int, frz_bl, frz_lst, frz_str, frz_non, frz_scr, List.length_cons, List.length_nil, List.map_cons, List.map_nil, Option.bind_some, true_and, and_true]
      refine seq_cut (fun ρ => ∃ (h : List D) (a b' : Int), hnd (c + 4) h ∧ ρ = [some (.lst true h), some (houseD d ts), some (.lst true (b.map sD)), some (.int (x : Nat)), some (.int a), some (.int b'), x6]) (fun R hR => ?_) ?_
      · simp only [hz, Bx.go]
        refine ⟨h, _, d, x, ts, rfl, hh, by omega, xd, ht, fun a h hh => ?_⟩
        simp only [hz, Bx.go]
        refine ⟨h, _, d, x, ts, rfl, hh, by omega, xd, ht, fun b' h hh => ?_⟩
        simp only [Bx.go]
        exact hR _ ⟨h, a, b', hh, rfl⟩
      rintro _ ⟨h, a, b', hh, rfl⟩
      refine seq_cut (fun ρ => ∃ (h : List D) (a b' : Int), hnd (c + 5) h ∧ ρ = [some (.lst true h), some (houseD d ts), some (.lst true (b.map sD)), some (.int (x : Nat)), some (.int a), some (.int b'), x6]) (fun R hR => ?_) ?_
      · simp only [Bx.go]
        refine pick_by (fun _ => ?_) (fun _ => ?_)
        · simp only [Bx.go]
          refine ⟨h, _, 5, rfl, hh, by omega, by decide, by decide, fun r h _ _ hh => ?_⟩
          simp only [Bx.go]
          refine pick_by (fun _ => ?_) (fun _ => ?_)
          · simp only [Bx.go]
            exact hR _ ⟨h, b', a, hh, rfl⟩
          · simp only [Bx.go]
            exact hR _ ⟨h, a, b', hh, rfl⟩
        · simp only [Bx.go]
          exact hR _ ⟨h, a, b', hh.mono (by omega), rfl⟩
      clear hh h a b'
      rintro _ ⟨h, a, b', hh, rfl⟩
      refine seq_cut (fun ρ => ∃ (h : List D) (e1 : Eg), hnd (c + 6) h ∧ ρ = [some (.lst true h), some (houseD d ts), some (.lst true (b.map sD)), some (.int (x : Nat)), some (.int a), some (.int b'), some (eD e1)]) (fun R hR => ?_) ?_
      · simp only [Bx.go]
        refine ⟨h, _, 4, rfl, hh, by omega, by decide, by decide, fun r h h0 h1 hh => ?_⟩
        obtain ⟨e1, ee⟩ := end_at a h0 h1
        simp only [ee, Bx.go]
        exact hR _ ⟨h, e1, hh, rfl⟩
      rintro _ ⟨h, e1, hh, rfl⟩
      simp only [eD_frz, Bx.go]
      refine ⟨h, _, 4, rfl, hh, by omega, by decide, by decide, fun r h h0 h1 hh => ?_⟩
      obtain ⟨e2, ee⟩ := end_at b' h0 h1
      simp only [ee, eD_frz, Bx.go]
      refine ⟨by omega, hN _ ⟨h, b ++ [(e1, e2)], _, _, _, _, by simp [bl], hh.mono (by simp; omega), by rw [List.map_append]; rfl⟩⟩
    · rintro ρ ⟨h, b, x3, x4, x5, x6, bl, hh, rfl⟩
      simp at bl hh
      exact hR _ ⟨h, b, _, _, _, _, bl, hh.mono (by omega), rfl⟩
  rintro _ ⟨h, b, x3, x4, x5, x6, bl, hh, rfl⟩
  simp only [Bx.go]
  exact q b h bl hh
/-! ### moves undone -/
theorem backS_ok {d : Nat} {s : Stp} (h : okP d s) : okP d (backS s) := by
  cases s with
  | shift l => have h : l.length = d := h; show (l.map _).length = d; simp [h]
  | mirror i => exact h
  | swap i j => exact h
theorem backM_ok {d : Nat} {ss : List Stp} (h : ∀ s ∈ ss, okP d s) : ∀ s ∈ backM ss, okP d s := fun s hs => by
  obtain ⟨t, ht, rfl⟩ := List.mem_map.mp hs
  exact backS_ok (h t (by simpa using ht))
theorem backS_backS (s : Stp) : backS (backS s) = s := by
  cases s with
  | shift l =>
    simp only [backS, List.map_map]
    congr 1
    refine (List.map_congr_left fun n _ => ?_).trans (List.map_id' l)
    simp
  | mirror i => rfl
  | swap i j => rfl
theorem backM_backM (ss : List Stp) : backM (backM ss) = ss := by
  unfold backM
  rw [← List.map_reverse, List.reverse_reverse, List.map_map]
  refine (List.map_congr_left fun s _ => ?_).trans (List.map_id' ss)
  exact backS_backS s
theorem backM_len (ss : List Stp) : (backM ss).length = ss.length := by simp [backM]
theorem placeB_back {s : Stp} {p : List Int} (h : okP p.length s) : placeB (backS s) (placeB s p) = p := by
  cases s with
  | shift l =>
    have h : l.length = p.length := h
    simp only [placeB, backS]
    refine List.ext_getElem (by simp [h]) fun k h1 h2 => ?_
    simp; omega
  | mirror i =>
    have h : i < p.length := h
    simp only [placeB, backS]
    refine List.ext_getElem (by simp) fun k h1 h2 => ?_
    simp only [List.getElem_set]
    by_cases e : i = k
    · subst e
      simp [h]
    · simp [e]
  | swap i j =>
    obtain ⟨hi, hj⟩ : i < p.length ∧ j < p.length := h
    exact swpL_swpL hi hj
theorem shE_back (e : Eg) (m : Int) : shE (shE e m) (0 - m) = e := by
  cases e with
  | none => rfl
  | some e =>
    obtain ⟨x, b⟩ := e
    simp [shE]
    omega
theorem miE_back (e : Eg) : miE (miE e) = e := by
  cases e with
  | none => rfl
  | some e => simp [miE]
theorem boxB_back {s : Stp} {b : Bx1} (h : okP b.length s) : boxB (backS s) (boxB s b) = b := by
  cases s with
  | shift l =>
    have h : l.length = b.length := h
    simp only [boxB, backS]
    refine List.ext_getElem (by simp [h]) fun k h1 h2 => ?_
    simp only [List.getElem_zipWith, List.getElem_map, shE_back]
  | mirror i =>
    have h : i < b.length := h
    simp only [boxB, backS]
    refine List.ext_getElem (by simp) fun k h1 h2 => ?_
    simp only [List.getElem_set]
    by_cases e : i = k
    · subst e
      simp [h, miE_back]
    · simp [e]
  | swap i j =>
    obtain ⟨hi, hj⟩ : i < b.length ∧ j < b.length := h
    exact swpL_swpL hi hj
theorem mvP_append (a b : List Stp) (p : List Int) : mvP (a ++ b) p = mvP b (mvP a p) := by simp [mvP]
theorem mvB_append (a b : List Stp) (p : Bx1) : mvB (a ++ b) p = mvB b (mvB a p) := by simp [mvB]
theorem mvP_back : ∀ {ss : List Stp} {p : List Int}, (∀ s ∈ ss, okP p.length s) → mvP (backM ss) (mvP ss p) = p
  | [], _, _ => rfl
  | s :: ss, p, h => by
    have h1 := placeB_len (h s List.mem_cons_self)
    have e : backM (s :: ss) = backM ss ++ [backS s] := by simp [backM]
    have e2 : mvP (s :: ss) p = mvP ss (placeB s p) := rfl
    rw [e, mvP_append, e2, mvP_back fun t ht => by rw [h1]; exact h t (List.mem_cons_of_mem _ ht)]
    exact placeB_back (h s List.mem_cons_self)
theorem mvB_back : ∀ {ss : List Stp} {p : Bx1}, (∀ s ∈ ss, okP p.length s) → mvB (backM ss) (mvB ss p) = p
  | [], _, _ => rfl
  | s :: ss, p, h => by
    have h1 := boxB_len (h s List.mem_cons_self)
    have e : backM (s :: ss) = backM ss ++ [backS s] := by simp [backM]
    have e2 : mvB (s :: ss) p = mvB ss (boxB s p) := rfl
    rw [e, mvB_append, e2, mvB_back fun t ht => by rw [h1]; exact h t (List.mem_cons_of_mem _ ht)]
    exact boxB_back (h s List.mem_cons_self)
theorem mvP_back' {ss : List Stp} {p : List Int} (h : ∀ s ∈ ss, okP p.length s) : mvP ss (mvP (backM ss) p) = p := by
  have := mvP_back (ss := backM ss) (p := p) (backM_ok h)
  rwa [backM_backM] at this
theorem mvB_back' {ss : List Stp} {p : Bx1} (h : ∀ s ∈ ss, okP p.length s) : mvB ss (mvB (backM ss) p) = p := by
  have := mvB_back (ss := backM ss) (p := p) (backM_ok h)
  rwa [backM_backM] at this
theorem isMove_st {d : Nat} {ss : List Stp} (h : ∀ s ∈ ss, okP d s) : isMove (.tup (ss.map stpD)) d = true := by
  refine List.all_eq_true.mpr fun x hx => ?_
  obtain ⟨s, hs, rfl⟩ := List.mem_map.mp hx
  have h := h s hs
  cases s with
  | shift l =>
    have h : l.length = d := h
    show isStep (stpD (.shift l)) d = true
    rw [show stpD (.shift l) = .tup [.str "shift", .tup (l.map .int)] from rfl, stp2, beq_self_eq_true, if_pos rfl]
    have : (l.map D.int).all isW = true := List.all_eq_true.mpr fun x hx => by
      obtain ⟨i, _, rfl⟩ := List.mem_map.mp hx; rfl
    simp only [isPlace, this, List.length_map, h, Bool.and_true]
    simp
  | mirror i =>
    have h : i < d := h
    show isStep (stpD (.mirror i)) d = true
    rw [show stpD (.mirror i) = .tup [.str "mirror", .int i] from rfl, stp2, show (("mirror" : Str) == "shift") = false by decide, if_neg Bool.false_ne_true, beq_self_eq_true]
    simp [isSpot, h]
  | swap i j =>
    obtain ⟨h1, h2⟩ : i < d ∧ j < d := h
    show (("swap" : Str) == "swap" && (isSpot (.int i) d && isSpot (.int j) d)) = true
    simp [isSpot, h1, h2]
theorem okStep_st (s : Stp) : okStep (stpD s) := fun z r e => by
  cases s <;> simp [stpD] at e
  · obtain ⟨rfl, _⟩ := e; exact okZ_shift
  · obtain ⟨rfl, _⟩ := e; exact okZ_mirror
  · obtain ⟨rfl, _⟩ := e; exact okZ_swap
theorem okE_eg (e : Eg) : okE 1 (eD e) := by
  cases e with
  | none => trivial
  | some e =>
    intro x hx
    simp only [List.mem_cons, List.not_mem_nil, or_false] at hx
    rcases hx with rfl | rfl <;> trivial
theorem okE_box (b : Bx1) : okE 3 (.tup (b.map sD)) := by
  intro x hx
  obtain ⟨s, _, rfl⟩ := List.mem_map.mp hx
  intro x hx
  simp only [List.mem_cons, List.not_mem_nil, or_false] at hx
  rcases hx with rfl | rfl
  · exact okE_eg _
  · exact okE_eg _
theorem okE_ints (l : List Int) : okE 1 (.tup (l.map .int)) := by
  intro x hx
  obtain ⟨i, _, rfl⟩ := List.mem_map.mp hx
  trivial
theorem mvT_num {d : Nat} {ss : List Stp} {ts : List Th} (h : ∀ s ∈ ss, okP d s) (hn : ∀ t ∈ ts, t.2.1.length = d) : ∀ t ∈ ts.map (mvT ss), t.2.1.length = d := fun t ht => by
  obtain ⟨u, hu, rfl⟩ := List.mem_map.mp ht
  have := hn u hu
  show (mvP ss u.2.1).length = d
  rw [mvP_len (by rw [this]; exact h), this]
theorem mvT_back {d : Nat} {ss : List Stp} {ts : List Th} (h : ∀ s ∈ ss, okP d s) (hn : ∀ t ∈ ts, t.2.1.length = d) : (ts.map (mvT ss)).map (mvT (backM ss)) = ts := by
  rw [List.map_map]
  refine (List.map_congr_left fun t ht => ?_).trans (List.map_id' ts)
  show (t.1, mvP (backM ss) (mvP ss t.2.1), t.2.2) = t
  rw [mvP_back (by rw [hn t ht]; exact h)]
theorem mvT_back' {d : Nat} {ss : List Stp} {ts : List Th} (h : ∀ s ∈ ss, okP d s) (hn : ∀ t ∈ ts, t.2.1.length = d) : (ts.map (mvT (backM ss))).map (mvT ss) = ts := by
  have := mvT_back (ss := backM ss) (backM_ok h) hn
  rwa [backM_backM] at this
theorem mvT_append (a b : List Stp) (ts : List Th) : ts.map (mvT (a ++ b)) = (ts.map (mvT a)).map (mvT b) := by
  rw [List.map_map]
  refine List.map_congr_left fun t _ => ?_
  show (t.1, mvP (a ++ b) t.2.1, t.2.2) = (t.1, mvP b (mvP a t.2.1), t.2.2)
  rw [mvP_append]
end Zh
/-! what fits, steps, plain boxes of the law's own; moves keep them -/
namespace Zf
open PySem PySem.Spec PyProof.Rows L2 Bx Zb Zp Zm Zh
def absI (i : Int) : Int := if i < 0 then -i else i
def stepsL (p q : List Int) : Int := (List.zipWith (fun a b => absI (a - b)) p q).sum
def fitT (b : Bx1) (ts : List Th) : List Th := ts.filter fun t => fitB b t.2.1
def geO : Option Int → Int → Bool
  | none, _ => true
  | some a, n => !decide (n < a)
def leO : Option Int → Int → Bool
  | none, _ => true
  | some a, n => !decide (a < n)
def insB (es : List (Int × Int)) (ps : List Pr) : Bool := (ps.headD (none, none) != (some 1, some 0)) && (es.zip ps).all fun x => geO x.2.1 x.1.1 && leO x.2.2 x.1.2
def edgD (e : Int × Int) : D := .tup [.int e.1, .int e.2]
abbrev C_fits : PSpec := Zb.C_fits
def C_steps : PSpec := fun ds Q => ∃ (p q : List Int), ds = [.tup (p.map .int), .tup (q.map .int)] ∧ p.length ≤ 1000 ∧ Q (.int (stepsL p q)) []
def C_things_in : PSpec := fun ds Q => ∃ (d : Nat) (ts : List Th) (b : Bx1), ds = [houseD d ts, .tup (b.map sD)] ∧ ts.length ≤ 1000 ∧ b.length ≤ 1000 ∧ Q (.lst true ((fitT b ts).map thD)) []
def C_fitting : PSpec := fun ds Q => ∃ (d : Nat) (ts : List Th) (b : Bx1), ds = [houseD d ts, .tup (b.map sD)] ∧ ts.length ≤ 1000 ∧ b.length ≤ 1000 ∧ Q (.tup (((fitT b ts).map (·.1)).map .int)) []
def C__law_plain : PSpec := fun ds Q => ∃ b : Bx1, ds = [.tup (b.map sD)] ∧ 1 ≤ b.length ∧ b.length ≤ 1000 ∧ Q (.tup ((plainOf (b.map pl)).map pD)) []
def C__law_inside : PSpec := fun ds Q => ∃ (es : List (Int × Int)) (ps : List Pr), (ds = [.lst false (es.map edgD), .tup (ps.map pD)] ∨ ds = [.tup (es.map edgD), .tup (ps.map pD)]) ∧ 1 ≤ ps.length ∧ ps.length ≤ 1000 ∧ es.length ≤ 1000 ∧ Q (.bl (insB es ps)) []
def C__law_fits : PSpec := fun ds Q => ∃ (ps : List Pr) (p : List Int), ds = [.tup (ps.map pD), .tup (p.map .int)] ∧ 1 ≤ ps.length ∧ ps.length = p.length ∧ p.length ≤ 1000 ∧ plainOf ps = ps ∧ Q (.bl (memP ps p)) []
def w_steps : DS :=
  (dRet (dCB gSum (aCons (oVal (dComp (iZX (aCons (oVar 0) (aCons (oVar 1) aNil))) [2, 3] (gT (gsCons (gN 2) (gsCons (gN 3) gsNil)) 2) tAll (dCB gAbs (aCons (oVal (dBin gSub (oVar 2) (oVar 3))) aNil)))) aNil)))
abbrev B_steps : PSpec := bodyW [] 4 2 w_steps
def w_things_in : DS :=
  (dRet (dComp (iOf (dBin gIx (oVar 0) (oVal (dC (.int 1))))) [2] (gN 2) (tVal (dCall C_fits (aCons (oVar 1) (aCons (oVal (dBin gIx (oVar 2) (oVal (dC (.int 1))))) aNil)))) (dVar 2)))
abbrev B_things_in : PSpec := bodyW [] 3 2 w_things_in
def w_fitting : DS :=
  (dRet (dCB gTuple (aCons (oVal (dComp (iOf (dCall C_things_in (aCons (oVar 0) (aCons (oVar 1) aNil)))) [2] (gN 2) tAll (dBin gIx (oVar 2) (oVal (dC (.int 0)))))) aNil)))
abbrev B_fitting : PSpec := bodyW [] 3 2 w_fitting
def w__law_plain : DS :=
  (dSeq (dAsg 1 (dLst aNil))
    (dSeq (dFor (iOf (dVar 0)) (gT (gsCons (gN 2) (gsCons (gN 3) gsNil)) 2)
    (dSeq (dAsg 4 (dIf (tVal (dBin gIsN (oVar 2) (oVal (dC .non)))) (dC .non) (dBin gAdd (oVal (dBin gIx (oVar 2) (oVal (dC (.int 0))))) (oVal (dCB gInt (aCons (oVal (dNot (dBin gIx (oVar 2) (oVal (dC (.int 1)))))) aNil))))))
    (dSeq (dAsg 5 (dIf (tVal (dBin gIsN (oVar 3) (oVal (dC .non)))) (dC .non) (dBin gSub (oVal (dBin gIx (oVar 3) (oVal (dC (.int 0))))) (oVal (dCB gInt (aCons (oVal (dNot (dBin gIx (oVar 3) (oVal (dC (.int 1)))))) aNil))))))
    (dSeq (dIfS (tAnd (tVal (dBin gNotN (oVar 4) (oVal (dC .non)))) (tAnd (tVal (dBin gNotN (oVar 5) (oVal (dC .non)))) (tVal (dBin gGt (oVar 4) (oVar 5)))))
    (dRet (dBin gTMul (oVal (dTup (aCons (oVal (dTup (aCons (oVal (dC (.int 1))) (aCons (oVal (dC (.int 0))) aNil)))) aNil))) (oVal (dCB gLen (aCons (oVar 0) aNil)))))
    dNext)
    (dExp (dApp 1 (dTup (aCons (oVar 4) (aCons (oVar 5) aNil)))))))))
    (dRet (dCB gTuple (aCons (oVar 1) aNil)))))
abbrev B__law_plain : PSpec := bodyW [] 6 1 w__law_plain
def w__law_inside : DS :=
  (dSeq (dIfS (tVal (dBin gEq (oVal (dBin gIx (oVar 1) (oVal (dC (.int 0))))) (oVal (dTup (aCons (oVal (dC (.int 1))) (aCons (oVal (dC (.int 0))) aNil))))))
    (dRet (dC (.bl false)))
    dNext)
    (dSeq (dFor (iZX (aCons (oVar 0) (aCons (oVar 1) aNil))) (gT (gsCons (gT (gsCons (gN 2) (gsCons (gN 3) gsNil)) 2) (gsCons (gT (gsCons (gN 4) (gsCons (gN 5) gsNil)) 2) gsNil)) 2)
    (dIfS (tOr (tAnd (tVal (dBin gNotN (oVar 4) (oVal (dC .non)))) (tVal (dBin gLt (oVar 2) (oVar 4)))) (tAnd (tVal (dBin gNotN (oVar 5) (oVal (dC .non)))) (tVal (dBin gGt (oVar 3) (oVar 5)))))
    (dRet (dC (.bl false)))
    dNext))
    (dRet (dC (.bl true)))))
abbrev B__law_inside : PSpec := bodyW [] 6 2 w__law_inside
def w__law_fits : DS :=
  (dRet (dCall C__law_inside (aCons (oVal (dComp (iOf (dVar 1)) [2] (gN 2) tAll (dTup (aCons (oVar 2) (aCons (oVar 2) aNil))))) (aCons (oVar 0) aNil))))
abbrev B__law_fits : PSpec := bodyW [] 3 2 w__law_fits
theorem imp_steps : ∀ ds Q, C_steps ds Q → B_steps ds Q := by
  rintro ds Q ⟨p, q', rfl, hl, q⟩
  refine ⟨rfl, ?_⟩
  have sl := sizeLine_eq
  simp only [w_steps, Bx.go]
  rw [zipD_map]
  refine ⟨by simp; omega, co_map (p.zip q') _ (fun x => .int (absI (x.1 - x.2))) (fun x hx acc N hN => ?_) ?_⟩
  · simp only [Bx.go]
    exact hN
  · simp only [asInts_f, backR, Bx.go]
    rw [zip_with (fun a b => absI (a - b)) p q']
    exact q
theorem imp_things_in : ∀ ds Q, C_things_in ds Q → B_things_in ds Q := by
  rintro ds Q ⟨d, ts, b, rfl, hl, bl, q⟩
  refine ⟨rfl, ?_⟩
  have sl := sizeLine_eq
  simp only [w_things_in, houseD, p1, Bx.go]
  refine ⟨by omega, co_filter ts thD (fun t => fitB b t.2.1) (fun t ht acc N hN => ?_) ?_⟩
  · simp only [thD, q1, Bx.go]
    refine ⟨b, t.2.1, rfl, bl, ?_⟩
    cases h : fitB b t.2.1
    · rw [h] at hN
      simp only [Bx.go]
      exact hN
    · rw [h] at hN
      simp only [Bx.go]
      exact hN
  · simp only [backR, Bx.go]
    exact q
theorem imp_fitting : ∀ ds Q, C_fitting ds Q → B_fitting ds Q := by
  rintro ds Q ⟨d, ts, b, rfl, hl, bl, q⟩
  refine ⟨rfl, ?_⟩
  have sl := sizeLine_eq
  have hz : (houseD d ts).frz = houseD d ts := rfl
  have fl : (fitT b ts).length ≤ ts.length := List.length_filter_le _ _
  simp only [w_fitting, hz, Bx.go]
  refine ⟨d, ts, b, rfl, hl, bl, ?_⟩
  simp only [Bx.go]
  refine ⟨by omega, co_map (fitT b ts) thD (fun t => .int t.1) (fun t ht acc N hN => ?_) ?_⟩
  · simp only [thD, q0, Bx.go]
    exact hN
  · simp only [backR, Bx.go]
    rw [show (fitT b ts).map (fun t => D.int t.1) = ((fitT b ts).map (·.1)).map .int by rw [List.map_map]; rfl]
    exact q
theorem imp__law_plain : ∀ ds Q, C__law_plain ds Q → B__law_plain ds Q := by
  rintro ds Q ⟨b, rfl, b1, bl, q⟩
  refine ⟨rfl, ?_⟩
  have sl := sizeLine_eq
  have oz : ∀ o, (oD o).frz = oD o := fun o => by cases o <;> rfl
  have fz : (plainOf (b.map pl)) = if (b.map pl).any cr then (b.map pl).map fun _ => ((some 1, some 0) : Pr) else b.map pl := rfl
  simp only [w__law_plain, Bx.go]
  refine for_each b sD (fun dn ρ => (dn.map pl).any cr = false ∧ ∃ x2 x3 x4 x5, ρ = [some (.tup (b.map sD)), some (.lst true ((dn.map pl).map pD)), x2, x3, x4, x5]) ⟨rfl, _, _, _, _, rfl⟩ ?_ ?_
  · rintro dn s r ρ N e ⟨hd, x2, x3, x4, x5, rfl⟩ hN
    obtain ⟨l, h⟩ := s
    have hc : cr (pl (l, h)) = true → (b.map pl).any cr = true := fun hc => by rw [e]; simp [hc]
    have el := congrArg List.length e
    simp at el
    simp only [sD, Zb.eD_frz, u1_gT, u2_gT, u1_gsCons, u2_gsCons, u1_gsNil, u2_gsNil, u1_kGs, u1_gN, u1_kForB, rset_s, rset_0, rget_s, rget_0, D.seq, D.sql, u_onSome_some, frz_tup, frz_int, frz_bl, frz_lst, frz_str, frz_non, frz_scr, List.length_cons, List.length_nil, List.map_cons, List.map_nil, Option.bind_some, true_and, and_true]
    refine seq_cut (fun ρ => ρ = [some (.tup (b.map sD)), some (.lst true ((dn.map pl).map pD)), some (eD l), some (eD h), some (oD (pl (l, h)).1), x5]) (fun R hR => ?_) ?_
    · have hR := hR _ rfl
      cases l with
      | none => simp only [eD, pl, oD, Bx.go] at hR ⊢; exact hR
      | some l =>
        obtain ⟨x, c⟩ := l
        simp only [eD, pl, oD, p0, p1, Bx.go] at hR ⊢
        cases c <;> simpa using hR
    rintro _ rfl
    refine seq_cut (fun ρ => ρ = [some (.tup (b.map sD)), some (.lst true ((dn.map pl).map pD)), some (eD l), some (eD h), some (oD (pl (l, h)).1), some (oD (pl (l, h)).2)]) (fun R hR => ?_) ?_
    · have hR := hR _ rfl
      generalize oD (pl (l, h)).1 = z at hR ⊢
      cases h with
      | none => simp only [eD, pl, oD, Bx.go] at hR ⊢; exact hR
      | some h =>
        obtain ⟨x, c⟩ := h
        simp only [eD, pl, oD, p0, p1, Bx.go] at hR ⊢
        cases c <;> simpa using hR
    rintro _ rfl
    refine seq_cut (fun ρ => cr (pl (l, h)) = false ∧ ρ = [some (.tup (b.map sD)), some (.lst true ((dn.map pl).map pD)), some (eD l), some (eD h), some (oD (pl (l, h)).1), some (oD (pl (l, h)).2)]) (fun R hR => ?_) ?_
    · obtain ⟨⟨p, p'⟩, hp⟩ : ∃ p, p = pl (l, h) := ⟨_, rfl⟩
      rw [← hp] at hR hc ⊢
      have hq : cr (p, p') = true → Q (.tup ((ept (b.map pl)).map pD)) [] := fun h => by
        rw [fz, hc h] at q
        exact q
      cases p with
      | none => simp only [oD, Bx.go]; exact hR _ ⟨rfl, rfl⟩
      | some p =>
        cases p' with
        | none => simp only [oD, Bx.go]; exact hR _ ⟨rfl, rfl⟩
        | some p' =>
          simp only [oD, Bx.go]
          refine pick_by (fun h => ?_) (fun h => ?_)
          · simp only [Bx.go]
            refine ⟨⟨by simp, by omega, by omega, by decide⟩, ?_⟩
            rw [empt_int _ (b.map pl) (by simp)]
            exact hq h
          · simp only [Bx.go]
            exact hR _ ⟨h, rfl⟩
    rintro _ ⟨hcr, rfl⟩
    simp only [oz, Bx.go]
    refine ⟨by omega, hN _ ⟨by rw [List.map_append, List.any_append, hd]; simp [hcr], _, _, _, _, by rw [List.map_append, List.map_append]; rfl⟩⟩
  · rintro ρ ⟨hd, x2, x3, x4, x5, rfl⟩
    simp only [Bx.go]
    rw [fz, hd] at q
    exact q
theorem imp__law_inside : ∀ ds Q, C__law_inside ds Q → B__law_inside ds Q := by
  rintro ds Q ⟨es, ps, hds, p1', pl', el', q⟩
  have sl := sizeLine_eq
  have oz : ∀ o, (oD o).frz = oD o := fun o => by cases o <;> rfl
  obtain ⟨ed, rfl, hed⟩ : ∃ ed, ds = [ed, .tup (ps.map pD)] ∧ (ed = .lst false (es.map edgD) ∨ ed = .tup (es.map edgD)) := by
    rcases hds with rfl | rfl
    · exact ⟨_, rfl, .inl rfl⟩
    · exact ⟨_, rfl, .inr rfl⟩
  clear hds
  refine ⟨rfl, ?_⟩
  have hh : atI (ps.map pD) 0 = some (pD (ps.headD (none, none))) := by
    cases ps with
    | nil => simp at p1'
    | cons p ps => exact at0
  refine seq_cut (fun ρ => ps.headD (none, none) ≠ (some 1, some 0) ∧ ρ = [some ed, some (.tup (ps.map pD)), none, none, none, none]) (fun R hR => ?_) ?_
  · simp only [hh, Bx.go]
    refine ⟨eqOk_of (okR _) (okR (some 1, some 0)) (by decide), ?_⟩
    rw [show D.eqv (pD (ps.headD (none, none))) (.tup [.int 1, .int 0]) = decide (ps.headD (none, none) = (some 1, some 0)) from eqv_p _ (some 1, some 0)]
    refine pick_by (fun h => ?_) (fun h => ?_)
    · have h := of_decide_eq_true h
      simp only [Bx.go]
      unfold insB at q
      rw [h] at q
      exact q
    · simp only [Bx.go]
      exact hR _ ⟨of_decide_eq_false h, rfl⟩
  rintro _ ⟨hne, rfl⟩
  have hq : insB es ps = (es.zip ps).all fun x => geO x.2.1 x.1.1 && leO x.2.2 x.1.2 := by
    unfold insB
    rw [show (ps.headD (none, none) != ((some 1, some 0) : Pr)) = true by simpa using hne, Bool.true_and]
  rw [hq] at q
  have go : ∀ ed, ed = D.lst false (es.map edgD) ∨ ed = .tup (es.map edgD) → forGo (gT (gsCons (gT (gsCons (gN 2) (gsCons (gN 3) gsNil)) 2) (gsCons (gT (gsCons (gN 4) (gsCons (gN 5) gsNil)) 2) gsNil)) 2)
    (dIfS (tOr (tAnd (tVal (dBin gNotN (oVar 4) (oVal (dC .non)))) (tVal (dBin gLt (oVar 2) (oVar 4)))) (tAnd (tVal (dBin gNotN (oVar 5) (oVal (dC .non)))) (tVal (dBin gGt (oVar 3) (oVar 5)))))
    (dRet (dC (.bl false)))
    dNext) ⟨dRet (dC (.bl true)) (endsOf [] Q), (endsOf [] Q).rt, (endsOf [] Q).bk, (endsOf [] Q).ct⟩ ((es.zip ps).map fun x => .tup [edgD x.1, pD x.2]) [some ed, some (.tup (ps.map pD)), none, none, none, none] := by
    intro ed _
    refine for_each (es.zip ps) _ (fun dn ρ => (dn.all fun x => geO x.2.1 x.1.1 && leO x.2.2 x.1.2) = true ∧ ∃ x2 x3 x4 x5, ρ = [some ed, some (.tup (ps.map pD)), x2, x3, x4, x5]) ⟨rfl, _, _, _, _, rfl⟩ ?_ ?_
    · rintro dn ⟨⟨lo, hi⟩, ⟨a, b⟩⟩ r ρ N e ⟨hd, x2, x3, x4, x5, rfl⟩ hN
      have q0' : (geO a lo && leO b hi) = false → Q (.bl false) [] := fun h => by
        rw [e] at q
        simp only [List.all_append, List.all_cons, h, Bool.false_and, Bool.and_false] at q
        exact q
      have h1 : (geO a lo && leO b hi) = true → N [some ed, some (.tup (ps.map pD)), some (.int lo), some (.int hi), some (oD a), some (oD b)] := fun h => hN _ ⟨by simp only [List.all_append, hd, List.all_cons, h, List.all_nil]; rfl, _, _, _, _, rfl⟩
      clear hN q
      simp only [edgD, pD, oz, u1_gT, u2_gT, u1_gsCons, u2_gsCons, u1_gsNil, u2_gsNil, u1_kGs, u1_gN, u1_kForB, rset_s, rset_0, rget_s, rget_0, D.seq, D.sql, u_onSome_some, frz_tup, frz_int, frz_bl, frz_lst, frz_str, frz_non, frz_scr, List.length_cons, List.length_nil, List.map_cons, List.map_nil, Option.bind_some, true_and, and_true]
      cases a with
      | none =>
        cases b with
        | none => simp only [oD, Bx.go] at h1 ⊢; exact h1 rfl
        | some b =>
          simp only [oD, Bx.go] at h1 ⊢
          refine pick_by (fun h => ?_) (fun h => ?_)
          · simp only [Bx.go]; exact q0' (by simp [geO, leO]; exact of_decide_eq_true h)
          · simp only [Bx.go]; exact h1 (by simp [geO, leO]; have := of_decide_eq_false h; omega)
      | some a =>
        cases b with
        | none =>
          simp only [oD, Bx.go] at h1 ⊢
          refine pick_by (fun h => ?_) (fun h => ?_)
          · simp only [Bx.go]; exact q0' (by simp [geO, leO]; exact of_decide_eq_true h)
          · simp only [Bx.go]; exact h1 (by simp [geO, leO]; have := of_decide_eq_false h; omega)
        | some b =>
          simp only [oD, Bx.go] at h1 ⊢
          refine pick_by (fun h => ?_) (fun h => ?_)
          · have := of_decide_eq_true h
            simp only [Bx.go]; exact q0' (by simp [geO, leO]; omega)
          · have := of_decide_eq_false h
            simp only [Bx.go]
            refine pick_by (fun h => ?_) (fun h => ?_)
            · have := of_decide_eq_true h
              simp only [Bx.go]; exact q0' (by simp [geO, leO]; omega)
            · have := of_decide_eq_false h
              simp only [Bx.go]; exact h1 (by simp [geO, leO]; omega)
    · rintro ρ ⟨hd, x2, x3, x4, x5, rfl⟩
      simp only [Bx.go]
      rw [hd] at q
      exact q
  rcases hed with rfl | rfl
  · have := go _ (.inl rfl)
    simp only [Bx.go] at this ⊢
    rw [zipD_map]
    exact this
  · have := go _ (.inr rfl)
    simp only [Bx.go] at this ⊢
    rw [zipD_map]
    exact this
/-! ### what moves keep -/
theorem with_swp {α β γ : Type} (f : α → β → γ) {p : List α} {q : List β} {i j : Nat} (hi : i < p.length) (hj : j < p.length) (hl : p.length = q.length) : List.zipWith f (swpL p i j) (swpL q i j) = swpL (List.zipWith f p q) i j := by
  have li : i < (List.zipWith f p q).length := by rw [List.length_zipWith]; omega
  have lj : j < (List.zipWith f p q).length := by rw [List.length_zipWith]; omega
  rw [swpL_at hi hj, swpL_at (xs := q) (by omega) (by omega), swpL_at li lj]
  refine List.ext_getElem (by simp) fun k h1 h2 => ?_
  simp only [List.getElem_zipWith, List.getElem_set]
  by_cases e1 : j = k
  · simp [e1]
  · by_cases e2 : i = k
    · simp [e1, e2]
    · simp [e1, e2]
theorem mem_swp1 {α : Type} {xs : List α} {i j : Nat} {x : α} (h : x ∈ swpL xs i j) : x ∈ xs := by
  unfold swpL at h
  split at h
  · rename_i a b ea eb
    rcases List.mem_or_eq_of_mem_set h with h | rfl
    · rcases List.mem_or_eq_of_mem_set h with h | rfl
      · exact h
      · exact List.mem_of_getElem? eb
    · exact List.mem_of_getElem? ea
  · exact h
theorem mem_swp {α : Type} {xs : List α} {i j : Nat} {x : α} (hi : i < xs.length) (hj : j < xs.length) : x ∈ swpL xs i j ↔ x ∈ xs :=
  ⟨mem_swp1, fun h => by
    have e := swpL_swpL hi hj
    rw [← e] at h
    exact mem_swp1 h⟩
theorem all_swp {α : Type} {f : α → Bool} {xs : List α} {i j : Nat} (hi : i < xs.length) (hj : j < xs.length) : (swpL xs i j).all f = xs.all f := by
  rw [Bool.eq_iff_iff, List.all_eq_true, List.all_eq_true]
  exact ⟨fun h x hx => h x ((mem_swp hi hj).mpr hx), fun h x hx => h x ((mem_swp hi hj).mp hx)⟩
theorem any_swp {α : Type} {f : α → Bool} {xs : List α} {i j : Nat} (hi : i < xs.length) (hj : j < xs.length) : (swpL xs i j).any f = xs.any f := by
  rw [Bool.eq_iff_iff, List.any_eq_true, List.any_eq_true]
  exact ⟨fun ⟨x, h1, h2⟩ => ⟨x, (mem_swp hi hj).mp h1, h2⟩, fun ⟨x, h1, h2⟩ => ⟨x, (mem_swp hi hj).mpr h1, h2⟩⟩
theorem sum_set : ∀ {xs : List Int} {i : Nat} (a : Int) (h : i < xs.length), (xs.set i a).sum = xs.sum - xs[i] + a
  | x :: xs, 0, a, h => by simp; omega
  | x :: xs, i + 1, a, h => by
    simp only [List.set_cons_succ, List.sum_cons, List.getElem_cons_succ]
    rw [sum_set a (by simpa using h)]
    omega
theorem sum_swp {xs : List Int} {i j : Nat} (hi : i < xs.length) (hj : j < xs.length) : (swpL xs i j).sum = xs.sum := by
  rw [swpL_at hi hj, sum_set _ (by simpa using hj), sum_set _ hi]
  have : (xs.set i xs[j])[j]'(by simpa using hj) = xs[j] := by
    rw [List.getElem_set]
    split <;> rfl
  rw [this]; omega
theorem absI_neg (a b : Int) : absI (0 - a - (0 - b)) = absI (a - b) := by
  unfold absI
  split <;> split <;> omega
theorem steps_step {s : Stp} {p q : List Int} (h : okP p.length s) (hl : p.length = q.length) : stepsL (placeB s p) (placeB s q) = stepsL p q := by
  unfold stepsL
  cases s with
  | shift l =>
    have h : l.length = p.length := h
    congr 1
    simp only [placeB]
    refine List.ext_getElem (by simp [h, hl]) fun k h1 h2 => ?_
    simp only [List.getElem_zipWith]
    congr 1; omega
  | mirror i =>
    have h : i < p.length := h
    congr 1
    simp only [placeB]
    refine List.ext_getElem (by simp) fun k h1 h2 => ?_
    simp only [List.getElem_zipWith, List.getElem_set]
    by_cases e : i = k
    · subst e
      rw [if_pos rfl, if_pos rfl, absI_neg, List.getD_eq_getElem?_getD, List.getD_eq_getElem?_getD, List.getElem?_eq_getElem h, List.getElem?_eq_getElem (by omega)]
      rfl
    · rw [if_neg e, if_neg e]
  | swap i j =>
    obtain ⟨hi, hj⟩ : i < p.length ∧ j < p.length := h
    simp only [placeB]
    rw [with_swp _ hi hj hl, sum_swp (by rw [List.length_zipWith]; omega) (by rw [List.length_zipWith]; omega)]
theorem steps_mv : ∀ {ss : List Stp} {p q : List Int}, (∀ s ∈ ss, okP p.length s) → p.length = q.length → stepsL (mvP ss p) (mvP ss q) = stepsL p q
  | [], _, _, _, _ => rfl
  | s :: ss, p, q, h, hl => by
    have h0 := h s List.mem_cons_self
    have h1 := placeB_len h0
    have h2 := placeB_len (p := q) (s := s) (by rw [← hl]; exact h0)
    show stepsL (mvP ss (placeB s p)) (mvP ss (placeB s q)) = _
    rw [steps_mv (fun t ht => by rw [h1]; exact h t (List.mem_cons_of_mem _ ht)) (by rw [h1, h2, hl]), steps_step h0 hl]
def sfit (s : Eg × Eg) (n : Int) : Bool := fl s.1 n && fh s.2 n
theorem fitB_with : ∀ (b : Bx1) (p : List Int), fitB b p = (List.zipWith sfit b p).all id
  | [], _ => by simp [fitB]
  | _ :: _, [] => by simp [fitB]
  | s :: b, n :: p => by simp only [fitB, List.zipWith_cons_cons, List.all_cons, fitB_with b p]; rfl
theorem fl_sh (e : Eg) (n m : Int) : fl (shE e m) (n + m) = fl e n := by
  cases e with
  | none => rfl
  | some e =>
    obtain ⟨x, c⟩ := e
    simp only [shE, Option.map_some, fl]
    rw [show decide (x + m < n + m) = decide (x < n) from decide_eq_decide.mpr (by omega), show (n + m == x + m) = (n == x) by rw [Bool.eq_iff_iff]; simp]
theorem fh_sh (e : Eg) (n m : Int) : fh (shE e m) (n + m) = fh e n := by
  cases e with
  | none => rfl
  | some e =>
    obtain ⟨x, c⟩ := e
    simp only [shE, Option.map_some, fh]
    rw [show decide (n + m < x + m) = decide (n < x) from decide_eq_decide.mpr (by omega), show (n + m == x + m) = (n == x) by rw [Bool.eq_iff_iff]; simp]
theorem fl_mi (e : Eg) (n : Int) : fl (miE e) (0 - n) = fh e n := by
  cases e with
  | none => rfl
  | some e =>
    obtain ⟨x, c⟩ := e
    simp only [miE, Option.map_some, fl, fh]
    rw [show decide (0 - x < 0 - n) = decide (n < x) from decide_eq_decide.mpr (by omega), show (0 - n == 0 - x) = (n == x) by rw [Bool.eq_iff_iff]; simp]
theorem fh_mi (e : Eg) (n : Int) : fh (miE e) (0 - n) = fl e n := by
  cases e with
  | none => rfl
  | some e =>
    obtain ⟨x, c⟩ := e
    simp only [miE, Option.map_some, fl, fh]
    rw [show decide (0 - n < 0 - x) = decide (x < n) from decide_eq_decide.mpr (by omega), show (0 - n == 0 - x) = (n == x) by rw [Bool.eq_iff_iff]; simp]
theorem fit_step {s : Stp} {b : Bx1} {p : List Int} (h : okP b.length s) (hl : b.length = p.length) : fitB (boxB s b) (placeB s p) = fitB b p := by
  rw [fitB_with, fitB_with]
  cases s with
  | shift l =>
    have h : l.length = b.length := h
    congr 1
    simp only [placeB, boxB]
    refine List.ext_getElem (by simp [h, hl]) fun k h1 h2 => ?_
    simp only [List.getElem_zipWith, sfit, fl_sh, fh_sh]
  | mirror i =>
    have h : i < b.length := h
    congr 1
    simp only [placeB, boxB]
    refine List.ext_getElem (by simp) fun k h1 h2 => ?_
    simp only [List.getElem_zipWith, List.getElem_set]
    by_cases e : i = k
    · subst e
      rw [if_pos rfl, if_pos rfl, List.getD_eq_getElem?_getD, List.getD_eq_getElem?_getD, List.getElem?_eq_getElem h, List.getElem?_eq_getElem (by omega)]
      simp only [sfit, Option.getD_some, fl_mi, fh_mi]
      exact Bool.and_comm _ _
    · rw [if_neg e, if_neg e]
  | swap i j =>
    obtain ⟨hi, hj⟩ : i < b.length ∧ j < b.length := h
    simp only [placeB, boxB]
    rw [with_swp _ hi hj hl, all_swp (by rw [List.length_zipWith]; omega) (by rw [List.length_zipWith]; omega)]
theorem fit_mv : ∀ {ss : List Stp} {b : Bx1} {p : List Int}, (∀ s ∈ ss, okP b.length s) → b.length = p.length → fitB (mvB ss b) (mvP ss p) = fitB b p
  | [], _, _, _, _ => rfl
  | s :: ss, b, p, h, hl => by
    have h0 := h s List.mem_cons_self
    have h1 := boxB_len h0
    have h2 := placeB_len (p := p) (s := s) (by rw [← hl]; exact h0)
    show fitB (mvB ss (boxB s b)) (mvP ss (placeB s p)) = _
    rw [fit_mv (fun t ht => by rw [h1]; exact h t (List.mem_cons_of_mem _ ht)) (by rw [h1, h2, hl]), fit_step h0 hl]
/-! plain boxes moved -/
def oA (o : Option Int) (m : Int) : Option Int := o.map fun x => x + m
def oN (o : Option Int) : Option Int := o.map fun x => 0 - x
def plM : Stp → List Pr → List Pr
  | .shift l, b => List.zipWith (fun s m => (oA s.1 m, oA s.2 m)) b l
  | .mirror i, b => b.set i (oN (b.getD i (none, none)).2, oN (b.getD i (none, none)).1)
  | .swap i j, b => swpL b i j
def mvL (ss : List Stp) (b : List Pr) : List Pr := ss.foldl (fun b s => plM s b) b
theorem pl_sh (s : Eg × Eg) (m : Int) : pl (shE s.1 m, shE s.2 m) = (oA (pl s).1 m, oA (pl s).2 m) := by
  obtain ⟨l, h⟩ := s
  cases l <;> cases h <;> simp [pl, shE, oA] <;> omega
theorem pl_mi (s : Eg × Eg) : pl (miE s.2, miE s.1) = (oN (pl s).2, oN (pl s).1) := by
  obtain ⟨l, h⟩ := s
  cases l <;> cases h <;> simp [pl, miE, oN] <;> omega
theorem pl_step {s : Stp} {b : Bx1} (h : okP b.length s) : (boxB s b).map pl = plM s (b.map pl) := by
  cases s with
  | shift l =>
    simp only [boxB, plM]
    rw [map_with, List.zipWith_map_left]
    congr 1
    funext s m
    exact pl_sh s m
  | mirror i =>
    have h : i < b.length := h
    simp only [boxB, plM]
    rw [List.map_set, pl_mi, List.getD_eq_getElem?_getD, List.getD_eq_getElem?_getD, List.getElem?_map, List.getElem?_eq_getElem h]
    rfl
  | swap i j =>
    simp only [boxB, plM]
    exact swpL_map pl b i j
theorem pl_mv : ∀ {ss : List Stp} {b : Bx1}, (∀ s ∈ ss, okP b.length s) → (mvB ss b).map pl = mvL ss (b.map pl)
  | [], _, _ => rfl
  | s :: ss, b, h => by
    have h0 := h s List.mem_cons_self
    have h1 := boxB_len h0
    show (mvB ss (boxB s b)).map pl = mvL ss (plM s (b.map pl))
    rw [pl_mv (fun t ht => by rw [h1]; exact h t (List.mem_cons_of_mem _ ht)), pl_step h0]
theorem plM_len {s : Stp} {p : List Pr} (h : okP p.length s) : (plM s p).length = p.length := by
  cases s with
  | shift l => have h : l.length = p.length := h; simp [plM, h]
  | mirror i => simp [plM]
  | swap i j => simp [plM, swpL_len]
theorem cr_sh (a : Pr) (m : Int) : cr (oA a.1 m, oA a.2 m) = cr a := by
  obtain ⟨a, b⟩ := a
  cases a <;> cases b <;> simp [oA, cr]
theorem cr_mi (a : Pr) : cr (oN a.2, oN a.1) = cr a := by
  obtain ⟨a, b⟩ := a
  cases a <;> cases b <;> simp [oN, cr]
theorem any_cr {s : Stp} {p : List Pr} (h : okP p.length s) : (plM s p).any cr = p.any cr := by
  have e : ∀ q : List Pr, q.any cr = (q.map cr).any id := fun q => by rw [List.any_map]; rfl
  cases s with
  | shift l =>
    have h : l.length = p.length := h
    rw [e, e p]
    congr 1
    simp only [plM]
    refine List.ext_getElem (by simp [h]) fun k h1 h2 => ?_
    simp only [List.getElem_map, List.getElem_zipWith, cr_sh]
  | mirror i =>
    have h : i < p.length := h
    rw [e, e p]
    congr 1
    simp only [plM]
    refine List.ext_getElem (by simp) fun k h1 h2 => ?_
    simp only [List.getElem_map, List.getElem_set]
    by_cases e : i = k
    · subst e
      rw [if_pos rfl, cr_mi, List.getD_eq_getElem?_getD, List.getElem?_eq_getElem h]
      rfl
    · rw [if_neg e]
  | swap i j =>
    obtain ⟨hi, hj⟩ : i < p.length ∧ j < p.length := h
    exact any_swp hi hj
theorem any_crs : ∀ {ss : List Stp} {p : List Pr}, (∀ s ∈ ss, okP p.length s) → (mvL ss p).any cr = p.any cr ∧ (mvL ss p).length = p.length
  | [], _, _ => ⟨rfl, rfl⟩
  | s :: ss, p, h => by
    have h0 := h s List.mem_cons_self
    have h1 := plM_len h0
    obtain ⟨a, b⟩ := any_crs (ss := ss) (p := plM s p) (fun t ht => by rw [h1]; exact h t (List.mem_cons_of_mem _ ht))
    exact ⟨by rw [show mvL (s :: ss) p = mvL ss (plM s p) from rfl, a, any_cr h0], by rw [show mvL (s :: ss) p = mvL ss (plM s p) from rfl, b, h1]⟩
theorem plain_mv {ss : List Stp} {b : Bx1} (h : ∀ s ∈ ss, okP b.length s) : plainOf ((mvB ss (boxOf (plainOf (b.map pl)))).map pl) = plainOf ((mvB ss b).map pl) := by
  have l1 : (boxOf (plainOf (b.map pl))).length = b.length := by simp [boxOf, Zb.plain_len]
  have e1 : (boxOf (plainOf (b.map pl))).map pl = plainOf (b.map pl) := by
    unfold boxOf
    rw [List.map_map]
    refine (List.map_congr_left fun q _ => ?_).trans (List.map_id' _)
    obtain ⟨a, b⟩ := q
    cases a <;> cases b <;> simp [pl, sh]
  rw [pl_mv (by rw [l1]; exact h), pl_mv h, e1]
  have hp : ∀ s ∈ ss, okP (b.map pl).length s := by simpa using h
  cases hc : (b.map pl).any cr with
  | false =>
    rw [show plainOf (b.map pl) = b.map pl by unfold plainOf; rw [hc]; rfl]
  | true =>
    have e2 : plainOf (b.map pl) = ept (b.map pl) := by unfold plainOf; rw [hc]; rfl
    have l2 : (ept (b.map pl)).length = (b.map pl).length := by simp [ept]
    have ne : b.map pl ≠ [] := fun z => by rw [z] at hc; simp at hc
    obtain ⟨a1, a2⟩ := any_crs hp
    obtain ⟨c1, c2⟩ := any_crs (ss := ss) (p := ept (b.map pl)) (by rw [l2]; exact hp)
    rw [e2]
    unfold plainOf
    rw [c1, a1, hc, ept_any ne, if_pos rfl, if_pos rfl]
    rw [List.map_const', List.map_const', c2, a2, l2]
theorem geO_leO (p : Pr) (n : Int) : (geO p.1 n && leO p.2 n) = inP p n := by
  obtain ⟨a, b⟩ := p
  have h1 : geO a n = (match a with | none => true | some a => decide (a ≤ n)) := by
    cases a with
    | none => rfl
    | some a => simp only [geO]; rw [Bool.eq_iff_iff]; simp
  have h2 : leO b n = (match b with | none => true | some b => decide (n ≤ b)) := by
    cases b with
    | none => rfl
    | some a => simp only [leO]; rw [Bool.eq_iff_iff]; simp
  simp only [h1, h2, inP]
  all_goals (cases a <;> cases b <;> rfl)
theorem ins_all : ∀ (ps : List Pr) (p : List Int), (((p.map fun n => (n, n)).zip ps).all fun x => geO x.2.1 x.1.1 && leO x.2.2 x.1.2) = memP ps p
  | [], p => by cases p <;> simp [memP]
  | _ :: _, [] => by simp [memP]
  | a :: ps, n :: p => by
    simp only [List.map_cons, List.zip_cons_cons, List.all_cons, memP, ins_all ps p]
    rw [geO_leO a n]
theorem ins_mem {ps : List Pr} {p : List Int} (hl : ps.length = p.length) (h1 : 1 ≤ ps.length) (hc : plainOf ps = ps) : insB (p.map fun n => (n, n)) ps = memP ps p := by
  unfold insB
  rw [ins_all]
  cases h : (ps.headD (none, none) != ((some 1, some 0) : Pr)) with
  | true => rw [Bool.true_and]
  | false =>
    have h : ps.headD (none, none) = (some 1, some 0) := by simpa using h
    rw [Bool.false_and]
    refine (mem_crossed hl ?_).symm
    cases ps with
    | nil => simp at h1
    | cons a ps =>
      have : a = (some 1, some 0) := h
      subst this
      simp [cr]
theorem imp__law_fits : ∀ ds Q, C__law_fits ds Q → B__law_fits ds Q := by
  rintro ds Q ⟨ps, p, rfl, h1, hl, pl', hc, q⟩
  refine ⟨rfl, ?_⟩
  have sl := sizeLine_eq
  simp only [w__law_fits, Bx.go]
  refine ⟨by omega, co_map p D.int (fun n => edgD (n, n)) (fun n hn acc N hN => ?_) ?_⟩
  · simp only [Bx.go]
    exact hN
  · simp only [backR, Bx.go]
    rw [show p.map (fun n => edgD (n, n)) = (p.map fun n => (n, n)).map edgD by rw [List.map_map]; rfl]
    refine ⟨_, ps, .inl rfl, h1, by omega, by simpa using pl', ?_⟩
    rw [ins_mem hl h1 hc]
    exact q
end Zf
/-! houses of anything -/
namespace Zq
open PySem PySem.Spec PyProof.Rows L2 Bx Zb Zp Zm Zh
def isThing : D → Int → Bool
  | .tup [a, b, c], n => (match a with | .int i => decide (0 ≤ i) | _ => false) && (isPlace b n && isW c)
  | _, _ => false
def nm : D → Int
  | .tup (.int a :: _) => a
  | _ => 0
/-- the numbers rise -/
def ris (l : List Int) : Bool := (l.zip l.tail).all fun p => decide (p.1 < p.2)
def isHouse : D → Bool
  | .tup [.int a, .tup ts] => decide (1 ≤ a ∧ a ≤ 4) && (ts.all (fun t => isThing t a) && ris (ts.map nm))
  | _ => false
/-- no more than so many things -/
def thin (d : D) : Prop := ∀ a ts, d = .tup [a, .tup ts] → ts.length ≤ 1000
abbrev c_MOST_NUMBERS : D := .int 4
abbrev C_is_whole : PSpec := Zb.C_is_whole
abbrev C__law_whole : PSpec := Zb.C_is_whole
abbrev C_is_place : PSpec := Zp.C_is_place
/-- the texts are fit to be compared, so many levels down -/
def sok : Nat → D → Bool
  | _, .str z => PyData.strOk z
  | n + 1, .tup xs => xs.all (sok n)
  | n + 1, .lst _ xs => xs.all (sok n)
  | _, _ => true
theorem sok_mono : ∀ {n : Nat} {d : D}, sok (n + 1) d = true → sok n d = true
  | 0, .str _, h => h
  | 0, .non, _ => rfl
  | 0, .bl _, _ => rfl
  | 0, .int _, _ => rfl
  | 0, .scr _, _ => rfl
  | 0, .dic _ _, _ => rfl
  | 0, .odc _ _, _ => rfl
  | 0, .tup _, _ => rfl
  | 0, .lst _ _, _ => rfl
  | _ + 1, .str _, h => h
  | _ + 1, .non, _ => rfl
  | _ + 1, .bl _, _ => rfl
  | _ + 1, .int _, _ => rfl
  | _ + 1, .scr _, _ => rfl
  | _ + 1, .dic _ _, _ => rfl
  | _ + 1, .odc _ _, _ => rfl
  | n + 1, .tup xs, h => List.all_eq_true.mpr fun x hx => sok_mono (List.all_eq_true.mp h x hx)
  | n + 1, .lst _ xs, h => List.all_eq_true.mpr fun x hx => sok_mono (List.all_eq_true.mp h x hx)
def C__law_odd : PSpec := fun ds Q => ds = [] ∧ ∀ xs : List D, xs.length ≤ 100 → (∀ x ∈ xs, thin x) → (∀ x ∈ xs, sok 5 x = true) → Q (.lst true xs) []
abbrev C__law_take : PSpec := Zb.C__law_take
abbrev C__law_pool : PSpec := Zb.C__law_pool
def C_is_thing : PSpec := fun ds Q => ∃ (d : D) (n : Int), ds = [d, .int n] ∧ n ≤ 1000 ∧ Q (.bl (isThing d n)) []
def C_is_house : PSpec := fun ds Q => ∃ d : D, ds = [d] ∧ thin d ∧ Q (.bl (isHouse d)) []
def Small (ts : List Th) : Prop := ∀ t ∈ ts, t.1 ≤ 10 ^ 17 + 1000 ∧ -10 ^ 17 ≤ t.2.2 ∧ t.2.2 ≤ 10 ^ 17
def C__law_house : PSpec := fun ds Q => ∃ (h : List D) (n d m : Nat), ds = [.lst true h, .int d, .int m] ∧ hnd n h ∧ n ≤ 10 ^ 13 ∧ d ≤ 4 ∧ ∀ (ts : List Th) (ps : List (List Int)) (h' : List D), ts.length ≤ m → ts.length ≤ 60 → House d ts → Small ts → Pools ps → ps.length = d → hnd (n + 500) h' → Q (.tup [houseD d ts, .lst false (ps.map poolD)]) [.lst true h']
def w__law_odd : DS :=
  (dSeq (dAsg 0 (dLst (aCons (oVal (dC .non)) (aCons (oVal (dC (.bl true))) (aCons (oVal (dC (.bl false))) (aCons (oVal (dC (.int 0))) (aCons (oVal (dUn gNeg (oVal (dC (.int 1))))) (aCons (oVal (dC (.int 7))) (aCons (oVal (dC (.str ""))) (aCons (oVal (dC (.str "box"))) (aCons (oVal (dTup aNil)) (aCons (oVal (dLst aNil)) (aCons (oVal (dC (.dic [] []))) (aCons (oVal (dTup (aCons (oVal (dC .non)) aNil))) (aCons (oVal (dTup (aCons (oVal (dTup aNil)) aNil))) (aCons (oVal (dTup (aCons (oVal (dTup (aCons (oVal (dC .non)) (aCons (oVal (dC .non)) aNil)))) aNil))) (aCons (oVal (dLst (aCons (oVal (dTup (aCons (oVal (dTup (aCons (oVal (dC (.int 0))) (aCons (oVal (dC (.bl true))) aNil)))) (aCons (oVal (dC .non)) aNil)))) aNil))) aNil)))))))))))))))))
    (dSeq (dAsg 0 (dBin gAdd (oVar 0) (oVal (dLst (aCons (oVal (dTup (aCons (oVal (dC (.int 0))) aNil))) (aCons (oVal (dTup (aCons (oVal (dC (.int 0))) (aCons (oVal (dC (.int 0))) aNil)))) (aCons (oVal (dLst (aCons (oVal (dC (.int 0))) aNil))) (aCons (oVal (dTup (aCons (oVal (dC (.bl true))) aNil))) (aCons (oVal (dTup (aCons (oVal (dC (.str "0"))) aNil))) (aCons (oVal (dTup (aCons (oVal (dTup (aCons (oVal (dC (.int 0))) (aCons (oVal (dC (.bl true))) aNil)))) aNil))) (aCons (oVal (dTup (aCons (oVal (dTup (aCons (oVal (dTup (aCons (oVal (dC (.int 0))) (aCons (oVal (dC (.bl true))) aNil)))) (aCons (oVal (dC .non)) aNil)))) aNil))) (aCons (oVal (dTup (aCons (oVal (dTup (aCons (oVal (dTup (aCons (oVal (dC (.int 0))) (aCons (oVal (dC (.int 1))) aNil)))) (aCons (oVal (dC .non)) aNil)))) aNil))) aNil))))))))))))
    (dSeq (dAsg 0 (dBin gAdd (oVar 0) (oVal (dLst (aCons (oVal (dTup (aCons (oVal (dTup (aCons (oVal (dC (.int 0))) (aCons (oVal (dC .non)) aNil)))) aNil))) (aCons (oVal (dTup (aCons (oVal (dTup (aCons (oVal (dTup (aCons (oVal (dC (.int 0))) (aCons (oVal (dC (.bl true))) aNil)))) aNil))) aNil))) (aCons (oVal (dTup (aCons (oVal (dTup (aCons (oVal (dC .non)) (aCons (oVal (dC .non)) (aCons (oVal (dC .non)) aNil))))) aNil))) (aCons (oVal (dTup (aCons (oVal (dTup (aCons (oVal (dTup (aCons (oVal (dC (.bl true))) (aCons (oVal (dC (.bl true))) aNil)))) (aCons (oVal (dC .non)) aNil)))) aNil))) aNil))))))))
    (dSeq (dAsg 0 (dBin gAdd (oVar 0) (oVal (dLst (aCons (oVal (dTup (aCons (oVal (dTup (aCons (oVal (dTup (aCons (oVal (dC .non)) (aCons (oVal (dC (.bl true))) aNil)))) (aCons (oVal (dC .non)) aNil)))) aNil))) aNil)))))
    (dSeq (dAsg 0 (dBin gAdd (oVar 0) (oVal (dLst (aCons (oVal (dTup (aCons (oVal (dTup (aCons (oVal (dTup (aCons (oVal (dC (.str "0"))) (aCons (oVal (dC (.bl true))) aNil)))) (aCons (oVal (dC .non)) aNil)))) aNil))) (aCons (oVal (dTup (aCons (oVal (dTup (aCons (oVal (dLst (aCons (oVal (dC (.int 0))) (aCons (oVal (dC (.bl true))) aNil)))) (aCons (oVal (dC .non)) aNil)))) aNil))) (aCons (oVal (dTup (aCons (oVal (dLst (aCons (oVal (dC .non)) (aCons (oVal (dC .non)) aNil)))) aNil))) (aCons (oVal (dTup (aCons (oVal (dTup (aCons (oVal (dTup (aCons (oVal (dC (.int 0))) (aCons (oVal (dC (.bl true))) (aCons (oVal (dC (.int 1))) aNil))))) (aCons (oVal (dC .non)) aNil)))) aNil))) aNil))))))))
    (dRet (dBin gAdd (oVar 0) (oVal (dLst (aCons (oVal (dC (.dic [.inr "box"] [.int 1]))) aNil))))))))))
abbrev B__law_odd : PSpec := bodyW [] 1 0 w__law_odd
def w_is_thing : DS :=
  (dSeq (dIfS (tOr (tNot (tVal (dIsi "tuple" (oVar 0)))) (tOr (tVal (dBin gNe (oVal (dCB gLen (aCons (oVar 0) aNil))) (oVal (dC (.int 3))))) (tOr (tNot (tVal (dCall C_is_whole (aCons (oVal (dBin gIx (oVar 0) (oVal (dC (.int 0))))) aNil)))) (tVal (dBin gLt (oVal (dBin gIx (oVar 0) (oVal (dC (.int 0))))) (oVal (dC (.int 0))))))))
    (dRet (dC (.bl false)))
    dNext)
    (dRet (dAnd (dCall C_is_place (aCons (oVal (dBin gIx (oVar 0) (oVal (dC (.int 1))))) (aCons (oVar 1) aNil))) (dCall C_is_whole (aCons (oVal (dBin gIx (oVar 0) (oVal (dC (.int 2))))) aNil)))))
abbrev B_is_thing : PSpec := bodyW [] 2 2 w_is_thing
def w_is_house : DS :=
  (dSeq (dIfS (tOr (tNot (tVal (dIsi "tuple" (oVar 0)))) (tOr (tVal (dBin gNe (oVal (dCB gLen (aCons (oVar 0) aNil))) (oVal (dC (.int 2))))) (tOr (tNot (tVal (dCall C_is_whole (aCons (oVal (dBin gIx (oVar 0) (oVal (dC (.int 0))))) aNil)))) (tNot (tVal (dIsi "tuple" (oVal (dBin gIx (oVar 0) (oVal (dC (.int 1)))))))))))
    (dRet (dC (.bl false)))
    dNext)
    (dSeq (dIfS (tOr (tNot (tVal (dChain gLe gLe (oVal (dC (.int 1))) (oVal (dBin gIx (oVar 0) (oVal (dC (.int 0))))) (oVal (dC c_MOST_NUMBERS))))) (tNot (tVal (dCB gAll (aCons (oVal (dComp (iOf (dBin gIx (oVar 0) (oVal (dC (.int 1))))) [1] (gN 1) tAll (dCall C_is_thing (aCons (oVar 1) (aCons (oVal (dBin gIx (oVar 0) (oVal (dC (.int 0))))) aNil))))) aNil)))))
    (dRet (dC (.bl false)))
    dNext)
    (dRet (dCB gAll (aCons (oVal (dComp (iZX (aCons (oVal (dBin gIx (oVar 0) (oVal (dC (.int 1))))) (aCons (oVal (dSl (oVal (dBin gIx (oVar 0) (oVal (dC (.int 1))))) (pInt (dC (.int 1))) pNo)) aNil))) [1, 2] (gT (gsCons (gN 1) (gsCons (gN 2) gsNil)) 2) tAll (dBin gLt (oVal (dBin gIx (oVar 1) (oVal (dC (.int 0))))) (oVal (dBin gIx (oVar 2) (oVal (dC (.int 0)))))))) aNil)))))
abbrev B_is_house : PSpec := bodyW [] 3 1 w_is_house
def w__law_house : DS :=
  (dSeq (dAsg 3 (dComp (iR gR1 (aCons (oVar 1) aNil)) [11] (gN 11) tAll (dCallIO 0 0 C__law_pool (aCons (oVar 0) aNil))))
    (dSeq (dAsg 4 (dLst (aCons (oVal (dLst (aCons (oVal (dC (.int 0))) aNil))) (aCons (oVal (dLst (aCons (oVal (dC (.int 1))) (aCons (oVal (dC (.int 2))) (aCons (oVal (dC (.int 3))) aNil))))) (aCons (oVal (dLst (aCons (oVal (dUn gNeg (oVal (dC (.int 5))))) (aCons (oVal (dC (.int 5))) (aCons (oVal (dC (.int 0))) (aCons (oVal (dC (.int 5))) aNil)))))) (aCons (oVal (dLst (aCons (oVal (dBin gPow (oVal (dC (.int 10))) (oVal (dC (.int 17))))) (aCons (oVal (dUn gNeg (oVal (dBin gPow (oVal (dC (.int 10))) (oVal (dC (.int 17))))))) (aCons (oVal (dC (.int 7))) aNil))))) (aCons (oVal (dComp (iR gR1 (aCons (oVal (dC (.int 40))) aNil)) [9] (gN 9) tAll (dBin gSub (oVal (dBin gMul2 (oVal (dC (.int 3))) (oVar 9))) (oVal (dC (.int 20)))))) aNil)))))))
    (dSeq (dAsg 5 (dBin gIx (oVar 4) (oVal (dCallIO 0 0 C__law_take (aCons (oVar 0) (aCons (oVal (dC (.int 5))) aNil))))))
    (dSeq (dAsg 6 (dCB gMin (aCons (oVar 2) (aCons (oVal (dBin gIx (oVal (dLst (aCons (oVal (dC (.int 0))) (aCons (oVal (dC (.int 1))) (aCons (oVal (dC (.int 2))) (aCons (oVal (dC (.int 3))) (aCons (oVal (dC (.int 6))) (aCons (oVal (dC (.int 9))) (aCons (oVal (dC (.int 14))) (aCons (oVal (dC (.int 30))) (aCons (oVal (dC (.int 60))) aNil))))))))))) (oVal (dCallIO 0 0 C__law_take (aCons (oVar 0) (aCons (oVal (dC (.int 9))) aNil)))))) aNil))))
    (dSeq (dAsg 7 (dBin gIx (oVal (dLst (aCons (oVal (dC (.int 0))) (aCons (oVal (dC (.int 3))) (aCons (oVal (dBin gPow (oVal (dC (.int 10))) (oVal (dC (.int 17))))) aNil))))) (oVal (dCallIO 0 0 C__law_take (aCons (oVar 0) (aCons (oVal (dC (.int 3))) aNil))))))
    (dSeq (dAsg 8 (dLst aNil))
    (dSeq (dFor (iR gR1 (aCons (oVar 6) aNil)) (gN 9)
    (dSeq (dAsg 10 (dCB gTuple (aCons (oVal (dComp (iOf (dVar 3)) [12] (gN 12) tAll (dBin gIx (oVar 12) (oVal (dCallIO 0 0 C__law_take (aCons (oVar 0) (aCons (oVal (dCB gLen (aCons (oVar 12) aNil))) aNil))))))) aNil)))
    (dSeq (dExp (dApp 8 (dTup (aCons (oVar 7) (aCons (oVar 10) (aCons (oVal (dBin gIx (oVar 5) (oVal (dCallIO 0 0 C__law_take (aCons (oVar 0) (aCons (oVal (dCB gLen (aCons (oVar 5) aNil))) aNil)))))) aNil))))))
    (dAsg 7 (dBin gAdd (oVal (dBin gAdd (oVar 7) (oVal (dC (.int 1))))) (oVal (dCallIO 0 0 C__law_take (aCons (oVar 0) (aCons (oVal (dC (.int 3))) aNil)))))))))
    (dRet (dTup (aCons (oVal (dTup (aCons (oVar 1) (aCons (oVal (dCB gTuple (aCons (oVar 8) aNil))) aNil)))) (aCons (oVar 3) aNil)))))))))))
abbrev B__law_house : PSpec := bodyW [0] 13 3 w__law_house

theorem three_of {xs : List D} (h : ((xs.length : Int) == 3) = true) : ∃ a b c, xs = [a, b, c] := by
  have h : xs.length = 3 := by
    have := eq_of_beq h
    omega
  match xs, h with
  | [a, b, c], _ => exact ⟨a, b, c, rfl⟩
theorem isThing_no {xs : List D} {n : Int} (h : ((xs.length : Int) == 3) = false) : isThing (.tup xs) n = false := by
  match xs, h with
  | [], _ => rfl
  | [a], _ => rfl
  | [a, b], _ => rfl
  | [a, b, c], h => simp at h
  | a :: b :: c :: d :: r, _ => rfl
theorem isPlace_frz (d : D) (n : Int) : isPlace d.frz n = isPlace d n := by cases d <;> rfl
theorem imp_is_thing : ∀ ds Q, C_is_thing ds Q → B_is_thing ds Q := by
  rintro ds Q ⟨d, n, rfl, hn, q⟩
  refine ⟨rfl, ?_⟩
  cases d with
  | tup xs =>
    simp only [w_is_thing, Bx.go]
    refine ⟨eqOk_int _ _, ?_⟩
    rw [eqv_int]
    cases h : ((xs.length : Int) == 3)
    · simp only [Bx.go]
      rw [isThing_no h] at q
      exact q
    · obtain ⟨a, b, c, rfl⟩ := three_of h
      simp only [p0, Bx.go]
      refine ⟨_, rfl, ?_⟩
      rw [isW_frz]
      cases a with
      | int i =>
        have q1 : ¬ 0 ≤ i → Q (.bl false) [] := fun hi => by
          simp only [isThing, hi, decide_false, Bool.false_and] at q
          exact q
        have q2 : 0 ≤ i → Q (.bl (isPlace b n && isW c)) [] := fun hi => by
          simp only [isThing, hi, decide_true, Bool.true_and] at q
          exact q
        clear q
        simp only [q0, isW, D.frz, Bx.go]
        refine pick_by (fun hi => ?_) (fun hi => ?_)
        · simp only [Bx.go]
          exact q1 (by have := of_decide_eq_true hi; omega)
        · have q2 := q2 (by have := of_decide_eq_false hi; omega)
          simp only [q1, Zm.q1, Bx.go]
          refine ⟨_, _, rfl, hn, ?_⟩
          rw [isPlace_frz]
          cases hp : isPlace b n
          · simp only [Bx.go]
            rw [hp] at q2
            exact q2
          · simp only [Zm.q2, Bx.go]
            refine ⟨_, rfl, ?_⟩
            rw [isW_frz]
            rw [hp] at q2
            exact q2
      | _ =>
        simp only [isW, Bx.go]
        exact q
  | _ => simp only [w_is_thing, Bx.go]; exact q
theorem isHouse_no {xs : List D} (h : ((xs.length : Int) == 2) = false) : isHouse (.tup xs) = false := by
  match xs, h with
  | [], _ => rfl
  | [a], _ => cases a <;> rfl
  | [a, b], h => simp at h
  | a :: b :: c :: r, _ => cases a <;> cases b <;> rfl
theorem isThing_frz (d : D) (n : Int) : isThing d.frz n = isThing d n := by cases d <;> rfl
theorem thing_nm {t : D} {n : Int} (h : isThing t n = true) : ∃ r, t = .tup (.int (nm t) :: r) := by
  unfold isThing at h
  split at h
  · rename_i a b c
    cases a <;> simp at h
    exact ⟨_, rfl⟩
  · simp at h
theorem p0c {x : D} {r : List D} : atI (x :: r) 0 = some x := by
  have := atI_map (f := id) (xs := x :: r) (i := 0) (a := x) rfl
  rwa [List.map_id] at this
theorem all_g {α : Type} (f : α → Bool) (xs : List α) : (xs.map f).all id = xs.all f := by rw [List.all_map]; rfl
theorem cut1 (ts : List D) : Bx.cutD ts (some 1) none = ts.tail := by
  have := Zh.cut_drop (xs := ts) (i := 1)
  rw [← List.drop_one]
  exact this
theorem zip_ts : ∀ ts : List D, zipD ts ts.tail = (ts.zip ts.tail).map fun p => .tup [p.1, p.2] := fun ts => by
  have := zipD_map id id ts ts.tail
  rwa [List.map_id, List.map_id] at this
theorem ris_nm (ts : List D) : ris (ts.map nm) = (ts.zip ts.tail).all fun p => decide (nm p.1 < nm p.2) := by
  unfold ris
  rw [← List.map_tail, List.zip_map, List.all_map]
  rfl
theorem imp_is_house : ∀ ds Q, C_is_house ds Q → B_is_house ds Q := by
  rintro ds Q ⟨d, rfl, ht, q⟩
  refine ⟨rfl, ?_⟩
  have sl := sizeLine_eq
  cases d with
  | tup xs =>
    simp only [w_is_house, Bx.go]
    refine ⟨eqOk_int _ _, ?_⟩
    rw [eqv_int]
    cases h : ((xs.length : Int) == 2)
    · simp only [Bx.go]
      rw [isHouse_no h] at q
      exact q
    · obtain ⟨a, b, rfl⟩ := two_of h
      simp only [p0, p1, Bx.go]
      refine ⟨_, rfl, ?_⟩
      rw [isW_frz]
      cases a with
      | int i =>
        cases b with
        | tup ts =>
          have tl := ht _ _ rfl
          have q0 : ¬ (1 ≤ i ∧ i ≤ 4) → Q (.bl false) [] := fun hi => by
            simp only [isHouse, hi, decide_false, Bool.false_and] at q
            exact q
          have q1 : 1 ≤ i ∧ i ≤ 4 → Q (.bl (ts.all (fun t => isThing t i) && ris (ts.map nm))) [] := fun hi => by
            simp only [isHouse, hi, decide_true, Bool.true_and, and_self] at q
            exact q
          clear q
          simp only [p0, p1, isW, D.frz, Bx.go]
          refine pick_by (fun h1 => ?_) (fun h1 => ?_)
          · simp only [p0, Bx.go]
            refine pick_by (fun h2 => ?_) (fun h2 => ?_)
            · simp only [Bx.go]
              exact q0 (by simp at h2; omega)
            · have h2 : i ≤ 4 := by simpa using h2
              have q := q1 ⟨of_decide_eq_true h1, h2⟩
              simp only [p1, Bx.go]
              refine ⟨by omega, ?_⟩
              rw [← List.map_id ts]
              refine co_map ts id (fun x => .bl (isThing x i)) (fun x hx acc N hN => ?_) ?_
              · simp only [id, p0, Bx.go]
                refine ⟨_, _, rfl, by omega, ?_⟩
                rw [isThing_frz]
                simp only [Bx.go]
                exact hN
              · simp only [asBls_f, backR, Bx.go]
                rw [all_f]
                cases hA : ts.all fun t => isThing t i
                · simp only [Bx.go]
                  rw [hA] at q
                  exact q
                · simp only [p1, Bx.go]
                  rw [hA, Bool.true_and] at q
                  rw [List.map_id]
                  rw [cut1, zip_ts]
                  have hm : ∀ t ∈ ts, ∃ r, t = .tup (.int (nm t) :: r) := fun t h => thing_nm (List.all_eq_true.mp hA t h)
                  refine ⟨by rw [List.length_map, List.length_zip]; omega, co_map (ts.zip ts.tail) _ (fun p => .bl (decide (nm p.1 < nm p.2))) (fun p hp acc N hN => ?_) ?_⟩
                  · obtain ⟨a, b⟩ := p
                    have hp := List.of_mem_zip hp
                    obtain ⟨r, ea⟩ := hm _ hp.1
                    obtain ⟨s, eb⟩ := hm _ (List.mem_of_mem_tail hp.2)
                    simp only at hN
                    generalize nm a = x at hN ea
                    generalize nm b = y at hN eb
                    subst ea eb
                    have fz : ∀ l, (D.tup l).frz = .tup l := fun _ => rfl
                    simp only [fz, p0c, Bx.go]
                    exact hN
                  · simp only [asBls_f, backR, Bx.go]
                    rw [all_g, ← ris_nm]
                    exact q
          · simp only [Bx.go]
            exact q0 (by have := of_decide_eq_false h1; omega)
        | _ =>
          simp only [p0, p1, isW, D.frz, Bx.go]
          exact q
      | _ =>
        simp only [isW, Bx.go]
        exact q
  | _ => simp only [w_is_house, Bx.go]; exact q
theorem ris_pw {ts : List Th} (h : ts.Pairwise fun a b => a.1 < b.1) : ris (ts.map fun t => t.1) = true := by
  unfold ris
  induction ts with
  | nil => rfl
  | cons a r ih =>
    cases r with
    | nil => rfl
    | cons b r =>
      have h2 := List.pairwise_cons.mp h
      simp only [List.map_cons, List.tail_cons, List.zip_cons_cons, List.all_cons] at ih ⊢
      rw [ih h2.2, Bool.and_true]
      exact decide_eq_true (h2.1 b List.mem_cons_self)
theorem isThing_th {d : Nat} {t : Th} (l : t.2.1.length = d) (z : 0 ≤ t.1) : isThing (thD t) d = true := by
  unfold isThing thD
  simp only [z, decide_true, Bool.true_and, isPlace, isW, Bool.and_true, List.length_map, l, beq_self_eq_true]
  exact List.all_eq_true.mpr fun x hx => by
    obtain ⟨i, _, rfl⟩ := List.mem_map.mp hx; rfl
theorem isHouse_th {d : Nat} {ts : List Th} (h : House d ts) (d1 : 1 ≤ d) (d4 : d ≤ 4) : isHouse (houseD d ts) = true := by
  unfold isHouse houseD
  have e : (ts.map thD).map nm = ts.map fun t => t.1 := by rw [List.map_map]; rfl
  simp only [e, ris_pw h.ris, Bool.and_true]
  rw [Bool.and_eq_true]
  refine ⟨decide_eq_true (by omega), List.all_eq_true.mpr fun x hx => ?_⟩
  obtain ⟨t, ht, rfl⟩ := List.mem_map.mp hx
  exact isThing_th (h.num t ht) (h.nat t ht)
theorem imp__law_house : ∀ ds Q, C__law_house ds Q → B__law_house ds Q := by
  rintro ds Q ⟨h, n, d, m, rfl, hh, hn, hd, q⟩
  refine ⟨rfl, ?_⟩
  have sl := sizeLine_eq
  refine seq_cut (fun ρ => ∃ (h : List D) (ps : List (List Int)), Pools ps ∧ ps.length = d ∧ hnd (n + 12) h ∧ ρ = [some (.lst true h), some (.int d), some (.int m), some (.lst true (ps.map poolD)), none, none, none, none, none, none, none, none, none]) (fun R hR => ?_) ?_
  · simp only [Bx.go]
    refine ⟨i62_of (by omega) (by omega), by rw [rangeD_len]; omega, ?_⟩
    rw [rangeD_nat]
    refine co_each (List.range (Int.toNat d)) _ (fun dn acc ρ => ∃ (h : List D) (ps : List (List Int)), acc = ps.map poolD ∧ Pools ps ∧ ps.length = dn.length ∧ hnd (n + 3 * ps.length) h ∧ ρ = [some (.lst true h), some (.int d), some (.int m), none, none, none, none, none, none, none, none, none, none]) ⟨h, [], rfl, fun _ h => absurd h List.not_mem_nil, rfl, hh, rfl⟩ ?_ ?_
    · rintro dn y r acc ρ N e ⟨h, ps, rfl, hp, el, hh, rfl⟩ hN
      have e := congrArg List.length e
      simp at e
      simp only [Bx.go]
      refine ⟨h, _, rfl, hh, by omega, fun l h l0 l9 hh => ?_⟩
      simp only [Bx.go]
      refine hN _ _ ⟨h, ps ++ [l], by simp [poolD], fun m hm => ?_, by simp [el], hh.mono (by simp; omega), rfl⟩
      rcases List.mem_append.mp hm with hm | hm
      · exact hp m hm
      · simp at hm; subst hm; exact ⟨l0, l9⟩
    · rintro acc ρ ⟨h, ps, rfl, hp, el, hh, rfl⟩
      simp only [backR, Bx.go]
      simp at el
      exact hR _ ⟨h, ps, hp, el, hh.mono (by omega), rfl⟩
  rintro _ ⟨h, ps, hp, pl, hh, rfl⟩
  refine seq_cut (fun ρ => ∃ rows : List (List Int), rows.length = 5 ∧ (∀ l ∈ rows, l ≠ [] ∧ l.length ≤ 40 ∧ ∀ w ∈ l, -10 ^ 17 ≤ w ∧ w ≤ 10 ^ 17) ∧ ρ = [some (.lst true h), some (.int d), some (.int m), some (.lst true (ps.map poolD)), some (.lst true (rows.map poolD)), none, none, none, none, none, none, none, none]) (fun R hR => ?_) ?_
  · simp only [Bx.go]
    refine ⟨⟨by decide, by decide, by decide⟩, ⟨by decide, by decide, by decide⟩, i62_of (by decide) (by decide), by rw [rangeD_len]; omega, ?_⟩
    rw [rangeD_nat]
    refine co_map (List.range (Int.toNat 40)) _ (fun k => .int (3 * (k : Nat) - 20)) (fun x hx acc N hN => ?_) ?_
    · have := List.mem_range.mp hx
      simp only [Bx.go]
      exact ⟨.inl ⟨by omega, by omega⟩, hN⟩
    · simp only [backR, Bx.go]
      refine hR _ ⟨[[0], [1, 2, 3], [-5, 5, 0, 5], [10 ^ Int.toNat 17, -10 ^ Int.toNat 17, 7], (List.range (Int.toNat 40)).map fun k : Nat => 3 * (k : Int) - 20], rfl, by decide +kernel, ?_⟩
      simp only [List.map_cons, List.map_nil, poolD, List.map_map]
      rfl
  rintro _ ⟨rows, rl, hr, rfl⟩
  refine seq_cut (fun ρ => ∃ (h : List D) (l : List Int), (l ≠ [] ∧ l.length ≤ 40 ∧ ∀ w ∈ l, -10 ^ 17 ≤ w ∧ w ≤ 10 ^ 17) ∧ hnd (n + 13) h ∧ ρ = [some (.lst true h), some (.int d), some (.int m), some (.lst true (ps.map poolD)), some (.lst true (rows.map poolD)), some (poolD l), none, none, none, none, none, none, none]) (fun R hR => ?_) ?_
  · simp only [Bx.go]
    refine ⟨h, _, 5, rfl, hh, by omega, by decide, by decide, fun r h h0 h1 hh => ?_⟩
    have hr' : r.toNat < rows.length := by omega
    have er := atI_map (f := poolD) (List.getElem?_eq_getElem hr')
    rw [Int.toNat_of_nonneg h0] at er
    simp only [er, Bx.go]
    exact hR _ ⟨h, _, hr _ (List.getElem_mem hr'), hh, rfl⟩
  rintro _ ⟨h, l, ⟨l0, l4, lw⟩, hh, rfl⟩
  refine seq_cut (fun ρ => ∃ (h : List D) (k : Nat), k ≤ m ∧ k ≤ 60 ∧ hnd (n + 14) h ∧ ρ = [some (.lst true h), some (.int d), some (.int m), some (.lst true (ps.map poolD)), some (.lst true (rows.map poolD)), some (poolD l), some (.int k), none, none, none, none, none, none]) (fun R hR => ?_) ?_
  · simp only [Bx.go]
    refine ⟨h, _, 9, rfl, hh, by omega, by decide, by decide, fun r h h0 h1 hh => ?_⟩
    obtain ⟨v, ev, hv⟩ := atI_of (ns := [0, 1, 2, 3, 6, 9, 14, 30, 60]) (fun v => 0 ≤ v ∧ v ≤ 60) (by decide) h0 (by simpa using h1)
    simp only [List.map] at ev
    simp only [ev, Bx.go]
    by_cases hv' : v < (m : Int)
    · simp only [if_pos hv']
      exact hR _ ⟨h, v.toNat, by omega, by omega, hh, by rw [Int.toNat_of_nonneg hv.1]⟩
    · simp only [if_neg hv']
      exact hR _ ⟨h, m, by omega, by omega, hh, rfl⟩
  rintro _ ⟨h, k, km, k60, hh, rfl⟩
  refine seq_cut (fun ρ => ∃ (h : List D) (nm : Int), 0 ≤ nm ∧ nm ≤ 10 ^ 17 ∧ hnd (n + 15) h ∧ ρ = [some (.lst true h), some (.int d), some (.int m), some (.lst true (ps.map poolD)), some (.lst true (rows.map poolD)), some (poolD l), some (.int k), some (.int nm), none, none, none, none, none]) (fun R hR => ?_) ?_
  · simp only [Bx.go]
    refine ⟨⟨by decide, by decide, by decide⟩, h, _, 3, rfl, hh, by omega, by decide, by decide, fun r h h0 h1 hh => ?_⟩
    obtain ⟨v, ev, hv⟩ := atI_of (ns := [0, 3, 10 ^ Int.toNat 17]) (fun v => 0 ≤ v ∧ v ≤ 10 ^ 17) (by decide +kernel) h0 (by simpa using h1)
    simp only [List.map] at ev
    simp only [ev, Bx.go]
    exact hR _ ⟨h, v, hv.1, hv.2, hh, rfl⟩
  rintro _ ⟨h, nm, nm0, nm1, hh, rfl⟩
  simp only [Bx.go]
  refine ⟨i62_of (by omega) (by omega), ?_⟩
  rw [rangeD_nat]
  refine for_each (List.range (Int.toNat k)) _ (fun dn ρ => ∃ (o : Bool) (h : List D) (ts : List Th) (nm : Int) (x9 x10 x11 x12 : Option D), ts.length = dn.length ∧ House d ts ∧ Small ts ∧ 0 ≤ nm ∧ nm ≤ 10 ^ 17 + 3 * dn.length ∧ (∀ s ∈ ts, s.1 < nm) ∧ hnd (n + 15 + 6 * dn.length) h ∧ ρ = [some (.lst true h), some (.int d), some (.int m), some (.lst o (ps.map poolD)), some (.lst true (rows.map poolD)), some (poolD l), some (.int k), some (.int nm), some (.lst true (ts.map thD)), x9, x10, x11, x12])
      ⟨true, h, [], nm, _, _, _, _, rfl, ⟨by simp, fun _ h => absurd h List.not_mem_nil, fun _ h => absurd h List.not_mem_nil, .nil⟩, fun _ h => absurd h List.not_mem_nil, nm0, by simpa using nm1, fun _ h => absurd h List.not_mem_nil, hh, rfl⟩ ?_ ?_
  · rintro dn x r ρ N e ⟨o, h, ts, nm, x9, x10, x11, x12, tl, ht, hs, nm0, nm1, hr, hh, rfl⟩ hN
    have e := congrArg List.length e
    simp at e
    obtain ⟨c, hc⟩ : ∃ c, c = n + 15 + 6 * dn.length := ⟨_, rfl⟩
    rw [← hc] at hh
    simp only [u1_gT, u2_gT, u1_gsCons, u2_gsCons, u1_gsNil, u2_gsNil, u1_kGs, u1_gN, u1_kForB, rset_s, rset_0, rget_s, rget_0, D.seq, D.sql, u_onSome_some, frz_tup, frz_int, frz_bl, frz_lst, frz_str, frz_non, frz_scr, List.length_cons, List.length_nil, List.map_cons, List.map_nil, Option.bind_some, true_and, and_true]
    refine seq_cut (fun ρ => ∃ (h : List D) (p : List Int) (x12 : Option D), p.length = d ∧ hnd (c + 4) h ∧ ρ = [some (.lst true h), some (.int d), some (.int m), some (.lst false (ps.map poolD)), some (.lst true (rows.map poolD)), some (poolD l), some (.int k), some (.int nm), some (.lst true (ts.map thD)), some (.int (x : Nat)), some (.tup (p.map .int)), x11, x12]) (fun R hR => ?_) ?_
    · simp only [Bx.go]
      refine ⟨by omega, ?_⟩
      refine co_each ps poolD (fun dm acc ρ => ∃ (h : List D) (p : List Int), acc = p.map .int ∧ p.length = dm.length ∧ hnd (c + dm.length) h ∧ ρ = [some (.lst true h), some (.int d), some (.int m), some (.lst false (ps.map poolD)), some (.lst true (rows.map poolD)), some (poolD l), some (.int k), some (.int nm), some (.lst true (ts.map thD)), some (.int (x : Nat)), x10, x11, none]) ⟨h, [], rfl, rfl, hh, rfl⟩ ?_ ?_
      · rintro dm y r acc ρ N e2 ⟨h, p, rfl, pl', hh, rfl⟩ hN
        have hy := hp y (by rw [e2]; simp)
        have e2 := congrArg List.length e2
        simp at e2
        have y0 : 0 < y.length := List.length_pos_iff.mpr hy.1
        have fz : (poolD y).frz = poolD y := rfl
        simp only [fz, poolD, Bx.go]
        refine ⟨h, _, y.length, rfl, hh, by omega, by omega, by omega, fun r h h0 h1 hh => ?_⟩
        have hr' : r.toNat < y.length := by omega
        have er := atI_map (f := D.int) (List.getElem?_eq_getElem hr')
        rw [Int.toNat_of_nonneg h0] at er
        simp only [er, Bx.go]
        exact hN _ _ ⟨h, p ++ [_], by rw [List.map_append]; rfl, by simp [pl'], hh.mono (by simp; omega), rfl⟩
      · rintro acc ρ ⟨h, p, rfl, pl', hh, rfl⟩
        simp only [backR, Bx.go]
        exact hR _ ⟨h, p, _, by omega, hh.mono (by omega), rfl⟩
    clear x10 x12
    rintro _ ⟨h, p, x12, pl', hh, rfl⟩
    refine seq_cut (fun ρ => ∃ (h : List D) (wo : Int), -10 ^ 17 ≤ wo ∧ wo ≤ 10 ^ 17 ∧ hnd (c + 5) h ∧ ρ = [some (.lst true h), some (.int d), some (.int m), some (.lst false (ps.map poolD)), some (.lst true (rows.map poolD)), some (poolD l), some (.int k), some (.int nm), some (.lst true ((ts ++ [(nm, p, wo)]).map thD)), some (.int (x : Nat)), some (.tup (p.map .int)), x11, x12]) (fun R hR => ?_) ?_
    · have ll : 0 < l.length := List.length_pos_iff.mpr l0
      simp only [poolD, Bx.go]
      refine ⟨h, _, l.length, rfl, hh, by omega, by omega, by omega, fun r h h0 h1 hh => ?_⟩
      have hr' : r.toNat < l.length := by omega
      have er := atI_map (f := D.int) (List.getElem?_eq_getElem hr')
      rw [Int.toNat_of_nonneg h0] at er
      have hw := lw _ (List.getElem_mem hr')
      simp only [er, Bx.go]
      exact ⟨by omega, hR _ ⟨h, _, hw.1, hw.2, hh, by rw [List.map_append]; rfl⟩⟩
    rintro _ ⟨h, wo, w0, w1, hh, rfl⟩
    simp only [Bx.go]
    refine ⟨h, _, 3, rfl, hh, by omega, by decide, by decide, fun r h h0 h1 hh => ?_⟩
    simp only [Bx.go]
    refine hN _ ⟨false, h, ts ++ [(nm, p, wo)], _, _, _, _, _, by simp [tl], ht.snoc (by omega) pl' nm0 hr, fun s hs' => ?_, by omega, by simp; omega, fun s hs => ?_, hh.mono (by simp; omega), rfl⟩
    · rcases List.mem_append.mp hs' with hs' | hs'
      · exact hs s hs'
      · simp at hs'; subst hs'; exact ⟨by show nm ≤ _; omega, w0, w1⟩
    rcases List.mem_append.mp hs with hs | hs
    · have := hr s hs; omega
    · simp at hs; subst hs; show nm < _; omega
  · rintro ρ ⟨o, h, ts, nm, x9, x10, x11, x12, tl, ht, hs, nm0, nm1, hr, hh, rfl⟩
    simp at tl hh
    dsimp only
    simp only [Bx.go]
    exact q ts ps h (by omega) (by omega) ht hs hp pl (hh.mono (by omega))
def thinB : D → Bool
  | .tup [_, .tup ts] => decide (ts.length ≤ 1000)
  | _ => true
theorem thin_of {d : D} (h : thinB d = true) : thin d := fun a ts e => by
  subst e
  exact of_decide_eq_true h
theorem imp__law_odd : ∀ ds Q, C__law_odd ds Q → B__law_odd ds Q := by
  rintro ds Q ⟨rfl, q⟩
  refine ⟨rfl, ?_⟩
  have sl := sizeLine_eq
  simp only [w__law_odd, Bx.go]
  refine ⟨by decide, by decide, by decide, by decide, by decide, ?_⟩
  exact q _ (by simp) (fun x hx => thin_of (List.all_eq_true.mp (by rfl) x hx)) (fun x hx => List.all_eq_true.mp (by decide +kernel) x hx)
end Zq
/-! sorted rows -/
namespace Bx
open PySem PySem.Spec PyProof.Rows L2
theorem dLe_int (a b : Int) : dLe (.int a) (.int b) = decide (a ≤ b) := by
  have h := congrFun (congrFun (PySem.W.dataLe_int (fun b : Int => b)) a) b
  rw [← h]
  show PySem.W.dataLe false D.pd (.int a) (.int b) = _
  rw [PySem.W.dataLe_eq, PySem.W.dataLe_eq]
  rfl
theorem sort_ints (l : List Int) : (l.map D.int).mergeSort dLe = (l.mergeSort fun a b => decide (a ≤ b)).map D.int :=
  (List.map_mergeSort (fun a _ b _ => (dLe_int a b).symm)).symm
theorem srtOk_ints (l : List Int) : srtOk (l.map D.int) := by
  refine ⟨fun d hd d' hd' => ?_, .inr fun d hd => ?_, fun d hd => ?_⟩
  · rw [List.map_map] at hd hd'
    obtain ⟨i, _, rfl⟩ := List.mem_map.mp hd
    obtain ⟨j, _, rfl⟩ := List.mem_map.mp hd'
    simp [D.pd, PySem.W.alike]
  · rw [List.map_map] at hd
    obtain ⟨i, _, rfl⟩ := List.mem_map.mp hd
    simp [D.pd]
  · obtain ⟨i, _, rfl⟩ := List.mem_map.mp hd
    simp [D.pd, PyData.depth]
theorem sorted_pw (l : List Int) : (l.mergeSort fun a b => decide (a ≤ b)).Pairwise (· ≤ ·) := by
  have h := List.pairwise_mergeSort (le := fun a b : Int => decide (a ≤ b)) (fun a b c h1 h2 => by simp at *; omega) (fun a b => by simp; omega) l
  exact h.imp fun h => of_decide_eq_true h
theorem sorted_mem {l : List Int} {x : Int} : x ∈ (l.mergeSort fun a b => decide (a ≤ b)) ↔ x ∈ l := List.mem_mergeSort
/-- the first and the last of a sorted row -/
theorem sorted_ends {l : List Int} (h : l ≠ []) : ∃ m M, atI ((l.map D.int).mergeSort dLe) 0 = some (.int m) ∧ atI ((l.map D.int).mergeSort dLe) (-1) = some (.int M) ∧ m ∈ l ∧ M ∈ l ∧ ∀ y ∈ l, m ≤ y ∧ y ≤ M := by
  rw [sort_ints]
  have pw := sorted_pw l
  have hm : ∀ x, x ∈ (l.mergeSort fun a b => decide (a ≤ b)) ↔ x ∈ l := fun _ => sorted_mem
  generalize (l.mergeSort fun a b => decide (a ≤ b)) = s at pw hm
  have hs : s ≠ [] := fun e => by
    subst e
    obtain ⟨x, r, rfl⟩ : ∃ x r, l = x :: r := by
      cases l with
      | nil => exact absurd rfl h
      | cons x r => exact ⟨x, r, rfl⟩
    exact absurd ((hm x).mpr List.mem_cons_self) List.not_mem_nil
  refine ⟨s.head hs, s.getLast hs, ?_, ?_, (hm _).mp (List.head_mem hs), (hm _).mp (List.getLast_mem hs), fun y hy => ?_⟩
  · cases s with
    | nil => exact absurd rfl hs
    | cons x r => rw [List.map_cons, at0]; rfl
  · obtain ⟨a, b, rfl⟩ : ∃ a b, s = a ++ [b] := ⟨_, _, (List.dropLast_concat_getLast hs).symm⟩
    rw [List.map_append]
    simp only [List.map_cons, List.map_nil, List.getLast_concat]
    exact atI_last
  · have hy := (hm y).mpr hy
    constructor
    · cases s with
      | nil => exact absurd rfl hs
      | cons x r =>
        rcases List.mem_cons.mp hy with rfl | hy
        · exact Int.le_refl _
        · exact (List.pairwise_cons.mp pw).1 y hy
    · obtain ⟨a, b, rfl⟩ : ∃ a b, s = a ++ [b] := ⟨_, _, (List.dropLast_concat_getLast hs).symm⟩
      rw [List.getLast_concat]
      rcases List.mem_append.mp hy with hy | hy
      · exact (List.pairwise_append.mp pw).2.2 y hy b (by simp)
      · simp at hy; omega
end Bx
/-! houses made of cells (k13..k25): orders by a number, layers -/
namespace Zr
open PySem PySem.Spec PyProof.Rows L2 Bx Zb Zp Zm Zh
def hd (a s : Int) : D := .lst true [.int a, .int s]
def smI (x : Int) : Prop := -(10 ^ 18) < x ∧ x < 10 ^ 18
structure HouseS (d : Nat) (ts : List Th) : Prop where
  hs : House d ts
  nm : ∀ t ∈ ts, t.1 ≤ 2000
  sm : ∀ t ∈ ts, (∀ x ∈ t.2.1, smI x) ∧ smI t.2.2
def C__law_cell_at : PSpec := sCell
def C__law_left : PSpec := sLeft
def C__law_pick : PSpec := sPick
def C__law_pool : PSpec := fun ds Q => ∃ a s : Int, ds = [hd a s] ∧ ∀ (l : List Int) (a' s' : Int), l ≠ [] → l.length ≤ 8 → (∀ x ∈ l, smI x) → Q (.lst true (l.map .int)) [hd a' s']
def C__law_number : PSpec := fun ds Q => ∃ (a s : Int) (l : List Int), ds = [hd a s, poolD l] ∧ l ≠ [] ∧ l.length ≤ 8 ∧ ∀ v a' s' : Int, v ∈ l → Q (.int v) [hd a' s']
def C__law_things : PSpec := fun ds Q => ∃ (a s : Int) (l : List Int) (d m : Nat), ds = [hd a s, .int d, .int m, poolD l] ∧ l ≠ [] ∧ l.length ≤ 8 ∧ (∀ x ∈ l, smI x) ∧ d ≤ 4 ∧ m ≤ 200 ∧ ∀ (ts : List Th) (a' s' : Int), ts.length = m → HouseS d ts → Q (.tup (ts.map thD)) [hd a' s']
def C__law_small : PSpec := fun ds Q => ∃ (a s : Int) (l : List Int) (mo : Nat), ds = [hd a s, poolD l, .int mo] ∧ 9 ≤ mo ∧ mo ≤ 30 ∧ l ≠ [] ∧ l.length ≤ 8 ∧ (∀ x ∈ l, smI x) ∧ ∀ (d : Nat) (ts : List Th) (a' s' : Int), 1 ≤ d → d ≤ 4 → ts.length ≤ mo → HouseS d ts → Q (houseD d ts) [hd a' s']
/-- things as a tuple or as a list -/
def rows (x : D) (ts : List Th) : Prop := x = .tup (ts.map thD) ∨ x = .lst false (ts.map thD)
def rot (i d : Nat) (t : Th) : List Int := (List.range d).map fun k => t.2.1.getD ((i + k) % d) 0
def rowD (i d : Nat) (t : Th) : D := .tup [.tup ((rot i d t).map .int), .int t.1, thD t]
/-- the things by the number i -/
def byT (i d : Nat) (ts : List Th) : List Th := ts.mergeSort fun a b => dLe (rowD i d a) (rowD i d b)
theorem by_len (i d : Nat) (ts : List Th) : (byT i d ts).length = ts.length := List.length_mergeSort _
theorem by_mem {i d : Nat} {ts : List Th} {t : Th} : t ∈ byT i d ts ↔ t ∈ ts := List.mem_mergeSort
def nmsT (ts : List Th) : List Int := ts.map fun t => t.1
def C__law_by : PSpec := fun ds Q => ∃ (x : D) (ts : List Th) (i d : Nat), ds = [x, .int i] ∧ rows x ts ∧ ts.length ≤ 300 ∧ (∀ t ∈ ts, t.2.1.length = d) ∧ i < d ∧ d ≤ 4 ∧ Q (.lst true ((byT i d ts).map thD)) []
def C_things_by : PSpec := C__law_by
def C_key_by : PSpec := fun ds Q => ∃ (t : Th) (i d : Nat), ds = [thD t, .int i] ∧ t.2.1.length = d ∧ i < d ∧ d ≤ 4 ∧ Q (.tup ((rot i d t ++ [t.1]).map .int)) []
def C_names_of : PSpec := fun ds Q => ∃ (zs : List Th), ds = [.lst false (zs.map thD)] ∧ zs.length ≤ 300 ∧ Q (plc (nmsT zs)) []
def C__law_names : PSpec := C_names_of
/-- layers -/
inductive LT where
  | nil
  | mk (nms : List Int) (lo hi inn : LT)
def ltD : LT → D
  | .nil => .non
  | .mk nms lo hi inn => .tup [plc nms, ltD lo, ltD hi, ltD inn]
/-- a tuple of ints -/
def asIs : D → Option (List Int)
  | .tup xs => asInts' xs
  | _ => none
where asInts' : List D → Option (List Int)
  | [] => some []
  | .int i :: r => (asInts' r).map (i :: ·)
  | _ :: _ => none
/-- the tuples in it aren't long -/
inductive SmD : D → Prop
  | tup {xs : List D} : xs.length ≤ 1000 → (∀ x ∈ xs, SmD x) → SmD (.tup xs)
  | oth {x : D} : (∀ xs, x ≠ .tup xs) → x.frz = x → SmD x
theorem SmD.frz {x : D} (h : SmD x) : x.frz = x := by
  cases h with
  | tup _ _ => rfl
  | oth _ h => exact h
/-- how many names the lower layer tells -/
def lowN : D → Nat
  | .tup [.tup ns, _, _, _] => ns.length
  | _ => 0
/-- the halves, and an inner layer -/
def layT (d : Nat) (ts : List Th) (i : Nat) : LT :=
  .mk (nmsT (byT i d ts))
    (if h : 1 < ts.length then layT d ((byT i d ts).take ((ts.length + 1) / 2)) i else .nil)
    (if h : 1 < ts.length then layT d ((byT i d ts).drop ((ts.length + 1) / 2)) i else .nil)
    (if h : i + 1 < d then layT d (byT i d ts) (i + 1) else .nil)
termination_by ts.length + (d - i)
decreasing_by
  · rw [List.length_take, by_len]; omega
  · rw [List.length_drop, by_len]; omega
  · rw [by_len]; omega
/-- is it a layer of these things? -/
def isL (d : Nat) (ts : List Th) (i : Nat) (x : D) : Bool :=
  match x with
  | .tup [nm, lo, hi, inn] =>
    (asIs nm == some (nmsT (byT i d ts))) && (if ts.length = 1 then D.isNon lo && D.isNon hi else true) &&
    (if 1 < ts.length then (if h : 0 < lowN lo ∧ lowN lo < ts.length then isL d ((byT i d ts).take (lowN lo)) i lo && isL d ((byT i d ts).drop (lowN lo)) i hi else false) else true) &&
    (if h : i + 1 < d then isL d (byT i d ts) (i + 1) inn else D.isNon inn)
  | _ => false
termination_by ts.length + (d - i)
decreasing_by
  · rw [List.length_take, by_len]; omega
  · rw [List.length_drop, by_len]; omega
  · rw [by_len]; omega
/-- things of one kind -/
def okT (d : Nat) (ts : List Th) : Prop := ts ≠ [] ∧ ts.length ≤ 200 ∧ ∀ t ∈ ts, t.2.1.length = d
def C__law_layer (n : Nat) : PSpec := fun ds Q => ∃ (a s : Int) (x : D) (ts : List Th) (i d : Nat) (b : Bool), ds = [hd a s, x, .int i, .int d, .bl b] ∧ rows x ts ∧ okT d ts ∧ i < d ∧ d ≤ 4 ∧ ts.length + (d - i) ≤ n ∧
  ∀ (T : LT) (a' s' : Int), isL d ts i (ltD T) = true → (b = true → T = layT d ts i) → Q (ltD T) [hd a' s']
abbrev lv__law_layer : Nat := 104
theorem zero__law_layer : ∀ ds Q, ¬ C__law_layer 0 ds Q := fun _ _ ⟨_, _, _, ts, i, d, _, _, _, _, hi, _, h, _⟩ => by omega
def C_layer_of (n : Nat) : PSpec := fun ds Q => ∃ (x : D) (ts : List Th) (i d : Nat), ds = [x, .int i, .int d] ∧ rows x ts ∧ okT d ts ∧ i < d ∧ d ≤ 4 ∧ ts.length + (d - i) ≤ n ∧ Q (ltD (layT d ts i)) []
abbrev lv_layer_of : Nat := 104
theorem zero_layer_of : ∀ ds Q, ¬ C_layer_of 0 ds Q := fun _ _ ⟨_, ts, i, d, _, _, _, hi, _, h, _⟩ => by omega
def C_layers : PSpec := fun ds Q => ∃ (d : Nat) (ts : List Th), ds = [houseD d ts] ∧ (∀ t ∈ ts, t.2.1.length = d) ∧ 1 ≤ d ∧ d ≤ 4 ∧ ts.length + d ≤ 104 ∧ Q (if ts = [] then .non else ltD (layT d ts 0)) []
def C_are_names : PSpec := fun ds Q => ∃ (x : D) (l : List Int), ds = [x, plc l] ∧ SmD x ∧ l.length ≤ 300 ∧ Q (.bl (asIs x == some l)) []
def C_is_layer (n : Nat) : PSpec := fun ds Q => ∃ (x : D) (ts : List Th) (i d : Nat) (y : D), ds = [x, y, .int i, .int d] ∧ rows x ts ∧ okT d ts ∧ i < d ∧ d ≤ 4 ∧ SmD y ∧ 2 * (ts.length + (d - i)) ≤ n ∧ Q (.bl (isL d ts i y)) []
abbrev lv_is_layer : Nat := 208
theorem zero_is_layer : ∀ ds Q, ¬ C_is_layer 0 ds Q := fun _ _ ⟨_, ts, i, d, _, _, _, _, hi, _, _, h, _⟩ => by omega
def C_is_parted (n : Nat) : PSpec := fun ds Q => ∃ (zs : List Th) (lo hi : D) (i d : Nat), ds = [.lst false (zs.map thD), lo, hi, .int i, .int d] ∧ okT d zs ∧ i < d ∧ d ≤ 4 ∧ SmD lo ∧ SmD hi ∧ 2 * (zs.length + (d - i)) ≤ n + 1 ∧
  Q (.bl (if 0 < lowN lo ∧ lowN lo < zs.length then isL d (zs.take (lowN lo)) i lo && isL d (zs.drop (lowN lo)) i hi else false)) []
abbrev lv_is_parted : Nat := 208
theorem zero_is_parted : ∀ ds Q, ¬ C_is_parted 0 ds Q := fun _ _ ⟨zs, _, _, i, d, _, h0, hi, _, _, _, h, _⟩ => by omega
def C_is_layers : PSpec := fun ds Q => ∃ (d : Nat) (ts : List Th) (y : D), ds = [houseD d ts, y] ∧ (∀ t ∈ ts, t.2.1.length = d) ∧ 1 ≤ d ∧ d ≤ 4 ∧ ts.length + d ≤ 104 ∧ SmD y ∧ Q (.bl (if ts = [] then D.isNon y else isL d ts 0 y)) []
def w_key_by : DS :=
  (dSeq (dAsgG (gT (gsCons (gN 2) (gsCons (gN 3) (gsCons (gN 4) gsNil))) 3) (dVar 0))
    (dRet (dBin gAdd (oVal (dBin gAdd (oVal (dSl (oVar 3) (pInt (dVar 1)) pNo)) (oVal (dSl (oVar 3) pNo (pInt (dVar 1)))))) (oVal (dTup (aCons (oVar 2) aNil))))))
abbrev B_key_by : PSpec := bodyW [] 5 2 w_key_by
def w_things_by : DS :=
  (dRet (dComp (iOf (dCB gSorted (aCons (oVal (dComp (iOf (dVar 0)) [3] (gN 3) tAll (dTup (aCons (oVal (dCall C_key_by (aCons (oVar 3) (aCons (oVar 1) aNil)))) (aCons (oVar 3) aNil))))) aNil))) [2, 3] (gT (gsCons (gN 2) (gsCons (gN 3) gsNil)) 2) tAll (dVar 3)))
abbrev B_things_by : PSpec := bodyW [] 4 2 w_things_by
def w_names_of : DS :=
  (dRet (dCB gTuple (aCons (oVal (dComp (iOf (dVar 0)) [1] (gN 1) tAll (dBin gIx (oVar 1) (oVal (dC (.int 0)))))) aNil)))
abbrev B_names_of : PSpec := bodyW [] 2 1 w_names_of
def w_layer_of (n : Nat) : DS :=
  (dSeq (dAsg 3 (dCall C_things_by (aCons (oVar 0) (aCons (oVar 1) aNil))))
    (dSeq (dAsgG (gT (gsCons (gN 4) (gsCons (gN 5) (gsCons (gN 6) gsNil))) 3) (dTup (aCons (oVal (dC .non)) (aCons (oVal (dC .non)) (aCons (oVal (dC .non)) aNil)))))
    (dSeq (dIfS (tVal (dBin gGt (oVal (dCB gLen (aCons (oVar 3) aNil))) (oVal (dC (.int 1)))))
    (dSeq (dAsg 7 (dBin gDiv (oVal (dBin gAdd (oVal (dCB gLen (aCons (oVar 3) aNil))) (oVal (dC (.int 1))))) (oVal (dC (.int 2)))))
    (dSeq (dAsg 4 (dCall (C_layer_of n) (aCons (oVal (dSl (oVar 3) pNo (pInt (dVar 7)))) (aCons (oVar 1) (aCons (oVar 2) aNil)))))
    (dAsg 5 (dCall (C_layer_of n) (aCons (oVal (dSl (oVar 3) (pInt (dVar 7)) pNo)) (aCons (oVar 1) (aCons (oVar 2) aNil)))))))
    dNext)
    (dSeq (dIfS (tVal (dBin gLt (oVal (dBin gAdd (oVar 1) (oVal (dC (.int 1))))) (oVar 2)))
    (dAsg 6 (dCall (C_layer_of n) (aCons (oVar 3) (aCons (oVal (dBin gAdd (oVar 1) (oVal (dC (.int 1))))) (aCons (oVar 2) aNil)))))
    dNext)
    (dRet (dTup (aCons (oVal (dCall C_names_of (aCons (oVar 3) aNil))) (aCons (oVar 4) (aCons (oVar 5) (aCons (oVar 6) aNil))))))))))
abbrev B_layer_of (n : Nat) : PSpec := bodyW [] 8 3 (w_layer_of n)
def w_layers : DS :=
  (dSeq (dAsgG (gT (gsCons (gN 1) (gsCons (gN 2) gsNil)) 2) (dVar 0))
    (dSeq (dIfS (tVal (dBin gEq (oVal (dCB gLen (aCons (oVar 2) aNil))) (oVal (dC (.int 0)))))
    (dRet (dC .non))
    dNext)
    (dRet (dCall (C_layer_of lv_layer_of) (aCons (oVar 2) (aCons (oVal (dC (.int 0))) (aCons (oVar 1) aNil)))))))
abbrev B_layers : PSpec := bodyW [] 3 1 w_layers
def w_are_names : DS :=
  (dSeq (dIfS (tOr (tNot (tVal (dIsi "tuple" (oVar 0)))) (tVal (dCB gAny (aCons (oVal (dComp (iOf (dVar 0)) [2] (gN 2) tAll (dOr (dIsi "bool" (oVar 2)) (dNot (dIsi "int" (oVar 2)))))) aNil))))
    (dRet (dC (.bl false)))
    dNext)
    (dRet (dBin gEq (oVar 0) (oVar 1))))
abbrev B_are_names : PSpec := bodyW [] 3 2 w_are_names
def w_is_layer (n : Nat) : DS :=
  (dSeq (dIfS (tOr (tNot (tVal (dIsi "tuple" (oVar 1)))) (tVal (dBin gNe (oVal (dCB gLen (aCons (oVar 1) aNil))) (oVal (dC (.int 4))))))
    (dRet (dC (.bl false)))
    dNext)
    (dSeq (dAsg 4 (dCall C_things_by (aCons (oVar 0) (aCons (oVar 2) aNil))))
    (dSeq (dAsgG (gT (gsCons (gN 5) (gsCons (gN 6) (gsCons (gN 7) (gsCons (gN 8) gsNil)))) 4) (dVar 1))
    (dSeq (dIfS (tNot (tVal (dCall C_are_names (aCons (oVar 5) (aCons (oVal (dCall C_names_of (aCons (oVar 4) aNil))) aNil)))))
    (dRet (dC (.bl false)))
    dNext)
    (dSeq (dIfS (tAnd (tVal (dBin gEq (oVal (dCB gLen (aCons (oVar 4) aNil))) (oVal (dC (.int 1))))) (tOr (tVal (dBin gNotN (oVar 6) (oVal (dC .non)))) (tVal (dBin gNotN (oVar 7) (oVal (dC .non))))))
    (dRet (dC (.bl false)))
    dNext)
    (dSeq (dIfS (tAnd (tVal (dBin gGt (oVal (dCB gLen (aCons (oVar 4) aNil))) (oVal (dC (.int 1))))) (tNot (tVal (dCall (C_is_parted n) (aCons (oVar 4) (aCons (oVar 6) (aCons (oVar 7) (aCons (oVar 2) (aCons (oVar 3) aNil)))))))))
    (dRet (dC (.bl false)))
    dNext)
    (dSeq (dIfS (tVal (dBin gLt (oVal (dBin gAdd (oVar 2) (oVal (dC (.int 1))))) (oVar 3)))
    (dRet (dCall (C_is_layer n) (aCons (oVar 4) (aCons (oVar 8) (aCons (oVal (dBin gAdd (oVar 2) (oVal (dC (.int 1))))) (aCons (oVar 3) aNil))))))
    dNext)
    (dRet (dBin gIsN (oVar 8) (oVal (dC .non)))))))))))
abbrev B_is_layer (n : Nat) : PSpec := bodyW [] 9 4 (w_is_layer n)
def w_is_parted (n : Nat) : DS :=
  (dSeq (dIfS (tOr (tNot (tVal (dIsi "tuple" (oVar 1)))) (tOr (tVal (dBin gNe (oVal (dCB gLen (aCons (oVar 1) aNil))) (oVal (dC (.int 4))))) (tNot (tVal (dIsi "tuple" (oVal (dBin gIx (oVar 1) (oVal (dC (.int 0))))))))))
    (dRet (dC (.bl false)))
    dNext)
    (dSeq (dAsg 5 (dCB gLen (aCons (oVal (dBin gIx (oVar 1) (oVal (dC (.int 0))))) aNil)))
    (dSeq (dIfS (tNot (tVal (dChain gLt gLt (oVal (dC (.int 0))) (oVar 5) (oVal (dCB gLen (aCons (oVar 0) aNil))))))
    (dRet (dC (.bl false)))
    dNext)
    (dRet (dAnd (dCall (C_is_layer n) (aCons (oVal (dSl (oVar 0) pNo (pInt (dVar 5)))) (aCons (oVar 1) (aCons (oVar 3) (aCons (oVar 4) aNil))))) (dCall (C_is_layer n) (aCons (oVal (dSl (oVar 0) (pInt (dVar 5)) pNo)) (aCons (oVar 2) (aCons (oVar 3) (aCons (oVar 4) aNil))))))))))
abbrev B_is_parted (n : Nat) : PSpec := bodyW [] 6 5 (w_is_parted n)
def w_is_layers : DS :=
  (dSeq (dAsgG (gT (gsCons (gN 2) (gsCons (gN 3) gsNil)) 2) (dVar 0))
    (dSeq (dIfS (tVal (dBin gEq (oVal (dCB gLen (aCons (oVar 3) aNil))) (oVal (dC (.int 0)))))
    (dRet (dBin gIsN (oVar 1) (oVal (dC .non))))
    dNext)
    (dRet (dCall (C_is_layer lv_is_layer) (aCons (oVar 3) (aCons (oVar 1) (aCons (oVal (dC (.int 0))) (aCons (oVar 2) aNil))))))))
abbrev B_is_layers : PSpec := bodyW [] 4 2 w_is_layers
def w__law_cell_at : DS :=
  (dSeq (dIfS (tVal (dBin gLt (oVar 1) (oVal (dCB gLen (aCons (oVar 0) aNil)))))
    (dRet (dBin gIx (oVar 0) (oVar 1)))
    dNext)
    (dRet (dC (.int 0))))
abbrev B__law_cell_at : PSpec := bodyW [] 2 2 w__law_cell_at
def w__law_left : DS :=
  (dSeq (dAsg 2 (dCall C__law_cell_at (aCons (oVar 0) (aCons (oVal (dBin gMod (oVar 1) (oVal (dCB gMax (aCons (oVal (dC (.int 1))) (aCons (oVal (dCB gLen (aCons (oVar 0) aNil))) aNil)))))) aNil))))
    (dSeq (dAsg 3 (dBin gMod (oVal (dBin gMul2 (oVal (dBin gAdd (oVal (dBin gAdd (oVal (dBin gMod (oVar 2) (oVal (dC (.int 2147483629))))) (oVal (dBin gMul2 (oVal (dBin gMul2 (oVal (dC (.int 7919))) (oVar 1))) (oVar 1))))) (oVal (dC (.int 11))))) (oVal (dC (.int 48271))))) (oVal (dC (.int 2147483647)))))
    (dRet (dLst (aCons (oVal (dBin gMod (oVal (dBin gMul2 (oVar 2) (oVal (dCB gInt (aCons (oVal (dBin gGe (oVar 2) (oVal (dBin gPow (oVal (dC (.int 10))) (oVal (dC (.int 18))))))) aNil))))) (oVal (dCB gInt (aCons (oVal (dBin gAdd (oVal (dC (.str "1"))) (oVal (dBin gMul2 (oVal (dC (.str "0"))) (oVal (dC (.int 4000))))))) aNil))))) (aCons (oVar 3) aNil))))))
abbrev B__law_left : PSpec := bodyW [] 4 2 w__law_left
def w__law_pick : DS :=
  (dSeq (dIfS (tVal (dBin gGt (oVal (dBin gIx (oVar 0) (oVal (dC (.int 0))))) (oVal (dC (.int 0)))))
    (dSeq (dAsg 2 (dBin gMod (oVal (dBin gIx (oVar 0) (oVal (dC (.int 0))))) (oVar 1)))
    (dSeq (dSub 0 (dBin gDiv (oVal (dBin gIx (oVar 0) (oVal (dC (.int 0))))) (oVar 1)) (oVal (dC (.int 0))))
    (dRetV 2)))
    dNext)
    (dSeq (dSub 0 (dBin gMod (oVal (dBin gAdd (oVal (dBin gMul2 (oVal (dBin gIx (oVar 0) (oVal (dC (.int 1))))) (oVal (dC (.int 48271))))) (oVal (dC (.int 12345))))) (oVal (dC (.int 2147483647)))) (oVal (dC (.int 1))))
    (dRet (dBin gMod (oVal (dBin gMod (oVal (dBin gMul2 (oVal (dBin gIx (oVar 0) (oVal (dC (.int 1))))) (oVal (dBin gIx (oVar 0) (oVal (dC (.int 1))))))) (oVal (dC (.int 1999999973))))) (oVar 1)))))
abbrev B__law_pick : PSpec := bodyW [0] 3 2 w__law_pick
def w__law_pool : DS :=
  (dSeq (dAsg 1 (dBin gIx (oVal (dLst (aCons (oVal (dC (.int 0))) (aCons (oVal (dUn gNeg (oVal (dC (.int 3))))) (aCons (oVal (dBin gPow (oVal (dC (.int 10))) (oVal (dC (.int 16))))) (aCons (oVal (dUn gNeg (oVal (dBin gPow (oVal (dC (.int 10))) (oVal (dC (.int 16))))))) (aCons (oVal (dC (.int 7))) aNil))))))) (oVal (dCallIO 0 0 C__law_pick (aCons (oVar 0) (aCons (oVal (dC (.int 5))) aNil))))))
    (dSeq (dAsg 2 (dBin gIx (oVal (dLst (aCons (oVal (dC (.int 1))) (aCons (oVal (dC (.int 1))) (aCons (oVal (dC (.int 2))) (aCons (oVal (dC (.int 3))) (aCons (oVal (dC (.int 1000))) (aCons (oVal (dBin gPow (oVal (dC (.int 10))) (oVal (dC (.int 15))))) aNil)))))))) (oVal (dCallIO 0 0 C__law_pick (aCons (oVar 0) (aCons (oVal (dC (.int 6))) aNil))))))
    (dRet (dComp (iR gR1 (aCons (oVal (dBin gIx (oVal (dLst (aCons (oVal (dC (.int 1))) (aCons (oVal (dC (.int 2))) (aCons (oVal (dC (.int 3))) (aCons (oVal (dC (.int 5))) (aCons (oVal (dC (.int 8))) (aCons (oVal (dC (.int 8))) aNil)))))))) (oVal (dCallIO 0 0 C__law_pick (aCons (oVar 0) (aCons (oVal (dC (.int 6))) aNil)))))) aNil)) [3] (gN 3) tAll (dBin gAdd (oVar 1) (oVal (dBin gMul2 (oVar 2) (oVar 3))))))))
abbrev B__law_pool : PSpec := bodyW [0] 4 1 w__law_pool
def w__law_number : DS :=
  (dRet (dBin gIx (oVar 1) (oVal (dCallIO 0 0 C__law_pick (aCons (oVar 0) (aCons (oVal (dCB gLen (aCons (oVar 1) aNil))) aNil))))))
abbrev B__law_number : PSpec := bodyW [0] 2 2 w__law_number
def w__law_things : DS :=
  (dSeq (dAsg 4 (dLst aNil))
    (dSeq (dAsg 5 (dUn gNeg (oVal (dC (.int 1)))))
    (dSeq (dFor (iR gR1 (aCons (oVar 2) aNil)) (gN 6)
    (dSeq (dAsg 5 (dBin gAdd (oVal (dBin gAdd (oVar 5) (oVal (dC (.int 1))))) (oVal (dBin gIx (oVal (dLst (aCons (oVal (dC (.int 0))) (aCons (oVal (dC (.int 0))) (aCons (oVal (dC (.int 1))) (aCons (oVal (dC (.int 5))) aNil)))))) (oVal (dCallIO 0 0 C__law_pick (aCons (oVar 0) (aCons (oVal (dC (.int 4))) aNil))))))))
    (dSeq (dAsg 7 (dCB gTuple (aCons (oVal (dComp (iR gR1 (aCons (oVar 1) aNil)) [9] (gN 9) tAll (dCallIO 0 0 C__law_number (aCons (oVar 0) (aCons (oVar 3) aNil))))) aNil)))
    (dSeq (dIfS (tAnd (tVal (dBin gNe (oVar 4) (oVal (dLst aNil)))) (tVal (dBin gEq (oVal (dCallIO 0 0 C__law_pick (aCons (oVar 0) (aCons (oVal (dC (.int 6))) aNil)))) (oVal (dC (.int 0))))))
    (dAsg 7 (dBin gIx (oVal (dBin gIx (oVar 4) (oVal (dCallIO 0 0 C__law_pick (aCons (oVar 0) (aCons (oVal (dCB gLen (aCons (oVar 4) aNil))) aNil)))))) (oVal (dC (.int 1)))))
    dNext)
    (dSeq (dAsg 8 (dBin gIx (oVal (dLst (aCons (oVal (dCallIO 0 0 C__law_pick (aCons (oVar 0) (aCons (oVal (dC (.int 4))) aNil)))) (aCons (oVal (dBin gSub (oVal (dUn gNeg (oVal (dC (.int 1))))) (oVal (dCallIO 0 0 C__law_pick (aCons (oVar 0) (aCons (oVal (dC (.int 9))) aNil)))))) (aCons (oVal (dBin gAdd (oVal (dBin gPow (oVal (dC (.int 10))) (oVal (dC (.int 16))))) (oVal (dCallIO 0 0 C__law_pick (aCons (oVar 0) (aCons (oVal (dC (.int 3))) aNil)))))) (aCons (oVal (dC (.int 0))) aNil)))))) (oVal (dCallIO 0 0 C__law_pick (aCons (oVar 0) (aCons (oVal (dC (.int 4))) aNil))))))
    (dExp (dApp 4 (dTup (aCons (oVar 5) (aCons (oVar 7) (aCons (oVar 8) aNil)))))))))))
    (dRet (dCB gTuple (aCons (oVar 4) aNil))))))
abbrev B__law_things : PSpec := bodyW [0] 10 4 w__law_things
def w__law_small : DS :=
  (dSeq (dAsg 3 (dBin gAdd (oVal (dC (.int 1))) (oVal (dCallIO 0 0 C__law_pick (aCons (oVar 0) (aCons (oVal (dC (.int 4))) aNil))))))
    (dSeq (dAsg 4 (dBin gIx (oVal (dLst (aCons (oVal (dC (.int 0))) (aCons (oVal (dC (.int 1))) (aCons (oVal (dC (.int 2))) (aCons (oVal (dC (.int 3))) (aCons (oVal (dC (.int 5))) (aCons (oVal (dC (.int 8))) (aCons (oVal (dC (.int 6))) (aCons (oVar 2) aNil)))))))))) (oVal (dCallIO 0 0 C__law_pick (aCons (oVar 0) (aCons (oVal (dC (.int 8))) aNil))))))
    (dRet (dTup (aCons (oVar 3) (aCons (oVal (dCallIO 0 0 C__law_things (aCons (oVar 0) (aCons (oVar 3) (aCons (oVal (dCB gMin (aCons (oVar 4) (aCons (oVal (dBin gIx (oVal (dLst (aCons (oVar 2) (aCons (oVar 2) (aCons (oVar 2) (aCons (oVal (dC (.int 9))) aNil)))))) (oVal (dBin gSub (oVar 3) (oVal (dC (.int 1))))))) aNil)))) (aCons (oVar 1) aNil)))))) aNil))))))
abbrev B__law_small : PSpec := bodyW [0] 5 3 w__law_small
def w__law_by : DS :=
  (dSeq (dAsg 2 (dLst aNil))
    (dSeq (dFor (iOf (dVar 0)) (gN 3)
    (dSeq (dAsg 4 (dBin gIx (oVar 3) (oVal (dC (.int 1)))))
    (dExp (dApp 2 (dTup (aCons (oVal (dCB gTuple (aCons (oVal (dComp (iR gR1 (aCons (oVal (dCB gLen (aCons (oVar 4) aNil))) aNil)) [5] (gN 5) tAll (dBin gIx (oVar 4) (oVal (dBin gMod (oVal (dBin gAdd (oVar 1) (oVar 5))) (oVal (dCB gLen (aCons (oVar 4) aNil)))))))) aNil))) (aCons (oVal (dBin gIx (oVar 3) (oVal (dC (.int 0))))) (aCons (oVar 3) aNil))))))))
    (dRet (dComp (iOf (dCB gSorted (aCons (oVar 2) aNil))) [6] (gN 6) tAll (dBin gIx (oVar 6) (oVal (dC (.int 2))))))))
abbrev B__law_by : PSpec := bodyW [] 7 2 w__law_by
def w__law_names : DS :=
  (dRet (dCB gTuple (aCons (oVal (dComp (iOf (dVar 0)) [1] (gN 1) tAll (dBin gIx (oVar 1) (oVal (dC (.int 0)))))) aNil)))
abbrev B__law_names : PSpec := bodyW [] 2 1 w__law_names
def w__law_layer (n : Nat) : DS :=
  (dSeq (dAsg 5 (dCall C__law_by (aCons (oVar 1) (aCons (oVar 2) aNil))))
    (dSeq (dAsgG (gT (gsCons (gN 6) (gsCons (gN 7) (gsCons (gN 8) gsNil))) 3) (dTup (aCons (oVal (dC .non)) (aCons (oVal (dC .non)) (aCons (oVal (dC .non)) aNil)))))
    (dSeq (dIfS (tVal (dBin gGt (oVal (dCB gLen (aCons (oVar 5) aNil))) (oVal (dC (.int 1)))))
    (dSeq (dAsg 9 (dBin gDiv (oVal (dBin gAdd (oVal (dCB gLen (aCons (oVar 5) aNil))) (oVal (dC (.int 1))))) (oVal (dC (.int 2)))))
    (dSeq (dIfS (tNot (tVal (dVar 4)))
    (dAsg 9 (dBin gAdd (oVal (dC (.int 1))) (oVal (dCallIO 0 0 C__law_pick (aCons (oVar 0) (aCons (oVal (dBin gSub (oVal (dCB gLen (aCons (oVar 5) aNil))) (oVal (dC (.int 1))))) aNil))))))
    dNext)
    (dSeq (dAsg 6 (dCallIO 0 0 (C__law_layer n) (aCons (oVar 0) (aCons (oVal (dSl (oVar 5) pNo (pInt (dVar 9)))) (aCons (oVar 2) (aCons (oVar 3) (aCons (oVar 4) aNil)))))))
    (dAsg 7 (dCallIO 0 0 (C__law_layer n) (aCons (oVar 0) (aCons (oVal (dSl (oVar 5) (pInt (dVar 9)) pNo)) (aCons (oVar 2) (aCons (oVar 3) (aCons (oVar 4) aNil))))))))))
    dNext)
    (dSeq (dIfS (tVal (dBin gLt (oVal (dBin gAdd (oVar 2) (oVal (dC (.int 1))))) (oVar 3)))
    (dAsg 8 (dCallIO 0 0 (C__law_layer n) (aCons (oVar 0) (aCons (oVar 5) (aCons (oVal (dBin gAdd (oVar 2) (oVal (dC (.int 1))))) (aCons (oVar 3) (aCons (oVar 4) aNil)))))))
    dNext)
    (dRet (dTup (aCons (oVal (dCall C__law_names (aCons (oVar 5) aNil))) (aCons (oVar 6) (aCons (oVar 7) (aCons (oVar 8) aNil))))))))))
abbrev B__law_layer (n : Nat) : PSpec := bodyW [0] 10 5 (w__law_layer n)
theorem imp__law_cell_at : ∀ ds Q, C__law_cell_at ds Q → B__law_cell_at ds Q := imp_cell
theorem imp__law_left : ∀ ds Q, C__law_left ds Q → B__law_left ds Q := imp_left
theorem imp__law_pick : ∀ ds Q, C__law_pick ds Q → B__law_pick ds Q := imp_pick
theorem imp__law_pool : ∀ ds Q, C__law_pool ds Q → B__law_pool ds Q := by
  rintro ds Q ⟨a, s, rfl, q⟩
  refine ⟨rfl, ?_⟩
  have sl := sizeLine_eq
  refine seq_cut (fun ρ => ∃ (a s x : Int), -(10 ^ 16) ≤ x ∧ x ≤ 10 ^ 16 ∧ ρ = [some (hd a s), some (.int x), none, none]) (fun R hR => ?_) ?_
  · simp only [hd, Bx.go]
    refine ⟨⟨by decide, by decide, by decide⟩, ⟨by decide, by decide, by decide⟩, a, s, 5, rfl, by decide, by decide, fun r a s h0 h1 => ?_⟩
    obtain ⟨v, ev, hv⟩ := atI_of (ns := [0, -3, 10 ^ Int.toNat 16, -10 ^ Int.toNat 16, 7]) (fun v => -(10 ^ 16) ≤ v ∧ v ≤ 10 ^ 16) (by decide +kernel) h0 (by simpa using h1)
    simp only [List.map] at ev
    simp only [ev, Bx.go]
    exact hR _ ⟨a, s, v, hv.1, hv.2, rfl⟩
  rintro _ ⟨a, s, x, x0, x1, rfl⟩
  refine seq_cut (fun ρ => ∃ (a s y : Int), 0 ≤ y ∧ y ≤ 10 ^ 15 ∧ ρ = [some (hd a s), some (.int x), some (.int y), none]) (fun R hR => ?_) ?_
  · simp only [hd, Bx.go]
    refine ⟨⟨by decide, by decide, by decide⟩, a, s, 6, rfl, by decide, by decide, fun r a s h0 h1 => ?_⟩
    obtain ⟨v, ev, hv⟩ := atI_of (ns := [1, 1, 2, 3, 1000, 10 ^ Int.toNat 15]) (fun v => 0 ≤ v ∧ v ≤ 10 ^ 15) (by decide +kernel) h0 (by simpa using h1)
    simp only [List.map] at ev
    simp only [ev, Bx.go]
    exact hR _ ⟨a, s, v, hv.1, hv.2, rfl⟩
  rintro _ ⟨a, s, y, y0, y1, rfl⟩
  simp only [hd, Bx.go]
  refine ⟨a, s, 6, rfl, by decide, by decide, fun r a s h0 h1 => ?_⟩
  obtain ⟨m, em, hm⟩ := atI_of (ns := [1, 2, 3, 5, 8, 8]) (fun v => 1 ≤ v ∧ v ≤ 8) (by decide) h0 (by simpa using h1)
  simp only [List.map] at em
  simp only [em, Bx.go]
  refine ⟨i62_of (by omega) (by omega), by rw [rangeD_len]; omega, ?_⟩
  rw [rangeD_nat]
  refine co_map (List.range m.toNat) _ (fun k : Nat => .int (x + y * k)) (fun k hk acc N hN => ?_) ?_
  · have := List.mem_range.mp hk
    simp only [Bx.go]
    exact ⟨.inr (.inl ⟨by omega, by omega⟩), hN⟩
  · simp only [backR, Bx.go]
    have := q ((List.range m.toNat).map fun k : Nat => x + y * (k : Int)) a s (by
      intro e
      have := congrArg List.length e
      simp at this
      omega) (by simp; omega) (fun z hz => by
      obtain ⟨k, hk, rfl⟩ := List.mem_map.mp hz
      have hk := List.mem_range.mp hk
      have h1 : y * (k : Int) ≤ 10 ^ 15 * 8 := Int.le_trans (Int.mul_le_mul_of_nonneg_right y1 (by omega)) (Int.mul_le_mul_of_nonneg_left (by omega) (by decide))
      have h2 : 0 ≤ y * (k : Int) := Int.mul_nonneg y0 (by omega)
      constructor <;> omega)
    rw [List.map_map] at this
    exact this
theorem imp__law_number : ∀ ds Q, C__law_number ds Q → B__law_number ds Q := by
  rintro ds Q ⟨a, s, l, rfl, l0, l8, q⟩
  refine ⟨rfl, ?_⟩
  have y0 : 0 < l.length := List.length_pos_iff.mpr l0
  simp only [w__law_number, hd, poolD, Bx.go]
  refine ⟨a, s, l.length, rfl, by omega, by omega, fun r a s h0 h1 => ?_⟩
  obtain ⟨v, ev, hv⟩ := atI_of (ns := l) (fun v => v ∈ l) (fun _ h => h) h0 h1
  simp only [ev, Bx.go]
  exact q v a s hv
theorem imp_names_of : ∀ ds Q, C_names_of ds Q → B_names_of ds Q := by
  rintro ds Q ⟨zs, rfl, zl, q⟩
  refine ⟨rfl, ?_⟩
  have sl := sizeLine_eq
  simp only [w_names_of, Bx.go]
  refine ⟨by omega, co_map zs thD (fun t => .int t.1) (fun t ht acc N hN => ?_) ?_⟩
  · simp only [thD, q0, Bx.go]
    exact hN
  · simp only [backR, Bx.go]
    unfold plc nmsT at q
    rw [List.map_map] at q
    exact q
theorem imp__law_names : ∀ ds Q, C__law_names ds Q → B__law_names ds Q := imp_names_of
theorem HouseS.snoc {d : Nat} {ts : List Th} {t : Th} (h : HouseS d ts) (l : ts.length < 300) (n : t.2.1.length = d) (z : 0 ≤ t.1) (r : ∀ s ∈ ts, s.1 < t.1) (b : t.1 ≤ 2000) (m : (∀ x ∈ t.2.1, smI x) ∧ smI t.2.2) : HouseS d (ts ++ [t]) :=
  ⟨h.hs.snoc l n z r, fun s hs => by
    rcases List.mem_append.mp hs with hs | hs
    · exact h.nm s hs
    · simp at hs; subst hs; exact b, fun s hs => by
    rcases List.mem_append.mp hs with hs | hs
    · exact h.sm s hs
    · simp at hs; subst hs; exact m⟩
theorem imp__law_things : ∀ ds Q, C__law_things ds Q → B__law_things ds Q := by
  rintro ds Q ⟨a, s, l, d, m, rfl, l0, l8, lS, hd4, hm, q⟩
  refine ⟨rfl, ?_⟩
  have sl := sizeLine_eq
  have fz : (poolD l).frz = poolD l := rfl
  simp only [w__law_things, Bx.go]
  refine ⟨i62_of (by omega) (by omega), ?_⟩
  rw [rangeD_nat]
  refine for_each (List.range (Int.toNat m)) _ (fun dn ρ => ∃ (a s : Int) (ts : List Th) (nm : Int) (x6 x7 x8 x9 : Option D), ts.length = dn.length ∧ HouseS d ts ∧ -1 ≤ nm ∧ nm ≤ 6 * dn.length ∧ (∀ t ∈ ts, t.1 ≤ nm) ∧ ρ = [some (hd a s), some (.int d), some (.int m), some (poolD l), some (.lst true (ts.map thD)), some (.int nm), x6, x7, x8, x9])
    ⟨a, s, [], -1, _, _, _, _, rfl, ⟨⟨by simp, fun _ h => absurd h List.not_mem_nil, fun _ h => absurd h List.not_mem_nil, .nil⟩, fun _ h => absurd h List.not_mem_nil, fun _ h => absurd h List.not_mem_nil⟩, by omega, by simp, fun _ h => absurd h List.not_mem_nil, rfl⟩ ?_ ?_
  · rintro dn x r ρ N e ⟨a, s, ts, nm, x6, x7, x8, x9, tl, ht, nm0, nm1, hr, rfl⟩ hN
    have e := congrArg List.length e
    simp at e
    simp only [u1_gT, u2_gT, u1_gsCons, u2_gsCons, u1_gsNil, u2_gsNil, u1_kGs, u1_gN, u1_kForB, rset_s, rset_0, rget_s, rget_0, D.seq, D.sql, u_onSome_some, frz_tup, frz_int, frz_bl, frz_lst, frz_str, frz_non, frz_scr, List.length_cons, List.length_nil, List.map_cons, List.map_nil, Option.bind_some, true_and, and_true]
    refine seq_cut (fun ρ => ∃ (a s nm' : Int), nm < nm' ∧ nm' ≤ nm + 6 ∧ ρ = [some (hd a s), some (.int d), some (.int m), some (poolD l), some (.lst true (ts.map thD)), some (.int nm'), some (.int (x : Nat)), x7, x8, x9]) (fun R hR => ?_) ?_
    · simp only [hd, Bx.go]
      refine ⟨a, s, 4, rfl, by decide, by decide, fun r a s h0 h1 => ?_⟩
      obtain ⟨v, ev, hv⟩ := atI_of (ns := [0, 0, 1, 5]) (fun v => 0 ≤ v ∧ v ≤ 5) (by decide) h0 (by simpa using h1)
      simp only [List.map] at ev
      simp only [ev, Bx.go]
      exact hR _ ⟨a, s, nm + 1 + v, by omega, by omega, rfl⟩
    rintro _ ⟨a, s, nm', hnm, hnm6, rfl⟩
    refine seq_cut (fun ρ => ∃ (a s : Int) (p : List Int) (x9 : Option D), p.length = d ∧ (∀ x ∈ p, smI x) ∧ ρ = [some (hd a s), some (.int d), some (.int m), some (poolD l), some (.lst true (ts.map thD)), some (.int nm'), some (.int (x : Nat)), some (.tup (p.map .int)), x8, x9]) (fun R hR => ?_) ?_
    · simp only [Bx.go]
      refine ⟨i62_of (by omega) (by omega), by rw [rangeD_len]; omega, ?_⟩
      rw [rangeD_nat]
      refine co_each (List.range (Int.toNat d)) _ (fun dm acc ρ => ∃ (a s : Int) (p : List Int), acc = p.map .int ∧ p.length = dm.length ∧ (∀ x ∈ p, smI x) ∧ ρ = [some (hd a s), some (.int d), some (.int m), some (poolD l), some (.lst true (ts.map thD)), some (.int nm'), some (.int (x : Nat)), x7, x8, none]) ⟨a, s, [], rfl, rfl, fun _ h => absurd h List.not_mem_nil, rfl⟩ ?_ ?_
      · rintro dm y r acc ρ N e2 ⟨a, s, p, rfl, pl', pS, rfl⟩ hN
        simp only [fz, hd, Bx.go]
        refine ⟨a, s, l, rfl, l0, l8, fun v a s hv => ?_⟩
        simp only [Bx.go]
        exact hN _ _ ⟨a, s, p ++ [v], by simp, by simp [pl'], fun x hx => by
          rcases List.mem_append.mp hx with hx | hx
          · exact pS x hx
          · simp at hx; subst hx; exact lS _ hv, rfl⟩
      · rintro acc ρ ⟨a, s, p, rfl, pl', pS, rfl⟩
        simp only [backR, Bx.go]
        simp at pl'
        exact hR _ ⟨a, s, p, _, pl', pS, rfl⟩
    clear x7 x9
    rintro _ ⟨a, s, p, x9, pl', pS, rfl⟩
    refine seq_cut (fun ρ => ∃ (a s : Int) (p : List Int), p.length = d ∧ (∀ x ∈ p, smI x) ∧ ρ = [some (hd a s), some (.int d), some (.int m), some (poolD l), some (.lst true (ts.map thD)), some (.int nm'), some (.int (x : Nat)), some (.tup (p.map .int)), x8, x9]) (fun R hR => ?_) ?_
    · simp only [ne_nil_th, hd, Bx.go]
      refine ⟨eqOk_of (okE_lth true ts) (okE_lth true []) (by decide), ?_⟩
      cases he : ts.isEmpty
      · have t0 : 0 < ts.length := by cases ts <;> simp at he ⊢
        simp only [Bx.go]
        refine ⟨a, s, 6, rfl, by decide, by decide, fun r a s h0 h1 => ?_⟩
        simp only [Bx.go]
        refine ⟨eqOk_int _ _, ?_⟩
        refine pick_by (fun _ => ?_) (fun _ => ?_)
        · simp only [Bx.go]
          refine ⟨a, s, ts.length, rfl, by omega, by omega, fun r a s h0 h1 => ?_⟩
          have hr' : r.toNat < ts.length := by omega
          have er := atI_map (f := thD) (List.getElem?_eq_getElem hr')
          rw [Int.toNat_of_nonneg h0] at er
          have hp := ht.hs.num _ (List.getElem_mem hr')
          have hp2 := (ht.sm _ (List.getElem_mem hr')).1
          simp only [er, thD, q1, Bx.go]
          exact hR _ ⟨a, s, _, hp, hp2, rfl⟩
        · simp only [Bx.go]
          exact hR _ ⟨a, s, p, pl', pS, rfl⟩
      · simp only [Bx.go]
        exact hR _ ⟨a, s, p, pl', pS, rfl⟩
    clear pl' pS p a s
    rintro _ ⟨a, s, p, pl', pS, rfl⟩
    refine seq_cut (fun ρ => ∃ (a s wo : Int), smI wo ∧ ρ = [some (hd a s), some (.int d), some (.int m), some (poolD l), some (.lst true (ts.map thD)), some (.int nm'), some (.int (x : Nat)), some (.tup (p.map .int)), some (.int wo), x9]) (fun R hR => ?_) ?_
    · simp only [hd, Bx.go]
      refine ⟨a, s, 4, rfl, by decide, by decide, fun r1 a s g0 g1 => ?_⟩
      simp only [Bx.go]
      refine ⟨a, s, 9, rfl, by decide, by decide, fun r2 a s k0 k1 => ?_⟩
      simp only [Bx.go]
      refine ⟨⟨by decide, by decide, by decide⟩, a, s, 3, rfl, by decide, by decide, fun r3 a s j0 j1 => ?_⟩
      simp only [Bx.go]
      refine ⟨a, s, 4, rfl, by decide, by decide, fun r4 a s h0 h1 => ?_⟩
      have e16 : (10 : Int) ^ Int.toNat 16 = 10 ^ 16 := rfl
      obtain ⟨v, ev, hv⟩ := atI_of (ns := [r1, -1 - r2, 10 ^ Int.toNat 16 + r3, 0]) smI (fun v hv => by
        simp only [List.mem_cons, List.not_mem_nil, or_false] at hv
        rw [e16] at hv
        unfold smI
        rcases hv with rfl | rfl | rfl | rfl <;> constructor <;> omega) h0 (by simpa using h1)
      simp only [List.map] at ev
      simp only [ev, Bx.go]
      exact hR _ ⟨a, s, v, hv, rfl⟩
    clear a s
    rintro _ ⟨a, s, wo, hwo, rfl⟩
    simp only [Bx.go]
    refine ⟨by omega, hN _ ⟨a, s, ts ++ [(nm', p, wo)], nm', _, _, _, _, by simp [tl], ht.snoc (by omega) pl' (by omega) (fun t h => by have := hr t h; omega) (by simp only; omega) ⟨pS, hwo⟩, by omega, by simp; omega, fun t h => ?_, by rw [List.map_append]; rfl⟩⟩
    rcases List.mem_append.mp h with h | h
    · have := hr t h; omega
    · simp at h; subst h; exact Int.le_refl _
  · rintro ρ ⟨a, s, ts, nm, x6, x7, x8, x9, tl, ht, nm0, nm1, hr, rfl⟩
    simp at tl
    simp only [Bx.go]
    exact q ts a s (by omega) ht
theorem imp__law_small : ∀ ds Q, C__law_small ds Q → B__law_small ds Q := by
  rintro ds Q ⟨a, s, l, mo, rfl, mo9, mo30, l0, l8, lS, q⟩
  refine ⟨rfl, ?_⟩
  have sl := sizeLine_eq
  have fz : (poolD l).frz = poolD l := rfl
  refine seq_cut (fun ρ => ∃ (a s : Int) (d : Nat), 1 ≤ d ∧ d ≤ 4 ∧ ρ = [some (hd a s), some (poolD l), some (.int mo), some (.int d), none]) (fun R hR => ?_) ?_
  · simp only [hd, Bx.go]
    refine ⟨a, s, 4, rfl, by decide, by decide, fun r a s h0 h1 => ?_⟩
    simp only [Bx.go]
    exact hR _ ⟨a, s, 1 + r.toNat, by omega, by omega, by rw [show ((1 + r.toNat : Nat) : Int) = 1 + r by omega]; rfl⟩
  rintro _ ⟨a, s, d, d1, d4, rfl⟩
  refine seq_cut (fun ρ => ∃ (a s : Int) (m : Nat), m ≤ 30 ∧ ρ = [some (hd a s), some (poolD l), some (.int mo), some (.int d), some (.int m)]) (fun R hR => ?_) ?_
  · simp only [hd, Bx.go]
    refine ⟨a, s, 8, rfl, by decide, by decide, fun r a s h0 h1 => ?_⟩
    obtain ⟨v, ev, hv⟩ := atI_of (ns := [0, 1, 2, 3, 5, 8, 6, (mo : Int)]) (fun v => 0 ≤ v ∧ v ≤ 30) (fun v hv => by
      simp only [List.mem_cons, List.not_mem_nil, or_false] at hv
      rcases hv with rfl | rfl | rfl | rfl | rfl | rfl | rfl | rfl <;> constructor <;> omega) h0 (by simpa using h1)
    simp only [List.map] at ev
    simp only [ev, Bx.go]
    exact hR _ ⟨a, s, v.toNat, by omega, by rw [Int.toNat_of_nonneg hv.1]; rfl⟩
  clear a s
  rintro _ ⟨a, s, m, m30, rfl⟩
  obtain ⟨u, eu, hu⟩ := atI_of (ns := [(mo : Int), mo, mo, 9]) (fun v => 9 ≤ v ∧ v ≤ mo) (fun v hv => by
    simp only [List.mem_cons, List.not_mem_nil, or_false] at hv
    rcases hv with rfl | rfl | rfl | rfl <;> constructor <;> omega) (r := (d : Int) - 1) (by omega) (by simp; omega)
  simp only [List.map] at eu
  simp only [eu, fz, hd, Bx.go]
  have hmin : ∃ k : Nat, k ≤ mo ∧ (if u < (m : Int) then u else (m : Int)) = (k : Int) := by
    by_cases h : u < (m : Int)
    · exact ⟨u.toNat, by omega, by rw [if_pos h]; omega⟩
    · exact ⟨m, by omega, by rw [if_neg h]⟩
  obtain ⟨k, k20, ek⟩ := hmin
  rw [ek]
  refine ⟨a, s, l, d, k, rfl, l0, l8, lS, d4, by omega, fun ts a s tl ht => ?_⟩
  simp only [Bx.go]
  exact q d ts a s d1 d4 (by omega) ht
/-! ### the order by a number -/
theorem row_pd (i d : Nat) (t : Th) : (rowD i d t).pd = .tuple [.tuple ((rot i d t).map .int), .int t.1, .tuple [.int t.1, .tuple (t.2.1.map .int), .int t.2.2]] := by
  simp only [rowD, thD, D.pd, D.pds, pds_ints]
theorem row_alike (i d : Nat) (t u : Th) : PySem.W.alike (rowD i d t).pd (rowD i d u).pd = true := by
  simp only [row_pd, PySem.W.alike, PySem.W.alikeAll, PySem.W.alike_ints, Bool.and_true]
theorem okE_row (i d : Nat) (t : Th) : okE 3 (rowD i d t) := by
  intro x hx
  simp only [List.mem_cons, List.not_mem_nil, or_false] at hx
  rcases hx with rfl | rfl | rfl
  · intro y hy
    obtain ⟨j, _, rfl⟩ := List.mem_map.mp hy; trivial
  · trivial
  · exact okE_th t
theorem row_srt (i d : Nat) (ts : List Th) : srtOk (ts.map (rowD i d)) := by
  refine ⟨fun x hx y hy => ?_, .inl fun x hx => ?_, fun x hx => ?_⟩
  · rw [List.map_map] at hx hy
    obtain ⟨t, _, rfl⟩ := List.mem_map.mp hx
    obtain ⟨u, _, rfl⟩ := List.mem_map.mp hy
    exact row_alike i d t u
  · rw [List.map_map] at hx
    obtain ⟨t, _, rfl⟩ := List.mem_map.mp hx
    exact ⟨_, _, row_pd i d t⟩
  · obtain ⟨t, _, rfl⟩ := List.mem_map.mp hx
    have := (okE_row i d t).dep
    omega
theorem sort_row (i d : Nat) (ts : List Th) : (ts.map (rowD i d)).mergeSort dLe = (byT i d ts).map (rowD i d) :=
  (List.map_mergeSort (r := fun a b => dLe (rowD i d a) (rowD i d b)) (s := dLe) (f := rowD i d) (fun a _ b _ => rfl)).symm
theorem imp__law_by : ∀ ds Q, C__law_by ds Q → B__law_by ds Q := by
  rintro ds Q ⟨x, ts, i, d, rfl, hx, tl, ht, hi, d4, q⟩
  refine ⟨rfl, ?_⟩
  have sl := sizeLine_eq
  rcases hx with rfl | rfl
  all_goals
    simp only [w__law_by, Bx.go]
    refine for_each ts thD (fun dn ρ => ∃ (xx : D) (x3 x4 x5 x6 : Option D), ρ = [some xx, some (.int i), some (.lst true (dn.map (rowD i d))), x3, x4, x5, x6]) ⟨_, _, _, _, _, rfl⟩ ?_ ?_
    · rintro dn t r ρ N e ⟨xx, x3, x4, x5, x6, rfl⟩ hN
      have mt : t ∈ ts := by rw [e]; simp
      have lt := ht t mt
      have e := congrArg List.length e
      simp at e
      simp only [thD, q0, q1, Bx.go]
      rw [lt]
      refine ⟨i62_of (by omega) (by omega), by rw [rangeD_len]; omega, ?_⟩
      rw [rangeD_nat]
      refine co_map (List.range (Int.toNat d)) _ (fun k : Nat => .int (t.2.1.getD ((i + k) % d) 0)) (fun k hk acc N hN => ?_) ?_
      · have hk := List.mem_range.mp hk
        have hm : (i + k) % d < t.2.1.length := by rw [lt]; exact Nat.mod_lt _ (by omega)
        have em := atI_int (row := t.2.1) (i := (i + k) % d) hm
        push_cast at em
        simp only [Bx.go]
        refine ⟨by omega, ?_⟩
        rw [lt]
        simp only [em, Bx.go]
        exact hN
      · simp only [thD, q0, backR, Bx.go]
        have er : rowD i d t = .tup [.tup ((List.range (Int.toNat d)).map fun k : Nat => .int (t.2.1.getD ((i + k) % d) 0)), .int t.1, .tup [.int t.1, .tup (t.2.1.map .int), .int t.2.2]] := by
          simp only [rowD, rot, thD, List.map_map, Int.toNat_natCast]
          rfl
        exact ⟨by omega, hN _ ⟨_, _, _, _, _, by rw [List.map_append, List.map_cons, List.map_nil, er]⟩⟩
    · rintro ρ ⟨xx, x3, x4, x5, x6, rfl⟩
      simp only [Bx.go]
      refine ⟨row_srt i d ts, ?_⟩
      rw [sort_row]
      refine ⟨by simp [by_len]; omega, co_map (byT i d ts) (rowD i d) thD (fun t hm acc N hN => ?_) ?_⟩
      · simp only [rowD, q2, Bx.go]
        exact hN
      · simp only [backR, Bx.go]
        exact q
/-! ### the program's order by a number -/
def toksI (p : List Int) : List (Int ⊕ List Nat) := p.flatMap fun x => [.inl 1, .inl x]
theorem toks_ints : ∀ (p : List Int) (r : List PyData), PySem.W.keyToksAll (p.map PyData.int ++ r) = toksI p ++ PySem.W.keyToksAll r
  | [], _ => rfl
  | a :: p, r => by
    show PySem.W.keyToksAll (PyData.int a :: (p.map PyData.int ++ r)) = .inl 1 :: .inl a :: (toksI p ++ PySem.W.keyToksAll r)
    rw [← toks_ints p r]
    simp only [PySem.W.keyToksAll, PySem.W.keyToks, List.cons_append, List.nil_append]
theorem lex_pre : ∀ (p q : List Int) (x1 y1 x2 y2 : List (Int ⊕ List Nat)), p.length = q.length → lexLt itemOrd x1 y1 = lexLt itemOrd x2 y2 → lexLt itemOrd (toksI p ++ x1) (toksI q ++ y1) = lexLt itemOrd (toksI p ++ x2) (toksI q ++ y2)
  | [], [], _, _, _, _, _, h => h
  | [], _ :: _, _, _, _, _, h, _ => by simp at h
  | _ :: _, [], _, _, _, _, h, _ => by simp at h
  | a :: p, b :: q, x1, y1, x2, y2, l, h => by
    show lexLt itemOrd (.inl 1 :: .inl a :: (toksI p ++ x1)) (.inl 1 :: .inl b :: (toksI q ++ y1)) = lexLt itemOrd (.inl 1 :: .inl a :: (toksI p ++ x2)) (.inl 1 :: .inl b :: (toksI q ++ y2))
    rw [lex_self, lex_self, lex_cons, lex_cons, lex_pre p q x1 y1 x2 y2 (by simpa using l) h]
def keyD (i d : Nat) (t : Th) : D := .tup [.tup ((rot i d t ++ [t.1]).map .int), thD t]
theorem rot_len (i d : Nat) (t : Th) : (rot i d t).length = d := by simp [rot]
theorem key_pd (i d : Nat) (t : Th) : (keyD i d t).pd = .tuple [.tuple ((rot i d t ++ [t.1]).map .int), (thD t).pd] := by
  simp only [keyD, D.pd, D.pds, pds_ints]
theorem key_row (i d : Nat) (t u : Th) : dLe (keyD i d t) (keyD i d u) = dLe (rowD i d t) (rowD i d u) := by
  have e1 : ∀ t : Th, PySem.W.keyToks (keyD i d t).pd = .inl 1 :: (toksI (rot i d t) ++ (.inl 1 :: .inl t.1 :: .inl 0 :: .inl 1 :: (PySem.W.keyToks (thD t).pd ++ [.inl 0]))) := fun t => by
    have := toks_ints (rot i d t) ([t.1].map PyData.int)
    rw [← List.map_append] at this
    rw [key_pd]
    simp only [PySem.W.keyToks, PySem.W.keyToksAll, this]
    simp only [PySem.W.keyToks, PySem.W.keyToksAll, List.map_cons, List.map_nil, List.cons_append, List.nil_append, List.append_assoc]
  have e2 : ∀ t : Th, PySem.W.keyToks (rowD i d t).pd = .inl 1 :: (toksI (rot i d t) ++ (.inl 0 :: .inl 1 :: .inl t.1 :: .inl 1 :: (PySem.W.keyToks (thD t).pd ++ [.inl 0]))) := fun t => by
    have := toks_ints (rot i d t) []
    rw [List.append_nil] at this
    have e : (rowD i d t).pd = .tuple [.tuple ((rot i d t).map .int), .int t.1, (thD t).pd] := by simp only [rowD, D.pd, D.pds, pds_ints]
    rw [e]
    simp only [PySem.W.keyToks, PySem.W.keyToksAll, this]
    simp only [PySem.W.keyToks, PySem.W.keyToksAll, List.cons_append, List.nil_append, List.append_assoc]
  show (!lexLt itemOrd (PySem.W.keyToks (keyD i d u).pd) (PySem.W.keyToks (keyD i d t).pd)) = (!lexLt itemOrd (PySem.W.keyToks (rowD i d u).pd) (PySem.W.keyToks (rowD i d t).pd))
  rw [e1, e1, e2, e2, lex_self, lex_self]
  congr 1
  refine lex_pre _ _ _ _ _ _ (by rw [rot_len, rot_len]) ?_
  rw [lex_self, lex_cons, lex_self, lex_self, lex_self, lex_self, lex_cons, lex_self]
theorem rot_eq {i d : Nat} {t : Th} (h : t.2.1.length = d) (hi : i < d) : rot i d t = t.2.1.drop i ++ t.2.1.take i := by
  apply List.ext_getElem
  · simp [rot]; omega
  · intro k h1 h2
    rw [rot_len] at h1
    simp only [rot, List.getElem_map, List.getElem_range]
    rw [List.getElem_append]
    by_cases hk : k < (t.2.1.drop i).length
    · rw [dif_pos hk, List.getElem_drop]
      rw [List.length_drop] at hk
      rw [Nat.mod_eq_of_lt (by omega), List.getD_eq_getElem?_getD, List.getElem?_eq_getElem (by omega), Option.getD_some]
    · rw [dif_neg hk, List.getElem_take]
      rw [List.length_drop] at hk
      have e : (i + k) % d = k - (t.2.1.drop i).length := by
        rw [List.length_drop, Nat.mod_eq_sub_mod (by omega), Nat.mod_eq_of_lt (by omega)]
        omega
      simp only [e]
      rw [List.getD_eq_getElem?_getD, List.getElem?_eq_getElem (by rw [List.length_drop]; omega), Option.getD_some]
theorem imp_key_by : ∀ ds Q, C_key_by ds Q → B_key_by ds Q := by
  rintro ds Q ⟨t, i, d, rfl, lt, hi, d4, q⟩
  refine ⟨rfl, ?_⟩
  have sl := sizeLine_eq
  rw [rot_eq lt hi, List.map_append, List.map_append, List.map_drop, List.map_take] at q
  simp only [w_key_by, thD, Bx.go]
  rw [Zh.cut_drop, Zh.cut_take]
  exact ⟨by simp; omega, by simp; omega, q⟩
theorem key_srt (i d : Nat) (ts : List Th) : srtOk (ts.map (keyD i d)) := by
  have e : ∀ t : Th, (keyD i d t).pd = .tuple [.tuple ((rot i d t ++ [t.1]).map .int), .tuple [.int t.1, .tuple (t.2.1.map .int), .int t.2.2]] := fun t => by
    rw [key_pd]
    simp only [thD, D.pd, D.pds, pds_ints]
  refine ⟨fun x hx y hy => ?_, .inl fun x hx => ?_, fun x hx => ?_⟩
  · rw [List.map_map] at hx hy
    obtain ⟨t, _, rfl⟩ := List.mem_map.mp hx
    obtain ⟨u, _, rfl⟩ := List.mem_map.mp hy
    simp only [Function.comp, e, PySem.W.alike, PySem.W.alikeAll, PySem.W.alike_ints, Bool.and_true]
  · rw [List.map_map] at hx
    obtain ⟨t, _, rfl⟩ := List.mem_map.mp hx
    exact ⟨_, _, e t⟩
  · obtain ⟨t, _, rfl⟩ := List.mem_map.mp hx
    have : okE 3 (keyD i d t) := by
      intro x hx
      simp only [List.mem_cons, List.not_mem_nil, or_false] at hx
      rcases hx with rfl | rfl
      · intro y hy
        obtain ⟨j, _, rfl⟩ := List.mem_map.mp hy; trivial
      · exact okE_th t
    have := this.dep
    omega
theorem sort_key (i d : Nat) (ts : List Th) : (ts.map (keyD i d)).mergeSort dLe = (byT i d ts).map (keyD i d) :=
  (List.map_mergeSort (r := fun a b => dLe (rowD i d a) (rowD i d b)) (s := dLe) (f := keyD i d) (fun a _ b _ => (key_row i d a b).symm)).symm
theorem imp_things_by : ∀ ds Q, C_things_by ds Q → B_things_by ds Q := by
  rintro ds Q ⟨x, ts, i, d, rfl, hx, tl, ht, hi, d4, q⟩
  refine ⟨rfl, ?_⟩
  have sl := sizeLine_eq
  rcases hx with rfl | rfl
  all_goals
    simp only [w_things_by, Bx.go]
    refine ⟨by omega, co_map ts thD (keyD i d) (fun t ht' acc N hN => ?_) ?_⟩
    · simp only [thD, Bx.go]
      refine ⟨t, i, d, rfl, ht t ht', hi, d4, ?_⟩
      simp only [Bx.go]
      exact hN
    · simp only [backR, Bx.go]
      refine ⟨key_srt i d ts, ?_⟩
      rw [sort_key]
      refine ⟨by simp [by_len]; omega, co_map (byT i d ts) (keyD i d) thD (fun t hm acc N hN => ?_) ?_⟩
      · simp only [keyD, thD, Bx.go]
        exact hN
      · simp only [backR, Bx.go]
        exact q
/-! ### names -/
theorem asInts_map (l : List Int) : asIs.asInts' (l.map .int) = some l := by
  induction l with
  | nil => rfl
  | cons a l ih => simp [asIs.asInts', ih]
theorem asInts_some : ∀ {xs : List D} {l : List Int}, asIs.asInts' xs = some l → xs = l.map .int
  | [], l, h => by simp [asIs.asInts'] at h; subst h; rfl
  | .int i :: r, l, h => by
    simp only [asIs.asInts', Option.map_eq_some_iff] at h
    obtain ⟨a, h1, rfl⟩ := h
    rw [asInts_some h1]; rfl
  | .non :: _, _, h => by simp [asIs.asInts'] at h
  | .bl _ :: _, _, h => by simp [asIs.asInts'] at h
  | .str _ :: _, _, h => by simp [asIs.asInts'] at h
  | .tup _ :: _, _, h => by simp [asIs.asInts'] at h
  | .lst _ _ :: _, _, h => by simp [asIs.asInts'] at h
  | .scr _ :: _, _, h => by simp [asIs.asInts'] at h
  | .dic _ _ :: _, _, h => by simp [asIs.asInts'] at h
  | .odc _ _ :: _, _, h => by simp [asIs.asInts'] at h
theorem asIs_plc (l : List Int) : asIs (plc l) = some l := asInts_map l
theorem asIs_some {x : D} {l : List Int} (h : asIs x = some l) : x = plc l := by
  cases x <;> simp only [asIs] at h <;> try cases h
  rw [asInts_some h]; rfl
def isI : D → Bool
  | .int _ => true
  | _ => false
theorem asInts_all : ∀ {xs : List D}, (∀ x ∈ xs, isI x = true) → ∃ l : List Int, xs = l.map .int
  | [], _ => ⟨[], rfl⟩
  | x :: xs, h => by
    obtain ⟨l, e⟩ := asInts_all fun y hy => h y (List.mem_cons_of_mem _ hy)
    have := h x List.mem_cons_self
    cases x <;> simp [isI] at this
    exact ⟨_ :: l, by rw [e]; rfl⟩
theorem asInts_none : ∀ {xs : List D}, (∃ x ∈ xs, isI x = false) → asIs.asInts' xs = none
  | [], h => by simp at h
  | x :: xs, ⟨y, hy, hf⟩ => by
    cases e : asIs.asInts' (x :: xs) with
    | none => rfl
    | some l =>
      have := asInts_some e
      rw [this] at hy
      obtain ⟨i, _, rfl⟩ := List.mem_map.mp hy
      simp [isI] at hf
theorem imp_are_names : ∀ ds Q, C_are_names ds Q → B_are_names ds Q := by
  rintro ds Q ⟨x, l, rfl, hx, ll, q⟩
  refine ⟨rfl, ?_⟩
  have sl := sizeLine_eq
  cases hx with
  | oth hne hf =>
    have e : asIs x = none := by
      cases x <;> first | rfl | exact absurd rfl (hne _)
    rw [e] at q
    cases x <;> first | exact absurd rfl (hne _) | (simp only [w_are_names, Bx.go]; exact q)
  | @tup xs h1 h2 =>
    simp only [w_are_names, Bx.go]
    refine ⟨by omega, ?_⟩
    rw [show coGo [2] (gN 2) tAll (dOr (dIsi "bool" (oVar 2)) (dNot (dIsi "int" (oVar 2)))) = coGo [2] (gN 2) tAll (dOr (dIsi "bool" (oVar 2)) (dNot (dIsi "int" (oVar 2)))) from rfl, ← List.map_id xs]
    refine co_map xs id (fun x => .bl (!isI x)) (fun x hx acc N hN => ?_) ?_
    · have hf := (h2 x hx).frz
      cases x <;> (try simp only [D.frz] at hf) <;> (try injection hf with hf) <;> (try subst hf) <;> (simp only [id, Bx.go]; exact hN)
    · simp only [backR, Bx.go]
      rw [asBls_f (fun x => !isI x) xs]
      simp only [Bx.go]
      refine pick_by (fun h => ?_) (fun h => ?_)
      · have e : asIs (.tup xs) = none := asInts_none (by
          obtain ⟨b, hb, hb2⟩ := List.any_eq_true.mp h
          obtain ⟨x, hx, rfl⟩ := List.mem_map.mp hb
          exact ⟨x, hx, by simpa using hb2⟩)
        rw [e] at q
        simp only [Bx.go]
        exact q
      · obtain ⟨m, rfl⟩ := asInts_all (xs := xs) fun x hx => by
          have := List.any_eq_false.mp h _ (List.mem_map_of_mem (f := fun x => !isI x) hx)
          simpa using this
        have e : asIs (.tup (m.map .int)) = some m := asInts_map m
        rw [e] at q
        simp only [List.map_id, plc, Bx.go]
        refine ⟨eqOk_ints m l, ?_⟩
        rw [eqv_ints]
        exact q
/-! ### layers made -/
theorem ltD_frz (T : LT) : (ltD T).frz = ltD T := by cases T <;> rfl
theorem rows_frz {x : D} {ts : List Th} (h : rows x ts) : x.frz = x := by rcases h with rfl | rfl <;> rfl
theorem okT.sub {d : Nat} {ts zs : List Th} (h : okT d ts) (h0 : 0 < zs.length) (hl : zs.length ≤ 200) (hm : ∀ t ∈ zs, t ∈ ts) : okT d zs := ⟨List.length_pos_iff.mp h0, hl, fun t m => h.2.2 t (hm t m)⟩
theorem okT.pos {d : Nat} {ts : List Th} (h : okT d ts) : 0 < ts.length := List.length_pos_iff.mpr h.1
theorem okT.by {i d : Nat} {ts : List Th} (h : okT d ts) : okT d (byT i d ts) := h.sub (by rw [by_len]; exact h.pos) (by rw [by_len]; exact h.2.1) fun t m => by_mem.mp m
theorem okT.take {d k : Nat} {ts : List Th} (h : okT d ts) (h0 : 0 < k) : okT d (ts.take k) := h.sub (by rw [List.length_take]; have := h.pos; omega) (by rw [List.length_take]; have := h.2.1; omega) fun t m => List.mem_of_mem_take m
theorem okT.drop {d k : Nat} {ts : List Th} (h : okT d ts) (h0 : k < ts.length) : okT d (ts.drop k) := h.sub (by rw [List.length_drop]; omega) (by rw [List.length_drop]; have := h.2.1; omega) fun t m => List.mem_of_mem_drop m
theorem imp_layer_of (n : Nat) : ∀ ds Q, C_layer_of (n + 1) ds Q → B_layer_of n ds Q := by
  rintro ds Q ⟨x, ts, i, d, rfl, hx, ht, hi, d4, hn, q⟩
  refine ⟨rfl, ?_⟩
  have sl := sizeLine_eq
  have xf := rows_frz hx
  have bl := by_len i d ts
  have ok2 := ht.by (i := i)
  have t0 := ht.pos
  have t2 := ht.2.1
  rw [layT] at q
  refine seq_cut (fun ρ => ρ = [some x, some (.int i), some (.int d), some (.lst true ((byT i d ts).map thD)), none, none, none, none]) (fun R hR => ?_) ?_
  · simp only [xf, Bx.go]
    refine ⟨x, ts, i, d, rfl, hx, by omega, ht.2.2, hi, d4, ?_⟩
    simp only [xf, Bx.go]
    exact hR _ rfl
  rintro _ rfl
  generalize byT i d ts = zs at *
  refine seq_cut (fun ρ => ρ = [some x, some (.int i), some (.int d), some (.lst true (zs.map thD)), some .non, some .non, some .non, none]) (fun R hR => ?_) ?_
  · simp only [Bx.go]
    exact hR _ rfl
  rintro _ rfl
  refine seq_cut (fun ρ => ∃ (o : Bool) (x7 : Option D), ρ = [some x, some (.int i), some (.int d), some (.lst o (zs.map thD)), some (ltD (if h : 1 < ts.length then layT d (zs.take ((ts.length + 1) / 2)) i else .nil)),
    some (ltD (if h : 1 < ts.length then layT d (zs.drop ((ts.length + 1) / 2)) i else .nil)), some .non, x7]) (fun R hR => ?_) ?_
  · simp only [Bx.go]
    refine pick_by (fun h => ?_) (fun h => ?_)
    · have h : 1 < ts.length := by have := of_decide_eq_true h; omega
      refine seq_cut (fun ρ => ρ = [some x, some (.int i), some (.int d), some (.lst true (zs.map thD)), some .non, some .non, some .non, some (.int ((ts.length + 1) / 2 : Nat))]) (fun R' hR' => ?_) ?_
      · simp only [Bx.go]
        refine ⟨⟨by decide, by decide⟩, ?_⟩
        exact hR' _ (by rw [bl]; push_cast; rfl)
      rintro _ rfl
      simp only [xf, Bx.go]
      refine ⟨_, zs.take ((ts.length + 1) / 2), i, d, rfl, .inr (by rw [Zh.cut_take, List.map_take]), ok2.take (by omega), hi, d4, by rw [List.length_take]; omega, ?_⟩
      simp only [xf, ltD_frz, Bx.go]
      refine ⟨_, zs.drop ((ts.length + 1) / 2), i, d, rfl, .inr (by rw [Zh.cut_drop, List.map_drop]), ok2.drop (by omega), hi, d4, by rw [List.length_drop]; omega, ?_⟩
      simp only [xf, ltD_frz, Bx.go]
      exact hR _ ⟨_, _, by rw [dif_pos h, dif_pos h]⟩
    · have h : ¬ 1 < ts.length := by have := of_decide_eq_false h; omega
      simp only [Bx.go]
      exact hR _ ⟨_, _, by rw [dif_neg h, dif_neg h]; rfl⟩
  rintro _ ⟨o, x7, rfl⟩
  refine seq_cut (fun ρ => ∃ (o : Bool), ρ = [some x, some (.int i), some (.int d), some (.lst o (zs.map thD)), some (ltD (if h : 1 < ts.length then layT d (zs.take ((ts.length + 1) / 2)) i else .nil)),
    some (ltD (if h : 1 < ts.length then layT d (zs.drop ((ts.length + 1) / 2)) i else .nil)), some (ltD (if h : i + 1 < d then layT d zs (i + 1) else .nil)), x7]) (fun R hR => ?_) ?_
  · simp only [Bx.go]
    refine pick_by (fun h => ?_) (fun h => ?_)
    · have h : i + 1 < d := by have := of_decide_eq_true h; omega
      simp only [Bx.go]
      refine ⟨_, zs, i + 1, d, rfl, .inr rfl, ok2, h, d4, by omega, ?_⟩
      simp only [ltD_frz, Bx.go]
      exact hR _ ⟨_, by rw [dif_pos h]⟩
    · have h : ¬ i + 1 < d := by have := of_decide_eq_false h; omega
      simp only [Bx.go]
      exact hR _ ⟨_, by rw [dif_neg h]; rfl⟩
  rintro _ ⟨o, rfl⟩
  simp only [Bx.go]
  refine ⟨zs, rfl, by omega, ?_⟩
  have pf : (plc (nmsT zs)).frz = plc (nmsT zs) := rfl
  simp only [pf, ltD_frz, Bx.go]
  exact q
theorem imp_layers : ∀ ds Q, C_layers ds Q → B_layers ds Q := by
  rintro ds Q ⟨d, ts, rfl, ht, d1, d4, hn, q⟩
  refine ⟨rfl, ?_⟩
  have sl := sizeLine_eq
  simp only [w_layers, houseD, Bx.go]
  refine ⟨eqOk_int _ _, ?_⟩
  rw [eqv_int]
  refine pick_by (fun h => ?_) (fun h => ?_)
  · have h : ts = [] := by
      have := of_decide_eq_true (p := ((ts.length : Int) = 0)) (by simpa using h)
      exact List.length_eq_zero_iff.mp (by omega)
    rw [if_pos h] at q
    simp only [Bx.go]
    exact q
  · have h : ts ≠ [] := fun e => by rw [e] at h; simp at h
    rw [if_neg h] at q
    simp only [Bx.go]
    refine ⟨_, ts, 0, d, rfl, .inl rfl, ⟨h, by omega, ht⟩, by omega, d4, by omega, ?_⟩
    simp only [Bx.go]
    exact q
/-! ### layers asked -/
theorem SmD.parts {xs : List D} (h : SmD (.tup xs)) : xs.length ≤ 1000 ∧ ∀ x ∈ xs, SmD x := by
  cases h with
  | tup a b => exact ⟨a, b⟩
  | oth h _ => exact absurd rfl (h _)
theorem len4 {α : Type} {xs : List α} (h : xs.length = 4) : ∃ a b c e, xs = [a, b, c, e] := by
  match xs, h with
  | [a, b, c, e], _ => exact ⟨a, b, c, e, rfl⟩
theorem isL_oth {d i : Nat} {ts : List Th} {y : D} (h : ∀ a b c e, y ≠ .tup [a, b, c, e]) : isL d ts i y = false := by
  rw [isL]
  exact fun a b c e z => absurd z (h a b c e)
theorem lowN_oth {y : D} (h : ∀ a b c e, y ≠ .tup [.tup a, b, c, e]) : lowN y = 0 := by
  unfold lowN
  split
  · exact absurd rfl (h _ _ _ _)
  · rfl
theorem e4 : (D.int ((0 + 1 + 1 + 1 + 1 : Nat) : Int)).eqv (.int 4) = true := by rw [eqv_int]; rfl
theorem eN {n : Nat} (h : n ≠ 4) : (D.int (n : Int)).eqv (.int 4) = false := by rw [eqv_int]; simp; omega
theorem imp_is_parted (n : Nat) : ∀ ds Q, C_is_parted (n + 1) ds Q → B_is_parted n ds Q := by
  rintro ds Q ⟨zs, lo, hi, i, d, rfl, ht, hid, d4, hlo, hhi, hn, q⟩
  refine ⟨rfl, ?_⟩
  have sl := sizeLine_eq
  have z0 := ht.pos
  have z2 := ht.2.1
  have lf := hlo.frz
  have hf := hhi.frz
  by_cases hs : ∃ ns b c e, lo = .tup [.tup ns, b, c, e]
  · obtain ⟨ns, b, c, e, rfl⟩ := hs
    have nl := ((hlo.parts).2 (.tup ns) (by simp)).parts.1
    have el : lowN (.tup [.tup ns, b, c, e]) = ns.length := rfl
    simp only [w_is_parted, at0, e4, Bool.not_true, Bx.go]
    refine ⟨eqOk_int _ _, ?_⟩
    refine pick_by (fun h1 => ?_) (fun h1 => ?_)
    rotate_left
    · rw [if_neg (by rw [el]; intro ⟨a, b⟩; have := of_decide_eq_false h1; omega)] at q
      simp only [Bx.go]
      exact q
    refine pick_by (fun h => ?_) (fun h => ?_)
    · rw [if_neg (by rw [el]; intro ⟨a, b⟩; rw [Bool.not_eq_true'] at h; have := of_decide_eq_false h; rw [List.length_map] at this; omega)] at q
      simp only [Bx.go]
      exact q
    · have hc : 0 < ns.length ∧ ns.length < zs.length := by simp at h h1; omega
      rw [if_pos (by rw [el]; exact hc), el] at q
      simp only [Bx.go]
      refine ⟨_, zs.take ns.length, i, d, _, rfl, .inr (by rw [Zh.cut_take, List.map_take]), ht.take (by omega), hid, d4, hlo, by rw [List.length_take]; omega, ?_⟩
      simp only [Bx.go]
      refine pick_by (fun h => ?_) (fun h => ?_)
      · rw [h, Bool.true_and] at q
        simp only [hf, Bx.go]
        refine ⟨_, zs.drop ns.length, i, d, _, rfl, .inr (by rw [Zh.cut_drop, List.map_drop]), ht.drop (by omega), hid, d4, hhi, by rw [List.length_drop]; omega, ?_⟩
        simp only [Bx.go]
        exact q
      · rw [h, Bool.false_and] at q
        simp only [Bx.go]
        exact q
  · have el : lowN lo = 0 := lowN_oth fun a b c e z => hs ⟨a, b, c, e, z⟩
    rw [if_neg (by omega)] at q
    by_cases ht : ∃ xs, lo = .tup xs
    · obtain ⟨xs, rfl⟩ := ht
      by_cases h4 : xs.length = 4
      · obtain ⟨a, b, c, e, rfl⟩ := len4 h4
        have ha : ∀ xs, a ≠ .tup xs := fun xs z => hs ⟨xs, b, c, e, by rw [z]⟩
        have af := (hlo.parts.2 a (by simp)).frz
        cases a <;> first | exact absurd rfl (ha _) | (simp only [w_is_parted, at0, e4, Bool.not_true, Bx.go]; exact ⟨eqOk_int _ _, q⟩)
      · simp only [w_is_parted, eN h4, Bool.not_false, Bx.go]
        exact ⟨eqOk_int _ _, q⟩
    · have ht : ∀ xs, lo ≠ .tup xs := fun xs z => ht ⟨xs, z⟩
      cases lo <;> first | exact absurd rfl (ht _) | (simp only [w_is_parted, Bx.go]; exact q)
theorem imp_is_layer (n : Nat) : ∀ ds Q, C_is_layer (n + 1) ds Q → B_is_layer n ds Q := by
  rintro ds Q ⟨x, ts, i, d, y, rfl, hx, ht, hi, d4, hy, hn, q⟩
  refine ⟨rfl, ?_⟩
  have sl := sizeLine_eq
  have xf := rows_frz hx
  have bl := by_len i d ts
  have ok2 := ht.by (i := i)
  have t0 := ht.pos
  have t2 := ht.2.1
  by_cases hs : ∃ nm lo hi inn, y = .tup [nm, lo, hi, inn]
  · obtain ⟨nm, lo, hi', inn, rfl⟩ := hs
    have hp := hy.parts.2
    have s1 := hp nm (by simp)
    have s2 := hp lo (by simp)
    have s3 := hp hi' (by simp)
    have s4 := hp inn (by simp)
    have f1 := s1.frz
    have f2 := s2.frz
    have f3 := s3.frz
    have f4 := s4.frz
    rw [isL] at q
    refine seq_cut (fun ρ => ρ = [some x, some (.tup [nm, lo, hi', inn]), some (.int i), some (.int d), none, none, none, none, none]) (fun R hR => ?_) ?_
    · simp only [e4, Bool.not_true, Bx.go]
      exact ⟨eqOk_int _ _, hR _ rfl⟩
    rintro _ rfl
    refine seq_cut (fun ρ => ρ = [some x, some (.tup [nm, lo, hi', inn]), some (.int i), some (.int d), some (.lst true ((byT i d ts).map thD)), none, none, none, none]) (fun R hR => ?_) ?_
    · simp only [xf, Bx.go]
      refine ⟨x, ts, i, d, rfl, hx, by omega, ht.2.2, hi, d4, ?_⟩
      simp only [xf, Bx.go]
      exact hR _ rfl
    rintro _ rfl
    generalize byT i d ts = zs at *
    refine seq_cut (fun ρ => ρ = [some x, some (.tup [nm, lo, hi', inn]), some (.int i), some (.int d), some (.lst true (zs.map thD)), some nm, some lo, some hi', some inn]) (fun R hR => ?_) ?_
    · simp only [f1, f2, f3, f4, Bx.go]
      exact hR _ rfl
    rintro _ rfl
    refine seq_cut (fun ρ => (asIs nm == some (nmsT zs)) = true ∧ ρ = [some x, some (.tup [nm, lo, hi', inn]), some (.int i), some (.int d), some (.lst false (zs.map thD)), some nm, some lo, some hi', some inn]) (fun R hR => ?_) ?_
    · simp only [f1, Bx.go]
      refine ⟨zs, rfl, by omega, ?_⟩
      have pf : (plc (nmsT zs)).frz = plc (nmsT zs) := rfl
      simp only [f1, pf, Bx.go]
      refine ⟨nm, nmsT zs, rfl, s1, by simp [nmsT]; omega, ?_⟩
      simp only [Bx.go]
      refine pick_by (fun h => ?_) (fun h => ?_)
      · rw [Bool.not_eq_true'] at h
        rw [h] at q
        simp only [Bool.false_and] at q
        simp only [Bx.go]
        exact q
      · rw [Bool.not_eq_false'] at h
        simp only [Bx.go]
        exact hR _ ⟨h, rfl⟩
    rintro _ ⟨h, rfl⟩
    rw [h, Bool.true_and] at q
    refine seq_cut (fun ρ => (if ts.length = 1 then lo.isNon && hi'.isNon else true) = true ∧ ρ = [some x, some (.tup [nm, lo, hi', inn]), some (.int i), some (.int d), some (.lst false (zs.map thD)), some nm, some lo, some hi', some inn]) (fun R hR => ?_) ?_
    · simp only [Bx.go]
      refine ⟨eqOk_int _ _, ?_⟩
      rw [eqv_int]
      refine pick_by (fun h => ?_) (fun h => ?_)
      · have h : ts.length = 1 := by simp at h; omega
        rw [if_pos h] at q hR
        simp only [Bx.go]
        cases hl : lo.isNon <;> cases hh : hi'.isNon <;> simp only [hl, hh, Bool.not_true, Bool.not_false, Bool.false_and, Bool.and_false, Bool.true_and, Bx.go] at q hR ⊢ <;> first | exact q | exact hR _ ⟨trivial, rfl⟩ | exact hR _ ⟨rfl, rfl⟩ | exact hR _ rfl
      · have h : ts.length ≠ 1 := by simp at h; omega
        rw [if_neg h] at hR
        simp only [Bx.go]
        exact hR _ ⟨rfl, rfl⟩
    rintro _ ⟨c1, rfl⟩
    rw [c1, Bool.true_and] at q
    refine seq_cut (fun ρ => (if 1 < ts.length then (if h : 0 < lowN lo ∧ lowN lo < ts.length then isL d (List.take (lowN lo) zs) i lo && isL d (List.drop (lowN lo) zs) i hi' else false) else true) = true ∧ ρ = [some x, some (.tup [nm, lo, hi', inn]), some (.int i), some (.int d), some (.lst false (zs.map thD)), some nm, some lo, some hi', some inn]) (fun R hR => ?_) ?_
    · simp only [Bx.go]
      refine pick_by (fun h => ?_) (fun h => ?_)
      · have h : 1 < ts.length := by simp at h; omega
        rw [if_pos h] at q hR
        simp only [f2, f3, Bx.go]
        refine ⟨zs, lo, hi', i, d, rfl, ok2, hi, d4, s2, s3, by omega, ?_⟩
        rw [bl]
        simp only [dite_eq_ite] at q hR
        simp only [f2, f3, Bx.go]
        refine pick_by (fun h => ?_) (fun h => ?_)
        · rw [Bool.not_eq_true'] at h
          rw [h, Bool.false_and] at q
          simp only [Bx.go]
          exact q
        · rw [Bool.not_eq_false'] at h
          simp only [Bx.go]
          exact hR _ ⟨h, rfl⟩
      · have h : ¬ 1 < ts.length := by simp at h; omega
        rw [if_neg h] at hR
        simp only [Bx.go]
        exact hR _ ⟨rfl, rfl⟩
    rintro _ ⟨c2, rfl⟩
    rw [c2, Bool.true_and] at q
    simp only [Bx.go]
    refine pick_by (fun h => ?_) (fun h => ?_)
    · have h : i + 1 < d := by simp at h; omega
      rw [dif_pos h] at q
      simp only [f4, Bx.go]
      refine ⟨_, zs, i + 1, d, inn, rfl, .inr rfl, ok2, h, d4, s4, by omega, ?_⟩
      simp only [Bx.go]
      exact q
    · have h : ¬ i + 1 < d := by simp at h; omega
      rw [dif_neg h] at q
      simp only [Bx.go]
      exact q
  · have e : isL d ts i y = false := isL_oth fun a b c e' z => hs ⟨a, b, c, e', z⟩
    rw [e] at q
    by_cases ht : ∃ xs, y = .tup xs
    · obtain ⟨xs, rfl⟩ := ht
      have h4 : xs.length ≠ 4 := fun h => by
        obtain ⟨a, b, c, e', rfl⟩ := len4 h
        exact hs ⟨a, b, c, e', rfl⟩
      simp only [w_is_layer, eN h4, Bool.not_false, Bx.go]
      exact ⟨eqOk_int _ _, q⟩
    · have ht : ∀ xs, y ≠ .tup xs := fun xs z => ht ⟨xs, z⟩
      cases y <;> first | exact absurd rfl (ht _) | (simp only [w_is_layer, Bx.go]; exact q)
theorem imp_is_layers : ∀ ds Q, C_is_layers ds Q → B_is_layers ds Q := by
  rintro ds Q ⟨d, ts, y, rfl, ht, d1, d4, hn, hy, q⟩
  refine ⟨rfl, ?_⟩
  have sl := sizeLine_eq
  have yf := hy.frz
  simp only [w_is_layers, houseD, Bx.go]
  refine ⟨eqOk_int _ _, ?_⟩
  rw [eqv_int]
  refine pick_by (fun h => ?_) (fun h => ?_)
  · have h : ts = [] := by
      have := of_decide_eq_true (p := ((ts.length : Int) = 0)) (by simpa using h)
      exact List.length_eq_zero_iff.mp (by omega)
    rw [if_pos h] at q
    simp only [Bx.go]
    exact q
  · have h : ts ≠ [] := fun e => by rw [e] at h; simp at h
    rw [if_neg h] at q
    simp only [yf, Bx.go]
    refine ⟨_, ts, 0, d, y, rfl, .inl rfl, ⟨h, by omega, ht⟩, by omega, d4, hy, by show _ ≤ 208; omega, ?_⟩
    simp only [Bx.go]
    exact q
def LT.nm : LT → List Int
  | .nil => []
  | .mk nms _ _ _ => nms
theorem lowN_lt (T : LT) : lowN (ltD T) = T.nm.length := by
  cases T with
  | nil => rfl
  | mk nms lo hi inn => simp [ltD, lowN, plc, LT.nm]
theorem non_lt (T : LT) : (ltD T).isNon = true ↔ T = .nil := by
  cases T with
  | nil => exact ⟨fun _ => rfl, fun _ => rfl⟩
  | mk => exact ⟨fun h => by simp [ltD, D.isNon] at h, fun h => by cases h⟩
theorem isL_iff {d i : Nat} {ts : List Th} {nms : List Int} {lo hi inn : LT} : isL d ts i (ltD (.mk nms lo hi inn)) = true ↔
    nms = nmsT (byT i d ts) ∧ (ts.length = 1 → lo = .nil ∧ hi = .nil) ∧
    (1 < ts.length → 0 < lo.nm.length ∧ lo.nm.length < ts.length ∧ isL d ((byT i d ts).take lo.nm.length) i (ltD lo) = true ∧ isL d ((byT i d ts).drop lo.nm.length) i (ltD hi) = true) ∧
    (i + 1 < d → isL d (byT i d ts) (i + 1) (ltD inn) = true) ∧ (¬ i + 1 < d → inn = .nil) := by
  rw [ltD, isL, asIs_plc]
  simp only [dite_eq_ite, Bool.and_eq_true, beq_iff_eq, Option.some.injEq, lowN_lt]
  constructor
  · rintro ⟨⟨⟨h1, h2⟩, h3⟩, h4⟩
    refine ⟨h1, fun e => ?_, fun e => ?_, fun e => ?_, fun e => ?_⟩
    · rw [if_pos e, Bool.and_eq_true, non_lt, non_lt] at h2
      exact h2
    · rw [if_pos e] at h3
      by_cases c : 0 < lo.nm.length ∧ lo.nm.length < ts.length
      · rw [if_pos c, Bool.and_eq_true] at h3
        exact ⟨c.1, c.2, h3.1, h3.2⟩
      · rw [if_neg c] at h3
        cases h3
    · rw [if_pos e] at h4
      exact h4
    · rw [if_neg e, non_lt] at h4
      exact h4
  · rintro ⟨h1, h2, h3, h4, h5⟩
    refine ⟨⟨⟨h1, ?_⟩, ?_⟩, ?_⟩
    · split
      · rename_i e
        rw [Bool.and_eq_true, non_lt, non_lt]
        exact h2 e
      · rfl
    · split
      · rename_i e
        obtain ⟨a, b, c, f⟩ := h3 e
        rw [if_pos ⟨a, b⟩, c, f]
        rfl
      · rfl
    · split
      · rename_i e
        exact h4 e
      · rename_i e
        rw [non_lt]
        exact h5 e
theorem isL_nil {d i : Nat} {ts : List Th} : isL d ts i (ltD .nil) = false := isL_oth fun _ _ _ _ z => by cases z
theorem isL_nm {d i : Nat} {ts : List Th} {T : LT} (h : isL d ts i (ltD T) = true) : T.nm = nmsT (byT i d ts) := by
  cases T with
  | nil => rw [isL_nil] at h; cases h
  | mk nms lo hi inn => exact (isL_iff.mp h).1
theorem nms_len (i d : Nat) (ts : List Th) : (nmsT (byT i d ts)).length = ts.length := by rw [nmsT, List.length_map, by_len]
theorem isL_layT : ∀ (m d : Nat) (ts : List Th) (i : Nat), ts.length + (d - i) ≤ m → 0 < ts.length → isL d ts i (ltD (layT d ts i)) = true
  | 0, d, ts, i, hm, h0 => by omega
  | m + 1, d, ts, i, hm, h0 => by
    rw [layT, isL_iff]
    have bl := by_len i d ts
    refine ⟨rfl, fun e => ?_, fun e => ?_, fun e => ?_, fun e => ?_⟩
    · rw [dif_neg (by omega), dif_neg (by omega)]
      exact ⟨rfl, rfl⟩
    · rw [dif_pos e, dif_pos e]
      have a := isL_layT m d ((byT i d ts).take ((ts.length + 1) / 2)) i (by rw [List.length_take]; omega) (by rw [List.length_take]; omega)
      have b := isL_layT m d ((byT i d ts).drop ((ts.length + 1) / 2)) i (by rw [List.length_drop]; omega) (by rw [List.length_drop]; omega)
      have l : (layT d ((byT i d ts).take ((ts.length + 1) / 2)) i).nm.length = (ts.length + 1) / 2 := by rw [isL_nm a, nms_len, List.length_take]; omega
      rw [l]
      exact ⟨by omega, by omega, a, b⟩
    · rw [dif_pos e]
      exact isL_layT m d _ (i + 1) (by omega) (by omega)
    · rw [dif_neg e]
theorem sm_non : SmD .non := .oth (fun _ h => by cases h) rfl
theorem sm_plc {l : List Int} (h : l.length ≤ 1000) : SmD (plc l) := .tup (by rw [List.length_map]; exact h) fun x hx => by
  obtain ⟨i, _, rfl⟩ := List.mem_map.mp hx
  exact .oth (fun _ h => by cases h) rfl
theorem okS_plc {l : List Int} {n : Nat} (h : l.length ≤ 1000) : okS (n + 2) (plc l) := by
  have sl := sizeLine_eq
  refine ⟨by rw [List.length_map]; omega, fun x hx => ?_⟩
  obtain ⟨i, _, rfl⟩ := List.mem_map.mp hx
  trivial
theorem isL_ok : ∀ (m d : Nat) (ts : List Th) (i : Nat) (T : LT), ts.length + (d - i) ≤ m → ts.length ≤ 1000 → 0 < ts.length → isL d ts i (ltD T) = true → SmD (ltD T) ∧ okS (m + 2) (ltD T)
  | 0, d, ts, i, T, hm, _, h0, _ => by omega
  | m + 1, d, ts, i, .nil, hm, _, h0, h => by rw [isL_nil] at h; cases h
  | m + 1, d, ts, i, .mk nms lo hi inn, hm, h1, h0, h => by
    obtain ⟨e1, e2, e3, e4, e5⟩ := isL_iff.mp h
    have bl := by_len i d ts
    have sl := sizeLine_eq
    have nl : nms.length ≤ 1000 := by rw [e1, nms_len]; exact h1
    have nn : SmD (ltD .nil) ∧ okS (m + 2) (ltD .nil) := ⟨sm_non, trivial⟩
    have two : (SmD (ltD lo) ∧ okS (m + 2) (ltD lo)) ∧ (SmD (ltD hi) ∧ okS (m + 2) (ltD hi)) := by
      by_cases c : ts.length = 1
      · obtain ⟨rfl, rfl⟩ := e2 c
        exact ⟨nn, nn⟩
      · obtain ⟨a, b, c, e⟩ := e3 (by omega)
        exact ⟨isL_ok m d _ i lo (by rw [List.length_take]; omega) (by rw [List.length_take]; omega) (by rw [List.length_take]; omega) c, isL_ok m d _ i hi (by rw [List.length_drop]; omega) (by rw [List.length_drop]; omega) (by rw [List.length_drop]; omega) e⟩
    have three : SmD (ltD inn) ∧ okS (m + 2) (ltD inn) := by
      by_cases c : i + 1 < d
      · exact isL_ok m d _ (i + 1) inn (by omega) (by omega) (by omega) (e4 c)
      · rw [e5 c]
        exact nn
    constructor
    · refine .tup (by simp) fun x hx => ?_
      simp only [List.mem_cons, List.not_mem_nil, or_false] at hx
      rcases hx with rfl | rfl | rfl | rfl
      · exact sm_plc nl
      · exact two.1.1
      · exact two.2.1
      · exact three.1
    · refine ⟨by simp; omega, fun x hx => ?_⟩
      simp only [List.mem_cons, List.not_mem_nil, or_false] at hx
      rcases hx with rfl | rfl | rfl | rfl
      · exact okS_plc nl
      · exact two.1.2
      · exact two.2.2
      · exact three.2
theorem imp__law_layer (n : Nat) : ∀ ds Q, C__law_layer (n + 1) ds Q → B__law_layer n ds Q := by
  rintro ds Q ⟨a, s, x, ts, i, d, b, rfl, hx, ht, hi, d4, hn, q⟩
  refine ⟨rfl, ?_⟩
  have sl := sizeLine_eq
  have xf := rows_frz hx
  have bl := by_len i d ts
  have ok2 := ht.by (i := i)
  have t0 := ht.pos
  have t2 := ht.2.1
  refine seq_cut (fun ρ => ρ = [some (hd a s), some x, some (.int i), some (.int d), some (.bl b), some (.lst true ((byT i d ts).map thD)), none, none, none, none]) (fun R hR => ?_) ?_
  · simp only [xf, Bx.go]
    refine ⟨x, ts, i, d, rfl, hx, by omega, ht.2.2, hi, d4, ?_⟩
    simp only [xf, Bx.go]
    exact hR _ rfl
  rintro _ rfl
  generalize hz : byT i d ts = zs at *
  refine seq_cut (fun ρ => ρ = [some (hd a s), some x, some (.int i), some (.int d), some (.bl b), some (.lst true (zs.map thD)), some .non, some .non, some .non, none]) (fun R hR => ?_) ?_
  · simp only [Bx.go]
    exact hR _ rfl
  rintro _ rfl
  refine seq_cut (fun ρ => ∃ (a s : Int) (o : Bool) (lo hi : LT) (x9 : Option D), (ts.length = 1 → lo = .nil ∧ hi = .nil) ∧
    (1 < ts.length → 0 < lo.nm.length ∧ lo.nm.length < ts.length ∧ isL d (zs.take lo.nm.length) i (ltD lo) = true ∧ isL d (zs.drop lo.nm.length) i (ltD hi) = true) ∧
    (b = true → lo = (if h : 1 < ts.length then layT d (zs.take ((ts.length + 1) / 2)) i else .nil) ∧ hi = (if h : 1 < ts.length then layT d (zs.drop ((ts.length + 1) / 2)) i else .nil)) ∧
    ρ = [some (hd a s), some x, some (.int i), some (.int d), some (.bl b), some (.lst o (zs.map thD)), some (ltD lo), some (ltD hi), some .non, x9]) (fun R hR => ?_) ?_
  · simp only [Bx.go]
    refine pick_by (fun h => ?_) (fun h => ?_)
    · have h : 1 < ts.length := by have := of_decide_eq_true h; omega
      refine seq_cut (fun ρ => ρ = [some (hd a s), some x, some (.int i), some (.int d), some (.bl b), some (.lst true (zs.map thD)), some .non, some .non, some .non, some (.int ((ts.length + 1) / 2 : Nat))]) (fun R' hR' => ?_) ?_
      · simp only [Bx.go]
        refine ⟨⟨by decide, by decide⟩, ?_⟩
        exact hR' _ (by rw [bl]; push_cast; rfl)
      rintro _ rfl
      refine seq_cut (fun ρ => ∃ (a s : Int) (k : Nat), 1 ≤ k ∧ k < ts.length ∧ (b = true → k = (ts.length + 1) / 2) ∧ ρ = [some (hd a s), some x, some (.int i), some (.int d), some (.bl b), some (.lst true (zs.map thD)), some .non, some .non, some .non, some (.int k)]) (fun R' hR' => ?_) ?_
      · cases b
        · simp only [hd, Bx.go]
          refine ⟨a, s, (zs.length : Int) - 1, rfl, by omega, by omega, fun r a s h0 h1 => ?_⟩
          simp only [Bx.go]
          exact hR' _ ⟨a, s, 1 + r.toNat, by omega, by omega, fun h => (by cases h), by rw [show ((1 + r.toNat : Nat) : Int) = 1 + r by omega]; rfl⟩
        · simp only [Bx.go]
          exact hR' _ ⟨a, s, (ts.length + 1) / 2, by omega, by omega, fun _ => rfl, rfl⟩
      clear a s
      rintro _ ⟨a, s, k, k1, k2, kb, rfl⟩
      simp only [xf, hd, Bx.go]
      refine ⟨a, s, _, zs.take k, i, d, b, rfl, .inr (by rw [Zh.cut_take, List.map_take]), ok2.take (by omega), hi, d4, by rw [List.length_take]; omega, fun lo a s L1 e1 => ?_⟩
      simp only [xf, hd, ltD_frz, Bx.go]
      refine ⟨a, s, _, zs.drop k, i, d, b, rfl, .inr (by rw [Zh.cut_drop, List.map_drop]), ok2.drop (by omega), hi, d4, by rw [List.length_drop]; omega, fun hi' a s L2 e2 => ?_⟩
      simp only [xf, hd, ltD_frz, Bx.go]
      have lk : lo.nm.length = k := by rw [isL_nm L1, nms_len, List.length_take]; omega
      refine hR _ ⟨a, s, _, lo, hi', _, fun e => by omega, fun _ => ⟨by omega, by omega, by rw [lk]; exact L1, by rw [lk]; exact L2⟩, fun e => ?_, rfl⟩
      rw [dif_pos h, dif_pos h, ← kb e]
      exact ⟨e1 e, e2 e⟩
    · have h : ¬ 1 < ts.length := by have := of_decide_eq_false h; omega
      simp only [Bx.go]
      exact hR _ ⟨a, s, _, .nil, .nil, _, fun _ => ⟨rfl, rfl⟩, fun h' => absurd h' h, fun _ => by rw [dif_neg h, dif_neg h]; exact ⟨rfl, rfl⟩, rfl⟩
  clear a s
  rintro _ ⟨a, s, o, lo, hi', x9, c1, c2, c3, rfl⟩
  refine seq_cut (fun ρ => ∃ (a s : Int) (o : Bool) (inn : LT), (i + 1 < d → isL d zs (i + 1) (ltD inn) = true) ∧ (¬ i + 1 < d → inn = .nil) ∧ (b = true → inn = (if h : i + 1 < d then layT d zs (i + 1) else .nil)) ∧
    ρ = [some (hd a s), some x, some (.int i), some (.int d), some (.bl b), some (.lst o (zs.map thD)), some (ltD lo), some (ltD hi'), some (ltD inn), x9]) (fun R hR => ?_) ?_
  · simp only [Bx.go]
    refine pick_by (fun h => ?_) (fun h => ?_)
    · have h : i + 1 < d := by have := of_decide_eq_true h; omega
      simp only [hd, Bx.go]
      refine ⟨a, s, _, zs, i + 1, d, b, rfl, .inr rfl, ok2, h, d4, by omega, fun inn a s L3 e3 => ?_⟩
      simp only [hd, ltD_frz, Bx.go]
      exact hR _ ⟨a, s, _, inn, fun _ => L3, fun h' => absurd h h', fun e => by rw [dif_pos h]; exact e3 e, rfl⟩
    · have h : ¬ i + 1 < d := by have := of_decide_eq_false h; omega
      simp only [Bx.go]
      exact hR _ ⟨a, s, _, .nil, fun h' => absurd h' h, fun _ => rfl, fun _ => by rw [dif_neg h], rfl⟩
  clear a s o
  rintro _ ⟨a, s, o, inn, c4, c5, c6, rfl⟩
  simp only [hd, Bx.go]
  refine ⟨zs, rfl, by omega, ?_⟩
  have pf : (plc (nmsT zs)).frz = plc (nmsT zs) := rfl
  simp only [pf, ltD_frz, Bx.go]
  refine q (.mk (nmsT zs) lo hi' inn) a s ?_ ?_
  · rw [isL_iff, hz]
    exact ⟨rfl, c1, c2, c4, c5⟩
  · intro e
    rw [layT, hz, ← (c3 e).1, ← (c3 e).2, ← c6 e]
theorem by_pw (i d : Nat) (ts : List Th) : (byT i d ts).Pairwise (fun a b => dLe (rowD i d a) (rowD i d b) = true) := by
  have T := PySem.W.sortLe_total (PyProof.Rows.listOrd PyProof.Rows.itemOrd) false (fun t : Th => PySem.W.keyToks (rowD i d t).pd)
  exact List.pairwise_mergeSort (le := fun a b : Th => dLe (rowD i d a) (rowD i d b)) (fun a b c h1 h2 => T.trans a b c h1 h2) (fun a b => by
    rcases T.total a b with h | h
    · exact Bool.or_eq_true _ _ |>.mpr (.inl h)
    · exact Bool.or_eq_true _ _ |>.mpr (.inr h)) ts
theorem by_is {i d : Nat} {ts L : List Th} (hp : L.Perm ts) (hs : L.Pairwise (fun a b => dLe (rowD i d a) (rowD i d b) = true)) (ha : ∀ a ∈ ts, ∀ b ∈ ts, dLe (rowD i d a) (rowD i d b) = true → dLe (rowD i d b) (rowD i d a) = true → a = b) : byT i d ts = L :=
  List.Perm.eq_of_pairwise (le := fun a b => dLe (rowD i d a) (rowD i d b) = true) (fun a b h1 h2 l1 l2 => ha a (by_mem.mp h1) b (hp.mem_iff.mp h2) l1 l2) (by_pw i d ts) hs ((List.mergeSort_perm ts _).trans hp.symm)
end Zr
/-! answers of houses -/
namespace Zs
open PySem PySem.Spec PyProof.Rows L2 Bx Zb Zp Zm Zh Zf Zq Zr
def boxD (b : Bx1) : D := .tup (b.map sD)
inductive Wd where
  | count | sum | least | most | all | first | best | near
  deriving DecidableEq
def ws : Wd → Str
  | .count => "count" | .sum => "sum" | .least => "least" | .most => "most" | .all => "all" | .first => "first" | .best => "best" | .near => "near"
inductive Ask where
  | a0 (w : Wd) (b : Bx1) (h : w = .count ∨ w = .sum ∨ w = .least ∨ w = .most ∨ w = .all)
  | a1 (w : Wd) (b : Bx1) (k : Nat) (h : w = .first ∨ w = .best)
  | a2 (b : Bx1) (p : List Int) (k : Nat)
def Ask.wd : Ask → Wd
  | .a0 w _ _ => w
  | .a1 w _ _ _ => w
  | .a2 _ _ _ => .near
def Ask.box : Ask → Bx1
  | .a0 _ b _ => b
  | .a1 _ b _ _ => b
  | .a2 b _ _ => b
def askD : Ask → D
  | .a0 w b _ => .tup [.str (ws w), boxD b]
  | .a1 w b k _ => .tup [.str (ws w), boxD b, .int k]
  | .a2 b p k => .tup [.str (ws .near), boxD b, plc p, .int k]
/-- what is sorted by -/
def kyP (t : Th) : D := .tup [plc t.2.1, .int t.1]
def kyW (t : Th) : D := .tup [.int t.2.2, .int t.1]
def kyD (t : Th) : D := .tup [.int (-t.2.2), .int t.1]
def kyN (p : List Int) (t : Th) : D := .tup [.int (stepsL t.2.1 p), .int t.1, thD t]
def srt (ky : Th → D) (ts : List Th) : List Th := ts.mergeSort fun a b => dLe (ky a) (ky b)
theorem srt_len (ky : Th → D) (ts : List Th) : (srt ky ts).length = ts.length := List.length_mergeSort _
theorem srt_mem {ky : Th → D} {ts : List Th} {t : Th} : t ∈ srt ky ts ↔ t ∈ ts := List.mem_mergeSort
def nmF : List Th → D
  | [] => .non
  | t :: _ => .int t.1
/-- the answer among the things that fit -/
def ansT (ts : List Th) : Ask → D
  | .a0 .count _ _ => .int ts.length
  | .a0 .sum _ _ => .int (ts.map fun t => t.2.2).sum
  | .a0 .least _ _ => nmF (srt kyW ts)
  | .a0 .most _ _ => nmF (srt kyD ts)
  | .a0 .all _ _ => plc (nmsT (srt kyP ts))
  | .a1 .first _ k _ => plc (nmsT ((srt kyP ts).take k))
  | .a1 .best _ k _ => plc (nmsT ((srt kyD ts).take k))
  | .a2 _ p k => plc (nmsT ((srt (kyN p) ts).take k))
  | _ => .non
def C_by_place : PSpec := fun ds Q => ∃ t : Th, ds = [thD t] ∧ Q (kyP t) []
def C_by_worth : PSpec := fun ds Q => ∃ t : Th, ds = [thD t] ∧ Q (kyW t) []
def C_by_worth_down : PSpec := fun ds Q => ∃ t : Th, ds = [thD t] ∧ Q (kyD t) []
def lstD (ts : List Th) : D := .lst false (ts.map thD)
def C_in_order : PSpec := fun ds Q => ∃ ts : List Th, ds = [lstD ts] ∧ Q (.lst true ((srt kyP ts).map thD)) []
def C_best_first : PSpec := fun ds Q => ∃ ts : List Th, ds = [lstD ts] ∧ Q (.lst true ((srt kyD ts).map thD)) []
def C_nearest_first : PSpec := fun ds Q => ∃ (ts : List Th) (p : List Int), ds = [lstD ts, plc p] ∧ ts.length ≤ 300 ∧ (∀ t ∈ ts, t.2.1.length ≤ 1000) ∧ Q (.lst true ((srt (kyN p) ts).map thD)) []
abbrev C_names_of : PSpec := Zr.C_names_of
abbrev C_steps : PSpec := Zf.C_steps
abbrev C_things_in : PSpec := Zf.C_things_in
def C_name_of_first : PSpec := fun ds Q => ∃ ts : List Th, ds = [lstD ts] ∧ Q (nmF ts) []
def C_answer_of : PSpec := fun ds Q => ∃ (ts : List Th) (a : Ask), ds = [lstD ts, askD a] ∧ ts.length ≤ 300 ∧ (∀ t ∈ ts, t.2.1.length ≤ 1000) ∧ Q (ansT ts a) []
def C_answer : PSpec := fun ds Q => ∃ (d : Nat) (ts : List Th) (a : Ask), ds = [houseD d ts, askD a] ∧ ts.length ≤ 300 ∧ (∀ t ∈ ts, t.2.1.length ≤ 1000) ∧ a.box.length ≤ 1000 ∧ Q (ansT (fitT a.box ts) a) []
def C__law_in : PSpec := fun ds Q => ∃ (b : Bx1) (p : List Int), ds = [boxD b, plc p] ∧ b.length ≤ 1000 ∧ Q (.bl (fitB b p)) []
def w_by_place : DS :=
  (dRet (dTup (aCons (oVal (dBin gIx (oVar 0) (oVal (dC (.int 1))))) (aCons (oVal (dBin gIx (oVar 0) (oVal (dC (.int 0))))) aNil))))
abbrev B_by_place : PSpec := bodyW [] 1 1 w_by_place
def w_by_worth : DS :=
  (dRet (dTup (aCons (oVal (dBin gIx (oVar 0) (oVal (dC (.int 2))))) (aCons (oVal (dBin gIx (oVar 0) (oVal (dC (.int 0))))) aNil))))
abbrev B_by_worth : PSpec := bodyW [] 1 1 w_by_worth
def w_by_worth_down : DS :=
  (dRet (dTup (aCons (oVal (dUn gNeg (oVal (dBin gIx (oVar 0) (oVal (dC (.int 2))))))) (aCons (oVal (dBin gIx (oVar 0) (oVal (dC (.int 0))))) aNil))))
abbrev B_by_worth_down : PSpec := bodyW [] 1 1 w_by_worth_down
def w_in_order : DS :=
  (dRet (dCB (gSortK C_by_place) (aCons (oVar 0) aNil)))
abbrev B_in_order : PSpec := bodyW [] 1 1 w_in_order
def w_best_first : DS :=
  (dRet (dCB (gSortK C_by_worth_down) (aCons (oVar 0) aNil)))
abbrev B_best_first : PSpec := bodyW [] 1 1 w_best_first
def w_nearest_first : DS :=
  (dSeq (dAsg 2 (dCB gSorted (aCons (oVal (dComp (iOf (dVar 0)) [3] (gN 3) tAll (dTup (aCons (oVal (dCall C_steps (aCons (oVal (dBin gIx (oVar 3) (oVal (dC (.int 1))))) (aCons (oVar 1) aNil)))) (aCons (oVal (dBin gIx (oVar 3) (oVal (dC (.int 0))))) (aCons (oVar 3) aNil)))))) aNil)))
    (dRet (dComp (iOf (dVar 2)) [4, 5, 3] (gT (gsCons (gN 4) (gsCons (gN 5) (gsCons (gN 3) gsNil))) 3) tAll (dVar 3))))
abbrev B_nearest_first : PSpec := bodyW [] 6 2 w_nearest_first
def w_name_of_first : DS :=
  (dSeq (dIfS (tVal (dBin gEq (oVal (dCB gLen (aCons (oVar 0) aNil))) (oVal (dC (.int 0)))))
    (dRet (dC .non))
    dNext)
    (dRet (dBin gIx (oVal (dBin gIx (oVar 0) (oVal (dC (.int 0))))) (oVal (dC (.int 0))))))
abbrev B_name_of_first : PSpec := bodyW [] 1 1 w_name_of_first
def w_answer_of : DS :=
  (dSeq (dAsg 2 (dBin gIx (oVar 1) (oVal (dC (.int 0)))))
    (dSeq (dIfS (tVal (dBin gEq (oVar 2) (oVal (dC (.str "count")))))
    (dRet (dCB gLen (aCons (oVar 0) aNil)))
    dNext)
    (dSeq (dIfS (tVal (dBin gEq (oVar 2) (oVal (dC (.str "sum")))))
    (dRet (dCB gSum (aCons (oVal (dComp (iOf (dVar 0)) [3] (gN 3) tAll (dBin gIx (oVar 3) (oVal (dC (.int 2)))))) aNil)))
    dNext)
    (dSeq (dIfS (tVal (dBin gEq (oVar 2) (oVal (dC (.str "least")))))
    (dRet (dCall C_name_of_first (aCons (oVal (dCB (gSortK C_by_worth) (aCons (oVar 0) aNil))) aNil)))
    dNext)
    (dSeq (dIfS (tVal (dBin gEq (oVar 2) (oVal (dC (.str "most")))))
    (dRet (dCall C_name_of_first (aCons (oVal (dCall C_best_first (aCons (oVar 0) aNil))) aNil)))
    dNext)
    (dSeq (dIfS (tVal (dBin gEq (oVar 2) (oVal (dC (.str "all")))))
    (dRet (dCall C_names_of (aCons (oVal (dCall C_in_order (aCons (oVar 0) aNil))) aNil)))
    dNext)
    (dSeq (dIfS (tVal (dBin gEq (oVar 2) (oVal (dC (.str "first")))))
    (dRet (dCall C_names_of (aCons (oVal (dSl (oVal (dCall C_in_order (aCons (oVar 0) aNil))) pNo (pInt (dBin gIx (oVar 1) (oVal (dC (.int 2))))))) aNil)))
    dNext)
    (dSeq (dIfS (tVal (dBin gEq (oVar 2) (oVal (dC (.str "best")))))
    (dRet (dCall C_names_of (aCons (oVal (dSl (oVal (dCall C_best_first (aCons (oVar 0) aNil))) pNo (pInt (dBin gIx (oVar 1) (oVal (dC (.int 2))))))) aNil)))
    dNext)
    (dRet (dCall C_names_of (aCons (oVal (dSl (oVal (dCall C_nearest_first (aCons (oVar 0) (aCons (oVal (dBin gIx (oVar 1) (oVal (dC (.int 2))))) aNil)))) pNo (pInt (dBin gIx (oVar 1) (oVal (dC (.int 3))))))) aNil)))))))))))
abbrev B_answer_of : PSpec := bodyW [] 4 2 w_answer_of
def w_answer : DS :=
  (dRet (dCall C_answer_of (aCons (oVal (dCall C_things_in (aCons (oVar 0) (aCons (oVal (dBin gIx (oVar 1) (oVal (dC (.int 1))))) aNil)))) (aCons (oVar 1) aNil))))
abbrev B_answer : PSpec := bodyW [] 2 2 w_answer
def w__law_in : DS :=
  (dSeq (dFor (iZX (aCons (oVar 0) (aCons (oVar 1) aNil))) (gT (gsCons (gT (gsCons (gN 2) (gsCons (gN 3) gsNil)) 2) (gsCons (gN 4) gsNil)) 2)
    (dSeq (dIfS (tAnd (tVal (dBin gNotN (oVar 2) (oVal (dC .non)))) (tOr (tVal (dBin gLt (oVar 4) (oVal (dBin gIx (oVar 2) (oVal (dC (.int 0))))))) (tAnd (tVal (dBin gEq (oVar 4) (oVal (dBin gIx (oVar 2) (oVal (dC (.int 0))))))) (tNot (tVal (dBin gIx (oVar 2) (oVal (dC (.int 1)))))))))
    (dRet (dC (.bl false)))
    dNext)
    (dIfS (tAnd (tVal (dBin gNotN (oVar 3) (oVal (dC .non)))) (tOr (tVal (dBin gGt (oVar 4) (oVal (dBin gIx (oVar 3) (oVal (dC (.int 0))))))) (tAnd (tVal (dBin gEq (oVar 4) (oVal (dBin gIx (oVar 3) (oVal (dC (.int 0))))))) (tNot (tVal (dBin gIx (oVar 3) (oVal (dC (.int 1)))))))))
    (dRet (dC (.bl false)))
    dNext)))
    (dRet (dC (.bl true))))
abbrev B__law_in : PSpec := bodyW [] 5 2 w__law_in
theorem th0 {x y z : D} : atI [x, y, z] 0 = some x := rfl
theorem th1 {x y z : D} : atI [x, y, z] 1 = some y := rfl
theorem th2 {x y z : D} : atI [x, y, z] 2 = some z := rfl
theorem imp_by_place : ∀ ds Q, C_by_place ds Q → B_by_place ds Q := by
  rintro ds Q ⟨t, rfl, q⟩
  refine ⟨rfl, ?_⟩
  simp only [w_by_place, thD, th0, th1, Bx.go]
  exact q
theorem imp_by_worth : ∀ ds Q, C_by_worth ds Q → B_by_worth ds Q := by
  rintro ds Q ⟨t, rfl, q⟩
  refine ⟨rfl, ?_⟩
  simp only [w_by_worth, thD, th0, th2, Bx.go]
  exact q
theorem imp_by_worth_down : ∀ ds Q, C_by_worth_down ds Q → B_by_worth_down ds Q := by
  rintro ds Q ⟨t, rfl, q⟩
  refine ⟨rfl, ?_⟩
  simp only [w_by_worth_down, thD, th0, th2, Bx.go]
  exact q
def kfP : D → D
  | .tup [n, p, _] => .tup [p, n]
  | d => d
def kfW : D → D
  | .tup [n, _, w] => .tup [w, n]
  | d => d
def kfD : D → D
  | .tup [n, _, .int w] => .tup [.int (-w), n]
  | d => d
theorem sortk {kf : D → D} {ky : Th → D} (h : ∀ t, kf (thD t) = ky t) (ts : List Th) : ((ts.map thD).mergeSort fun a b => dLe (kf a) (kf b)) = (srt ky ts).map thD :=
  (List.map_mergeSort (r := fun a b => dLe (ky a) (ky b)) (s := fun a b => dLe (kf a) (kf b)) (f := thD) (fun a _ b _ => by rw [h, h])).symm
theorem srtOk_of {ky : Th → D} (ha : ∀ t u, PySem.W.alike (ky t).pd (ky u).pd = true) (ht : ∀ t, ∃ x xs, (ky t).pd = .tuple (x :: xs)) (hd : ∀ t, (ky t).pd.depth ≤ 60) (ts : List Th) : srtOk (ts.map ky) := by
  refine ⟨fun x hx y hy => ?_, .inl fun x hx => ?_, fun x hx => ?_⟩
  · rw [List.map_map] at hx hy
    obtain ⟨t, _, rfl⟩ := List.mem_map.mp hx
    obtain ⟨u, _, rfl⟩ := List.mem_map.mp hy
    exact ha t u
  · rw [List.map_map] at hx
    obtain ⟨t, _, rfl⟩ := List.mem_map.mp hx
    obtain ⟨a, b, e⟩ := ht t
    exact ⟨_, _, e⟩
  · obtain ⟨t, _, rfl⟩ := List.mem_map.mp hx
    exact hd t
theorem kyP_pd (t : Th) : (kyP t).pd = .tuple [.tuple (t.2.1.map .int), .int t.1] := by simp only [kyP, plc, D.pd, D.pds, pds_ints]
theorem kyW_pd (t : Th) : (kyW t).pd = .tuple [.int t.2.2, .int t.1] := by simp only [kyW, D.pd, D.pds]
theorem kyD_pd (t : Th) : (kyD t).pd = .tuple [.int (-t.2.2), .int t.1] := by simp only [kyD, D.pd, D.pds]
theorem kyN_pd (p : List Int) (t : Th) : (kyN p t).pd = .tuple [.int (stepsL t.2.1 p), .int t.1, .tuple [.int t.1, .tuple (t.2.1.map .int), .int t.2.2]] := by simp only [kyN, thD, D.pd, D.pds, pds_ints]
theorem okP_srt (ts : List Th) : srtOk (ts.map kyP) := srtOk_of (fun t u => by simp only [kyP_pd, PySem.W.alike, PySem.W.alikeAll, PySem.W.alike_ints, Bool.and_true]) (fun t => ⟨_, _, kyP_pd t⟩) (fun t => by
  have : okE 2 (kyP t) := fun x hx => by
    simp only [List.mem_cons, List.not_mem_nil, or_false] at hx
    rcases hx with rfl | rfl
    · intro y hy
      obtain ⟨j, _, rfl⟩ := List.mem_map.mp hy; trivial
    · trivial
  have := this.dep
  omega) ts
theorem okW_srt (ts : List Th) : srtOk (ts.map kyW) := srtOk_of (fun t u => by simp only [kyW_pd, PySem.W.alike, PySem.W.alikeAll, Bool.and_true]) (fun t => ⟨_, _, kyW_pd t⟩) (fun t => by
  rw [kyW_pd]
  simp [PyData.depth, PyData.depthAll]) ts
theorem okD_srt (ts : List Th) : srtOk (ts.map kyD) := srtOk_of (fun t u => by simp only [kyD_pd, PySem.W.alike, PySem.W.alikeAll, Bool.and_true]) (fun t => ⟨_, _, kyD_pd t⟩) (fun t => by
  rw [kyD_pd]
  simp [PyData.depth, PyData.depthAll]) ts
theorem okN_srt (p : List Int) (ts : List Th) : srtOk (ts.map (kyN p)) := srtOk_of (fun t u => by simp only [kyN_pd, PySem.W.alike, PySem.W.alikeAll, PySem.W.alike_ints, Bool.and_true]) (fun t => ⟨_, _, kyN_pd p t⟩) (fun t => by
  have : okE 3 (kyN p t) := fun x hx => by
    simp only [List.mem_cons, List.not_mem_nil, or_false] at hx
    rcases hx with rfl | rfl | rfl
    · trivial
    · trivial
    · exact okE_th t
  have := this.dep
  omega) ts
theorem kmap {kf : D → D} {ky : Th → D} (h : ∀ t, kf (thD t) = ky t) (ts : List Th) : (ts.map thD).map kf = ts.map ky := by
  rw [List.map_map]
  exact List.map_congr_left fun t _ => h t
/-- sorted by a key, of things -/
theorem sk_of {C : PSpec} {kf : D → D} {ky : Th → D} (hC : ∀ t Q, Q (ky t) [] → C [thD t] Q) (h : ∀ t, kf (thD t) = ky t) (ho : ∀ t, (ky t).own = false) (hs : ∀ ts : List Th, srtOk (ts.map ky)) (ts : List Th) {k : D → Prop} (q : k (.lst true ((srt ky ts).map thD))) :
    ∃ kf : D → D, keyOk C kf (ts.map thD) ∧ srtOk ((ts.map thD).map kf) ∧ k (.lst true ((ts.map thD).mergeSort fun a b => dLe (kf a) (kf b))) := by
  refine ⟨kf, fun x hx => ?_, by rw [kmap h]; exact hs ts, by rw [sortk h]; exact q⟩
  obtain ⟨t, _, rfl⟩ := List.mem_map.mp hx
  rw [h]
  exact ⟨hC t _ rfl, ho t⟩
theorem imp_in_order : ∀ ds Q, C_in_order ds Q → B_in_order ds Q := by
  rintro ds Q ⟨ts, rfl, q⟩
  refine ⟨rfl, ?_⟩
  simp only [w_in_order, lstD, Bx.go]
  exact sk_of (k := fun d => Q d []) (C := C_by_place) (kf := kfP) (fun t Q h => ⟨t, rfl, h⟩) (fun _ => rfl) (fun _ => rfl) okP_srt ts q
theorem imp_best_first : ∀ ds Q, C_best_first ds Q → B_best_first ds Q := by
  rintro ds Q ⟨ts, rfl, q⟩
  refine ⟨rfl, ?_⟩
  simp only [w_best_first, lstD, Bx.go]
  exact sk_of (k := fun d => Q d []) (C := C_by_worth_down) (kf := kfD) (fun t Q h => ⟨t, rfl, h⟩) (fun _ => rfl) (fun _ => rfl) okD_srt ts q
theorem imp_name_of_first : ∀ ds Q, C_name_of_first ds Q → B_name_of_first ds Q := by
  rintro ds Q ⟨ts, rfl, q⟩
  refine ⟨rfl, ?_⟩
  cases ts with
  | nil =>
    simp only [w_name_of_first, lstD, Bx.go]
    refine ⟨eqOk_int _ _, ?_⟩
    rw [eqv_int]
    exact q
  | cons t ts =>
    simp only [w_name_of_first, lstD, at0, thD, th0, Bx.go]
    refine ⟨eqOk_int _ _, ?_⟩
    rw [eqv_int, show ((((ts.length + 1 : Nat) : Int)) == 0) = false by simp; omega]
    simp only [at0, th0, Bx.go]
    exact q
theorem imp_nearest_first : ∀ ds Q, C_nearest_first ds Q → B_nearest_first ds Q := by
  rintro ds Q ⟨ts, p, rfl, tl, ht, q⟩
  refine ⟨rfl, ?_⟩
  have sl := sizeLine_eq
  have pf : (plc p).frz = plc p := rfl
  simp only [w_nearest_first, lstD, Bx.go]
  refine ⟨by omega, co_map ts thD (kyN p) (fun t hm acc N hN => ?_) ?_⟩
  · simp only [thD, th0, th1, pf, Bx.go]
    refine ⟨t.2.1, p, rfl, ht t hm, ?_⟩
    simp only [pf, Bx.go]
    exact hN
  · simp only [backR, Bx.go]
    refine ⟨okN_srt p ts, ?_⟩
    rw [show (ts.map (kyN p)).mergeSort dLe = (srt (kyN p) ts).map (kyN p) from (List.map_mergeSort (r := fun a b => dLe (kyN p a) (kyN p b)) (s := dLe) (f := kyN p) (fun a _ b _ => rfl)).symm]
    refine ⟨by rw [List.length_map, srt_len]; omega, co_map (srt (kyN p) ts) (kyN p) thD (fun t hm acc N hN => ?_) ?_⟩
    · simp only [kyN, thD, Bx.go]
      exact hN
    · simp only [backR, Bx.go]
      exact q
/-! ### words -/
theorem ws_ok : ∀ w : Wd, PyData.strOk (ws w) = true := by intro w; cases w <;> decide +kernel
theorem ws_eq (a b : Wd) : (ws a == ws b) = decide (a = b) := by cases a <;> cases b <;> decide +kernel
theorem o_w (a b : Wd) : D.eqOk (.str (ws a)) (.str (ws b)) = True := eq_true (eqOk_str (by simp only [PyData.canLay0]; exact ws_ok a) (by simp only [PyData.canLay0]; exact ws_ok b))
theorem v_w (a b : Wd) : D.eqv (.str (ws a)) (.str (ws b)) = decide (a = b) := by rw [eqv_str, ws_eq]
section
variable (a : Wd)
theorem o_count : D.eqOk (.str (ws a)) (.str "count") = True := o_w a .count
theorem v_count : D.eqv (.str (ws a)) (.str "count") = decide (a = .count) := v_w a .count
theorem o_sum : D.eqOk (.str (ws a)) (.str "sum") = True := o_w a .sum
theorem v_sum : D.eqv (.str (ws a)) (.str "sum") = decide (a = .sum) := v_w a .sum
theorem o_least : D.eqOk (.str (ws a)) (.str "least") = True := o_w a .least
theorem v_least : D.eqv (.str (ws a)) (.str "least") = decide (a = .least) := v_w a .least
theorem o_most : D.eqOk (.str (ws a)) (.str "most") = True := o_w a .most
theorem v_most : D.eqv (.str (ws a)) (.str "most") = decide (a = .most) := v_w a .most
theorem o_all : D.eqOk (.str (ws a)) (.str "all") = True := o_w a .all
theorem v_all : D.eqv (.str (ws a)) (.str "all") = decide (a = .all) := v_w a .all
theorem o_first : D.eqOk (.str (ws a)) (.str "first") = True := o_w a .first
theorem v_first : D.eqv (.str (ws a)) (.str "first") = decide (a = .first) := v_w a .first
theorem o_best : D.eqOk (.str (ws a)) (.str "best") = True := o_w a .best
theorem v_best : D.eqv (.str (ws a)) (.str "best") = decide (a = .best) := v_w a .best
theorem o_near : D.eqOk (.str (ws a)) (.str "near") = True := o_w a .near
theorem v_near : D.eqv (.str (ws a)) (.str "near") = decide (a = .near) := v_w a .near
end
theorem askD_frz (a : Ask) : (askD a).frz = askD a := by cases a <;> rfl
theorem plc_frz (l : List Int) : (plc l).frz = plc l := rfl
theorem boxD_frz (b : Bx1) : (boxD b).frz = boxD b := rfl
theorem i20 {x y : D} : atI [x, y] 0 = some x := rfl
theorem i21 {x y : D} : atI [x, y] 1 = some y := rfl
theorem i40 {x y z w : D} : atI [x, y, z, w] 0 = some x := rfl
theorem i41 {x y z w : D} : atI [x, y, z, w] 1 = some y := rfl
theorem i42 {x y z w : D} : atI [x, y, z, w] 2 = some z := rfl
theorem i43 {x y z w : D} : atI [x, y, z, w] 3 = some w := rfl
theorem cut_th (ts : List Th) (k : Nat) : Bx.cutD (ts.map thD) none (some (k : Int)) = (ts.take k).map thD := by rw [Zh.cut_take, List.map_take]
theorem imp_answer_of : ∀ ds Q, C_answer_of ds Q → B_answer_of ds Q := by
  rintro ds Q ⟨ts, a, rfl, tl, ht, q⟩
  refine ⟨rfl, ?_⟩
  have sl := sizeLine_eq
  refine seq_cut (fun ρ => ρ = [some (lstD ts), some (askD a), some (.str (ws a.wd)), none]) (fun R hR => ?_) ?_
  · cases a <;> (simp only [askD, Ask.wd, i20, th0, i40, Bx.go]; exact hR _ rfl)
  rintro _ rfl
  have lf : (lstD ts).frz = lstD ts := rfl
  have tk : ∀ (ky : Th → D) (k : Nat), ((srt ky ts).take k).length ≤ 300 := fun ky k => by rw [List.length_take, srt_len]; omega
  simp only [o_count, o_sum, o_least, o_most, o_all, o_first, o_best, v_count, v_sum, v_least, v_most, v_all, v_first, v_best, Bx.go]
  cases a with
  | a2 b p k =>
    simp only [o_count, o_sum, o_least, o_most, o_all, o_first, o_best, v_count, v_sum, v_least, v_most, v_all, v_first, v_best, Ask.wd, reduceCtorEq, decide_false, askD, i42, i43, plc_frz, lf, Bx.go]
    refine ⟨ts, p, rfl, tl, ht, ?_⟩
    simp only [askD, i43, Bx.go]
    rw [cut_th]
    refine ⟨_, rfl, tk _ _, ?_⟩
    simp only [Bx.go]
    exact q
  | a1 w b k h =>
    rcases h with rfl | rfl
    · simp only [o_count, o_sum, o_least, o_most, o_all, o_first, o_best, v_count, v_sum, v_least, v_most, v_all, v_first, v_best, Ask.wd, reduceCtorEq, decide_false, decide_true, askD, th2, lf, Bx.go]
      refine ⟨ts, rfl, ?_⟩
      simp only [askD, th2, Bx.go]
      rw [cut_th]
      refine ⟨_, rfl, tk _ _, ?_⟩
      simp only [Bx.go]
      exact q
    · simp only [o_count, o_sum, o_least, o_most, o_all, o_first, o_best, v_count, v_sum, v_least, v_most, v_all, v_first, v_best, Ask.wd, reduceCtorEq, decide_false, decide_true, askD, th2, lf, Bx.go]
      refine ⟨ts, rfl, ?_⟩
      simp only [askD, th2, Bx.go]
      rw [cut_th]
      refine ⟨_, rfl, tk _ _, ?_⟩
      simp only [Bx.go]
      exact q
  | a0 w b h =>
    rcases h with rfl | rfl | rfl | rfl | rfl
    · simp only [o_count, o_sum, o_least, o_most, o_all, o_first, o_best, v_count, v_sum, v_least, v_most, v_all, v_first, v_best, Ask.wd, decide_true, lstD, Bx.go]
      exact q
    · simp only [o_count, o_sum, o_least, o_most, o_all, o_first, o_best, v_count, v_sum, v_least, v_most, v_all, v_first, v_best, Ask.wd, reduceCtorEq, decide_false, decide_true, lstD, Bx.go]
      refine ⟨by omega, co_map ts thD (fun t => .int t.2.2) (fun t hm acc N hN => ?_) ?_⟩
      · simp only [thD, th2, Bx.go]
        exact hN
      · simp only [backR, asInts_f (fun t : Th => t.2.2), Bx.go]
        exact q
    · simp only [o_count, o_sum, o_least, o_most, o_all, o_first, o_best, v_count, v_sum, v_least, v_most, v_all, v_first, v_best, Ask.wd, reduceCtorEq, decide_false, decide_true, lstD, Bx.go]
      obtain ⟨kf, h1, h2, h3⟩ := sk_of (k := fun d => d = .lst true ((srt kyW ts).map thD)) (C := C_by_worth) (kf := kfW) (fun t Q h => ⟨t, rfl, h⟩) (fun _ => rfl) (fun _ => rfl) okW_srt ts rfl
      refine ⟨kf, h1, h2, ?_⟩
      injection h3 with _ h3
      rw [h3]
      refine ⟨_, rfl, ?_⟩
      simp only [Bx.go]
      exact q
    · simp only [o_count, o_sum, o_least, o_most, o_all, o_first, o_best, v_count, v_sum, v_least, v_most, v_all, v_first, v_best, Ask.wd, reduceCtorEq, decide_false, decide_true, lf, Bx.go]
      refine ⟨ts, rfl, ?_⟩
      simp only [Bx.go]
      refine ⟨_, rfl, ?_⟩
      simp only [Bx.go]
      exact q
    · simp only [o_count, o_sum, o_least, o_most, o_all, o_first, o_best, v_count, v_sum, v_least, v_most, v_all, v_first, v_best, Ask.wd, reduceCtorEq, decide_false, decide_true, lf, Bx.go]
      refine ⟨ts, rfl, ?_⟩
      simp only [Bx.go]
      refine ⟨_, rfl, by rw [srt_len]; exact tl, ?_⟩
      simp only [Bx.go]
      exact q
theorem imp_answer : ∀ ds Q, C_answer ds Q → B_answer ds Q := by
  rintro ds Q ⟨d, ts, a, rfl, tl, ht, hb, q⟩
  refine ⟨rfl, ?_⟩
  have sl := sizeLine_eq
  have hz : (houseD d ts).frz = houseD d ts := rfl
  have go : ∀ a : Ask, a.box.length ≤ 1000 → Q (ansT (fitT a.box ts) a) [] → (∃ x, askD a = .tup x ∧ atI x 1 = some (boxD a.box)) → w_answer (endsOf [] Q) (initR 2 [houseD d ts, askD a]) := by
    rintro a hb q ⟨x, e1, e2⟩
    simp only [w_answer, askD_frz, Bx.go]
    rw [e1]
    simp only [e2, boxD_frz, Bx.go]
    refine ⟨d, ts, a.box, rfl, by omega, hb, ?_⟩
    rw [← e1]
    simp only [askD_frz, Bx.go]
    refine ⟨fitT a.box ts, a, rfl, ?_, fun t h => ht t (List.mem_filter.mp h).1, ?_⟩
    · exact Nat.le_trans (List.length_filter_le _ _) tl
    · simp only [Bx.go]
      exact q
  exact go a hb q (by cases a <;> exact ⟨_, rfl, rfl⟩)
theorem imp__law_in : ∀ ds Q, C__law_in ds Q → B__law_in ds Q := by
  rintro ds Q ⟨b, p, rfl, hb, q⟩
  refine ⟨rfl, ?_⟩
  have sl := sizeLine_eq
  have ef : ∀ e : Eg, (eD e).frz = eD e := fun e => by cases e <;> rfl
  have fz : ∀ (a b : Option Eg) (k : DS) , True := fun _ _ _ => trivial
  have key : fitB b p = (b.zip p).all fun x => fl x.1.1 x.2 && fh x.1.2 x.2 := by
    clear q hb
    induction b generalizing p with
    | nil => rfl
    | cons s b ih =>
      cases p with
      | nil => rfl
      | cons n p => simp only [fitB, List.zip_cons_cons, List.all_cons, ih]
  simp only [w__law_in, boxD, plc, Bx.go]
  rw [zipD_map sD D.int b p]
  refine for_each (b.zip p) _ (fun dn ρ => (dn.all fun x => fl x.1.1 x.2 && fh x.1.2 x.2) = true ∧ ∃ x2 x3 x4 : Option D, ρ = [some (.tup (b.map sD)), some (.tup (p.map .int)), x2, x3, x4]) ⟨rfl, _, _, _, rfl⟩ ?_ ?_
  · rintro dn ⟨⟨lo, hi⟩, n⟩ r ρ N e ⟨hd, x2, x3, x4, rfl⟩ hN
    have bad : (fl lo n && fh hi n) = false → Q (.bl false) [] := fun h => by
      have : fitB b p = false := by
        rw [key, e]
        simp only [List.all_append, List.all_cons, h, Bool.false_and, Bool.and_false]
      rwa [this] at q
    have good : (fl lo n && fh hi n) = true → N [some (.tup (b.map sD)), some (.tup (p.map .int)), some (eD lo), some (eD hi), some (.int n)] := fun h => hN _ ⟨by
      simp only [List.all_append, List.all_cons, List.all_nil, hd, h, Bool.and_true], _, _, _, rfl⟩
    simp only [sD, ef, u1_gT, u2_gT, u1_gsCons, u2_gsCons, u1_gsNil, u2_gsNil, u1_kGs, u1_gN, u1_kForB, rset_s, rset_0, rget_s, rget_0, D.seq, D.sql, u_onSome_some, frz_tup, frz_int, frz_bl, frz_lst, frz_str, frz_non, frz_scr, List.length_cons, List.length_nil, List.map_cons, List.map_nil, Option.bind_some, true_and, and_true]
    refine seq_cut (fun ρ => fl lo n = true ∧ ρ = [some (.tup (b.map sD)), some (.tup (p.map .int)), some (eD lo), some (eD hi), some (.int n)]) (fun R hR => ?_) ?_
    · cases lo with
      | none => simp only [eD, Bx.go]; exact hR _ ⟨rfl, rfl⟩
      | some w =>
        obtain ⟨x, o⟩ := w
        have ex : fl (some (x, o)) n = (decide (x < n) || ((n == x) && o)) := rfl
        simp only [eD, i20, i21, Bx.go]
        refine pick_by (fun h => ?_) (fun h => ?_)
        · simp only [Bx.go]
          exact bad (by rw [ex]; have := of_decide_eq_true h; simp; intro z; omega)
        have h := of_decide_eq_false h
        simp only [Bx.go]
        refine ⟨eqOk_int _ _, ?_⟩
        rw [eqv_int]
        refine pick_by (fun h2 => ?_) (fun h2 => ?_)
        · simp only [i21, Bx.go]
          cases o
          · simp only [Bx.go]
            exact bad (by rw [ex]; simp at h2 ⊢; omega)
          · simp only [Bx.go]
            exact hR _ ⟨by rw [ex]; simp at h2 ⊢; omega, rfl⟩
        · simp only [Bx.go]
          exact hR _ ⟨by rw [ex]; simp at h2 ⊢; omega, rfl⟩
    rintro _ ⟨h1, rfl⟩
    cases hi with
    | none => simp only [eD, Bx.go]; exact good (by rw [h1]; rfl)
    | some w =>
      obtain ⟨x, o⟩ := w
      have ex : fh (some (x, o)) n = (decide (n < x) || ((n == x) && o)) := rfl
      simp only [eD, i20, i21, Bx.go]
      refine pick_by (fun h => ?_) (fun h => ?_)
      · simp only [Bx.go]
        exact bad (by rw [ex]; have := of_decide_eq_true h; simp; intro _; exact ⟨by omega, fun z => by omega⟩)
      have h := of_decide_eq_false h
      simp only [Bx.go]
      refine ⟨eqOk_int _ _, ?_⟩
      rw [eqv_int]
      refine pick_by (fun h2 => ?_) (fun h2 => ?_)
      · simp only [i21, Bx.go]
        cases o
        · simp only [Bx.go]
          exact bad (by rw [ex]; simp at h2 ⊢; omega)
        · simp only [Bx.go]
          exact good (by rw [h1, ex]; simp at h2 ⊢; omega)
      · simp only [Bx.go]
        exact good (by rw [h1, ex]; simp at h2 ⊢; omega)
  · rintro ρ ⟨hd, x2, x3, x4, rfl⟩
    simp only [Bx.go]
    rw [key, hd] at q
    exact q
end Zs
namespace K10
open PySem PySem.Spec PyProof.Rows L2 Bx
/-! the text by places -/
abbrev topS (i : Nat) : Stmt := PySem.Challenge.pw_boxlayers_k10_counts_sums_and_ends.main.body.getD i (.Pass ⟨0, 0, 0, 0⟩)
abbrev s_fits_low : Stmt := topS 1
abbrev N_fits_low : List Str := ["low", "number"]
abbrev P_fits_low : List Str := ["low", "number"]
theorem sc_fits_low : FnScope N_fits_low P_fits_low (defScope s_fits_low) := ⟨rfl, rfl, rfl, by decide +kernel, rfl, by decide +kernel, by decide +kernel⟩
abbrev s_fits_high : Stmt := topS 2
abbrev N_fits_high : List Str := ["high", "number"]
abbrev P_fits_high : List Str := ["high", "number"]
theorem sc_fits_high : FnScope N_fits_high P_fits_high (defScope s_fits_high) := ⟨rfl, rfl, rfl, by decide +kernel, rfl, by decide +kernel, by decide +kernel⟩
abbrev s_fits_span : Stmt := topS 3
abbrev N_fits_span : List Str := ["span", "number"]
abbrev P_fits_span : List Str := ["span", "number"]
theorem sc_fits_span : FnScope N_fits_span P_fits_span (defScope s_fits_span) := ⟨rfl, rfl, rfl, by decide +kernel, rfl, by decide +kernel, by decide +kernel⟩
abbrev s_fits : Stmt := topS 4
abbrev N_fits : List Str := ["box", "place", "span", "number"]
abbrev P_fits : List Str := ["box", "place"]
theorem sc_fits : FnScope N_fits P_fits (defScope s_fits) := ⟨rfl, rfl, rfl, by decide +kernel, rfl, by decide +kernel, by decide +kernel⟩
abbrev s_steps : Stmt := topS 6
abbrev N_steps : List Str := ["one", "other", "number", "its"]
abbrev P_steps : List Str := ["one", "other"]
theorem sc_steps : FnScope N_steps P_steps (defScope s_steps) := ⟨rfl, rfl, rfl, by decide +kernel, rfl, by decide +kernel, by decide +kernel⟩
abbrev s_things_in : Stmt := topS 8
abbrev N_things_in : List Str := ["house", "box", "thing"]
abbrev P_things_in : List Str := ["house", "box"]
theorem sc_things_in : FnScope N_things_in P_things_in (defScope s_things_in) := ⟨rfl, rfl, rfl, by decide +kernel, rfl, by decide +kernel, by decide +kernel⟩
abbrev s_by_place : Stmt := topS 10
abbrev N_by_place : List Str := ["thing"]
abbrev P_by_place : List Str := ["thing"]
theorem sc_by_place : FnScope N_by_place P_by_place (defScope s_by_place) := ⟨rfl, rfl, rfl, by decide +kernel, rfl, by decide +kernel, by decide +kernel⟩
abbrev s_by_worth : Stmt := topS 11
abbrev N_by_worth : List Str := ["thing"]
abbrev P_by_worth : List Str := ["thing"]
theorem sc_by_worth : FnScope N_by_worth P_by_worth (defScope s_by_worth) := ⟨rfl, rfl, rfl, by decide +kernel, rfl, by decide +kernel, by decide +kernel⟩
abbrev s_by_worth_down : Stmt := topS 12
abbrev N_by_worth_down : List Str := ["thing"]
abbrev P_by_worth_down : List Str := ["thing"]
theorem sc_by_worth_down : FnScope N_by_worth_down P_by_worth_down (defScope s_by_worth_down) := ⟨rfl, rfl, rfl, by decide +kernel, rfl, by decide +kernel, by decide +kernel⟩
abbrev s_names_of : Stmt := topS 13
abbrev N_names_of : List Str := ["things", "thing"]
abbrev P_names_of : List Str := ["things"]
theorem sc_names_of : FnScope N_names_of P_names_of (defScope s_names_of) := ⟨rfl, rfl, rfl, by decide +kernel, rfl, by decide +kernel, by decide +kernel⟩
abbrev s_in_order : Stmt := topS 14
abbrev N_in_order : List Str := ["things"]
abbrev P_in_order : List Str := ["things"]
theorem sc_in_order : FnScope N_in_order P_in_order (defScope s_in_order) := ⟨rfl, rfl, rfl, by decide +kernel, rfl, by decide +kernel, by decide +kernel⟩
abbrev s_best_first : Stmt := topS 15
abbrev N_best_first : List Str := ["things"]
abbrev P_best_first : List Str := ["things"]
theorem sc_best_first : FnScope N_best_first P_best_first (defScope s_best_first) := ⟨rfl, rfl, rfl, by decide +kernel, rfl, by decide +kernel, by decide +kernel⟩
abbrev s_nearest_first : Stmt := topS 16
abbrev N_nearest_first : List Str := ["things", "place", "rows", "thing", "far", "name"]
abbrev P_nearest_first : List Str := ["things", "place"]
theorem sc_nearest_first : FnScope N_nearest_first P_nearest_first (defScope s_nearest_first) := ⟨rfl, rfl, rfl, by decide +kernel, rfl, by decide +kernel, by decide +kernel⟩
abbrev s_name_of_first : Stmt := topS 17
abbrev N_name_of_first : List Str := ["things"]
abbrev P_name_of_first : List Str := ["things"]
theorem sc_name_of_first : FnScope N_name_of_first P_name_of_first (defScope s_name_of_first) := ⟨rfl, rfl, rfl, by decide +kernel, rfl, by decide +kernel, by decide +kernel⟩
abbrev s_answer_of : Stmt := topS 18
abbrev N_answer_of : List Str := ["things", "ask", "word", "thing"]
abbrev P_answer_of : List Str := ["things", "ask"]
theorem sc_answer_of : FnScope N_answer_of P_answer_of (defScope s_answer_of) := ⟨rfl, rfl, rfl, by decide +kernel, rfl, by decide +kernel, by decide +kernel⟩
abbrev s_answer : Stmt := topS 19
abbrev N_answer : List Str := ["house", "ask"]
abbrev P_answer : List Str := ["house", "ask"]
theorem sc_answer : FnScope N_answer P_answer (defScope s_answer) := ⟨rfl, rfl, rfl, by decide +kernel, rfl, by decide +kernel, by decide +kernel⟩
abbrev s__law_hand : Stmt := topS 21
abbrev N__law_hand : List Str := ["_law_script", "_law_state", "_law_k", "_law_cell", "_law_far", "_law_one"]
abbrev P__law_hand : List Str := ["_law_script"]
theorem sc__law_hand : FnScope N__law_hand P__law_hand (defScope s__law_hand) := ⟨rfl, rfl, rfl, by decide +kernel, rfl, by decide +kernel, by decide +kernel⟩
abbrev s__law_take : Stmt := topS 22
abbrev N__law_take : List Str := ["_law_state", "_law_many", "_law_mixed", "_law_digit"]
abbrev P__law_take : List Str := ["_law_state", "_law_many"]
theorem sc__law_take : FnScope N__law_take P__law_take (defScope s__law_take) := ⟨rfl, rfl, rfl, by decide +kernel, rfl, by decide +kernel, by decide +kernel⟩
abbrev s__law_pool : Stmt := topS 23
abbrev N__law_pool : List Str := ["_law_state", "_law_first", "_law_apart", "_law_k"]
abbrev P__law_pool : List Str := ["_law_state"]
theorem sc__law_pool : FnScope N__law_pool P__law_pool (defScope s__law_pool) := ⟨rfl, rfl, rfl, by decide +kernel, rfl, by decide +kernel, by decide +kernel⟩
abbrev s__law_house : Stmt := topS 24
abbrev N__law_house : List Str := ["_law_state", "_law_d", "_law_most", "_law_pools", "_law_rows", "_law_worths", "_law_many", "_law_name", "_law_things", "_law_k", "_law_place", "_law_i", "_law_pool_here"]
abbrev P__law_house : List Str := ["_law_state", "_law_d", "_law_most"]
theorem sc__law_house : FnScope N__law_house P__law_house (defScope s__law_house) := ⟨rfl, rfl, rfl, by decide +kernel, rfl, by decide +kernel, by decide +kernel⟩
abbrev s__law_end : Stmt := topS 25
abbrev N__law_end : List Str := ["_law_state", "_law_pool_here", "_law_number"]
abbrev P__law_end : List Str := ["_law_state", "_law_pool_here"]
theorem sc__law_end : FnScope N__law_end P__law_end (defScope s__law_end) := ⟨rfl, rfl, rfl, by decide +kernel, rfl, by decide +kernel, by decide +kernel⟩
abbrev s__law_span : Stmt := topS 26
abbrev N__law_span : List Str := ["_law_state", "_law_pool_here", "_law_low", "_law_high"]
abbrev P__law_span : List Str := ["_law_state", "_law_pool_here"]
theorem sc__law_span : FnScope N__law_span P__law_span (defScope s__law_span) := ⟨rfl, rfl, rfl, by decide +kernel, rfl, by decide +kernel, by decide +kernel⟩
abbrev s__law_box : Stmt := topS 27
abbrev N__law_box : List Str := ["_law_state", "_law_pools", "_law_pool_here"]
abbrev P__law_box : List Str := ["_law_state", "_law_pools"]
theorem sc__law_box : FnScope N__law_box P__law_box (defScope s__law_box) := ⟨rfl, rfl, rfl, by decide +kernel, rfl, by decide +kernel, by decide +kernel⟩
abbrev s__law_in : Stmt := topS 28
abbrev N__law_in : List Str := ["_law_box_here", "_law_place", "_law_low", "_law_high", "_law_number"]
abbrev P__law_in : List Str := ["_law_box_here", "_law_place"]
theorem sc__law_in : FnScope N__law_in P__law_in (defScope s__law_in) := ⟨rfl, rfl, rfl, by decide +kernel, rfl, by decide +kernel, by decide +kernel⟩
abbrev s__law_same : Stmt := topS 29
abbrev N__law_same : List Str := ["_law_found", "_law_due_here", "_law_one", "_law_other"]
abbrev P__law_same : List Str := ["_law_found", "_law_due_here"]
theorem sc__law_same : FnScope N__law_same P__law_same (defScope s__law_same) := ⟨rfl, rfl, rfl, by decide +kernel, rfl, by decide +kernel, by decide +kernel⟩
abbrev s__law_due : Stmt := topS 30
abbrev N__law_due : List Str := ["_law_house_here", "_law_box_here", "_law_things", "_law_least", "_law_most", "_law_total", "_law_thing", "_law_found"]
abbrev P__law_due : List Str := ["_law_house_here", "_law_box_here"]
theorem sc__law_due : FnScope N__law_due P__law_due (defScope s__law_due) := ⟨rfl, rfl, rfl, by decide +kernel, rfl, by decide +kernel, by decide +kernel⟩
abbrev s_law : Stmt := topS 31
abbrev N_law : List Str := ["_law_script", "_law_state", "_law_turn", "_law_d", "_law_house_here", "_law_pools", "_law_boxes", "_law_box_here", "_law_due_here", "_law_word", "_law_k"]
abbrev P_law : List Str := ["_law_script"]
theorem sc_law : FnScope N_law P_law (defScope s_law) := ⟨rfl, rfl, rfl, by decide +kernel, rfl, by decide +kernel, by decide +kernel⟩
abbrev C_fits_low : PSpec := Zb.C_fits_low
abbrev C_fits_high : PSpec := Zb.C_fits_high
abbrev C_fits_span : PSpec := Zb.C_fits_span
abbrev C_fits : PSpec := Zb.C_fits
abbrev C_steps : PSpec := Zf.C_steps
abbrev C_things_in : PSpec := Zf.C_things_in
abbrev C_by_place : PSpec := Zs.C_by_place
abbrev C_by_worth : PSpec := Zs.C_by_worth
abbrev C_by_worth_down : PSpec := Zs.C_by_worth_down
abbrev C_names_of : PSpec := Zr.C_names_of
abbrev C_in_order : PSpec := Zs.C_in_order
abbrev C_best_first : PSpec := Zs.C_best_first
abbrev C_nearest_first : PSpec := Zs.C_nearest_first
abbrev C_name_of_first : PSpec := Zs.C_name_of_first
abbrev C_answer_of : PSpec := Zs.C_answer_of
abbrev C_answer : PSpec := Zs.C_answer
abbrev C__law_hand : PSpec := Zb.C__law_hand
abbrev C__law_take : PSpec := Zb.C__law_take
abbrev C__law_pool : PSpec := Zb.C__law_pool
abbrev C__law_house : PSpec := Zq.C__law_house
abbrev C__law_end : PSpec := Zb.C__law_end
abbrev C__law_span : PSpec := Zb.C__law_span
abbrev C__law_box : PSpec := Zb.C__law_box
abbrev C__law_in : PSpec := Zs.C__law_in
abbrev C__law_same : Nat → PSpec := Zp.C__law_same
abbrev lv__law_same : Nat := 10
theorem zero__law_same : ∀ ds Q, ¬ C__law_same 0 ds Q := Zp.zero__law_same
end K10
namespace K10
open PySem PySem.Spec PyProof.Rows L2 Bx Zb Zp Zm Zh Zf Zq Zr Zs
def dueD (ts : List Th) : D := .odc [.inr "count", .inr "sum", .inr "least", .inr "most"] [.int ts.length, .int (ts.map fun t => t.2.2).sum, nmF (srt kyW ts), nmF (srt kyD ts)]
def C__law_due : PSpec := fun ds Q => ∃ (d : Nat) (ts : List Th) (b : Bx1), ds = [houseD d ts, boxD b] ∧ House d ts ∧ b.length ≤ 1000 ∧ Q (dueD (fitT b ts)) []
def C_law : PSpec := CLaw
end K10
namespace K10
open PySem PySem.Spec PyProof.Rows L2 Bx
abbrev w_fits_low : DS := Zb.w_fits_low
abbrev B_fits_low : PSpec := bodyW [] 2 2 w_fits_low
theorem imp_fits_low : ∀ ds Q, C_fits_low ds Q → B_fits_low ds Q := Zb.imp_fits_low
abbrev w_fits_high : DS := Zb.w_fits_high
abbrev B_fits_high : PSpec := bodyW [] 2 2 w_fits_high
theorem imp_fits_high : ∀ ds Q, C_fits_high ds Q → B_fits_high ds Q := Zb.imp_fits_high
abbrev w_fits_span : DS := Zb.w_fits_span
abbrev B_fits_span : PSpec := bodyW [] 2 2 w_fits_span
theorem imp_fits_span : ∀ ds Q, C_fits_span ds Q → B_fits_span ds Q := Zb.imp_fits_span
abbrev w_fits : DS := Zb.w_fits
abbrev B_fits : PSpec := bodyW [] 4 2 w_fits
theorem imp_fits : ∀ ds Q, C_fits ds Q → B_fits ds Q := Zb.imp_fits
abbrev w_steps : DS := Zf.w_steps
abbrev B_steps : PSpec := bodyW [] 4 2 w_steps
theorem imp_steps : ∀ ds Q, C_steps ds Q → B_steps ds Q := Zf.imp_steps
abbrev w_things_in : DS := Zf.w_things_in
abbrev B_things_in : PSpec := bodyW [] 3 2 w_things_in
theorem imp_things_in : ∀ ds Q, C_things_in ds Q → B_things_in ds Q := Zf.imp_things_in
abbrev w_by_place : DS := Zs.w_by_place
abbrev B_by_place : PSpec := bodyW [] 1 1 w_by_place
theorem imp_by_place : ∀ ds Q, C_by_place ds Q → B_by_place ds Q := Zs.imp_by_place
abbrev w_by_worth : DS := Zs.w_by_worth
abbrev B_by_worth : PSpec := bodyW [] 1 1 w_by_worth
theorem imp_by_worth : ∀ ds Q, C_by_worth ds Q → B_by_worth ds Q := Zs.imp_by_worth
abbrev w_by_worth_down : DS := Zs.w_by_worth_down
abbrev B_by_worth_down : PSpec := bodyW [] 1 1 w_by_worth_down
theorem imp_by_worth_down : ∀ ds Q, C_by_worth_down ds Q → B_by_worth_down ds Q := Zs.imp_by_worth_down
abbrev w_names_of : DS := Zr.w_names_of
abbrev B_names_of : PSpec := bodyW [] 2 1 w_names_of
theorem imp_names_of : ∀ ds Q, C_names_of ds Q → B_names_of ds Q := Zr.imp_names_of
abbrev w_in_order : DS := Zs.w_in_order
abbrev B_in_order : PSpec := bodyW [] 1 1 w_in_order
theorem imp_in_order : ∀ ds Q, C_in_order ds Q → B_in_order ds Q := Zs.imp_in_order
abbrev w_best_first : DS := Zs.w_best_first
abbrev B_best_first : PSpec := bodyW [] 1 1 w_best_first
theorem imp_best_first : ∀ ds Q, C_best_first ds Q → B_best_first ds Q := Zs.imp_best_first
abbrev w_nearest_first : DS := Zs.w_nearest_first
abbrev B_nearest_first : PSpec := bodyW [] 6 2 w_nearest_first
theorem imp_nearest_first : ∀ ds Q, C_nearest_first ds Q → B_nearest_first ds Q := Zs.imp_nearest_first
abbrev w_name_of_first : DS := Zs.w_name_of_first
abbrev B_name_of_first : PSpec := bodyW [] 1 1 w_name_of_first
theorem imp_name_of_first : ∀ ds Q, C_name_of_first ds Q → B_name_of_first ds Q := Zs.imp_name_of_first
abbrev w_answer_of : DS := Zs.w_answer_of
abbrev B_answer_of : PSpec := bodyW [] 4 2 w_answer_of
theorem imp_answer_of : ∀ ds Q, C_answer_of ds Q → B_answer_of ds Q := Zs.imp_answer_of
abbrev w_answer : DS := Zs.w_answer
abbrev B_answer : PSpec := bodyW [] 2 2 w_answer
theorem imp_answer : ∀ ds Q, C_answer ds Q → B_answer ds Q := Zs.imp_answer
abbrev w__law_hand : DS := Zb.w__law_hand
abbrev B__law_hand : PSpec := bodyW [] 6 1 w__law_hand
theorem imp__law_hand : ∀ ds Q, C__law_hand ds Q → B__law_hand ds Q := Zb.imp__law_hand
abbrev w__law_take : DS := Zb.w__law_take
abbrev B__law_take : PSpec := bodyW [0] 4 2 w__law_take
theorem imp__law_take : ∀ ds Q, C__law_take ds Q → B__law_take ds Q := Zb.imp__law_take
abbrev w__law_pool : DS := Zb.w__law_pool
abbrev B__law_pool : PSpec := bodyW [0] 4 1 w__law_pool
theorem imp__law_pool : ∀ ds Q, C__law_pool ds Q → B__law_pool ds Q := Zb.imp__law_pool
abbrev w__law_house : DS := Zq.w__law_house
abbrev B__law_house : PSpec := bodyW [0] 13 3 w__law_house
theorem imp__law_house : ∀ ds Q, C__law_house ds Q → B__law_house ds Q := Zq.imp__law_house
abbrev w__law_end : DS := Zb.w__law_end
abbrev B__law_end : PSpec := bodyW [0] 3 2 w__law_end
theorem imp__law_end : ∀ ds Q, C__law_end ds Q → B__law_end ds Q := Zb.imp__law_end
abbrev w__law_span : DS := Zb.w__law_span
abbrev B__law_span : PSpec := bodyW [0] 4 2 w__law_span
theorem imp__law_span : ∀ ds Q, C__law_span ds Q → B__law_span ds Q := Zb.imp__law_span
abbrev w__law_box : DS := Zb.w__law_box
abbrev B__law_box : PSpec := bodyW [0] 3 2 w__law_box
theorem imp__law_box : ∀ ds Q, C__law_box ds Q → B__law_box ds Q := Zb.imp__law_box
abbrev w__law_in : DS := Zs.w__law_in
abbrev B__law_in : PSpec := bodyW [] 5 2 w__law_in
theorem imp__law_in : ∀ ds Q, C__law_in ds Q → B__law_in ds Q := Zs.imp__law_in
abbrev w__law_same (n : Nat) : DS := Zp.w__law_same n
abbrev B__law_same (n : Nat) : PSpec := bodyW [] 4 2 (w__law_same n)
theorem imp__law_same (n : Nat) : ∀ ds Q, C__law_same (n + 1) ds Q → B__law_same n ds Q := Zp.imp__law_same n
def w__law_due : DS :=
  (dSeq (dAsg 2 (dComp (iOf (dBin gIx (oVar 0) (oVal (dC (.int 1))))) [6] (gN 6) (tVal (dCall C__law_in (aCons (oVar 1) (aCons (oVal (dBin gIx (oVar 6) (oVal (dC (.int 1))))) aNil)))) (dVar 6)))
    (dSeq (dAsgG (gT (gsCons (gN 3) (gsCons (gN 4) (gsCons (gN 5) gsNil))) 3) (dTup (aCons (oVal (dC .non)) (aCons (oVal (dC .non)) (aCons (oVal (dC (.int 0))) aNil)))))
    (dSeq (dFor (iOf (dVar 2)) (gN 6)
    (dSeq (dAsg 5 (dBin gAdd (oVar 5) (oVal (dBin gIx (oVar 6) (oVal (dC (.int 2)))))))
    (dSeq (dIfS (tOr (tVal (dBin gIsN (oVar 3) (oVal (dC .non)))) (tVal (dBin gLt (oVal (dBin gIx (oVar 6) (oVal (dC (.int 2))))) (oVal (dBin gIx (oVar 3) (oVal (dC (.int 2))))))))
    (dAsg 3 (dVar 6))
    dNext)
    (dIfS (tOr (tVal (dBin gIsN (oVar 4) (oVal (dC .non)))) (tVal (dBin gGt (oVal (dBin gIx (oVar 6) (oVal (dC (.int 2))))) (oVal (dBin gIx (oVar 4) (oVal (dC (.int 2))))))))
    (dAsg 4 (dVar 6))
    dNext))))
    (dSeq (dAsg 7 (dOdc ["count", "sum", "least", "most"] (aCons (oVal (dCB gLen (aCons (oVar 2) aNil))) (aCons (oVar 5) (aCons (oVal (dC .non)) (aCons (oVal (dC .non)) aNil))))))
    (dSeq (dIfS (tVal (dBin gNotN (oVar 3) (oVal (dC .non))))
    (dExp (dUpd 7 (dDic ["least", "most"] (aCons (oVal (dBin gIx (oVar 3) (oVal (dC (.int 0))))) (aCons (oVal (dBin gIx (oVar 4) (oVal (dC (.int 0))))) aNil)))))
    dNext)
    (dRetV 7))))))
abbrev B__law_due : PSpec := bodyW [] 8 2 w__law_due
def w_law : DS :=
  (dSeq (dAsg 1 (dCall C__law_hand (aCons (oVar 0) aNil)))
    (dSeq (dFor (iR gR1 (aCons (oVal (dC (.int 5))) aNil)) (gN 2)
    (dSeq (dAsg 3 (dBin gAdd (oVal (dC (.int 1))) (oVal (dCallIO 0 1 C__law_take (aCons (oVar 1) (aCons (oVal (dC (.int 4))) aNil))))))
    (dSeq (dAsgG (gT (gsCons (gN 4) (gsCons (gN 5) gsNil)) 2) (dCallIO 0 1 C__law_house (aCons (oVar 1) (aCons (oVar 3) (aCons (oVal (dC (.int 60))) aNil)))))
    (dSeq (dAsg 6 (dComp (iR gR1 (aCons (oVal (dC (.int 8))) aNil)) [10] (gN 10) tAll (dCallIO 0 1 C__law_box (aCons (oVar 1) (aCons (oVar 5) aNil)))))
    (dFor (iOf (dBin gAdd (oVar 6) (oVal (dLst (aCons (oVal (dBin gTMul (oVal (dTup (aCons (oVal (dTup (aCons (oVal (dC .non)) (aCons (oVal (dC .non)) aNil)))) aNil))) (oVar 3))) (aCons (oVal (dBin gTMul (oVal (dTup (aCons (oVal (dTup (aCons (oVal (dTup (aCons (oVal (dC (.int 5))) (aCons (oVal (dC (.bl false))) aNil)))) (aCons (oVal (dTup (aCons (oVal (dC (.int 5))) (aCons (oVal (dC (.bl true))) aNil)))) aNil)))) aNil))) (oVar 3))) aNil)))))) (gN 7)
    (dSeq (dAsg 8 (dCall C__law_due (aCons (oVar 4) (aCons (oVar 7) aNil))))
    (dFor (iOf (dTup (aCons (oVal (dC (.str "count"))) (aCons (oVal (dC (.str "sum"))) (aCons (oVal (dC (.str "least"))) (aCons (oVal (dC (.str "most"))) (aCons (oVal (dC (.str "count"))) aNil))))))) (gN 9)
    (dIfS (tNot (tVal (dCall (C__law_same lv__law_same) (aCons (oVal (dCall C_answer (aCons (oVar 4) (aCons (oVal (dTup (aCons (oVar 9) (aCons (oVar 7) aNil)))) aNil)))) (aCons (oVal (dBin gIx (oVar 8) (oVar 9))) aNil)))))
    (dRet (dC (.bl false)))
    dNext))))))))
    (dRet (dC (.bl true)))))
abbrev B_law : PSpec := bodyW [] 11 1 w_law
end K10
/-! orders of things: lemmas -/
namespace Zo
open PySem PySem.Spec PyProof.Rows L2 Bx Zb Zp Zm Zh Zf Zq Zr Zs
def kyOf : Wd → List Int → Th → D
  | .best, _ => kyD
  | .near, p => kyN p
  | _, _ => kyP
def rowW (w : Wd) : Prop := w = .all ∨ w = .first ∨ w = .best ∨ w = .near
/-! ### the orders -/
theorem nle (x y : D) : (!dLe y x) = lexLt itemOrd (PySem.W.keyToks x.pd) (PySem.W.keyToks y.pd) := by
  show (!(!lexLt itemOrd (PySem.W.keyToks x.pd) (PySem.W.keyToks y.pd))) = _
  rw [Bool.not_not]
theorem lex_app (c x y : List (Int ⊕ List Nat)) : lexLt itemOrd (c ++ x) (c ++ y) = lexLt itemOrd x y := by
  induction c with
  | nil => rfl
  | cons a c ih => rw [List.cons_append, List.cons_append, lex_self, ih]
theorem lex_int {a b : Int} {x y : List (Int ⊕ List Nat)} : lexLt itemOrd (.inl a :: x) (.inl b :: y) = if a = b then lexLt itemOrd x y else decide (a < b) := by
  by_cases h : a = b
  · subst h
    rw [lex_self, if_pos rfl]
  · rw [if_neg h, lex_diff (fun e => h (Sum.inl.inj e))]
    rfl
theorem ltD_is (a b : Th) : (!dLe (kyD b) (kyD a)) = if a.2.2 = b.2.2 then decide (a.1 < b.1) else decide (b.2.2 < a.2.2) := by
  rw [nle, kyD_pd, kyD_pd]
  simp only [PySem.W.keyToks, PySem.W.keyToksAll, List.cons_append, List.nil_append]
  rw [lex_self, lex_int, lex_self, lex_int, lex_self]
  by_cases h : a.2.2 = b.2.2
  · rw [if_pos (by omega), if_pos h]
    split
    · rename_i e
      rw [e, lex_irrefl]
      simp
    · rfl
  · rw [if_neg (by omega), if_neg h, Bool.eq_iff_iff]
    simp only [decide_eq_true_eq]
    omega
theorem ltN_is (p : List Int) (a b : Th) (he : a.1 = b.1 → a = b) : (!dLe (kyN p b) (kyN p a)) = if stepsL a.2.1 p = stepsL b.2.1 p then decide (a.1 < b.1) else decide (stepsL a.2.1 p < stepsL b.2.1 p) := by
  rw [nle, kyN_pd, kyN_pd]
  simp only [PySem.W.keyToks, PySem.W.keyToksAll, List.cons_append, List.nil_append]
  rw [lex_self, lex_int, lex_self, lex_int]
  by_cases h : stepsL a.2.1 p = stepsL b.2.1 p
  · rw [if_pos h, if_pos h]
    split
    · rename_i e
      have := he e
      subst this
      rw [lex_irrefl]
      simp
    · rfl
  · rw [if_neg h, if_neg h]
theorem tokP (t : Th) : PySem.W.keyToks (kyP t).pd = .inl 1 :: (toksI t.2.1 ++ (.inl 0 :: .inl 1 :: .inl t.1 :: [.inl 0])) := by
  have := toks_ints t.2.1 []
  rw [List.append_nil] at this
  rw [kyP_pd]
  simp only [PySem.W.keyToks, PySem.W.keyToksAll, this]
  simp only [PySem.W.keyToks, PySem.W.keyToksAll, List.cons_append, List.nil_append, List.append_assoc]
theorem toksI_app (p q : List Int) : toksI (p ++ q) = toksI p ++ toksI q := by simp [toksI]
theorem ltP_at {a b : Th} {pre p q : List Int} {m i : Int} (ha : a.2.1 = pre ++ m :: p) (hb : b.2.1 = pre ++ i :: q) (h : m ≠ i) : (!dLe (kyP b) (kyP a)) = decide (m < i) := by
  rw [nle, tokP, tokP, lex_self, ha, hb, toksI_app, toksI_app, List.append_assoc, List.append_assoc, lex_app]
  show lexLt itemOrd (.inl 1 :: .inl m :: _) (.inl 1 :: .inl i :: _) = _
  rw [lex_self, lex_int, if_neg h]
theorem ltP_eq {a b : Th} (h : a.2.1 = b.2.1) : (!dLe (kyP b) (kyP a)) = decide (a.1 < b.1) := by
  rw [nle, tokP, tokP, lex_self, h, lex_app, lex_self, lex_self, lex_int]
  split
  · rename_i e
    rw [e, lex_irrefl]
    simp
  · rfl
theorem le_total (ky : Th → D) (a b : Th) : dLe (ky a) (ky b) = true ∨ dLe (ky b) (ky a) = true :=
  (PySem.W.sortLe_total (PyProof.Rows.listOrd PyProof.Rows.itemOrd) false (fun t : Th => PySem.W.keyToks (ky t).pd)).total a b
theorem le_trans {ky : Th → D} {a b c : Th} (h1 : dLe (ky a) (ky b) = true) (h2 : dLe (ky b) (ky c) = true) : dLe (ky a) (ky c) = true :=
  (PySem.W.sortLe_total (PyProof.Rows.listOrd PyProof.Rows.itemOrd) false (fun t : Th => PySem.W.keyToks (ky t).pd)).trans a b c h1 h2
theorem srt_pw (ky : Th → D) (ts : List Th) : (srt ky ts).Pairwise (fun a b => dLe (ky a) (ky b) = true) :=
  List.pairwise_mergeSort (le := fun a b : Th => dLe (ky a) (ky b)) (fun a b c h1 h2 => le_trans h1 h2) (fun a b => by
    rcases le_total ky a b with h | h
    · exact Bool.or_eq_true _ _ |>.mpr (.inl h)
    · exact Bool.or_eq_true _ _ |>.mpr (.inr h)) ts
theorem diff_at : ∀ {p q : List Int}, p.length = q.length → p ≠ q → ∃ pre m i p' q', p = pre ++ m :: p' ∧ q = pre ++ i :: q' ∧ m ≠ i
  | [], [], _, h => absurd rfl h
  | [], _ :: _, h, _ => by simp at h
  | _ :: _, [], h, _ => by simp at h
  | a :: p, b :: q, l, h => by
    by_cases e : a = b
    · subst e
      obtain ⟨pre, m, i, p', q', e1, e2, e3⟩ := diff_at (p := p) (q := q) (by simpa using l) (fun e => h (by rw [e]))
      exact ⟨a :: pre, m, i, p', q', by rw [e1]; rfl, by rw [e2]; rfl, e3⟩
    · exact ⟨[], a, b, p, q, rfl, rfl, e⟩
/-- two things that are told alike are one -/
theorem anti {w : Wd} {p : List Int} {a b : Th} (he : a.1 = b.1 → a = b) (hl : a.2.1.length = b.2.1.length) (h1 : dLe (kyOf w p a) (kyOf w p b) = true) (h2 : dLe (kyOf w p b) (kyOf w p a) = true) : a = b := by
  have n1 : (!dLe (kyOf w p b) (kyOf w p a)) = false := by rw [h2]; rfl
  have n2 : (!dLe (kyOf w p a) (kyOf w p b)) = false := by rw [h1]; rfl
  have pl : (!dLe (kyP b) (kyP a)) = false → (!dLe (kyP a) (kyP b)) = false → a = b := fun n1 n2 => by
    by_cases e : a.2.1 = b.2.1
    · rw [ltP_eq e] at n1
      rw [ltP_eq e.symm] at n2
      have := of_decide_eq_false n1
      have := of_decide_eq_false n2
      exact he (by omega)
    · obtain ⟨pre, m, i, p', q', e1, e2, e3⟩ := diff_at hl e
      rw [ltP_at e1 e2 e3] at n1
      rw [ltP_at e2 e1 (Ne.symm e3)] at n2
      have := of_decide_eq_false n1
      have := of_decide_eq_false n2
      omega
  cases w with
  | best =>
    have n1 : (!dLe (kyD b) (kyD a)) = false := n1
    have n2 : (!dLe (kyD a) (kyD b)) = false := n2
    rw [ltD_is] at n1 n2
    by_cases e : a.2.2 = b.2.2
    · rw [if_pos e] at n1
      rw [if_pos e.symm] at n2
      have := of_decide_eq_false n1
      have := of_decide_eq_false n2
      exact he (by omega)
    · rw [if_neg e] at n1
      rw [if_neg (Ne.symm e)] at n2
      have := of_decide_eq_false n1
      have := of_decide_eq_false n2
      omega
  | near =>
    have n1 : (!dLe (kyN p b) (kyN p a)) = false := n1
    have n2 : (!dLe (kyN p a) (kyN p b)) = false := n2
    rw [ltN_is p a b he] at n1
    rw [ltN_is p b a (fun e => (he e.symm).symm)] at n2
    by_cases e : stepsL a.2.1 p = stepsL b.2.1 p
    · rw [if_pos e] at n1
      rw [if_pos e.symm] at n2
      have := of_decide_eq_false n1
      have := of_decide_eq_false n2
      exact he (by omega)
    · rw [if_neg e] at n1
      rw [if_neg (Ne.symm e)] at n2
      have := of_decide_eq_false n1
      have := of_decide_eq_false n2
      omega
  | _ => exact pl n1 n2
theorem thD_eqv (a b : Th) : D.eqv (thD a) (thD b) = decide (a = b) := by
  obtain ⟨n, p, w⟩ := a
  obtain ⟨m, q, v⟩ := b
  unfold D.eqv thD
  simp only [D.pd, D.pds, pds_ints, PyData.eqv, PyData.eqvAll, eqvAll_ints, Bool.and_true]
  rw [Bool.eq_iff_iff]
  simp
/-! ### the law's choosing -/
section
variable {ky : Th → D}
/-- one by one: the best so far is the best of all so far -/
theorem best_step {b t : Th} {dn : List Th} (h : ∀ x ∈ dn, dLe (ky b) (ky x) = true) : ((!dLe (ky b) (ky t)) = true → ∀ x ∈ dn ++ [t], dLe (ky t) (ky x) = true) ∧ ((!dLe (ky b) (ky t)) = false → ∀ x ∈ dn ++ [t], dLe (ky b) (ky x) = true) := by
  have rf : ∀ a : Th, dLe (ky a) (ky a) = true := fun a => (le_total ky a a).elim id id
  refine ⟨fun e x hx => ?_, fun e x hx => ?_⟩
  · have lt : dLe (ky t) (ky b) = true := (le_total ky t b).resolve_right (by simpa using e)
    rcases List.mem_append.mp hx with hx | hx
    · exact le_trans lt (h x hx)
    · simp at hx; subst hx; exact rf _
  · rcases List.mem_append.mp hx with hx | hx
    · exact h x hx
    · simp at hx; subst hx; simpa using e
/-- what is left when the first j of the sorted row are taken -/
theorem pick_one {S left : List Th} {j : Nat} {b : Th} (hs : S.Pairwise (fun a b => dLe (ky a) (ky b) = true)) (hp : left.Perm (S.drop j)) (hj : j < S.length) (hb : b ∈ left) (hm : ∀ x ∈ left, dLe (ky b) (ky x) = true) (an : ∀ a ∈ S, ∀ b ∈ S, dLe (ky a) (ky b) = true → dLe (ky b) (ky a) = true → a = b) : b = S[j] := by
  have e : S.drop j = S[j] :: S.drop (j + 1) := List.drop_eq_getElem_cons hj
  have hb2 : b ∈ S.drop j := hp.mem_iff.mp hb
  have h1 : dLe (ky b) (ky S[j]) = true := hm _ (hp.mem_iff.mpr (by rw [e]; exact List.mem_cons_self))
  have h2 : dLe (ky S[j]) (ky b) = true := by
    have pw : (S.drop j).Pairwise (fun a b => dLe (ky a) (ky b) = true) := hs.sublist (List.drop_sublist _ _)
    rw [e] at pw hb2
    rcases List.mem_cons.mp hb2 with rfl | hb2
    · exact (le_total ky _ _).elim id id
    · exact (List.pairwise_cons.mp pw).1 b hb2
  exact an _ (List.mem_of_mem_drop hb2) _ (List.getElem_mem hj) h1 h2
theorem left_one {S left : List Th} {j : Nat} (nd : S.Nodup) (hp : left.Perm (S.drop j)) (hj : j < S.length) : (left.filter fun t => !decide (t = S[j])).Perm (S.drop (j + 1)) := by
  have e : S.drop j = S[j] :: S.drop (j + 1) := List.drop_eq_getElem_cons hj
  have h := hp.filter fun t => !decide (t = S[j])
  refine h.trans ?_
  rw [e, List.filter_cons_of_neg (by simp)]
  rw [List.filter_eq_self.mpr fun t ht => ?_]
  have nd2 : (S.drop j).Nodup := nd.sublist (List.drop_sublist _ _)
  rw [e] at nd2
  have := (List.nodup_cons.mp nd2).1
  simp only [Bool.not_eq_true', decide_eq_false_iff_not]
  rintro rfl
  exact this ht
end
theorem in_2 (w a b : Wd) : inV (.str (ws w)) [V.str (ws a), V.str (ws b)] = (decide (w = a) || decide (w = b)) := by
  cases w <;> cases a <;> cases b <;> decide +kernel
theorem atI_any {α : Type} {f : α → D} {l : List α} {r : Int} (h0 : 0 ≤ r) (h1 : r < l.length) : ∃ x ∈ l, atI (l.map f) r = some (f x) := by
  have hr : r.toNat < l.length := by omega
  have er := atI_map (f := f) (List.getElem?_eq_getElem hr)
  rw [Int.toNat_of_nonneg h0] at er
  exact ⟨_, List.getElem_mem hr, er⟩
theorem names_one {d : Nat} {ts : List Th} (h : House d ts) : ∀ a ∈ ts, ∀ b ∈ ts, a.1 = b.1 → a = b := by
  intro a ha b hb e
  have pw := h.ris
  clear h
  induction ts with
  | nil => exact absurd ha List.not_mem_nil
  | cons t ts ih =>
    have h1 := List.pairwise_cons.mp pw
    rcases List.mem_cons.mp ha with e1 | ha1
    · rcases List.mem_cons.mp hb with e2 | hb1
      · rw [e1, e2]
      · have := h1.1 b hb1; rw [e1] at e; omega
    · rcases List.mem_cons.mp hb with e2 | hb1
      · have := h1.1 a ha1; rw [e2] at e; omega
      · exact ih ha1 hb1 h1.2

end Zo
namespace K10
open PySem PySem.Spec PyProof.Rows L2 Bx Zb Zp Zm Zh Zf Zq Zr Zs Zo
theorem p1 {x y : D} : atI [x, y] 1 = some y := rfl
theorem p0 {x y : D} : atI [x, y] 0 = some x := rfl
theorem ltW_is (a b : Th) : (!dLe (kyW b) (kyW a)) = if a.2.2 = b.2.2 then decide (a.1 < b.1) else decide (a.2.2 < b.2.2) := by
  rw [nle, kyW_pd, kyW_pd]
  simp only [PySem.W.keyToks, PySem.W.keyToksAll, List.cons_append, List.nil_append]
  rw [lex_self, lex_int, lex_self, lex_int, lex_self]
  by_cases h : a.2.2 = b.2.2
  · rw [if_pos (by omega), if_pos h]
    split
    · rename_i e
      rw [e, lex_irrefl]
      simp
    · rfl
  · rw [if_neg (by omega), if_neg h, Bool.eq_iff_iff]
theorem leW {a b : Th} : dLe (kyW a) (kyW b) = true ↔ (a.2.2 < b.2.2 ∨ (a.2.2 = b.2.2 ∧ a.1 ≤ b.1)) := by
  have h := ltW_is b a
  by_cases e : b.2.2 = a.2.2
  · rw [if_pos e] at h
    cases hd : dLe (kyW a) (kyW b) <;> rw [hd] at h <;> simp at h ⊢ <;> omega
  · rw [if_neg e] at h
    cases hd : dLe (kyW a) (kyW b) <;> rw [hd] at h <;> simp at h ⊢ <;> omega
theorem leD {a b : Th} : dLe (kyD a) (kyD b) = true ↔ (b.2.2 < a.2.2 ∨ (a.2.2 = b.2.2 ∧ a.1 ≤ b.1)) := by
  have h := ltD_is b a
  by_cases e : b.2.2 = a.2.2
  · rw [if_pos e] at h
    cases hd : dLe (kyD a) (kyD b) <;> rw [hd] at h <;> simp at h ⊢ <;> omega
  · rw [if_neg e] at h
    cases hd : dLe (kyD a) (kyD b) <;> rw [hd] at h <;> simp at h ⊢ <;> omega
def oD : Option Th → D
  | none => .non
  | some t => thD t
def nmo : Option Th → D
  | none => .non
  | some t => .int t.1
/-- the first of those with the least key -/
def low (ky : Th → D) (dn : List Th) : Option Th → Prop
  | none => dn = []
  | some g => g ∈ dn ∧ ∀ x ∈ dn, dLe (ky g) (ky x) = true
theorem low_new {ky : Th → D} {dn : List Th} {o : Option Th} {t : Th} (h : low ky dn o) (ht : ∀ g, o = some g → dLe (ky t) (ky g) = true) (hr : dLe (ky t) (ky t) = true) : low ky (dn ++ [t]) (some t) := by
  refine ⟨by simp, fun x hx => ?_⟩
  rcases List.mem_append.mp hx with hx | hx
  · cases o with
    | none => rw [show dn = [] from h] at hx; cases hx
    | some g => exact le_trans (ht g rfl) (h.2 x hx)
  · simp at hx; subst hx; exact hr
theorem low_old {ky : Th → D} {dn : List Th} {g t : Th} (h : low ky dn (some g)) (ht : dLe (ky g) (ky t) = true) : low ky (dn ++ [t]) (some g) := by
  refine ⟨List.mem_append_left _ h.1, fun x hx => ?_⟩
  rcases List.mem_append.mp hx with hx | hx
  · exact h.2 x hx
  · simp at hx; subst hx; exact ht
theorem low_nm {ky : Th → D} {F : List Th} {o : Option Th} (h : low ky F o) (an : ∀ a b, dLe (ky a) (ky b) = true → dLe (ky b) (ky a) = true → a.1 = b.1) : nmF (srt ky F) = nmo o := by
  cases o with
  | none =>
    rw [show F = [] from h]
    have : srt ky [] = [] := List.length_eq_zero_iff.mp (srt_len ky [])
    rw [this]; rfl
  | some g =>
    have pw := srt_pw ky F
    have hg : g ∈ srt ky F := srt_mem.mpr h.1
    cases e : srt ky F with
    | nil => rw [e] at hg; cases hg
    | cons a r =>
      rw [e] at pw hg
      have ha : a ∈ F := srt_mem.mp (by rw [e]; simp)
      have h1 : dLe (ky a) (ky g) = true := by
        rcases List.mem_cons.mp hg with rfl | hg
        · exact (le_total ky _ _).elim id id
        · exact (List.pairwise_cons.mp pw).1 g hg
      show D.int a.1 = .int g.1
      rw [an a g h1 (h.2 a ha)]
theorem anW (a b : Th) (h1 : dLe (kyW a) (kyW b) = true) (h2 : dLe (kyW b) (kyW a) = true) : a.1 = b.1 := by
  rw [leW] at h1 h2; omega
theorem anD (a b : Th) (h1 : dLe (kyD a) (kyD b) = true) (h2 : dLe (kyD b) (kyD a) = true) : a.1 = b.1 := by
  rw [leD] at h1 h2; omega
theorem upd4 (a b c d x y : D) : odcD (mergeD (List.zip [Sum.inr "count", Sum.inr "sum", Sum.inr "least", Sum.inr "most"] [a, b, c, d]) (List.zip [Sum.inr "least", Sum.inr "most"] [x, y])) = .odc [.inr "count", .inr "sum", .inr "least", .inr "most"] [a, b, x, y] := rfl
theorem imp__law_due : ∀ ds Q, C__law_due ds Q → B__law_due ds Q := by
  rintro ds Q ⟨d, ts, b, rfl, ht, bl, q⟩
  refine ⟨rfl, ?_⟩
  have sl := sizeLine_eq
  have tl := ht.len
  have hz : (houseD d ts).frz = houseD d ts := rfl
  have gi1 : ∀ K, gIx (houseD d ts) (.int 1) K = K (.tup (ts.map thD)) := fun K => by
    unfold houseD
    simp only [p1, Bx.go]
  obtain ⟨F, eF⟩ : ∃ F, F = fitT b ts := ⟨_, rfl⟩
  have rise : F.Pairwise fun a b => a.1 < b.1 := by rw [eF]; exact ht.ris.sublist List.filter_sublist
  have fl : F.length ≤ 300 := by rw [eF]; exact Nat.le_trans (List.length_filter_le _ _) tl
  rw [← eF] at q
  refine seq_cut (fun ρ => ρ = [some (houseD d ts), some (boxD b), some (.lst true (F.map thD)), none, none, none, none, none]) (fun R hR => ?_) ?_
  · simp only [gi1, Bx.go]
    refine ⟨by omega, co_filter ts thD (fun t => fitB b t.2.1) (fun t ht' acc N hN => ?_) ?_⟩
    · simp only [thD, th1, boxD_frz, u1_gT, u2_gT, u1_gsCons, u2_gsCons, u1_gsNil, u2_gsNil, u1_kGs, u1_gN, u1_kForB, rset_s, rset_0, rget_s, rget_0, D.seq, D.sql, u_onSome_some, frz_tup, frz_int, frz_bl, frz_lst, frz_str, frz_non, frz_scr, List.length_cons, List.length_nil, List.map_cons, List.map_nil, Option.bind_some, true_and, and_true]
      simp only [thD, th1, boxD_frz, Bx.go]
      refine ⟨b, t.2.1, rfl, bl, ?_⟩
      simp only [Bx.go]
      cases e : fitB b t.2.1 with
      | true =>
        rw [e] at hN
        simp only [if_true] at hN
        simp only [Bx.go]
        exact hN
      | false =>
        rw [e] at hN
        simp only [Bool.false_eq_true, if_false] at hN
        simp only [Bx.go]
        exact hN
    · simp only [backR, Bx.go]
      exact hR _ (by rw [eF]; rfl)
  rintro _ rfl
  refine seq_cut (fun ρ => ρ = [some (houseD d ts), some (boxD b), some (.lst true (F.map thD)), some .non, some .non, some (.int 0), none, none]) (fun R hR => ?_) ?_
  · simp only [Bx.go]
    exact hR _ rfl
  rintro _ rfl
  refine seq_cut (fun ρ => ∃ (lo mo : Option Th) (x6 : Option D), low kyW F lo ∧ low kyD F mo ∧ ρ = [some (houseD d ts), some (boxD b), some (.lst false (F.map thD)), some (oD lo), some (oD mo), some (.int (F.map fun t => t.2.2).sum), x6, none]) (fun R hR => ?_) ?_
  · simp only [Bx.go]
    refine for_each F thD (fun dn ρ => ∃ (lo mo : Option Th) (x6 : Option D), low kyW dn lo ∧ low kyD dn mo ∧ ρ = [some (houseD d ts), some (boxD b), some (.lst false (F.map thD)), some (oD lo), some (oD mo), some (.int (dn.map fun t => t.2.2).sum), x6, none]) ⟨none, none, _, rfl, rfl, rfl⟩ ?_ ?_
    · rintro dn t r ρ N e ⟨lo, mo, x6, hl, hm, rfl⟩ hN
      have lt : ∀ x ∈ dn, x.1 < t.1 := fun x hx => by
        have : (dn ++ t :: r).Pairwise fun a b => a.1 < b.1 := by rw [← e]; exact rise
        exact (List.pairwise_append.mp this).2.2 x hx t (by simp)
      have zt : ∀ t : Th, (thD t).frz = thD t := thD_frz
      have g2 : ∀ (t : Th) K, gIx (thD t) (.int 2) K = K (.int t.2.2) := fun t K => by
        unfold thD
        simp only [th2, Bx.go]
      simp only [zt, u1_gT, u2_gT, u1_gsCons, u2_gsCons, u1_gsNil, u2_gsNil, u1_kGs, u1_gN, u1_kForB, rset_s, rset_0, rget_s, rget_0, D.seq, D.sql, u_onSome_some, frz_tup, frz_int, frz_bl, frz_lst, frz_str, frz_non, frz_scr, List.length_cons, List.length_nil, List.map_cons, List.map_nil, Option.bind_some, true_and, and_true]
      refine seq_cut (fun ρ => ρ = [some (houseD d ts), some (boxD b), some (.lst false (F.map thD)), some (oD lo), some (oD mo), some (.int ((dn ++ [t]).map fun t => t.2.2).sum), some (thD t), none]) (fun R hR => ?_) ?_
      · simp only [g2, Bx.go]
        refine hR _ ?_
        rw [List.map_append, List.sum_append]
        simp
      rintro _ rfl
      refine seq_cut (fun ρ => ∃ lo : Option Th, low kyW (dn ++ [t]) lo ∧ ρ = [some (houseD d ts), some (boxD b), some (.lst false (F.map thD)), some (oD lo), some (oD mo), some (.int ((dn ++ [t]).map fun t => t.2.2).sum), some (thD t), none]) (fun R hR => ?_) ?_
      · cases lo with
        | none =>
          simp only [oD, zt, Bx.go]
          exact hR _ ⟨some t, low_new hl (fun _ z => by cases z) (leW.mpr (.inr ⟨rfl, by omega⟩)), rfl⟩
        | some g =>
          have e1 : (oD (some g)) = thD g := rfl
          have e2 : (thD g).isNon = false := rfl
          have lg := lt g hl.1
          simp only [e1, e2, g2, zt, Bx.go]
          refine pick_by (fun h => ?_) (fun h => ?_)
          · simp only [zt, Bx.go]
            have h : t.2.2 < g.2.2 := by simpa using h
            exact hR _ ⟨some t, low_new hl (fun _ z => by cases z; exact leW.mpr (.inl h)) (leW.mpr (.inr ⟨rfl, by omega⟩)), rfl⟩
          · simp only [Bx.go]
            have h : ¬ t.2.2 < g.2.2 := by simpa using h
            exact hR _ ⟨some g, low_old hl (leW.mpr (by omega)), rfl⟩
      rintro _ ⟨lo', hl', rfl⟩
      cases mo with
      | none =>
        simp only [show oD none = D.non from rfl, zt, Bx.go]
        exact hN _ ⟨lo', some t, _, hl', low_new hm (fun _ z => by cases z) (leD.mpr (.inr ⟨rfl, by omega⟩)), rfl⟩
      | some g =>
        have e1 : (oD (some g)) = thD g := rfl
        have e2 : (thD g).isNon = false := rfl
        have lg := lt g hm.1
        simp only [e1, e2, g2, zt, Bx.go]
        refine pick_by (fun h => ?_) (fun h => ?_)
        · simp only [zt, Bx.go]
          have h : g.2.2 < t.2.2 := by simpa using h
          exact hN _ ⟨lo', some t, _, hl', low_new hm (fun _ z => by cases z; exact leD.mpr (.inl h)) (leD.mpr (.inr ⟨rfl, by omega⟩)), rfl⟩
        · simp only [Bx.go]
          have h : ¬ g.2.2 < t.2.2 := by simpa using h
          exact hN _ ⟨lo', some g, _, hl', low_old hm (leD.mpr (by omega)), rfl⟩
    · rintro ρ ⟨lo, mo, x6, hl, hm, rfl⟩
      exact hR _ ⟨lo, mo, _, hl, hm, rfl⟩
  rintro _ ⟨lo, mo, x6, hl, hm, rfl⟩
  unfold dueD at q
  rw [low_nm hl anW, low_nm hm anD] at q
  refine seq_cut (fun ρ => ρ = [some (houseD d ts), some (boxD b), some (.lst false (F.map thD)), some (oD lo), some (oD mo), some (.int (F.map fun t => t.2.2).sum), x6, some (.odc [.inr "count", .inr "sum", .inr "least", .inr "most"] [.int F.length, .int (F.map fun t => t.2.2).sum, .non, .non])]) (fun R hR => ?_) ?_
  · simp only [Bx.go]
    exact hR _ rfl
  rintro _ rfl
  cases lo with
  | none =>
    cases mo with
    | none =>
      simp only [show oD none = D.non from rfl, Bx.go]
      exact q
    | some g => rw [show F = [] from hl] at hm; cases hm.1
  | some g =>
    cases mo with
    | none => rw [show F = [] from hm] at hl; cases hl.1
    | some g' =>
      simp only [show ∀ g, oD (some g) = thD g from fun _ => rfl, show ∀ g, (thD g).isNon = false from fun _ => rfl, Bx.go]
      simp only [thD, th0, Bx.go]
      refine ⟨by show 4 + 2 ≤ sizeLine; omega, ?_⟩
      rw [upd4]
      exact q
theorem free_box (k : Nat) : (List.replicate (Int.toNat (k : Int)) [D.tup [D.non, D.non]]).flatten = (List.replicate k ((none, none) : Eg × Eg)).map sD := by
  rw [Int.toNat_natCast]
  induction k with
  | zero => rfl
  | succ k ih => rw [List.replicate_succ, List.replicate_succ, List.flatten_cons, ih]; rfl
theorem empt_box (k : Nat) : (List.replicate (Int.toNat (k : Int)) [D.tup [D.tup [D.int 5, D.bl false], D.tup [D.int 5, D.bl true]]]).flatten = (List.replicate k ((some (5, false), some (5, true)) : Eg × Eg)).map sD := by
  rw [Int.toNat_natCast]
  induction k with
  | zero => rfl
  | succ k ih => rw [List.replicate_succ, List.replicate_succ, List.flatten_cons, ih]; rfl
def w4 : List Wd := [.count, .sum, .least, .most, .count]
theorem w4_ok {w : Wd} (h : w ∈ w4) : w = .count ∨ w = .sum ∨ w = .least ∨ w = .most ∨ w = .all := by
  simp only [w4, List.mem_cons, List.not_mem_nil, or_false] at h
  rcases h with rfl | rfl | rfl | rfl | rfl <;> simp
theorem dget4 {w : Wd} (h : w ∈ w4) (F : List Th) (b : Bx1) (h' : w = .count ∨ w = .sum ∨ w = .least ∨ w = .most ∨ w = .all) : dget [.inr "count", .inr "sum", .inr "least", .inr "most"] [.int F.length, .int (F.map fun t => t.2.2).sum, nmF (srt kyW F), nmF (srt kyD F)] (.inr (ws w)) = some (ansT F (.a0 w b h')) := by
  simp only [w4, List.mem_cons, List.not_mem_nil, or_false] at h
  rcases h with rfl | rfl | rfl | rfl | rfl <;> rfl
theorem nmF_ok (S : List Th) (n : Nat) : okS (n + 1) (nmF S) := by
  cases S <;> trivial
theorem ans_ok {w : Wd} (h : w ∈ w4) (F : List Th) (b : Bx1) (h' : w = .count ∨ w = .sum ∨ w = .least ∨ w = .most ∨ w = .all) (n : Nat) : okS (n + 1) (ansT F (.a0 w b h')) := by
  simp only [w4, List.mem_cons, List.not_mem_nil, or_false] at h
  rcases h with rfl | rfl | rfl | rfl | rfl
  · trivial
  · trivial
  · exact nmF_ok _ _
  · exact nmF_ok _ _
  · trivial
theorem imp_law : ∀ ds Q, C_law ds Q → B_law ds Q := by
  rintro ds Q ⟨ns, rfl, hl, q⟩
  refine ⟨rfl, ?_⟩
  have sl := sizeLine_eq
  have hz : ∀ d ts, (houseD d ts).frz = houseD d ts := fun _ _ => rfl
  have eb : ∀ b : Bx1, D.tup (b.map sD) = boxD b := fun _ => rfl
  refine seq_cut (fun ρ => ∃ h : List D, hnd 0 h ∧ ρ = [some (.scr (ns.map .int)), some (.lst true h), none, none, none, none, none, none, none, none, none]) (fun R hR => ?_) ?_
  · simp only [Bx.go]
    refine ⟨ns, rfl, hl, fun a b => ?_⟩
    simp only [Bx.go]
    exact hR _ ⟨_, ⟨a, b, 0, rfl, by decide, by decide⟩, rfl⟩
  rintro _ ⟨h, hh, rfl⟩
  simp only [Bx.go]
  refine ⟨i62_of (by omega) (by omega), ?_⟩
  rw [rangeD_nat]
  refine for_each (List.range (Int.toNat 5)) _ (fun dn ρ => ∃ (h : List D) (x2 x3 x4 x5 x6 x7 x8 x9 : Option D), hnd (2000 * dn.length) h ∧ ρ = [some (.scr (ns.map .int)), some (.lst true h), x2, x3, x4, x5, x6, x7, x8, x9, none]) ⟨h, _, _, _, _, _, _, _, _, hh, rfl⟩ ?_ ?_
  · rintro dn k r ρ N e ⟨h, x2, x3, x4, x5, x6, x7, x8, x9, hh, rfl⟩ hN
    have dl : dn.length < 5 := by
      have := congrArg List.length e
      simp at this
      omega
    generalize hn0 : 2000 * dn.length = n0 at *
    have hN : ∀ (h : List D) (x2 x3 x4 x5 x6 x7 x8 x9 : Option D), hnd (n0 + 2000) h → N [some (.scr (ns.map .int)), some (.lst true h), x2, x3, x4, x5, x6, x7, x8, x9, none] := fun h x2 x3 x4 x5 x6 x7 x8 x9 hh => hN _ ⟨h, _, _, _, _, _, _, _, _, by rw [List.length_append, List.length_singleton]; exact hh.mono (by omega), rfl⟩
    simp only [u1_gT, u2_gT, u1_gsCons, u2_gsCons, u1_gsNil, u2_gsNil, u1_kGs, u1_gN, u1_kForB, rset_s, rset_0, rget_s, rget_0, D.seq, D.sql, u_onSome_some, frz_tup, frz_int, frz_bl, frz_lst, frz_str, frz_non, frz_scr, List.length_cons, List.length_nil, List.map_cons, List.map_nil, Option.bind_some, true_and, and_true]
    refine seq_cut (fun ρ => ∃ (h : List D) (d : Nat), 1 ≤ d ∧ d ≤ 4 ∧ hnd (n0 + 1) h ∧ ρ = [some (.scr (ns.map .int)), some (.lst true h), some (.int (k : Nat)), some (.int d), x4, x5, x6, x7, x8, x9, none]) (fun R hR => ?_) ?_
    · simp only [Bx.go]
      refine ⟨h, n0, 4, rfl, hh, by omega, by decide, by decide, fun r h' g0 g1 hh => ?_⟩
      simp only [Bx.go]
      exact hR _ ⟨h', 1 + r.toNat, by omega, by omega, hh, by rw [show ((1 + r.toNat : Nat) : Int) = 1 + r by omega]⟩
    clear hh h
    rintro _ ⟨h, d, d1, d4, hh, rfl⟩
    refine seq_cut (fun ρ => ∃ (h : List D) (ts : List Th) (ps : List (List Int)), ts.length ≤ 60 ∧ House d ts ∧ Pools ps ∧ ps.length = d ∧ hnd (n0 + 501) h ∧ ρ = [some (.scr (ns.map .int)), some (.lst true h), some (.int (k : Nat)), some (.int d), some (houseD d ts), some (.lst false (ps.map poolD)), x6, x7, x8, x9, none]) (fun R hR => ?_) ?_
    · simp only [Bx.go]
      refine ⟨h, _, d, 60, rfl, hh, by omega, d4, fun ts ps h' _ tl ht _ hP pl' hh => ?_⟩
      simp only [hz, Bx.go]
      exact hR _ ⟨h', ts, ps, tl, ht, hP, pl', hh.mono (by omega), rfl⟩
    clear hh h
    rintro _ ⟨h, ts, ps, tl, ht, hP, pl', hh, rfl⟩
    refine seq_cut (fun ρ => ∃ (h : List D) (bs : List Bx1), bs.length ≤ 8 ∧ (∀ b ∈ bs, b.length = d) ∧ hnd (n0 + 1501) h ∧ ρ = [some (.scr (ns.map .int)), some (.lst true h), some (.int (k : Nat)), some (.int d), some (houseD d ts), some (.lst false (ps.map poolD)), some (.lst true (bs.map boxD)), x7, x8, x9, none]) (fun R hR => ?_) ?_
    · simp only [Bx.go]
      refine ⟨i62_of (by decide) (by decide), by rw [rangeD_len]; decide, ?_⟩
      rw [rangeD_nat]
      refine co_each (List.range (Int.toNat 8)) _ (fun dm acc ρ => ∃ (h : List D) (bs : List Bx1), acc = bs.map boxD ∧ bs.length = dm.length ∧ (∀ b ∈ bs, b.length = d) ∧ hnd (n0 + 501 + 36 * dm.length) h ∧ ρ = [some (.scr (ns.map .int)), some (.lst true h), some (.int (k : Nat)), some (.int d), some (houseD d ts), some (.lst false (ps.map poolD)), x6, x7, x8, x9, none]) ⟨h, [], rfl, rfl, fun _ h => absurd h List.not_mem_nil, hh, rfl⟩ ?_ ?_
      · rintro dm y r acc ρ N e2 ⟨h, bs, rfl, bl, hb, hh, rfl⟩ hN
        have e2 := congrArg List.length e2
        simp at e2
        simp only [Bx.go]
        refine ⟨h, _, ps, rfl, hh, by omega, hP, by omega, fun b h' bl' hh => ?_⟩
        simp only [Bx.go]
        refine hN _ _ ⟨h', bs ++ [b], by simp [boxD], by simp [bl], fun x hx => ?_, hh.mono (by simp; omega), rfl⟩
        rcases List.mem_append.mp hx with hx | hx
        · exact hb x hx
        · simp at hx; subst hx; omega
      · rintro acc ρ ⟨h, bs, rfl, bl, hb, hh, rfl⟩
        simp only [backR, Bx.go]
        simp at bl hh
        exact hR _ ⟨h, bs, by omega, hb, hh.mono (by omega), rfl⟩
    clear hh h
    rintro _ ⟨h, bs, bl, hb, hh, rfl⟩
    simp only [Bx.go]
    refine ⟨⟨by simp, by omega, by omega, by decide⟩, ?_⟩
    refine ⟨⟨by simp, by omega, by omega, by decide⟩, by omega, ?_⟩
    rw [free_box, empt_box, show List.map boxD bs ++ [D.tup ((List.replicate d ((none, none) : Eg × Eg)).map sD), D.tup ((List.replicate d ((some (5, false), some (5, true)) : Eg × Eg)).map sD)] = (bs ++ [List.replicate d (none, none), List.replicate d (some (5, false), some (5, true))]).map boxD by simp [boxD]]
    have hall : ∀ b ∈ bs ++ [List.replicate d ((none, none) : Eg × Eg), List.replicate d (some (5, false), some (5, true))], b.length = d := fun b hb' => by
      rcases List.mem_append.mp hb' with hb' | hb'
      · exact hb b hb'
      · simp only [List.mem_cons, List.not_mem_nil, or_false] at hb'
        rcases hb' with rfl | rfl <;> simp
    generalize bs ++ [List.replicate d ((none, none) : Eg × Eg), List.replicate d (some (5, false), some (5, true))] = cs at hall
    refine for_each cs boxD (fun _ ρ => ∃ x7 x8 x9 : Option D, ρ = [some (.scr (ns.map .int)), some (.lst true h), some (.int (k : Nat)), some (.int d), some (houseD d ts), some (.lst false (ps.map poolD)), some (.lst true (bs.map boxD)), x7, x8, x9, none]) ⟨_, _, _, rfl⟩ ?_ ?_
    · rintro dm b r ρ N' e2 ⟨x7, x8, x9, rfl⟩ hN'
      have bl' : b.length = d := hall b (by rw [e2]; simp)
      have fl : (fitT b ts).length ≤ 300 := Nat.le_trans (List.length_filter_le _ _) (by omega)
      simp only [boxD_frz, u1_gT, u2_gT, u1_gsCons, u2_gsCons, u1_gsNil, u2_gsNil, u1_kGs, u1_gN, u1_kForB, rset_s, rset_0, rget_s, rget_0, D.seq, D.sql, u_onSome_some, frz_tup, frz_int, frz_bl, frz_lst, frz_str, frz_non, frz_scr, List.length_cons, List.length_nil, List.map_cons, List.map_nil, Option.bind_some, true_and, and_true]
      refine seq_cut (fun ρ => ρ = [some (.scr (ns.map .int)), some (.lst true h), some (.int (k : Nat)), some (.int d), some (houseD d ts), some (.lst false (ps.map poolD)), some (.lst true (bs.map boxD)), some (boxD b), some (dueD (fitT b ts)), x9, none]) (fun R hR => ?_) ?_
      · simp only [hz, boxD_frz, Bx.go]
        refine ⟨d, ts, b, rfl, ht, by omega, ?_⟩
        simp only [Bx.go]
        exact hR _ rfl
      rintro _ rfl
      simp only [Bx.go]
      refine for_each w4 (fun w => .str (ws w)) (fun _ ρ => ∃ x9 : Option D, ρ = [some (.scr (ns.map .int)), some (.lst true h), some (.int (k : Nat)), some (.int d), some (houseD d ts), some (.lst false (ps.map poolD)), some (.lst true (bs.map boxD)), some (boxD b), some (dueD (fitT b ts)), x9, none]) ⟨_, rfl⟩ ?_ ?_
      · rintro dw w r ρ N e3 ⟨x9, rfl⟩ hN
        have hw : w ∈ w4 := by rw [e3]; simp
        have dg := dget4 hw (fitT b ts) b (w4_ok hw)
        have gd : ∀ K, gIx (dueD (fitT b ts)) (.str (ws w)) K = K (ansT (fitT b ts) (.a0 w b (w4_ok hw))) := fun K => by
          unfold dueD
          simp only [dg, Bx.go]
        simp only [hz, boxD_frz, Bx.go]
        refine ⟨d, ts, .a0 w b (w4_ok hw), rfl, by omega, fun t h => by rw [ht.num t h]; omega, by show b.length ≤ 1000; omega, ?_⟩
        simp only [gd, Bx.go]
        refine ⟨ansT (fitT b ts) (.a0 w b (w4_ok hw)), ?_, ans_ok hw _ _ _ _, ?_⟩
        · rw [show (ansT (fitT (Ask.a0 w b (w4_ok hw)).box ts) (.a0 w b (w4_ok hw))).frz = ansT (fitT b ts) (.a0 w b (w4_ok hw)) from (ans_ok hw (fitT b ts) b (w4_ok hw) 9).frz, (ans_ok hw (fitT b ts) b (w4_ok hw) 9).frz]
        simp only [Bx.go]
        exact hN _ ⟨_, rfl⟩
      · rintro ρ ⟨x9, rfl⟩
        exact hN' _ ⟨_, _, _, rfl⟩
    · rintro ρ ⟨x7, x8, x9, rfl⟩
      exact hN _ _ _ _ _ _ _ _ _ (hh.mono (by omega))
  · rintro ρ ⟨h, x2, x3, x4, x5, x6, x7, x8, x9, hh, rfl⟩
    simp only [Bx.go]
    exact q
end K10
namespace K10
open PySem PySem.Spec PyProof.Rows L2 Bx
structure Txt (K : PySem.W.Frag) (mg : Str → Option Value) where
  a_fits_low : Addr
  d_fits_low : FuncData
  a_fits_high : Addr
  d_fits_high : FuncData
  a_fits_span : Addr
  d_fits_span : FuncData
  a_fits : Addr
  d_fits : FuncData
  a_steps : Addr
  d_steps : FuncData
  a_things_in : Addr
  d_things_in : FuncData
  a_by_place : Addr
  d_by_place : FuncData
  a_by_worth : Addr
  d_by_worth : FuncData
  a_by_worth_down : Addr
  d_by_worth_down : FuncData
  a_names_of : Addr
  d_names_of : FuncData
  a_in_order : Addr
  d_in_order : FuncData
  a_best_first : Addr
  d_best_first : FuncData
  a_nearest_first : Addr
  d_nearest_first : FuncData
  a_name_of_first : Addr
  d_name_of_first : FuncData
  a_answer_of : Addr
  d_answer_of : FuncData
  a_answer : Addr
  d_answer : FuncData
  a__law_hand : Addr
  d__law_hand : FuncData
  a__law_take : Addr
  d__law_take : FuncData
  a__law_pool : Addr
  d__law_pool : FuncData
  a__law_house : Addr
  d__law_house : FuncData
  a__law_end : Addr
  d__law_end : FuncData
  a__law_span : Addr
  d__law_span : FuncData
  a__law_box : Addr
  d__law_box : FuncData
  a__law_in : Addr
  d__law_in : FuncData
  a__law_same : Addr
  d__law_same : FuncData
  a__law_due : Addr
  d__law_due : FuncData
  a_law : Addr
  d_law : FuncData
  f_fits_low : Fun K "fits_low" "fits_low" s_fits_low a_fits_low d_fits_low
  b_fits_low : Binds K d_fits_low P_fits_low []
  m_fits_low : mg "fits_low" = some (.ref a_fits_low)
  f_fits_high : Fun K "fits_high" "fits_high" s_fits_high a_fits_high d_fits_high
  b_fits_high : Binds K d_fits_high P_fits_high []
  m_fits_high : mg "fits_high" = some (.ref a_fits_high)
  f_fits_span : Fun K "fits_span" "fits_span" s_fits_span a_fits_span d_fits_span
  b_fits_span : Binds K d_fits_span P_fits_span []
  m_fits_span : mg "fits_span" = some (.ref a_fits_span)
  f_fits : Fun K "fits" "fits" s_fits a_fits d_fits
  b_fits : Binds K d_fits P_fits []
  m_fits : mg "fits" = some (.ref a_fits)
  f_steps : Fun K "steps" "steps" s_steps a_steps d_steps
  b_steps : Binds K d_steps P_steps []
  m_steps : mg "steps" = some (.ref a_steps)
  f_things_in : Fun K "things_in" "things_in" s_things_in a_things_in d_things_in
  b_things_in : Binds K d_things_in P_things_in []
  m_things_in : mg "things_in" = some (.ref a_things_in)
  f_by_place : Fun K "by_place" "by_place" s_by_place a_by_place d_by_place
  b_by_place : Binds K d_by_place P_by_place []
  m_by_place : mg "by_place" = some (.ref a_by_place)
  f_by_worth : Fun K "by_worth" "by_worth" s_by_worth a_by_worth d_by_worth
  b_by_worth : Binds K d_by_worth P_by_worth []
  m_by_worth : mg "by_worth" = some (.ref a_by_worth)
  f_by_worth_down : Fun K "by_worth_down" "by_worth_down" s_by_worth_down a_by_worth_down d_by_worth_down
  b_by_worth_down : Binds K d_by_worth_down P_by_worth_down []
  m_by_worth_down : mg "by_worth_down" = some (.ref a_by_worth_down)
  f_names_of : Fun K "names_of" "names_of" s_names_of a_names_of d_names_of
  b_names_of : Binds K d_names_of P_names_of []
  m_names_of : mg "names_of" = some (.ref a_names_of)
  f_in_order : Fun K "in_order" "in_order" s_in_order a_in_order d_in_order
  b_in_order : Binds K d_in_order P_in_order []
  m_in_order : mg "in_order" = some (.ref a_in_order)
  f_best_first : Fun K "best_first" "best_first" s_best_first a_best_first d_best_first
  b_best_first : Binds K d_best_first P_best_first []
  m_best_first : mg "best_first" = some (.ref a_best_first)
  f_nearest_first : Fun K "nearest_first" "nearest_first" s_nearest_first a_nearest_first d_nearest_first
  b_nearest_first : Binds K d_nearest_first P_nearest_first []
  m_nearest_first : mg "nearest_first" = some (.ref a_nearest_first)
  f_name_of_first : Fun K "name_of_first" "name_of_first" s_name_of_first a_name_of_first d_name_of_first
  b_name_of_first : Binds K d_name_of_first P_name_of_first []
  m_name_of_first : mg "name_of_first" = some (.ref a_name_of_first)
  f_answer_of : Fun K "answer_of" "answer_of" s_answer_of a_answer_of d_answer_of
  b_answer_of : Binds K d_answer_of P_answer_of []
  m_answer_of : mg "answer_of" = some (.ref a_answer_of)
  f_answer : Fun K "answer" "answer" s_answer a_answer d_answer
  b_answer : Binds K d_answer P_answer []
  m_answer : mg "answer" = some (.ref a_answer)
  f__law_hand : Fun K "_law_hand" "_law_hand" s__law_hand a__law_hand d__law_hand
  b__law_hand : Binds K d__law_hand P__law_hand []
  m__law_hand : mg "_law_hand" = some (.ref a__law_hand)
  f__law_take : Fun K "_law_take" "_law_take" s__law_take a__law_take d__law_take
  b__law_take : Binds K d__law_take P__law_take []
  m__law_take : mg "_law_take" = some (.ref a__law_take)
  f__law_pool : Fun K "_law_pool" "_law_pool" s__law_pool a__law_pool d__law_pool
  b__law_pool : Binds K d__law_pool P__law_pool []
  m__law_pool : mg "_law_pool" = some (.ref a__law_pool)
  f__law_house : Fun K "_law_house" "_law_house" s__law_house a__law_house d__law_house
  b__law_house : Binds K d__law_house P__law_house []
  m__law_house : mg "_law_house" = some (.ref a__law_house)
  f__law_end : Fun K "_law_end" "_law_end" s__law_end a__law_end d__law_end
  b__law_end : Binds K d__law_end P__law_end []
  m__law_end : mg "_law_end" = some (.ref a__law_end)
  f__law_span : Fun K "_law_span" "_law_span" s__law_span a__law_span d__law_span
  b__law_span : Binds K d__law_span P__law_span []
  m__law_span : mg "_law_span" = some (.ref a__law_span)
  f__law_box : Fun K "_law_box" "_law_box" s__law_box a__law_box d__law_box
  b__law_box : Binds K d__law_box P__law_box []
  m__law_box : mg "_law_box" = some (.ref a__law_box)
  f__law_in : Fun K "_law_in" "_law_in" s__law_in a__law_in d__law_in
  b__law_in : Binds K d__law_in P__law_in []
  m__law_in : mg "_law_in" = some (.ref a__law_in)
  f__law_same : Fun K "_law_same" "_law_same" s__law_same a__law_same d__law_same
  b__law_same : Binds K d__law_same P__law_same []
  m__law_same : mg "_law_same" = some (.ref a__law_same)
  f__law_due : Fun K "_law_due" "_law_due" s__law_due a__law_due d__law_due
  b__law_due : Binds K d__law_due P__law_due []
  m__law_due : mg "_law_due" = some (.ref a__law_due)
  f_law : Fun K "law" "law" s_law a_law d_law
  b_law : Binds K d_law P_law []
  m_law : mg "law" = some (.ref a_law)
  z_abs : mg "abs" = none
  z_all : mg "all" = none
  z_bool : mg "bool" = none
  z_enumerate : mg "enumerate" = none
  z_int : mg "int" = none
  z_isinstance : mg "isinstance" = none
  z_len : mg "len" = none
  z_min : mg "min" = none
  z_range : mg "range" = none
  z_sorted : mg "sorted" = none
  z_str : mg "str" = none
  z_sum : mg "sum" = none
  z_tuple : mg "tuple" = none
  z_zip : mg "zip" = none
  hD : HasDigits K
section
variable {P : Program} {w : World} {K : PySem.W.Frag} {mg : Str → Option Value} {base : Heap}
set_option maxHeartbeats 4000000 in
theorem ss_fits_low (T : Txt K mg)  {cdv : Value} {A : Around} {outer : List Env} {s : Shared} {H : Hp} {E : XK} (hr : RoomG 1 (A.deeper (envOfC "fits_low" (defScope s_fits_low) s.heap.objs.size T.a_fits_low cdv))) :
    SSs (bX P w K mg base N_fits_low "fits_low" (defScope s_fits_low) T.a_fits_low cdv A outer s H E) [] (defBody s_fits_low) (w_fits_low) := by
  have hu := hr.units
  exact (sss_one (ss_ret (se_or (se_cmp opd_isN (so_var (pv 0)) (so_val se_non) (nomark _)) (se_or (se_cmp opd_gt (so_var (pv 1)) (so_val (se_ix ixd (so_var (pv 0)) (so_val se_int))) (nomark _)) (se_one (se_and (se_cmp (opd_eq hu) (so_var (pv 1)) (so_val (se_ix ixd (so_var (pv 0)) (so_val se_int))) (nomark _)) (se_one (se_ix ixd (so_var (pv 0)) (so_val se_int)))))))))
theorem ok_fits_low (T : Txt K mg) : FnG P w K mg base 2 T.a_fits_low T.d_fits_low P_fits_low (spD K [] C_fits_low) :=
  fnD T.f_fits_low sc_fits_low (fun cdv A outer s H E hr => ss_fits_low T  hr) imp_fits_low
set_option maxHeartbeats 4000000 in
theorem ss_fits_high (T : Txt K mg)  {cdv : Value} {A : Around} {outer : List Env} {s : Shared} {H : Hp} {E : XK} (hr : RoomG 1 (A.deeper (envOfC "fits_high" (defScope s_fits_high) s.heap.objs.size T.a_fits_high cdv))) :
    SSs (bX P w K mg base N_fits_high "fits_high" (defScope s_fits_high) T.a_fits_high cdv A outer s H E) [] (defBody s_fits_high) (w_fits_high) := by
  have hu := hr.units
  exact (sss_one (ss_ret (se_or (se_cmp opd_isN (so_var (pv 0)) (so_val se_non) (nomark _)) (se_or (se_cmp opd_lt (so_var (pv 1)) (so_val (se_ix ixd (so_var (pv 0)) (so_val se_int))) (nomark _)) (se_one (se_and (se_cmp (opd_eq hu) (so_var (pv 1)) (so_val (se_ix ixd (so_var (pv 0)) (so_val se_int))) (nomark _)) (se_one (se_ix ixd (so_var (pv 0)) (so_val se_int)))))))))
theorem ok_fits_high (T : Txt K mg) : FnG P w K mg base 2 T.a_fits_high T.d_fits_high P_fits_high (spD K [] C_fits_high) :=
  fnD T.f_fits_high sc_fits_high (fun cdv A outer s H E hr => ss_fits_high T  hr) imp_fits_high
set_option maxHeartbeats 4000000 in
theorem ss_fits_span (T : Txt K mg) (G_fits_low : FnG P w K mg base 2 T.a_fits_low T.d_fits_low P_fits_low (spD K [] C_fits_low)) (G_fits_high : FnG P w K mg base 2 T.a_fits_high T.d_fits_high P_fits_high (spD K [] C_fits_high)) {cdv : Value} {A : Around} {outer : List Env} {s : Shared} {H : Hp} {E : XK} (hr : RoomG 2 (A.deeper (envOfC "fits_span" (defScope s_fits_span) s.heap.objs.size T.a_fits_span cdv))) :
    SSs (bX P w K mg base N_fits_span "fits_span" (defScope s_fits_span) T.a_fits_span cdv A outer s H E) [] (defBody s_fits_span) (w_fits_span) := by
  have hu := hr.units
  exact (sss_one (ss_ret (se_and (se_call G_fits_low (hr.mono (by omega)) rfl T.m_fits_low T.f_fits_low.kp T.b_fits_low (sa_cons (so_val (se_ix ixd (so_var (pv 0)) (so_val se_int))) (sa_cons (so_var (pv 1)) sa_nil))) (se_one (se_call G_fits_high (hr.mono (by omega)) rfl T.m_fits_high T.f_fits_high.kp T.b_fits_high (sa_cons (so_val (se_ix ixd (so_var (pv 0)) (so_val se_int))) (sa_cons (so_var (pv 1)) sa_nil)))))))
theorem ok_fits_span (T : Txt K mg) : FnG P w K mg base 3 T.a_fits_span T.d_fits_span P_fits_span (spD K [] C_fits_span) :=
  fnD T.f_fits_span sc_fits_span (fun cdv A outer s H E hr => ss_fits_span T (ok_fits_low T) (ok_fits_high T) hr) imp_fits_span
set_option maxHeartbeats 4000000 in
theorem ss_fits (T : Txt K mg) (G_fits_span : FnG P w K mg base 3 T.a_fits_span T.d_fits_span P_fits_span (spD K [] C_fits_span)) {cdv : Value} {A : Around} {outer : List Env} {s : Shared} {H : Hp} {E : XK} (hr : RoomG 3 (A.deeper (envOfC "fits" (defScope s_fits) s.heap.objs.size T.a_fits cdv))) :
    SSs (bX P w K mg base N_fits "fits" (defScope s_fits) T.a_fits cdv A outer s H E) [] (defBody s_fits) (w_fits) := by
  have hu := hr.units
  exact (sss_one (ss_ret (se_callB (calld_all rfl) rfl T.z_all bb_all (sa_cons (so_val (se_comp (own := [("span", 2), ("number", 3)]) rfl sc_fits.nd (si_zipX rfl T.z_zip (sa_cons (so_var (pv 0)) (sa_cons (so_var (pv 1)) sa_nil))) (blkOk_by (by first | (show blkC N_fits (defScope s_fits) _ _ = true; decide +kernel) | kernel_rfl)) (fun _ _ _ _ _ => (sg_tup rfl (sgs_cons (sg_name (i := 2) sc_fits.nd rfl (Or.inl rfl)) (sgs_cons (sg_name (i := 3) sc_fits.nd rfl (Or.inl rfl)) sgs_nil)))) (fun _ _ _ _ _ => sf_nil) (fun _ _ _ _ _ => (se_call G_fits_span (hr.mono (by omega)) rfl T.m_fits_span T.f_fits_span.kp T.b_fits_span (sa_cons (so_var (pv 2)) (sa_cons (so_var (pv 3)) sa_nil)))))) sa_nil))))
theorem ok_fits (T : Txt K mg) : FnG P w K mg base 4 T.a_fits T.d_fits P_fits (spD K [] C_fits) :=
  fnD T.f_fits sc_fits (fun cdv A outer s H E hr => ss_fits T (ok_fits_span T) hr) imp_fits
set_option maxHeartbeats 4000000 in
theorem ss_steps (T : Txt K mg)  {cdv : Value} {A : Around} {outer : List Env} {s : Shared} {H : Hp} {E : XK} (hr : RoomG 1 (A.deeper (envOfC "steps" (defScope s_steps) s.heap.objs.size T.a_steps cdv))) :
    SSs (bX P w K mg base N_steps "steps" (defScope s_steps) T.a_steps cdv A outer s H E) [] (defBody s_steps) (w_steps) := by
  have hu := hr.units
  exact (sss_one (ss_ret (se_callB (calld_sum rfl) rfl T.z_sum bb_sum (sa_cons (so_val (se_comp (own := [("number", 2), ("its", 3)]) rfl sc_steps.nd (si_zipX rfl T.z_zip (sa_cons (so_var (pv 0)) (sa_cons (so_var (pv 1)) sa_nil))) (blkOk_by (by first | (show blkC N_steps (defScope s_steps) _ _ = true; decide +kernel) | kernel_rfl)) (fun _ _ _ _ _ => (sg_tup rfl (sgs_cons (sg_name (i := 2) sc_steps.nd rfl (Or.inl rfl)) (sgs_cons (sg_name (i := 3) sc_steps.nd rfl (Or.inl rfl)) sgs_nil)))) (fun _ _ _ _ _ => sf_nil) (fun _ _ _ _ _ => (se_callB calld_abs rfl T.z_abs bb_abs (sa_cons (so_val (se_bin opd_sub (so_var (pv 2)) (so_var (pv 3)))) sa_nil))))) sa_nil))))
theorem ok_steps (T : Txt K mg) : FnG P w K mg base 2 T.a_steps T.d_steps P_steps (spD K [] C_steps) :=
  fnD T.f_steps sc_steps (fun cdv A outer s H E hr => ss_steps T  hr) imp_steps
set_option maxHeartbeats 4000000 in
theorem ss_things_in (T : Txt K mg) (G_fits : FnG P w K mg base 4 T.a_fits T.d_fits P_fits (spD K [] C_fits)) {cdv : Value} {A : Around} {outer : List Env} {s : Shared} {H : Hp} {E : XK} (hr : RoomG 4 (A.deeper (envOfC "things_in" (defScope s_things_in) s.heap.objs.size T.a_things_in cdv))) :
    SSs (bX P w K mg base N_things_in "things_in" (defScope s_things_in) T.a_things_in cdv A outer s H E) [] (defBody s_things_in) (w_things_in) := by
  have hu := hr.units
  exact (sss_one (ss_ret (se_comp (own := [("thing", 2)]) rfl sc_things_in.nd (si_of (se_ix ixd (so_var (pv 0)) (so_val se_int))) (blkOk_by (by first | (show blkC N_things_in (defScope s_things_in) _ _ = true; decide +kernel) | kernel_rfl)) (fun _ _ _ _ _ => (sg_name (i := 2) sc_things_in.nd rfl (Or.inl rfl))) (fun _ _ _ _ _ => (sf_one (st_val (se_call G_fits (hr.mono (by omega)) rfl T.m_fits T.f_fits.kp T.b_fits (sa_cons (so_var (pv 1)) (sa_cons (so_val (se_ix ixd (so_var (pv 2)) (so_val se_int))) sa_nil)))))) (fun _ _ _ _ _ => (se_var (pv 2))))))
theorem ok_things_in (T : Txt K mg) : FnG P w K mg base 5 T.a_things_in T.d_things_in P_things_in (spD K [] C_things_in) :=
  fnD T.f_things_in sc_things_in (fun cdv A outer s H E hr => ss_things_in T (ok_fits T) hr) imp_things_in
set_option maxHeartbeats 4000000 in
theorem ss_by_place (T : Txt K mg)  {cdv : Value} {A : Around} {outer : List Env} {s : Shared} {H : Hp} {E : XK} (hr : RoomG 1 (A.deeper (envOfC "by_place" (defScope s_by_place) s.heap.objs.size T.a_by_place cdv))) :
    SSs (bX P w K mg base N_by_place "by_place" (defScope s_by_place) T.a_by_place cdv A outer s H E) [] (defBody s_by_place) (w_by_place) := by
  have hu := hr.units
  exact (sss_one (ss_ret (se_tup (sa_cons (so_val (se_ix ixd (so_var (pv 0)) (so_val se_int))) (sa_cons (so_val (se_ix ixd (so_var (pv 0)) (so_val se_int))) sa_nil)))))
theorem ok_by_place (T : Txt K mg) : FnG P w K mg base 2 T.a_by_place T.d_by_place P_by_place (spD K [] C_by_place) :=
  fnD T.f_by_place sc_by_place (fun cdv A outer s H E hr => ss_by_place T  hr) imp_by_place
set_option maxHeartbeats 4000000 in
theorem ss_by_worth (T : Txt K mg)  {cdv : Value} {A : Around} {outer : List Env} {s : Shared} {H : Hp} {E : XK} (hr : RoomG 1 (A.deeper (envOfC "by_worth" (defScope s_by_worth) s.heap.objs.size T.a_by_worth cdv))) :
    SSs (bX P w K mg base N_by_worth "by_worth" (defScope s_by_worth) T.a_by_worth cdv A outer s H E) [] (defBody s_by_worth) (w_by_worth) := by
  have hu := hr.units
  exact (sss_one (ss_ret (se_tup (sa_cons (so_val (se_ix ixd (so_var (pv 0)) (so_val se_int))) (sa_cons (so_val (se_ix ixd (so_var (pv 0)) (so_val se_int))) sa_nil)))))
theorem ok_by_worth (T : Txt K mg) : FnG P w K mg base 2 T.a_by_worth T.d_by_worth P_by_worth (spD K [] C_by_worth) :=
  fnD T.f_by_worth sc_by_worth (fun cdv A outer s H E hr => ss_by_worth T  hr) imp_by_worth
set_option maxHeartbeats 4000000 in
theorem ss_by_worth_down (T : Txt K mg)  {cdv : Value} {A : Around} {outer : List Env} {s : Shared} {H : Hp} {E : XK} (hr : RoomG 1 (A.deeper (envOfC "by_worth_down" (defScope s_by_worth_down) s.heap.objs.size T.a_by_worth_down cdv))) :
    SSs (bX P w K mg base N_by_worth_down "by_worth_down" (defScope s_by_worth_down) T.a_by_worth_down cdv A outer s H E) [] (defBody s_by_worth_down) (w_by_worth_down) := by
  have hu := hr.units
  exact (sss_one (ss_ret (se_tup (sa_cons (so_val (se_un und_neg (so_val (se_ix ixd (so_var (pv 0)) (so_val se_int))))) (sa_cons (so_val (se_ix ixd (so_var (pv 0)) (so_val se_int))) sa_nil)))))
theorem ok_by_worth_down (T : Txt K mg) : FnG P w K mg base 2 T.a_by_worth_down T.d_by_worth_down P_by_worth_down (spD K [] C_by_worth_down) :=
  fnD T.f_by_worth_down sc_by_worth_down (fun cdv A outer s H E hr => ss_by_worth_down T  hr) imp_by_worth_down
set_option maxHeartbeats 4000000 in
theorem ss_names_of (T : Txt K mg)  {cdv : Value} {A : Around} {outer : List Env} {s : Shared} {H : Hp} {E : XK} (hr : RoomG 1 (A.deeper (envOfC "names_of" (defScope s_names_of) s.heap.objs.size T.a_names_of cdv))) :
    SSs (bX P w K mg base N_names_of "names_of" (defScope s_names_of) T.a_names_of cdv A outer s H E) [] (defBody s_names_of) (w_names_of) := by
  have hu := hr.units
  exact (sss_one (ss_ret (se_callTy calld_tuple rfl T.z_tuple bb_tuple (sa_cons (so_val (se_comp (own := [("thing", 1)]) rfl sc_names_of.nd (si_of (se_var (pv 0))) (blkOk_by (by first | (show blkC N_names_of (defScope s_names_of) _ _ = true; decide +kernel) | kernel_rfl)) (fun _ _ _ _ _ => (sg_name (i := 1) sc_names_of.nd rfl (Or.inl rfl))) (fun _ _ _ _ _ => sf_nil) (fun _ _ _ _ _ => (se_ix ixd (so_var (pv 1)) (so_val se_int))))) sa_nil))))
theorem ok_names_of (T : Txt K mg) : FnG P w K mg base 2 T.a_names_of T.d_names_of P_names_of (spD K [] C_names_of) :=
  fnD T.f_names_of sc_names_of (fun cdv A outer s H E hr => ss_names_of T  hr) imp_names_of
set_option maxHeartbeats 4000000 in
theorem ss_in_order (T : Txt K mg) (G_by_place : FnG P w K mg base 2 T.a_by_place T.d_by_place P_by_place (spD K [] C_by_place)) {cdv : Value} {A : Around} {outer : List Env} {s : Shared} {H : Hp} {E : XK} (hr : RoomG 6 (A.deeper (envOfC "in_order" (defScope s_in_order) s.heap.objs.size T.a_in_order cdv))) :
    SSs (bX P w K mg base N_in_order "in_order" (defScope s_in_order) T.a_in_order cdv A outer s H E) [] (defBody s_in_order) (w_in_order) := by
  have hu := hr.units
  exact (sss_one (ss_ret (se_sortk G_by_place (hr.mono (by omega)) T.b_by_place rfl T.m_by_place rfl T.z_sorted (sa_cons (so_var (pv 0)) sa_nil))))
theorem ok_in_order (T : Txt K mg) : FnG P w K mg base 7 T.a_in_order T.d_in_order P_in_order (spD K [] C_in_order) :=
  fnD T.f_in_order sc_in_order (fun cdv A outer s H E hr => ss_in_order T (ok_by_place T) hr) imp_in_order
set_option maxHeartbeats 4000000 in
theorem ss_best_first (T : Txt K mg) (G_by_worth_down : FnG P w K mg base 2 T.a_by_worth_down T.d_by_worth_down P_by_worth_down (spD K [] C_by_worth_down)) {cdv : Value} {A : Around} {outer : List Env} {s : Shared} {H : Hp} {E : XK} (hr : RoomG 6 (A.deeper (envOfC "best_first" (defScope s_best_first) s.heap.objs.size T.a_best_first cdv))) :
    SSs (bX P w K mg base N_best_first "best_first" (defScope s_best_first) T.a_best_first cdv A outer s H E) [] (defBody s_best_first) (w_best_first) := by
  have hu := hr.units
  exact (sss_one (ss_ret (se_sortk G_by_worth_down (hr.mono (by omega)) T.b_by_worth_down rfl T.m_by_worth_down rfl T.z_sorted (sa_cons (so_var (pv 0)) sa_nil))))
theorem ok_best_first (T : Txt K mg) : FnG P w K mg base 7 T.a_best_first T.d_best_first P_best_first (spD K [] C_best_first) :=
  fnD T.f_best_first sc_best_first (fun cdv A outer s H E hr => ss_best_first T (ok_by_worth_down T) hr) imp_best_first
set_option maxHeartbeats 4000000 in
theorem ss_nearest_first (T : Txt K mg) (G_steps : FnG P w K mg base 2 T.a_steps T.d_steps P_steps (spD K [] C_steps)) {cdv : Value} {A : Around} {outer : List Env} {s : Shared} {H : Hp} {E : XK} (hr : RoomG 2 (A.deeper (envOfC "nearest_first" (defScope s_nearest_first) s.heap.objs.size T.a_nearest_first cdv))) :
    SSs (bX P w K mg base N_nearest_first "nearest_first" (defScope s_nearest_first) T.a_nearest_first cdv A outer s H E) [] (defBody s_nearest_first) (w_nearest_first) := by
  have hu := hr.units
  exact (sss_cons (ss_set (i := 2) sc_nearest_first.nd rfl (Or.inl rfl) (se_callB (calld_sorted hu) rfl T.z_sorted bb_sorted (sa_cons (so_val (se_comp (own := [("thing", 3)]) rfl sc_nearest_first.nd (si_of (se_var (pv 0))) (blkOk_by (by first | (show blkC N_nearest_first (defScope s_nearest_first) _ _ = true; decide +kernel) | kernel_rfl)) (fun _ _ _ _ _ => (sg_name (i := 3) sc_nearest_first.nd rfl (Or.inl rfl))) (fun _ _ _ _ _ => sf_nil) (fun _ _ _ _ _ => (se_tup (sa_cons (so_val (se_call G_steps (hr.mono (by omega)) rfl T.m_steps T.f_steps.kp T.b_steps (sa_cons (so_val (se_ix ixd (so_var (pv 3)) (so_val se_int))) (sa_cons (so_var (pv 1)) sa_nil)))) (sa_cons (so_val (se_ix ixd (so_var (pv 3)) (so_val se_int))) (sa_cons (so_var (pv 3)) sa_nil))))))) sa_nil)))
    (sss_one (ss_ret (se_comp (own := [("far", 4), ("name", 5), ("thing", 3)]) rfl sc_nearest_first.nd (si_of (se_var (pv 2))) (blkOk_by (by first | (show blkC N_nearest_first (defScope s_nearest_first) _ _ = true; decide +kernel) | kernel_rfl)) (fun _ _ _ _ _ => (sg_tup rfl (sgs_cons (sg_name (i := 4) sc_nearest_first.nd rfl (Or.inl rfl)) (sgs_cons (sg_name (i := 5) sc_nearest_first.nd rfl (Or.inl rfl)) (sgs_cons (sg_name (i := 3) sc_nearest_first.nd rfl (Or.inl rfl)) sgs_nil))))) (fun _ _ _ _ _ => sf_nil) (fun _ _ _ _ _ => (se_var (pv 3)))))))
theorem ok_nearest_first (T : Txt K mg) : FnG P w K mg base 3 T.a_nearest_first T.d_nearest_first P_nearest_first (spD K [] C_nearest_first) :=
  fnD T.f_nearest_first sc_nearest_first (fun cdv A outer s H E hr => ss_nearest_first T (ok_steps T) hr) imp_nearest_first
set_option maxHeartbeats 4000000 in
theorem ss_name_of_first (T : Txt K mg)  {cdv : Value} {A : Around} {outer : List Env} {s : Shared} {H : Hp} {E : XK} (hr : RoomG 1 (A.deeper (envOfC "name_of_first" (defScope s_name_of_first) s.heap.objs.size T.a_name_of_first cdv))) :
    SSs (bX P w K mg base N_name_of_first "name_of_first" (defScope s_name_of_first) T.a_name_of_first cdv A outer s H E) [] (defBody s_name_of_first) (w_name_of_first) := by
  have hu := hr.units
  exact (sss_cons (ss_if (st_cmp (opd_eq hu) (so_val (se_callB calld_len rfl T.z_len bb_len (sa_cons (so_var (pv 0)) sa_nil))) (so_val se_int) (nomark _))
    (sss_one (ss_ret se_non))
    sss_nil)
    (sss_one (ss_ret (se_ix ixd (so_val (se_ix ixd (so_var (pv 0)) (so_val se_int))) (so_val se_int)))))
theorem ok_name_of_first (T : Txt K mg) : FnG P w K mg base 2 T.a_name_of_first T.d_name_of_first P_name_of_first (spD K [] C_name_of_first) :=
  fnD T.f_name_of_first sc_name_of_first (fun cdv A outer s H E hr => ss_name_of_first T  hr) imp_name_of_first
set_option maxHeartbeats 4000000 in
theorem ss_answer_of (T : Txt K mg) (G_name_of_first : FnG P w K mg base 2 T.a_name_of_first T.d_name_of_first P_name_of_first (spD K [] C_name_of_first)) (G_by_worth : FnG P w K mg base 2 T.a_by_worth T.d_by_worth P_by_worth (spD K [] C_by_worth)) (G_best_first : FnG P w K mg base 7 T.a_best_first T.d_best_first P_best_first (spD K [] C_best_first)) (G_names_of : FnG P w K mg base 2 T.a_names_of T.d_names_of P_names_of (spD K [] C_names_of)) (G_in_order : FnG P w K mg base 7 T.a_in_order T.d_in_order P_in_order (spD K [] C_in_order)) (G_nearest_first : FnG P w K mg base 3 T.a_nearest_first T.d_nearest_first P_nearest_first (spD K [] C_nearest_first)) {cdv : Value} {A : Around} {outer : List Env} {s : Shared} {H : Hp} {E : XK} (hr : RoomG 7 (A.deeper (envOfC "answer_of" (defScope s_answer_of) s.heap.objs.size T.a_answer_of cdv))) :
    SSs (bX P w K mg base N_answer_of "answer_of" (defScope s_answer_of) T.a_answer_of cdv A outer s H E) [] (defBody s_answer_of) (w_answer_of) := by
  have hu := hr.units
  exact (sss_cons (ss_set (i := 2) sc_answer_of.nd rfl (Or.inl rfl) (se_ix ixd (so_var (pv 1)) (so_val se_int)))
    (sss_cons (ss_if (st_cmp (opd_eq hu) (so_var (pv 2)) (so_val se_str) (nomark _))
    (sss_one (ss_ret (se_callB calld_len rfl T.z_len bb_len (sa_cons (so_var (pv 0)) sa_nil))))
    sss_nil)
    (sss_cons (ss_if (st_cmp (opd_eq hu) (so_var (pv 2)) (so_val se_str) (nomark _))
    (sss_one (ss_ret (se_callB (calld_sum rfl) rfl T.z_sum bb_sum (sa_cons (so_val (se_comp (own := [("thing", 3)]) rfl sc_answer_of.nd (si_of (se_var (pv 0))) (blkOk_by (by first | (show blkC N_answer_of (defScope s_answer_of) _ _ = true; decide +kernel) | kernel_rfl)) (fun _ _ _ _ _ => (sg_name (i := 3) sc_answer_of.nd rfl (Or.inl rfl))) (fun _ _ _ _ _ => sf_nil) (fun _ _ _ _ _ => (se_ix ixd (so_var (pv 3)) (so_val se_int))))) sa_nil))))
    sss_nil)
    (sss_cons (ss_if (st_cmp (opd_eq hu) (so_var (pv 2)) (so_val se_str) (nomark _))
    (sss_one (ss_ret (se_call G_name_of_first (hr.mono (by omega)) rfl T.m_name_of_first T.f_name_of_first.kp T.b_name_of_first (sa_cons (so_val (se_sortk G_by_worth (hr.mono (by omega)) T.b_by_worth rfl T.m_by_worth rfl T.z_sorted (sa_cons (so_var (pv 0)) sa_nil))) sa_nil))))
    sss_nil)
    (sss_cons (ss_if (st_cmp (opd_eq hu) (so_var (pv 2)) (so_val se_str) (nomark _))
    (sss_one (ss_ret (se_call G_name_of_first (hr.mono (by omega)) rfl T.m_name_of_first T.f_name_of_first.kp T.b_name_of_first (sa_cons (so_val (se_call G_best_first (hr.mono (by omega)) rfl T.m_best_first T.f_best_first.kp T.b_best_first (sa_cons (so_var (pv 0)) sa_nil))) sa_nil))))
    sss_nil)
    (sss_cons (ss_if (st_cmp (opd_eq hu) (so_var (pv 2)) (so_val se_str) (nomark _))
    (sss_one (ss_ret (se_call G_names_of (hr.mono (by omega)) rfl T.m_names_of T.f_names_of.kp T.b_names_of (sa_cons (so_val (se_call G_in_order (hr.mono (by omega)) rfl T.m_in_order T.f_in_order.kp T.b_in_order (sa_cons (so_var (pv 0)) sa_nil))) sa_nil))))
    sss_nil)
    (sss_cons (ss_if (st_cmp (opd_eq hu) (so_var (pv 2)) (so_val se_str) (nomark _))
    (sss_one (ss_ret (se_call G_names_of (hr.mono (by omega)) rfl T.m_names_of T.f_names_of.kp T.b_names_of (sa_cons (so_val (se_slice (so_val (se_call G_in_order (hr.mono (by omega)) rfl T.m_in_order T.f_in_order.kp T.b_in_order (sa_cons (so_var (pv 0)) sa_nil))) sp_no (sp_int (se_ix ixd (so_var (pv 1)) (so_val se_int))))) sa_nil))))
    sss_nil)
    (sss_cons (ss_if (st_cmp (opd_eq hu) (so_var (pv 2)) (so_val se_str) (nomark _))
    (sss_one (ss_ret (se_call G_names_of (hr.mono (by omega)) rfl T.m_names_of T.f_names_of.kp T.b_names_of (sa_cons (so_val (se_slice (so_val (se_call G_best_first (hr.mono (by omega)) rfl T.m_best_first T.f_best_first.kp T.b_best_first (sa_cons (so_var (pv 0)) sa_nil))) sp_no (sp_int (se_ix ixd (so_var (pv 1)) (so_val se_int))))) sa_nil))))
    sss_nil)
    (sss_one (ss_ret (se_call G_names_of (hr.mono (by omega)) rfl T.m_names_of T.f_names_of.kp T.b_names_of (sa_cons (so_val (se_slice (so_val (se_call G_nearest_first (hr.mono (by omega)) rfl T.m_nearest_first T.f_nearest_first.kp T.b_nearest_first (sa_cons (so_var (pv 0)) (sa_cons (so_val (se_ix ixd (so_var (pv 1)) (so_val se_int))) sa_nil)))) sp_no (sp_int (se_ix ixd (so_var (pv 1)) (so_val se_int))))) sa_nil))))))))))))
theorem ok_answer_of (T : Txt K mg) : FnG P w K mg base 8 T.a_answer_of T.d_answer_of P_answer_of (spD K [] C_answer_of) :=
  fnD T.f_answer_of sc_answer_of (fun cdv A outer s H E hr => ss_answer_of T (ok_name_of_first T) (ok_by_worth T) (ok_best_first T) (ok_names_of T) (ok_in_order T) (ok_nearest_first T) hr) imp_answer_of
set_option maxHeartbeats 4000000 in
theorem ss_answer (T : Txt K mg) (G_answer_of : FnG P w K mg base 8 T.a_answer_of T.d_answer_of P_answer_of (spD K [] C_answer_of)) (G_things_in : FnG P w K mg base 5 T.a_things_in T.d_things_in P_things_in (spD K [] C_things_in)) {cdv : Value} {A : Around} {outer : List Env} {s : Shared} {H : Hp} {E : XK} (hr : RoomG 8 (A.deeper (envOfC "answer" (defScope s_answer) s.heap.objs.size T.a_answer cdv))) :
    SSs (bX P w K mg base N_answer "answer" (defScope s_answer) T.a_answer cdv A outer s H E) [] (defBody s_answer) (w_answer) := by
  have hu := hr.units
  exact (sss_one (ss_ret (se_call G_answer_of (hr.mono (by omega)) rfl T.m_answer_of T.f_answer_of.kp T.b_answer_of (sa_cons (so_val (se_call G_things_in (hr.mono (by omega)) rfl T.m_things_in T.f_things_in.kp T.b_things_in (sa_cons (so_var (pv 0)) (sa_cons (so_val (se_ix ixd (so_var (pv 1)) (so_val se_int))) sa_nil)))) (sa_cons (so_var (pv 1)) sa_nil)))))
theorem ok_answer (T : Txt K mg) : FnG P w K mg base 9 T.a_answer T.d_answer P_answer (spD K [] C_answer) :=
  fnD T.f_answer sc_answer (fun cdv A outer s H E hr => ss_answer T (ok_answer_of T) (ok_things_in T) hr) imp_answer
set_option maxHeartbeats 4000000 in
theorem ss__law_hand (T : Txt K mg)  {cdv : Value} {A : Around} {outer : List Env} {s : Shared} {H : Hp} {E : XK} (hr : RoomG 1 (A.deeper (envOfC "_law_hand" (defScope s__law_hand) s.heap.objs.size T.a__law_hand cdv))) :
    SSs (bX P w K mg base N__law_hand "_law_hand" (defScope s__law_hand) T.a__law_hand cdv A outer s H E) [] (defBody s__law_hand) (w__law_hand) := by
  have hu := hr.units
  exact (sss_cons (ss_set (i := 1) sc__law_hand.nd rfl (Or.inl rfl) (se_lst (sa_cons (so_val se_int) (sa_cons (so_val se_int) (sa_cons (so_val se_int) sa_nil)))))
    (sss_cons (ss_if (st_w (sw_and (st_cmp opd_gt (so_val (se_callB calld_len rfl T.z_len bb_len (sa_cons (so_var (pv 0)) sa_nil))) (so_val se_int) (nomark _)) (sw_and1 (st_cmp opd_ge (so_val (se_ix ixd (so_var (pv 0)) (so_val se_int))) (so_val (se_bin opd_pow (so_val se_int) (so_val se_int))) (nomark _)))))
    (sss_cons (ss_set (i := 4) sc__law_hand.nd rfl (Or.inl rfl) se_int)
    (sss_one (ss_for PassesOwn.never rfl (si_of (se_slice (so_var (pv 0)) sp_no (sp_int se_int))) (sg_name (i := 3) sc__law_hand.nd rfl (Or.inl rfl))
    (sss_cons (ss_sub (pv 1) (se_bin opd_add (so_val (se_ix ixd (so_var (pv 1)) (so_val se_int))) (so_val (se_bin opd_mul2 (so_val (se_bin opd_mod (so_val (se_callB calld_abs rfl T.z_abs bb_abs (sa_cons (so_var (pv 3)) sa_nil))) (so_val (se_bin opd_pow (so_val se_int) (so_val se_int))))) (so_var (pv 4))))) (so_val se_int))
    (sss_one (ss_set (i := 4) sc__law_hand.nd rfl (Or.inl rfl) (se_bin opd_mul2 (so_var (pv 4)) (so_val (se_bin opd_pow (so_val se_int) (so_val se_int))))))))))
    sss_nil)
    (sss_cons (ss_for PassesOwn.never rfl (si_enum rfl T.z_enumerate (sa_cons (so_val (se_slice (so_var (pv 0)) sp_no (sp_int se_int))) sa_nil)) (sg_tup rfl (sgs_cons (sg_name (i := 2) sc__law_hand.nd rfl (Or.inl rfl)) (sgs_cons (sg_name (i := 3) sc__law_hand.nd rfl (Or.inl rfl)) sgs_nil)))
    (sss_cons (ss_set (i := 5) sc__law_hand.nd rfl (Or.inl rfl) (se_bin opd_add (so_val (se_bin opd_add (so_val (se_bin opd_mod (so_var (pv 3)) (so_val se_int))) (so_val (se_bin opd_mul2 (so_val se_int) (so_var (pv 2)))))) (so_val se_int)))
    (sss_one (ss_sub (pv 1) (se_bin opd_mod (so_val (se_bin opd_add (so_val (se_bin opd_mul2 (so_val (se_ix ixd (so_var (pv 1)) (so_val se_int))) (so_val se_int))) (so_var (pv 5)))) (so_val se_int)) (so_val se_int)))))
    (sss_one (ss_retV (pv 1))))))
theorem ok__law_hand (T : Txt K mg) : FnG P w K mg base 2 T.a__law_hand T.d__law_hand P__law_hand (spD K [] C__law_hand) :=
  fnD T.f__law_hand sc__law_hand (fun cdv A outer s H E hr => ss__law_hand T  hr) imp__law_hand
set_option maxHeartbeats 4000000 in
theorem ss__law_take (T : Txt K mg)  {cdv : Value} {A : Around} {outer : List Env} {s : Shared} {H : Hp} {E : XK} (hr : RoomG 1 (A.deeper (envOfC "_law_take" (defScope s__law_take) s.heap.objs.size T.a__law_take cdv))) :
    SSs (bX P w K mg base N__law_take "_law_take" (defScope s__law_take) T.a__law_take cdv A outer s H E) [0] (defBody s__law_take) (w__law_take) := by
  have hu := hr.units
  exact (sss_cons (ss_if (st_cmp opd_gt (so_val (se_ix ixd (so_var (pv 0)) (so_val se_int))) (so_val se_int) (nomark _))
    (sss_cons (ss_set (i := 3) sc__law_take.nd rfl (Or.inl rfl) (se_bin opd_mod (so_val (se_ix ixd (so_var (pv 0)) (so_val se_int))) (so_var (pv 1))))
    (sss_cons (ss_sub (pv 0) (se_bin opd_div (so_val (se_ix ixd (so_var (pv 0)) (so_val se_int))) (so_var (pv 1))) (so_val se_int))
    (sss_one (ss_retV (pv 3)))))
    sss_nil)
    (sss_cons (ss_sub (pv 0) (se_bin opd_add (so_val (se_ix ixd (so_var (pv 0)) (so_val se_int))) (so_val se_int)) (so_val se_int))
    (sss_cons (ss_set (i := 2) sc__law_take.nd rfl (Or.inl rfl) (se_bin opd_mod (so_val (se_bin opd_mul2 (so_val (se_bin opd_add (so_val (se_bin opd_add (so_val (se_ix ixd (so_var (pv 0)) (so_val se_int))) (so_val (se_bin opd_mul2 (so_val (se_bin opd_mul2 (so_val se_int) (so_val (se_ix ixd (so_var (pv 0)) (so_val se_int))))) (so_val (se_ix ixd (so_var (pv 0)) (so_val se_int))))))) (so_val se_int))) (so_val se_int))) (so_val se_int)))
    (sss_cons (ss_set (i := 2) sc__law_take.nd rfl (Or.inl rfl) (se_bin opd_mod (so_val (se_bin opd_mul2 (so_var (pv 2)) (so_val (se_bin opd_add (so_val (se_bin opd_mod (so_var (pv 2)) (so_val se_int))) (so_val (se_bin opd_mul2 (so_val se_int) (so_val (se_ix ixd (so_var (pv 0)) (so_val se_int))))))))) (so_val se_int)))
    (sss_one (ss_ret (se_bin opd_mod (so_val (se_bin opd_add (so_val (se_bin opd_div (so_var (pv 2)) (so_val se_int))) (so_val (se_bin opd_div (so_var (pv 2)) (so_val se_int))))) (so_var (pv 1)))))))))
theorem ok__law_take (T : Txt K mg) : FnG P w K mg base 2 T.a__law_take T.d__law_take P__law_take (spD K [0] C__law_take) :=
  fnD T.f__law_take sc__law_take (fun cdv A outer s H E hr => ss__law_take T  hr) imp__law_take
set_option maxHeartbeats 4000000 in
theorem ss__law_pool (T : Txt K mg) (G__law_take : FnG P w K mg base 2 T.a__law_take T.d__law_take P__law_take (spD K [0] C__law_take)) {cdv : Value} {A : Around} {outer : List Env} {s : Shared} {H : Hp} {E : XK} (hr : RoomG 2 (A.deeper (envOfC "_law_pool" (defScope s__law_pool) s.heap.objs.size T.a__law_pool cdv))) :
    SSs (bX P w K mg base N__law_pool "_law_pool" (defScope s__law_pool) T.a__law_pool cdv A outer s H E) [0] (defBody s__law_pool) (w__law_pool) := by
  have hu := hr.units
  exact (sss_cons (ss_set (i := 1) sc__law_pool.nd rfl (Or.inr rfl) (se_ix ixd (so_val (se_lst (sa_cons (so_val se_int) (sa_cons (so_val (se_un und_neg (so_val se_int))) (sa_cons (so_val (se_bin opd_pow (so_val se_int) (so_val se_int))) (sa_cons (so_val (se_un und_neg (so_val (se_bin opd_pow (so_val se_int) (so_val se_int))))) (sa_cons (so_val (se_bin opd_mul2 (so_val se_int) (so_val (se_bin opd_pow (so_val se_int) (so_val se_int))))) (sa_cons (so_val (se_bin opd_sub (so_val se_int) (so_val (se_bin opd_pow (so_val se_int) (so_val se_int))))) sa_nil)))))))) (so_val (se_callIO G__law_take (hr.mono (by omega)) rfl T.m__law_take T.f__law_take.kp T.b__law_take (sa_cons (so_var (pv 0)) (sa_cons (so_val se_int) sa_nil))))))
    (sss_cons (ss_set (i := 2) sc__law_pool.nd rfl (Or.inr rfl) (se_ix ixd (so_val (se_lst (sa_cons (so_val se_int) (sa_cons (so_val se_int) (sa_cons (so_val se_int) (sa_cons (so_val se_int) sa_nil)))))) (so_val (se_callIO G__law_take (hr.mono (by omega)) rfl T.m__law_take T.f__law_take.kp T.b__law_take (sa_cons (so_var (pv 0)) (sa_cons (so_val se_int) sa_nil))))))
    (sss_one (ss_ret (se_comp (own := [("_law_k", 3)]) rfl sc__law_pool.nd (si_range1 rfl T.z_range (sa_cons (so_val (se_ix ixd (so_val (se_lst (sa_cons (so_val se_int) (sa_cons (so_val se_int) (sa_cons (so_val se_int) (sa_cons (so_val se_int) sa_nil)))))) (so_val (se_callIO G__law_take (hr.mono (by omega)) rfl T.m__law_take T.f__law_take.kp T.b__law_take (sa_cons (so_var (pv 0)) (sa_cons (so_val se_int) sa_nil)))))) sa_nil)) (blkOk_by (by first | (show blkC N__law_pool (defScope s__law_pool) _ _ = true; decide +kernel) | kernel_rfl)) (fun _ _ _ _ _ => (sg_name (i := 3) sc__law_pool.nd rfl (Or.inl rfl))) (fun _ _ _ _ _ => sf_nil) (fun _ _ _ _ _ => (se_bin opd_add (so_var (pv 1)) (so_val (se_bin opd_mul2 (so_var (pv 2)) (so_var (pv 3)))))))))))
theorem ok__law_pool (T : Txt K mg) : FnG P w K mg base 3 T.a__law_pool T.d__law_pool P__law_pool (spD K [0] C__law_pool) :=
  fnD T.f__law_pool sc__law_pool (fun cdv A outer s H E hr => ss__law_pool T (ok__law_take T) hr) imp__law_pool
set_option maxHeartbeats 4000000 in
theorem ss__law_house (T : Txt K mg) (G__law_pool : FnG P w K mg base 3 T.a__law_pool T.d__law_pool P__law_pool (spD K [0] C__law_pool)) (G__law_take : FnG P w K mg base 2 T.a__law_take T.d__law_take P__law_take (spD K [0] C__law_take)) {cdv : Value} {A : Around} {outer : List Env} {s : Shared} {H : Hp} {E : XK} (hr : RoomG 3 (A.deeper (envOfC "_law_house" (defScope s__law_house) s.heap.objs.size T.a__law_house cdv))) :
    SSs (bX P w K mg base N__law_house "_law_house" (defScope s__law_house) T.a__law_house cdv A outer s H E) [0] (defBody s__law_house) (w__law_house) := by
  have hu := hr.units
  exact (sss_cons (ss_setComp (j := 3) (own := [("_law_i", 11)]) rfl sc__law_house.nd rfl rfl (sw_true rfl rfl rfl (by decide +kernel)) (si_range1 rfl T.z_range (sa_cons (so_var (pv 1)) sa_nil)) (blkOk_by (by first | (show blkC N__law_house (defScope s__law_house) _ _ = true; decide +kernel) | kernel_rfl)) (fun _ _ _ _ _ => (sg_name (i := 11) sc__law_house.nd rfl (Or.inl rfl))) (fun _ _ _ _ _ => sf_nil) (fun _ _ _ _ _ => (se_callIO G__law_pool (hr.mono (by omega)) rfl T.m__law_pool T.f__law_pool.kp T.b__law_pool (sa_cons (so_var (pv 0)) sa_nil))))
    (sss_cons (ss_set (i := 4) sc__law_house.nd rfl (Or.inl rfl) (se_lst (sa_cons (so_val (se_lst (sa_cons (so_val se_int) sa_nil))) (sa_cons (so_val (se_lst (sa_cons (so_val se_int) (sa_cons (so_val se_int) (sa_cons (so_val se_int) sa_nil))))) (sa_cons (so_val (se_lst (sa_cons (so_val (se_un und_neg (so_val se_int))) (sa_cons (so_val se_int) (sa_cons (so_val se_int) (sa_cons (so_val se_int) sa_nil)))))) (sa_cons (so_val (se_lst (sa_cons (so_val (se_bin opd_pow (so_val se_int) (so_val se_int))) (sa_cons (so_val (se_un und_neg (so_val (se_bin opd_pow (so_val se_int) (so_val se_int))))) (sa_cons (so_val se_int) sa_nil))))) (sa_cons (so_val (se_comp (own := [("_law_k", 9)]) rfl sc__law_house.nd (si_range1 rfl T.z_range (sa_cons (so_val se_int) sa_nil)) (blkOk_by (by first | (show blkC N__law_house (defScope s__law_house) _ _ = true; decide +kernel) | kernel_rfl)) (fun _ _ _ _ _ => (sg_name (i := 9) sc__law_house.nd rfl (Or.inl rfl))) (fun _ _ _ _ _ => sf_nil) (fun _ _ _ _ _ => (se_bin opd_sub (so_val (se_bin opd_mul2 (so_val se_int) (so_var (pv 9)))) (so_val se_int))))) sa_nil)))))))
    (sss_cons (ss_set (i := 5) sc__law_house.nd rfl (Or.inl rfl) (se_ix ixd (so_var (pv 4)) (so_val (se_callIO G__law_take (hr.mono (by omega)) rfl T.m__law_take T.f__law_take.kp T.b__law_take (sa_cons (so_var (pv 0)) (sa_cons (so_val se_int) sa_nil))))))
    (sss_cons (ss_set (i := 6) sc__law_house.nd rfl (Or.inl rfl) (se_callB (calld_min rfl) rfl T.z_min bb_min (sa_cons (so_var (pv 2)) (sa_cons (so_val (se_ix ixd (so_val (se_lst (sa_cons (so_val se_int) (sa_cons (so_val se_int) (sa_cons (so_val se_int) (sa_cons (so_val se_int) (sa_cons (so_val se_int) (sa_cons (so_val se_int) (sa_cons (so_val se_int) (sa_cons (so_val se_int) (sa_cons (so_val se_int) sa_nil))))))))))) (so_val (se_callIO G__law_take (hr.mono (by omega)) rfl T.m__law_take T.f__law_take.kp T.b__law_take (sa_cons (so_var (pv 0)) (sa_cons (so_val se_int) sa_nil)))))) sa_nil))))
    (sss_cons (ss_set (i := 7) sc__law_house.nd rfl (Or.inl rfl) (se_ix ixd (so_val (se_lst (sa_cons (so_val se_int) (sa_cons (so_val se_int) (sa_cons (so_val (se_bin opd_pow (so_val se_int) (so_val se_int))) sa_nil))))) (so_val (se_callIO G__law_take (hr.mono (by omega)) rfl T.m__law_take T.f__law_take.kp T.b__law_take (sa_cons (so_var (pv 0)) (sa_cons (so_val se_int) sa_nil))))))
    (sss_cons (ss_set (i := 8) sc__law_house.nd rfl (Or.inl rfl) (se_lst sa_nil))
    (sss_cons (ss_for PassesOwn.never rfl (si_range1 rfl T.z_range (sa_cons (so_var (pv 6)) sa_nil)) (sg_name (i := 9) sc__law_house.nd rfl (Or.inl rfl))
    (sss_cons (ss_set (i := 10) sc__law_house.nd rfl (Or.inl rfl) (se_callTy calld_tuple rfl T.z_tuple bb_tuple (sa_cons (so_val (se_comp (own := [("_law_pool_here", 12)]) rfl sc__law_house.nd (si_of (se_var (pv 3))) (blkOk_by (by first | (show blkC N__law_house (defScope s__law_house) _ _ = true; decide +kernel) | kernel_rfl)) (fun _ _ _ _ _ => (sg_name (i := 12) sc__law_house.nd rfl (Or.inl rfl))) (fun _ _ _ _ _ => sf_nil) (fun _ _ _ _ _ => (se_ix ixd (so_var (pv 12)) (so_val (se_callIO G__law_take (hr.mono (by omega)) rfl T.m__law_take T.f__law_take.kp T.b__law_take (sa_cons (so_var (pv 0)) (sa_cons (so_val (se_callB calld_len rfl T.z_len bb_len (sa_cons (so_var (pv 12)) sa_nil))) sa_nil)))))))) sa_nil)))
    (sss_cons (ss_expr (se_append (pv 8) (se_tup (sa_cons (so_var (pv 7)) (sa_cons (so_var (pv 10)) (sa_cons (so_val (se_ix ixd (so_var (pv 5)) (so_val (se_callIO G__law_take (hr.mono (by omega)) rfl T.m__law_take T.f__law_take.kp T.b__law_take (sa_cons (so_var (pv 0)) (sa_cons (so_val (se_callB calld_len rfl T.z_len bb_len (sa_cons (so_var (pv 5)) sa_nil))) sa_nil)))))) sa_nil))))))
    (sss_one (ss_set (i := 7) sc__law_house.nd rfl (Or.inl rfl) (se_bin opd_add (so_val (se_bin opd_add (so_var (pv 7)) (so_val se_int))) (so_val (se_callIO G__law_take (hr.mono (by omega)) rfl T.m__law_take T.f__law_take.kp T.b__law_take (sa_cons (so_var (pv 0)) (sa_cons (so_val se_int) sa_nil))))))))))
    (sss_one (ss_ret (se_tup (sa_cons (so_val (se_tup (sa_cons (so_var (pv 1)) (sa_cons (so_val (se_callTy calld_tuple rfl T.z_tuple bb_tuple (sa_cons (so_var (pv 8)) sa_nil))) sa_nil)))) (sa_cons (so_var (pv 3)) sa_nil))))))))))))
theorem ok__law_house (T : Txt K mg) : FnG P w K mg base 4 T.a__law_house T.d__law_house P__law_house (spD K [0] C__law_house) :=
  fnD T.f__law_house sc__law_house (fun cdv A outer s H E hr => ss__law_house T (ok__law_pool T) (ok__law_take T) hr) imp__law_house
set_option maxHeartbeats 4000000 in
theorem ss__law_end (T : Txt K mg) (G__law_take : FnG P w K mg base 2 T.a__law_take T.d__law_take P__law_take (spD K [0] C__law_take)) {cdv : Value} {A : Around} {outer : List Env} {s : Shared} {H : Hp} {E : XK} (hr : RoomG 2 (A.deeper (envOfC "_law_end" (defScope s__law_end) s.heap.objs.size T.a__law_end cdv))) :
    SSs (bX P w K mg base N__law_end "_law_end" (defScope s__law_end) T.a__law_end cdv A outer s H E) [0] (defBody s__law_end) (w__law_end) := by
  have hu := hr.units
  exact (sss_cons (ss_set (i := 2) sc__law_end.nd rfl (Or.inl rfl) (se_bin opd_add (so_val (se_ix ixd (so_var (pv 1)) (so_val (se_callIO G__law_take (hr.mono (by omega)) rfl T.m__law_take T.f__law_take.kp T.b__law_take (sa_cons (so_var (pv 0)) (sa_cons (so_val (se_callB calld_len rfl T.z_len bb_len (sa_cons (so_var (pv 1)) sa_nil))) sa_nil)))))) (so_val (se_ix ixd (so_val (se_lst (sa_cons (so_val se_int) (sa_cons (so_val se_int) (sa_cons (so_val se_int) (sa_cons (so_val (se_un und_neg (so_val se_int))) (sa_cons (so_val se_int) (sa_cons (so_val se_int) sa_nil)))))))) (so_val (se_callIO G__law_take (hr.mono (by omega)) rfl T.m__law_take T.f__law_take.kp T.b__law_take (sa_cons (so_var (pv 0)) (sa_cons (so_val se_int) sa_nil))))))))
    (sss_one (ss_ret (se_ix ixd (so_val (se_lst (sa_cons (so_val (se_tup (sa_cons (so_var (pv 2)) (sa_cons (so_val (se_cmp (opd_eq hu) (so_val (se_callIO G__law_take (hr.mono (by omega)) rfl T.m__law_take T.f__law_take.kp T.b__law_take (sa_cons (so_var (pv 0)) (sa_cons (so_val se_int) sa_nil)))) (so_val se_int) (nomark _))) sa_nil)))) (sa_cons (so_val se_non) sa_nil)))) (so_val (se_callTy (calld_int T.hD) rfl T.z_int bb_int (sa_cons (so_val (se_cmp (opd_eq hu) (so_val (se_callIO G__law_take (hr.mono (by omega)) rfl T.m__law_take T.f__law_take.kp T.b__law_take (sa_cons (so_var (pv 0)) (sa_cons (so_val se_int) sa_nil)))) (so_val se_int) (nomark _))) sa_nil)))))))
theorem ok__law_end (T : Txt K mg) : FnG P w K mg base 3 T.a__law_end T.d__law_end P__law_end (spD K [0] C__law_end) :=
  fnD T.f__law_end sc__law_end (fun cdv A outer s H E hr => ss__law_end T (ok__law_take T) hr) imp__law_end
set_option maxHeartbeats 4000000 in
theorem ss__law_span (T : Txt K mg) (G__law_end : FnG P w K mg base 3 T.a__law_end T.d__law_end P__law_end (spD K [0] C__law_end)) (G__law_take : FnG P w K mg base 2 T.a__law_take T.d__law_take P__law_take (spD K [0] C__law_take)) {cdv : Value} {A : Around} {outer : List Env} {s : Shared} {H : Hp} {E : XK} (hr : RoomG 3 (A.deeper (envOfC "_law_span" (defScope s__law_span) s.heap.objs.size T.a__law_span cdv))) :
    SSs (bX P w K mg base N__law_span "_law_span" (defScope s__law_span) T.a__law_span cdv A outer s H E) [0] (defBody s__law_span) (w__law_span) := by
  have hu := hr.units
  exact (sss_cons (ss_par2 (i := 2) (j := 3) rfl sc__law_span.nd rfl rfl (by decide) rfl rfl (se_callIO G__law_end (hr.mono (by omega)) rfl T.m__law_end T.f__law_end.kp T.b__law_end (sa_cons (so_var (pv 0)) (sa_cons (so_var (pv 1)) sa_nil))) (se_callIO G__law_end (hr.mono (by omega)) rfl T.m__law_end T.f__law_end.kp T.b__law_end (sa_cons (so_var (pv 0)) (sa_cons (so_var (pv 1)) sa_nil))) (hw := by with_unfolding_all rfl))
    (sss_cons (ss_if (st_w (sw_and (st_cmp opd_notN (so_var (pv 2)) (so_val se_non) (nomark _)) (sw_and (st_cmp opd_notN (so_var (pv 3)) (so_val se_non) (nomark _)) (sw_and (st_cmp opd_gt (so_val (se_ix ixd (so_var (pv 2)) (so_val se_int))) (so_val (se_ix ixd (so_var (pv 3)) (so_val se_int))) (nomark _)) (sw_and1 (st_cmp opd_gt (so_val (se_callIO G__law_take (hr.mono (by omega)) rfl T.m__law_take T.f__law_take.kp T.b__law_take (sa_cons (so_var (pv 0)) (sa_cons (so_val se_int) sa_nil)))) (so_val se_int) (nomark _)))))))
    (sss_one (ss_ret (se_tup (sa_cons (so_var (pv 3)) (sa_cons (so_var (pv 2)) sa_nil)))))
    sss_nil)
    (sss_one (ss_ret (se_tup (sa_cons (so_var (pv 2)) (sa_cons (so_var (pv 3)) sa_nil)))))))
theorem ok__law_span (T : Txt K mg) : FnG P w K mg base 4 T.a__law_span T.d__law_span P__law_span (spD K [0] C__law_span) :=
  fnD T.f__law_span sc__law_span (fun cdv A outer s H E hr => ss__law_span T (ok__law_end T) (ok__law_take T) hr) imp__law_span
set_option maxHeartbeats 4000000 in
theorem ss__law_box (T : Txt K mg) (G__law_span : FnG P w K mg base 4 T.a__law_span T.d__law_span P__law_span (spD K [0] C__law_span)) {cdv : Value} {A : Around} {outer : List Env} {s : Shared} {H : Hp} {E : XK} (hr : RoomG 4 (A.deeper (envOfC "_law_box" (defScope s__law_box) s.heap.objs.size T.a__law_box cdv))) :
    SSs (bX P w K mg base N__law_box "_law_box" (defScope s__law_box) T.a__law_box cdv A outer s H E) [0] (defBody s__law_box) (w__law_box) := by
  have hu := hr.units
  exact (sss_one (ss_ret (se_callTy calld_tuple rfl T.z_tuple bb_tuple (sa_cons (so_val (se_comp (own := [("_law_pool_here", 2)]) rfl sc__law_box.nd (si_of (se_var (pv 1))) (blkOk_by (by first | (show blkC N__law_box (defScope s__law_box) _ _ = true; decide +kernel) | kernel_rfl)) (fun _ _ _ _ _ => (sg_name (i := 2) sc__law_box.nd rfl (Or.inl rfl))) (fun _ _ _ _ _ => sf_nil) (fun _ _ _ _ _ => (se_callIO G__law_span (hr.mono (by omega)) rfl T.m__law_span T.f__law_span.kp T.b__law_span (sa_cons (so_var (pv 0)) (sa_cons (so_var (pv 2)) sa_nil)))))) sa_nil))))
theorem ok__law_box (T : Txt K mg) : FnG P w K mg base 5 T.a__law_box T.d__law_box P__law_box (spD K [0] C__law_box) :=
  fnD T.f__law_box sc__law_box (fun cdv A outer s H E hr => ss__law_box T (ok__law_span T) hr) imp__law_box
set_option maxHeartbeats 4000000 in
theorem ss__law_in (T : Txt K mg)  {cdv : Value} {A : Around} {outer : List Env} {s : Shared} {H : Hp} {E : XK} (hr : RoomG 1 (A.deeper (envOfC "_law_in" (defScope s__law_in) s.heap.objs.size T.a__law_in cdv))) :
    SSs (bX P w K mg base N__law_in "_law_in" (defScope s__law_in) T.a__law_in cdv A outer s H E) [] (defBody s__law_in) (w__law_in) := by
  have hu := hr.units
  exact (sss_cons (ss_for PassesOwn.never rfl (si_zipX rfl T.z_zip (sa_cons (so_var (pv 0)) (sa_cons (so_var (pv 1)) sa_nil))) (sg_tup rfl (sgs_cons (sg_tup rfl (sgs_cons (sg_name (i := 2) sc__law_in.nd rfl (Or.inl rfl)) (sgs_cons (sg_name (i := 3) sc__law_in.nd rfl (Or.inl rfl)) sgs_nil))) (sgs_cons (sg_name (i := 4) sc__law_in.nd rfl (Or.inl rfl)) sgs_nil)))
    (sss_cons (ss_if (st_w (sw_and (st_cmp opd_notN (so_var (pv 2)) (so_val se_non) (nomark _)) (sw_and1 (st_w (sw_or (st_cmp opd_lt (so_var (pv 4)) (so_val (se_ix ixd (so_var (pv 2)) (so_val se_int))) (nomark _)) (sw_or1 (st_w (sw_and (st_cmp (opd_eq hu) (so_var (pv 4)) (so_val (se_ix ixd (so_var (pv 2)) (so_val se_int))) (nomark _)) (sw_and1 (st_not (st_val (se_ix ixd (so_var (pv 2)) (so_val se_int)))))))))))))
    (sss_one (ss_ret se_bl))
    sss_nil)
    (sss_one (ss_if (st_w (sw_and (st_cmp opd_notN (so_var (pv 3)) (so_val se_non) (nomark _)) (sw_and1 (st_w (sw_or (st_cmp opd_gt (so_var (pv 4)) (so_val (se_ix ixd (so_var (pv 3)) (so_val se_int))) (nomark _)) (sw_or1 (st_w (sw_and (st_cmp (opd_eq hu) (so_var (pv 4)) (so_val (se_ix ixd (so_var (pv 3)) (so_val se_int))) (nomark _)) (sw_and1 (st_not (st_val (se_ix ixd (so_var (pv 3)) (so_val se_int)))))))))))))
    (sss_one (ss_ret se_bl))
    sss_nil))))
    (sss_one (ss_ret se_bl)))
theorem ok__law_in (T : Txt K mg) : FnG P w K mg base 2 T.a__law_in T.d__law_in P__law_in (spD K [] C__law_in) :=
  fnD T.f__law_in sc__law_in (fun cdv A outer s H E hr => ss__law_in T  hr) imp__law_in
set_option maxHeartbeats 4000000 in
theorem ss__law_same (T : Txt K mg) (n : Nat) (G__law_same : FnG P w K mg base (1 + n) T.a__law_same T.d__law_same P__law_same (spD K [] (C__law_same n))) {cdv : Value} {A : Around} {outer : List Env} {s : Shared} {H : Hp} {E : XK} (hr : RoomG (1 + n) (A.deeper (envOfC "_law_same" (defScope s__law_same) s.heap.objs.size T.a__law_same cdv))) :
    SSs (bX P w K mg base N__law_same "_law_same" (defScope s__law_same) T.a__law_same cdv A outer s H E) [] (defBody s__law_same) (w__law_same n) := by
  have hu := hr.units
  exact (sss_cons (ss_if (st_val (se_isi rfl T.z_isinstance rfl T.z_tuple bb_tuple ty_tuple (so_var (pv 1))))
    (sss_cons (ss_if (st_w (sw_or (st_not (st_val (se_isi rfl T.z_isinstance rfl T.z_tuple bb_tuple ty_tuple (so_var (pv 0))))) (sw_or1 (st_cmp (opd_ne hu) (so_val (se_callB calld_len rfl T.z_len bb_len (sa_cons (so_var (pv 0)) sa_nil))) (so_val (se_callB calld_len rfl T.z_len bb_len (sa_cons (so_var (pv 1)) sa_nil))) (nomark _)))))
    (sss_one (ss_ret se_bl))
    sss_nil)
    (sss_one (ss_ret (se_callB (calld_all rfl) rfl T.z_all bb_all (sa_cons (so_val (se_comp (own := [("_law_one", 2), ("_law_other", 3)]) rfl sc__law_same.nd (si_zipX rfl T.z_zip (sa_cons (so_var (pv 0)) (sa_cons (so_var (pv 1)) sa_nil))) (blkOk_by (by first | (show blkC N__law_same (defScope s__law_same) _ _ = true; decide +kernel) | kernel_rfl)) (fun _ _ _ _ _ => (sg_tup rfl (sgs_cons (sg_name (i := 2) sc__law_same.nd rfl (Or.inl rfl)) (sgs_cons (sg_name (i := 3) sc__law_same.nd rfl (Or.inl rfl)) sgs_nil)))) (fun _ _ _ _ _ => sf_nil) (fun _ _ _ _ _ => (se_call G__law_same (hr.mono (by omega)) rfl T.m__law_same T.f__law_same.kp T.b__law_same (sa_cons (so_var (pv 2)) (sa_cons (so_var (pv 3)) sa_nil)))))) sa_nil)))))
    sss_nil)
    (sss_cons (ss_if (st_cmp opd_isN (so_var (pv 1)) (so_val se_non) (nomark _))
    (sss_one (ss_ret (se_cmp opd_isN (so_var (pv 0)) (so_val se_non) (nomark _))))
    sss_nil)
    (sss_cons (ss_if (st_w (sw_or (st_val (se_isi rfl T.z_isinstance rfl T.z_bool bb_bool ty_bool (so_var (pv 1)))) (sw_or1 (st_val (se_isi rfl T.z_isinstance rfl T.z_bool bb_bool ty_bool (so_var (pv 0)))))))
    (sss_one (ss_ret (se_and (se_isi rfl T.z_isinstance rfl T.z_bool bb_bool ty_bool (so_var (pv 1))) (se_and (se_isi rfl T.z_isinstance rfl T.z_bool bb_bool ty_bool (so_var (pv 0))) (se_one (se_cmp (opd_eq hu) (so_var (pv 0)) (so_var (pv 1)) (nomark _)))))))
    sss_nil)
    (sss_cons (ss_if (st_val (se_isi rfl T.z_isinstance rfl T.z_str bb_str ty_str (so_var (pv 1))))
    (sss_one (ss_ret (se_and (se_isi rfl T.z_isinstance rfl T.z_str bb_str ty_str (so_var (pv 0))) (se_one (se_cmp (opd_eq hu) (so_var (pv 0)) (so_var (pv 1)) (nomark _))))))
    sss_nil)
    (sss_one (ss_ret (se_and (se_isi rfl T.z_isinstance rfl T.z_int bb_int ty_int (so_var (pv 0))) (se_one (se_cmp (opd_eq hu) (so_var (pv 0)) (so_var (pv 1)) (nomark _))))))))))
theorem ok__law_same (T : Txt K mg) : ∀ n : Nat, FnG P w K mg base (1 + n) T.a__law_same T.d__law_same P__law_same (spD K [] (C__law_same n))
  | 0 => fn_zero zero__law_same
  | n + 1 => fnD T.f__law_same sc__law_same (fun cdv A outer s H E hr => ss__law_same T n (ok__law_same T n) hr) (imp__law_same n)
set_option maxHeartbeats 4000000 in
theorem ss__law_due (T : Txt K mg) (G__law_in : FnG P w K mg base 2 T.a__law_in T.d__law_in P__law_in (spD K [] C__law_in)) {cdv : Value} {A : Around} {outer : List Env} {s : Shared} {H : Hp} {E : XK} (hr : RoomG 2 (A.deeper (envOfC "_law_due" (defScope s__law_due) s.heap.objs.size T.a__law_due cdv))) :
    SSs (bX P w K mg base N__law_due "_law_due" (defScope s__law_due) T.a__law_due cdv A outer s H E) [] (defBody s__law_due) (w__law_due) := by
  have hu := hr.units
  exact (sss_cons (ss_setComp (j := 2) (own := [("_law_thing", 6)]) rfl sc__law_due.nd rfl rfl (sw_true rfl rfl rfl (by decide +kernel)) (si_of (se_ix ixd (so_var (pv 0)) (so_val se_int))) (blkOk_by (by first | (show blkC N__law_due (defScope s__law_due) _ _ = true; decide +kernel) | kernel_rfl)) (fun _ _ _ _ _ => (sg_name (i := 6) sc__law_due.nd rfl (Or.inl rfl))) (fun _ _ _ _ _ => (sf_one (st_val (se_call G__law_in (hr.mono (by omega)) rfl T.m__law_in T.f__law_in.kp T.b__law_in (sa_cons (so_var (pv 1)) (sa_cons (so_val (se_ix ixd (so_var (pv 6)) (so_val se_int))) sa_nil)))))) (fun _ _ _ _ _ => (se_var (pv 6))))
    (sss_cons (ss_asg (se_tup (sa_cons (so_val se_non) (sa_cons (so_val se_non) (sa_cons (so_val se_int) sa_nil)))) (sg_tup rfl (sgs_cons (sg_name (i := 3) sc__law_due.nd rfl (Or.inl rfl)) (sgs_cons (sg_name (i := 4) sc__law_due.nd rfl (Or.inl rfl)) (sgs_cons (sg_name (i := 5) sc__law_due.nd rfl (Or.inl rfl)) sgs_nil)))))
    (sss_cons (ss_for PassesOwn.never rfl (si_of (se_var (pv 2))) (sg_name (i := 6) sc__law_due.nd rfl (Or.inl rfl))
    (sss_cons (ss_set (i := 5) sc__law_due.nd rfl (Or.inl rfl) (se_bin opd_add (so_var (pv 5)) (so_val (se_ix ixd (so_var (pv 6)) (so_val se_int)))))
    (sss_cons (ss_if (st_w (sw_or (st_cmp opd_isN (so_var (pv 3)) (so_val se_non) (nomark _)) (sw_or1 (st_cmp opd_lt (so_val (se_ix ixd (so_var (pv 6)) (so_val se_int))) (so_val (se_ix ixd (so_var (pv 3)) (so_val se_int))) (nomark _)))))
    (sss_one (ss_set (i := 3) sc__law_due.nd rfl (Or.inl rfl) (se_var (pv 6))))
    sss_nil)
    (sss_one (ss_if (st_w (sw_or (st_cmp opd_isN (so_var (pv 4)) (so_val se_non) (nomark _)) (sw_or1 (st_cmp opd_gt (so_val (se_ix ixd (so_var (pv 6)) (so_val se_int))) (so_val (se_ix ixd (so_var (pv 4)) (so_val se_int))) (nomark _)))))
    (sss_one (ss_set (i := 4) sc__law_due.nd rfl (Or.inl rfl) (se_var (pv 6))))
    sss_nil)))))
    (sss_cons (ss_set (i := 7) sc__law_due.nd rfl (Or.inl rfl) (se_odc (sdx_cons (so_val (se_callB calld_len rfl T.z_len bb_len (sa_cons (so_var (pv 2)) sa_nil))) (sdx_cons (so_var (pv 5)) (sdx_cons (so_val se_non) (sdx_cons (so_val se_non) sdx_nil)))) rfl rfl (by simp) (by decide) (by decide) (by decide)))
    (sss_cons (ss_if (st_cmp opd_notN (so_var (pv 3)) (so_val se_non) (nomark _))
    (sss_one (ss_expr (se_dupd (pv 7) (se_dic (sdx_cons (so_val (se_ix ixd (so_var (pv 3)) (so_val se_int))) (sdx_cons (so_val (se_ix ixd (so_var (pv 4)) (so_val se_int))) sdx_nil)) rfl rfl (by simp) (by decide) (by decide) (by decide)) ⟨rfl, rfl, rfl, rfl⟩)))
    sss_nil)
    (sss_one (ss_retV (pv 7))))))))
theorem ok__law_due (T : Txt K mg) : FnG P w K mg base 3 T.a__law_due T.d__law_due P__law_due (spD K [] C__law_due) :=
  fnD T.f__law_due sc__law_due (fun cdv A outer s H E hr => ss__law_due T (ok__law_in T) hr) imp__law_due
set_option maxHeartbeats 4000000 in
theorem ss_law (T : Txt K mg) (G__law_hand : FnG P w K mg base 2 T.a__law_hand T.d__law_hand P__law_hand (spD K [] C__law_hand)) (G__law_take : FnG P w K mg base 2 T.a__law_take T.d__law_take P__law_take (spD K [0] C__law_take)) (G__law_house : FnG P w K mg base 4 T.a__law_house T.d__law_house P__law_house (spD K [0] C__law_house)) (G__law_box : FnG P w K mg base 5 T.a__law_box T.d__law_box P__law_box (spD K [0] C__law_box)) (G__law_due : FnG P w K mg base 3 T.a__law_due T.d__law_due P__law_due (spD K [] C__law_due)) (G__law_same : FnG P w K mg base 11 T.a__law_same T.d__law_same P__law_same (spD K [] (C__law_same lv__law_same))) (G_answer : FnG P w K mg base 9 T.a_answer T.d_answer P_answer (spD K [] C_answer)) {cdv : Value} {A : Around} {outer : List Env} {s : Shared} {H : Hp} {E : XK} (hr : RoomG 11 (A.deeper (envOfC "law" (defScope s_law) s.heap.objs.size T.a_law cdv))) :
    SSs (bX P w K mg base N_law "law" (defScope s_law) T.a_law cdv A outer s H E) [] (defBody s_law) (w_law) := by
  have hu := hr.units
  exact (sss_cons (ss_set (i := 1) sc_law.nd rfl (Or.inr rfl) (se_call G__law_hand (hr.mono (by omega)) rfl T.m__law_hand T.f__law_hand.kp T.b__law_hand (sa_cons (so_var (pv 0)) sa_nil)))
    (sss_cons (ss_for PassesOwn.never rfl (si_range1 rfl T.z_range (sa_cons (so_val se_int) sa_nil)) (sg_name (i := 2) sc_law.nd rfl (Or.inl rfl))
    (sss_cons (ss_set (i := 3) sc_law.nd rfl (Or.inl rfl) (se_bin opd_add (so_val se_int) (so_val (se_callIO G__law_take (hr.mono (by omega)) rfl T.m__law_take T.f__law_take.kp T.b__law_take (sa_cons (so_var (pv 1)) (sa_cons (so_val se_int) sa_nil))))))
    (sss_cons (ss_asg (se_callIO G__law_house (hr.mono (by omega)) rfl T.m__law_house T.f__law_house.kp T.b__law_house (sa_cons (so_var (pv 1)) (sa_cons (so_var (pv 3)) (sa_cons (so_val se_int) sa_nil)))) (sg_tup rfl (sgs_cons (sg_name (i := 4) sc_law.nd rfl (Or.inl rfl)) (sgs_cons (sg_name (i := 5) sc_law.nd rfl (Or.inr rfl)) sgs_nil))))
    (sss_cons (ss_setComp (j := 6) (own := [("_law_k", 10)]) rfl sc_law.nd rfl rfl (sw_true rfl rfl rfl (by decide +kernel)) (si_range1 rfl T.z_range (sa_cons (so_val se_int) sa_nil)) (blkOk_by (by first | (show blkC N_law (defScope s_law) _ _ = true; decide +kernel) | kernel_rfl)) (fun _ _ _ _ _ => (sg_name (i := 10) sc_law.nd rfl (Or.inl rfl))) (fun _ _ _ _ _ => sf_nil) (fun _ _ _ _ _ => (se_callIO G__law_box (hr.mono (by omega)) rfl T.m__law_box T.f__law_box.kp T.b__law_box (sa_cons (so_var (pv 1)) (sa_cons (so_var (pv 5)) sa_nil)))))
    (sss_one (ss_for PassesOwn.never rfl (si_of (se_bin opd_add (so_var (pv 6)) (so_val (se_lst (sa_cons (so_val (se_bin opd_tmul (so_val (se_tup (sa_cons (so_val (se_tup (sa_cons (so_val se_non) (sa_cons (so_val se_non) sa_nil)))) sa_nil))) (so_var (pv 3)))) (sa_cons (so_val (se_bin opd_tmul (so_val (se_tup (sa_cons (so_val (se_tup (sa_cons (so_val (se_tup (sa_cons (so_val se_int) (sa_cons (so_val se_bl) sa_nil)))) (sa_cons (so_val (se_tup (sa_cons (so_val se_int) (sa_cons (so_val se_bl) sa_nil)))) sa_nil)))) sa_nil))) (so_var (pv 3)))) sa_nil)))))) (sg_name (i := 7) sc_law.nd rfl (Or.inl rfl))
    (sss_cons (ss_set (i := 8) sc_law.nd rfl (Or.inl rfl) (se_call G__law_due (hr.mono (by omega)) rfl T.m__law_due T.f__law_due.kp T.b__law_due (sa_cons (so_var (pv 4)) (sa_cons (so_var (pv 7)) sa_nil))))
    (sss_one (ss_for PassesOwn.never rfl (si_of (se_tup (sa_cons (so_val se_str) (sa_cons (so_val se_str) (sa_cons (so_val se_str) (sa_cons (so_val se_str) (sa_cons (so_val se_str) sa_nil))))))) (sg_name (i := 9) sc_law.nd rfl (Or.inl rfl))
    (sss_one (ss_if (st_not (st_val (se_call G__law_same (hr.mono (by omega)) rfl T.m__law_same T.f__law_same.kp T.b__law_same (sa_cons (so_val (se_call G_answer (hr.mono (by omega)) rfl T.m_answer T.f_answer.kp T.b_answer (sa_cons (so_var (pv 4)) (sa_cons (so_val (se_tup (sa_cons (so_var (pv 9)) (sa_cons (so_var (pv 7)) sa_nil)))) sa_nil)))) (sa_cons (so_val (se_ix ixd (so_var (pv 8)) (so_var (pv 9)))) sa_nil)))))
    (sss_one (ss_ret se_bl))
    sss_nil)))))))))))
    (sss_one (ss_ret se_bl))))
theorem ok_law (T : Txt K mg) : FnG P w K mg base 12 T.a_law T.d_law P_law (spD K [] C_law) :=
  fnD T.f_law sc_law (fun cdv A outer s H E hr => ss_law T (ok__law_hand T) (ok__law_take T) (ok__law_house T) (ok__law_box T) (ok__law_due T) (ok__law_same T lv__law_same) (ok_answer T) hr) imp_law
end
theorem all_mk {l : PySem.W.OpenLaw} {w : World} {K : PySem.W.Frag} {h : Heap} {mg : Str → Option Value} {fa : Addr} (X : K.In h) (G : h.Ns mainGlobals mg) (hfa : mg "law" = some (.ref fa))
    {f1 f2 f3 f4 f5 f6 f7 f8 f9 f10 f11 f12 f13 f14 f15 f16 f17 f18 f19 f20 f21 f22 f23 f24 f25 f26 f27 : Addr} {od1 an1 od2 an2 od3 an3 od4 an4 od5 an5 od6 an6 od7 an7 od8 an8 od9 an9 od10 an10 od11 an11 od12 an12 od13 an13 od14 an14 od15 an15 od16 an16 od17 an17 od18 an18 od19 an19 od20 an20 od21 an21 od22 an22 od23 an23 od24 an24 od25 an25 od26 an26 od27 an27 : Option Addr} {sl1 sl2 sl3 sl4 sl5 sl6 sl7 sl8 sl9 sl10 sl11 sl12 sl13 sl14 sl15 sl16 sl17 sl18 sl19 sl20 sl21 sl22 sl23 sl24 sl25 sl26 sl27 : Array (Option Value)} {oc1 kV1 dc1 pm1 cd1 ct1 oc2 kV2 dc2 pm2 cd2 ct2 oc3 kV3 dc3 pm3 cd3 ct3 oc4 kV4 dc4 pm4 cd4 ct4 oc5 kV5 dc5 pm5 cd5 ct5 oc6 kV6 dc6 pm6 cd6 ct6 oc7 kV7 dc7 pm7 cd7 ct7 oc8 kV8 dc8 pm8 cd8 ct8 oc9 kV9 dc9 pm9 cd9 ct9 oc10 kV10 dc10 pm10 cd10 ct10 oc11 kV11 dc11 pm11 cd11 ct11 oc12 kV12 dc12 pm12 cd12 ct12 oc13 kV13 dc13 pm13 cd13 ct13 oc14 kV14 dc14 pm14 cd14 ct14 oc15 kV15 dc15 pm15 cd15 ct15 oc16 kV16 dc16 pm16 cd16 ct16 oc17 kV17 dc17 pm17 cd17 ct17 oc18 kV18 dc18 pm18 cd18 ct18 oc19 kV19 dc19 pm19 cd19 ct19 oc20 kV20 dc20 pm20 cd20 ct20 oc21 kV21 dc21 pm21 cd21 ct21 oc22 kV22 dc22 pm22 cd22 ct22 oc23 kV23 dc23 pm23 cd23 ct23 oc24 kV24 dc24 pm24 cd24 ct24 oc25 kV25 dc25 pm25 cd25 ct25 oc26 kV26 dc26 pm26 cd26 ct26 oc27 kV27 dc27 pm27 cd27 ct27 : Value}
    (a1 : PySem.W.nsIn K mainGlobals "fits_low" = some (some (.ref f1))) (l1 : K.lookup f1 = some ⟨oc1, od1, .func (PySem.W.fnOf "fits_low" "fits_low" (defArgs s_fits_low) (defBody s_fits_low) (defScope s_fits_low) .none kV1 dc1 pm1 an1 cd1 ct1), sl1⟩) (c1 : PySem.W.codeIn K cd1 "fits_low" = true) (k1 : PySem.W.keepIn K (.ref f1) = true)
    (a2 : PySem.W.nsIn K mainGlobals "fits_high" = some (some (.ref f2))) (l2 : K.lookup f2 = some ⟨oc2, od2, .func (PySem.W.fnOf "fits_high" "fits_high" (defArgs s_fits_high) (defBody s_fits_high) (defScope s_fits_high) .none kV2 dc2 pm2 an2 cd2 ct2), sl2⟩) (c2 : PySem.W.codeIn K cd2 "fits_high" = true) (k2 : PySem.W.keepIn K (.ref f2) = true)
    (a3 : PySem.W.nsIn K mainGlobals "fits_span" = some (some (.ref f3))) (l3 : K.lookup f3 = some ⟨oc3, od3, .func (PySem.W.fnOf "fits_span" "fits_span" (defArgs s_fits_span) (defBody s_fits_span) (defScope s_fits_span) .none kV3 dc3 pm3 an3 cd3 ct3), sl3⟩) (c3 : PySem.W.codeIn K cd3 "fits_span" = true) (k3 : PySem.W.keepIn K (.ref f3) = true)
    (a4 : PySem.W.nsIn K mainGlobals "fits" = some (some (.ref f4))) (l4 : K.lookup f4 = some ⟨oc4, od4, .func (PySem.W.fnOf "fits" "fits" (defArgs s_fits) (defBody s_fits) (defScope s_fits) .none kV4 dc4 pm4 an4 cd4 ct4), sl4⟩) (c4 : PySem.W.codeIn K cd4 "fits" = true) (k4 : PySem.W.keepIn K (.ref f4) = true)
    (a5 : PySem.W.nsIn K mainGlobals "steps" = some (some (.ref f5))) (l5 : K.lookup f5 = some ⟨oc5, od5, .func (PySem.W.fnOf "steps" "steps" (defArgs s_steps) (defBody s_steps) (defScope s_steps) .none kV5 dc5 pm5 an5 cd5 ct5), sl5⟩) (c5 : PySem.W.codeIn K cd5 "steps" = true) (k5 : PySem.W.keepIn K (.ref f5) = true)
    (a6 : PySem.W.nsIn K mainGlobals "things_in" = some (some (.ref f6))) (l6 : K.lookup f6 = some ⟨oc6, od6, .func (PySem.W.fnOf "things_in" "things_in" (defArgs s_things_in) (defBody s_things_in) (defScope s_things_in) .none kV6 dc6 pm6 an6 cd6 ct6), sl6⟩) (c6 : PySem.W.codeIn K cd6 "things_in" = true) (k6 : PySem.W.keepIn K (.ref f6) = true)
    (a7 : PySem.W.nsIn K mainGlobals "by_place" = some (some (.ref f7))) (l7 : K.lookup f7 = some ⟨oc7, od7, .func (PySem.W.fnOf "by_place" "by_place" (defArgs s_by_place) (defBody s_by_place) (defScope s_by_place) .none kV7 dc7 pm7 an7 cd7 ct7), sl7⟩) (c7 : PySem.W.codeIn K cd7 "by_place" = true) (k7 : PySem.W.keepIn K (.ref f7) = true)
    (a8 : PySem.W.nsIn K mainGlobals "by_worth" = some (some (.ref f8))) (l8 : K.lookup f8 = some ⟨oc8, od8, .func (PySem.W.fnOf "by_worth" "by_worth" (defArgs s_by_worth) (defBody s_by_worth) (defScope s_by_worth) .none kV8 dc8 pm8 an8 cd8 ct8), sl8⟩) (c8 : PySem.W.codeIn K cd8 "by_worth" = true) (k8 : PySem.W.keepIn K (.ref f8) = true)
    (a9 : PySem.W.nsIn K mainGlobals "by_worth_down" = some (some (.ref f9))) (l9 : K.lookup f9 = some ⟨oc9, od9, .func (PySem.W.fnOf "by_worth_down" "by_worth_down" (defArgs s_by_worth_down) (defBody s_by_worth_down) (defScope s_by_worth_down) .none kV9 dc9 pm9 an9 cd9 ct9), sl9⟩) (c9 : PySem.W.codeIn K cd9 "by_worth_down" = true) (k9 : PySem.W.keepIn K (.ref f9) = true)
    (a10 : PySem.W.nsIn K mainGlobals "names_of" = some (some (.ref f10))) (l10 : K.lookup f10 = some ⟨oc10, od10, .func (PySem.W.fnOf "names_of" "names_of" (defArgs s_names_of) (defBody s_names_of) (defScope s_names_of) .none kV10 dc10 pm10 an10 cd10 ct10), sl10⟩) (c10 : PySem.W.codeIn K cd10 "names_of" = true) (k10 : PySem.W.keepIn K (.ref f10) = true)
    (a11 : PySem.W.nsIn K mainGlobals "in_order" = some (some (.ref f11))) (l11 : K.lookup f11 = some ⟨oc11, od11, .func (PySem.W.fnOf "in_order" "in_order" (defArgs s_in_order) (defBody s_in_order) (defScope s_in_order) .none kV11 dc11 pm11 an11 cd11 ct11), sl11⟩) (c11 : PySem.W.codeIn K cd11 "in_order" = true) (k11 : PySem.W.keepIn K (.ref f11) = true)
    (a12 : PySem.W.nsIn K mainGlobals "best_first" = some (some (.ref f12))) (l12 : K.lookup f12 = some ⟨oc12, od12, .func (PySem.W.fnOf "best_first" "best_first" (defArgs s_best_first) (defBody s_best_first) (defScope s_best_first) .none kV12 dc12 pm12 an12 cd12 ct12), sl12⟩) (c12 : PySem.W.codeIn K cd12 "best_first" = true) (k12 : PySem.W.keepIn K (.ref f12) = true)
    (a13 : PySem.W.nsIn K mainGlobals "nearest_first" = some (some (.ref f13))) (l13 : K.lookup f13 = some ⟨oc13, od13, .func (PySem.W.fnOf "nearest_first" "nearest_first" (defArgs s_nearest_first) (defBody s_nearest_first) (defScope s_nearest_first) .none kV13 dc13 pm13 an13 cd13 ct13), sl13⟩) (c13 : PySem.W.codeIn K cd13 "nearest_first" = true) (k13 : PySem.W.keepIn K (.ref f13) = true)
    (a14 : PySem.W.nsIn K mainGlobals "name_of_first" = some (some (.ref f14))) (l14 : K.lookup f14 = some ⟨oc14, od14, .func (PySem.W.fnOf "name_of_first" "name_of_first" (defArgs s_name_of_first) (defBody s_name_of_first) (defScope s_name_of_first) .none kV14 dc14 pm14 an14 cd14 ct14), sl14⟩) (c14 : PySem.W.codeIn K cd14 "name_of_first" = true) (k14 : PySem.W.keepIn K (.ref f14) = true)
    (a15 : PySem.W.nsIn K mainGlobals "answer_of" = some (some (.ref f15))) (l15 : K.lookup f15 = some ⟨oc15, od15, .func (PySem.W.fnOf "answer_of" "answer_of" (defArgs s_answer_of) (defBody s_answer_of) (defScope s_answer_of) .none kV15 dc15 pm15 an15 cd15 ct15), sl15⟩) (c15 : PySem.W.codeIn K cd15 "answer_of" = true) (k15 : PySem.W.keepIn K (.ref f15) = true)
    (a16 : PySem.W.nsIn K mainGlobals "answer" = some (some (.ref f16))) (l16 : K.lookup f16 = some ⟨oc16, od16, .func (PySem.W.fnOf "answer" "answer" (defArgs s_answer) (defBody s_answer) (defScope s_answer) .none kV16 dc16 pm16 an16 cd16 ct16), sl16⟩) (c16 : PySem.W.codeIn K cd16 "answer" = true) (k16 : PySem.W.keepIn K (.ref f16) = true)
    (a17 : PySem.W.nsIn K mainGlobals "_law_hand" = some (some (.ref f17))) (l17 : K.lookup f17 = some ⟨oc17, od17, .func (PySem.W.fnOf "_law_hand" "_law_hand" (defArgs s__law_hand) (defBody s__law_hand) (defScope s__law_hand) .none kV17 dc17 pm17 an17 cd17 ct17), sl17⟩) (c17 : PySem.W.codeIn K cd17 "_law_hand" = true) (k17 : PySem.W.keepIn K (.ref f17) = true)
    (a18 : PySem.W.nsIn K mainGlobals "_law_take" = some (some (.ref f18))) (l18 : K.lookup f18 = some ⟨oc18, od18, .func (PySem.W.fnOf "_law_take" "_law_take" (defArgs s__law_take) (defBody s__law_take) (defScope s__law_take) .none kV18 dc18 pm18 an18 cd18 ct18), sl18⟩) (c18 : PySem.W.codeIn K cd18 "_law_take" = true) (k18 : PySem.W.keepIn K (.ref f18) = true)
    (a19 : PySem.W.nsIn K mainGlobals "_law_pool" = some (some (.ref f19))) (l19 : K.lookup f19 = some ⟨oc19, od19, .func (PySem.W.fnOf "_law_pool" "_law_pool" (defArgs s__law_pool) (defBody s__law_pool) (defScope s__law_pool) .none kV19 dc19 pm19 an19 cd19 ct19), sl19⟩) (c19 : PySem.W.codeIn K cd19 "_law_pool" = true) (k19 : PySem.W.keepIn K (.ref f19) = true)
    (a20 : PySem.W.nsIn K mainGlobals "_law_house" = some (some (.ref f20))) (l20 : K.lookup f20 = some ⟨oc20, od20, .func (PySem.W.fnOf "_law_house" "_law_house" (defArgs s__law_house) (defBody s__law_house) (defScope s__law_house) .none kV20 dc20 pm20 an20 cd20 ct20), sl20⟩) (c20 : PySem.W.codeIn K cd20 "_law_house" = true) (k20 : PySem.W.keepIn K (.ref f20) = true)
    (a21 : PySem.W.nsIn K mainGlobals "_law_end" = some (some (.ref f21))) (l21 : K.lookup f21 = some ⟨oc21, od21, .func (PySem.W.fnOf "_law_end" "_law_end" (defArgs s__law_end) (defBody s__law_end) (defScope s__law_end) .none kV21 dc21 pm21 an21 cd21 ct21), sl21⟩) (c21 : PySem.W.codeIn K cd21 "_law_end" = true) (k21 : PySem.W.keepIn K (.ref f21) = true)
    (a22 : PySem.W.nsIn K mainGlobals "_law_span" = some (some (.ref f22))) (l22 : K.lookup f22 = some ⟨oc22, od22, .func (PySem.W.fnOf "_law_span" "_law_span" (defArgs s__law_span) (defBody s__law_span) (defScope s__law_span) .none kV22 dc22 pm22 an22 cd22 ct22), sl22⟩) (c22 : PySem.W.codeIn K cd22 "_law_span" = true) (k22 : PySem.W.keepIn K (.ref f22) = true)
    (a23 : PySem.W.nsIn K mainGlobals "_law_box" = some (some (.ref f23))) (l23 : K.lookup f23 = some ⟨oc23, od23, .func (PySem.W.fnOf "_law_box" "_law_box" (defArgs s__law_box) (defBody s__law_box) (defScope s__law_box) .none kV23 dc23 pm23 an23 cd23 ct23), sl23⟩) (c23 : PySem.W.codeIn K cd23 "_law_box" = true) (k23 : PySem.W.keepIn K (.ref f23) = true)
    (a24 : PySem.W.nsIn K mainGlobals "_law_in" = some (some (.ref f24))) (l24 : K.lookup f24 = some ⟨oc24, od24, .func (PySem.W.fnOf "_law_in" "_law_in" (defArgs s__law_in) (defBody s__law_in) (defScope s__law_in) .none kV24 dc24 pm24 an24 cd24 ct24), sl24⟩) (c24 : PySem.W.codeIn K cd24 "_law_in" = true) (k24 : PySem.W.keepIn K (.ref f24) = true)
    (a25 : PySem.W.nsIn K mainGlobals "_law_same" = some (some (.ref f25))) (l25 : K.lookup f25 = some ⟨oc25, od25, .func (PySem.W.fnOf "_law_same" "_law_same" (defArgs s__law_same) (defBody s__law_same) (defScope s__law_same) .none kV25 dc25 pm25 an25 cd25 ct25), sl25⟩) (c25 : PySem.W.codeIn K cd25 "_law_same" = true) (k25 : PySem.W.keepIn K (.ref f25) = true)
    (a26 : PySem.W.nsIn K mainGlobals "_law_due" = some (some (.ref f26))) (l26 : K.lookup f26 = some ⟨oc26, od26, .func (PySem.W.fnOf "_law_due" "_law_due" (defArgs s__law_due) (defBody s__law_due) (defScope s__law_due) .none kV26 dc26 pm26 an26 cd26 ct26), sl26⟩) (c26 : PySem.W.codeIn K cd26 "_law_due" = true) (k26 : PySem.W.keepIn K (.ref f26) = true)
    (a27 : PySem.W.nsIn K mainGlobals "law" = some (some (.ref f27))) (l27 : K.lookup f27 = some ⟨oc27, od27, .func (PySem.W.fnOf "law" "law" (defArgs s_law) (defBody s_law) (defScope s_law) .none kV27 dc27 pm27 an27 cd27 ct27), sl27⟩) (c27 : PySem.W.codeIn K cd27 "law" = true) (k27 : PySem.W.keepIn K (.ref f27) = true)
    (z_abs : PySem.W.nsIn K mainGlobals "abs" = some none)
    (z_all : PySem.W.nsIn K mainGlobals "all" = some none)
    (z_bool : PySem.W.nsIn K mainGlobals "bool" = some none)
    (z_enumerate : PySem.W.nsIn K mainGlobals "enumerate" = some none)
    (z_int : PySem.W.nsIn K mainGlobals "int" = some none)
    (z_isinstance : PySem.W.nsIn K mainGlobals "isinstance" = some none)
    (z_len : PySem.W.nsIn K mainGlobals "len" = some none)
    (z_min : PySem.W.nsIn K mainGlobals "min" = some none)
    (z_range : PySem.W.nsIn K mainGlobals "range" = some none)
    (z_sorted : PySem.W.nsIn K mainGlobals "sorted" = some none)
    (z_str : PySem.W.nsIn K mainGlobals "str" = some none)
    (z_sum : PySem.W.nsIn K mainGlobals "sum" = some none)
    (z_tuple : PySem.W.nsIn K mainGlobals "tuple" = some none)
    (z_zip : PySem.W.nsIn K mainGlobals "zip" = some none)
    (hD : PySem.W.nsIn K cStatics "sys.int_max_str_digits" = some none) :
    ∃ fd : FuncData, (∀ (s : Shared) (v : Value), BindsTo s fd ⟨[v], []⟩ [("_law_script", v)]) ∧ ∀ base : Heap, K.In base → base.Ns mainGlobals mg → FnG l.prog w K mg base 12 fa fd ["_law_script"] (spD K [] CLaw) := by
  have e := hfa.symm.trans (PySem.W.mg_of X G a27)
  cases e
  have F1 := fun_mk (st := s_fits_low) l1 c1 k1
  have b1 := F1.binds (ps := P_fits_low) fun _ _ _ _ _ _ us hl => match us, hl with | [_, _], _ => rfl
  have F2 := fun_mk (st := s_fits_high) l2 c2 k2
  have b2 := F2.binds (ps := P_fits_high) fun _ _ _ _ _ _ us hl => match us, hl with | [_, _], _ => rfl
  have F3 := fun_mk (st := s_fits_span) l3 c3 k3
  have b3 := F3.binds (ps := P_fits_span) fun _ _ _ _ _ _ us hl => match us, hl with | [_, _], _ => rfl
  have F4 := fun_mk (st := s_fits) l4 c4 k4
  have b4 := F4.binds (ps := P_fits) fun _ _ _ _ _ _ us hl => match us, hl with | [_, _], _ => rfl
  have F5 := fun_mk (st := s_steps) l5 c5 k5
  have b5 := F5.binds (ps := P_steps) fun _ _ _ _ _ _ us hl => match us, hl with | [_, _], _ => rfl
  have F6 := fun_mk (st := s_things_in) l6 c6 k6
  have b6 := F6.binds (ps := P_things_in) fun _ _ _ _ _ _ us hl => match us, hl with | [_, _], _ => rfl
  have F7 := fun_mk (st := s_by_place) l7 c7 k7
  have b7 := F7.binds (ps := P_by_place) fun _ _ _ _ _ _ us hl => match us, hl with | [_], _ => rfl
  have F8 := fun_mk (st := s_by_worth) l8 c8 k8
  have b8 := F8.binds (ps := P_by_worth) fun _ _ _ _ _ _ us hl => match us, hl with | [_], _ => rfl
  have F9 := fun_mk (st := s_by_worth_down) l9 c9 k9
  have b9 := F9.binds (ps := P_by_worth_down) fun _ _ _ _ _ _ us hl => match us, hl with | [_], _ => rfl
  have F10 := fun_mk (st := s_names_of) l10 c10 k10
  have b10 := F10.binds (ps := P_names_of) fun _ _ _ _ _ _ us hl => match us, hl with | [_], _ => rfl
  have F11 := fun_mk (st := s_in_order) l11 c11 k11
  have b11 := F11.binds (ps := P_in_order) fun _ _ _ _ _ _ us hl => match us, hl with | [_], _ => rfl
  have F12 := fun_mk (st := s_best_first) l12 c12 k12
  have b12 := F12.binds (ps := P_best_first) fun _ _ _ _ _ _ us hl => match us, hl with | [_], _ => rfl
  have F13 := fun_mk (st := s_nearest_first) l13 c13 k13
  have b13 := F13.binds (ps := P_nearest_first) fun _ _ _ _ _ _ us hl => match us, hl with | [_, _], _ => rfl
  have F14 := fun_mk (st := s_name_of_first) l14 c14 k14
  have b14 := F14.binds (ps := P_name_of_first) fun _ _ _ _ _ _ us hl => match us, hl with | [_], _ => rfl
  have F15 := fun_mk (st := s_answer_of) l15 c15 k15
  have b15 := F15.binds (ps := P_answer_of) fun _ _ _ _ _ _ us hl => match us, hl with | [_, _], _ => rfl
  have F16 := fun_mk (st := s_answer) l16 c16 k16
  have b16 := F16.binds (ps := P_answer) fun _ _ _ _ _ _ us hl => match us, hl with | [_, _], _ => rfl
  have F17 := fun_mk (st := s__law_hand) l17 c17 k17
  have b17 := F17.binds (ps := P__law_hand) fun _ _ _ _ _ _ us hl => match us, hl with | [_], _ => rfl
  have F18 := fun_mk (st := s__law_take) l18 c18 k18
  have b18 := F18.binds (ps := P__law_take) fun _ _ _ _ _ _ us hl => match us, hl with | [_, _], _ => rfl
  have F19 := fun_mk (st := s__law_pool) l19 c19 k19
  have b19 := F19.binds (ps := P__law_pool) fun _ _ _ _ _ _ us hl => match us, hl with | [_], _ => rfl
  have F20 := fun_mk (st := s__law_house) l20 c20 k20
  have b20 := F20.binds (ps := P__law_house) fun _ _ _ _ _ _ us hl => match us, hl with | [_, _, _], _ => rfl
  have F21 := fun_mk (st := s__law_end) l21 c21 k21
  have b21 := F21.binds (ps := P__law_end) fun _ _ _ _ _ _ us hl => match us, hl with | [_, _], _ => rfl
  have F22 := fun_mk (st := s__law_span) l22 c22 k22
  have b22 := F22.binds (ps := P__law_span) fun _ _ _ _ _ _ us hl => match us, hl with | [_, _], _ => rfl
  have F23 := fun_mk (st := s__law_box) l23 c23 k23
  have b23 := F23.binds (ps := P__law_box) fun _ _ _ _ _ _ us hl => match us, hl with | [_, _], _ => rfl
  have F24 := fun_mk (st := s__law_in) l24 c24 k24
  have b24 := F24.binds (ps := P__law_in) fun _ _ _ _ _ _ us hl => match us, hl with | [_, _], _ => rfl
  have F25 := fun_mk (st := s__law_same) l25 c25 k25
  have b25 := F25.binds (ps := P__law_same) fun _ _ _ _ _ _ us hl => match us, hl with | [_, _], _ => rfl
  have F26 := fun_mk (st := s__law_due) l26 c26 k26
  have b26 := F26.binds (ps := P__law_due) fun _ _ _ _ _ _ us hl => match us, hl with | [_, _], _ => rfl
  have F27 := fun_mk (st := s_law) l27 c27 k27
  have b27 := F27.binds (ps := P_law) fun _ _ _ _ _ _ us hl => match us, hl with | [_], _ => rfl
  let T : Txt K mg := { a_fits_low := f1, d_fits_low := _, f_fits_low := F1, b_fits_low := b1, m_fits_low := PySem.W.mg_of X G a1, a_fits_high := f2, d_fits_high := _, f_fits_high := F2, b_fits_high := b2, m_fits_high := PySem.W.mg_of X G a2, a_fits_span := f3, d_fits_span := _, f_fits_span := F3, b_fits_span := b3, m_fits_span := PySem.W.mg_of X G a3, a_fits := f4, d_fits := _, f_fits := F4, b_fits := b4, m_fits := PySem.W.mg_of X G a4, a_steps := f5, d_steps := _, f_steps := F5, b_steps := b5, m_steps := PySem.W.mg_of X G a5, a_things_in := f6, d_things_in := _, f_things_in := F6, b_things_in := b6, m_things_in := PySem.W.mg_of X G a6, a_by_place := f7, d_by_place := _, f_by_place := F7, b_by_place := b7, m_by_place := PySem.W.mg_of X G a7, a_by_worth := f8, d_by_worth := _, f_by_worth := F8, b_by_worth := b8, m_by_worth := PySem.W.mg_of X G a8, a_by_worth_down := f9, d_by_worth_down := _, f_by_worth_down := F9, b_by_worth_down := b9, m_by_worth_down := PySem.W.mg_of X G a9, a_names_of := f10, d_names_of := _, f_names_of := F10, b_names_of := b10, m_names_of := PySem.W.mg_of X G a10, a_in_order := f11, d_in_order := _, f_in_order := F11, b_in_order := b11, m_in_order := PySem.W.mg_of X G a11, a_best_first := f12, d_best_first := _, f_best_first := F12, b_best_first := b12, m_best_first := PySem.W.mg_of X G a12, a_nearest_first := f13, d_nearest_first := _, f_nearest_first := F13, b_nearest_first := b13, m_nearest_first := PySem.W.mg_of X G a13, a_name_of_first := f14, d_name_of_first := _, f_name_of_first := F14, b_name_of_first := b14, m_name_of_first := PySem.W.mg_of X G a14, a_answer_of := f15, d_answer_of := _, f_answer_of := F15, b_answer_of := b15, m_answer_of := PySem.W.mg_of X G a15, a_answer := f16, d_answer := _, f_answer := F16, b_answer := b16, m_answer := PySem.W.mg_of X G a16, a__law_hand := f17, d__law_hand := _, f__law_hand := F17, b__law_hand := b17, m__law_hand := PySem.W.mg_of X G a17, a__law_take := f18, d__law_take := _, f__law_take := F18, b__law_take := b18, m__law_take := PySem.W.mg_of X G a18, a__law_pool := f19, d__law_pool := _, f__law_pool := F19, b__law_pool := b19, m__law_pool := PySem.W.mg_of X G a19, a__law_house := f20, d__law_house := _, f__law_house := F20, b__law_house := b20, m__law_house := PySem.W.mg_of X G a20, a__law_end := f21, d__law_end := _, f__law_end := F21, b__law_end := b21, m__law_end := PySem.W.mg_of X G a21, a__law_span := f22, d__law_span := _, f__law_span := F22, b__law_span := b22, m__law_span := PySem.W.mg_of X G a22, a__law_box := f23, d__law_box := _, f__law_box := F23, b__law_box := b23, m__law_box := PySem.W.mg_of X G a23, a__law_in := f24, d__law_in := _, f__law_in := F24, b__law_in := b24, m__law_in := PySem.W.mg_of X G a24, a__law_same := f25, d__law_same := _, f__law_same := F25, b__law_same := b25, m__law_same := PySem.W.mg_of X G a25, a__law_due := f26, d__law_due := _, f__law_due := F26, b__law_due := b26, m__law_due := PySem.W.mg_of X G a26, a_law := fa, d_law := _, f_law := F27, b_law := b27, m_law := PySem.W.mg_of X G a27, z_abs := PySem.W.mg_none_of X G z_abs, z_all := PySem.W.mg_none_of X G z_all, z_bool := PySem.W.mg_none_of X G z_bool, z_enumerate := PySem.W.mg_none_of X G z_enumerate, z_int := PySem.W.mg_none_of X G z_int, z_isinstance := PySem.W.mg_none_of X G z_isinstance, z_len := PySem.W.mg_none_of X G z_len, z_min := PySem.W.mg_none_of X G z_min, z_range := PySem.W.mg_none_of X G z_range, z_sorted := PySem.W.mg_none_of X G z_sorted, z_str := PySem.W.mg_none_of X G z_str, z_sum := PySem.W.mg_none_of X G z_sum, z_tuple := PySem.W.mg_none_of X G z_tuple, z_zip := PySem.W.mg_none_of X G z_zip, hD := hD }
  exact ⟨_, fun s v => .of_eq rfl, fun base _ _ => ok_law (P := l.prog) (w := w) (base := base) T⟩
end K10
open PySem PySem.W PyProof.Rows
set_option maxRecDepth 100000 in
set_option maxHeartbeats 0 in
theorem PySem.Challenge.cw_boxlayers_k10_counts_sums_and_ends_holds : PySem.Challenge.rw_boxlayers_k10_counts_sums_and_ends.Holds := by
  w_on; o_law; k_head; (case hw => w_witness2)
  k_fill
  refine Bx.walk_G (l := PySem.Challenge.rw_boxlayers_k10_counts_sums_and_ends) (n := 63) (k := 12) (x := "_law_script") (sp := fun w => Bx.spD _ [] Bx.CLaw) rfl (by decide) rfl ⟨rfl, by decide, by decide⟩ (fun w h Y => PySem.W.kIn_of Y) ?F (fun w H a ns hl hO hS => Bx.law_start hl hO hS)
  case F =>
    intro w mg fa h KX G hmg
    refine' K10.all_mk KX G hmg ?a1 ?l1 ?c1 ?k1 ?a2 ?l2 ?c2 ?k2 ?a3 ?l3 ?c3 ?k3 ?a4 ?l4 ?c4 ?k4 ?a5 ?l5 ?c5 ?k5 ?a6 ?l6 ?c6 ?k6 ?a7 ?l7 ?c7 ?k7 ?a8 ?l8 ?c8 ?k8 ?a9 ?l9 ?c9 ?k9 ?a10 ?l10 ?c10 ?k10 ?a11 ?l11 ?c11 ?k11 ?a12 ?l12 ?c12 ?k12 ?a13 ?l13 ?c13 ?k13 ?a14 ?l14 ?c14 ?k14 ?a15 ?l15 ?c15 ?k15 ?a16 ?l16 ?c16 ?k16 ?a17 ?l17 ?c17 ?k17 ?a18 ?l18 ?c18 ?k18 ?a19 ?l19 ?c19 ?k19 ?a20 ?l20 ?c20 ?k20 ?a21 ?l21 ?c21 ?k21 ?a22 ?l22 ?c22 ?k22 ?a23 ?l23 ?c23 ?k23 ?a24 ?l24 ?c24 ?k24 ?a25 ?l25 ?c25 ?k25 ?a26 ?l26 ?c26 ?k26 ?a27 ?l27 ?c27 ?k27 ?z_abs ?z_all ?z_bool ?z_enumerate ?z_int ?z_isinstance ?z_len ?z_min ?z_range ?z_sorted ?z_str ?z_sum ?z_tuple ?z_zip ?hD
    (case a1 => k_is); (case l1 => k_is); (case c1 => k_is); (case k1 => k_is); (case a2 => k_is); (case l2 => k_is); (case c2 => k_is); (case k2 => k_is); (case a3 => k_is); (case l3 => k_is); (case c3 => k_is); (case k3 => k_is); (case a4 => k_is); (case l4 => k_is); (case c4 => k_is); (case k4 => k_is); (case a5 => k_is); (case l5 => k_is); (case c5 => k_is); (case k5 => k_is); (case a6 => k_is); (case l6 => k_is); (case c6 => k_is); (case k6 => k_is); (case a7 => k_is); (case l7 => k_is); (case c7 => k_is); (case k7 => k_is); (case a8 => k_is); (case l8 => k_is); (case c8 => k_is); (case k8 => k_is); (case a9 => k_is); (case l9 => k_is); (case c9 => k_is); (case k9 => k_is); (case a10 => k_is); (case l10 => k_is); (case c10 => k_is); (case k10 => k_is); (case a11 => k_is); (case l11 => k_is); (case c11 => k_is); (case k11 => k_is); (case a12 => k_is); (case l12 => k_is); (case c12 => k_is); (case k12 => k_is); (case a13 => k_is); (case l13 => k_is); (case c13 => k_is); (case k13 => k_is); (case a14 => k_is); (case l14 => k_is); (case c14 => k_is); (case k14 => k_is); (case a15 => k_is); (case l15 => k_is); (case c15 => k_is); (case k15 => k_is); (case a16 => k_is); (case l16 => k_is); (case c16 => k_is); (case k16 => k_is); (case a17 => k_is); (case l17 => k_is); (case c17 => k_is); (case k17 => k_is); (case a18 => k_is); (case l18 => k_is); (case c18 => k_is); (case k18 => k_is); (case a19 => k_is); (case l19 => k_is); (case c19 => k_is); (case k19 => k_is); (case a20 => k_is); (case l20 => k_is); (case c20 => k_is); (case k20 => k_is); (case a21 => k_is); (case l21 => k_is); (case c21 => k_is); (case k21 => k_is); (case a22 => k_is); (case l22 => k_is); (case c22 => k_is); (case k22 => k_is); (case a23 => k_is); (case l23 => k_is); (case c23 => k_is); (case k23 => k_is); (case a24 => k_is); (case l24 => k_is); (case c24 => k_is); (case k24 => k_is); (case a25 => k_is); (case l25 => k_is); (case c25 => k_is); (case k25 => k_is); (case a26 => k_is); (case l26 => k_is); (case c26 => k_is); (case k26 => k_is); (case a27 => k_is); (case l27 => k_is); (case c27 => k_is); (case k27 => k_is); (case z_abs => k_is); (case z_all => k_is); (case z_bool => k_is); (case z_enumerate => k_is); (case z_int => k_is); (case z_isinstance => k_is); (case z_len => k_is); (case z_min => k_is); (case z_range => k_is); (case z_sorted => k_is); (case z_str => k_is); (case z_sum => k_is); (case z_tuple => k_is); (case z_zip => k_is); (case hD => k_is)
