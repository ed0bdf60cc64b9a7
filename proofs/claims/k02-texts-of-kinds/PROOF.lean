import PyProof.Rows.All
import Wide.All
import OpenK.AllK
import Wide.FinOn
import HandS.ForMost
import HandS.HeadHook1
import HandS.TupAny
import HandS.Wide
import HandS.IsInst
import HandS.Exc
import HandS.ExcOwn
import HandS.Flow
import HandS.Codes
import HandS.Deep
import HandS.TupLe
import HandS.Base
import HandS.Call
import HandS.Ends
import HandS.More
import HandS.Words
import HandS.WordsExc
import HandS.Defaults
import HandS.Head0
import HandS.Head1
import HandS.Head2
import HandS.HeadEnd
import HandS.HeadHook2
import HandS.HeadHook4
import PySem.Challenge.RW_facestead_k02_texts_of_kinds
import Lean
set_option Elab.async false
set_option linter.all false
set_option maxRecDepth 100000
set_option maxHeartbeats 0
/-! The core: plain data, how a value stands for it, slots that own. -/
namespace Z
open PySem PySem.Spec L2

inductive D where
  | non | bl (b : Bool) | int (i : Int) | str (s : List Nat) | tup (l : List D) | lst (l : List D) | dic (l : List (D × D)) | obj (c : Nat) (l : List (Nat × D)) | lfz (l : List D) | tuk (l : List D)

structure Gx where
  K : PySem.W.Frag
  cn : Nat → Str
  an : Nat → Str

def keyD : Key → D
  | .inl i => .int i
  | .inr x => .str x.cps.toList

mutual
inductive Rp (G : Gx) (F : Hp) : V → D → Prop where
  | non : Rp G F .non .non
  | bl (b : Bool) : Rp G F (.bl b) (.bl b)
  | int (i : Int) : Rp G F (.int i) (.int i)
  | str (x : Str) (h : PyData.strOk x = true) : Rp G F (.str x) (.str x.cps.toList)
  | tup {a : Addr} {vs : List V} {ds : List D} : F a = some (.tup vs) → Rps G F vs ds → Rp G F (.ref a) (.tup ds)
  | lst {a : Addr} {vs : List V} {ds : List D} : F a = some (.lst vs) → Rps G F vs ds → Rp G F (.ref a) (.lst ds)
  | lfz {a : Addr} {vs : List V} {ds : List D} : SqL G.K F a vs → Rps G F vs ds → Rp G F (.ref a) (.lfz ds)
  | tuk {a : Addr} {vs : List V} {ds : List D} : SqT G.K F a vs → Rps G F vs ds → Rp G F (.ref a) (.tuk ds)
  | dic {a : Addr} {kvs : List (Key × V)} {ds : List (D × D)} : Rd F a (.dK kvs) → RpK G F kvs ds → Rp G F (.ref a) (.dic ds)
  | dit {a : Addr} {kvs : List (List Key × V)} {ds : List (D × D)} : Rd F a (.dT kvs) → RpT G F kvs ds → Rp G F (.ref a) (.dic ds)
  | obj {a c dx : Addr} {k : Nat} {fs : List (Str × V)} {ds : List (Nat × D)} : F a = some (.ins (He.ga G.K (G.cn k)) dx fs) → RpF G F fs ds → Rp G F (.ref a) (.obj k ds)
inductive Rps (G : Gx) (F : Hp) : List V → List D → Prop where
  | nil : Rps G F [] []
  | cons {v : V} {d : D} {vs : List V} {ds : List D} : Rp G F v d → Rps G F vs ds → Rps G F (v :: vs) (d :: ds)
inductive RpK (G : Gx) (F : Hp) : List (Key × V) → List (D × D) → Prop where
  | nil : RpK G F [] []
  | cons {k : Key} {v : V} {d : D} {r : List (Key × V)} {s : List (D × D)} : Rp G F v d → RpK G F r s → RpK G F ((k, v) :: r) ((keyD k, d) :: s)
inductive RpT (G : Gx) (F : Hp) : List (List Key × V) → List (D × D) → Prop where
  | nil : RpT G F [] []
  | cons {k : List Key} {v : V} {d : D} {r : List (List Key × V)} {s : List (D × D)} : Rp G F v d → RpT G F r s → RpT G F ((k, v) :: r) ((.tup (k.map keyD), d) :: s)
inductive RpF (G : Gx) (F : Hp) : List (Str × V) → List (Nat × D) → Prop where
  | nil : RpF G F [] []
  | cons {n : Nat} {v : V} {d : D} {r : List (Str × V)} {s : List (Nat × D)} : Rp G F v d → RpF G F r s → RpF G F ((G.an n, v) :: r) ((n, d) :: s)
end

theorem Same.rd {H H' : Hp} {a : Addr} {u : HO} (e : Same H H') (h : Rd H a u) : Rd H' a u := by
  rcases h with h | ⟨o, h⟩
  · exact .inl (e _ _ h)
  · exact .inr ⟨o, e _ _ h⟩
theorem Same.seqT {K : PySem.W.Frag} {H H' : Hp} {a : Addr} {xs : List V} (e : Same H H') (h : SqT K H a xs) : SqT K H' a xs := by
  rcases h with (h | ⟨o, h⟩) | h
  · exact .inl (.inl (e _ _ h))
  · exact .inl (.inr ⟨o, e _ _ h⟩)
  · exact .inr h

section
variable {G : Gx} {F F' : Hp}
mutual
theorem Rp.mono (e : Same F F') : ∀ {v : V} {d : D}, Rp G F v d → Rp G F' v d
  | _, _, .non => .non
  | _, _, .bl b => .bl b
  | _, _, .int i => .int i
  | _, _, .str x h => .str x h
  | _, _, .tup h r => .tup (e _ _ h) (Rps.mono e r)
  | _, _, .lst h r => .lst (e _ _ h) (Rps.mono e r)
  | _, _, .lfz h r => .lfz (e.seq h) (Rps.mono e r)
  | _, _, .tuk h r => .tuk (Same.seqT e h) (Rps.mono e r)
  | _, _, .dic h r => .dic (Same.rd e h) (RpK.mono e r)
  | _, _, .dit h r => .dit (Same.rd e h) (RpT.mono e r)
  | _, _, .obj (c := c) h r => .obj (c := c) (e _ _ h) (RpF.mono e r)
theorem Rps.mono (e : Same F F') : ∀ {v : List V} {d : List D}, Rps G F v d → Rps G F' v d
  | _, _, .nil => .nil
  | _, _, .cons h r => .cons (Rp.mono e h) (Rps.mono e r)
theorem RpK.mono (e : Same F F') : ∀ {v : List (Key × V)} {d : List (D × D)}, RpK G F v d → RpK G F' v d
  | _, _, .nil => .nil
  | _, _, .cons h r => .cons (Rp.mono e h) (RpK.mono e r)
theorem RpT.mono (e : Same F F') : ∀ {v : List (List Key × V)} {d : List (D × D)}, RpT G F v d → RpT G F' v d
  | _, _, .nil => .nil
  | _, _, .cons h r => .cons (Rp.mono e h) (RpT.mono e r)
theorem RpF.mono (e : Same F F') : ∀ {v : List (Str × V)} {d : List (Nat × D)}, RpF G F v d → RpF G F' v d
  | _, _, .nil => .nil
  | _, _, .cons h r => .cons (Rp.mono e h) (RpF.mono e r)
end
theorem Rps.length : ∀ {v : List V} {d : List D}, Rps G F v d → v.length = d.length
  | _, _, .nil => rfl
  | _, _, .cons _ r => by rw [List.length_cons, List.length_cons, Rps.length r]
theorem Rps.get : ∀ {vs : List V} {ds : List D} {i : Nat} {d : D}, Rps G F vs ds → ds[i]? = some d → ∃ v, vs[i]? = some v ∧ Rp G F v d
  | _, _, _, _, .nil, e => by simp at e
  | _, _, 0, _, .cons h _, e => by
    simp at e; subst e; exact ⟨_, rfl, h⟩
  | _, _, i + 1, d, .cons _ r, e => by
    obtain ⟨v, h1, h2⟩ := Rps.get (i := i) (d := d) r (by simpa using e)
    exact ⟨v, by simpa using h1, h2⟩
theorem Rps.getV : ∀ {vs : List V} {ds : List D} {i : Nat} {v : V}, Rps G F vs ds → vs[i]? = some v → ∃ d, ds[i]? = some d ∧ Rp G F v d
  | _, _, _, _, .nil, e => by simp at e
  | _, _, 0, _, .cons h _, e => by
    simp at e; subst e; exact ⟨_, rfl, h⟩
  | _, _, i + 1, v, .cons _ r, e => by
    obtain ⟨d, h1, h2⟩ := Rps.getV (i := i) (v := v) r (by simpa using e)
    exact ⟨d, by simpa using h1, h2⟩
theorem Rps.append : ∀ {vs ws : List V} {ds es : List D}, Rps G F vs ds → Rps G F ws es → Rps G F (vs ++ ws) (ds ++ es)
  | _, _, _, _, .nil, h => h
  | _, _, _, _, .cons h r, h' => .cons h (Rps.append r h')
theorem Rps.take : ∀ {vs : List V} {ds : List D} (n : Nat), Rps G F vs ds → Rps G F (vs.take n) (ds.take n)
  | _, _, 0, _ => by simpa using Rps.nil
  | _, _, _ + 1, .nil => by simpa using Rps.nil
  | _, _, n + 1, .cons h r => by simpa using Rps.cons h (Rps.take n r)
theorem Rps.drop : ∀ {vs : List V} {ds : List D} (n : Nat), Rps G F vs ds → Rps G F (vs.drop n) (ds.drop n)
  | _, _, 0, h => by simpa using h
  | _, _, _ + 1, .nil => by simpa using Rps.nil
  | _, _, n + 1, .cons h r => by simpa using Rps.drop n r
theorem Rps.set {v : V} {d : D} (h : Rp G F v d) : ∀ {vs : List V} {ds : List D} (n : Nat), Rps G F vs ds → Rps G F (vs.set n v) (ds.set n d)
  | _, _, _, .nil => by simpa using Rps.nil
  | _, _, 0, .cons _ r => by simpa using Rps.cons h r
  | _, _, n + 1, .cons g r => by simpa using Rps.cons g (Rps.set h n r)
theorem Rps.eraseIdx : ∀ {vs : List V} {ds : List D} (n : Nat), Rps G F vs ds → Rps G F (vs.eraseIdx n) (ds.eraseIdx n)
  | _, _, _, .nil => by simpa using Rps.nil
  | _, _, 0, .cons _ r => by simpa using r
  | _, _, n + 1, .cons g r => by simpa using Rps.cons g (Rps.eraseIdx n r)
theorem Rps.dropLast : ∀ {vs : List V} {ds : List D}, Rps G F vs ds → Rps G F vs.dropLast ds.dropLast
  | _, _, .nil => by simpa using Rps.nil
  | _, _, .cons g .nil => by simpa using Rps.nil
  | _, _, .cons g (.cons h r) => by simpa using Rps.cons g (Rps.dropLast (.cons h r))
theorem Rps.one {v : V} {d : D} (h : Rp G F v d) : Rps G F [v] [d] := .cons h .nil
end

/-! ### what a slot holds -/
/-- sh: data that nobody changes any more; li, di: a list, a dict of this slot's own -/
inductive S where
  | sh (d : D) | li (l : List D) | di (l : List (D × D))
abbrev Env := List (Option S)
def S.isOwn : S → Bool
  | .sh _ => false
  | _ => true
def S.d : S → D
  | .sh d => d
  | .li l => .lst l
  | .di l => .dic l
/-- an own list, an own dict at p -/
def OwnsAt (G : Gx) (F H : Hp) (p : Addr) : S → Prop
  | .sh _ => False
  | .li l => ∃ vs, H p = some (.lst vs) ∧ Rps G F vs l
  | .di l => (∃ kvs, H p = some (.dK kvs) ∧ RpK G F kvs l) ∨ ∃ kvs, H p = some (.dT kvs) ∧ RpT G F kvs l
theorem OwnsAt.some {G : Gx} {F H : Hp} {p : Addr} {s : S} (h : OwnsAt G F H p s) : ∃ o, H p = some o := by
  cases s with
  | sh d => exact h.elim
  | li l => obtain ⟨vs, e, _⟩ := h; exact ⟨_, e⟩
  | di l => rcases h with ⟨_, e, _⟩ | ⟨_, e, _⟩ <;> exact ⟨_, e⟩
theorem OwnsAt.mono {G : Gx} {F F' H H' : Hp} {p : Addr} {s : S} (e : Same F F') (k : ∀ o, H p = Option.some o → H' p = Option.some o) (h : OwnsAt G F H p s) : OwnsAt G F' H' p s := by
  cases s with
  | sh d => exact h.elim
  | li l => obtain ⟨vs, e1, r⟩ := h; exact ⟨vs, k _ e1, r.mono e⟩
  | di l =>
    rcases h with ⟨kvs, e1, r⟩ | ⟨kvs, e1, r⟩
    · exact .inl ⟨kvs, k _ e1, r.mono e⟩
    · exact .inr ⟨kvs, k _ e1, r.mono e⟩
/-- frozen: it is data -/
theorem OwnsAt.frozen {G : Gx} {F H : Hp} {p : Addr} {s : S} (e : Same F H) (h : OwnsAt G F H p s) : Rp G H (.ref p) s.d := by
  cases s with
  | sh d => exact h.elim
  | li l => obtain ⟨vs, e1, r⟩ := h; exact .lst e1 (r.mono e)
  | di l =>
    rcases h with ⟨kvs, e1, r⟩ | ⟨kvs, e1, r⟩
    · exact .dic (Rd.of e1) (r.mono e)
    · exact .dit (Rd.of e1) (r.mono e)

structure Stt (G : Gx) (F : Hp) (ρ : Env) (σ : St) (H : Hp) : Prop where
  sub : Same F H
  len : ρ.length = σ.length
  sh : ∀ (i : Nat) (d : D), ρ[i]? = some (some (.sh d)) → ∃ v, σ[i]? = some (some v) ∧ Rp G F v d
  ow : ∀ (i : Nat) (s : S), ρ[i]? = some (some s) → s.isOwn = true → ∃ p, σ[i]? = some (some (.ref p)) ∧ F p = none ∧ OwnsAt G F H p s
  inj : ∀ (i j : Nat) (s t : S) (p : Addr), ρ[i]? = some (some s) → s.isOwn = true → ρ[j]? = some (some t) → t.isOwn = true → σ[i]? = some (some (.ref p)) → σ[j]? = some (some (.ref p)) → i = j
/-- the addresses that slots own -/
def Ow (ρ : Env) (σ : St) (p : Addr) : Prop := ∃ (i : Nat) (s : S), ρ[i]? = some (some s) ∧ s.isOwn = true ∧ σ[i]? = some (some (.ref p))

/-- the heap grew; what is frozen grew by new objects alone -/
structure Ext (F H F' H' : Hp) : Prop where
  ff : Same F F'
  hh : Same H H'
  fh : Same F' H'
  nw : ∀ b o, H b = some o → F b = none → F' b = none
theorem Ext.refl {F H : Hp} (e : Same F H) : Ext F H F H := ⟨Same.refl _, Same.refl _, e, fun _ _ _ z => z⟩
theorem Ext.trans {F H F1 H1 F2 H2 : Hp} (a : Ext F H F1 H1) (b : Ext F1 H1 F2 H2) : Ext F H F2 H2 :=
  ⟨a.ff.trans b.ff, a.hh.trans b.hh, b.fh, fun c o h z => b.nw c o (a.hh c o h) (a.nw c o h z)⟩
theorem Stt.ext {G : Gx} {F H F' H' : Hp} {ρ : Env} {σ : St} (h : Stt G F ρ σ H) (e : Ext F H F' H') : Stt G F' ρ σ H' where
  sub := e.fh
  len := h.len
  sh := fun i d q => let ⟨v, h1, h2⟩ := h.sh i d q; ⟨v, h1, h2.mono e.ff⟩
  ow := fun i s q o => by
    obtain ⟨p, h1, h2, h3⟩ := h.ow i s q o
    obtain ⟨ob, hb⟩ := h3.some
    exact ⟨p, h1, e.nw p ob hb h2, h3.mono e.ff fun o z => e.hh _ _ z⟩
  inj := h.inj
/-- a new object laid: not frozen -/
theorem Ext.new {F H : Hp} {p : Addr} {o : HO} (e : Same F H) (n : H p = none) : Ext F H F (upd H p o) :=
  ⟨Same.refl _, fun b u q => by rw [upd_ne (ne_of_none q n)]; exact q, fun b u q => by rw [upd_ne (ne_of_none (e _ _ q) n)]; exact e _ _ q, fun _ _ _ z => z⟩
/-- .. and frozen at once -/
theorem Ext.newF {F H : Hp} {p : Addr} {o : HO} (e : Same F H) (n : H p = none) : Ext F H (upd F p o) (upd H p o) where
  ff := fun b u q => by rw [upd_ne (ne_of_none (e _ _ q) n)]; exact q
  hh := fun b u q => by rw [upd_ne (ne_of_none q n)]; exact q
  fh := fun b u q => by
    by_cases hb : b = p
    · subst hb; rw [upd_same] at q ⊢; exact q
    · rw [upd_ne hb] at q ⊢; exact e _ _ q
  nw := fun b u q z => by rw [upd_ne (ne_of_none q n)]; exact z
/-- a tracked object, not frozen as yet, is frozen -/
theorem Ext.frz {F H F' H' : Hp} {p : Addr} {o : HO} (sub : Same F H) (e : Ext F H F' H') (n : H p = none) (h : H' p = some o) : Ext F H (upd F' p o) H' where
  ff := fun b u q => by rw [upd_ne (ne_of_none (sub _ _ q) n)]; exact e.ff _ _ q
  hh := e.hh
  fh := fun b u q => by
    by_cases hb : b = p
    · subst hb; rw [upd_same] at q; rw [h]; exact q
    · rw [upd_ne hb] at q; exact e.fh _ _ q
  nw := fun b u q z => by rw [upd_ne (ne_of_none q n)]; exact e.nw b u q z
end Z
/-! The small language and its evaluator. -/
namespace Z
open PySem PySem.Spec L2

inductive R (α : Type) where
  | ok (a : α) | exc (c : Nat) (d : D) | bad
def R.bind {α β : Type} (x : R α) (f : α → R β) : R β := match x with
  | .ok a => f a
  | .exc c d => .exc c d
  | .bad => .bad
@[simp] theorem R.bind_ok {α β : Type} (a : α) (f : α → R β) : (R.ok a).bind f = f a := id rfl
@[simp] theorem R.bind_exc {α β : Type} (c : Nat) (d : D) (f : α → R β) : (R.exc c d : R α).bind f = .exc c d := id rfl
theorem R.bind_eq {α β : Type} {x : R α} {f : α → R β} {b : β} (h : x.bind f = .ok b) : ∃ a, x = .ok a ∧ f a = .ok b := by
  cases x with
  | ok a => exact ⟨a, rfl, h⟩
  | exc c d => cases h
  | bad => cases h
@[simp] theorem R.bind_bad {α β : Type} (f : α → R β) : (R.bad : R α).bind f = .bad := id rfl
/-- an expression's end: data; a new list or dict that nobody else has; what the i-th slot owns -/
inductive A where
  | sh (d : D) | ow (s : S) | bo (i : Nat)

inductive Bop where
  | add | sub | mul | fdiv | mod | pow | shl | shr | band
inductive Cop where
  | eq | ne | lt | le | gt | ge | is | isn | inn | nin
inductive Ty where
  | bool | int | str | tuple | list | dict | cls (c : Nat)
inductive Bf where
  | len | list | tuple | sorted | all | any | set | max | min | sum | str | int | dict | bool
inductive Mn where
  | get | items | values | join | split | isalpha | startswith | partition | count
mutual
inductive E where
  | cst (d : D) | var (i : Nat) | glb (g : Nat)
  | bin (o : Bop) (a b : E) | neg (a : E) | not (a : E) | and (a b : E) | or (a b : E)
  | cmp (o : Cop) (a b : E) | chn (o p : Cop) (a b c : E)
  | call (f : Nat) (as : Es) | bif (f : Bf) (as : Es) | isi (a : E) (t : Ty) | omt (m : Nat) (o : E) (as : Es)
  | ix (a b : E) | sl (a : E) (lo hi : Eo)
  | att (a : E) (n : Nat)
  | tup (as : Es) | lis (as : Es)
  | ife (c a b : E)
inductive Es where
  | nil | cons (e : E) (r : Es)
inductive Eo where
  | no | so (e : E)
end

/-! ### data -/
mutual
def D.plain : D → Bool
  | .non => true
  | .bl _ => true
  | .int _ => true
  | .str _ => true
  | .tup l => plains l
  | .lst l => plains l
  | _ => false
def plains : List D → Bool
  | [] => true
  | d :: l => d.plain && plains l
end
mutual
def D.dep : D → Nat
  | .tup l => deps l + 1
  | .lst l => deps l + 1
  | _ => 0
def deps : List D → Nat
  | [] => 0
  | d :: l => max d.dep (deps l)
end
mutual
def eqD : D → D → Bool
  | .non, .non => true
  | .bl a, .bl b => a == b
  | .bl a, .int j => (if a then 1 else 0) == j
  | .int i, .bl b => i == (if b then 1 else 0)
  | .int i, .int j => i == j
  | .str x, .str y => x == y
  | .lst xs, .lst ys => eqDs xs ys
  | .tup xs, .tup ys => eqDs xs ys
  | _, _ => false
def eqDs : List D → List D → Bool
  | [], [] => true
  | x :: xs, y :: ys => eqD x y && eqDs xs ys
  | _, _ => false
end
/-! no list, dict or object within -/
mutual
def D.flat : D → Bool
  | .non => true
  | .bl _ => true
  | .int _ => true
  | .str _ => true
  | .tup l => flats l
  | _ => false
def flats : List D → Bool
  | [] => true
  | d :: l => d.flat && flats l
end
def D.ok (d : D) : Bool := d.plain && decide (d.dep ≤ 64)
/-- truth -/
def tru : D → R Bool
  | .non => .ok false
  | .bl b => .ok b
  | .int i => .ok (i != 0)
  | .str s => if s.length ≤ 16777216 then .ok !s.isEmpty else .bad
  | .lst l => .ok !l.isEmpty
  | .tup l => .ok !l.isEmpty
  | _ => .bad

def binD : Bop → D → D → R A
  | .add, .int i, .int j => .ok (.sh (.int (i + j)))
  | .add, .str s, .str t => if s.length + t.length ≤ 16777216 then .ok (.sh (.str (s ++ t))) else .bad
  | .add, .lst s, .lst t => if s.length + t.length ≤ 16777216 then .ok (.ow (.li (s ++ t))) else .bad
  | .add, .tup s, .tup t => if s.length + t.length ≤ 16777216 ∧ s ≠ [] then .ok (.sh (.tup (s ++ t))) else .bad
  | .sub, .int i, .int j => .ok (.sh (.int (i - j)))
  | .mul, .int i, .int j => if (-18446744073709551616 < i ∧ i < 18446744073709551616) ∨ (-18446744073709551616 < j ∧ j < 18446744073709551616) ∨ i.natAbs.log2 + j.natAbs.log2 < 1000000 then .ok (.sh (.int (i * j))) else .bad
  | .fdiv, .int i, .int j => if 0 < j ∧ (j < 18446744073709551616 ∨ j.natAbs.log2 < 9000) then .ok (.sh (.int (i / j))) else .bad
  | .mod, .int i, .int j => if 0 < j then .ok (.sh (.int (i % j))) else .bad
  | .pow, .int i, .int j => if 0 ≤ j ∧ j ≤ 1000000 ∧ i.natAbs < 18446744073709551616 then .ok (.sh (.int (i ^ j.toNat))) else .bad
  | .shl, .int i, .int j => if 0 ≤ j ∧ j ≤ 1000000 ∧ i.natAbs < 18446744073709551616 then .ok (.sh (.int (i * 2 ^ j.toNat))) else .bad
  | .shr, .int i, .int j => if 0 ≤ j then .ok (.sh (.int (i / 2 ^ j.toNat))) else .bad
  | .band, .int i, .int j => .ok (.sh (.int (Builtin.bitAnd i j)))
  | _, _, _ => .bad
def eqR (a b : D) : R Bool := match a, b with
  | .int i, .int j => .ok (decide (i = j))
  | .str i, .str j => .ok (decide (i = j))
  | .bl i, .bl j => .ok (decide (i = j))
  | .non, .non => .ok true
  | a, b => if (a.ok && b.ok) = true then .ok (eqD a b) else .bad
def D.scal : D → Bool
  | .non => true
  | .bl _ => true
  | .int _ => true
  | .str _ => true
  | _ => false
def inR (a b : D) : R Bool := match b with
  | .str s => (match a with
    | .str [c] => .ok (decide (c ∈ s))
    | _ => .bad)
  | .lst l => if (a.ok && (D.lst l).ok) = true then .ok (l.any fun z => eqD z a) else .bad
  | .tup l => if (a.scal && l.all D.scal) = true then .ok (l.any fun z => eqD z a) else .bad
  | _ => .bad
def D.isNon : D → Bool
  | .non => true
  | _ => false
def isR (a b : D) : R Bool := match b with
  | .non => .ok a.isNon
  | .bl b => (match a with
    | .bl a => .ok (decide (a = b))
    | _ => .bad)
  | _ => .bad
def cmpD : Cop → D → D → R Bool
  | .eq, a, b => eqR a b
  | .ne, a, b => (eqR a b).bind fun k => .ok !k
  | .lt, .int i, .int j => .ok (decide (i < j))
  | .le, .int i, .int j => .ok (decide (i ≤ j))
  | .gt, .int i, .int j => .ok (decide (j < i))
  | .ge, .int i, .int j => .ok (decide (j ≤ i))
  | .is, a, b => isR a b
  | .isn, a, b => (isR a b).bind fun k => .ok !k
  | .inn, a, b => inR a b
  | .nin, a, b => (inR a b).bind fun k => .ok !k
  | _, _, _ => .bad
/-- a place by an index of any sign -/
def atD (l : List D) (i : Int) : Option D := atI l i
def ixD : D → D → R D
  | .lst l, .int i => (match atI l i with
    | some d => .ok d
    | none => .bad)
  | .tup l, .int i => (match atI l i with
    | some d => .ok d
    | none => .bad)
  | .lfz l, .int i => (match atI l i with
    | some d => .ok d
    | none => .bad)
  | .str s, .int i => if s.length ≤ 16777216 then (match atI s i with
    | some c => .ok (.str [c])
    | none => .bad) else .bad
  | _, _ => .bad
def cutL {α : Type} (l : List α) (lo hi : Option Int) : List α := (l.drop (HT.sIx l.length 0 lo)).take (HT.sIx l.length l.length hi - HT.sIx l.length 0 lo)
def slD (d : D) (lo hi : Option Int) : R A := match d with
  | .lst l => .ok (.ow (.li (cutL l lo hi)))
  | .lfz l => .ok (.ow (.li (cutL l lo hi)))
  | .tup l => .ok (.sh (.tup (cutL l lo hi)))
  | .str l => if l.length ≤ 16777216 then .ok (.sh (.str (cutL l lo hi))) else .bad
  | _ => .bad
def lenD : D → R D
  | .str s => if s.length ≤ 16777216 then .ok (.int s.length) else .bad
  | .lst l => .ok (.int l.length)
  | .tup l => .ok (.int l.length)
  | .lfz l => .ok (.int l.length)
  | _ => .bad
def tyD : D → Option String
  | .non => some "NoneType" | .bl _ => some "bool" | .int _ => some "int" | .str _ => some "str" | .tup _ => some "tuple" | .lst _ => some "list" | _ => none
def isiD (d : D) : Ty → R Bool
  | .bool => (match d with
    | .bl _ => .ok true
    | .non => .ok false | .int _ => .ok false | .str _ => .ok false | .tup _ => .ok false | .lst _ => .ok false
    | _ => .bad)
  | .int => (match d with
    | .bl _ => .ok true | .int _ => .ok true
    | .non => .ok false | .str _ => .ok false | .tup _ => .ok false | .lst _ => .ok false
    | _ => .bad)
  | .str => (match d with
    | .str _ => .ok true
    | .non => .ok false | .int _ => .ok false | .bl _ => .ok false | .tup _ => .ok false | .lst _ => .ok false
    | _ => .bad)
  | .tuple => (match d with
    | .tup _ => .ok true
    | .non => .ok false | .int _ => .ok false | .str _ => .ok false | .bl _ => .ok false | .lst _ => .ok false
    | _ => .bad)
  | .list => (match d with
    | .lst _ => .ok true
    | .non => .ok false | .int _ => .ok false | .str _ => .ok false | .tup _ => .ok false | .bl _ => .ok false
    | _ => .bad)
  | _ => .bad
def strInt (i : Int) : List Nat := (toString i).toList.map Char.toNat
def bif1 : Bf → D → R A
  | .len, d => (lenD d).bind fun x => .ok (.sh x)
  | .str, .int i => if i.natAbs.log2 < 1920 then .ok (.sh (.str (strInt i))) else .bad
  | .list, .lst l => .ok (.ow (.li l))
  | .list, .lfz l => .ok (.ow (.li l))
  | .list, .tup l => .ok (.ow (.li l))
  | .tuple, .lst l => .ok (.sh (.tup l))
  | .tuple, .lfz l => .ok (.sh (.tup l))
  | .tuple, .tup l => .ok (.sh (.tup l))
  | _, _ => .bad
def bif2 : Bf → D → D → R A
  | .max, .int i, .int j => .ok (.sh (.int (if j > i then j else i)))
  | .min, .int i, .int j => .ok (.sh (.int (if j < i then j else i)))
  | _, _, _ => .bad
def bifD (f : Bf) : List D → R A
  | [d] => bif1 f d
  | [d, e] => bif2 f d e
  | _ => .bad

/-! ### expressions -/
/-- what a value reads as -/
def rdA (ρ : Env) : A → R D
  | .sh d => .ok d
  | .ow s => .ok s.d
  | .bo i => match ρ[i]? with
    | some (some s) => .ok s.d
    | _ => .bad
/-- what may be kept: data, or what is new and nobody's -/
def kpA : A → R D
  | .sh d => .ok d
  | .ow s => .ok s.d
  | .bo _ => .bad
structure Fn where
  call : Nat → List D → R A
  meth : Nat → Nat → List D → R A
  glob : Nat → D
def A.isBo : A → Bool
  | .bo _ => true
  | _ => false
/-- a call's end: where an own thing of the caller's was lent, nothing that may hold it comes back -/
def lent (as : List A) (r : R A) : R A := match r with
  | .ok (.sh d) => if as.any A.isBo && !d.flat then .bad else .ok (.sh d)
  | .ok (.ow (.li l)) => if as.any A.isBo && !flats l then .bad else .ok (.ow (.li l))
  | .ok (.ow (.di l)) => if as.any A.isBo then .bad else .ok (.ow (.di l))
  | .exc c d => if as.any A.isBo && !d.flat then .bad else .exc c d
  | r => r
def negD : D → R A
  | .int i => .ok (.sh (.int (-i)))
  | _ => .bad
def intO : D → R Int
  | .int i => .ok i
  | _ => .bad
mutual
def ev (Γ : Fn) : E → Env → R A
  | .cst d, _ => .ok (.sh d)
  | .var i, ρ => match ρ[i]? with
    | some (some (.sh d)) => .ok (.sh d)
    | some (some _) => .ok (.bo i)
    | _ => .bad
  | .glb g, _ => .ok (.sh (Γ.glob g))
  | .bin o a b, ρ => (ev Γ a ρ).bind fun x => (ev Γ b ρ).bind fun y => (rdA ρ x).bind fun x => (rdA ρ y).bind fun y => binD o x y
  | .neg a, ρ => (ev Γ a ρ).bind fun x => (rdA ρ x).bind negD
  | .not a, ρ => (ev Γ a ρ).bind fun x => (rdA ρ x).bind fun x => (tru x).bind fun k => .ok (.sh (.bl !k))
  | .and a b, ρ => (ev Γ a ρ).bind fun x => (rdA ρ x).bind fun d => (tru d).bind fun k => if k then ev Γ b ρ else .ok x
  | .or a b, ρ => (ev Γ a ρ).bind fun x => (rdA ρ x).bind fun d => (tru d).bind fun k => if k then .ok x else ev Γ b ρ
  | .cmp o a b, ρ => (ev Γ a ρ).bind fun x => (ev Γ b ρ).bind fun y => (rdA ρ x).bind fun x => (rdA ρ y).bind fun y => (cmpD o x y).bind fun k => .ok (.sh (.bl k))
  | .chn o p a b c, ρ => (ev Γ a ρ).bind fun x => (ev Γ b ρ).bind fun y => (rdA ρ x).bind fun x => (rdA ρ y).bind fun yd => (cmpD o x yd).bind fun k =>
      if k then (ev Γ c ρ).bind fun z => (rdA ρ z).bind fun z => (cmpD p yd z).bind fun k => .ok (.sh (.bl k)) else .ok (.sh (.bl false))
  | .call f as, ρ => (evs Γ as ρ).bind fun xs => (rds ρ xs).bind fun ds => lent xs (Γ.call f ds)
  | .bif f as, ρ => (evs Γ as ρ).bind fun xs => (rds ρ xs).bind fun ds => bifD f ds
  | .isi a t, ρ => (ev Γ a ρ).bind fun x => (rdA ρ x).bind fun x => (isiD x t).bind fun k => .ok (.sh (.bl k))
  | .omt m o as, ρ => .bad
  | .ix a b, ρ => (ev Γ a ρ).bind fun x => (ev Γ b ρ).bind fun y => (rdA ρ x).bind fun x => (rdA ρ y).bind fun y => (ixD x y).bind fun d => .ok (.sh d)
  | .sl a lo hi, ρ => (ev Γ a ρ).bind fun x => (evo Γ lo ρ).bind fun i => (evo Γ hi ρ).bind fun j => (rdA ρ x).bind fun x => slD x i j
  | .att a n, ρ => .bad
  | .tup as, ρ => (evs Γ as ρ).bind fun xs => (kps xs).bind fun ds => if ds.length ≤ 16777216 then .ok (.sh (.tup ds)) else .bad
  | .lis as, ρ => (evs Γ as ρ).bind fun xs => (kps xs).bind fun ds => if ds.length ≤ 16777216 then .ok (.ow (.li ds)) else .bad
  | .ife c a b, ρ => (ev Γ c ρ).bind fun x => (rdA ρ x).bind fun d => (tru d).bind fun k => if k then ev Γ a ρ else ev Γ b ρ
def evs (Γ : Fn) : Es → Env → R (List A)
  | .nil, _ => .ok []
  | .cons e r, ρ => (ev Γ e ρ).bind fun x => (evs Γ r ρ).bind fun xs => .ok (x :: xs)
def evo (Γ : Fn) : Eo → Env → R (Option Int)
  | .no, _ => .ok none
  | .so e, ρ => (ev Γ e ρ).bind fun x => (rdA ρ x).bind fun d => (intO d).bind fun i => .ok (some i)
def rds (ρ : Env) : List A → R (List D)
  | [] => .ok []
  | a :: r => (rdA ρ a).bind fun d => (rds ρ r).bind fun ds => .ok (d :: ds)
def kps : List A → R (List D)
  | [] => .ok []
  | a :: r => (kpA a).bind fun d => (kps r).bind fun ds => .ok (d :: ds)
end
end Z
/-! Values read as data; operations by values. -/
namespace Z
open PySem PySem.Spec L2

/-- v reads as d (a list or dict that is still owned too) -/
inductive Vw (G : Gx) (F H : Hp) : V → D → Prop where
  | rp {v : V} {d : D} : Rp G F v d → Vw G F H v d
  | li {p : Addr} {vs : List V} {l : List D} : H p = some (.lst vs) → Rps G F vs l → Vw G F H (.ref p) (.lst l)
  | dk {p : Addr} {kvs : List (Key × V)} {l : List (D × D)} : H p = some (.dK kvs) → RpK G F kvs l → Vw G F H (.ref p) (.dic l)
  | dt {p : Addr} {kvs : List (List Key × V)} {l : List (D × D)} : H p = some (.dT kvs) → RpT G F kvs l → Vw G F H (.ref p) (.dic l)
section
variable {G : Gx} {F H F' H' : Hp} {v : V} {d : D}
theorem Vw.ext (e : Ext F H F' H') (h : Vw G F H v d) : Vw G F' H' v d := by
  cases h with
  | rp h => exact .rp (h.mono e.ff)
  | li h r => exact .li (e.hh _ _ h) (r.mono e.ff)
  | dk h r => exact .dk (e.hh _ _ h) (r.mono e.ff)
  | dt h r => exact .dt (e.hh _ _ h) (r.mono e.ff)
theorem Vw.non (h : Vw G F H v .non) : v = .non := by
  cases h with
  | rp h => cases h; rfl
theorem Vw.bl {b : Bool} (h : Vw G F H v (.bl b)) : v = .bl b := by
  cases h with
  | rp h => cases h; rfl
theorem Vw.int {i : Int} (h : Vw G F H v (.int i)) : v = .int i := by
  cases h with
  | rp h => cases h; rfl
theorem Vw.str {l : List Nat} (h : Vw G F H v (.str l)) : ∃ x : Str, v = .str x ∧ x.cps.toList = l ∧ PyData.strOk x = true := by
  cases h with
  | rp h => cases h with
    | str x hx => exact ⟨x, rfl, rfl, hx⟩
theorem Vw.lst {l : List D} (e : Same F H) (h : Vw G F H v (.lst l)) : ∃ p vs, v = .ref p ∧ H p = some (.lst vs) ∧ Rps G F vs l := by
  cases h with
  | rp h => cases h with
    | lst h r => exact ⟨_, _, rfl, e _ _ h, r⟩
  | li h r => exact ⟨_, _, rfl, h, r⟩
theorem Vw.tup {l : List D} (h : Vw G F H v (.tup l)) : ∃ p vs, v = .ref p ∧ F p = some (.tup vs) ∧ Rps G F vs l := by
  cases h with
  | rp h => cases h with
    | tup h r => exact ⟨_, _, rfl, h, r⟩
theorem Vw.lfz {l : List D} (h : Vw G F H v (.lfz l)) : ∃ p vs, v = .ref p ∧ SqL G.K F p vs ∧ Rps G F vs l := by
  cases h with
  | rp h => cases h with
    | lfz h r => exact ⟨_, _, rfl, h, r⟩
theorem Vw.tuk {l : List D} (h : Vw G F H v (.tuk l)) : ∃ p vs, v = .ref p ∧ SqT G.K F p vs ∧ Rps G F vs l := by
  cases h with
  | rp h => cases h with
    | tuk h r => exact ⟨_, _, rfl, h, r⟩
theorem Vw.dic {l : List (D × D)} (e : Same F H) (h : Vw G F H v (.dic l)) : ∃ p, v = .ref p ∧ ((∃ kvs, Rd H p (.dK kvs) ∧ RpK G F kvs l) ∨ ∃ kvs, Rd H p (.dT kvs) ∧ RpT G F kvs l) := by
  cases h with
  | rp h => cases h with
    | dic h r => exact ⟨_, rfl, .inl ⟨_, Same.rd e h, r⟩⟩
    | dit h r => exact ⟨_, rfl, .inr ⟨_, Same.rd e h, r⟩⟩
  | dk h r => exact ⟨_, rfl, .inl ⟨_, .of h, r⟩⟩
  | dt h r => exact ⟨_, rfl, .inr ⟨_, .of h, r⟩⟩
end

/-- what comes of an operation at the heap H₀ -/
def RV (G : Gx) (H₀ F H : Hp) (v : V) : A → Prop
  | .sh d => Rp G F v d
  | .ow s => ∃ p, v = .ref p ∧ H₀ p = none ∧ F p = none ∧ OwnsAt G F H p s
  | .bo _ => False
/-- the wish behind an operation's value -/
def PV (G : Gx) (F H : Hp) (Q : VK) : R A → Prop
  | .ok a => ∀ v F' H', Ext F H F' H' → RV G H F' H' v a → Q v H'
  | _ => False
section
variable {G : Gx} {F H : Hp} {Q : VK}
theorem PV.here {d : D} {v : V} (e : Same F H) (h : PV G F H Q (.ok (.sh d))) (r : Rp G F v d) : Q v H := h v F H (Ext.refl e) r
theorem PV.tupN {d : List D} {vs : List V} (e : Same F H) (h : PV G F H Q (.ok (.sh (.tup d)))) (r : Rps G F vs d) {p : Addr} (n : H p = none) : Q (.ref p) (upd H p (.tup vs)) :=
  h _ _ _ (Ext.newF e n) (.tup upd_same (r.mono (Ext.newF (o := .tup vs) e n).ff))
theorem PV.lstN {d : List D} {vs : List V} (e : Same F H) (h : PV G F H Q (.ok (.ow (.li d)))) (r : Rps G F vs d) {p : Addr} (n : H p = none) : Q (.ref p) (upd H p (.lst vs)) :=
  h _ _ _ (Ext.new e n) ⟨p, rfl, n, e.free n, vs, upd_same, r⟩
end
theorem strOk_append {x y : Str} (hx : PyData.strOk x = true) (hy : PyData.strOk y = true) : PyData.strOk (x ++ y) = true := by
  unfold PyData.strOk at *
  have e : (x ++ y).cps = x.cps ++ y.cps := rfl
  rw [e, Array.all_append, hx, hy]; rfl
theorem cps_append (x y : Str) : (x ++ y).cps.toList = x.cps.toList ++ y.cps.toList := by
  have e : (x ++ y).cps = x.cps ++ y.cps := rfl
  rw [e, Array.toList_append]
theorem len_cps (x : Str) : x.length = x.cps.toList.length := by simp [Str.length]
theorem rp_str {G : Gx} {F : Hp} {x : Str} {l : List Nat} (h : x.cps.toList = l) (ok : PyData.strOk x = true) : Rp G F (.str x) (.str l) := by
  subst h; exact .str x ok
theorem strOk_mem {x : Str} : PyData.strOk x = true ↔ ∀ c ∈ x.cps.toList, c < 0x110000 := by
  unfold PyData.strOk
  rw [Array.all_eq_true]
  constructor
  · intro h c hc
    obtain ⟨i, hi, e⟩ := List.mem_iff_getElem.mp hc
    have := h i (by simpa using hi)
    simp only [Array.getElem_toList] at e
    simpa [e] using this
  · intro h i hi
    simpa using h _ (by simp)

/-- an operation of two values, by data -/
def r2D (G : Gx) (op : D → D → R A) : R2 := fun x y H Q => ∃ F dx dy, Same F H ∧ Vw G F H x dx ∧ Vw G F H y dy ∧ PV G F H Q (op dx dy)
/-- .. that tells a truth -/
def r2B (G : Gx) (op : D → D → R Bool) : R2 := fun x y H Q => ∃ F dx dy k, Same F H ∧ Vw G F H x dx ∧ Vw G F H y dy ∧ op dx dy = .ok k ∧ Q (.bl k) H
section
variable {X : Cx} {G : Gx}
theorem op_add_D (hK : X.K = G.K) : OpR X (binaryOp .Add) (r2D G (binD .add)) := by
  intro pins s σ H x y v u Q I rx ry h
  obtain ⟨F, dx, dy, e, vx, vy, h⟩ := h
  cases dx <;> cases dy <;> try exact h.elim
  · obtain rfl := vx.int; obtain rfl := vy.int
    exact op_add pins s σ H _ _ v u Q I rx ry ⟨_, _, rfl, rfl, h.here e (.int _)⟩
  · obtain ⟨x, rfl, rfl, hx⟩ := vx.str; obtain ⟨y, rfl, rfl, hy⟩ := vy.str
    simp only [binD] at h
    split at h
    · rename_i hl
      refine op_add_str pins s σ H _ _ v u Q I rx ry ⟨_, _, rfl, rfl, ?_, h.here e (rp_str (cps_append x y) (strOk_append hx hy))⟩
      rw [len_cps, len_cps, sizeLine_eq]; exact hl
    · exact h.elim
  · obtain ⟨a, xs, rfl, ha, ra⟩ := vx.tup; obtain ⟨b, ys, rfl, hb, rb⟩ := vy.tup
    simp only [binD] at h
    split at h
    · rename_i hl
      have l1 := ra.length; have l2 := rb.length
      refine op_catA pins s σ H _ _ v u Q I rx ry ⟨a, b, xs, ys, rfl, rfl, hK ▸ SqT.of (e _ _ ha), hK ▸ SqT.of (e _ _ hb), by rw [l1, l2, sizeLine_eq]; exact hl.1, fun z => ?_, fun _ z => ?_, fun _ _ p n => h.tupN e (ra.append rb) n⟩
      · subst z; cases ra; exact absurd rfl hl.2
      · subst z; cases rb
        exact h.here e (by simpa using Rp.tup ha ra)
    · exact h.elim
  · obtain ⟨a, xs, rfl, ha, ra⟩ := vx.lst e; obtain ⟨b, ys, rfl, hb, rb⟩ := vy.lst e
    simp only [binD] at h
    split at h
    · rename_i hl
      have l1 := ra.length; have l2 := rb.length
      exact op_cat pins s σ H _ _ v u Q I rx ry ⟨a, b, xs, ys, rfl, rfl, ha, hb, by rw [l1, l2, sizeLine_eq]; exact hl, fun p n => h.lstN e (ra.append rb) n⟩
    · exact h.elim
/-- an operation of ints alone -/
theorem opI_D {f : Value → Value → Sem Value} {C : Int → Int → Prop} {g : Int → Int → Int} {op : D → D → R A} (ho : OpR X f (rI C fun i j => .int (g i j)))
    (hi : ∀ i j a, op (.int i) (.int j) = .ok a → C i j ∧ a = .sh (.int (g i j))) (hn : ∀ a b x, op a b = .ok x → ∃ i j, a = .int i ∧ b = .int j) : OpR X f (r2D G op) := by
  intro pins s σ H x y v u Q I rx ry h
  obtain ⟨F, dx, dy, e, vx, vy, h⟩ := h
  cases q : op dx dy with
  | ok a =>
    obtain ⟨i, j, rfl, rfl⟩ := hn _ _ _ q
    obtain ⟨hc, rfl⟩ := hi _ _ _ q
    obtain rfl := vx.int; obtain rfl := vy.int
    rw [q] at h
    exact ho pins s σ H _ _ v u Q I rx ry ⟨_, _, rfl, rfl, hc, h.here e (.int _)⟩
  | exc c d => rw [q] at h; exact h.elim
  | bad => rw [q] at h; exact h.elim
theorem ints_of {op : D → D → R A} (h : ∀ a b, (∀ i j, ¬ (a = .int i ∧ b = .int j)) → op a b = .bad) : ∀ a b x, op a b = .ok x → ∃ i j, a = .int i ∧ b = .int j := fun a b x e => by
  by_cases q : ∃ i j, a = .int i ∧ b = .int j
  · exact q
  · rw [h a b fun i j z => q ⟨i, j, z⟩] at e; cases e
theorem op_sub_D : OpR X (binaryOp .Sub) (r2D G (binD .sub)) := by
  refine opI_D (C := fun _ _ => True) (g := fun i j => i - j) (fun pins s σ H x y v u Q I rx ry ⟨i, j, e1, e2, _, q⟩ => op_sub pins s σ H x y v u Q I rx ry ⟨i, j, e1, e2, q⟩) (fun i j a h => ?_) (ints_of fun a b h => ?_)
  · simp only [binD, R.ok.injEq] at h; exact ⟨trivial, h.symm⟩
  · cases a <;> cases b <;> first | rfl | exact absurd ⟨rfl, rfl⟩ (h _ _)
theorem op_mul_D : OpR X (binaryOp .Mult) (r2D G (binD .mul)) := by
  refine opI_D (C := fun i j => CMul i j ∨ CMulW i j) (g := fun i j => i * j) (fun pins s σ H x y v u Q I rx ry ⟨i, j, e1, e2, c, q⟩ => ?_) (fun i j a h => ?_) (ints_of fun a b h => ?_)
  · rcases c with c | c
    · exact op_mul pins s σ H x y v u Q I rx ry ⟨i, j, e1, e2, c, q⟩
    · exact op_mulW pins s σ H x y v u Q I rx ry ⟨i, j, e1, e2, c, q⟩
  · simp only [binD] at h
    split at h
    · rename_i c
      refine ⟨?_, by simpa using h.symm⟩
      rcases c with c | c | c
      · exact .inl (.inl c)
      · exact .inl (.inr c)
      · exact .inr c
    · cases h
  · cases a <;> cases b <;> first | rfl | exact absurd ⟨rfl, rfl⟩ (h _ _)
theorem op_fdiv_D : OpR X (binaryOp .FloorDiv) (r2D G (binD .fdiv)) := by
  refine opI_D (C := CDivW) (g := fun i j => i / j) op_fdivW (fun i j a h => ?_) (ints_of fun a b h => ?_)
  · simp only [binD] at h
    split at h
    · rename_i c
      refine ⟨⟨c.1, ?_⟩, by simpa using h.symm⟩
      rcases c.2 with z | z
      · have h1 : j.natAbs < 2 ^ 64 := by omega
        have h2 : j.natAbs ≠ 0 := by omega
        have := (Nat.log2_lt h2).mpr h1
        omega
      · exact z
    · cases h
  · cases a <;> cases b <;> first | rfl | exact absurd ⟨rfl, rfl⟩ (h _ _)
theorem op_mod_D : OpR X (binaryOp .Mod) (r2D G (binD .mod)) := by
  refine opI_D (C := fun _ j => 0 < j) (g := fun i j => i % j) op_mod (fun i j a h => ?_) (ints_of fun a b h => ?_)
  · simp only [binD] at h
    split at h
    · rename_i c; exact ⟨c, by simpa using h.symm⟩
    · cases h
  · cases a <;> cases b <;> first | rfl | exact absurd ⟨rfl, rfl⟩ (h _ _)
theorem op_pow_D : OpR X (binaryOp .Pow) (r2D G (binD .pow)) := by
  refine opI_D (C := CPow) (g := fun i j => i ^ j.toNat) op_pow (fun i j a h => ?_) (ints_of fun a b h => ?_)
  · simp only [binD] at h
    split at h
    · rename_i c; exact ⟨⟨c.1, c.2.1, c.2.2⟩, by simpa using h.symm⟩
    · cases h
  · cases a <;> cases b <;> first | rfl | exact absurd ⟨rfl, rfl⟩ (h _ _)
theorem op_shl_D : OpR X (binaryOp .LShift) (r2D G (binD .shl)) := by
  refine opI_D (C := CPow) (g := fun i j => i * 2 ^ j.toNat) op_shl (fun i j a h => ?_) (ints_of fun a b h => ?_)
  · simp only [binD] at h
    split at h
    · rename_i c; exact ⟨⟨c.1, c.2.1, c.2.2⟩, by simpa using h.symm⟩
    · cases h
  · cases a <;> cases b <;> first | rfl | exact absurd ⟨rfl, rfl⟩ (h _ _)
theorem op_shr_D : OpR X (binaryOp .RShift) (r2D G (binD .shr)) := by
  refine opI_D (C := fun _ j => 0 ≤ j) (g := fun i j => i / 2 ^ j.toNat) op_shr (fun i j a h => ?_) (ints_of fun a b h => ?_)
  · simp only [binD] at h
    split at h
    · rename_i c; exact ⟨c, by simpa using h.symm⟩
    · cases h
  · cases a <;> cases b <;> first | rfl | exact absurd ⟨rfl, rfl⟩ (h _ _)
theorem op_band_D : OpR X (binaryOp .BitAnd) (r2D G (binD .band)) := by
  refine opI_D (C := fun _ _ => True) (g := fun i j => Builtin.bitAnd i j) (fun pins s σ H x y v u Q I rx ry ⟨i, j, e1, e2, _, q⟩ => op_and pins s σ H x y v u Q I rx ry ⟨i, j, e1, e2, q⟩) (fun i j a h => ?_) (ints_of fun a b h => ?_)
  · simp only [binD, R.ok.injEq] at h; exact ⟨trivial, h.symm⟩
  · cases a <;> cases b <;> first | rfl | exact absurd ⟨rfl, rfl⟩ (h _ _)
def bopA : Bop → Operator
  | .add => .Add | .sub => .Sub | .mul => .Mult | .fdiv => .FloorDiv | .mod => .Mod | .pow => .Pow | .shl => .LShift | .shr => .RShift | .band => .BitAnd
theorem op_bin_D (hK : X.K = G.K) : ∀ o : Bop, OpR X (binaryOp (bopA o)) (r2D G (binD o))
  | .add => op_add_D hK
  | .sub => op_sub_D
  | .mul => op_mul_D
  | .fdiv => op_fdiv_D
  | .mod => op_mod_D
  | .pow => op_pow_D
  | .shl => op_shl_D
  | .shr => op_shr_D
  | .band => op_band_D
end
end Z
/-! Comparisons by data. -/
namespace Z
open PySem PySem.Spec L2
mutual
def D.py : D → PyData
  | .non => .none
  | .bl b => .bool b
  | .int i => .int i
  | .str l => .str ⟨l.toArray⟩
  | .tup l => .tuple (pys l)
  | .lst l => .list (pys l)
  | _ => .none
def pys : List D → List PyData
  | [] => []
  | d :: l => d.py :: pys l
end
theorem str_mk (x : Str) : (⟨x.cps.toList.toArray⟩ : Str) = x := by
  cases x; rfl
section
variable {G : Gx} {F H : Hp}
mutual
theorem Rp.dp (e : Same F H) : ∀ {v : V} {d : D}, Rp G F v d → d.plain = true → Dp G.K H v d.py
  | _, _, .non, _ => .non
  | _, _, .bl b, _ => .bl b
  | _, _, .int i, _ => .int i
  | _, _, .str x hx, _ => by
    show Dp G.K H (.str x) (.str ⟨x.cps.toList.toArray⟩)
    rw [str_mk]; exact .str x
  | _, _, .tup (ds := ds) h r, p => .tup (SqT.of (e _ _ h)) (Rps.dp e r (show plains ds = true from p))
  | _, _, .lst (ds := ds) h r, p => .lst (SqL.of (e _ _ h)) (Rps.dp e r (show plains ds = true from p))
  | _, _, .lfz h r, p => by cases p
  | _, _, .tuk h r, p => by cases p
  | _, _, .dic h r, p => by cases p
  | _, _, .dit h r, p => by cases p
  | _, _, .obj (c := c) h r, p => by cases p
theorem Rps.dp (e : Same F H) : ∀ {vs : List V} {ds : List D}, Rps G F vs ds → plains ds = true → DpAll G.K H vs (pys ds)
  | _, _, .nil, _ => .nil
  | _, _, .cons (d := d) (ds := ds) h r, p => by
    have p' : (d.plain && plains ds) = true := p
    rw [Bool.and_eq_true] at p'
    exact .cons (Rp.dp e h p'.1) (Rps.dp e r p'.2)
end
theorem Vw.dp (e : Same F H) {v : V} {d : D} (h : Vw G F H v d) (p : d.plain = true) : Dp G.K H v d.py := by
  cases h with
  | rp h => exact h.dp e p
  | li h r => exact .lst (SqL.of h) (r.dp e p)
  | dk h r => cases p
  | dt h r => cases p
mutual
theorem Rp.lay : ∀ {v : V} {d : D}, Rp G F v d → d.plain = true → d.py.canLay0 = true
  | _, _, .non, _ => rfl
  | _, _, .bl b, _ => rfl
  | _, _, .int i, _ => rfl
  | _, _, .str x hx, _ => by
    show PyData.strOk ⟨x.cps.toList.toArray⟩ = true
    rw [str_mk]; exact hx
  | _, _, .tup (ds := ds) h r, p => Rps.lay r (show plains ds = true from p)
  | _, _, .lst (ds := ds) h r, p => Rps.lay r (show plains ds = true from p)
  | _, _, .lfz h r, p => by cases p
  | _, _, .tuk h r, p => by cases p
  | _, _, .dic h r, p => by cases p
  | _, _, .dit h r, p => by cases p
  | _, _, .obj (c := c) h r, p => by cases p
theorem Rps.lay : ∀ {vs : List V} {ds : List D}, Rps G F vs ds → plains ds = true → PyData.canLayAll0 (pys ds) = true
  | _, _, .nil, _ => rfl
  | _, _, .cons (d := d) (ds := ds) h r, p => by
    have p' : (d.plain && plains ds) = true := p
    rw [Bool.and_eq_true] at p'
    show (d.py.canLay0 && PyData.canLayAll0 (pys ds)) = true
    rw [Rp.lay h p'.1, Rps.lay r p'.2]; rfl
end
theorem Vw.lay {v : V} {d : D} (h : Vw G F H v d) (p : d.plain = true) : d.py.canLay0 = true := by
  cases h with
  | rp h => exact h.lay p
  | li h r => exact r.lay p
  | dk h r => cases p
  | dt h r => cases p
end
mutual
theorem dep_py : ∀ d : D, d.py.depth = d.dep
  | .non => rfl
  | .bl _ => rfl
  | .int _ => rfl
  | .str _ => rfl
  | .tup l => by show PyData.depthAll (pys l) + 1 = deps l + 1; rw [deps_py l]
  | .lst l => by show PyData.depthAll (pys l) + 1 = deps l + 1; rw [deps_py l]
  | .dic _ => rfl
  | .obj _ _ => rfl
  | .lfz _ => rfl
  | .tuk _ => rfl
theorem deps_py : ∀ l : List D, PyData.depthAll (pys l) = deps l
  | [] => rfl
  | d :: l => by show max d.py.depth (PyData.depthAll (pys l)) = max d.dep (deps l); rw [dep_py d, deps_py l]
end
theorem str_beq (a b : List Nat) : ((⟨a.toArray⟩ : Str) == ⟨b.toArray⟩) = (a == b) := by
  by_cases h : a = b
  · subst h; simp
  · have h' : ¬ ((⟨a.toArray⟩ : Str) = ⟨b.toArray⟩) := fun z => h (by injection z with z; simpa using congrArg Array.toList z)
    rw [beq_eq_false_iff_ne.mpr h, beq_eq_false_iff_ne.mpr h']
mutual
theorem eqD_py : ∀ a b : D, a.plain = true → b.plain = true → eqD a b = PyData.eqv a.py b.py
  | .non, b, _, q => by cases b <;> first | rfl | cases q
  | .bl _, b, _, q => by cases b <;> first | rfl | cases q
  | .int _, b, _, q => by cases b <;> first | rfl | cases q
  | .str x, b, _, q => by
    cases b with
    | str y => exact (str_beq x y).symm
    | _ => first | rfl | cases q
  | .tup l, b, p, q => by
    cases b with
    | tup m => exact eqDs_py l m p q
    | _ => first | rfl | cases q
  | .lst l, b, p, q => by
    cases b with
    | lst m => exact eqDs_py l m p q
    | _ => first | rfl | cases q
  | .dic _, _, p, _ => by cases p
  | .obj _ _, _, p, _ => by cases p
  | .lfz _, _, p, _ => by cases p
  | .tuk _, _, p, _ => by cases p
theorem eqDs_py : ∀ a b : List D, plains a = true → plains b = true → eqDs a b = PyData.eqvAll (pys a) (pys b)
  | [], [], _, _ => rfl
  | [], _ :: _, _, _ => rfl
  | _ :: _, [], _, _ => rfl
  | d :: l, e :: m, p, q => by
    have p' : (d.plain && plains l) = true := p
    have q' : (e.plain && plains m) = true := q
    rw [Bool.and_eq_true] at p' q'
    show (eqD d e && eqDs l m) = (PyData.eqv d.py e.py && PyData.eqvAll (pys l) (pys m))
    rw [eqD_py d e p'.1 q'.1, eqDs_py l m p'.2 q'.2]
end
theorem any_py (x : D) (hx : x.plain = true) : ∀ l : List D, plains l = true → (l.any fun z => eqD z x) = (pys l).any fun z => PyData.eqv z x.py
  | [], _ => rfl
  | d :: l, p => by
    have p' : (d.plain && plains l) = true := p
    rw [Bool.and_eq_true] at p'
    show (eqD d x || l.any fun z => eqD z x) = (PyData.eqv d.py x.py || (pys l).any fun z => PyData.eqv z x.py)
    rw [eqD_py d x p'.1 hx, any_py x hx l p'.2]
section
variable {X : Cx} {G : Gx} {F H : Hp}
theorem shaped_of {v : V} {d : D} (h : Vw G F H v d) (p : d.ok = true) : SeqAt.shaped d.py = true ∧ d.plain = true := by
  unfold D.ok at p
  rw [Bool.and_eq_true] at p
  refine ⟨?_, p.1⟩
  unfold SeqAt.shaped
  rw [h.lay p.1, dep_py, p.2]; rfl
/-- eqR by cases -/
theorem eqR_cases {a b : D} {k : Bool} (h : eqR a b = .ok k) : (∃ i j, a = .int i ∧ b = .int j ∧ k = decide (i = j)) ∨ (∃ i j, a = .str i ∧ b = .str j ∧ k = decide (i = j)) ∨ (∃ i j, a = .bl i ∧ b = .bl j ∧ k = decide (i = j)) ∨
    (a = .non ∧ b = .non ∧ k = true) ∨ (a.ok = true ∧ b.ok = true ∧ k = eqD a b) := by
  have gen : ∀ {k : Bool}, (if (a.ok && b.ok) = true then R.ok (eqD a b) else .bad) = .ok k → a.ok = true ∧ b.ok = true ∧ k = eqD a b := fun {k} h => by
    split at h
    · rename_i c
      rw [Bool.and_eq_true] at c
      exact ⟨c.1, c.2, by simpa using h.symm⟩
    · cases h
  cases a <;> cases b <;> first
    | exact .inl ⟨_, _, rfl, rfl, by simpa [eqR] using h.symm⟩
    | exact .inr (.inl ⟨_, _, rfl, rfl, by simpa [eqR] using h.symm⟩)
    | exact .inr (.inr (.inl ⟨_, _, rfl, rfl, by simpa [eqR] using h.symm⟩))
    | exact .inr (.inr (.inr (.inl ⟨rfl, rfl, by simpa [eqR] using h.symm⟩)))
    | exact .inr (.inr (.inr (.inr (gen h))))
theorem dec_str' {x y : Str} : decide (x = y) = decide (x.cps.toList = y.cps.toList) := by
  by_cases h : x = y
  · subst h; simp
  · have h' : ¬ (x.cps.toList = y.cps.toList) := fun z => h (by rw [← str_mk x, ← str_mk y, z])
    rw [decide_eq_false h, decide_eq_false h']
theorem op_eq_D (hK : X.K = G.K) (hu : X.A.units + 65 < cLine) : OpR X (compareOp .Eq) (r2B G eqR) := by
  intro pins s σ H x y v u Q I rx ry h
  obtain ⟨F, dx, dy, k, e, vx, vy, q, h⟩ := h
  rcases eqR_cases q with ⟨i, j, rfl, rfl, rfl⟩ | ⟨i, j, rfl, rfl, rfl⟩ | ⟨i, j, rfl, rfl, rfl⟩ | ⟨rfl, rfl, rfl⟩ | ⟨ha, hb, rfl⟩
  · obtain rfl := vx.int; obtain rfl := vy.int
    refine op_eq pins s σ H _ _ v u Q I rx ry ⟨rfl, ?_⟩
    have z : decide (V.int i = V.int j) = decide (i = j) := by simp
    rw [z]; exact h
  · obtain ⟨x, rfl, rfl, hx⟩ := vx.str; obtain ⟨y, rfl, rfl, hy⟩ := vy.str
    refine op_eq pins s σ H _ _ v u Q I rx ry ⟨rfl, ?_⟩
    have z : decide (V.str x = V.str y) = decide (x.cps.toList = y.cps.toList) := by rw [← dec_str']; simp
    rw [z]; exact h
  · obtain rfl := vx.bl; obtain rfl := vy.bl
    refine op_eq pins s σ H _ _ v u Q I rx ry ⟨rfl, ?_⟩
    have z : decide (V.bl i = V.bl j) = decide (i = j) := by simp
    rw [z]; exact h
  · obtain rfl := vx.non; obtain rfl := vy.non
    exact op_eq pins s σ H _ _ v u Q I rx ry ⟨rfl, by simpa using h⟩
  · obtain ⟨s1, p1⟩ := shaped_of vx ha
    obtain ⟨s2, p2⟩ := shaped_of vy hb
    rw [eqD_py _ _ p1 p2] at h
    exact op_eqD (by omega) pins s σ H _ _ v u Q I rx ry ⟨_, _, hK ▸ vx.dp e p1, hK ▸ vy.dp e p2, s1, s2, h⟩
theorem op_ne_D (hK : X.K = G.K) (hu : X.A.units + 65 < cLine) : OpR X (compareOp .NotEq) (r2B G fun a b => (eqR a b).bind fun k => .ok !k) := by
  intro pins s σ H x y v u Q I rx ry h
  obtain ⟨F, dx, dy, k, e, vx, vy, q, h⟩ := h
  obtain ⟨k', q', q⟩ := R.bind_eq q
  obtain rfl : (!k') = k := by simpa using q
  rcases eqR_cases q' with ⟨i, j, rfl, rfl, rfl⟩ | ⟨i, j, rfl, rfl, rfl⟩ | ⟨i, j, rfl, rfl, rfl⟩ | ⟨rfl, rfl, rfl⟩ | ⟨ha, hb, rfl⟩
  · obtain rfl := vx.int; obtain rfl := vy.int
    refine op_ne pins s σ H _ _ v u Q I rx ry ⟨rfl, ?_⟩
    have z : decide (V.int i = V.int j) = decide (i = j) := by simp
    rw [z]; exact h
  · obtain ⟨x, rfl, rfl, hx⟩ := vx.str; obtain ⟨y, rfl, rfl, hy⟩ := vy.str
    refine op_ne pins s σ H _ _ v u Q I rx ry ⟨rfl, ?_⟩
    have z : decide (V.str x = V.str y) = decide (x.cps.toList = y.cps.toList) := by rw [← dec_str']; simp
    rw [z]; exact h
  · obtain rfl := vx.bl; obtain rfl := vy.bl
    refine op_ne pins s σ H _ _ v u Q I rx ry ⟨rfl, ?_⟩
    have z : decide (V.bl i = V.bl j) = decide (i = j) := by simp
    rw [z]; exact h
  · obtain rfl := vx.non; obtain rfl := vy.non
    exact op_ne pins s σ H _ _ v u Q I rx ry ⟨rfl, by simpa using h⟩
  · obtain ⟨s1, p1⟩ := shaped_of vx ha
    obtain ⟨s2, p2⟩ := shaped_of vy hb
    rw [eqD_py _ _ p1 p2] at h
    exact op_neD (by omega) pins s σ H _ _ v u Q I rx ry ⟨_, _, hK ▸ vx.dp e p1, hK ▸ vy.dp e p2, s1, s2, h⟩
theorem Vw.isNon {v : V} {d : D} (h : Vw G F H v d) : decide (v = .non) = d.isNon := by
  cases d with
  | non => obtain rfl := h.non; rfl
  | _ =>
    refine decide_eq_false fun z => ?_
    subst z
    cases h with
    | rp h => cases h
theorem op_is_D : OpR X (compareOp .Is) (r2B G isR) := by
  intro pins s σ H x y v u Q I rx ry h
  obtain ⟨F, dx, dy, k, e, vx, vy, q, h⟩ := h
  cases dy with
  | non =>
    obtain rfl := vy.non
    obtain rfl : dx.isNon = k := by simpa [isR] using q
    exact op_isN pins s σ H _ _ v u Q I rx ry ⟨rfl, by rw [vx.isNon]; exact h⟩
  | bl b =>
    cases dx with
    | bl a =>
      obtain rfl := vx.bl; obtain rfl := vy.bl
      obtain rfl : decide (a = b) = k := by simpa [isR] using q
      exact op_is_bl pins s σ H _ _ v u Q I rx ry ⟨a, b, rfl, rfl, h⟩
    | _ => cases q
  | _ => cases q
theorem op_isn_D : OpR X (compareOp .IsNot) (r2B G fun a b => (isR a b).bind fun k => .ok !k) := by
  intro pins s σ H x y v u Q I rx ry h
  obtain ⟨F, dx, dy, k, e, vx, vy, q, h⟩ := h
  obtain ⟨k', q', q⟩ := R.bind_eq q
  obtain rfl : (!k') = k := by simpa using q
  cases dy with
  | non =>
    obtain rfl := vy.non
    obtain rfl : dx.isNon = k' := by simpa [isR] using q'
    exact op_notN pins s σ H _ _ v u Q I rx ry ⟨rfl, by rw [vx.isNon]; exact h⟩
  | bl b =>
    cases dx with
    | bl a =>
      obtain rfl := vx.bl; obtain rfl := vy.bl
      obtain rfl : decide (a = b) = k' := by simpa [isR] using q'
      exact op_isnot_bl pins s σ H _ _ v u Q I rx ry ⟨a, b, rfl, rfl, h⟩
    | _ => cases q'
  | _ => cases q'
/-- an order of ints -/
theorem opC_D {f : Value → Value → Sem Value} {g : Int → Int → Bool} {op : D → D → R Bool} (ho : OpR X f (rI0 fun i j => .bl (g i j)))
    (hi : ∀ i j k, op (.int i) (.int j) = .ok k → k = g i j) (hn : ∀ a b k, op a b = .ok k → ∃ i j, a = .int i ∧ b = .int j) : OpR X f (r2B G op) := by
  intro pins s σ H x y v u Q I rx ry h
  obtain ⟨F, dx, dy, k, e, vx, vy, q, h⟩ := h
  obtain ⟨i, j, rfl, rfl⟩ := hn _ _ _ q
  obtain rfl := hi _ _ _ q
  obtain rfl := vx.int; obtain rfl := vy.int
  exact ho pins s σ H _ _ v u Q I rx ry ⟨_, _, rfl, rfl, h⟩
theorem intsB_of {op : D → D → R Bool} (h : ∀ a b, (∀ i j, ¬ (a = .int i ∧ b = .int j)) → op a b = .bad) : ∀ a b x, op a b = .ok x → ∃ i j, a = .int i ∧ b = .int j := fun a b x e => by
  by_cases q : ∃ i j, a = .int i ∧ b = .int j
  · exact q
  · rw [h a b fun i j z => q ⟨i, j, z⟩] at e; cases e
theorem scal_flat {v : V} {d : D} (h : Vw G F H v d) (p : d.scal = true) : flatV v = true := by
  cases d with
  | non => obtain rfl := h.non; rfl
  | bl b => obtain rfl := h.bl; rfl
  | int i => obtain rfl := h.int; rfl
  | str l => obtain ⟨x, rfl, _⟩ := h.str; rfl
  | _ => cases p
theorem scal_eq {v w : V} {d e : D} (h : Vw G F H v d) (p : d.scal = true) (h' : Vw G F H w e) (p' : e.scal = true) : eqV v w = eqD d e := by
  cases d <;> first | cases p | skip
  all_goals (cases e <;> first | cases p' | skip)
  all_goals first
    | (obtain rfl := h.non) | (obtain rfl := h.bl) | (obtain rfl := h.int) | (obtain ⟨x, rfl, rfl, _⟩ := h.str)
  all_goals first
    | (obtain rfl := h'.non; rfl) | (obtain rfl := h'.bl; rfl) | (obtain rfl := h'.int; rfl) | (obtain ⟨y, rfl, rfl, _⟩ := h'.str)
  all_goals first | rfl | skip
  show (_ == _) = (_ == _)
  have z := dec_str' (x := x) (y := y)
  rw [Bool.beq_eq_decide_eq, Bool.beq_eq_decide_eq]
  exact z
theorem scal_any {w : V} {e : D} (h' : Vw G F H w e) (p' : e.scal = true) : ∀ {vs : List V} {ds : List D}, Rps G F vs ds → ds.all D.scal = true → (vs.all flatV = true ∧ inV w vs = ds.any fun z => eqD z e)
  | _, _, .nil, _ => ⟨rfl, rfl⟩
  | _, _, .cons (v := v) (d := d) (vs := vs) (ds := ds) h r, p => by
    rw [List.all_cons, Bool.and_eq_true] at p
    obtain ⟨h1, h2⟩ := scal_any h' p' r p.2
    refine ⟨by rw [List.all_cons, scal_flat (H := H) (.rp h) p.1, h1]; rfl, ?_⟩
    show (eqV v w || inV w vs) = _
    rw [List.any_cons, h2, scal_eq (.rp h) p.1 h' p']
theorem one_str {x : Str} {c : Nat} (h : x.cps.toList = [c]) : x = ⟨#[c]⟩ := by rw [← str_mk x, h]
theorem in_core (hK : X.K = G.K) (hu : X.A.units + 65 < cLine) (neg : Bool) : OpR X (compareOp (if neg then .NotIn else .In)) (r2B G fun a b => (inR a b).bind fun k => .ok (neg != k)) := by
  intro pins s σ H x y v u Q I rx ry h
  obtain ⟨F, dx, dy, k, e, vx, vy, q, h⟩ := h
  obtain ⟨k', q', q⟩ := R.bind_eq q
  obtain rfl : (neg != k') = k := by simpa using q
  cases dy with
  | str l =>
    obtain ⟨y, rfl, rfl, hy⟩ := vy.str
    cases dx with
    | str m =>
      obtain ⟨x, rfl, rfl, hx⟩ := vx.str
      cases hm : x.cps.toList with
      | nil => rw [hm] at q'; cases q'
      | cons c r =>
        cases r with
        | nil =>
          rw [hm] at q'
          obtain rfl : decide (c ∈ y.cps.toList) = k' := by simpa [inR] using q'
          rw [one_str hm] at rx
          cases neg with
          | false => exact op_in_sign pins s σ H _ _ v u Q I rx ry ⟨c, y, rfl, rfl, by simpa using h⟩
          | true => exact op_notIn_sign pins s σ H _ _ v u Q I rx ry ⟨c, y, rfl, rfl, by simpa using h⟩
        | cons c' r' => rw [hm] at q'; cases q'
    | _ => cases q'
  | lst l =>
    have q2 : (if (dx.ok && (D.lst l).ok) = true then R.ok (l.any fun z => eqD z dx) else .bad) = .ok k' := q'
    split at q2
    · rename_i c
      rw [Bool.and_eq_true] at c
      obtain rfl : (l.any fun z => eqD z dx) = k' := by simpa using q2
      obtain ⟨s1, p1⟩ := shaped_of vx c.1
      obtain ⟨s2, p2⟩ := shaped_of vy c.2
      rw [any_py dx p1 l p2] at h
      cases neg with
      | false => exact op_inD hu pins s σ H _ _ v u Q I rx ry ⟨_, _, hK ▸ vx.dp e p1, hK ▸ vy.dp e p2, s1, s2, by simpa using h⟩
      | true => exact op_notInD hu pins s σ H _ _ v u Q I rx ry ⟨_, _, hK ▸ vx.dp e p1, hK ▸ vy.dp e p2, s1, s2, by simpa using h⟩
    · cases q2
  | tup l =>
    have q2 : (if (dx.scal && l.all D.scal) = true then R.ok (l.any fun z => eqD z dx) else .bad) = .ok k' := q'
    split at q2
    · rename_i c
      rw [Bool.and_eq_true] at c
      obtain rfl : (l.any fun z => eqD z dx) = k' := by simpa using q2
      obtain ⟨p, vs, rfl, hp, r⟩ := vy.tup
      obtain ⟨f1, f2⟩ := scal_any vx c.1 r c.2
      rw [← f2] at h
      cases neg with
      | false => exact op_in_seq pins s σ H _ _ v u Q I rx ry ⟨p, vs, rfl, .inr (SqT.of (e _ _ hp)), scal_flat vx c.1, f1, by simpa using h⟩
      | true => exact op_notIn_seq pins s σ H _ _ v u Q I rx ry ⟨p, vs, rfl, .inr (SqT.of (e _ _ hp)), scal_flat vx c.1, f1, by simpa using h⟩
    · cases q2
  | _ => cases q'
def copA : Cop → CmpOp
  | .eq => .Eq | .ne => .NotEq | .lt => .Lt | .le => .LtE | .gt => .Gt | .ge => .GtE | .is => .Is | .isn => .IsNot | .inn => .In | .nin => .NotIn
theorem r2B.mono {f : Value → Value → Sem Value} {op op' : D → D → R Bool} (h : OpR X f (r2B G op)) (e : ∀ a b k, op' a b = .ok k → op a b = .ok k) : OpR X f (r2B G op') :=
  fun pins s σ H x y v u Q I rx ry ⟨F, dx, dy, k, e1, vx, vy, q, w⟩ => h pins s σ H x y v u Q I rx ry ⟨F, dx, dy, k, e1, vx, vy, e _ _ _ q, w⟩
theorem op_cmp_D (hK : X.K = G.K) (hu : X.A.units + 65 < cLine) : ∀ o : Cop, OpR X (compareOp (copA o)) (r2B G (cmpD o))
  | .eq => op_eq_D hK hu
  | .ne => op_ne_D hK hu
  | .lt => opC_D op_lt (fun i j k h => by simpa [cmpD] using h.symm) (intsB_of fun a b h => by cases a <;> cases b <;> first | rfl | exact absurd ⟨rfl, rfl⟩ (h _ _))
  | .le => opC_D op_le (fun i j k h => by simpa [cmpD] using h.symm) (intsB_of fun a b h => by cases a <;> cases b <;> first | rfl | exact absurd ⟨rfl, rfl⟩ (h _ _))
  | .gt => opC_D op_gt (fun i j k h => by simpa [cmpD] using h.symm) (intsB_of fun a b h => by cases a <;> cases b <;> first | rfl | exact absurd ⟨rfl, rfl⟩ (h _ _))
  | .ge => opC_D op_ge (fun i j k h => by simpa [cmpD] using h.symm) (intsB_of fun a b h => by cases a <;> cases b <;> first | rfl | exact absurd ⟨rfl, rfl⟩ (h _ _))
  | .is => op_is_D
  | .isn => op_isn_D
  | .inn => r2B.mono (in_core hK hu false) fun a b k h => by
      have h' : inR a b = .ok k := h
      show (inR a b).bind (fun k => .ok (false != k)) = .ok k
      rw [h']; cases k <;> rfl
  | .nin => r2B.mono (in_core hK hu true) fun a b k h => by
      have h' : (inR a b).bind (fun k => .ok !k) = .ok k := h
      obtain ⟨k', q', q⟩ := R.bind_eq h'
      show (inR a b).bind (fun k => .ok (true != k)) = .ok k
      rw [q', R.bind_ok]
      rw [← q]; cases k' <;> rfl
end
end Z
/-! What it is for an expression to be worth what the evaluator says. -/
namespace Z
open PySem PySem.Spec L2

def RA (G : Gx) (σ : St) (ρ : Env) (H₀ F H : Hp) (v : V) : A → Prop
  | .bo i => ∃ s p, ρ[i]? = some (some s) ∧ s.isOwn = true ∧ σ[i]? = some (some (.ref p)) ∧ v = .ref p
  | a => RV G H₀ F H v a
/-- the wish about an exception c(d) -/
def PX (G : Gx) (W : WX) (σ : St) (F H : Hp) (c : Nat) (d : D) : Prop :=
  ∀ F' H' dd v, Ext F H F' H' → H' dd = some (.xd [(("at" : Str), v)]) → Rp G F' v d → W (.ref (He.ga G.K (G.cn c))) (some dd) σ H'
def PE' (G : Gx) (W : WX) (σ : St) (ρ : Env) (F H : Hp) (Q : VK) : R A → Prop
  | .ok a => ∀ v F' H', Ext F H F' H' → RA G σ ρ H F' H' v a → Q v H'
  | .exc c d => PX G W σ F H c d
  | .bad => False
def PT' (G : Gx) (W : WX) (σ : St) (F H : Hp) (Q : Bool → Hp → Prop) : R Bool → Prop
  | .ok k => ∀ F' H', Ext F H F' H' → Q k H'
  | .exc c d => PX G W σ F H c d
  | .bad => False
inductive RAs (G : Gx) (σ : St) (ρ : Env) (H₀ F H : Hp) : List V → List A → Prop where
  | nil : RAs G σ ρ H₀ F H [] []
  | cons {v : V} {a : A} {vs : List V} {as : List A} : RA G σ ρ H₀ F H v a → RAs G σ ρ H₀ F H vs as → RAs G σ ρ H₀ F H (v :: vs) (a :: as)
def PA' (G : Gx) (W : WX) (σ : St) (ρ : Env) (F H : Hp) (Q : List V → Hp → Prop) : R (List A) → Prop
  | .ok as => ∀ vs F' H', Ext F H F' H' → RAs G σ ρ H F' H' vs as → Q vs H'
  | .exc c d => PX G W σ F H c d
  | .bad => False
def PO' (G : Gx) (W : WX) (σ : St) (F H : Hp) (Q : Option Int → Hp → Prop) : R (Option Int) → Prop
  | .ok o => ∀ F' H', Ext F H F' H' → Q o H'
  | .exc c d => PX G W σ F H c d
  | .bad => False
def EX (G : Gx) (X : Cx) (W : WX) (e : Expr) (f : Env → R A) : Prop := ∃ t, PE X e t ∧ ∀ σ H F ρ Q, Stt G F ρ σ H → PE' G W σ ρ F H Q (f ρ) → t σ H Q
def TX (G : Gx) (X : Cx) (W : WX) (e : Expr) (f : Env → R Bool) : Prop := ∃ t, PT X e t ∧ ∀ σ H F ρ Q, Stt G F ρ σ H → PT' G W σ F H Q (f ρ) → t σ H Q
def AX (G : Gx) (X : Cx) (W : WX) (es : List Expr) (f : Env → R (List A)) : Prop := ∃ t, PA X es t ∧ ∀ σ H F ρ Q, Stt G F ρ σ H → PA' G W σ ρ F H Q (f ρ) → t σ H Q
def OX (G : Gx) (X : Cx) (W : WX) (e : Option Expr) (f : Env → R (Option Int)) : Prop := ∃ t, PO X e t ∧ ∀ σ H F ρ Q, Stt G F ρ σ H → PO' G W σ F H Q (f ρ) → t σ H Q
/-- the truth of a value -/
def truA (ρ : Env) (x : R A) : R Bool := x.bind fun a => (rdA ρ a).bind tru

section
variable {G : Gx} {W : WX} {σ : St} {ρ : Env} {F H F1 H1 H0 : Hp} {Q : VK}
theorem PX.ext (e : Ext F H F1 H1) {c : Nat} {d : D} (h : PX G W σ F H c d) : PX G W σ F1 H1 c d := fun F' H' dd v e' => h F' H' dd v (e.trans e')
theorem RV.ext {v : V} {a : A} (e : Ext F H F1 H1) (sub : Same H0 H) (h : RV G H0 F H v a) : RV G H0 F1 H1 v a := by
  cases a with
  | sh d => exact Rp.mono e.ff h
  | ow s =>
    obtain ⟨p, rfl, h0, hf, ho⟩ := h
    obtain ⟨o, hp⟩ := ho.some
    exact ⟨p, rfl, h0, e.nw p o hp hf, ho.mono e.ff fun o z => e.hh _ _ z⟩
  | bo i => exact h.elim
theorem RA.ext {v : V} {a : A} (e : Ext F H F1 H1) (sub : Same H0 H) (h : RA G σ ρ H0 F H v a) : RA G σ ρ H0 F1 H1 v a := by
  cases a with
  | sh d => exact RV.ext (a := .sh d) e sub h
  | ow s => exact RV.ext (a := .ow s) e sub h
  | bo i => exact h
theorem RA.start {v : V} {a : A} (e : Same H0 H) (h : RA G σ ρ H F1 H1 v a) : RA G σ ρ H0 F1 H1 v a := by
  cases a with
  | sh d => exact h
  | ow s => obtain ⟨p, h1, h2, h3⟩ := h; exact ⟨p, h1, e.free h2, h3⟩
  | bo i => exact h
theorem RAs.ext (e : Ext F H F1 H1) (sub : Same H0 H) : ∀ {vs : List V} {as : List A}, RAs G σ ρ H0 F H vs as → RAs G σ ρ H0 F1 H1 vs as
  | _, _, .nil => .nil
  | _, _, .cons h r => .cons (h.ext e sub) (RAs.ext e sub r)
theorem RAs.start (e : Same H0 H) : ∀ {vs : List V} {as : List A}, RAs G σ ρ H F1 H1 vs as → RAs G σ ρ H0 F1 H1 vs as
  | _, _, .nil => .nil
  | _, _, .cons h r => .cons (h.start e) (RAs.start e r)
theorem PE'.ext {r : R A} (e : Ext F H F1 H1) (h : PE' G W σ ρ F H Q r) : PE' G W σ ρ F1 H1 Q r := by
  cases r with
  | ok a => exact fun v F' H' e' q => h v F' H' (e.trans e') (q.start e.hh)
  | exc c d => exact PX.ext e h
  | bad => exact h
theorem PT'.ext {Q : Bool → Hp → Prop} {r : R Bool} (e : Ext F H F1 H1) (h : PT' G W σ F H Q r) : PT' G W σ F1 H1 Q r := by
  cases r with
  | ok a => exact fun F' H' e' => h F' H' (e.trans e')
  | exc c d => exact PX.ext e h
  | bad => exact h
theorem PA'.ext {Q : List V → Hp → Prop} {r : R (List A)} (e : Ext F H F1 H1) (h : PA' G W σ ρ F H Q r) : PA' G W σ ρ F1 H1 Q r := by
  cases r with
  | ok a => exact fun v F' H' e' q => h v F' H' (e.trans e') (q.start e.hh)
  | exc c d => exact PX.ext e h
  | bad => exact h
theorem PO'.ext {Q : Option Int → Hp → Prop} {r : R (Option Int)} (e : Ext F H F1 H1) (h : PO' G W σ F H Q r) : PO' G W σ F1 H1 Q r := by
  cases r with
  | ok a => exact fun F' H' e' => h F' H' (e.trans e')
  | exc c d => exact PX.ext e h
  | bad => exact h
/-- first x, then k: from a wish about the whole to a wish about x -/
theorem PE'.bind {x : R A} {k : A → R A} {Qa : VK} (h : PE' G W σ ρ F H Q (x.bind k)) (hk : ∀ a v F1 H1, Ext F H F1 H1 → RA G σ ρ H F1 H1 v a → PE' G W σ ρ F1 H1 Q (k a) → Qa v H1) : PE' G W σ ρ F H Qa x := by
  cases x with
  | ok a => exact fun v F' H' e q => hk a v F' H' e q (PE'.ext e h)
  | exc c d => exact h
  | bad => exact h
theorem PE'.bind0 {x : R A} {k : A → R A} {Qa : VK} (h : PE' G W σ ρ F H Q (x.bind k)) (hk : ∀ a v F1 H1, Ext F H F1 H1 → RA G σ ρ H F1 H1 v a → PE' G W σ ρ F H Q (k a) → Qa v H1) : PE' G W σ ρ F H Qa x := by
  cases x with
  | ok a => exact fun v F' H' e q => hk a v F' H' e q h
  | exc c d => exact h
  | bad => exact h
theorem PT'.bindE {Q : Bool → Hp → Prop} {x : R A} {k : A → R Bool} {Qa : VK} (h : PT' G W σ F H Q (x.bind k)) (hk : ∀ a v F1 H1, Ext F H F1 H1 → RA G σ ρ H F1 H1 v a → PT' G W σ F1 H1 Q (k a) → Qa v H1) : PE' G W σ ρ F H Qa x := by
  cases x with
  | ok a => exact fun v F' H' e q => hk a v F' H' e q (PT'.ext e h)
  | exc c d => exact h
  | bad => exact h
theorem PT'.bind {Q : Bool → Hp → Prop} {x : R Bool} {k : Bool → R Bool} {Qa : Bool → Hp → Prop} (h : PT' G W σ F H Q (x.bind k)) (hk : ∀ a F1 H1, Ext F H F1 H1 → PT' G W σ F1 H1 Q (k a) → Qa a H1) : PT' G W σ F H Qa x := by
  cases x with
  | ok a => exact fun F' H' e => hk a F' H' e (PT'.ext e h)
  | exc c d => exact h
  | bad => exact h
theorem PE'.bindT {x : R Bool} {k : Bool → R A} {Qa : Bool → Hp → Prop} (h : PE' G W σ ρ F H Q (x.bind k)) (hk : ∀ a F1 H1, Ext F H F1 H1 → PE' G W σ ρ F1 H1 Q (k a) → Qa a H1) : PT' G W σ F H Qa x := by
  cases x with
  | ok a => exact fun F' H' e => hk a F' H' e (PE'.ext e h)
  | exc c d => exact h
  | bad => exact h
theorem PE'.bindA {x : R (List A)} {k : List A → R A} {Qa : List V → Hp → Prop} (h : PE' G W σ ρ F H Q (x.bind k)) (hk : ∀ a v F1 H1, Ext F H F1 H1 → RAs G σ ρ H F1 H1 v a → PE' G W σ ρ F1 H1 Q (k a) → Qa v H1) : PA' G W σ ρ F H Qa x := by
  cases x with
  | ok a => exact fun v F' H' e q => hk a v F' H' e q (PE'.ext e h)
  | exc c d => exact h
  | bad => exact h
theorem PE'.bindA0 {x : R (List A)} {k : List A → R A} {Qa : List V → Hp → Prop} (h : PE' G W σ ρ F H Q (x.bind k)) (hk : ∀ a v F1 H1, Ext F H F1 H1 → RAs G σ ρ H F1 H1 v a → PE' G W σ ρ F H Q (k a) → Qa v H1) : PA' G W σ ρ F H Qa x := by
  cases x with
  | ok a => exact fun v F' H' e q => hk a v F' H' e q h
  | exc c d => exact h
  | bad => exact h
theorem PE'.bindO {x : R (Option Int)} {k : Option Int → R A} {Qa : Option Int → Hp → Prop} (h : PE' G W σ ρ F H Q (x.bind k)) (hk : ∀ a F1 H1, Ext F H F1 H1 → PE' G W σ ρ F1 H1 Q (k a) → Qa a H1) : PO' G W σ F H Qa x := by
  cases x with
  | ok a => exact fun F' H' e => hk a F' H' e (PE'.ext e h)
  | exc c d => exact h
  | bad => exact h
theorem PA'.bindE {Q : List V → Hp → Prop} {x : R A} {k : A → R (List A)} {Qa : VK} (h : PA' G W σ ρ F H Q (x.bind k)) (hk : ∀ a v F1 H1, Ext F H F1 H1 → RA G σ ρ H F1 H1 v a → PA' G W σ ρ F1 H1 Q (k a) → Qa v H1) : PE' G W σ ρ F H Qa x := by
  cases x with
  | ok a => exact fun v F' H' e q => hk a v F' H' e q (PA'.ext e h)
  | exc c d => exact h
  | bad => exact h
theorem PA'.bind {Q : List V → Hp → Prop} {x : R (List A)} {k : List A → R (List A)} {Qa : List V → Hp → Prop} (h : PA' G W σ ρ F H Q (x.bind k)) (hk : ∀ a v F1 H1, Ext F H F1 H1 → RAs G σ ρ H F1 H1 v a → PA' G W σ ρ F1 H1 Q (k a) → Qa v H1) : PA' G W σ ρ F H Qa x := by
  cases x with
  | ok a => exact fun v F' H' e q => hk a v F' H' e q (PA'.ext e h)
  | exc c d => exact h
  | bad => exact h
theorem PA'.bindE0 {Q : List V → Hp → Prop} {x : R A} {k : A → R (List A)} {Qa : VK} (h : PA' G W σ ρ F H Q (x.bind k)) (hk : ∀ a v F1 H1, Ext F H F1 H1 → RA G σ ρ H F1 H1 v a → PA' G W σ ρ F H Q (k a) → Qa v H1) : PE' G W σ ρ F H Qa x := by
  cases x with
  | ok a => exact fun v F' H' e q => hk a v F' H' e q h
  | exc c d => exact h
  | bad => exact h
/-- the wish stands at an earlier heap -/
theorem PA'.bind1 {e0 : Ext F H F1 H1} {Q : List V → Hp → Prop} {x : R (List A)} {k : List A → R (List A)} {Qa : List V → Hp → Prop} (h : PA' G W σ ρ F H Q (x.bind k)) (hk : ∀ a v F2 H2, Ext F1 H1 F2 H2 → RAs G σ ρ H1 F2 H2 v a → PA' G W σ ρ F H Q (k a) → Qa v H2) : PA' G W σ ρ F1 H1 Qa x := by
  cases x with
  | ok a => exact fun v F' H' e q => hk a v F' H' e q h
  | exc c d => exact PX.ext e0 h
  | bad => exact h
theorem PO'.bindE {Q : Option Int → Hp → Prop} {x : R A} {k : A → R (Option Int)} {Qa : VK} (h : PO' G W σ F H Q (x.bind k)) (hk : ∀ a v F1 H1, Ext F H F1 H1 → RA G σ ρ H F1 H1 v a → PO' G W σ F1 H1 Q (k a) → Qa v H1) : PE' G W σ ρ F H Qa x := by
  cases x with
  | ok a => exact fun v F' H' e q => hk a v F' H' e q (PO'.ext e h)
  | exc c d => exact h
  | bad => exact h
/-- a step that is no exception -/
def R.mild {α : Type} : R α → Prop
  | .exc _ _ => False
  | _ => True
theorem PE'.pure {β : Type} {x : R β} {k : β → R A} (hx : x.mild) (h : PE' G W σ ρ F H Q (x.bind k)) : ∃ b, x = .ok b ∧ PE' G W σ ρ F H Q (k b) := by
  cases x with
  | ok b => exact ⟨b, rfl, h⟩
  | exc c d => exact hx.elim
  | bad => exact h.elim
theorem PT'.pure {Q : Bool → Hp → Prop} {β : Type} {x : R β} {k : β → R Bool} (hx : x.mild) (h : PT' G W σ F H Q (x.bind k)) : ∃ b, x = .ok b ∧ PT' G W σ F H Q (k b) := by
  cases x with
  | ok b => exact ⟨b, rfl, h⟩
  | exc c d => exact hx.elim
  | bad => exact h.elim
theorem PO'.pure {Q : Option Int → Hp → Prop} {β : Type} {x : R β} {k : β → R (Option Int)} (hx : x.mild) (h : PO' G W σ F H Q (x.bind k)) : ∃ b, x = .ok b ∧ PO' G W σ F H Q (k b) := by
  cases x with
  | ok b => exact ⟨b, rfl, h⟩
  | exc c d => exact hx.elim
  | bad => exact h.elim
theorem PE'.pv {r : R A} (hr : r.mild) (h : PE' G W σ ρ F H Q r) : PV G F H Q r := by
  cases r with
  | ok a =>
    intro v F' H' e q
    refine h v F' H' e ?_
    cases a with
    | sh d => exact q
    | ow s => exact q
    | bo i => exact q.elim
  | exc c d => exact hr.elim
  | bad => exact h
theorem mild_bind {α β : Type} {x : R α} {f : α → R β} (hx : x.mild) (hf : ∀ a, (f a).mild) : (x.bind f).mild := by
  cases x with
  | ok a => exact hf a
  | exc c d => exact hx.elim
  | bad => trivial
theorem mild_ok {α : Type} (a : α) : (R.ok a).mild := trivial
theorem mild_bad {α : Type} : (R.bad : R α).mild := trivial
theorem mild_ite {α : Type} {c : Prop} [Decidable c] {a b : R α} (ha : a.mild) (hb : b.mild) : (if c then a else b).mild := by split <;> assumption
theorem rdA_mild (a : A) : (rdA ρ a).mild := by
  cases a with
  | sh d => trivial
  | ow s => trivial
  | bo i =>
    show (match ρ[i]? with
      | some (some s) => R.ok s.d
      | _ => R.bad).mild
    generalize ρ[i]? = o
    cases o with
    | none => trivial
    | some o => cases o <;> trivial
theorem tru_mild (d : D) : (tru d).mild := by
  cases d <;> first | trivial | exact mild_ite trivial trivial
theorem binD_mild (o : Bop) (a b : D) : (binD o a b).mild := by
  cases o <;> cases a <;> cases b <;> first | trivial | exact mild_ite trivial trivial
theorem eqR_mild (a b : D) : (eqR a b).mild := by
  cases a <;> cases b <;> first | trivial | exact mild_ite trivial trivial
theorem isR_mild (a b : D) : (isR a b).mild := by
  cases b <;> first | trivial | (cases a <;> trivial)
theorem inR_mild (a b : D) : (inR a b).mild := by
  cases b with
  | str s =>
    cases a with
    | str m =>
      cases m with
      | nil => trivial
      | cons c r => cases r <;> trivial
    | _ => trivial
  | lst l => exact mild_ite trivial trivial
  | tup l => exact mild_ite trivial trivial
  | _ => trivial
theorem cmpD_mild (o : Cop) (a b : D) : (cmpD o a b).mild := by
  cases o with
  | eq => exact eqR_mild a b
  | ne => exact mild_bind (eqR_mild a b) fun _ => trivial
  | is => exact isR_mild a b
  | isn => exact mild_bind (isR_mild a b) fun _ => trivial
  | inn => exact inR_mild a b
  | nin => exact mild_bind (inR_mild a b) fun _ => trivial
  | _ => cases a <;> cases b <;> trivial
theorem ixD_mild (a b : D) : (ixD a b).mild := by
  have z : ∀ (l : List D) (i : Int), (match atI l i with | some d => R.ok d | none => .bad).mild := fun l i => by cases atI l i <;> trivial
  cases a with
  | lst l => cases b <;> first | trivial | exact z _ _
  | tup l => cases b <;> first | trivial | exact z _ _
  | lfz l => cases b <;> first | trivial | exact z _ _
  | str l =>
    cases b with
    | int i =>
      refine mild_ite ?_ trivial
      cases atI l i <;> trivial
    | _ => trivial
  | _ => cases b <;> trivial
theorem slD_mild (a : D) (i j : Option Int) : (slD a i j).mild := by
  cases a <;> first | trivial | exact mild_ite trivial trivial
theorem lenD_mild (a : D) : (lenD a).mild := by
  cases a <;> first | trivial | exact mild_ite trivial trivial
theorem intO_mild (a : D) : (intO a).mild := by cases a <;> trivial
theorem rds_mild : ∀ as : List A, (rds ρ as).mild
  | [] => trivial
  | a :: r => mild_bind (rdA_mild a) fun _ => mild_bind (rds_mild r) fun _ => trivial
theorem kpA_mild (a : A) : (kpA a).mild := by cases a <;> trivial
theorem kps_mild : ∀ as : List A, (kps as).mild
  | [] => trivial
  | a :: r => mild_bind (kpA_mild a) fun _ => mild_bind (kps_mild r) fun _ => trivial

/-- a value as it reads -/
theorem RA.vw {v : V} {a : A} {d : D} (S : Stt G F1 ρ σ H1) (h : RA G σ ρ H F1 H1 v a) (r : rdA ρ a = .ok d) : Vw G F1 H1 v d := by
  cases a with
  | sh d' => obtain rfl : d' = d := by simpa [rdA] using r
             exact .rp h
  | ow s =>
    obtain rfl : s.d = d := by simpa [rdA] using r
    obtain ⟨p, rfl, _, _, ho⟩ := h
    cases s with
    | sh d => exact ho.elim
    | li l => obtain ⟨vs, hv, q⟩ := ho; exact .li hv q
    | di l =>
      rcases ho with ⟨k, hv, q⟩ | ⟨k, hv, q⟩
      · exact .dk hv q
      · exact .dt hv q
  | bo i =>
    obtain ⟨s, p, h1, h2, h3, rfl⟩ := h
    obtain rfl : s.d = d := by simpa [rdA, h1] using r
    obtain ⟨p', h4, _, ho⟩ := S.ow i s h1 h2
    rw [h3] at h4
    cases h4
    cases s with
    | sh d => cases h2
    | li l => obtain ⟨vs, hv, q⟩ := ho; exact .li hv q
    | di l =>
      rcases ho with ⟨k, hv, q⟩ | ⟨k, hv, q⟩
      · exact .dk hv q
      · exact .dt hv q
inductive Vws (G : Gx) (F H : Hp) : List V → List D → Prop where
  | nil : Vws G F H [] []
  | cons {v : V} {d : D} {vs : List V} {ds : List D} : Vw G F H v d → Vws G F H vs ds → Vws G F H (v :: vs) (d :: ds)
theorem RAs.vws (S : Stt G F1 ρ σ H1) : ∀ {vs : List V} {as : List A} {ds : List D}, RAs G σ ρ H F1 H1 vs as → rds ρ as = .ok ds → Vws G F1 H1 vs ds
  | _, _, ds, .nil, r => by
    obtain rfl : [] = ds := by simpa [rds] using r
    exact .nil
  | _, _, ds, .cons h q, r => by
    obtain ⟨d, r1, r⟩ := R.bind_eq r
    obtain ⟨ds', r2, r⟩ := R.bind_eq r
    obtain rfl : d :: ds' = ds := by simpa using r
    exact .cons (h.vw S r1) (RAs.vws S q r2)
/-- values kept: what is new is frozen -/
theorem RAs.keep : ∀ {vs : List V} {as : List A} {ds : List D} {F1 H1 H : Hp} (_ : Stt G F1 ρ σ H1) (_ : Same H H1) (nd : ∀ b, H1 b = none → H b = none), RAs G σ ρ H F1 H1 vs as → kps as = .ok ds →
    ∃ F2, Same F1 F2 ∧ Same F2 H1 ∧ (∀ b o, H b = some o → F1 b = none → F2 b = none) ∧ Rps G F2 vs ds
  | _, _, ds, F1, H1, H, S, sub, nd, .nil, r => by
    obtain rfl : [] = ds := by simpa [kps] using r
    exact ⟨F1, Same.refl _, S.sub, fun _ _ _ z => z, .nil⟩
  | _, _, ds, F1, H1, H, S, sub, nd, .cons (v := v) (a := a) h q, r => by
    obtain ⟨d, r1, r⟩ := R.bind_eq r
    obtain ⟨ds', r2, r⟩ := R.bind_eq r
    obtain rfl : d :: ds' = ds := by simpa using r
    obtain ⟨F2, e1, e2, e3, q2⟩ := RAs.keep S sub nd q r2
    cases a with
    | sh d' =>
      obtain rfl : d' = d := by simpa [kpA] using r1
      exact ⟨F2, e1, e2, e3, .cons (Rp.mono e1 h) q2⟩
    | ow s =>
      obtain rfl : s.d = d := by simpa [kpA] using r1
      obtain ⟨p, rfl, h0, hf, ho⟩ := h
      obtain ⟨o, hp⟩ := ho.some
      have e4 : Same F2 (upd F2 p o) := fun b u z => by
        by_cases hb : b = p
        · subst hb
          have z' := e2 _ _ z
          rw [hp] at z'
          rw [upd_same, z']
        · rw [upd_ne hb]; exact z
      refine ⟨upd F2 p o, e1.trans e4, fun b u z => ?_, fun b u z1 z2 => ?_, .cons ?_ (q2.mono e4)⟩
      · by_cases hb : b = p
        · subst hb; rw [upd_same] at z; rw [hp]; exact z
        · rw [upd_ne hb] at z; exact e2 _ _ z
      · rw [upd_ne (ne_of_none z1 h0)]; exact e3 b u z1 z2
      · cases s with
        | sh d => exact ho.elim
        | li l =>
          obtain ⟨vs, hv, q⟩ := ho
          rw [hv] at hp; cases hp
          exact .lst upd_same (q.mono (e1.trans e4))
        | di l =>
          rcases ho with ⟨k, hv, q⟩ | ⟨k, hv, q⟩
          · rw [hv] at hp; cases hp
            exact .dic (.of upd_same) (q.mono (e1.trans e4))
          · rw [hv] at hp; cases hp
            exact .dit (.of upd_same) (q.mono (e1.trans e4))
    | bo i => cases r1
end
end Z
/-! The checker: a term of the small language says this expression. What must be known of the context. -/
namespace Z
open PySem PySem.Spec L2

structure Tab where
  fnm : List Str
  gnm : List Str
  blt : List Str
structure Cc where
  N : List Str
  sc : List (Str × NameKind)

def isVis : Option NameKind → Bool
  | some .local => true
  | some .cell => true
  | some .free => true
  | _ => false
def isGl : Option NameKind → Bool
  | some .globalImplicit => true
  | _ => false
def bifN : Bf → Str
  | .len => "len" | .list => "list" | .tuple => "tuple" | .sorted => "sorted" | .all => "all" | .any => "any" | .set => "set" | .max => "max" | .min => "min" | .sum => "sum" | .str => "str" | .int => "int" | .dict => "dict" | .bool => "bool"
def tyN : Ty → Option String
  | .bool => some "bool" | .int => some "int" | .str => some "str" | .tuple => some "tuple" | .list => some "list" | .dict => some "dict" | .cls _ => none
def chkVar (c : Cc) (i : Nat) (x : Str) : Bool := decide (c.N[i]? = some x) && isVis (c.sc.lookup x) && !(x == ("__debug__" : Str)) && !(x == ("__classdict__" : Str))
def chkGl (c : Cc) (x : Str) : Bool := isGl (c.sc.lookup x) && !(x == ("__debug__" : Str)) && !(x == ("__name__" : Str))
def chkC : D → Const → Bool
  | .non, .none => true
  | .bl b, .bool b' => b == b'
  | .int i, .int j => decide (i = j)
  | .str l, .str x => decide (x.cps.toList = l) && PyData.strOk x
  | _, _ => false
def chkBlt (T : Tab) (c : Cc) (x y : Str) : Bool := decide (x = y) && T.blt.contains x && chkGl c x
mutual
def chkE (T : Tab) (c : Cc) : E → Expr → Bool
  | .cst d, e => match e with
    | .Constant k _ _ => chkC d k
    | _ => false
  | .var i, e => match e with
    | .Name x _ => chkVar c i x
    | _ => false
  | .glb g, e => match e with
    | .Name x _ => decide (T.gnm[g]? = some x) && chkGl c x
    | _ => false
  | .bin o a b, e => match e with
    | .BinOp l op r _ => decide (op = bopA o) && chkE T c a l && chkE T c b r
    | _ => false
  | .neg a, e => match e with
    | .UnaryOp op x _ => decide (op = .USub) && chkE T c a x
    | _ => false
  | .not a, e => match e with
    | .UnaryOp op x _ => decide (op = .Not) && chkE T c a x
    | _ => false
  | .and a b, e => match e with
    | .BoolOp op (x :: y :: r) pos => decide (op = .And) && chkE T c a x && (match r with
      | [] => chkE T c b y
      | z :: r => chkE T c b (.BoolOp .And (y :: z :: r) pos))
    | _ => false
  | .or a b, e => match e with
    | .BoolOp op (x :: y :: r) pos => decide (op = .Or) && chkE T c a x && (match r with
      | [] => chkE T c b y
      | z :: r => chkE T c b (.BoolOp .Or (y :: z :: r) pos))
    | _ => false
  | .cmp o a b, e => match e with
    | .Compare l [op] [r] _ => decide (op = copA o) && chkE T c a l && chkE T c b r
    | _ => false
  | .chn o p a b d, e => match e with
    | .Compare l [op, op'] [m, r] _ => decide (op = copA o) && decide (op' = copA p) && chkE T c a l && chkE T c b m && chkE T c d r
    | _ => false
  | .call f as, e => match e with
    | .Call (.Name x _) (a :: es) [] _ => decide (T.fnm[f]? = some x) && chkGl c x && chkEs T c as (a :: es)
    | _ => false
  | .bif f as, e => match e with
    | .Call (.Name x _) (a :: es) [] _ => chkBlt T c x (bifN f) && chkEs T c as (a :: es)
    | _ => false
  | .isi a t, e => match e with
    | .Call (.Name x _) [a', .Name y _] [] _ => chkBlt T c x "isinstance" && chkE T c a a' && (match tyN t with
      | some n => chkBlt T c y (Str.ofString n)
      | none => false)
    | _ => false
  | .omt _ _ _, _ => false
  | .ix a b, e => match e with
    | .Subscript v s _ => chkE T c a v && chkE T c b s
    | _ => false
  | .sl a lo hi, e => match e with
    | .Subscript v (.Slice l h none _) _ => chkE T c a v && chkEo T c lo l && chkEo T c hi h
    | _ => false
  | .att _ _, _ => false
  | .tup as, e => match e with
    | .Tuple es _ _ => chkEs T c as es
    | _ => false
  | .lis as, e => match e with
    | .List es _ => chkEs T c as es
    | _ => false
  | .ife k a b, e => match e with
    | .IfExp t x y _ => chkE T c k t && chkE T c a x && chkE T c b y
    | _ => false
def chkEs (T : Tab) (c : Cc) : Es → List Expr → Bool
  | .nil, es => match es with
    | [] => true
    | _ => false
  | .cons a r, es => match es with
    | e :: es => chkE T c a e && chkEs T c r es
    | [] => false
def chkEo (T : Tab) (c : Cc) : Eo → Option Expr → Bool
  | .no, e => match e with
    | none => true
    | _ => false
  | .so a, e => match e with
    | some e => chkE T c a e
    | none => false
end
/-- the shapes that the checker takes -/
def okHead : Expr → Bool
  | .Constant .. => true
  | .Name .. => true
  | .BinOp .. => true
  | .UnaryOp .. => true
  | .BoolOp .. => true
  | .Compare .. => true
  | .Call .. => true
  | .Subscript .. => true
  | .Tuple .. => true
  | .List .. => true
  | .IfExp .. => true
  | .Attribute .. => true
  | .ListComp .. => true
  | .Dict .. => true
  | _ => false
theorem chk_head {T : Tab} {c : Cc} : ∀ {a : E} {e : Expr}, chkE T c a e = true → okHead e = true := fun {a e} h => by
  cases e <;> first
    | rfl
    | (cases a <;> (unfold chkE at h; cases h))
theorem star_head {e : PySem.Expr} {es : List PySem.Expr} {env : PySem.Env} (h : okHead e = true) : starEach (e :: es) env = (false, eval e env) :: starEach es env := by
  cases e <;> first
    | rfl
    | cases h
theorem sub_head {e : Expr} (h : okHead e = true) : PlainIx e := by
  intro o i
  cases e <;> first
    | rfl
    | cases h
theorem mark_head {op : CmpOp} {e : Expr} (h : okHead e = true) : behindInMarks op e = false := by
  cases e <;> first
    | rfl
    | cases h
end Z
/-! Expressions are worth what the evaluator says. -/
namespace Z
open PySem PySem.Spec L2

/-- a call's end, as it is wished for -/
def CP (G : Gx) (F H : Hp) (Q : VK) (E : XK) : R A → Prop
  | .ok a => ∀ v F' H', Ext F H F' H' → RV G H F' H' v a → Q v H'
  | .exc c d => ∀ F' H' dd v, Ext F H F' H' → H' dd = some (.xd [(("at" : Str), v)]) → Rp G F' v d → E (.ref (He.ga G.K (G.cn c))) (some dd) H'
  | .bad => False
/-- a def's promise: the value that f tells -/
def spF (G : Gx) (n : Nat) (f : List D → R A) : Sp := fun vs H Q E => vs.length = n ∧ ∃ F ds, Same F H ∧ Rps G F vs ds ∧ CP G F H Q E (f ds)
def R.good {α : Type} : R α → Prop
  | .bad => False
  | _ => True
structure FnG (G : Gx) (X : Cx) (x : Str) (f : List D → R A) : Prop where
  ex : ∃ n k addr fd ps, FnOk X.prog X.w X.K X.mg X.base (L2.CX X.prog X.w) k addr fd ps (spF G n f) ∧ Room k X.A ∧ X.mg x = some (.ref addr) ∧ PySem.W.keepIn X.K (.ref addr) = true ∧ Binds X.K fd ps [] ∧ ∀ ds, (f ds).good → ds.length = n
structure Good (T : Tab) (c : Cc) (G : Gx) (Γ : Fn) (X : Cx) : Prop where
  K : X.K = G.K
  N : X.N = c.N
  nd : c.N.Nodup
  vis : ∀ x, isVis (c.sc.lookup x) = true → Vis X.env.scope x
  loc : ∀ x, c.sc.lookup x = some .local → X.env.scope.names.lookup x = some .local
  cel : ∀ x, c.sc.lookup x = some .cell → X.env.scope.names.lookup x = some .cell ∧ X.fn x = true
  gl : ∀ x, isGl (c.sc.lookup x) = true → Gl X x
  calm : X.calm = true
  hu : X.A.units + 65 < cLine
  blt : ∀ x ∈ T.blt, X.mg x = none
  fns : ∀ f x, T.fnm[f]? = some x → FnG G X x (Γ.call f)
  glo : ∀ g x, T.gnm[g]? = some x → ∃ v u, X.mg x = some u ∧ RelV v u ∧ ∀ F, Rp G F v (Γ.glob g)

section
variable {T : Tab} {c : Cc} {G : Gx} {Γ : Fn} {X : Cx} {W : WX} {σ : St} {ρ : Env} {F H F1 H1 F2 H2 : Hp}
theorem bind_assocR {α β γ : Type} (x : R α) (f : α → R β) (g : β → R γ) : (x.bind f).bind g = x.bind fun a => (f a).bind g := by cases x <;> rfl

/-! ### tests -/
theorem tru_of {v : V} {d : D} {k : Bool} (e : Same F H) (h : Vw G F H v d) (r : tru d = .ok k) : TruV G.K v H k := by
  cases d with
  | non =>
    obtain rfl := h.non
    obtain rfl : false = k := by simpa [tru] using r
    rfl
  | bl b =>
    obtain rfl := h.bl
    obtain rfl : b = k := by simpa [tru] using r
    rfl
  | int i =>
    obtain rfl := h.int
    obtain rfl : (i != 0) = k := by simpa [tru] using r
    rfl
  | str l =>
    obtain ⟨x, rfl, rfl, _⟩ := h.str
    have r' : (if x.cps.toList.length ≤ 16777216 then R.ok (!x.cps.toList.isEmpty) else .bad) = .ok k := r
    split at r'
    · rename_i hl
      obtain rfl : (!x.cps.toList.isEmpty) = k := by simpa using r'
      refine ⟨by rw [len_cps, sizeLine_eq]; exact hl, ?_⟩
      rw [len_cps]
      cases x.cps.toList <;> simp
      omega
    · cases r'
  | lst l =>
    obtain ⟨p, vs, rfl, hp, q⟩ := h.lst e
    obtain rfl : (!l.isEmpty) = k := by simpa [tru] using r
    refine .inl ⟨vs, SqL.of hp, ?_⟩
    cases q <;> rfl
  | tup l =>
    obtain ⟨p, vs, rfl, hp, q⟩ := h.tup
    obtain rfl : (!l.isEmpty) = k := by simpa [tru] using r
    refine .inr (.inl ⟨vs, SqT.of (e _ _ hp), ?_⟩)
    cases q <;> rfl
  | _ => cases r
/-- from the value to the test, where the machine asks for the value's truth -/
theorem tx_of_ex (hG : Good T c G Γ X) {e : Expr} {f : Env → R A} (he : ∀ whole, isTrue e X.env whole = (do let v ← whole; standAt e.pos; holding [v] (truthy v))) (h : EX G X W e f) : TX G X W e (fun ρ => truA ρ (f ρ)) := by
  obtain ⟨t, p, q⟩ := h
  refine ⟨_, pt_truth p he, fun σ H F ρ Q S w => ?_⟩
  refine q σ H F ρ _ S (PT'.bindE w fun a v F1 H1 e1 r1 w1 => ?_)
  have S1 := S.ext e1
  obtain ⟨d, rd, w1⟩ := PT'.pure (rdA_mild a) w1
  cases q : tru d with
  | ok k =>
    rw [q] at w1
    exact ⟨k, by rw [hG.K]; exact tru_of S1.sub (r1.vw S1 rd) q, w1 F1 H1 (Ext.refl S1.sub)⟩
  | exc c d' => have := tru_mild d; rw [q] at this; exact this.elim
  | bad => rw [q] at w1; exact w1.elim
theorem istrue_head {e : Expr} (h : okHead e = true) (n : ∀ x p, e ≠ .UnaryOp .Not x p) (b : ∀ o l p, e ≠ .BoolOp o l p) (k : ∀ l o r p, e ≠ .Compare l o r p) (i : ∀ t x y p, e ≠ .IfExp t x y p) (env : PySem.Env) :
    ∀ whole, isTrue e env whole = (do let v ← whole; standAt e.pos; holding [v] (truthy v)) := by
  intro whole
  cases e with
  | UnaryOp o x p => cases o <;> first | rfl | exact absurd rfl (n _ _)
  | BoolOp o l p => exact absurd rfl (b _ _ _)
  | Compare l o r p => exact absurd rfl (k _ _ _ _)
  | IfExp t x y p => exact absurd rfl (i _ _ _ _)
  | _ => first | rfl | cases h
/-- PT of a BoolOp does not look at its whole -/
theorem pw_of_pt {o : BoolOp} {l : List Expr} {p : Pos} {t : TT} (h : PT X (.BoolOp o l p) t) : PW X (.BoolOp o l p) t := ⟨fun _ pins s σ H Q I w => h.run pins s σ H Q I w⟩

/-! ### operations -/
theorem PE'.fin {Q : VK} {d : D} {v : V} (e : Same F H) (h : PE' G W σ ρ F H Q (.ok (.sh d))) (r : Rp G F v d) : Q v H := h v F H (Ext.refl e) r
/-- two operands and an operation -/
theorem ex_two {X : Cx} {a b e : Expr} {fa fb : Env → R A} {op : D → D → R A} {r : R2} (ha : EX G X W a fa) (hb : EX G X W b fb)
    (pe : ∀ ta tb, PE X a ta → PE X b tb → PE X e (tOp r ta tb)) (hm : ∀ x y, (op x y).mild) (hr : ∀ x y H Q, r2D G op x y H Q → r x y H Q) :
    EX G X W e (fun ρ => (fa ρ).bind fun x => (fb ρ).bind fun y => (rdA ρ x).bind fun x => (rdA ρ y).bind fun y => op x y) := by
  obtain ⟨ta, pa, qa⟩ := ha
  obtain ⟨tb, pb, qb⟩ := hb
  refine ⟨_, pe ta tb pa pb, fun σ H F ρ Q S w => ?_⟩
  refine qa σ H F ρ _ S (PE'.bind w fun x v F1 H1 e1 r1 w1 => ?_)
  have S1 := S.ext e1
  refine qb σ H1 F1 ρ _ S1 (PE'.bind w1 fun y u F2 H2 e2 r2 w2 => ?_)
  have S2 := S1.ext e2
  obtain ⟨dx, hx, w2⟩ := PE'.pure (rdA_mild x) w2
  obtain ⟨dy, hy, w2⟩ := PE'.pure (rdA_mild y) w2
  exact hr _ _ _ _ ⟨F2, dx, dy, S2.sub, (r1.vw S1 hx).ext e2, r2.vw S2 hy, w2.pv (hm _ _)⟩
theorem opB_of {f : Value → Value → Sem Value} {op : D → D → R Bool} (h : OpR X f (r2B G op)) : OpR X f (r2D G fun a b => (op a b).bind fun k => .ok (.sh (.bl k))) := by
  intro pins s σ H x y v u Q I rx ry ⟨F, dx, dy, e, vx, vy, w⟩
  cases q : op dx dy with
  | ok k =>
    have w' : PV G F H Q ((op dx dy).bind fun k => .ok (.sh (.bl k))) := w
    rw [q] at w'
    exact h pins s σ H x y v u Q I rx ry ⟨F, dx, dy, k, e, vx, vy, q, PV.here e w' (.bl k)⟩
  | exc c d =>
    have w' : PV G F H Q ((op dx dy).bind fun k => .ok (.sh (.bl k))) := w
    rw [q] at w'; exact w'.elim
  | bad =>
    have w' : PV G F H Q ((op dx dy).bind fun k => .ok (.sh (.bl k))) := w
    rw [q] at w'; exact w'.elim
/-- subscripts -/
theorem ix_D (hK : X.K = G.K) : IxR X (r2D G fun a b => (ixD a b).bind fun d => .ok (.sh d)) := by
  intro value slice pins s σ H x y v u Q I rx ry ⟨F, dx, dy, e, vx, vy, w⟩ hs
  have w' : PV G F H Q ((ixD dx dy).bind fun d => .ok (.sh d)) := w
  have hm := ixD_mild dx dy
  cases q : ixD dx dy with
  | exc c d => rw [q] at hm; exact hm.elim
  | bad => rw [q] at w'; exact w'.elim
  | ok d =>
    rw [q, R.bind_ok] at w'
    have seq : ∀ {l : List D} {i : Int} {vs : List V}, Rps G F vs l → (match atI l i with | some d => R.ok d | none => .bad) = .ok d → ∃ z, atI vs i = some z ∧ Rp G F z d := by
      intro l i vs r z
      cases hz : atI l i with
      | none => rw [hz] at z; cases z
      | some d' =>
        rw [hz] at z
        obtain rfl : d' = d := by simpa using z
        unfold atI at hz ⊢
        rw [r.length]
        cases hx : ixN l.length i with
        | none => rw [hx] at hz; cases hz
        | some j =>
          rw [hx] at hz
          exact r.get hz
    cases dy with
    | int i =>
      obtain rfl := vy.int
      cases dx with
      | lst l =>
        obtain ⟨p, vs, rfl, hp, r⟩ := vx.lst e
        obtain ⟨z, h1, h2⟩ := seq r q
        exact ix_list value slice pins s σ H _ _ v u Q I rx ry ⟨p, vs, i, z, rfl, rfl, SqL.of hp, h1, w'.here e h2⟩ hs
      | lfz l =>
        obtain ⟨p, vs, rfl, hp, r⟩ := vx.lfz
        obtain ⟨z, h1, h2⟩ := seq r q
        exact ix_list value slice pins s σ H _ _ v u Q I rx ry ⟨p, vs, i, z, rfl, rfl, hK ▸ e.seq hp, h1, w'.here e h2⟩ hs
      | tup l =>
        obtain ⟨p, vs, rfl, hp, r⟩ := vx.tup
        obtain ⟨z, h1, h2⟩ := seq r q
        exact ix_tup value slice pins s σ H _ _ v u Q I rx ry ⟨p, vs, i, z, rfl, rfl, SqT.of (e _ _ hp), h1, w'.here e h2⟩ hs
      | str l =>
        obtain ⟨x, rfl, rfl, hx⟩ := vx.str
        have q' : (if x.cps.toList.length ≤ 16777216 then (match atI x.cps.toList i with | some c => R.ok (D.str [c]) | none => .bad) else .bad) = .ok d := q
        split at q'
        · rename_i hl
          cases hz : atI x.cps.toList i with
          | none => rw [hz] at q'; cases q'
          | some k =>
            rw [hz] at q'
            obtain rfl : D.str [k] = d := by simpa using q'
            have ok : PyData.strOk ⟨#[k]⟩ = true := strOk_mem.mpr fun z hz' => by
              obtain rfl : z = k := by simpa using hz'
              refine strOk_mem.mp hx z ?_
              unfold atI at hz
              cases hj : ixN x.cps.toList.length i with
              | none => rw [hj] at hz; cases hz
              | some j => rw [hj] at hz; exact List.mem_of_getElem? hz
            exact ix_str value slice pins s σ H _ _ v u Q I rx ry ⟨x, i, k, rfl, rfl, by rw [len_cps, sizeLine_eq]; exact hl, hz, w'.here e (rp_str rfl ok)⟩ hs
        · cases q'
      | _ => cases q
    | _ => cases dx <;> cases q
/-- slices -/
theorem cutS_cps (z : Str) (lo hi : Option Int) : (cutS z lo hi).cps.toList = cutL z.cps.toList lo hi := by
  unfold cutS cutL
  simp [Str.length]
theorem cut_rps {vs : List V} {ds : List D} (r : Rps G F vs ds) (lo hi : Option Int) : Rps G F (cutV vs lo hi) (cutL ds lo hi) := by
  unfold cutV cutL
  rw [r.length]
  exact (r.drop _).take _
def r1S (G : Gx) : V → Option Int → Option Int → Hp → VK → Prop := fun x lo hi H Q => ∃ F dx, Same F H ∧ Vw G F H x dx ∧ PV G F H Q (slD dx lo hi)
theorem sl_D (hK : X.K = G.K) : SlR X (r1S G) := by
  intro pins s σ H x v vl vu lo hi sl Q I rx hs pl pu ⟨F, dx, e, vx, w⟩
  cases dx with
  | lst l =>
    obtain ⟨p, vs, rfl, hp, r⟩ := vx.lst e
    exact sl_list pins s σ H _ v vl vu lo hi sl Q I rx hs pl pu ⟨p, vs, rfl, SqL.of hp, fun q n => PV.lstN e w (cut_rps r lo hi) n⟩
  | lfz l =>
    obtain ⟨p, vs, rfl, hp, r⟩ := vx.lfz
    exact sl_list pins s σ H _ v vl vu lo hi sl Q I rx hs pl pu ⟨p, vs, rfl, hK ▸ e.seq hp, fun q n => PV.lstN e w (cut_rps r lo hi) n⟩
  | tup l =>
    obtain ⟨p, vs, rfl, hp, r⟩ := vx.tup
    refine sl_tupA pins s σ H _ v vl vu lo hi sl Q I rx hs pl pu ⟨p, vs, rfl, SqT.of (e _ _ hp), fun z => ?_, fun _ q n => PV.tupN e w (cut_rps r lo hi) n⟩
    refine PV.here e w (.tup hp ?_)
    have q := cut_rps r lo hi
    have e1 : cutV vs lo hi = vs := by
      unfold cutV
      rw [z.1, z.2]; simp
    rw [e1] at q
    exact q
  | str l =>
    obtain ⟨x, rfl, rfl, hx⟩ := vx.str
    have w' : PV G F H Q (if x.cps.toList.length ≤ 16777216 then .ok (.sh (.str (cutL x.cps.toList lo hi))) else .bad) := w
    split at w'
    · rename_i hl
      refine sl_str pins s σ H _ v vl vu lo hi sl Q I rx hs pl pu ⟨x, rfl, by rw [len_cps, sizeLine_eq]; exact hl, w'.here e (rp_str (cutS_cps x lo hi) (strOk_mem.mpr fun z hz => ?_))⟩
      rw [cutS_cps] at hz
      exact strOk_mem.mp hx z (List.mem_of_mem_drop (List.mem_of_mem_take hz))
    · exact w'.elim
  | _ => exact w.elim
end
end Z
/-! Built-in calls, calls of defs, displays; expressions as a whole. -/
namespace Z
open PySem PySem.Spec L2
section
variable {T : Tab} {c : Cc} {G : Gx} {Γ : Fn} {X : Cx} {W : WX} {σ : St} {ρ : Env} {F H F1 H1 F2 H2 : Hp}
def rBif (G : Gx) (f : Bf) : List V → Hp → VK → Prop := fun xs H Q => ∃ F ds, Same F H ∧ Vws G F H xs ds ∧ PV G F H Q (bifD f ds)
theorem vws1 {xs : List V} {d : D} (h : Vws G F H xs [d]) : ∃ v, xs = [v] ∧ Vw G F H v d := by
  cases h with
  | cons h r => cases r; exact ⟨_, rfl, h⟩
theorem vws2 {xs : List V} {d e : D} (h : Vws G F H xs [d, e]) : ∃ v w, xs = [v, w] ∧ Vw G F H v d ∧ Vw G F H w e := by
  cases h with
  | cons h r => cases r with
    | cons h2 r => cases r; exact ⟨_, _, rfl, h, h2⟩
/-- a built-in of one argument, of two -/
theorem bif_call {f : Bf} {g : Value}
    (h1 : ∀ pins s σ H v d F us Q, Inv X pins σ H s → Vals [v] us → Same F H → Vw G F H v d → PV G F H Q (bif1 f d) → wpAny (model X.prog X.w) X.A (PySem.call g us) (EP X pins σ Q) X.xe s)
    (h2 : ∀ pins s σ H v w d e F us Q, Inv X pins σ H s → Vals [v, w] us → Same F H → Vw G F H v d → Vw G F H w e → PV G F H Q (bif2 f d e) → wpAny (model X.prog X.w) X.A (PySem.call g us) (EP X pins σ Q) X.xe s) : CallR X g (rBif G f) := by
  intro pins s σ H xs us Q I r ⟨F, ds, e, vs, w⟩
  match ds, w with
  | [], w => exact w.elim
  | [d], w =>
    obtain ⟨v, rfl, h⟩ := vws1 vs
    exact h1 pins s σ H v d F us Q I r e h w
  | [d, d'], w =>
    obtain ⟨v, v', rfl, h, h'⟩ := vws2 vs
    exact h2 pins s σ H v v' d d' F us Q I r e h h' w
  | _ :: _ :: _ :: _, w => exact w.elim
theorem bif_len (hK : X.K = G.K) : CallR X (.builtin "len") (rBif G .len) := bif_call (fun pins s σ H v d F us Q I r e h w => by
  have w' : PV G F H Q ((lenD d).bind fun x => .ok (.sh x)) := w
  cases d with
  | str l =>
    obtain ⟨x, rfl, rfl, hx⟩ := h.str
    have w2 : PV G F H Q ((if x.cps.toList.length ≤ 16777216 then R.ok (D.int x.cps.toList.length) else .bad).bind fun x => .ok (.sh x)) := w'
    split at w2
    · rename_i hl
      exact call_len_str pins s σ H _ us Q I r ⟨x, rfl, by rw [len_cps, sizeLine_eq]; exact hl, by rw [len_cps]; exact w2.here e (.int _)⟩
    · exact w2.elim
  | lst l =>
    obtain ⟨p, ys, rfl, hp, q⟩ := h.lst e
    exact call_len_seq pins s σ H _ us Q I r ⟨p, ys, rfl, .inl (SqL.of hp), by rw [q.length]; exact w'.here e (.int _)⟩
  | lfz l =>
    obtain ⟨p, ys, rfl, hp, q⟩ := h.lfz
    exact call_len_seq pins s σ H _ us Q I r ⟨p, ys, rfl, .inl (hK ▸ e.seq hp), by rw [q.length]; exact w'.here e (.int _)⟩
  | tup l =>
    obtain ⟨p, ys, rfl, hp, q⟩ := h.tup
    exact call_len_seq pins s σ H _ us Q I r ⟨p, ys, rfl, .inr (SqT.of (e _ _ hp)), by rw [q.length]; exact w'.here e (.int _)⟩
  | _ => exact w'.elim) (fun pins s σ H v v' d e F us Q I r _ _ _ w => w.elim)
theorem bif_max (hc : X.calm = true) : CallR X (.builtin "max") (rBif G .max) := bif_call (fun pins s σ H v d F us Q I r _ _ w => by cases d <;> exact w.elim) (fun pins s σ H v v' d d' F us Q I r e h1 h2 w => by
  cases d <;> first | exact w.elim | skip
  cases d' <;> first | exact w.elim | skip
  obtain rfl := h1.int; obtain rfl := h2.int
  exact call_max2 hc pins s σ H _ us Q I r ⟨_, _, rfl, PV.here e w (.int _)⟩)
theorem bif_min (hc : X.calm = true) : CallR X (.builtin "min") (rBif G .min) := bif_call (fun pins s σ H v d F us Q I r _ _ w => by cases d <;> exact w.elim) (fun pins s σ H v v' d d' F us Q I r e h1 h2 w => by
  cases d <;> first | exact w.elim | skip
  cases d' <;> first | exact w.elim | skip
  obtain rfl := h1.int; obtain rfl := h2.int
  exact call_min2 hc pins s σ H _ us Q I r ⟨_, _, rfl, PV.here e w (.int _)⟩)
theorem bif_list (hK : X.K = G.K) : CallR X (.type "list") (rBif G .list) := bif_call (fun pins s σ H v d F us Q I r e h w => by
  cases d with
  | lst l =>
    obtain ⟨p, ys, rfl, hp, q⟩ := h.lst e
    exact call_list_of pins s σ H _ us Q I r ⟨p, ys, rfl, .inl (SqL.of hp), fun l n => PV.lstN e w q n⟩
  | lfz l =>
    obtain ⟨p, ys, rfl, hp, q⟩ := h.lfz
    exact call_list_of pins s σ H _ us Q I r ⟨p, ys, rfl, .inl (hK ▸ e.seq hp), fun l n => PV.lstN e w q n⟩
  | tup l =>
    obtain ⟨p, ys, rfl, hp, q⟩ := h.tup
    exact call_list_of pins s σ H _ us Q I r ⟨p, ys, rfl, .inr (SqT.of (e _ _ hp)), fun l n => PV.lstN e w q n⟩
  | _ => exact w.elim) (fun pins s σ H v v' d e F us Q I r _ _ _ w => w.elim)
theorem bif_tuple (hK : X.K = G.K) : CallR X (.type "tuple") (rBif G .tuple) := bif_call (fun pins s σ H v d F us Q I r e h w => by
  cases d with
  | lst l =>
    obtain ⟨p, ys, rfl, hp, q⟩ := h.lst e
    exact call_tuple_of pins s σ H _ us Q I r ⟨p, ys, rfl, .inl ⟨SqL.of hp, fun l n => PV.tupN e w q n⟩⟩
  | lfz l =>
    obtain ⟨p, ys, rfl, hp, q⟩ := h.lfz
    exact call_tuple_of pins s σ H _ us Q I r ⟨p, ys, rfl, .inl ⟨hK ▸ e.seq hp, fun l n => PV.tupN e w q n⟩⟩
  | tup l =>
    obtain ⟨p, ys, rfl, hp, q⟩ := h.tup
    exact call_tuple_of pins s σ H _ us Q I r ⟨p, ys, rfl, .inr ⟨SqT.of (e _ _ hp), PV.here e w (.tup hp q)⟩⟩
  | _ => exact w.elim) (fun pins s σ H v v' d e F us Q I r _ _ _ w => w.elim)
theorem strInt_cps (i : Int) : ((toString i : String) : Str).cps.toList = strInt i := by
  rw [PySem.Str.ofString_eq_toList]; rfl
theorem strOk_string (s : String) : PyData.strOk (s : Str) = true := strOk_mem.mpr fun c hc => by
  rw [PySem.Str.ofString_eq_toList] at hc
  obtain ⟨ch, _, rfl⟩ := List.mem_map.mp hc
  have h := ch.valid
  have h2 : ch.toNat < 0x110000 := by
    rcases h with h | h
    · exact Nat.lt_trans h (by decide)
    · exact h.2
  exact h2
theorem bif_str : CallR X (.type "str") (rBif G .str) := bif_call (fun pins s σ H v d F us Q I r e h w => by
  cases d with
  | int i =>
    obtain rfl := h.int
    have w' : PV G F H Q (if i.natAbs.log2 < 1920 then .ok (.sh (.str (strInt i))) else .bad) := w
    split at w'
    · rename_i hl
      exact call_str_int pins s σ H _ us Q I r ⟨i, rfl, hl, w'.here e (rp_str (strInt_cps i) (strOk_string _))⟩
    · exact w'.elim
  | _ => exact w.elim) (fun pins s σ H v v' d e F us Q I r _ _ _ w => w.elim)
theorem bif_none {f : Bf} {g : Value} (h1 : ∀ d, bif1 f d = .bad) (h2 : ∀ d e, bif2 f d e = .bad) : CallR X g (rBif G f) :=
  bif_call (fun pins s σ H v d F us Q I r _ _ w => by rw [h1] at w; exact w.elim) (fun pins s σ H v v' d e F us Q I r _ _ _ w => by rw [h2] at w; exact w.elim)
/-- what a built-in's name stands for -/
theorem bif_ok (hG : Good T c G Γ X) (f : Bf) : (∃ id, bootBuiltins (bifN f) = some (.builtin id) ∧ CallR X (.builtin id) (rBif G f)) ∨ ∃ n, bootBuiltins (bifN f) = some (.type n) ∧ CallR X (.type n) (rBif G f) := by
  cases f with
  | len => exact .inl ⟨_, boot_len, bif_len hG.K⟩
  | list => exact .inr ⟨"list", by decide +kernel, bif_list hG.K⟩
  | tuple => exact .inr ⟨"tuple", by decide +kernel, bif_tuple hG.K⟩
  | max => exact .inl ⟨"max", by decide +kernel, bif_max hG.calm⟩
  | min => exact .inl ⟨"min", by decide +kernel, bif_min hG.calm⟩
  | str => exact .inr ⟨"str", by decide +kernel, bif_str⟩
  | sorted => exact .inl ⟨"sorted", by decide +kernel, bif_none (fun d => rfl) fun _ _ => rfl⟩
  | all => exact .inl ⟨"all", by decide +kernel, bif_none (fun d => rfl) fun _ _ => rfl⟩
  | any => exact .inl ⟨"any", by decide +kernel, bif_none (fun d => rfl) fun _ _ => rfl⟩
  | set => exact .inr ⟨"set", by decide +kernel, bif_none (fun d => rfl) fun _ _ => rfl⟩
  | sum => exact .inl ⟨"sum", by decide +kernel, bif_none (fun d => rfl) fun _ _ => rfl⟩
  | int => exact .inr ⟨"int", by decide +kernel, bif_none (fun d => rfl) fun _ _ => rfl⟩
  | dict => exact .inr ⟨"dict", by decide +kernel, bif_none (fun d => rfl) fun _ _ => rfl⟩
  | bool => exact .inr ⟨"bool", by decide +kernel, bif_none (fun d => rfl) fun _ _ => rfl⟩
theorem bif_mild (f : Bf) (ds : List D) : (bifD f ds).mild := by
  match ds with
  | [] => trivial
  | [d] => cases f <;> cases d <;> first | trivial | exact mild_bind (lenD_mild _) fun _ => mild_ok _ | exact mild_ite (mild_ok _) mild_bad
  | [d, e] => cases f <;> cases d <;> cases e <;> trivial
  | _ :: _ :: _ :: _ => trivial
/-! ### isinstance -/
theorem tyX_of {v : V} {d : D} (e : Same F H) (h : Vw G F H v d) : ∀ n, tyD d = some n → TyX G.K H v (.type n) := by
  intro n hn
  cases d with
  | non => obtain rfl := h.non; cases hn; exact .base .non
  | bl b => obtain rfl := h.bl; cases hn; exact .base (.bl b)
  | int i => obtain rfl := h.int; cases hn; exact .base (.int i)
  | str l => obtain ⟨x, rfl, _⟩ := h.str; cases hn; exact .base (.str x)
  | tup l => obtain ⟨p, vs, rfl, hp, _⟩ := h.tup; cases hn; exact .base (.tup (e _ _ hp))
  | lst l => obtain ⟨p, vs, rfl, hp, _⟩ := h.lst e; cases hn; exact .base (.lst hp)
  | _ => cases hn
theorem isi_kit {d : D} {t : Ty} {k : Bool} {n : String} (h : isiD d t = .ok k) (hn : tyN t = some n) : ∃ m, tyD d = some m ∧ kitB m n = some k := by
  cases t <;> first | cases hn | skip
  all_goals (cases d <;> first | cases h | skip)
  all_goals exact ⟨_, rfl, by decide +kernel⟩
theorem isiD_mild (d : D) (t : Ty) : (isiD d t).mild := by cases t <;> cases d <;> trivial
/-! ### a call of a def -/
def HO.noTup : HO → Bool
  | .tup _ => false
  | _ => true
/-- the arguments of a call, frozen for its time -/
theorem args_frz (S : Stt G F1 ρ σ H1) (sub : Same H H1) : ∀ {vs : List V} {as : List A} {ds : List D}, RAs G σ ρ H F1 H1 vs as → rds ρ as = .ok ds →
    ∃ F0, Same F1 F0 ∧ Same F0 H1 ∧ Rps G F0 vs ds ∧ ∀ b, F0 b = F1 b ∨ (F1 b = none ∧ ∃ o, F0 b = some o ∧ HO.noTup o = true ∧ (H b = none ∨ as.any A.isBo = true))
  | _, _, ds, .nil, r => by
    obtain rfl : [] = ds := by simpa [rds] using r
    exact ⟨F1, Same.refl _, S.sub, .nil, fun b => .inl rfl⟩
  | _, _, ds, .cons (v := v) (a := a) (as := as) (vs := vs) h q, r => by
    obtain ⟨d, r1, r⟩ := R.bind_eq r
    obtain ⟨ds', r2, r⟩ := R.bind_eq r
    obtain rfl : d :: ds' = ds := by simpa using r
    obtain ⟨F0, e1, e2, q2, e3⟩ := args_frz S sub q r2
    have e3' : ∀ b, F0 b = F1 b ∨ (F1 b = none ∧ ∃ o, F0 b = some o ∧ HO.noTup o = true ∧ (H b = none ∨ (a :: as).any A.isBo = true)) := fun b => by
      rcases e3 b with z | ⟨z1, o, z2, z3, z4⟩
      · exact .inl z
      · exact .inr ⟨z1, o, z2, z3, z4.imp id fun z => by rw [List.any_cons, z, Bool.or_true]⟩
    -- an own thing at p
    have own : ∀ (s : Z.S) (p : Addr), OwnsAt G F1 H1 p s → F1 p = none → (H p = none ∨ (a :: as).any A.isBo = true) → s.d = d → v = .ref p →
        ∃ F0, Same F1 F0 ∧ Same F0 H1 ∧ Rps G F0 (v :: vs) (d :: ds') ∧ ∀ b, F0 b = F1 b ∨ (F1 b = none ∧ ∃ o, F0 b = some o ∧ HO.noTup o = true ∧ (H b = none ∨ (a :: as).any A.isBo = true)) := by
      intro s p ho hf hc hd hv
      subst hd hv
      obtain ⟨o, hp⟩ := ho.some
      have e4 : Same F0 (upd F0 p o) := fun b u z => by
        by_cases hb : b = p
        · subst hb
          have z' := e2 _ _ z
          rw [hp] at z'
          rw [upd_same, z']
        · rw [upd_ne hb]; exact z
      refine ⟨upd F0 p o, e1.trans e4, fun b u z => ?_, .cons ?_ (q2.mono e4), fun b => ?_⟩
      · by_cases hb : b = p
        · subst hb; rw [upd_same] at z; rw [hp]; exact z
        · rw [upd_ne hb] at z; exact e2 _ _ z
      · cases s with
        | sh d => exact ho.elim
        | li l =>
          obtain ⟨vs, hv, q⟩ := ho
          rw [hv] at hp; cases hp
          exact .lst upd_same (q.mono (e1.trans e4))
        | di l =>
          rcases ho with ⟨k, hv, q⟩ | ⟨k, hv, q⟩
          · rw [hv] at hp; cases hp
            exact .dic (.of upd_same) (q.mono (e1.trans e4))
          · rw [hv] at hp; cases hp
            exact .dit (.of upd_same) (q.mono (e1.trans e4))
      · by_cases hb : b = p
        · subst hb
          refine .inr ⟨hf, o, upd_same, ?_, hc⟩
          cases s with
          | sh d => exact ho.elim
          | li l => obtain ⟨vs, hv, _⟩ := ho; rw [hv] at hp; cases hp; rfl
          | di l =>
            rcases ho with ⟨k, hv, _⟩ | ⟨k, hv, _⟩ <;> (rw [hv] at hp; cases hp; rfl)
        · rw [upd_ne hb]; exact e3' b
    cases a with
    | sh d' =>
      obtain rfl : d' = d := by simpa [rdA] using r1
      exact ⟨F0, e1, e2, .cons (Rp.mono e1 h) q2, e3'⟩
    | ow s =>
      obtain ⟨p, hv, h0, hf, ho⟩ := h
      exact own s p ho hf (.inl h0) (by simpa [rdA] using r1) hv
    | bo i =>
      obtain ⟨s, p, h1, h2, h3, hv⟩ := h
      obtain ⟨p', h4, hf, ho⟩ := S.ow i s h1 h2
      rw [h3] at h4
      cases h4
      exact own s p ho hf (.inr rfl) (by simpa [rdA, h1] using r1) hv
mutual
theorem Rp.flat (k : ∀ a xs, F a = some (.tup xs) → F1 a = some (.tup xs)) : ∀ {v : V} {d : D}, Rp G F v d → d.flat = true → Rp G F1 v d
  | _, _, .non, _ => .non
  | _, _, .bl b, _ => .bl b
  | _, _, .int i, _ => .int i
  | _, _, .str x h, _ => .str x h
  | _, _, .tup (ds := ds) h r, p => .tup (k _ _ h) (Rps.flat k r (show flats ds = true from p))
  | _, _, .lst h r, p => by cases p
  | _, _, .lfz h r, p => by cases p
  | _, _, .tuk h r, p => by cases p
  | _, _, .dic h r, p => by cases p
  | _, _, .dit h r, p => by cases p
  | _, _, .obj (c := c) h r, p => by cases p
theorem Rps.flat (k : ∀ a xs, F a = some (.tup xs) → F1 a = some (.tup xs)) : ∀ {vs : List V} {ds : List D}, Rps G F vs ds → flats ds = true → Rps G F1 vs ds
  | _, _, .nil, _ => .nil
  | _, _, .cons (d := d) (ds := ds) h r, p => by
    have p' : (d.flat && flats ds) = true := p
    rw [Bool.and_eq_true] at p'
    exact .cons (Rp.flat k h p'.1) (Rps.flat k r p'.2)
end
/-- behind the call: what is frozen for the caller -/
def back (F1 H F' : Hp) : Hp := fun b => match H b with
  | some _ => F1 b
  | none => F' b
theorem back_some {b : Addr} {o : HO} (h : H b = some o) : back F1 H F2 b = F1 b := by unfold back; rw [h]
theorem back_none {b : Addr} (h : H b = none) : back F1 H F2 b = F2 b := by unfold back; rw [h]
theorem call_back {as : List A} {r : R A} {Q : VK} {F0 : Hp} {W : WX} {ρ : Env} (e : Ext F H F1 H1) (e1 : Same F1 F0) (e2 : Same F0 H1) (e3 : ∀ b, F0 b = F1 b ∨ (F1 b = none ∧ ∃ o, F0 b = some o ∧ HO.noTup o = true ∧ (H b = none ∨ as.any A.isBo = true)))
    (w : PE' G W σ ρ F H Q (lent as r)) : CP G F0 H1 Q (WE W σ) r := by
  have key : ∀ {F' H'}, Ext F0 H1 F' H' → Ext F H (back F1 H F') H' := fun {F' H'} x => by
    refine ⟨fun b o z => ?_, e.hh.trans x.hh, fun b o z => ?_, fun b o z1 z2 => ?_⟩
    · have z1 := e.ff _ _ z
      cases q : H b with
      | some u => rw [back_some q]; exact z1
      | none => rw [back_none q]; exact x.ff _ _ (e1 _ _ z1)
    · cases q : H b with
      | some u => rw [back_some q] at z; exact x.hh _ _ (e2 _ _ (e1 _ _ z))
      | none => rw [back_none q] at z; exact x.fh _ _ z
    · rw [back_some z1]; exact e.nw _ _ z1 z2
  have tups : ∀ {F' H'}, Ext F0 H1 F' H' → ∀ a xs, F' a = some (.tup xs) → back F1 H F' a = some (.tup xs) := fun {F' H'} x a xs z => by
    cases q : H a with
    | none => rw [back_none q]; exact z
    | some u =>
      rw [back_some q]
      rcases e3 a with y | ⟨y1, o, y2, y3, y4⟩
      · cases z1 : F1 a with
        | some o =>
          rw [z1] at y
          rw [x.ff _ _ y] at z
          exact z
        | none =>
          rw [z1] at y
          have := x.nw a u (e.hh _ _ q) y
          rw [this] at z; cases z
      · rw [x.ff _ _ y2] at z
        cases z
        cases y3
  have same : as.any A.isBo = false → ∀ {F' H'}, Ext F0 H1 F' H' → Same F' (back F1 H F') := fun nb {F' H'} x a o z => by
    cases q : H a with
    | none => rw [back_none q]; exact z
    | some u =>
      rw [back_some q]
      rcases e3 a with y | ⟨y1, o', y2, y3, y4⟩
      · cases z1 : F1 a with
        | some o2 =>
          rw [z1] at y
          rw [x.ff _ _ y] at z
          exact z
        | none =>
          rw [z1] at y
          have := x.nw a u (e.hh _ _ q) y
          rw [this] at z; cases z
      · rcases y4 with y4 | y4
        · rw [q] at y4; cases y4
        · rw [nb] at y4; cases y4
  have fr : ∀ {p : Addr} {F'}, H1 p = none → F' p = none → back F1 H F' p = none := fun {p F'} z1 z2 => by
    rw [back_none (e.hh.free z1)]; exact z2
  cases r with
  | exc cc d =>
    intro F' H' dd v x hd q
    have w' : PE' G W σ ρ F H Q (if (as.any A.isBo && !d.flat) = true then .bad else .exc cc d) := w
    split at w'
    · exact w'.elim
    · rename_i nb
      refine w' _ _ dd v (key x) hd ?_
      by_cases b : as.any A.isBo = true
      · rw [b, Bool.true_and] at nb
        exact Rp.flat (tups x) q (by simpa using nb)
      · exact Rp.mono (same (by simpa using b) x) q
  | bad => exact w
  | ok a =>
    intro v F' H' x q
    cases a with
    | bo i => exact q.elim
    | sh d =>
      have w' : PE' G W σ ρ F H Q (if (as.any A.isBo && !d.flat) = true then .bad else .ok (.sh d)) := w
      split at w'
      · exact w'.elim
      · rename_i nb
        refine w' v _ _ (key x) ?_
        by_cases b : as.any A.isBo = true
        · rw [b, Bool.true_and] at nb
          exact Rp.flat (tups x) q (by simpa using nb)
        · exact Rp.mono (same (by simpa using b) x) q
    | ow s =>
      obtain ⟨p, rfl, hp, hf, ho⟩ := q
      cases s with
      | sh d => exact ho.elim
      | li l =>
        have w' : PE' G W σ ρ F H Q (if (as.any A.isBo && !flats l) = true then .bad else .ok (.ow (.li l))) := w
        split at w'
        · exact w'.elim
        · rename_i nb
          obtain ⟨vs, hv, q⟩ := ho
          refine w' _ _ _ (key x) ⟨p, rfl, e.hh.free hp, fr hp hf, vs, hv, ?_⟩
          by_cases b : as.any A.isBo = true
          · rw [b, Bool.true_and] at nb
            exact Rps.flat (tups x) q (by simpa using nb)
          · exact Rps.mono (same (by simpa using b) x) q
      | di l =>
        have w' : PE' G W σ ρ F H Q (if as.any A.isBo = true then .bad else .ok (.ow (.di l))) := w
        split at w'
        · exact w'.elim
        · rename_i nb
          refine w' _ _ _ (key x) ⟨p, rfl, e.hh.free hp, fr hp hf, ?_⟩
          have sm := same (by simpa using nb) x
          exact ho.mono sm fun _ z => z
end
end Z
/-! Expressions as a whole. -/
namespace Z
open PySem PySem.Spec L2
section
variable {T : Tab} {c : Cc} {G : Gx} {Γ : Fn} {X : Cx} {W : WX}
theorem and_bool {a b : Bool} (h : (a && b) = true) : a = true ∧ b = true := by rwa [Bool.and_eq_true] at h
/-- an expression as a value and as a test -/
def VX (G : Gx) (X : Cx) (W : WX) (e : Expr) (f : Env → R A) : Prop := EX G X W e f ∧ TX G X W e (fun ρ => truA ρ (f ρ))
theorem vx_of (hG : Good T c G Γ X) {e : Expr} {f : Env → R A} (h : okHead e = true) (n : ∀ x p, e ≠ .UnaryOp .Not x p) (b : ∀ o l p, e ≠ .BoolOp o l p) (k : ∀ l o r p, e ≠ .Compare l o r p) (i : ∀ t x y p, e ≠ .IfExp t x y p) (he : EX G X W e f) : VX G X W e f :=
  ⟨he, tx_of_ex hG (istrue_head h n b k i _) he⟩
theorem ex_congr {e : Expr} {f g : Env → R A} (h : EX G X W e f) (q : ∀ ρ, f ρ = g ρ) : EX G X W e g := (funext q : f = g) ▸ h
theorem tx_congr {e : Expr} {f g : Env → R Bool} (h : TX G X W e f) (q : ∀ ρ, f ρ = g ρ) : TX G X W e g := (funext q : f = g) ▸ h
theorem vx_congr {e : Expr} {f g : Env → R A} (h : VX G X W e f) (q : ∀ ρ, f ρ = g ρ) : VX G X W e g := (funext q : f = g) ▸ h
theorem ax_congr {e : List Expr} {f g : Env → R (List A)} (h : AX G X W e f) (q : ∀ ρ, f ρ = g ρ) : AX G X W e g := (funext q : f = g) ▸ h
theorem ox_congr {e : Option Expr} {f g : Env → R (Option Int)} (h : OX G X W e f) (q : ∀ ρ, f ρ = g ρ) : OX G X W e g := (funext q : f = g) ▸ h
/-- what is data at once -/
theorem ex_data {e : Expr} {d : D} {v : V} (p : PE X e (tC v)) (r : ∀ F, Rp G F v d) : EX G X W e (fun _ => .ok (.sh d)) :=
  ⟨_, p, fun σ H F ρ Q S w => w v F H (Ext.refl S.sub) (r F)⟩
theorem PT'.imp {σ : St} {F H : Hp} {Q Q' : Bool → Hp → Prop} {r : R Bool} (w : PT' G W σ F H Q r) (h : ∀ k H', Q k H' → Q' k H') : PT' G W σ F H Q' r := by
  cases r with
  | ok k => exact fun F' H' e => h _ _ (w F' H' e)
  | exc c d => exact w
  | bad => exact w
theorem truA_bl {ρ : Env} {x : R Bool} : truA ρ (x.bind fun k => .ok (.sh (.bl k))) = x := by cases x <;> rfl
/-- a comparison is a bool: as a test it is the same -/
theorem tx_two {a b e : Expr} {fa fb : Env → R A} {op : D → D → R Bool} {r : R2} (ha : EX G X W a fa) (hb : EX G X W b fb)
    (pt : ∀ ta tb, PE X a ta → PE X b tb → PT X e (tTest (tOp r ta tb))) (hm : ∀ x y, (op x y).mild) (hr : ∀ x y H Q, r2B G op x y H Q → r x y H Q) :
    TX G X W e (fun ρ => (fa ρ).bind fun x => (fb ρ).bind fun y => (rdA ρ x).bind fun x => (rdA ρ y).bind fun y => op x y) := by
  obtain ⟨ta, pa, qa⟩ := ha
  obtain ⟨tb, pb, qb⟩ := hb
  refine ⟨_, pt ta tb pa pb, fun σ H F ρ Q S w => ?_⟩
  refine qa σ H F ρ _ S (PT'.bindE w fun x v F1 H1 e1 r1 w1 => ?_)
  have S1 := S.ext e1
  refine qb σ H1 F1 ρ _ S1 (PT'.bindE w1 fun y u F2 H2 e2 r2 w2 => ?_)
  have S2 := S1.ext e2
  obtain ⟨dx, hx, w2⟩ := PT'.pure (rdA_mild x) w2
  obtain ⟨dy, hy, w2⟩ := PT'.pure (rdA_mild y) w2
  have m := hm dx dy
  cases q : op dx dy with
  | exc c d => rw [q] at m; exact m.elim
  | bad => rw [q] at w2; exact w2.elim
  | ok k =>
    rw [q] at w2
    exact hr _ _ _ _ ⟨F2, dx, dy, k, S2.sub, (r1.vw S1 hx).ext e2, r2.vw S2 hy, q, k, rfl, w2 F2 H2 (Ext.refl S2.sub)⟩
theorem vx_cmp (hG : Good T c G Γ X) {a b : Expr} {pos : Pos} {fa fb : Env → R A} {o : Cop} (hb' : okHead b = true) (ha : EX G X W a fa) (hb : EX G X W b fb) :
    VX G X W (.Compare a [copA o] [b] pos) (fun ρ => (fa ρ).bind fun x => (fb ρ).bind fun y => (rdA ρ x).bind fun x => (rdA ρ y).bind fun y => (cmpD o x y).bind fun k => .ok (.sh (.bl k))) := by
  refine ⟨ex_two ha hb (fun ta tb p q => pe_cmpR (opB_of (op_cmp_D hG.K hG.hu o)) p q (mark_head hb')) (fun x y => mild_bind (cmpD_mild o x y) fun _ => mild_ok _) (fun _ _ _ _ h => h), ?_⟩
  have conv : ∀ ρ, ((fa ρ).bind fun x => (fb ρ).bind fun y => (rdA ρ x).bind fun x => (rdA ρ y).bind fun y => (cmpD o x y).bind fun k => R.ok (A.sh (D.bl k))) =
      ((fa ρ).bind fun x => (fb ρ).bind fun y => (rdA ρ x).bind fun x => (rdA ρ y).bind fun y => cmpD o x y).bind fun k => R.ok (A.sh (D.bl k)) := fun ρ => by simp only [bind_assocR]
  exact tx_congr (tx_two ha hb (fun ta tb p q => pt_cmpR (op_cmp_D hG.K hG.hu o) p q (mark_head hb')) (cmpD_mild o) (fun _ _ _ _ h => h)) fun ρ => ((congrArg (truA ρ) (conv ρ)).trans truA_bl).symm
theorem vx_chn (hG : Good T c G Γ X) {a b d : Expr} {pos : Pos} {fa fb fd : Env → R A} {o p : Cop} (hb' : okHead b = true) (hd' : okHead d = true) (ha : EX G X W a fa) (hb : EX G X W b fb) (hd : EX G X W d fd) :
    VX G X W (.Compare a [copA o, copA p] [b, d] pos) (fun ρ => (fa ρ).bind fun x => (fb ρ).bind fun y => (rdA ρ x).bind fun x => (rdA ρ y).bind fun yd => (cmpD o x yd).bind fun k =>
      if k then (fd ρ).bind fun z => (rdA ρ z).bind fun z => (cmpD p yd z).bind fun k => .ok (.sh (.bl k)) else .ok (.sh (.bl false))) := by
  obtain ⟨ta, pa, qa⟩ := ha
  obtain ⟨tb, pb, qb⟩ := hb
  obtain ⟨td, pd, qd⟩ := hd
  have lm : lastMarks [copA o, copA p] [b, d] = false := by
    show behindInMarks (copA p) d = false
    exact mark_head hd'
  -- the reading, for a wish about a bool
  have core : ∀ σ H F ρ (Q : VK), Stt G F ρ σ H → PT' G W σ F H (fun k H' => Q (.bl k) H') ((fa ρ).bind fun x => (fb ρ).bind fun y => (rdA ρ x).bind fun x => (rdA ρ y).bind fun yd => (cmpD o x yd).bind fun k =>
      if k then (fd ρ).bind fun z => (rdA ρ z).bind fun z => cmpD p yd z else .ok false) → tChain (r2B G (cmpD o)) (r2B G (cmpD p)) ta tb td σ H Q := by
    intro σ H F ρ Q S w
    refine qa σ H F ρ _ S (PT'.bindE w fun x v F1 H1 e1 r1 w1 => ?_)
    have S1 := S.ext e1
    refine qb σ H1 F1 ρ _ S1 (PT'.bindE w1 fun y u F2 H2 e2 r2 w2 => ?_)
    have S2 := S1.ext e2
    obtain ⟨dx, hx, w2⟩ := PT'.pure (rdA_mild x) w2
    obtain ⟨dy, hy, w2⟩ := PT'.pure (rdA_mild y) w2
    obtain ⟨k, hk, w2⟩ := PT'.pure (cmpD_mild o dx dy) w2
    refine ⟨F2, dx, dy, k, S2.sub, (r1.vw S1 hx).ext e2, r2.vw S2 hy, hk, k, rfl, ?_⟩
    cases k with
    | false =>
      rw [if_neg Bool.false_ne_true]
      exact w2 F2 H2 (Ext.refl S2.sub)
    | true =>
      rw [if_pos rfl]
      have w2' : PT' G W σ F2 H2 (fun k H' => Q (.bl k) H') ((fd ρ).bind fun z => (rdA ρ z).bind fun z => cmpD p dy z) := w2
      refine qd σ H2 F2 ρ _ S2 (PT'.bindE w2' fun z t F3 H3 e3 r3 w3 => ?_)
      have S3 := S2.ext e3
      obtain ⟨dz, hz, w3⟩ := PT'.pure (rdA_mild z) w3
      have m := cmpD_mild p dy dz
      cases q : cmpD p dy dz with
      | exc c d => rw [q] at m; exact m.elim
      | bad => rw [q] at w3; exact w3.elim
      | ok k =>
        rw [q] at w3
        exact ⟨F3, dy, dz, k, S3.sub, (r2.vw S2 hy).ext e3, r3.vw S3 hz, q, w3 F3 H3 (Ext.refl S3.sub)⟩
  have conv : ∀ ρ, ((fa ρ).bind fun x => (fb ρ).bind fun y => (rdA ρ x).bind fun x => (rdA ρ y).bind fun yd => (cmpD o x yd).bind fun k =>
      if k then (fd ρ).bind fun z => (rdA ρ z).bind fun z => (cmpD p yd z).bind fun k => .ok (.sh (.bl k)) else .ok (.sh (.bl false))) =
      ((fa ρ).bind fun x => (fb ρ).bind fun y => (rdA ρ x).bind fun x => (rdA ρ y).bind fun yd => (cmpD o x yd).bind fun k =>
      if k then (fd ρ).bind fun z => (rdA ρ z).bind fun z => cmpD p yd z else .ok false).bind fun k => R.ok (A.sh (D.bl k)) := fun ρ => by
    simp only [bind_assocR]
    congr 1; funext x; congr 1; funext y; congr 1; funext dx; congr 1; funext dy; congr 1; funext k
    cases k with
    | false => rfl
    | true => simp only [if_true, bind_assocR]
  refine ⟨⟨_, pe_chain (op_cmp_D hG.K hG.hu o) (op_cmp_D hG.K hG.hu p) pa pb pd lm, fun σ H F ρ Q S w => ?_⟩, ⟨_, pt_chain (op_cmp_D hG.K hG.hu o) (op_cmp_D hG.K hG.hu p) pa pb pd lm, fun σ H F ρ Q S w => ?_⟩⟩
  · refine core σ H F ρ Q S ?_
    have w' := w
    simp only [] at w'
    rw [conv ρ] at w'
    exact PE'.bindT w' fun k F1 H1 e1 w1 => PE'.fin (Ext.fh e1) w1 (.bl k)
  · refine core σ H F ρ _ S ?_
    have w' := w
    simp only [] at w'
    rw [conv ρ, truA_bl] at w'
    exact PT'.imp w' fun k H' q => ⟨k, rfl, q⟩
end
end Z
/-! Expressions: the theorem. -/
namespace Z
open PySem PySem.Spec L2
section
variable {T : Tab} {c : Cc} {G : Gx} {Γ : Fn} {X : Cx} {W : WX}
theorem tru_step {σ : St} {ρ : Env} {F H F0 H0 : Hp} {Q : VK} {a : A} {v : V} {k : Bool → R A} (hG : Good T c G Γ X) (S : Stt G F ρ σ H) {H00 : Hp} (r : RA G σ ρ H00 F H v a) (w : PE' G W σ ρ F0 H0 Q ((rdA ρ a).bind fun d => (tru d).bind k)) :
    ∃ b, TruV X.K v H b ∧ PE' G W σ ρ F0 H0 Q (k b) ∧ (rdA ρ a).bind tru = .ok b := by
  obtain ⟨d, hd, w⟩ := PE'.pure (rdA_mild a) w
  obtain ⟨b, hb, w⟩ := PE'.pure (tru_mild d) w
  exact ⟨b, by rw [hG.K]; exact tru_of S.sub (r.vw S hd) hb, w, by rw [hd, R.bind_ok, hb]⟩
theorem vx_not (hG : Good T c G Γ X) {a : Expr} {pos : Pos} {fa : Env → R A} (ha : VX G X W a fa) :
    VX G X W (.UnaryOp .Not a pos) (fun ρ => (fa ρ).bind fun x => (rdA ρ x).bind fun x => (tru x).bind fun k => .ok (.sh (.bl !k))) := by
  obtain ⟨⟨ta, pa, qa⟩, ⟨ua, pu, qu⟩⟩ := ha
  refine ⟨⟨_, pe_notT pa, fun σ H F ρ Q S w => ?_⟩, ⟨_, pt_not pu, fun σ H F ρ Q S w => ?_⟩⟩
  · refine qa σ H F ρ _ S (PE'.bind w fun x v F1 H1 e1 r1 w1 => ?_)
    have S1 := S.ext e1
    obtain ⟨b, h1, h2, _⟩ := tru_step hG S1 r1 w1
    exact ⟨b, h1, PE'.fin S1.sub h2 (.bl _)⟩
  · refine qu σ H F ρ _ S ?_
    have e : truA ρ ((fa ρ).bind fun x => (rdA ρ x).bind fun x => (tru x).bind fun k => .ok (.sh (.bl !k))) = (truA ρ (fa ρ)).bind fun k => .ok !k := by
      unfold truA
      simp only [bind_assocR]
      rfl
    have w' := w
    simp only [] at w'
    rw [e] at w'
    exact PT'.bind w' fun k F1 H1 e1 w1 => w1 F1 H1 (Ext.refl e1.fh)
theorem truA_and {ρ : Env} {x : R A} {y : R A} : truA ρ (x.bind fun a => (rdA ρ a).bind fun d => (tru d).bind fun k => if k then y else .ok a) = (truA ρ x).bind fun k => if k then truA ρ y else .ok false := by
  unfold truA
  simp only [bind_assocR]
  congr 1; funext a
  cases hd : rdA ρ a with
  | ok d =>
    simp only [R.bind_ok]
    cases hk : tru d with
    | ok k =>
      simp only [R.bind_ok]
      cases k with
      | true => rfl
      | false => simp [hd, hk]
    | _ => rfl
  | _ => rfl
theorem truA_or {ρ : Env} {x : R A} {y : R A} : truA ρ (x.bind fun a => (rdA ρ a).bind fun d => (tru d).bind fun k => if k then .ok a else y) = (truA ρ x).bind fun k => if k then .ok true else truA ρ y := by
  unfold truA
  simp only [bind_assocR]
  congr 1; funext a
  cases hd : rdA ρ a with
  | ok d =>
    simp only [R.bind_ok]
    cases hk : tru d with
    | ok k =>
      simp only [R.bind_ok]
      cases k with
      | false => rfl
      | true => simp [hd, hk]
    | _ => rfl
  | _ => rfl
theorem truA_ife {ρ : Env} {x : R A} {y z : R A} : truA ρ (x.bind fun a => (rdA ρ a).bind fun d => (tru d).bind fun k => if k then y else z) = (truA ρ x).bind fun k => if k then truA ρ y else truA ρ z := by
  unfold truA
  simp only [bind_assocR]
  congr 1; funext a; congr 1; funext d; congr 1; funext k
  cases k <;> rfl
theorem vx_and (hG : Good T c G Γ X) {a b : Expr} {r : List Expr} {pos : Pos} {fa fb : Env → R A} (ha : VX G X W a fa) (hb : EX G X W (.BoolOp .And (b :: r) pos) fb) (hb' : ∃ t, PW X (.BoolOp .And (b :: r) pos) t ∧ ∀ σ H F ρ Q, Stt G F ρ σ H → PT' G W σ F H Q (truA ρ (fb ρ)) → t σ H Q) :
    VX G X W (.BoolOp .And (a :: b :: r) pos) (fun ρ => (fa ρ).bind fun x => (rdA ρ x).bind fun d => (tru d).bind fun k => if k then fb ρ else .ok x) := by
  obtain ⟨⟨ta, pa, qa⟩, ⟨ua, pu, qu⟩⟩ := ha
  obtain ⟨tb, pb, qb⟩ := hb
  obtain ⟨ub, pv, qv⟩ := hb'
  refine ⟨⟨_, pe_andT pa pb, fun σ H F ρ Q S w => ?_⟩, ⟨_, (pw_and pu pv).pt, fun σ H F ρ Q S w => ?_⟩⟩
  · refine qa σ H F ρ _ S (PE'.bind0 w fun x v F1 H1 e1 r1 w1 => ?_)
    have S1 := S.ext e1
    obtain ⟨k, h1, h2, _⟩ := tru_step hG S1 r1 w1
    refine ⟨k, h1, ?_⟩
    cases k with
    | true => rw [if_pos rfl]; exact qb σ H1 F1 ρ Q S1 (PE'.ext e1 h2)
    | false => rw [if_neg Bool.false_ne_true]; exact (show PE' G W σ ρ F H Q (.ok x) from h2) v F1 H1 e1 r1
  · have w' := w
    simp only [] at w'
    rw [truA_and] at w'
    refine qu σ H F ρ _ S (PT'.bind w' fun k F1 H1 e1 w1 => ?_)
    have S1 := S.ext e1
    cases k with
    | true => rw [if_pos rfl]; exact qv σ H1 F1 ρ Q S1 w1
    | false => rw [if_neg Bool.false_ne_true]; exact w1 F1 H1 (Ext.refl e1.fh)
theorem vx_or (hG : Good T c G Γ X) {a b : Expr} {r : List Expr} {pos : Pos} {fa fb : Env → R A} (ha : VX G X W a fa) (hb : EX G X W (.BoolOp .Or (b :: r) pos) fb) (hb' : ∃ t, PW X (.BoolOp .Or (b :: r) pos) t ∧ ∀ σ H F ρ Q, Stt G F ρ σ H → PT' G W σ F H Q (truA ρ (fb ρ)) → t σ H Q) :
    VX G X W (.BoolOp .Or (a :: b :: r) pos) (fun ρ => (fa ρ).bind fun x => (rdA ρ x).bind fun d => (tru d).bind fun k => if k then .ok x else fb ρ) := by
  obtain ⟨⟨ta, pa, qa⟩, ⟨ua, pu, qu⟩⟩ := ha
  obtain ⟨tb, pb, qb⟩ := hb
  obtain ⟨ub, pv, qv⟩ := hb'
  refine ⟨⟨_, pe_orT pa pb, fun σ H F ρ Q S w => ?_⟩, ⟨_, (pw_or pu pv).pt, fun σ H F ρ Q S w => ?_⟩⟩
  · refine qa σ H F ρ _ S (PE'.bind0 w fun x v F1 H1 e1 r1 w1 => ?_)
    have S1 := S.ext e1
    obtain ⟨k, h1, h2, _⟩ := tru_step hG S1 r1 w1
    refine ⟨k, h1, ?_⟩
    cases k with
    | false => rw [if_neg Bool.false_ne_true]; exact qb σ H1 F1 ρ Q S1 (PE'.ext e1 h2)
    | true => rw [if_pos rfl]; exact (show PE' G W σ ρ F H Q (.ok x) from h2) v F1 H1 e1 r1
  · have w' := w
    simp only [] at w'
    rw [truA_or] at w'
    refine qu σ H F ρ _ S (PT'.bind w' fun k F1 H1 e1 w1 => ?_)
    have S1 := S.ext e1
    cases k with
    | false => rw [if_neg Bool.false_ne_true]; exact qv σ H1 F1 ρ Q S1 w1
    | true => rw [if_pos rfl]; exact w1 F1 H1 (Ext.refl e1.fh)
/-- a single part of and, or -/
theorem one_and {e : Expr} {pos : Pos} {f : Env → R A} (h : VX G X W e f) : EX G X W (.BoolOp .And [e] pos) f ∧ ∃ t, PW X (.BoolOp .And [e] pos) t ∧ ∀ σ H F ρ Q, Stt G F ρ σ H → PT' G W σ F H Q (truA ρ (f ρ)) → t σ H Q :=
  let ⟨⟨t, p, q⟩, ⟨u, p', q'⟩⟩ := h
  ⟨⟨t, pe_one p, q⟩, ⟨u, pw_and1 p', q'⟩⟩
theorem one_or {e : Expr} {pos : Pos} {f : Env → R A} (h : VX G X W e f) : EX G X W (.BoolOp .Or [e] pos) f ∧ ∃ t, PW X (.BoolOp .Or [e] pos) t ∧ ∀ σ H F ρ Q, Stt G F ρ σ H → PT' G W σ F H Q (truA ρ (f ρ)) → t σ H Q :=
  let ⟨⟨t, p, q⟩, ⟨u, p', q'⟩⟩ := h
  ⟨⟨t, pe_one p, q⟩, ⟨u, pw_or1 p', q'⟩⟩
theorem more_bool {o : BoolOp} {l : List Expr} {pos : Pos} {f : Env → R A} (h : VX G X W (.BoolOp o l pos) f) : EX G X W (.BoolOp o l pos) f ∧ ∃ t, PW X (.BoolOp o l pos) t ∧ ∀ σ H F ρ Q, Stt G F ρ σ H → PT' G W σ F H Q (truA ρ (f ρ)) → t σ H Q :=
  let ⟨h1, ⟨u, p', q'⟩⟩ := h
  ⟨h1, ⟨u, pw_of_pt p', q'⟩⟩
theorem pt_ifExp {k a b : Expr} {pos : Pos} {tk ta tb : TT} (hk : PT X k tk) (ha : PT X a ta) (hb : PT X b tb) : PT X (.IfExp k a b pos) (fun σ H Q => tk σ H fun c H1 => if c = true then ta σ H1 Q else tb σ H1 Q) := by
  refine ⟨fun pins s σ H Q I h => ?_⟩
  show wpAny _ _ (do if ← isTrue k X.env (eval k X.env) then isTrue a X.env (eval a X.env) else isTrue b X.env (eval b X.env)) _ _ _
  refine wpAny_bind (thn (hk.run pins s σ H _ I h) fun d s1 ⟨H1, I1, q1⟩ => ?_)
  cases d with
  | true => exact ha.run pins s1 σ H1 Q I1 q1
  | false => exact hb.run pins s1 σ H1 Q I1 q1
theorem vx_ife {k a b : Expr} {pos : Pos} {fk fa fb : Env → R A} (hk : VX G X W k fk) (ha : VX G X W a fa) (hb : VX G X W b fb) :
    VX G X W (.IfExp k a b pos) (fun ρ => (fk ρ).bind fun x => (rdA ρ x).bind fun d => (tru d).bind fun k => if k then fa ρ else fb ρ) := by
  obtain ⟨_, ⟨uk, pk, qk⟩⟩ := hk
  obtain ⟨⟨ta, pa, qa⟩, ⟨ua, pu, qu⟩⟩ := ha
  obtain ⟨⟨tb, pb, qb⟩, ⟨ub, pv, qv⟩⟩ := hb
  refine ⟨⟨_, pe_ifExp pk pa pb, fun σ H F ρ Q S w => ?_⟩, ⟨_, pt_ifExp pk pu pv, fun σ H F ρ Q S w => ?_⟩⟩
  · have e : ((fk ρ).bind fun x => (rdA ρ x).bind fun d => (tru d).bind fun k => if k then fa ρ else fb ρ) = (truA ρ (fk ρ)).bind fun k => if k then fa ρ else fb ρ := by
      unfold truA; simp only [bind_assocR]
    have w' := w
    simp only [] at w'
    rw [e] at w'
    refine qk σ H F ρ _ S (PE'.bindT w' fun k F1 H1 e1 w1 => ?_)
    have S1 := S.ext e1
    cases k with
    | true => rw [if_pos rfl]; exact qa σ H1 F1 ρ Q S1 w1
    | false => rw [if_neg Bool.false_ne_true]; exact qb σ H1 F1 ρ Q S1 w1
  · have w' := w
    simp only [] at w'
    rw [truA_ife] at w'
    refine qk σ H F ρ _ S (PT'.bind w' fun k F1 H1 e1 w1 => ?_)
    have S1 := S.ext e1
    cases k with
    | true => rw [if_pos rfl]; exact qu σ H1 F1 ρ Q S1 w1
    | false => rw [if_neg Bool.false_ne_true]; exact qv σ H1 F1 ρ Q S1 w1
theorem ex_neg {a : Expr} {pos : Pos} {fa : Env → R A} (ha : EX G X W a fa) : EX G X W (.UnaryOp .USub a pos) (fun ρ => (fa ρ).bind fun x => (rdA ρ x).bind negD) := by
  obtain ⟨ta, pa, qa⟩ := ha
  refine ⟨_, pe_un un_neg pa, fun σ H F ρ Q S w => ?_⟩
  refine qa σ H F ρ _ S (PE'.bind w fun x v F1 H1 e1 r1 w1 => ?_)
  have S1 := S.ext e1
  obtain ⟨d, hd, w1⟩ := PE'.pure (rdA_mild x) w1
  have vw := r1.vw S1 hd
  cases d with
  | int i => obtain rfl := vw.int; exact ⟨i, rfl, PE'.fin S1.sub w1 (.int _)⟩
  | _ => exact w1.elim
/-! ### arguments -/
theorem ax_nil : AX G X W [] (fun _ => .ok []) := ⟨_, pa_nil, fun σ H F ρ Q S w => w [] F H (Ext.refl S.sub) .nil⟩
theorem ax_cons {e : Expr} {es : List Expr} {f : Env → R A} {fs : Env → R (List A)} (he : okHead e = true) (h : EX G X W e f) (hs : AX G X W es fs) : AX G X W (e :: es) (fun ρ => (f ρ).bind fun x => (fs ρ).bind fun xs => .ok (x :: xs)) := by
  obtain ⟨ta, pa, qa⟩ := h
  obtain ⟨tb, pb, qb⟩ := hs
  refine ⟨_, pa_cons pa pb (star_head he), fun σ H F ρ Q S w => ?_⟩
  refine qa σ H F ρ _ S (PA'.bindE0 w fun x v F1 H1 e1 r1 w1 => ?_)
  have S1 := S.ext e1
  refine qb σ H1 F1 ρ _ S1 (PA'.bind1 (e0 := e1) w1 fun xs vs F2 H2 e2 r2 w2 => ?_)
  exact w2 (v :: vs) F2 H2 (e1.trans e2) (.cons (r1.ext e2 e1.hh) (r2.start e1.hh))
end
end Z
/-! Expressions: the theorem. -/
namespace Z
open PySem PySem.Spec L2
section
variable {T : Tab} {c : Cc} {G : Gx} {Γ : Fn} {X : Cx} {W : WX}
theorem plain_args {T : Tab} {c : Cc} {pos : Pos} {env : PySem.Env} : ∀ {as : Es} {es : List Expr}, chkEs T c as es = true → (backTo pos (starEach es env)).any (·.1) = false
  | .nil, [], _ => rfl
  | .nil, _ :: _, h => by unfold chkEs at h; cases h
  | .cons a r, [], h => by unfold chkEs at h; cases h
  | .cons a r, e :: es, h => by
    unfold chkEs at h
    obtain ⟨h1, h2⟩ := and_bool h
    rw [star_head (chk_head h1)]
    have ih := plain_args (pos := pos) (env := env) h2
    show (false || (backTo pos (starEach es env)).any (·.1)) = false
    rw [ih]; rfl
theorem lent_good {as : List A} {r : R A} (h : (lent as r).good) : r.good := by
  cases r with
  | bad => exact h
  | _ => trivial
theorem ex_call (hG : Good T c G Γ X) (tk : Takes X W) {f : Nat} {x : Str} {p pos : Pos} {a : Expr} {es : List Expr} {fs : Env → R (List A)} (hx : T.fnm[f]? = some x) (hg : chkGl c x = true) (ha : okHead a = true) (hp : (backTo pos (starEach es X.env)).any (·.1) = false)
    (hs : AX G X W (a :: es) fs) : EX G X W (.Call (.Name x p) (a :: es) [] pos) (fun ρ => (fs ρ).bind fun xs => (rds ρ xs).bind fun ds => lent xs (Γ.call f ds)) := by
  obtain ⟨n, k, addr, fd, ps, F0, hr, hm, hk, hb, hl⟩ := (hG.fns f x hx).ex
  obtain ⟨ta, pa, qa⟩ := hs
  obtain ⟨h1, h2⟩ := and_bool hg
  obtain ⟨h1, h3⟩ := and_bool h1
  refine ⟨_, pe_callS F0 hr (hG.gl x h1) hm hk hb (fun σ => passAt tk σ) pa (by simpa using h3) (star_head ha) hp, fun σ H F ρ Q S w => ?_⟩
  refine qa σ H F ρ _ S (PE'.bindA0 w fun xs vs F1 H1 e1 r1 w1 => ?_)
  have S1 := S.ext e1
  obtain ⟨ds, hd, w1⟩ := PE'.pure (rds_mild xs) w1
  obtain ⟨F0', f1, f2, f3, f4⟩ := args_frz S1 e1.hh r1 hd
  have gd : (Γ.call f ds).good := lent_good (as := xs) (by
    cases q : lent xs (Γ.call f ds) with
    | bad => rw [q] at w1; exact w1.elim
    | _ => trivial)
  refine ⟨by rw [f3.length]; exact hl ds gd, F0', ds, f2, f3, ?_⟩
  exact call_back e1 f1 f2 f4 w1
theorem ex_bif (hG : Good T c G Γ X) {f : Bf} {x : Str} {p pos : Pos} {a : Expr} {es : List Expr} {fs : Env → R (List A)} (hx : chkBlt T c x (bifN f) = true) (ha : okHead a = true) (hp : (backTo pos (starEach es X.env)).any (·.1) = false)
    (hs : AX G X W (a :: es) fs) : EX G X W (.Call (.Name x p) (a :: es) [] pos) (fun ρ => (fs ρ).bind fun xs => (rds ρ xs).bind fun ds => bifD f ds) := by
  obtain ⟨ta, pa, qa⟩ := hs
  obtain ⟨h0, hg⟩ := and_bool hx
  obtain ⟨h0, hbl⟩ := and_bool h0
  obtain rfl : x = bifN f := by simpa using h0
  obtain ⟨h1, h2⟩ := and_bool hg
  obtain ⟨h1, h3⟩ := and_bool h1
  have hm : X.mg (bifN f) = none := hG.blt _ (by simpa using hbl)
  have go : ∀ σ H F ρ Q, Stt G F ρ σ H → PE' G W σ ρ F H Q ((fs ρ).bind fun xs => (rds ρ xs).bind fun ds => bifD f ds) → tCB (rBif G f) ta σ H Q := fun σ H F ρ Q S w => by
    refine qa σ H F ρ _ S (PE'.bindA w fun xs vs F1 H1 e1 r1 w1 => ?_)
    have S1 := S.ext e1
    obtain ⟨ds, hd, w1⟩ := PE'.pure (rds_mild xs) w1
    exact ⟨F1, ds, S1.sub, r1.vws S1 hd, w1.pv (bif_mild f ds)⟩
  rcases bif_ok hG f with ⟨id, hv, hc⟩ | ⟨n, hv, hc⟩
  · exact ⟨_, pe_callB hc (hG.gl _ h1) hm hv pa (by simpa using h2) (by simpa using h3) (star_head ha) hp, go⟩
  · exact ⟨_, pe_callTy hc (hG.gl _ h1) hm hv pa (by simpa using h2) (by simpa using h3) (star_head ha) hp, go⟩
theorem boot_ty {t : Ty} {n : String} (h : tyN t = some n) : bootBuiltins (Str.ofString n) = some (.type n) := by
  cases t <;> first | cases h | skip
  all_goals decide +kernel
theorem ex_isi (hG : Good T c G Γ X) {t : Ty} {n : String} {x y : Str} {p p2 pos : Pos} {a : Expr} {fa : Env → R A} (hx : chkBlt T c x "isinstance" = true) (hn : tyN t = some n) (hy : chkBlt T c y (Str.ofString n) = true) (ha' : okHead a = true)
    (ha : EX G X W a fa) : EX G X W (.Call (.Name x p) [a, .Name y p2] [] pos) (fun ρ => (fa ρ).bind fun x => (rdA ρ x).bind fun x => (isiD x t).bind fun k => .ok (.sh (.bl k))) := by
  obtain ⟨ta, pa, qa⟩ := ha
  obtain ⟨h0, hg⟩ := and_bool hx
  obtain ⟨h0, hbl⟩ := and_bool h0
  obtain rfl : x = ("isinstance" : Str) := by simpa using h0
  obtain ⟨h1, h2⟩ := and_bool hg
  obtain ⟨h1, h3⟩ := and_bool h1
  obtain ⟨k0, kg⟩ := and_bool hy
  obtain ⟨k0, kbl⟩ := and_bool k0
  obtain rfl : y = Str.ofString n := by simpa using k0
  obtain ⟨k1, k2⟩ := and_bool kg
  obtain ⟨k1, k3⟩ := and_bool k1
  have hm : X.mg "isinstance" = none := hG.blt _ (by simpa using hbl)
  have hm2 : X.mg (Str.ofString n) = none := hG.blt _ (by simpa using kbl)
  refine ⟨_, pe_callB call_isi (hG.gl _ h1) hm (by decide +kernel) (pa_cons pa (pa_cons (pe_bltn (v := .ty n) (hG.gl _ k1) hm2 (boot_ty hn) rfl (by simpa using k2) (by simpa using k3)) pa_nil) (star_head ha')) (by simpa using h2) (by simpa using h3) (star_head ha') rfl, fun σ H F ρ Q S w => ?_⟩
  refine qa σ H F ρ _ S (PE'.bind w fun x v F1 H1 e1 r1 w1 => ?_)
  have S1 := S.ext e1
  obtain ⟨d, hd, w1⟩ := PE'.pure (rdA_mild x) w1
  obtain ⟨k, hk, w1⟩ := PE'.pure (isiD_mild d t) w1
  obtain ⟨m, hm1, hm2⟩ := isi_kit hk hn
  exact ⟨v, .ty n, .type m, .type n, k, rfl, .ty n, by rw [hG.K]; exact tyX_of S1.sub (r1.vw S1 hd) m hm1, kit_ty hm2, PE'.fin S1.sub w1 (.bl k)⟩
theorem ex_sl (hG : Good T c G Γ X) {a : Expr} {lo hi : Option Expr} {p2 pos : Pos} {fa : Env → R A} {fl fh : Env → R (Option Int)} (ha : EX G X W a fa) (hl : OX G X W lo fl) (hh : OX G X W hi fh) :
    EX G X W (.Subscript a (.Slice lo hi none p2) pos) (fun ρ => (fa ρ).bind fun x => (fl ρ).bind fun i => (fh ρ).bind fun j => (rdA ρ x).bind fun x => slD x i j) := by
  obtain ⟨ta, pa, qa⟩ := ha
  obtain ⟨tl, pl, ql⟩ := hl
  obtain ⟨th, ph, qh⟩ := hh
  refine ⟨_, pe_slice (sl_D hG.K) pa pl ph, fun σ H F ρ Q S w => ?_⟩
  refine qa σ H F ρ _ S (PE'.bind w fun x v F1 H1 e1 r1 w1 => ?_)
  have S1 := S.ext e1
  refine ql σ H1 F1 ρ _ S1 (PE'.bindO w1 fun i F2 H2 e2 w2 => ?_)
  have S2 := S1.ext e2
  refine qh σ H2 F2 ρ _ S2 (PE'.bindO w2 fun j F3 H3 e3 w3 => ?_)
  have S3 := S2.ext e3
  obtain ⟨d, hd, w3⟩ := PE'.pure (rdA_mild x) w3
  exact ⟨F3, d, S3.sub, ((r1.vw S1 hd).ext e2).ext e3, w3.pv (slD_mild d i j)⟩
theorem ox_no : OX G X W none (fun _ => .ok none) := ⟨_, po_none, fun σ H F ρ Q S w => w F H (Ext.refl S.sub)⟩
theorem ox_so {e : Expr} {f : Env → R A} (h : EX G X W e f) : OX G X W (some e) (fun ρ => (f ρ).bind fun x => (rdA ρ x).bind fun d => (intO d).bind fun i => .ok (some i)) := by
  obtain ⟨ta, pa, qa⟩ := h
  refine ⟨_, po_some pa, fun σ H F ρ Q S w => ?_⟩
  refine qa σ H F ρ _ S (PO'.bindE w fun x v F1 H1 e1 r1 w1 => ?_)
  have S1 := S.ext e1
  obtain ⟨d, hd, w1⟩ := PO'.pure (rdA_mild x) w1
  obtain ⟨i, hi, w1⟩ := PO'.pure (intO_mild d) w1
  have vw := r1.vw S1 hd
  cases d <;> first | cases hi | skip
  obtain rfl := vw.int
  exact ⟨_, rfl, w1 F1 H1 (Ext.refl S1.sub)⟩
theorem ex_tup {es : List Expr} {k : Nat} {pos : Pos} {fs : Env → R (List A)} (hs : AX G X W es fs) : EX G X W (.Tuple es k pos) (fun ρ => (fs ρ).bind fun xs => (kps xs).bind fun ds => if ds.length ≤ 16777216 then .ok (.sh (.tup ds)) else .bad) := by
  obtain ⟨ta, pa, qa⟩ := hs
  refine ⟨_, pe_tup pa, fun σ H F ρ Q S w => ?_⟩
  refine qa σ H F ρ _ S (PE'.bindA0 w fun xs vs F1 H1 e1 r1 w1 => ?_)
  have S1 := S.ext e1
  obtain ⟨ds, hd, w1⟩ := PE'.pure (kps_mild xs) w1
  obtain ⟨F2, f1, f2, f3, f4⟩ := RAs.keep S1 e1.hh (fun b => e1.hh.free) r1 hd
  have w2 : PE' G W σ ρ F H Q (if ds.length ≤ 16777216 then .ok (.sh (.tup ds)) else .bad) := w1
  split at w2
  · rename_i hl
    refine ⟨by rw [f4.length, sizeLine_eq]; exact hl, fun p n => ?_⟩
    have e2 : Ext F H F2 H1 := ⟨e1.ff.trans f1, e1.hh, f2, fun b o z1 z2 => f3 b o z1 (e1.nw b o z1 z2)⟩
    have e3 := Ext.newF (o := .tup vs) f2 n
    exact w2 _ _ _ (e2.trans e3) (.tup upd_same (f4.mono e3.ff))
  · exact w2.elim
theorem ex_lis {es : List Expr} {pos : Pos} {fs : Env → R (List A)} (hs : AX G X W es fs) : EX G X W (.List es pos) (fun ρ => (fs ρ).bind fun xs => (kps xs).bind fun ds => if ds.length ≤ 16777216 then .ok (.ow (.li ds)) else .bad) := by
  obtain ⟨ta, pa, qa⟩ := hs
  refine ⟨_, pe_lst pa, fun σ H F ρ Q S w => ?_⟩
  refine qa σ H F ρ _ S (PE'.bindA0 w fun xs vs F1 H1 e1 r1 w1 => ?_)
  have S1 := S.ext e1
  obtain ⟨ds, hd, w1⟩ := PE'.pure (kps_mild xs) w1
  obtain ⟨F2, f1, f2, f3, f4⟩ := RAs.keep S1 e1.hh (fun b => e1.hh.free) r1 hd
  have w2 : PE' G W σ ρ F H Q (if ds.length ≤ 16777216 then .ok (.ow (.li ds)) else .bad) := w1
  split at w2
  · rename_i hl
    refine ⟨by rw [f4.length, sizeLine_eq]; exact hl, fun p n => ?_⟩
    have e2 : Ext F H F2 H1 := ⟨e1.ff.trans f1, e1.hh, f2, fun b o z1 z2 => f3 b o z1 (e1.nw b o z1 z2)⟩
    have e3 := Ext.new (o := .lst vs) f2 n
    exact w2 _ _ _ (e2.trans e3) ⟨p, rfl, e1.hh.free n, f2.free n, vs, upd_same, f4⟩
  · exact w2.elim
theorem ex_var (hG : Good T c G Γ X) {i : Nat} {x : Str} {pos : Pos} (h : chkVar c i x = true) : EX G X W (.Name x pos) (fun ρ => match ρ[i]? with
    | some (some (.sh d)) => .ok (.sh d)
    | some (some _) => .ok (.bo i)
    | _ => .bad) := by
  obtain ⟨h, h4⟩ := and_bool h
  obtain ⟨h, h3⟩ := and_bool h
  obtain ⟨h1, h2⟩ := and_bool h
  refine ⟨_, pe_var (i := i) (by rw [hG.N]; simpa using h1) (hG.vis x h2) (by simpa using h3) (by simpa using h4), fun σ H F ρ Q S w => ?_⟩
  simp only [] at w
  cases q : ρ[i]? with
  | none => rw [q] at w; exact w.elim
  | some o =>
    cases o with
    | none => rw [q] at w; exact w.elim
    | some s =>
      rw [q] at w
      cases s with
      | sh d =>
        obtain ⟨v, h1, h2⟩ := S.sh i d q
        exact ⟨v, h1, PE'.fin S.sub w h2⟩
      | li l =>
        obtain ⟨p, h1, _, _⟩ := S.ow i _ q rfl
        exact ⟨_, h1, w _ F H (Ext.refl S.sub) ⟨_, p, q, rfl, h1, rfl⟩⟩
      | di l =>
        obtain ⟨p, h1, _, _⟩ := S.ow i _ q rfl
        exact ⟨_, h1, w _ F H (Ext.refl S.sub) ⟨_, p, q, rfl, h1, rfl⟩⟩
theorem ex_glb (hG : Good T c G Γ X) {g : Nat} {x : Str} {pos : Pos} (h : (decide (T.gnm[g]? = some x) && chkGl c x) = true) : EX G X W (.Name x pos) (fun _ => .ok (.sh (Γ.glob g))) := by
  obtain ⟨h0, hg⟩ := and_bool h
  obtain ⟨h1, h2⟩ := and_bool hg
  obtain ⟨h1, h3⟩ := and_bool h1
  obtain ⟨v, u, hm, rv, r⟩ := hG.glo g x (by simpa using h0)
  exact ex_data (pe_glob (hG.gl x h1) hm rv (by simpa using h3)) r
theorem ex_cst {d : D} {k : Const} {j : Nat} {pos : Pos} (h : chkC d k = true) : EX G X W (.Constant k j pos) (fun _ => .ok (.sh d)) := by
  cases d <;> cases k <;> first | cases h | skip
  · exact ex_data pe_non fun _ => .non
  · rename_i b b'
    obtain rfl : b = b' := by simpa [chkC] using h
    exact ex_data pe_bl fun _ => .bl b
  · rename_i i i'
    obtain rfl : i = i' := by simpa [chkC] using h
    exact ex_data pe_int fun _ => .int i
  · rename_i l x
    obtain ⟨h1, h2⟩ := and_bool h
    exact ex_data pe_str fun _ => rp_str (by simpa using h1) h2
mutual
theorem snd (hG : Good T c G Γ X) (tk : Takes X W) : ∀ (a : E) (e : Expr), chkE T c a e = true → VX G X W e (ev Γ a)
  | .cst d, e, h => by
    unfold chkE at h
    cases e <;> first | cases h | skip
    exact vx_of hG rfl (by nofun) (by nofun) (by nofun) (by nofun) (ex_congr (ex_cst h) fun ρ => by unfold ev; rfl)
  | .var i, e, h => by
    unfold chkE at h
    cases e <;> first | cases h | skip
    exact vx_of hG rfl (by nofun) (by nofun) (by nofun) (by nofun) (ex_congr (ex_var hG h) fun ρ => by unfold ev; rfl)
  | .glb g, e, h => by
    unfold chkE at h
    cases e <;> first | cases h | skip
    exact vx_of hG rfl (by nofun) (by nofun) (by nofun) (by nofun) (ex_congr (ex_glb hG h) fun ρ => by unfold ev; rfl)
  | .bin o a b, e, h => by
    unfold chkE at h
    cases e <;> first | cases h | skip
    obtain ⟨h, h2⟩ := and_bool h
    obtain ⟨h0, h1⟩ := and_bool h
    have h0 := of_decide_eq_true h0
    subst h0
    exact vx_of hG rfl (by nofun) (by nofun) (by nofun) (by nofun) (ex_congr (ex_two (snd hG tk a _ h1).1 (snd hG tk b _ h2).1 (fun _ _ p q => pe_op (op_bin_D hG.K o) p q) (binD_mild o) (fun _ _ _ _ w => w)) fun ρ => by
      show _ = ev Γ (.bin o a b) ρ
      rw [ev])
  | .neg a, e, h => by
    unfold chkE at h
    cases e <;> first | cases h | skip
    obtain ⟨h0, h1⟩ := and_bool h
    have h0 := of_decide_eq_true h0
    subst h0
    exact vx_of hG rfl (by nofun) (by nofun) (by nofun) (by nofun) (ex_congr (ex_neg (snd hG tk a _ h1).1) fun ρ => by rw [ev])
  | .not a, e, h => by
    unfold chkE at h
    cases e <;> first | cases h | skip
    obtain ⟨h0, h1⟩ := and_bool h
    have h0 := of_decide_eq_true h0
    subst h0
    exact vx_congr (vx_not hG (snd hG tk a _ h1)) fun ρ => by rw [ev]
  | .and a b, e, h => by
    unfold chkE at h
    split at h
    · rename_i op x y r pos
      obtain ⟨h, h2⟩ := and_bool h
      obtain ⟨h0, h1⟩ := and_bool h
      have h0 := of_decide_eq_true h0
      subst h0
      cases r with
      | nil =>
        obtain ⟨q1, q2⟩ := one_and (pos := pos) (snd hG tk b _ h2)
        exact vx_congr (vx_and hG (snd hG tk a _ h1) q1 q2) fun ρ => by rw [ev]
      | cons z r =>
        obtain ⟨q1, q2⟩ := more_bool (snd hG tk b _ h2)
        exact vx_congr (vx_and hG (snd hG tk a _ h1) q1 q2) fun ρ => by rw [ev]
    · cases h
  | .or a b, e, h => by
    unfold chkE at h
    split at h
    · rename_i op x y r pos
      obtain ⟨h, h2⟩ := and_bool h
      obtain ⟨h0, h1⟩ := and_bool h
      have h0 := of_decide_eq_true h0
      subst h0
      cases r with
      | nil =>
        obtain ⟨q1, q2⟩ := one_or (pos := pos) (snd hG tk b _ h2)
        exact vx_congr (vx_or hG (snd hG tk a _ h1) q1 q2) fun ρ => by rw [ev]
      | cons z r =>
        obtain ⟨q1, q2⟩ := more_bool (snd hG tk b _ h2)
        exact vx_congr (vx_or hG (snd hG tk a _ h1) q1 q2) fun ρ => by rw [ev]
    · cases h
  | .cmp o a b, e, h => by
    unfold chkE at h
    split at h
    · obtain ⟨h, h2⟩ := and_bool h
      obtain ⟨h0, h1⟩ := and_bool h
      have h0 := of_decide_eq_true h0
      subst h0
      exact vx_congr (vx_cmp hG (chk_head h2) (snd hG tk a _ h1).1 (snd hG tk b _ h2).1) fun ρ => by rw [ev]
    · cases h
  | .chn o p a b d, e, h => by
    unfold chkE at h
    split at h
    · obtain ⟨h, h3⟩ := and_bool h
      obtain ⟨h, h2⟩ := and_bool h
      obtain ⟨h, h1⟩ := and_bool h
      obtain ⟨h0, h00⟩ := and_bool h
      have h0 := of_decide_eq_true h0
      have h00 := of_decide_eq_true h00
      subst h0 h00
      exact vx_congr (vx_chn hG (chk_head h2) (chk_head h3) (snd hG tk a _ h1).1 (snd hG tk b _ h2).1 (snd hG tk d _ h3).1) fun ρ => by rw [ev]
    · cases h
  | .call f as, e, h => by
    unfold chkE at h
    split at h
    · obtain ⟨h, h2⟩ := and_bool h
      obtain ⟨h0, h1⟩ := and_bool h
      have hs := sndS hG tk as _ h2
      cases as with
      | nil => unfold chkEs at h2; cases h2
      | cons a0 r0 =>
        have h3 := h2
        unfold chkEs at h3
        obtain ⟨h4, h5⟩ := and_bool h3
        exact vx_of hG rfl (by nofun) (by nofun) (by nofun) (by nofun) (ex_congr (ex_call hG tk (of_decide_eq_true h0) h1 (chk_head h4) (plain_args h5) hs) fun ρ => by rw [ev])
    · cases h
  | .bif f as, e, h => by
    unfold chkE at h
    split at h
    · obtain ⟨h0, h2⟩ := and_bool h
      have hs := sndS hG tk as _ h2
      cases as with
      | nil => unfold chkEs at h2; cases h2
      | cons a0 r0 =>
        have h3 := h2
        unfold chkEs at h3
        obtain ⟨h4, h5⟩ := and_bool h3
        exact vx_of hG rfl (by nofun) (by nofun) (by nofun) (by nofun) (ex_congr (ex_bif hG h0 (chk_head h4) (plain_args h5) hs) fun ρ => by rw [ev])
    · cases h
  | .isi a t, e, h => by
    unfold chkE at h
    split at h
    · obtain ⟨h, h2⟩ := and_bool h
      obtain ⟨h0, h1⟩ := and_bool h
      split at h2
      · rename_i hn
        exact vx_of hG rfl (by nofun) (by nofun) (by nofun) (by nofun) (ex_congr (ex_isi hG h0 hn h2 (chk_head h1) (snd hG tk a _ h1).1) fun ρ => by rw [ev])
      · cases h2
    · cases h
  | .omt m o as, e, h => by unfold chkE at h; cases h
  | .ix a b, e, h => by
    unfold chkE at h
    split at h
    · obtain ⟨h1, h2⟩ := and_bool h
      exact vx_of hG rfl (by nofun) (by nofun) (by nofun) (by nofun) (ex_congr (ex_two (snd hG tk a _ h1).1 (snd hG tk b _ h2).1 (fun _ _ p q => pe_ix (ix_D hG.K) p q (sub_head (chk_head h2))) (fun x y => mild_bind (ixD_mild x y) fun _ => mild_ok _) (fun _ _ _ _ w => w)) fun ρ => by rw [ev])
    · cases h
  | .sl a lo hi, e, h => by
    unfold chkE at h
    split at h
    · obtain ⟨h, h3⟩ := and_bool h
      obtain ⟨h1, h2⟩ := and_bool h
      exact vx_of hG rfl (by nofun) (by nofun) (by nofun) (by nofun) (ex_congr (ex_sl hG (snd hG tk a _ h1).1 (sndO hG tk lo _ h2) (sndO hG tk hi _ h3)) fun ρ => by rw [ev])
    · cases h
  | .att a n, e, h => by unfold chkE at h; cases h
  | .tup as, e, h => by
    unfold chkE at h
    split at h
    · exact vx_of hG rfl (by nofun) (by nofun) (by nofun) (by nofun) (ex_congr (ex_tup (sndS hG tk as _ h)) fun ρ => by rw [ev])
    · cases h
  | .lis as, e, h => by
    unfold chkE at h
    split at h
    · exact vx_of hG rfl (by nofun) (by nofun) (by nofun) (by nofun) (ex_congr (ex_lis (sndS hG tk as _ h)) fun ρ => by rw [ev])
    · cases h
  | .ife k a b, e, h => by
    unfold chkE at h
    split at h
    · obtain ⟨h, h3⟩ := and_bool h
      obtain ⟨h1, h2⟩ := and_bool h
      exact vx_congr (vx_ife (snd hG tk k _ h1) (snd hG tk a _ h2) (snd hG tk b _ h3)) fun ρ => by rw [ev]
    · cases h
theorem sndS (hG : Good T c G Γ X) (tk : Takes X W) : ∀ (as : Es) (es : List Expr), chkEs T c as es = true → AX G X W es (evs Γ as)
  | .nil, es, h => by
    unfold chkEs at h
    split at h
    · exact ax_congr ax_nil fun ρ => by rw [evs]
    · cases h
  | .cons a r, es, h => by
    unfold chkEs at h
    split at h
    · obtain ⟨h1, h2⟩ := and_bool h
      exact ax_congr (ax_cons (chk_head h1) (snd hG tk a _ h1).1 (sndS hG tk r _ h2)) fun ρ => by rw [evs]
    · cases h
theorem sndO (hG : Good T c G Γ X) (tk : Takes X W) : ∀ (o : Eo) (e : Option Expr), chkEo T c o e = true → OX G X W e (evo Γ o)
  | .no, e, h => by
    unfold chkEo at h
    split at h
    · exact ox_congr ox_no fun ρ => by rw [evo]
    · cases h
  | .so a, e, h => by
    unfold chkEo at h
    split at h
    · exact ox_congr (ox_so (snd hG tk a _ h).1) fun ρ => by rw [evo]
    · cases h
end
end
end Z
/-! Statements: the language, the evaluator, the checker. -/
namespace Z
open PySem PySem.Spec L2
def fuel : Nat := 1000000000000

inductive Tg where
  | v (i : Nat) | t (l : List Nat)
inductive Iz where
  | it (e : E) | rng1 (a : E) | rng2 (a b : E)
mutual
inductive C where
  | asg (t : Tg) (e : E) | sub (i : Nat) (k e : E) | aug (i : Nat) (e : E) | app (i : Nat) (e : E) | pop (t : Tg) (i : Nat) | exp (e : E)
  | ite (c : E) (a b : Cs) | whl (n : Nat) (c : E) (b : Cs) | for (t : Tg) (it : Iz) (b : Cs) | ret (e : E) | retn | brk | cnt | pas
inductive Cs where
  | nil | cons (c : C) (r : Cs) | frz (i : Nat) (r : Cs)
end
/-- a statement's end -/
inductive O where
  | nx (ρ : Env) | rt (a : A) | bk (ρ : Env) | ct (ρ : Env) | ex (c : Nat) (d : D) (ρ : Env) | bad
def setTs : List Nat → List D → Env → Option Env
  | [], [], ρ => some ρ
  | i :: is, d :: ds, ρ => setTs is ds (ρ.set i (some (.sh d)))
  | _, _, _ => none
/-- data to a target -/
def setT : Tg → D → Env → Option Env
  | .v i, d, ρ => some (ρ.set i (some (.sh d)))
  | .t l, .tup ds, ρ => setTs l ds ρ
  | .t l, .tuk ds, ρ => setTs l ds ρ
  | .t _, _, _ => none
/-- a value to a target -/
def asgT : Tg → A → Env → Option Env
  | .v i, .ow s, ρ => some (ρ.set i (some s))
  | t, .sh d, ρ => setT t d ρ
  | _, _, _ => none
def frzE (i : Nat) (ρ : Env) : Env := match ρ[i]? with
  | some (some s) => ρ.set i (some (.sh s.d))
  | _ => ρ
/-- from an expression's end to a statement's -/
def R.toO {α : Type} (ρ : Env) (x : R α) (f : α → O) : O := match x with
  | .ok a => f a
  | .exc c d => .ex c d ρ
  | .bad => .bad
@[simp] theorem R.toO_ok {α : Type} (ρ : Env) (a : α) (f : α → O) : (R.ok a).toO ρ f = f a := id rfl
def optO (x : Option Env) : O := match x with
  | some ρ => .nx ρ
  | none => .bad
def retA (ρ : Env) : A → O
  | .bo i => match ρ[i]? with
    | some (some s) => .rt (.ow s)
    | _ => .bad
  | a => .rt a
/-- the items that a for walks -/
def items : D → R (List D)
  | .lst l => .ok l
  | .lfz l => .ok l
  | .tup l => .ok l
  | .tuk l => .ok l
  | .str l => .ok (l.map fun c => .str [c])
  | _ => .bad
def iota (lo : Int) (n : Nat) : List D := (List.range n).map fun i => .int (lo + (i : Nat))
def rng1D : D → R (List D)
  | .int j => if -4611686018427387904 ≤ j ∧ j < 4611686018427387904 then .ok (iota 0 j.toNat) else .bad
  | _ => .bad
def rng2D : D → D → R (List D)
  | .int i, .int j => if (-4611686018427387904 ≤ i ∧ i < 4611686018427387904) ∧ -4611686018427387904 ≤ j ∧ j < 4611686018427387904 then .ok (iota i (j - i).toNat) else .bad
  | _, _ => .bad
def evI (Γ : Fn) (ρ : Env) : Iz → R (List D)
  | .it e => (ev Γ e ρ).bind fun a => (kpA a).bind items
  | .rng1 a => (ev Γ a ρ).bind fun x => (rdA ρ x).bind rng1D
  | .rng2 a b => (ev Γ a ρ).bind fun x => (ev Γ b ρ).bind fun y => (rdA ρ x).bind fun x => (rdA ρ y).bind fun y => rng2D x y
/-- one turn after another -/
def forL (t : Tg) (f : Env → O) : List D → Env → O
  | [], ρ => .nx ρ
  | d :: r, ρ => match setT t d ρ with
    | none => .bad
    | some ρ => match f ρ with
      | .nx ρ => forL t f r ρ
      | .ct ρ => forL t f r ρ
      | .bk ρ => .nx ρ
      | o => o
def whlF (c : Env → R Bool) (f : Env → O) : Nat → Env → O
  | 0, _ => .bad
  | n + 1, ρ => (c ρ).toO ρ fun k => if k then (match f ρ with
      | .nx ρ => whlF c f n ρ
      | .ct ρ => whlF c f n ρ
      | .bk ρ => .nx ρ
      | o => o) else .nx ρ
def appE (i : Nat) (d : D) (ρ : Env) : O := match ρ[i]? with
  | some (some (.li l)) => if l.length < 16777216 then .nx (ρ.set i (some (.li (l ++ [d])))) else .bad
  | _ => .bad
def popE (t : Tg) (i : Nat) (ρ : Env) : O := match ρ[i]? with
  | some (some (.li l)) => (match l.getLast? with
    | some d => optO (setT t d (ρ.set i (some (.li l.dropLast))))
    | none => .bad)
  | _ => .bad
def subE (i : Nat) (k d : D) (ρ : Env) : O := match ρ[i]?, k with
  | some (some (.li l)), .int j => (match ixN l.length j with
    | some n => .nx (ρ.set i (some (.li (l.set n d))))
    | none => .bad)
  | _, _ => .bad
def augE (i : Nat) (d : D) (ρ : Env) : O := match ρ[i]?, d with
  | some (some (.sh (.int a))), .int b => .nx (ρ.set i (some (.sh (.int (a + b)))))
  | _, _ => .bad
/-- whether slot i owns a list -/
def isLi (i : Nat) (ρ : Env) : Bool := match ρ[i]? with
  | some (some (.li _)) => true
  | _ => false
/-- whether slot i holds an int -/
def isNu (i : Nat) (ρ : Env) : Bool := match ρ[i]? with
  | some (some (.sh (.int _))) => true
  | _ => false
def ifO (b : Bool) (o : O) : O := if b then o else .bad
mutual
def exC (Γ : Fn) : C → Env → O
  | .asg t e, ρ => (ev Γ e ρ).toO ρ fun a => optO (asgT t a ρ)
  | .sub i k e, ρ => ifO (isLi i ρ) ((ev Γ e ρ).toO ρ fun a => (kpA a).toO ρ fun d => (ev Γ k ρ).toO ρ fun b => (rdA ρ b).toO ρ fun k => subE i k d ρ)
  | .aug i e, ρ => ifO (isNu i ρ) ((ev Γ e ρ).toO ρ fun a => (rdA ρ a).toO ρ fun d => augE i d ρ)
  | .app i e, ρ => ifO (isLi i ρ) ((ev Γ e ρ).toO ρ fun a => (kpA a).toO ρ fun d => appE i d ρ)
  | .pop t i, ρ => popE t i ρ
  | .exp e, ρ => (ev Γ e ρ).toO ρ fun _ => .nx ρ
  | .ite c a b, ρ => (truA ρ (ev Γ c ρ)).toO ρ fun k => if k then exs Γ a ρ else exs Γ b ρ
  | .whl n c b, ρ => whlF (fun ρ => truA ρ (ev Γ c ρ)) (fun ρ => exs Γ b ρ) n ρ
  | .for t it b, ρ => (evI Γ ρ it).toO ρ fun ds => forL t (fun ρ => exs Γ b ρ) ds ρ
  | .ret e, ρ => (ev Γ e ρ).toO ρ (retA ρ)
  | .retn, _ => .rt (.sh .non)
  | .brk, ρ => .bk ρ
  | .cnt, ρ => .ct ρ
  | .pas, ρ => .nx ρ
def exs (Γ : Fn) : Cs → Env → O
  | .nil, ρ => .nx ρ
  | .cons c r, ρ => match exC Γ c ρ with
    | .nx ρ => exs Γ r ρ
    | o => o
  | .frz i r, ρ => exs Γ r (frzE i ρ)
end
/-- a def: arguments in, a value out -/
def runB (Γ : Fn) (n m : Nat) (b : Cs) (ds : List D) : R A :=
  if ds.length = n then (match exs Γ b (ds.map (fun d => some (.sh d)) ++ List.replicate m none) with
    | .nx _ => .ok (.sh .non)
    | .rt a => .ok a
    | .ex c d _ => .exc c d
    | _ => .bad) else .bad

/-! ### the checker -/
def chkLoc (c : Cc) (i : Nat) (x : Str) : Bool := decide (c.N[i]? = some x) && (match c.sc.lookup x with
  | some .local => true
  | some .cell => true
  | _ => false)
def chkTs (c : Cc) : List Nat → List Expr → Bool
  | [], [] => true
  | i :: is, .Name x _ :: es => chkLoc c i x && chkTs c is es
  | _, _ => false
def chkT (c : Cc) : Tg → Expr → Bool
  | .v i, .Name x _ => chkLoc c i x
  | .t l, .Tuple es _ _ => chkTs c l es
  | _, _ => false
def isTupE : Expr → Bool
  | .Tuple .. => true
  | _ => false
def isLcE : Expr → Bool
  | .ListComp .. => true
  | _ => false
def chkR1 (T : Tab) (c : Cc) (a : E) (e : Expr) : Bool := match e with
  | .Call (.Name x _) [a'] [] _ => chkBlt T c x "range" && chkE T c a a'
  | _ => false
def chkR2 (T : Tab) (c : Cc) (a b : E) (e : Expr) : Bool := match e with
  | .Call (.Name x _) [a', b'] [] _ => chkBlt T c x "range" && chkE T c a a' && chkE T c b b'
  | _ => false
def chkI (T : Tab) (c : Cc) : Iz → Expr → Bool
  | .it a, e => chkE T c a e
  | .rng1 a, e => chkR1 T c a e
  | .rng2 a b, e => chkR2 T c a b e
mutual
def chkS (T : Tab) (c : Cc) : C → Stmt → Bool
  | .asg t a, s => match s with
    | .Assign [tg] e _ => chkT c t tg && chkE T c a e && !isLcE e && (!isTupE tg || !isTupE e)
    | _ => false
  | .sub i k a, s => match s with
    | .Assign [.Subscript (.Name x _) j _] e _ => chkVar c i x && chkE T c k j && chkE T c a e && !isLcE e
    | _ => false
  | .aug i a, s => match s with
    | .AugAssign (.Name x _) op e _ => chkLoc c i x && decide (op = .Add) && chkE T c a e
    | _ => false
  | .app i a, s => match s with
    | .Expr (.Call (.Attribute (.Name x _) m ap) [e] [] p) _ => decide (m = "append") && (ap.endLine == p.line) && chkVar c i x && chkE T c a e
    | _ => false
  | .pop t i, s => match s with
    | .Assign [tg] (.Call (.Attribute (.Name x _) m ap) [] [] p) _ => decide (m = "pop") && (ap.endLine == p.line) && chkVar c i x && chkT c t tg
    | _ => false
  | .exp a, s => match s with
    | .Expr e _ => chkE T c a e && !isLcE e
    | _ => false
  | .ite a x y, s => match s with
    | .If e xs ys _ => chkE T c a e && chkSs T c x xs && chkSs T c y ys
    | _ => false
  | .whl _ a x, s => match s with
    | .While e xs [] _ => chkE T c a e && chkSs T c x xs
    | _ => false
  | .for t it x, s => match s with
    | .For tg e xs [] _ => chkT c t tg && chkI T c it e && chkSs T c x xs
    | _ => false
  | .ret a, s => match s with
    | .Return (some e) _ => chkE T c a e
    | _ => false
  | .retn, s => match s with
    | .Return none _ => true
    | _ => false
  | .brk, s => match s with
    | .Break _ => true
    | _ => false
  | .cnt, s => match s with
    | .Continue _ => true
    | _ => false
  | .pas, s => match s with
    | .Pass _ => true
    | _ => false
def chkSs (T : Tab) (c : Cc) : Cs → List Stmt → Bool
  | .nil, ss => match ss with
    | [] => true
    | _ => false
  | .cons a r, ss => match ss with
    | s :: ss => chkS T c a s && chkSs T c r ss
    | [] => false
  | .frz _ r, ss => chkSs T c r ss
end
end Z
/-! Statements: what a slot's change does; the wishes. -/
namespace Z
open PySem PySem.Spec L2

structure Tr (F H : Hp) (O : Addr → Prop) (F' H' : Hp) (O' : Addr → Prop) : Prop where
  ff : Same F F'
  keep : ∀ b o, H b = some o → ¬ O b → H' b = some o
  nw : ∀ b o, H b = some o → F b = none → ¬ O b → F' b = none
  own : ∀ b, O' b → O b ∨ H b = none
  there : ∀ b, H' b = none → H b = none
section
variable {G : Gx} {F H F1 H1 F2 H2 : Hp} {Oa Ob Oc : Addr → Prop}
theorem Ext.there (e : Ext F H F1 H1) (b : Addr) (h : H1 b = none) : H b = none := e.hh.free h
theorem Ext.tr (e : Ext F H F1 H1) : Tr F H Oa F1 H1 Oa := ⟨e.ff, fun b o h _ => e.hh b o h, fun b o h z _ => e.nw b o h z, fun _ h => .inl h, fun b h => e.hh.free h⟩
theorem Tr.trans (a : Tr F H Oa F1 H1 Ob) (b : Tr F1 H1 Ob F2 H2 Oc) : Tr F H Oa F2 H2 Oc where
  ff := a.ff.trans b.ff
  keep := fun c o h n => b.keep c o (a.keep c o h n) fun q => (a.own c q).elim n fun z => by rw [h] at z; cases z
  nw := fun c o h z n => b.nw c o (a.keep c o h n) (a.nw c o h z n) fun q => (a.own c q).elim n fun z => by rw [h] at z; cases z
  own := fun c h => (b.own c h).elim (a.own c) fun z => .inr (a.there c z)
  there := fun c h => a.there c (b.there c h)
theorem Tr.weak (a : Tr F H Oa F1 H1 Ob) (h : ∀ b, Oc b → Ob b) : Tr F H Oa F1 H1 Oc := ⟨a.ff, a.keep, a.nw, fun b q => a.own b (h b q), a.there⟩
variable {ρ : Env} {σ : St}
theorem get_set {α : Type} {l : List α} {i j : Nat} {a b : α} (h : (l.set i a)[j]? = some b) : (i = j ∧ i < l.length ∧ b = a) ∨ (i ≠ j ∧ l[j]? = some b) := by
  by_cases e : i = j
  · subst e
    by_cases hl : i < l.length
    · rw [List.getElem?_set_self hl] at h
      exact .inl ⟨rfl, hl, (Option.some.inj h).symm⟩
    · have : (l.set i a)[i]? = none := by rw [List.getElem?_eq_none_iff, List.length_set]; omega
      rw [this] at h; cases h
  · rw [List.getElem?_set_ne e] at h
    exact .inr ⟨e, h⟩
theorem Ow.set_sh {i : Nat} {d : D} {v : V} {b : Addr} (h : Ow (ρ.set i (some (.sh d))) (σ.set i (some v)) b) : Ow ρ σ b := by
  obtain ⟨j, s, h1, h2, h3⟩ := h
  rcases get_set h1 with ⟨e, _, z⟩ | ⟨e, z⟩
  · cases z; cases h2
  · rw [List.getElem?_set_ne e] at h3
    exact ⟨j, s, z, h2, h3⟩
theorem Stt.set_sh (S : Stt G F ρ σ H) {v : V} {d : D} (r : Rp G F v d) (i : Nat) : Stt G F (ρ.set i (some (.sh d))) (σ.set i (some v)) H where
  sub := S.sub
  len := by rw [List.length_set, List.length_set, S.len]
  sh := fun j e h => by
    rcases get_set h with ⟨q, hl, z⟩ | ⟨q, z⟩
    · cases z
      subst q
      exact ⟨v, by rw [List.getElem?_set_self (by rw [← S.len]; exact hl)], r⟩
    · rw [List.getElem?_set_ne q]
      exact S.sh j e z
  ow := fun j s h o => by
    rcases get_set h with ⟨q, hl, z⟩ | ⟨q, z⟩
    · cases z; cases o
    · rw [List.getElem?_set_ne q]
      exact S.ow j s z o
  inj := fun j k s t p h1 o1 h2 o2 h3 h4 => by
    rcases get_set h1 with ⟨q, hl, z⟩ | ⟨q, z⟩
    · cases z; cases o1
    · rcases get_set h2 with ⟨q', hl', z'⟩ | ⟨q', z'⟩
      · cases z'; cases o2
      · rw [List.getElem?_set_ne q] at h3
        rw [List.getElem?_set_ne q'] at h4
        exact S.inj j k s t p z o1 z' o2 h3 h4
theorem Stt.set_ow (S : Stt G F ρ σ H) {p : Addr} {s : Z.S} (o : s.isOwn = true) (n : ¬ Ow ρ σ p) (hf : F p = none) (ho : OwnsAt G F H p s) (i : Nat) : Stt G F (ρ.set i (some s)) (σ.set i (some (.ref p))) H where
  sub := S.sub
  len := by rw [List.length_set, List.length_set, S.len]
  sh := fun j e h => by
    rcases get_set h with ⟨q, hl, z⟩ | ⟨q, z⟩
    · have z := Option.some.inj z
      subst z; cases o
    · rw [List.getElem?_set_ne q]
      exact S.sh j e z
  ow := fun j t h o' => by
    rcases get_set h with ⟨q, hl, z⟩ | ⟨q, z⟩
    · have z := Option.some.inj z
      subst z q
      exact ⟨p, by rw [List.getElem?_set_self (by rw [← S.len]; exact hl)], hf, ho⟩
    · rw [List.getElem?_set_ne q]
      exact S.ow j t z o'
  inj := fun j k t u b h1 o1 h2 o2 h3 h4 => by
    rcases get_set h1 with ⟨q, hl, z⟩ | ⟨q, z⟩
    · rcases get_set h2 with ⟨q', hl', z'⟩ | ⟨q', z'⟩
      · exact q.symm.trans q'
      · subst q
        rw [List.getElem?_set_self (by rw [← S.len]; exact hl)] at h3
        cases h3
        rw [List.getElem?_set_ne q'] at h4
        exact absurd ⟨k, u, z', o2, h4⟩ n
    · rcases get_set h2 with ⟨q', hl', z'⟩ | ⟨q', z'⟩
      · subst q'
        rw [List.getElem?_set_self (by rw [← S.len]; exact hl')] at h4
        cases h4
        rw [List.getElem?_set_ne q] at h3
        exact absurd ⟨j, t, z, o1, h3⟩ n
      · rw [List.getElem?_set_ne q] at h3
        rw [List.getElem?_set_ne q'] at h4
        exact S.inj j k t u b z o1 z' o2 h3 h4
theorem Ow.set_ow {i : Nat} {s : Z.S} {p b : Addr} (h : Ow (ρ.set i (some s)) (σ.set i (some (.ref p))) b) : Ow ρ σ b ∨ b = p := by
  obtain ⟨j, t, h1, h2, h3⟩ := h
  rcases get_set h1 with ⟨e, _, z⟩ | ⟨e, z⟩
  · rcases get_set h3 with ⟨_, _, y⟩ | ⟨e', _⟩
    · cases y; exact .inr rfl
    · exact absurd e e'
  · rw [List.getElem?_set_ne e] at h3
    exact .inl ⟨j, t, z, h2, h3⟩
/-- what the i-th slot owns is written -/
theorem Stt.write (S : Stt G F ρ σ H) {i : Nat} {s t : Z.S} {p : Addr} {o : HO} (h1 : ρ[i]? = some (some s)) (h2 : s.isOwn = true) (h3 : σ[i]? = some (some (.ref p))) (ot : t.isOwn = true) (ho : OwnsAt G F (upd H p o) p t) :
    Stt G F (ρ.set i (some t)) σ (upd H p o) ∧ Tr F H (Ow ρ σ) F (upd H p o) (Ow (ρ.set i (some t)) σ) := by
  obtain ⟨p', h4, hf, hown⟩ := S.ow i s h1 h2
  rw [h3] at h4
  cases h4
  obtain ⟨ob, hp⟩ := hown.some
  have sub : Same F (upd H p o) := fun b u z => by
    rw [upd_ne (ne_of_none z hf)]; exact S.sub _ _ z
  have back : ∀ (j : Nat) (u : Z.S), (ρ.set i (some t))[j]? = some (some u) → u.isOwn = true → ∃ u' : Z.S, ρ[j]? = some (some u') ∧ u'.isOwn = true := fun j u h o' => by
    rcases get_set h with ⟨q, hl, z⟩ | ⟨q, z⟩
    · subst q; exact ⟨s, h1, h2⟩
    · exact ⟨u, z, o'⟩
  refine ⟨⟨sub, by rw [List.length_set, S.len], fun j e h => ?_, fun j u h o' => ?_, fun j k u w b a1 o1 a2 o2 a3 a4 => ?_⟩, ⟨Same.refl _, fun b u z n => ?_, fun b u z y n => y, fun b hb => ?_, fun b hb => ?_⟩⟩
  · rcases get_set h with ⟨q, hl, z⟩ | ⟨q, z⟩
    · have z := Option.some.inj z
      subst z; cases ot
    · exact S.sh j e z
  · rcases get_set h with ⟨q, hl, z⟩ | ⟨q, z⟩
    · have z := Option.some.inj z
      subst z q
      exact ⟨p, h3, hf, ho⟩
    · obtain ⟨b, y1, y2, y3⟩ := S.ow j u z o'
      refine ⟨b, y1, y2, y3.mono (Same.refl _) fun ob z' => ?_⟩
      rw [upd_ne ?_]; exact z'
      rintro rfl
      exact q (S.inj i j s u _ h1 h2 z o' h3 y1)
  · obtain ⟨u', b1, b2⟩ := back j u a1 o1
    obtain ⟨w', b3, b4⟩ := back k w a2 o2
    exact S.inj j k u' w' b b1 b2 b3 b4 a3 a4
  · rw [upd_ne ?_]; exact z
    rintro rfl
    exact n ⟨i, s, h1, h2, h3⟩
  · obtain ⟨j, u, c1, c2, c3⟩ := hb
    obtain ⟨u', b1, b2⟩ := back j u c1 c2
    exact .inl ⟨j, u', b1, b2, c3⟩
  · by_cases e : b = p
    · subst e; rw [upd_same] at hb; cases hb
    · rw [upd_ne e] at hb; exact hb
/-- what the i-th slot owns is frozen -/
theorem Stt.freeze (S : Stt G F ρ σ H) {i : Nat} {s : Z.S} (h1 : ρ[i]? = some (some s)) (h2 : s.isOwn = true) : ∃ F', Stt G F' (ρ.set i (some (.sh s.d))) σ H ∧ Tr F H (Ow ρ σ) F' H (Ow (ρ.set i (some (.sh s.d))) σ) := by
  obtain ⟨p, h3, hf, hown⟩ := S.ow i s h1 h2
  obtain ⟨o, hp⟩ := hown.some
  have e4 : Same F (upd F p o) := fun b u z => by rw [upd_ne (ne_of_none z hf)]; exact z
  have sub : Same (upd F p o) H := fun b u z => by
    by_cases hb : b = p
    · subst hb; rw [upd_same] at z; rw [hp]; exact z
    · rw [upd_ne hb] at z; exact S.sub _ _ z
  have back : ∀ (j : Nat) (u : Z.S), (ρ.set i (some (.sh s.d)))[j]? = some (some u) → u.isOwn = true → j ≠ i ∧ ρ[j]? = some (some u) := fun j u h o' => by
    rcases get_set h with ⟨q, hl, z⟩ | ⟨q, z⟩
    · cases z; cases o'
    · exact ⟨Ne.symm q, z⟩
  have rp : Rp G (upd F p o) (.ref p) s.d := by
    cases s with
    | sh d => exact hown.elim
    | li l =>
      obtain ⟨vs, hv, q⟩ := hown
      rw [hv] at hp; cases hp
      exact .lst upd_same (q.mono e4)
    | di l =>
      rcases hown with ⟨k, hv, q⟩ | ⟨k, hv, q⟩
      · rw [hv] at hp; cases hp
        exact .dic (.of upd_same) (q.mono e4)
      · rw [hv] at hp; cases hp
        exact .dit (.of upd_same) (q.mono e4)
  refine ⟨upd F p o, ⟨sub, by rw [List.length_set, S.len], fun j e h => ?_, fun j u h o' => ?_, fun j k u w b a1 o1 a2 o2 a3 a4 => ?_⟩, ⟨e4, fun b u z n => z, fun b u z y n => ?_, fun b hb => ?_, fun b hb => hb⟩⟩
  · rcases get_set h with ⟨q, hl, z⟩ | ⟨q, z⟩
    · cases z
      subst q
      exact ⟨_, h3, rp⟩
    · obtain ⟨v, y1, y2⟩ := S.sh j e z
      exact ⟨v, y1, y2.mono e4⟩
  · obtain ⟨q, z⟩ := back j u h o'
    obtain ⟨b, y1, y2, y3⟩ := S.ow j u z o'
    refine ⟨b, y1, ?_, y3.mono e4 fun _ z => z⟩
    rw [upd_ne ?_]; exact y2
    rintro rfl
    exact q (S.inj j i u s _ z o' h1 h2 y1 h3)
  · exact S.inj j k u w b (back j u a1 o1).2 o1 (back k w a2 o2).2 o2 a3 a4
  · rw [upd_ne ?_]; exact y
    rintro rfl
    exact n ⟨i, s, h1, h2, h3⟩
  · obtain ⟨j, u, c1, c2, c3⟩ := hb
    exact .inl ⟨j, u, (back j u c1 c2).2, c2, c3⟩
end

/-- what a return hands out -/
def RR (G : Gx) (H₀ : Hp) (O : Addr → Prop) (F H : Hp) (v : V) : A → Prop
  | .sh d => Rp G F v d
  | .ow s => ∃ p, v = .ref p ∧ (H₀ p = none ∨ O p) ∧ F p = none ∧ OwnsAt G F H p s
  | .bo _ => False
def PO (G : Gx) (W : WX) (σ : St) (ρ : Env) (F H : Hp) (D' : Ends) : O → Prop
  | .nx ρ' => ∀ σ' F' H', Tr F H (Ow ρ σ) F' H' (Ow ρ' σ') → Stt G F' ρ' σ' H' → D'.nx σ' H'
  | .rt a => ∀ v F' H', Tr F H (Ow ρ σ) F' H' (fun _ => False) → Same F' H' → RR G H (Ow ρ σ) F' H' v a → D'.rt v H'
  | .bk ρ' => ∀ σ' F' H', Tr F H (Ow ρ σ) F' H' (Ow ρ' σ') → Stt G F' ρ' σ' H' → D'.bk σ' H'
  | .ct ρ' => ∀ σ' F' H', Tr F H (Ow ρ σ) F' H' (Ow ρ' σ') → Stt G F' ρ' σ' H' → D'.ct σ' H'
  | .ex c d ρ' => ∀ σ' F' H' dd v, Tr F H (Ow ρ σ) F' H' (Ow ρ' σ') → Stt G F' ρ' σ' H' → H' dd = some (.xd [(("at" : Str), v)]) → Rp G F' v d → W (.ref (He.ga G.K (G.cn c))) (some dd) σ' H'
  | .bad => False
def SX (G : Gx) (X : Cx) (W : WX) (s : Stmt) (g : Env → O) : Prop := ∃ t, PS X s t ∧ ∀ σ H F ρ D', Stt G F ρ σ H → PO G W σ ρ F H D' (g ρ) → t D' σ H
def BX (G : Gx) (X : Cx) (W : WX) (s : List Stmt) (g : Env → O) : Prop := ∃ t, PSs X s t ∧ ∀ σ H F ρ D', Stt G F ρ σ H → PO G W σ ρ F H D' (g ρ) → t D' σ H
section
variable {G : Gx} {W : WX} {σ σ1 : St} {ρ ρ1 : Env} {F H F1 H1 : Hp} {D' : Ends}
theorem PO.step {o : O} (t : Tr F H (Ow ρ σ) F1 H1 (Ow ρ1 σ1)) (h : PO G W σ ρ F H D' o) : PO G W σ1 ρ1 F1 H1 D' o := by
  cases o with
  | nx ρ' => exact fun σ' F' H' t' S => h σ' F' H' (t.trans t') S
  | bk ρ' => exact fun σ' F' H' t' S => h σ' F' H' (t.trans t') S
  | ct ρ' => exact fun σ' F' H' t' S => h σ' F' H' (t.trans t') S
  | ex c d ρ' => exact fun σ' F' H' dd v t' S => h σ' F' H' dd v (t.trans t') S
  | bad => exact h
  | rt a =>
    intro v F' H' t' sub r
    refine h v F' H' (t.trans t') sub ?_
    cases a with
    | sh d => exact r
    | bo i => exact r
    | ow s =>
      obtain ⟨p, q1, q2, q3⟩ := r
      refine ⟨p, q1, ?_, q3⟩
      rcases q2 with q2 | q2
      · exact .inl (t.there _ q2)
      · exact (t.own _ q2).symm
theorem PO.ext {o : O} (e : Ext F H F1 H1) (h : PO G W σ ρ F H D' o) : PO G W σ ρ F1 H1 D' o := PO.step e.tr h
/-- an expression first -/
theorem PO.bindE {x : R A} {k : A → O} {Qa : VK} (S : Stt G F ρ σ H) (h : PO G W σ ρ F H D' (x.toO ρ k)) (hk : ∀ a v F1 H1, Ext F H F1 H1 → RA G σ ρ H F1 H1 v a → PO G W σ ρ F H D' (k a) → Qa v H1) : PE' G W σ ρ F H Qa x := by
  cases x with
  | ok a => exact fun v F' H' e q => hk a v F' H' e q h
  | exc c d => exact fun F' H' dd v e q r => h σ F' H' dd v e.tr (S.ext e) q r
  | bad => exact h
theorem PO.bindT {x : R Bool} {k : Bool → O} {Qa : Bool → Hp → Prop} (S : Stt G F ρ σ H) (h : PO G W σ ρ F H D' (x.toO ρ k)) (hk : ∀ a F1 H1, Ext F H F1 H1 → PO G W σ ρ F H D' (k a) → Qa a H1) : PT' G W σ F H Qa x := by
  cases x with
  | ok a => exact fun F' H' e => hk a F' H' e h
  | exc c d => exact fun F' H' dd v e q r => h σ F' H' dd v e.tr (S.ext e) q r
  | bad => exact h
theorem PO.pure {β : Type} {x : R β} {k : β → O} (hx : x.mild) (h : PO G W σ ρ F H D' (x.toO ρ k)) : ∃ b, x = .ok b ∧ PO G W σ ρ F H D' (k b) := by
  cases x with
  | ok b => exact ⟨b, rfl, h⟩
  | exc c d => exact hx.elim
  | bad => exact h.elim
/-- a step of the expression, the wish as it was -/
theorem PE'.imp {Q Q' : VK} {x : R A} (h : PE' G W σ ρ F H Q x) (hk : ∀ v H, Q v H → Q' v H) : PE' G W σ ρ F H Q' x := by
  cases x with
  | ok a => exact fun v F' H' e q => hk _ _ (h v F' H' e q)
  | exc c d => exact h
  | bad => exact h
end
end Z
/-! Statements are worth what the evaluator says. -/
namespace Z
open PySem PySem.Spec L2
structure GoodS (T : Tab) (c : Cc) (G : Gx) (Γ : Fn) (X : Cx) : Prop extends Good T c G Γ X where
  po : PassesOwn (model X.prog X.w) X.A X.env X.xe
section
variable {T : Tab} {c : Cc} {G : Gx} {Γ : Fn} {X : Cx} {W : WX} {σ : St} {ρ : Env} {F H F1 H1 : Hp}
theorem loc_of (hG : Good T c G Γ X) {i : Nat} {x : Str} (h : chkLoc c i x = true) : X.N.Nodup ∧ X.N[i]? = some x ∧ Loc X.env.scope x ∧ (X.fn x = true ∨ X.env.scope.names.lookup x = some .local) := by
  obtain ⟨h1, h2⟩ := and_bool h
  have h1 := of_decide_eq_true h1
  refine ⟨by rw [hG.N]; exact hG.nd, by rw [hG.N]; exact h1, ?_⟩
  cases q : c.sc.lookup x with
  | none => rw [q] at h2; cases h2
  | some k =>
    rw [q] at h2
    cases k <;> first | cases h2 | skip
    · exact ⟨.inl (hG.loc x q), .inr (hG.loc x q)⟩
    · exact ⟨.inr (hG.cel x q).1, .inl (hG.cel x q).2⟩
theorem swaps_head {e : Expr} (h : okHead e = true) (l : isLcE e = false) (tg : Option Expr) (n : Nat) (env : PySem.Env) : swapsWith e tg n env = pure false := by
  cases e <;> first | rfl | exact Bool.noConfusion (show true = false from l) | cases h
theorem fold_head {e : Expr} (h : okHead e = true) (env : PySem.Env) (x : Value) : foldedSetIterable e env x = pure x := by
  cases e <;> first | rfl | cases h
theorem attr_head {e : Expr} {x : Str} {p : Pos} {m : Str} {env : PySem.Env} (w : Sem Value) : attributeBase (.Name x p) m env w = w := rfl
/-! ### targets -/
def GX (G : Gx) (X : Cx) (tg : Expr) (t : Tg) : Prop := ∃ g, PG X tg g ∧ ∀ v d σ H F ρ ρ' Q, Stt G F ρ σ H → Rp G F v d → setT t d ρ = some ρ' → (∀ σ', Stt G F ρ' σ' H → (∀ b, Ow ρ' σ' b → Ow ρ σ b) → Q σ' H) → g v σ H Q
def GXs (G : Gx) (X : Cx) (tg : List Expr) (t : List Nat) : Prop := ∃ g, PGs X tg g ∧ ∀ vs ds σ H F ρ ρ' Q, Stt G F ρ σ H → Rps G F vs ds → setTs t ds ρ = some ρ' → (∀ σ', Stt G F ρ' σ' H → (∀ b, Ow ρ' σ' b → Ow ρ σ b) → Q σ' H) → g vs σ H Q
theorem gxs (hG : Good T c G Γ X) : ∀ (t : List Nat) (tg : List Expr), chkTs c t tg = true → GXs G X tg t ∧ (assignEach tg X.env).length = tg.length ∧ (assignEach tg X.env).findIdx? (·.1) = none ∧ t.length = tg.length
  | [], [], _ => ⟨⟨_, pgs_nil, fun vs ds σ H F ρ ρ' Q S r h w => by
      cases r with
      | nil =>
        obtain rfl : ρ = ρ' := by simpa [setTs] using h
        exact ⟨rfl, w σ S fun _ z => z⟩
      | cons _ _ => cases h⟩, rfl, rfl, rfl⟩
  | [], _ :: _, h => by cases h
  | _ :: _, [], h => by cases h
  | i :: is, e :: es, h => by
    cases e <;> first | cases h | skip
    rename_i x p
    obtain ⟨h1, h2⟩ := and_bool (show (chkLoc c i x && chkTs c is es) = true from h)
    obtain ⟨⟨g, pg, qg⟩, l1, l2, l3⟩ := gxs hG is es h2
    obtain ⟨a1, a2, a3, a4⟩ := loc_of hG h1
    refine ⟨⟨_, pgs_cons (pg_name a1 a2 a3 a4) pg rfl, fun vs ds σ H F ρ ρ' Q S r h w => ?_⟩, ?_, ?_, ?_⟩
    · cases r with
      | nil => cases h
      | cons r rs =>
        rename_i v d vs ds
        refine ⟨v, vs, rfl, ?_⟩
        have h' : setTs is ds (ρ.set i (some (.sh d))) = some ρ' := h
        exact qg vs ds _ H F _ ρ' Q (S.set_sh r i) rs h' fun σ' S' k => w σ' S' fun b z => Ow.set_sh (k b z)
    · show (assignEach es X.env).length + 1 = _
      rw [l1]; rfl
    · show ((false, _) :: assignEach es X.env).findIdx? (·.1) = none
      rw [List.findIdx?_cons]
      simp [l2]
    · simp [l3]
theorem gx (hG : Good T c G Γ X) : ∀ (t : Tg) (tg : Expr), chkT c t tg = true → GX G X tg t
  | .v i, tg, h => by
    cases tg <;> first | cases h | skip
    obtain ⟨a1, a2, a3, a4⟩ := loc_of hG (show chkLoc c i _ = true from h)
    refine ⟨_, pg_name a1 a2 a3 a4, fun v d σ H F ρ ρ' Q S r h w => ?_⟩
    obtain rfl : ρ.set i (some (.sh d)) = ρ' := by simpa [setT] using h
    exact w _ (S.set_sh r i) fun b z => Ow.set_sh z
  | .t l, tg, h => by
    cases tg <;> first | cases h | skip
    rename_i es k p
    obtain ⟨⟨g, pg, qg⟩, l1, l2, l3⟩ := gxs hG l es (show chkTs c l es = true from h)
    refine ⟨_, pg_tup hG.calm pg l1 l2, fun v d σ H F ρ ρ' Q S r h w => ?_⟩
    have len : ∀ (l : List Nat) (ds : List D) (ρ ρ' : Env), setTs l ds ρ = some ρ' → ds.length = l.length := by
      intro l
      induction l with
      | nil => intro ds ρ ρ' h; cases ds <;> first | rfl | cases h
      | cons i is ih =>
        intro ds ρ ρ' h
        cases ds with
        | nil => cases h
        | cons d ds => rw [List.length_cons, List.length_cons, ih ds _ _ h]
    cases d <;> first | cases h | skip
    · rename_i ds
      cases r with
      | tup ha rs =>
        rename_i a vs
        have h' : setTs l ds ρ = some ρ' := h
        exact ⟨a, vs, rfl, SqT.of (S.sub _ _ ha), by rw [rs.length, len _ _ _ _ h', l3], qg vs ds σ H F ρ ρ' Q S rs h' w⟩
    · rename_i ds
      cases r with
      | tuk ha rs =>
        rename_i a vs
        have h' : setTs l ds ρ = some ρ' := h
        exact ⟨a, vs, rfl, by rw [hG.K]; exact Same.seqT S.sub ha, by rw [rs.length, len _ _ _ _ h', l3], qg vs ds σ H F ρ ρ' Q S rs h' w⟩
/-- one value kept -/
theorem RA.keep {v : V} {a : A} {d : D} (S : Stt G F ρ σ H) (e : Ext F H F1 H1) (r : RA G σ ρ H F1 H1 v a) (h : kpA a = .ok d) : ∃ F2, Ext F H F2 H1 ∧ Same F1 F2 ∧ Rp G F2 v d := by
  obtain ⟨F2, e1, e2, e3, r2⟩ := RAs.keep (S.ext e) e.hh (fun b => e.hh.free) (.cons r .nil) (show kps [a] = .ok [d] by simp [kps, h])
  cases r2 with
  | cons r2 _ => exact ⟨F2, ⟨e.ff.trans e1, e.hh, e2, fun b o z1 z2 => e3 b o z1 (e.nw b o z1 z2)⟩, e1, r2⟩
/-- a value comes to a name -/
theorem set_name {i : Nat} {v : V} {a : A} {ρ' : Env} {D' : Ends} (S : Stt G F ρ σ H) (e : Ext F H F1 H1) (r : RA G σ ρ H F1 H1 v a) (h : asgT (.v i) a ρ = some ρ') (w : PO G W σ ρ F H D' (.nx ρ')) : D'.nx (σ.set i (some v)) H1 := by
  have S1 := S.ext e
  cases a with
  | bo j => cases h
  | sh d =>
    obtain rfl : ρ.set i (some (.sh d)) = ρ' := by simpa [asgT, setT] using h
    exact w _ F1 H1 (Tr.weak e.tr fun b z => Ow.set_sh z) (S1.set_sh r i)
  | ow s =>
    obtain rfl : ρ.set i (some s) = ρ' := by simpa [asgT] using h
    obtain ⟨p, rfl, h0, hf, ho⟩ := r
    have so : s.isOwn = true := by cases s <;> first | rfl | exact ho.elim
    have no : ¬ Ow ρ σ p := fun ⟨j, t, c1, c2, c3⟩ => by
      obtain ⟨q, d1, d2, d3⟩ := S.ow j t c1 c2
      rw [c3] at d1; cases d1
      obtain ⟨ob, hp⟩ := d3.some
      rw [h0] at hp; cases hp
    refine w _ F1 H1 ⟨e.ff, fun b o z _ => e.hh b o z, fun b o z y _ => e.nw b o z y, fun b hb => ?_, fun b z => e.hh.free z⟩ (S1.set_ow so no hf ho i)
    rcases Ow.set_ow hb with z | z
    · exact .inl z
    · subst z; exact .inr h0
theorem sx_asgV (hG : Good T c G Γ X) {i : Nat} {x : Str} {p pos : Pos} {e : Expr} {f : Env → R A} (h : chkLoc c i x = true) (he : okHead e = true) (hl : isLcE e = false) (hf : EX G X W e f) : SX G X W (.Assign [.Name x p] e pos) (fun ρ => (f ρ).toO ρ fun a => optO (asgT (.v i) a ρ)) := by
  obtain ⟨a1, a2, a3, a4⟩ := loc_of hG h
  obtain ⟨t, pe, q⟩ := hf
  refine ⟨_, ps_set a1 a2 a3 pe (swaps_head he hl _ _ _) a4, fun σ H F ρ D' S w => ?_⟩
  refine q σ H F ρ _ S (PO.bindE S w fun a v F1 H1 e1 r1 w1 => ?_)
  cases z : asgT (.v i) a ρ with
  | none => rw [z] at w1; exact w1.elim
  | some ρ' => rw [z] at w1; exact set_name S e1 r1 z w1
theorem sx_asgT (hG : Good T c G Γ X) {l : List Nat} {es : List Expr} {k : Nat} {p pos : Pos} {e : Expr} {f : Env → R A} (h : chkT c (.t l) (.Tuple es k p) = true) (he : okHead e = true) (hl : isLcE e = false) (ht : isTupE e = false) (hf : EX G X W e f) :
    SX G X W (.Assign [.Tuple es k p] e pos) (fun ρ => (f ρ).toO ρ fun a => optO (asgT (.t l) a ρ)) := by
  obtain ⟨g, pg, qg⟩ := gx hG _ _ h
  obtain ⟨t, pe, q⟩ := hf
  have hw : swappedStores [.Tuple es k p] e X.env = pure none := by cases e <;> first | rfl | cases ht
  refine ⟨_, ps_asg pe pg (show swapsWith e (some (.Tuple es k p)) pos.line X.env = pure false from swaps_head he hl _ _ _) hw rfl, fun σ H F ρ D' S w => ?_⟩
  refine q σ H F ρ _ S (PO.bindE S w fun a v F1 H1 e1 r1 w1 => ?_)
  cases z : asgT (.t l) a ρ with
  | none => rw [z] at w1; exact w1.elim
  | some ρ' =>
    rw [z] at w1
    have S1 := S.ext e1
    cases a with
    | bo j => cases z
    | ow s => cases z
    | sh d => exact qg v d σ H1 F1 ρ ρ' D'.nx S1 r1 z fun σ' S' k => w1 σ' F1 H1 (Tr.weak e1.tr k) S'
theorem sx_exp {e : Expr} {pos : Pos} {f : Env → R A} (he : okHead e = true) (hl : isLcE e = false) (hf : EX G X W e f) : SX G X W (.Expr e pos) (fun ρ => (f ρ).toO ρ fun _ => .nx ρ) := by
  obtain ⟨t, pe, q⟩ := hf
  refine ⟨_, ps_expr pe (swaps_head he hl _ _ _), fun σ H F ρ D' S w => ?_⟩
  exact q σ H F ρ _ S (PO.bindE S w fun a v F1 H1 e1 r1 w1 => w1 σ F1 H1 e1.tr (S.ext e1))
theorem ifO_of {b : Bool} {o : O} {D' : Ends} (w : PO G W σ ρ F H D' (ifO b o)) : b = true ∧ PO G W σ ρ F H D' o := by
  cases b with
  | true => exact ⟨rfl, w⟩
  | false => exact w.elim
theorem sx_aug (hG : Good T c G Γ X) {i : Nat} {x : Str} {p pos : Pos} {e : Expr} {f : Env → R A} (h : chkLoc c i x = true) (hf : EX G X W e f) : SX G X W (.AugAssign (.Name x p) .Add e pos) (fun ρ => ifO (isNu i ρ) ((f ρ).toO ρ fun a => (rdA ρ a).toO ρ fun d => augE i d ρ)) := by
  obtain ⟨a1, a2, a3, a4⟩ := loc_of hG h
  obtain ⟨t, pe, q⟩ := hf
  refine ⟨_, ps_aug a1 a2 a3 pe ip_add a4, fun σ H F ρ D' S w => ?_⟩
  obtain ⟨hn, w⟩ := ifO_of w
  obtain ⟨m, hm⟩ : ∃ m, ρ[i]? = some (some (.sh (.int m))) := by
    unfold isNu at hn
    split at hn
    · rename_i m hm; exact ⟨m, hm⟩
    · cases hn
  obtain ⟨v, hv, rv⟩ := S.sh i _ hm
  cases rv
  refine ⟨_, hv, q σ H F ρ _ S (PO.bindE S w fun a u F1 H1 e1 r1 w1 => ?_)⟩
  have S1 := S.ext e1
  obtain ⟨d, hd, w1⟩ := PO.pure (rdA_mild a) w1
  unfold augE at w1
  rw [hm] at w1
  split at w1
  · rename_i m' n hm' 
    cases hm'
    obtain rfl := (r1.vw S1 hd).int
    exact ⟨_, _, rfl, rfl, w1 _ F1 H1 (Tr.weak e1.tr fun b z => Ow.set_sh z) (S1.set_sh (.int _) i)⟩
  · exact w1.elim
theorem li_of (S : Stt G F ρ σ H) {i : Nat} (h : isLi i ρ = true) : ∃ l p vs, ρ[i]? = some (some (.li l)) ∧ σ[i]? = some (some (.ref p)) ∧ H p = some (.lst vs) ∧ Rps G F vs l := by
  unfold isLi at h
  split at h
  · rename_i l hl
    obtain ⟨p, h1, h2, vs, h3, h4⟩ := S.ow i _ hl rfl
    exact ⟨l, p, vs, hl, h1, h3, h4⟩
  · cases h
theorem sx_app (hG : Good T c G Γ X) {i : Nat} {x m : Str} {p ap cp pos : Pos} {e : Expr} {f : Env → R A} (hm : m = "append") (hline : (ap.endLine == cp.line) = true) (h : chkVar c i x = true) (he : okHead e = true) (hf : EX G X W e f) :
    SX G X W (.Expr (.Call (.Attribute (.Name x p) m ap) [e] [] cp) pos) (fun ρ => ifO (isLi i ρ) ((f ρ).toO ρ fun a => (kpA a).toO ρ fun d => appE i d ρ)) := by
  subst hm
  obtain ⟨h, h4⟩ := and_bool h
  obtain ⟨h, h3⟩ := and_bool h
  obtain ⟨h1, h2⟩ := and_bool h
  have h1 := of_decide_eq_true h1
  have pv : PE X (.Name x p) (tVar i) := pe_var (i := i) (by rw [hG.N]; exact h1) (hG.vis x h2) (by simpa using h3) (by simpa using h4)
  obtain ⟨t, pe, q⟩ := hf
  have st := star_head (es := []) (env := X.env) he
  refine ⟨_, ps_expr (pe_bm PySem.F.plainAttrs_list PySem.F.slot_list_append PySem.F.type_list_append mt_append pv (pa_cons pe pa_nil st) rfl (by rw [st]; rfl) hline st rfl) rfl, fun σ H F ρ D' S w => ?_⟩
  obtain ⟨hn, w⟩ := ifO_of w
  obtain ⟨l, pp, vs, g1, g2, g3, g4⟩ := li_of S hn
  refine ⟨_, g2, .inl ⟨rfl, vs, hG.K ▸ SqL.of g3⟩, ?_⟩
  refine q σ H F ρ _ S (PO.bindE S w fun a u F1 H1 e1 r1 w1 => ?_)
  obtain ⟨d, hd, w1⟩ := PO.pure (kpA_mild a) w1
  obtain ⟨F2, e2, f2, rd⟩ := RA.keep S e1 r1 hd
  have S2 := S.ext e2
  unfold appE at w1
  rw [g1] at w1
  have w2 : PO G W σ ρ F H D' (if l.length < 16777216 then .nx (ρ.set i (some (.li (l ++ [d])))) else .bad) := w1
  split at w2
  · rename_i hl
    have g5 := e2.hh _ _ g3
    have g6 := g4.mono e2.ff
    refine ⟨pp, vs, u, rfl, rfl, g5, by rw [g6.length, sizeLine_eq]; exact hl, ?_⟩
    obtain ⟨S3, t3⟩ := S2.write (t := .li (l ++ [d])) (o := .lst (vs ++ [u])) g1 rfl g2 rfl ⟨_, upd_same, g6.append (.one rd)⟩
    exact w2 σ _ _ (e2.tr.trans t3) S3
  · exact w2.elim
end
end Z
/-! Statements: the theorem. -/
namespace Z
open PySem PySem.Spec L2
section
variable {T : Tab} {c : Cc} {G : Gx} {Γ : Fn} {X : Cx} {W : WX} {σ : St} {ρ : Env} {F H F1 H1 : Hp}
theorem pv_of (hG : Good T c G Γ X) {i : Nat} {x : Str} {p : Pos} (h : chkVar c i x = true) : PE X (.Name x p) (tVar i) := by
  obtain ⟨h, h4⟩ := and_bool h
  obtain ⟨h, h3⟩ := and_bool h
  obtain ⟨h1, h2⟩ := and_bool h
  have h1 := of_decide_eq_true h1
  exact pe_var (i := i) (by rw [hG.N]; exact h1) (hG.vis x h2) (by simpa using h3) (by simpa using h4)
theorem pop_pe (hG : Good T c G Γ X) {i : Nat} {x m : Str} {p ap cp : Pos} (hm : m = "pop") (hline : (ap.endLine == cp.line) = true) (h : chkVar c i x = true) :
    PE X (.Call (.Attribute (.Name x p) m ap) [] [] cp) (tBM0 X.K "list" rPop (tVar i)) := by
  subst hm
  exact pe_bm0 PySem.F.plainAttrs_list PySem.F.slot_list_pop PySem.F.type_list_pop mt_pop (pv_of hG h) rfl hline
/-- xs.pop(), the value to a target -/
theorem sx_pop (hG : Good T c G Γ X) {t : Tg} {tg : Expr} {i : Nat} {x m : Str} {p ap cp pos : Pos} (hm : m = "pop") (hline : (ap.endLine == cp.line) = true) (h : chkVar c i x = true) (ht : chkT c t tg = true) :
    SX G X W (.Assign [tg] (.Call (.Attribute (.Name x p) m ap) [] [] cp) pos) (popE t i) := by
  have pe := pop_pe hG (p := p) hm hline h
  obtain ⟨g, pg, qg⟩ := gx hG t tg ht
  -- the reading, whatever the target
  have core : ∀ σ H F ρ (D' : Ends), Stt G F ρ σ H → PO G W σ ρ F H D' (popE t i ρ) → tBM0 X.K "list" rPop (tVar i) σ H (fun v H1 => g v σ H1 D'.nx) := fun σ H F ρ D' S w => by
    unfold popE at w
    split at w
    · rename_i l hl
      obtain ⟨pp, g1, g2, vs, g3, g4⟩ := S.ow i _ hl rfl
      cases hd : l.getLast? with
      | none => rw [hd] at w; exact w.elim
      | some d =>
        rw [hd] at w
        simp only [] at w
        have hd' : l[l.length - 1]? = some d := by rw [← List.getLast?_eq_getElem?]; exact hd
        obtain ⟨v, hv, rv⟩ := g4.get hd'
        refine ⟨_, g1, .inl ⟨rfl, vs, hG.K ▸ SqL.of g3⟩, pp, vs, v, rfl, rfl, g3, by rw [g4.length]; exact hv, ?_⟩
        obtain ⟨S3, t3⟩ := S.write (t := .li l.dropLast) (o := .lst vs.dropLast) hl rfl g1 rfl ⟨_, upd_same, g4.dropLast⟩
        cases z : setT t d (ρ.set i (some (.li l.dropLast))) with
        | none => rw [z] at w; exact w.elim
        | some ρ' =>
          rw [z] at w
          exact qg v d σ _ F _ ρ' D'.nx S3 rv z fun σ' S' k => w σ' F _ (t3.weak k) S'
    · exact w.elim
  cases t with
  | v j =>
    cases tg <;> first | cases ht | skip
    obtain ⟨a1, a2, a3, a4⟩ := loc_of hG (show chkLoc c j _ = true from ht)
    exact ⟨_, ps_asg pe pg rfl rfl rfl, core⟩
  | t l =>
    cases tg <;> first | cases ht | skip
    exact ⟨_, ps_asg pe pg rfl rfl rfl, core⟩
theorem sx_sub (hG : Good T c G Γ X) {i : Nat} {x : Str} {p sp pos : Pos} {j e : Expr} {f g : Env → R A} (h : chkVar c i x = true) (hj : okHead j = true) (he : okHead e = true) (hl : isLcE e = false) (hf : EX G X W e f) (hg : EX G X W j g) :
    SX G X W (.Assign [.Subscript (.Name x p) j sp] e pos) (fun ρ => ifO (isLi i ρ) ((f ρ).toO ρ fun a => (kpA a).toO ρ fun d => (g ρ).toO ρ fun b => (rdA ρ b).toO ρ fun k => subE i k d ρ)) := by
  obtain ⟨t, pe, q⟩ := hf
  obtain ⟨u, pj, qj⟩ := hg
  refine ⟨_, ps_asg pe (pg_sub (pv_of hG h) pj set_list (fun v => by cases j <;> first | rfl | cases hj)) (show swapsWith e (some (.Subscript (.Name x p) j sp)) pos.line X.env = pure false from swaps_head he hl _ _ _) (by cases e <;> rfl) rfl, fun σ H F ρ D' S w => ?_⟩
  obtain ⟨hn, w⟩ := ifO_of w
  obtain ⟨l, pp, vs, g1, g2, g3, g4⟩ := li_of S hn
  refine q σ H F ρ _ S (PO.bindE S w fun a y F1 H1 e1 r1 w1 => ?_)
  obtain ⟨d, hd, w1⟩ := PO.pure (kpA_mild a) w1
  obtain ⟨F2, e2, f2, rd⟩ := RA.keep S e1 r1 hd
  have S2 := S.ext e2
  refine ⟨_, g2, ?_⟩
  refine qj σ H1 F2 ρ _ S2 (PO.bindE S2 (PO.ext e2 w1) fun b z F3 H3 e3 r3 w3 => ?_)
  have S3 := S2.ext e3
  obtain ⟨k, hk, w3⟩ := PO.pure (rdA_mild b) w3
  unfold subE at w3
  rw [g1] at w3
  split at w3
  · rename_i l' n hl'
    cases hl'
    obtain rfl := (r3.vw S3 hk).int
    cases hx : ixN l.length n with
    | none => rw [hx] at w3; exact w3.elim
    | some jj =>
      rw [hx] at w3
      have e4 := e2.trans e3
      have g5 := e4.hh _ _ g3
      have g6 := g4.mono e4.ff
      refine ⟨pp, vs, n, jj, rfl, rfl, g5, by rw [g6.length]; exact hx, ?_⟩
      obtain ⟨S5, t5⟩ := S3.write (t := .li (l.set jj d)) (o := .lst (vs.set jj y)) g1 rfl g2 rfl ⟨_, upd_same, Rps.set (rd.mono e3.ff) jj g6⟩
      exact w3 σ _ _ (e3.tr.trans t5) S5
  · exact w3.elim
theorem sx_ite {e : Expr} {xs ys : List Stmt} {pos : Pos} {f : Env → R Bool} {ga gb : Env → O} (hf : TX G X W e f) (ha : BX G X W xs ga) (hb : BX G X W ys gb) : SX G X W (.If e xs ys pos) (fun ρ => (f ρ).toO ρ fun k => if k then ga ρ else gb ρ) := by
  obtain ⟨t, pt, q⟩ := hf
  obtain ⟨ta, pa, qa⟩ := ha
  obtain ⟨tb, pb, qb⟩ := hb
  refine ⟨_, ps_if pt pa pb, fun σ H F ρ D' S w => ?_⟩
  refine q σ H F ρ _ S (PO.bindT S w fun k F1 H1 e1 w1 => ?_)
  have S1 := S.ext e1
  cases k with
  | true => rw [if_pos rfl]; exact qa σ H1 F1 ρ D' S1 (PO.ext e1 w1)
  | false => rw [if_neg Bool.false_ne_true]; exact qb σ H1 F1 ρ D' S1 (PO.ext e1 w1)
/-- the wish about a turn, from the wish about the rest -/
theorem PO.turn {N : St → Hp → Prop} {D' : Ends} {o : O} {k : Env → O} (hk : ∀ σ' ρ' F' H', Tr F H (Ow ρ σ) F' H' (Ow ρ' σ') → Stt G F' ρ' σ' H' → PO G W σ ρ F H D' (k ρ') → N σ' H')
    (w : PO G W σ ρ F H D' (match o with
      | .nx ρ => k ρ
      | .ct ρ => k ρ
      | .bk ρ => .nx ρ
      | o => o)) : PO G W σ ρ F H { D' with nx := N, ct := N, bk := D'.nx } o := by
  cases o with
  | nx ρ' => exact fun σ' F' H' t S => hk σ' ρ' F' H' t S w
  | ct ρ' => exact fun σ' F' H' t S => hk σ' ρ' F' H' t S w
  | bk ρ' => exact w
  | rt a => exact w
  | ex c d ρ' => exact w
  | bad => exact w
theorem sx_whl (hG : GoodS T c G Γ X) {n : Nat} {e : Expr} {xs : List Stmt} {pos : Pos} {f : Env → R Bool} {g : Env → O} (hf : TX G X W e f) (hb : BX G X W xs g) : SX G X W (.While e xs [] pos) (fun ρ => whlF f g n ρ) := by
  obtain ⟨t, pt, q⟩ := hf
  obtain ⟨tb, pb, qb⟩ := hb
  refine ⟨_, ps_while hG.po pt pb, fun σ H F ρ D' S w => ?_⟩
  refine ⟨fun m σ H => ∃ F ρ, Stt G F ρ σ H ∧ PO G W σ ρ F H D' (whlF f g m ρ), ⟨n, F, ρ, S, w⟩, ?_⟩
  rintro m σ H ⟨F, ρ, S, w⟩
  cases m with
  | zero => exact w.elim
  | succ m =>
    refine q σ H F ρ _ S (PO.bindT (x := f ρ) S w fun k F1 H1 e1 w1 => ?_)
    have S1 := S.ext e1
    have w1 := PO.ext e1 w1
    cases k with
    | false => rw [if_neg Bool.false_ne_true]; exact w1 σ F1 H1 (Ext.tr (Ext.refl S1.sub)) S1
    | true =>
      rw [if_pos rfl]
      refine ⟨fun σ' H' => ∃ F ρ, Stt G F ρ σ' H' ∧ PO G W σ' ρ F H' D' (whlF f g m ρ), fun σ' H' z => ⟨m, Nat.lt_succ_self m, z⟩, ?_⟩
      exact qb σ H1 F1 ρ _ S1 (PO.turn (k := fun ρ => whlF f g m ρ) (fun σ' ρ' F' H' t S' w' => ⟨F', ρ', S', PO.step t w'⟩) w1)
/-! ### what is walked -/
/-- an iterator that hands out these data -/
def ItOk (G : Gx) (J : L2.It) (F0 : Hp) (ds : List D) : Prop := ∀ (i : Nat) F H, Same F0 F → Same F H →
  (∀ d, ds[i]? = some d → J.go i H ∧ ∀ x H', J.yld i H x H' → ∃ F', Ext F H F' H' ∧ Rp G F' x d) ∧ (ds.length ≤ i → J.stop i H)
def PI' (G : Gx) (W : WX) (σ : St) (F H : Hp) (R' : L2.It → Hp → Prop) : R (List D) → Prop
  | .ok ds => ∀ J F' H', Ext F H F' H' → ItOk G J F' ds → R' J H'
  | .exc c d => PX G W σ F H c d
  | .bad => False
def IX (G : Gx) (X : Cx) (W : WX) (tg it : Expr) (f : Env → R (List D)) : Prop := ∃ wi, PI X tg it wi ∧ ∀ σ H F ρ R', Stt G F ρ σ H → PI' G W σ F H R' (f ρ) → wi σ H R'
theorem itok_list {a : Addr} {vs : List V} {ds : List D} (h : SqL G.K F a vs) (r : Rps G F vs ds) : ItOk G (Itl G.K a) F ds := fun i F' H' e1 e2 => by
  have h' := (e1.trans e2).seq h
  refine ⟨fun d hd => ?_, fun hi => ⟨vs, h', by rw [r.length]; exact hi⟩⟩
  obtain ⟨v, hv, rv⟩ := r.get hd
  refine ⟨⟨vs, v, h', hv⟩, fun x H2 ⟨z, y⟩ => ?_⟩
  subst z
  have := y vs h'
  rw [hv] at this
  cases this
  exact ⟨F', Ext.refl e2, rv.mono e1⟩
theorem itok_tup {a : Addr} {vs : List V} {ds : List D} (h : SqT G.K F a vs) (r : Rps G F vs ds) : ItOk G (Itt G.K a) F ds := fun i F' H' e1 e2 => by
  have h' := Same.seqT (e1.trans e2) h
  refine ⟨fun d hd => ?_, fun hi => ⟨vs, h', by rw [r.length]; exact hi⟩⟩
  obtain ⟨v, hv, rv⟩ := r.get hd
  refine ⟨⟨vs, v, h', hv⟩, fun x H2 ⟨z, y⟩ => ?_⟩
  subst z
  have := y vs h'
  rw [hv] at this
  cases this
  exact ⟨F', Ext.refl e2, rv.mono e1⟩
theorem itok_str {x : Str} (ok : PyData.strOk x = true) : ItOk G (Its x) F (x.cps.toList.map fun c => .str [c]) := fun i F' H' e1 e2 => by
  refine ⟨fun d hd => ?_, fun hi => ?_⟩
  · rw [List.getElem?_map] at hd
    cases hc : x.cps.toList[i]? with
    | none => rw [hc] at hd; cases hd
    | some k =>
      rw [hc] at hd
      obtain rfl : D.str [k] = d := by simpa using hd
      have hlt := (List.getElem?_eq_some_iff.mp hc).1
      refine ⟨(show i < x.cps.size by simpa using hlt), fun v H2 ⟨z, k', hk, y⟩ => ?_⟩
      subst z y
      have : k' = k := by
        have h2 : x.cps.toList[i]? = some k' := by rw [← hk]; simp
        rw [hc] at h2; cases h2; rfl
      subst this
      refine ⟨F', Ext.refl e2, rp_str rfl (strOk_mem.mpr fun z hz => ?_)⟩
      obtain rfl : z = k' := by simpa using hz
      exact strOk_mem.mp ok z (List.mem_of_getElem? hc)
  · show x.cps.size ≤ i
    simpa using hi
theorem itok_rng (lo : Int) (n : Nat) : ItOk G (Itr lo n) F (iota lo n) := fun i F' H' e1 e2 => by
  refine ⟨fun d hd => ?_, fun hi => ?_⟩
  · unfold iota at hd
    rw [List.getElem?_map] at hd
    cases hc : (List.range n)[i]? with
    | none => rw [hc] at hd; cases hd
    | some k =>
      rw [hc] at hd
      have hlt := (List.getElem?_eq_some_iff.mp hc).1
      obtain rfl : i = k := by
        have := (List.getElem?_eq_some_iff.mp hc).2
        simpa using this
      obtain rfl : D.int (lo + (i : Nat)) = d := by simpa using hd
      refine ⟨(show i < n by simpa using hlt), fun v H2 ⟨z, y⟩ => ?_⟩
      subst z y
      exact ⟨F', Ext.refl e2, .int _⟩
  · show n ≤ i
    simpa [iota] using hi
theorem items_mild (d : D) : (items d).mild := by cases d <;> trivial
theorem PI'.bindE {R' : L2.It → Hp → Prop} {x : R A} {k : A → R (List D)} {Qa : VK} (h : PI' G W σ F H R' (x.bind k)) (hk : ∀ a v F1 H1, Ext F H F1 H1 → RA G σ ρ H F1 H1 v a → PI' G W σ F H R' (k a) → Qa v H1) : PE' G W σ ρ F H Qa x := by
  cases x with
  | ok a => exact fun v F' H' e q => hk a v F' H' e q h
  | exc c d => exact h
  | bad => exact h
theorem PI'.bindA {R' : L2.It → Hp → Prop} {x : R (List A)} {k : List A → R (List D)} {Qa : List V → Hp → Prop} (h : PI' G W σ F H R' (x.bind k)) (hk : ∀ a v F1 H1, Ext F H F1 H1 → RAs G σ ρ H F1 H1 v a → PI' G W σ F H R' (k a) → Qa v H1) : PA' G W σ ρ F H Qa x := by
  cases x with
  | ok a => exact fun v F' H' e q => hk a v F' H' e q h
  | exc c d => exact h
  | bad => exact h
theorem PI'.pure {R' : L2.It → Hp → Prop} {β : Type} {x : R β} {k : β → R (List D)} (hx : x.mild) (h : PI' G W σ F H R' (x.bind k)) : ∃ b, x = .ok b ∧ PI' G W σ F H R' (k b) := by
  cases x with
  | ok b => exact ⟨b, rfl, h⟩
  | exc c d => exact hx.elim
  | bad => exact h.elim
theorem pi_or {tg it : Expr} {w1 w2 : TI} (h1 : PI X tg it w1) (h2 : PI X tg it w2) : PI X tg it (fun σ H R => w1 σ H R ∨ w2 σ H R) := ⟨fun pins s σ H R I h => h.elim (h1.run pins s σ H R I) (h2.run pins s σ H R I)⟩
theorem ix_it (hG : Good T c G Γ X) {tg it : Expr} {f : Env → R A} (hf : EX G X W it f) : IX G X W tg it (fun ρ => (f ρ).bind fun a => (kpA a).bind items) := by
  obtain ⟨t, pe, q⟩ := hf
  refine ⟨_, pi_or (pi_list pe) (pi_or (pi_tup pe) (pi_str pe)), fun σ H F ρ R' S w => ?_⟩
  simp only [] at w
  cases hv : f ρ with
  | bad => rw [hv] at w; exact w.elim
  | exc c d => rw [hv] at w; exact .inl (q σ H F ρ _ S (by rw [hv]; exact w))
  | ok a =>
    rw [hv, R.bind_ok] at w
    obtain ⟨d, hk, w⟩ := PI'.pure (kpA_mild a) w
    -- the value, kept
    have go : ∀ {Qa : VK}, (∀ v F2 H1, Ext F H F2 H1 → Rp G F2 v d → Qa v H1) → t σ H Qa := fun {Qa} z => by
      refine q σ H F ρ _ S ?_
      rw [hv]
      intro v F1 H1 e1 r1
      obtain ⟨F2, e2, _, r2⟩ := RA.keep S e1 r1 hk
      exact z v F2 H1 e2 r2
    cases d with
    | lst l =>
      refine .inl (go fun v F2 H1 e2 r2 => ?_)
      cases r2 with
      | lst hp r =>
        refine ⟨_, rfl, ⟨_, SqL.of (e2.fh _ _ hp)⟩, ?_⟩
        rw [hG.K]
        exact w _ F2 H1 e2 (itok_list (SqL.of hp) r)
    | lfz l =>
      refine .inl (go fun v F2 H1 e2 r2 => ?_)
      cases r2 with
      | lfz hp r =>
        refine ⟨_, rfl, ⟨_, by rw [hG.K]; exact e2.fh.seq hp⟩, ?_⟩
        rw [hG.K]
        exact w _ F2 H1 e2 (itok_list hp r)
    | tup l =>
      refine .inr (.inl (go fun v F2 H1 e2 r2 => ?_))
      cases r2 with
      | tup hp r =>
        refine ⟨_, rfl, ⟨_, SqT.of (e2.fh _ _ hp)⟩, ?_⟩
        rw [hG.K]
        exact w _ F2 H1 e2 (itok_tup (SqT.of hp) r)
    | tuk l =>
      refine .inr (.inl (go fun v F2 H1 e2 r2 => ?_))
      cases r2 with
      | tuk hp r =>
        refine ⟨_, rfl, ⟨_, by rw [hG.K]; exact Same.seqT e2.fh hp⟩, ?_⟩
        rw [hG.K]
        exact w _ F2 H1 e2 (itok_tup hp r)
    | str l =>
      refine .inr (.inr (go fun v F2 H1 e2 r2 => ?_))
      cases r2 with
      | str x hx => exact ⟨x, rfl, w _ F2 H1 e2 (itok_str hx)⟩
    | _ => exact w.elim
theorem rng_blt (hG : Good T c G Γ X) {x : Str} (hx : chkBlt T c x "range" = true) : x = ("range" : Str) ∧ Gl X "range" ∧ X.mg "range" = none := by
  obtain ⟨h0, hg⟩ := and_bool hx
  obtain ⟨h0, hbl⟩ := and_bool h0
  obtain rfl : x = ("range" : Str) := by simpa using h0
  obtain ⟨h1, h2⟩ := and_bool hg
  obtain ⟨h1, h3⟩ := and_bool h1
  exact ⟨rfl, hG.gl _ h1, hG.blt _ (by simpa using hbl)⟩
theorem ix_rng1 (hG : Good T c G Γ X) {tg a : Expr} {x : Str} {p pos : Pos} (hx : chkBlt T c x "range" = true) (ha : okHead a = true) {f : Env → R A} (hf : EX G X W a f) :
    IX G X W tg (.Call (.Name x p) [a] [] pos) (fun ρ => (f ρ).bind fun x => (rdA ρ x).bind rng1D) := by
  obtain ⟨rfl, hg, hm⟩ := rng_blt hG hx
  obtain ⟨t, pe, q⟩ := hf
  refine ⟨_, pi_range1 hg hm (pa_cons pe pa_nil (star_head ha)) (star_head ha), fun σ H F ρ R' S w => ?_⟩
  refine q σ H F ρ _ S (PI'.bindE w fun y v F1 H1 e1 r1 w1 => ?_)
  have S1 := S.ext e1
  obtain ⟨d, hd, w1⟩ := PI'.pure (rdA_mild y) w1
  have vw := r1.vw S1 hd
  cases d <;> first | exact w1.elim | skip
  rename_i j
  have w2 : PI' G W σ F H R' (if -4611686018427387904 ≤ j ∧ j < 4611686018427387904 then .ok (iota 0 j.toNat) else .bad) := w1
  split at w2
  · rename_i hj
    obtain rfl := vw.int
    exact ⟨j, rfl, hj.1, hj.2, w2 _ F1 H1 e1 (itok_rng 0 _)⟩
  · exact w2.elim
theorem PI'.bindE2 {σ : St} {ρ : Env} {F H F1 H1 : Hp} {R' : L2.It → Hp → Prop} {x : R A} {k : A → R (List D)} {Qa : VK} (e1 : Ext F H F1 H1) (h : PI' G W σ F H R' (x.bind k)) (hk : ∀ a v F2 H2, Ext F1 H1 F2 H2 → RA G σ ρ H1 F2 H2 v a → PI' G W σ F H R' (k a) → Qa v H2) : PE' G W σ ρ F1 H1 Qa x := by
  cases x with
  | ok a => exact fun v F' H' e q => hk a v F' H' e q h
  | exc c d => exact PX.ext e1 h
  | bad => exact h
theorem ix_rng2 (hG : Good T c G Γ X) {tg a b : Expr} {x : Str} {p pos : Pos} (hx : chkBlt T c x "range" = true) (ha : okHead a = true) (hb : okHead b = true) {f g : Env → R A} (hf : EX G X W a f) (hg' : EX G X W b g) :
    IX G X W tg (.Call (.Name x p) [a, b] [] pos) (fun ρ => (f ρ).bind fun x => (g ρ).bind fun y => (rdA ρ x).bind fun x => (rdA ρ y).bind fun y => rng2D x y) := by
  obtain ⟨rfl, hg, hm⟩ := rng_blt hG hx
  obtain ⟨t, pe, q⟩ := hf
  obtain ⟨u, pu, qu⟩ := hg'
  refine ⟨_, pi_range2 hg hm (pa_cons pe (pa_cons pu pa_nil (star_head hb)) (star_head ha)) (by rw [star_head ha, star_head hb]; rfl) (by rw [star_head hb]; rfl), fun σ H F ρ R' S w => ?_⟩
  refine q σ H F ρ _ S (PI'.bindE w fun y v F1 H1 e1 r1 w1 => ?_)
  have S1 := S.ext e1
  refine qu σ H1 F1 ρ _ S1 (PI'.bindE2 e1 w1 fun z u F2 H2 e2 r2 w2 => ?_)
  have S2 := S1.ext e2
  obtain ⟨d, hd, w2⟩ := PI'.pure (rdA_mild y) w2
  obtain ⟨d', hd', w2⟩ := PI'.pure (rdA_mild z) w2
  have v1 := (r1.vw S1 hd).ext e2
  have v2 := r2.vw S2 hd'
  cases d <;> first | exact w2.elim | skip
  cases d' <;> first | exact w2.elim | skip
  rename_i i _ j
  have w3 : PI' G W σ F H R' (if (-4611686018427387904 ≤ i ∧ i < 4611686018427387904) ∧ -4611686018427387904 ≤ j ∧ j < 4611686018427387904 then .ok (iota i (j - i).toNat) else .bad) := w2
  split at w3
  · rename_i hj
    obtain rfl := v1.int
    obtain rfl := v2.int
    exact ⟨i, j, rfl, ⟨hj.1.1, hj.1.2, hj.2.1, hj.2.2⟩, w3 _ F2 H2 (e1.trans e2) (itok_rng i _)⟩
  · exact w3.elim
theorem sx_for (hG : GoodS T c G Γ X) {t : Tg} {tg it : Expr} {xs : List Stmt} {pos : Pos} {f : Env → R (List D)} {g : Env → O} (hfold : ∀ x, foldedSetIterable it X.env x = pure x) (ht : chkT c t tg = true) (hf : IX G X W tg it f) (hb : BX G X W xs g) :
    SX G X W (.For tg it xs [] pos) (fun ρ => (f ρ).toO ρ fun ds => forL t g ds ρ) := by
  obtain ⟨wi, pi, q⟩ := hf
  obtain ⟨tb, pb, qb⟩ := hb
  obtain ⟨gt, pg, qg⟩ := gx hG.toGood t tg ht
  refine ⟨_, ps_for hG.po hG.calm pi pg pb hfold, fun σ H F ρ D' S w => ?_⟩
  refine q σ H F ρ _ S ?_
  simp only [] at w
  cases hv : f ρ with
  | bad => rw [hv] at w; exact w.elim
  | exc c d => rw [hv] at w; exact fun F' H' dd v e q r => w σ F' H' dd v e.tr (S.ext e) q r
  | ok ds =>
    rw [hv] at w
    simp only [R.toO_ok] at w
    intro J F1 H1 e1 ok
    have S1 := S.ext e1
    refine ⟨fun i m σ H => m = ds.length - i ∧ i ≤ ds.length ∧ ∃ F ρ, Same F1 F ∧ Stt G F ρ σ H ∧ PO G W σ ρ F H D' (forL t g (ds.drop i) ρ), ⟨ds.length, by simp, Nat.zero_le _, F1, ρ, Same.refl _, S1, by simpa using PO.ext e1 w⟩, ?_⟩
    rintro i m σ H ⟨rfl, hi, F, ρ, e2, S, w⟩
    obtain ⟨k1, k2⟩ := ok i F H e2 S.sub
    by_cases hlt : i < ds.length
    · refine .inr ?_
      have hd : ds[i]? = some ds[i] := by simp [hlt]
      obtain ⟨g1, g2⟩ := k1 _ hd
      refine ⟨g1, fun σ' H' => ∃ F ρ, Same F1 F ∧ Stt G F ρ σ' H' ∧ PO G W σ' ρ F H' D' (forL t g (ds.drop (i + 1)) ρ), fun σ' H' z => ⟨ds.length - (i + 1), by omega, rfl, hlt, z⟩, fun x H' y => ?_⟩
      obtain ⟨F', e3, rx⟩ := g2 x H' y
      have S3 := S.ext e3
      rw [List.drop_eq_getElem_cons hlt] at w
      have w3 := PO.ext e3 w
      have w4 : PO G W σ ρ F' H' D' (match setT t ds[i] ρ with
        | none => .bad
        | some ρ => match g ρ with
          | .nx ρ => forL t g (ds.drop (i + 1)) ρ
          | .ct ρ => forL t g (ds.drop (i + 1)) ρ
          | .bk ρ => .nx ρ
          | o => o) := w3
      cases z : setT t ds[i] ρ with
      | none => rw [z] at w4; exact w4.elim
      | some ρ' =>
        rw [z] at w4
        refine qg x ds[i] σ H' F' ρ ρ' _ S3 rx z fun σ' S' k => ?_
        have t5 : Tr F' H' (Ow ρ σ) F' H' (Ow ρ' σ') := Tr.weak (Ext.tr (Ext.refl S'.sub)) k
        refine qb σ' H' F' ρ' _ S' (PO.turn (k := fun ρ => forL t g (ds.drop (i + 1)) ρ) (fun σ2 ρ2 F2 H2 t2 S2 w2 => ⟨F2, ρ2, (e2.trans e3.ff).trans t2.ff, S2, PO.step t2 w2⟩) (PO.step t5 w4))
    · have e : i = ds.length := by omega
      subst e
      refine .inl ⟨k2 (Nat.le_refl _), ?_⟩
      rw [List.drop_length] at w
      exact w σ F H (Ext.tr (Ext.refl S.sub)) S
theorem sx_ret {e : Expr} {pos : Pos} {f : Env → R A} (hf : EX G X W e f) : SX G X W (.Return (some e) pos) (fun ρ => (f ρ).toO ρ (retA ρ)) := by
  obtain ⟨t, pe, q⟩ := hf
  refine ⟨_, ps_ret pe, fun σ H F ρ D' S w => ?_⟩
  refine q σ H F ρ _ S (PO.bindE S w fun a v F1 H1 e1 r1 w1 => ?_)
  have S1 := S.ext e1
  have tr : Tr F H (Ow ρ σ) F1 H1 (fun _ => False) := Tr.weak e1.tr fun _ z => z.elim
  cases a with
  | sh d => exact w1 v F1 H1 tr S1.sub r1
  | ow s =>
    obtain ⟨p, h1, h2, h3, h4⟩ := r1
    exact w1 v F1 H1 tr S1.sub ⟨p, h1, .inl h2, h3, h4⟩
  | bo i =>
    obtain ⟨s, p, h1, h2, h3, rfl⟩ := r1
    obtain ⟨p', h4, h5, h6⟩ := S1.ow i s h1 h2
    rw [h3] at h4
    cases h4
    have w2 : PO G W σ ρ F H D' (match ρ[i]? with
      | some (some s) => .rt (.ow s)
      | _ => .bad) := w1
    rw [h1] at w2
    exact w2 _ F1 H1 tr S1.sub ⟨p, rfl, .inr ⟨i, s, h1, h2, h3⟩, h5, h6⟩
theorem sx_retn {pos : Pos} : SX G X W (.Return none pos) (fun _ => .rt (.sh .non)) := ⟨_, ps_retN, fun σ H F ρ D' S w => w .non F H (Tr.weak (Ext.tr (Ext.refl S.sub)) fun _ z => z.elim) S.sub .non⟩
theorem sx_congr {s : Stmt} {f g : Env → O} (h : SX G X W s f) (q : ∀ ρ, f ρ = g ρ) : SX G X W s g := (funext q : f = g) ▸ h
theorem bx_congr {s : List Stmt} {f g : Env → O} (h : BX G X W s f) (q : ∀ ρ, f ρ = g ρ) : BX G X W s g := (funext q : f = g) ▸ h
theorem ix_congr {tg it : Expr} {f g : Env → R (List D)} (h : IX G X W tg it f) (q : ∀ ρ, f ρ = g ρ) : IX G X W tg it g := (funext q : f = g) ▸ h
theorem bx_nil : BX G X W [] (fun ρ => .nx ρ) := ⟨_, pss_nil, fun σ H F ρ D' S w => w σ F H (Ext.tr (Ext.refl S.sub)) S⟩
theorem bx_cons {s : Stmt} {ss : List Stmt} {f g : Env → O} (h1 : SX G X W s f) (h2 : BX G X W ss g) : BX G X W (s :: ss) (fun ρ => match f ρ with
    | .nx ρ => g ρ
    | o => o) := by
  obtain ⟨t, p, q⟩ := h1
  obtain ⟨u, p', q'⟩ := h2
  refine ⟨_, pss_cons p p', fun σ H F ρ D' S w => ?_⟩
  refine q σ H F ρ _ S ?_
  simp only [] at w
  cases hv : f ρ with
  | nx ρ' => rw [hv] at w; exact fun σ' F' H' t S' => q' σ' H' F' ρ' D' S' (PO.step t w)
  | rt a => rw [hv] at w; exact w
  | bk ρ' => rw [hv] at w; exact w
  | ct ρ' => rw [hv] at w; exact w
  | ex c d ρ' => rw [hv] at w; exact w
  | bad => rw [hv] at w; exact w
theorem bx_frz {ss : List Stmt} {g : Env → O} (i : Nat) (h : BX G X W ss g) : BX G X W ss (fun ρ => g (frzE i ρ)) := by
  obtain ⟨t, p, q⟩ := h
  refine ⟨t, p, fun σ H F ρ D' S w => ?_⟩
  simp only [] at w
  unfold frzE at w
  split at w
  · rename_i s hs
    cases ho : s.isOwn with
    | true =>
      obtain ⟨F', S', t'⟩ := S.freeze hs ho
      exact q σ H F' _ D' S' (PO.step t' w)
    | false =>
      cases s with
      | sh d =>
        have e : ρ.set i (some (.sh (Z.S.sh d).d)) = ρ := by
          refine List.ext_getElem? fun j => ?_
          by_cases hj : i = j
          · subst hj
            rw [List.getElem?_set_self (List.getElem?_eq_some_iff.mp hs).1, hs]; rfl
          · rw [List.getElem?_set_ne hj]
        rw [e] at w
        exact q σ H F ρ D' S w
      | _ => cases ho
  · exact q σ H F ρ D' S w
theorem not_lc {e : Expr} (h : (!isLcE e) = true) : isLcE e = false := by simpa using h
mutual
theorem sndC (hG : GoodS T c G Γ X) (tk : Takes X W) : ∀ (a : C) (s : Stmt), chkS T c a s = true → SX G X W s (exC Γ a)
  | .asg t a, s, h => by
    unfold chkS at h
    split at h
    · rename_i tg e pos
      obtain ⟨h, h4⟩ := and_bool h
      obtain ⟨h, h3⟩ := and_bool h
      obtain ⟨h1, h2⟩ := and_bool h
      have hf := (snd hG.toGood tk a e h2).1
      cases t with
      | v i =>
        cases tg <;> first | cases h1 | skip
        exact sx_congr (sx_asgV hG.toGood (show chkLoc c i _ = true from h1) (chk_head h2) (not_lc h3) hf) fun ρ => by rw [exC]
      | t l =>
        cases tg <;> first | cases h1 | skip
        have ht : isTupE e = false := by simpa [isTupE] using h4
        exact sx_congr (sx_asgT hG.toGood h1 (chk_head h2) (not_lc h3) ht hf) fun ρ => by rw [exC]
    · cases h
  | .sub i k a, s, h => by
    unfold chkS at h
    split at h
    · obtain ⟨h, h4⟩ := and_bool h
      obtain ⟨h, h3⟩ := and_bool h
      obtain ⟨h1, h2⟩ := and_bool h
      exact sx_congr (sx_sub hG.toGood h1 (chk_head h2) (chk_head h3) (not_lc h4) (snd hG.toGood tk a _ h3).1 (snd hG.toGood tk k _ h2).1) fun ρ => by rw [exC]
    · cases h
  | .aug i a, s, h => by
    unfold chkS at h
    split at h
    · obtain ⟨h, h3⟩ := and_bool h
      obtain ⟨h1, h2⟩ := and_bool h
      have h2 := of_decide_eq_true h2
      subst h2
      exact sx_congr (sx_aug hG.toGood h1 (snd hG.toGood tk a _ h3).1) fun ρ => by rw [exC]
    · cases h
  | .app i a, s, h => by
    unfold chkS at h
    split at h
    · obtain ⟨h, h4⟩ := and_bool h
      obtain ⟨h, h3⟩ := and_bool h
      obtain ⟨h1, h2⟩ := and_bool h
      exact sx_congr (sx_app hG.toGood (of_decide_eq_true h1) h2 h3 (chk_head h4) (snd hG.toGood tk a _ h4).1) fun ρ => by rw [exC]
    · cases h
  | .pop t i, s, h => by
    unfold chkS at h
    split at h
    · obtain ⟨h, h4⟩ := and_bool h
      obtain ⟨h, h3⟩ := and_bool h
      obtain ⟨h1, h2⟩ := and_bool h
      exact sx_congr (sx_pop hG.toGood (of_decide_eq_true h1) h2 h3 h4) fun ρ => by rw [exC]
    · cases h
  | .exp a, s, h => by
    unfold chkS at h
    split at h
    · obtain ⟨h1, h2⟩ := and_bool h
      exact sx_congr (sx_exp (chk_head h1) (not_lc h2) (snd hG.toGood tk a _ h1).1) fun ρ => by rw [exC]
    · cases h
  | .ite a x y, s, h => by
    unfold chkS at h
    split at h
    · obtain ⟨h, h3⟩ := and_bool h
      obtain ⟨h1, h2⟩ := and_bool h
      exact sx_congr (sx_ite (snd hG.toGood tk a _ h1).2 (sndCs hG tk x _ h2) (sndCs hG tk y _ h3)) fun ρ => by rw [exC]
    · cases h
  | .whl n a x, s, h => by
    unfold chkS at h
    split at h
    · obtain ⟨h1, h2⟩ := and_bool h
      exact sx_congr (sx_whl hG (n := n) (snd hG.toGood tk a _ h1).2 (sndCs hG tk x _ h2)) fun ρ => by rw [exC]
    · cases h
  | .for t it x, s, h => by
    unfold chkS at h
    split at h
    · rename_i tg e xs pos
      obtain ⟨h, h3⟩ := and_bool h
      obtain ⟨h1, h2⟩ := and_bool h
      have hb := sndCs hG tk x _ h3
      cases it with
      | it a =>
        have h2 : chkE T c a e = true := h2
        exact sx_congr (sx_for hG (fold_head (chk_head h2) _) h1 (ix_congr (ix_it hG.toGood (snd hG.toGood tk a _ h2).1) fun ρ => rfl) hb) fun ρ => by rw [exC] <;> rfl
      | rng1 a =>
        have h2 : chkR1 T c a e = true := h2
        unfold chkR1 at h2
        split at h2
        · obtain ⟨h2, h4⟩ := and_bool h2
          exact sx_congr (sx_for hG (fun _ => rfl) h1 (ix_congr (ix_rng1 hG.toGood h2 (chk_head h4) (snd hG.toGood tk a _ h4).1) fun ρ => rfl) hb) fun ρ => by rw [exC] <;> rfl
        · cases h2
      | rng2 a b =>
        have h2 : chkR2 T c a b e = true := h2
        unfold chkR2 at h2
        split at h2
        · obtain ⟨h2, h5⟩ := and_bool h2
          obtain ⟨h2, h4⟩ := and_bool h2
          exact sx_congr (sx_for hG (fun _ => rfl) h1 (ix_congr (ix_rng2 hG.toGood h2 (chk_head h4) (chk_head h5) (snd hG.toGood tk a _ h4).1 (snd hG.toGood tk b _ h5).1) fun ρ => rfl) hb) fun ρ => by rw [exC] <;> rfl
        · cases h2
    · cases h
  | .ret a, s, h => by
    unfold chkS at h
    split at h
    · exact sx_congr (sx_ret (snd hG.toGood tk a _ h).1) fun ρ => by rw [exC]
    · cases h
  | .retn, s, h => by
    unfold chkS at h
    split at h
    · exact sx_congr sx_retn fun ρ => by rw [exC]
    · cases h
  | .brk, s, h => by
    unfold chkS at h
    split at h
    · exact sx_congr (f := fun ρ => .bk ρ) ⟨_, ps_break, fun σ H F ρ D' S w => w σ F H (Ext.tr (Ext.refl S.sub)) S⟩ fun ρ => by rw [exC]
    · cases h
  | .cnt, s, h => by
    unfold chkS at h
    split at h
    · exact sx_congr (f := fun ρ => .ct ρ) ⟨_, ps_continue, fun σ H F ρ D' S w => w σ F H (Ext.tr (Ext.refl S.sub)) S⟩ fun ρ => by rw [exC]
    · cases h
  | .pas, s, h => by
    unfold chkS at h
    split at h
    · exact sx_congr (f := fun ρ => .nx ρ) ⟨_, ps_pass, fun σ H F ρ D' S w => w σ F H (Ext.tr (Ext.refl S.sub)) S⟩ fun ρ => by rw [exC]
    · cases h
theorem sndCs (hG : GoodS T c G Γ X) (tk : Takes X W) : ∀ (a : Cs) (s : List Stmt), chkSs T c a s = true → BX G X W s (exs Γ a)
  | .nil, ss, h => by
    unfold chkSs at h
    split at h
    · exact bx_congr bx_nil fun ρ => by rw [exs]
    · cases h
  | .cons a r, ss, h => by
    unfold chkSs at h
    split at h
    · obtain ⟨h1, h2⟩ := and_bool h
      exact bx_congr (bx_cons (sndC hG tk a _ h1) (sndCs hG tk r _ h2)) fun ρ => by
        rw [exs]
        try (cases exC Γ a ρ <;> rfl)
    · cases h
  | .frz i r, ss, h => by
    unfold chkSs at h
    exact bx_congr (bx_frz i (sndCs hG tk r _ h)) fun ρ => by rw [exs]
end
end
end Z
/-! A table of defs: each keeps its promise. -/
namespace Z
open PySem PySem.Spec L2

/-- one def of the table -/
structure Fd where
  d : He.DefD
  ps : List Str
  N : List Str
  m : Nat
  b : Cs
def Fd.cc (f : Fd) : Cc := ⟨f.N, f.d.scope.names⟩
/-- what must be seen of it -/
structure FdOk (T : Tab) (f : Fd) : Prop where
  sc : FnScope f.N f.ps f.d.scope
  len : f.N.length = f.ps.length + f.m
  dfl : f.d.dfl = []
  kwd : f.d.kwd = []
  top : f.d.at_ = (f.d.name, none)
  bind : ∀ (kV doc pm : Value) (an : Option Addr) (cdv ct : Value) (us : List Value), us.length = f.ps.length → bindArgs (PySem.W.fnOf f.d.name f.d.qual f.d.params f.d.body f.d.scope .none kV doc pm an cdv ct) ⟨us, []⟩ = pure (f.ps.zip us)
  chk : chkSs T f.cc f.b f.d.body = true
/-- n calls deep -/
def prog (gl : Nat → D) (Fs : List Fd) : Nat → Fn
  | 0 => ⟨fun _ _ => .bad, fun _ _ _ => .bad, gl⟩
  | n + 1 => ⟨fun f ds => match Fs[f]? with
    | some fd => runB (prog gl Fs n) fd.ps.length fd.m fd.b ds
    | none => .bad, fun _ _ _ => .bad, gl⟩
theorem prog_glob {gl : Nat → D} {Fs : List Fd} : ∀ n, (prog gl Fs n).glob = gl
  | 0 => rfl
  | _ + 1 => rfl
theorem prog_call {gl : Nat → D} {Fs : List Fd} {n f : Nat} {fd : Fd} (h : Fs[f]? = some fd) (ds : List D) : (prog gl Fs (n + 1)).call f ds = runB (prog gl Fs n) fd.ps.length fd.m fd.b ds := by
  show (match Fs[f]? with
    | some fd => runB (prog gl Fs n) fd.ps.length fd.m fd.b ds
    | none => .bad) = _
  rw [h]
/-- what the module's namespace holds -/
structure ModOk (T : Tab) (Fs : List Fd) (gl : Nat → D) (G : Gx) (mg : Str → Option Value) : Prop where
  blt : ∀ x ∈ T.blt, mg x = none
  fns : ∀ (f : Nat) (x : Str), T.fnm[f]? = some x → ∃ fd, Fs[f]? = some fd ∧ fd.d.name = x ∧ mg x = some (.ref (He.ga G.K x))
  def_ : ∀ (f : Nat) (fd : Fd), Fs[f]? = some fd → ∃ fd', FunD G.K fd.d.name fd.d.qual fd.d.params fd.d.body fd.d.scope (fd.d.dvs G.K) (fd.d.kws G.K) (He.fAd G.K fd.d.at_) fd'
  glo : ∀ (g : Nat) (x : Str), T.gnm[g]? = some x → ∃ v u, mg x = some u ∧ RelV v u ∧ ∀ F, Rp G F v (gl g)
section
variable {T : Tab} {Fs : List Fd} {gl : Nat → D} {G : Gx} {mg : Str → Option Value} {P : Program} {w : World} {base : Heap}
theorem runB_good {Γ : Fn} {n m : Nat} {b : Cs} {ds : List D} (h : (runB Γ n m b ds).good) : ds.length = n := by
  unfold runB at h
  split at h
  · assumption
  · exact h.elim
theorem prog_ok (M : ModOk T Fs gl G mg) (ok : ∀ (f : Nat) (fd : Fd), Fs[f]? = some fd → FdOk T fd) : ∀ (n f : Nat) (fd : Fd) (fd' : FuncData), Fs[f]? = some fd → FunD G.K fd.d.name fd.d.qual fd.d.params fd.d.body fd.d.scope (fd.d.dvs G.K) (fd.d.kws G.K) (He.fAd G.K fd.d.at_) fd' →
    FnOk P w G.K mg base (L2.CX P w) n (He.fAd G.K fd.d.at_) fd' fd.ps (spF G fd.ps.length ((prog gl Fs n).call f))
  | 0, f, fd, fd', hf, hd => ⟨fun vs H Q E h => h.1, fun A outer s H args us vs Q E hr e0 hb hv hs => by
      obtain ⟨_, F, ds, _, _, z⟩ := hs
      exact z.elim⟩
  | n + 1, f, fd, fd', hf, hd => by
    have o := ok f fd hf
    refine FunD.ok hd o.sc (fun vs H Q E h => h.1) fun cdv A outer s H vs Q E hr hs => ?_
    obtain ⟨hl, F, ds, hsub, hrp, w0⟩ := hs
    rw [prog_call hf] at w0
    have hg : GoodS T fd.cc G (prog gl Fs n) (cxOf (L2.CX P w) P w G.K mg base fd.N fd.d.qual fd.d.scope (He.fAd G.K fd.d.at_) cdv A outer s H E) :=
      { K := rfl, N := rfl, nd := o.sc.nd
        vis := fun x h => by
          show fd.d.scope.names.lookup x = _ ∨ fd.d.scope.names.lookup x = _ ∨ fd.d.scope.names.lookup x = _
          have h' : isVis (fd.d.scope.names.lookup x) = true := h
          cases q : fd.d.scope.names.lookup x with
          | none => rw [q] at h'; cases h'
          | some k =>
            rw [q] at h'
            cases k <;> first | exact .inl rfl | exact .inr (.inl rfl) | exact .inr (.inr rfl) | cases h'
        loc := fun x h => h
        cel := fun x h => ⟨h, rfl⟩
        gl := fun x h => by
          show fd.d.scope.names.lookup x = _
          have h' : isGl (fd.d.scope.names.lookup x) = true := h
          cases q : fd.d.scope.names.lookup x with
          | none => rw [q] at h'; cases h'
          | some k =>
            rw [q] at h'
            cases k <;> first | rfl | cases h'
        calm := rfl
        hu := by
          show (A.deeper _).units + 65 < cLine
          have := hr.un
          omega
        blt := M.blt
        fns := fun g x hx => by
          obtain ⟨gd, h1, rfl, h3⟩ := M.fns g x hx
          obtain ⟨gd', D⟩ := M.def_ g gd h1
          have og := ok g gd h1
          have ht : He.fAd G.K gd.d.at_ = He.ga G.K gd.d.name := by rw [og.top] <;> rfl
          have F1 := prog_ok M ok n g gd gd' h1 D
          have D2 := D
          have e1 : gd.d.dvs G.K = [] := by unfold He.DefD.dvs; rw [og.dfl] <;> rfl
          rw [e1] at D2
          refine ⟨⟨gd.ps.length, n, _, gd', gd.ps, F1, hr, by rw [ht]; exact h3, D2.kp, FunD.bindsN D2 og.bind, fun ds hgd => ?_⟩⟩
          cases n with
          | zero => exact hgd.elim
          | succ k => rw [prog_call h1] at hgd; exact runB_good hgd
        glo := fun g x h => by rw [prog_glob]; exact M.glo g x h
        po := passes_of (K := fun u s'' => L2.CX P w outer H s E u s'') (E₁ := fun e' s'' => L2.CX P w outer H s E e' s'') rfl }
    have tk : Takes (cxOf (L2.CX P w) P w G.K mg base fd.N fd.d.qual fd.d.scope (He.fAd G.K fd.d.at_) cdv A outer s H E) (fun cls d _ H => E cls d H) :=
      takes_of (E₁ := fun e' s'' => L2.CX P w outer H s E e' s'') rfl rfl rfl rfl
    obtain ⟨t, pss, q⟩ := sndCs hg tk fd.b fd.d.body o.chk
    refine ⟨t, pss, q _ H F (ds.map (fun d => some (.sh d)) ++ List.replicate fd.m none) _ ?_ ?_⟩
    · -- the slots at the entry
      have hlen := hrp.length
      have sh0 : ∀ (i : Nat) (s : Z.S), (ds.map (fun d => some (Z.S.sh d)) ++ List.replicate fd.m none)[i]? = some (some s) → ∃ d, s = .sh d ∧ ds[i]? = some d := fun i s h => by
        by_cases hi : i < ds.length
        · rw [List.getElem?_append_left (by simpa using hi), List.getElem?_map] at h
          cases e : ds[i]? with
          | none => rw [e] at h; cases h
          | some d => rw [e] at h; cases h; exact ⟨d, rfl, rfl⟩
        · rw [List.getElem?_append_right (by simpa using Nat.le_of_not_lt hi), List.getElem?_replicate] at h
          split at h <;> cases h
      refine ⟨hsub, ?_, fun i d h => ?_, fun i s h o' => ?_, fun i j s t p h o' => ?_⟩
      · unfold L2.start
        have := o.len
        simp only [List.length_append, List.length_map, List.length_replicate]
        omega
      · obtain ⟨d', e, hd'⟩ := sh0 i _ h
        cases e
        obtain ⟨v, hv, rv⟩ := hrp.get hd'
        refine ⟨v, ?_, rv⟩
        unfold L2.start
        rw [List.getElem?_append_left (by simpa using (List.getElem?_eq_some_iff.mp hv).1), List.getElem?_map, hv]
        rfl
      · obtain ⟨d', e, _⟩ := sh0 i _ h
        subst e; cases o'
      · obtain ⟨d', e, _⟩ := sh0 i _ h
        subst e; cases o'
    · have nob : ∀ b, ¬ Ow (ds.map (fun d => some (Z.S.sh d)) ++ List.replicate fd.m none) (L2.start fd.N vs) b := fun b h => by
        obtain ⟨i, s, h1, h2, _⟩ := h
        by_cases hi : i < ds.length
        · rw [List.getElem?_append_left (by simpa using hi), List.getElem?_map] at h1
          cases e : ds[i]? with
          | none => rw [e] at h1; cases h1
          | some d => rw [e] at h1; cases h1; cases h2
        · rw [List.getElem?_append_right (by simpa using Nat.le_of_not_lt hi), List.getElem?_replicate] at h1
          split at h1 <;> cases h1
      have ext : ∀ {F' H' : Hp} {O' : Addr → Prop}, Tr F H (Ow (ds.map (fun d => some (Z.S.sh d)) ++ List.replicate fd.m none) (L2.start fd.N vs)) F' H' O' → Same F' H' → Ext F H F' H' := fun t sb => ⟨t.ff, fun b o h => t.keep b o h (nob b), sb, fun b o h z => t.nw b o h z (nob b)⟩
      unfold runB at w0
      split at w0
      · cases q : exs (prog gl Fs n) fd.b (ds.map (fun d => some (Z.S.sh d)) ++ List.replicate fd.m none) with
        | nx ρ => rw [q] at w0; exact fun σ' F' H' t S => w0 .non F' H' (ext t S.sub) .non
        | rt a =>
          rw [q] at w0
          intro v F' H' t sb r
          refine w0 v F' H' (ext t sb) ?_
          cases a with
          | sh d => exact r
          | bo i => exact r
          | ow s =>
            obtain ⟨p, r1, r2, r3⟩ := r
            exact ⟨p, r1, r2.elim id fun z => (nob p z).elim, r3⟩
        | ex c d ρ => rw [q] at w0; exact fun σ' F' H' dd v t S hd r => w0 F' H' dd v (ext t S.sub) hd r
        | bk ρ => rw [q] at w0; exact w0.elim
        | ct ρ => rw [q] at w0; exact w0.elim
        | bad => rw [q] at w0; exact w0.elim
      · exact w0.elim
end
end Z
/-! From the head's facts to the law. -/
namespace Z
open PySem PySem.Spec L2

/-- a constant of the module -/
inductive Gl1 where
  | int (x : Str) (i : Int) | str (x z : Str)
def Gl1.nm : Gl1 → Str
  | .int x _ => x
  | .str x _ => x
def Gl1.d : Gl1 → D
  | .int _ i => .int i
  | .str _ z => .str z.cps.toList
def Gl1.fa : Gl1 → He.Fa
  | .int x i => .int x i
  | .str x z => .str x z
def Gl1.ok : Gl1 → Bool
  | .int _ _ => true
  | .str _ z => PyData.strOk z
def glD (gs : List Gl1) (g : Nat) : D := match gs[g]? with
  | some x => x.d
  | none => .non
def tabOf (Fs : List Fd) (gs : List Gl1) (blt : List Str) : Tab := ⟨Fs.map fun f => f.d.name, gs.map Gl1.nm, blt⟩
def faOf (Fs : List Fd) (gs : List Gl1) (blt : List Str) : List He.Fa := Fs.map (fun f => .glo f.d.name) ++ (gs.map Gl1.fa ++ blt.map .free)
section
variable {Fs : List Fd} {gs : List Gl1} {blt : List Str} {K : PySem.W.Frag} {h : Heap} {mg : Str → Option Value} {P : Program} {w : World}
theorem facts_of {fa : List He.Fa} {fn : List He.DefD} (c : He.SaysD fa fn K) {f : He.Fa} (h : f ∈ fa) : f.ok K = true := He.SaysD.facts c h
theorem mod_of (X : K.In h) (N : h.Ns mainGlobals mg) (c : He.SaysD (faOf Fs gs blt) (Fs.map Fd.d) K) (cn an : Nat → Str) (gok : (gs.all Gl1.ok) = true) :
    ModOk ⟨Fs.map fun f => f.d.name, gs.map Gl1.nm, blt⟩ Fs (glD gs) ⟨K, cn, an⟩ mg where
  blt := fun x hx => He.free_ok X N (facts_of c (List.mem_append_right _ (List.mem_append_right _ (List.mem_map.mpr ⟨x, hx, rfl⟩))))
  fns := fun f x hx => by
    have hx' : (Fs.map fun f => f.d.name)[f]? = some x := hx
    rw [List.getElem?_map] at hx'
    cases e : Fs[f]? with
    | none => rw [e] at hx'; cases hx'
    | some fd =>
      rw [e] at hx'
      cases hx'
      exact ⟨fd, rfl, rfl, He.glo_ok X N (facts_of c (List.mem_append_left _ (List.mem_map.mpr ⟨fd, List.mem_of_getElem? e, rfl⟩)))⟩
  def_ := fun f fd hf => He.SaysD.defs c (List.mem_map.mpr ⟨fd, List.mem_of_getElem? hf, rfl⟩)
  glo := fun g x hx => by
    have hx' : (gs.map Gl1.nm)[g]? = some x := hx
    rw [List.getElem?_map] at hx'
    cases e : gs[g]? with
    | none => rw [e] at hx'; cases hx'
    | some gl =>
      rw [e] at hx'
      cases hx'
      have hm := facts_of (f := gl.fa) c (List.mem_append_right _ (List.mem_append_left _ (List.mem_map.mpr ⟨gl, List.mem_of_getElem? e, rfl⟩)))
      have hk := List.all_eq_true.mp gok gl (List.mem_of_getElem? e)
      have hd : glD gs g = gl.d := by unfold glD; rw [e]
      rw [hd]
      cases gl with
      | int x i =>
        obtain ⟨t, ht⟩ := He.int_ok X N (x := x) (i := i) hm
        exact ⟨.int i, _, ht, ⟨t, rfl⟩, fun F => .int i⟩
      | str x z =>
        obtain ⟨t, ht⟩ := He.str_ok X N (x := x) (z := z) hm
        exact ⟨.str z, _, ht, ⟨t, rfl⟩, fun F => .str z hk⟩
/-- the promise, at the script -/
theorem sp_true {G : Gx} {f : List D → R A} {H : Hp} {a : Addr} {ns : List Int} (hS : SqL G.K H a (ns.map V.int)) (p : f [.lfz (ns.map .int)] = .ok (.sh (.bl true))) : spF G 1 f [.ref a] H (fun v _ => v = .bl true) fun _ _ _ => False := by
  refine ⟨rfl, H, [.lfz (ns.map .int)], Same.refl _, .one (.lfz hS ?_), ?_⟩
  · clear p hS
    induction ns with
    | nil => exact .nil
    | cons n ns ih => exact .cons (.int n) ih
  · rw [p]
    intro v F' H' e r
    cases r
    rfl
/-- what walk_ofE asks -/
theorem walk_F (l : Nat) (fd : Fd) (hl : Fs[l]? = some fd) (x : Str) (hx : fd.ps = [x]) (n k : Nat) (X : K.In h) (N : h.Ns mainGlobals mg) (c : He.SaysD (faOf Fs gs blt) (Fs.map Fd.d) K) (gok : (gs.all Gl1.ok) = true)
    (ok : ∀ (f : Nat) (fd : Fd), Fs[f]? = some fd → FdOk (tabOf Fs gs blt) fd) (cn an : Nat → Str) {f : Addr} (hm : mg fd.d.name = some (.ref f))
    (plain : ∀ ns : List Int, ns.length ≤ n → (prog (glD gs) Fs k).call l [.lfz (ns.map .int)] = .ok (.sh (.bl true))) :
    ∃ (K : PySem.W.Frag) (fd : FuncData) (sp : Sp), K.In h ∧ (∀ (s : Shared) (u : Value), BindsTo s fd ⟨[u], []⟩ [(x, u)]) ∧
      (∀ (H : Hp) (a : Addr) (ns : List Int), ns.length ≤ n → Only H → SqL K H a (ns.map V.int) → sp [.ref a] H (fun v _ => v = .bl true) fun _ _ _ => False) ∧
      ∀ base : Heap, K.In base → base.Ns mainGlobals mg → FnOk P w K mg base (L2.CX P w) k f fd [x] sp := by
  have M := mod_of X N c cn an gok
  obtain ⟨fd', D⟩ := M.def_ l fd hl
  have o := ok l fd hl
  obtain ⟨fd2, h1, h2, h3⟩ := M.fns l fd.d.name (by show (Fs.map fun f => f.d.name)[l]? = _; rw [List.getElem?_map, hl]; rfl)
  have e : f = He.ga K fd.d.name := by
    rw [h3] at hm; cases hm; rfl
  have et : He.fAd K fd.d.at_ = He.ga K fd.d.name := by rw [o.top] <;> rfl
  have e1 : fd.d.dvs K = [] := by unfold He.DefD.dvs; rw [o.dfl] <;> rfl
  have D2 := D
  rw [e1] at D2
  refine ⟨K, fd', spF ⟨K, cn, an⟩ 1 ((prog (glD gs) Fs k).call l), X, fun s u => ?_, fun H a ns hn _ hS => sp_true (G := ⟨K, cn, an⟩) hS (plain ns hn), fun base _ _ => ?_⟩
  · have := FunD.bindsA D2 o.bind s [u] (by rw [hx]; rfl)
    rw [hx] at this
    exact this
  · have := prog_ok (P := P) (w := w) (base := base) M ok k l fd fd' hl D
    rw [et, ← e, hx] at this
    exact this
theorem cx_end : ∀ (H : Hp) (s : Shared) (e : Value) (s' : Shared), L2.CX P w [] H s (fun _ _ _ => False) e s' → False := fun _ _ _ _ h => by
  obtain ⟨_, _, _, _, _, _, _, _, _, _, _, _, z⟩ := h
  exact z
/-- the end of a law: what the head leaves -/
theorem walk_end {l : PySem.W.OpenLaw} {n k : Nat} {q : Program} {loose : List Str} {XP : (Str → Option Value) → Heap → Prop} {d : DefRec} (m : Nat)
    (hn : l.most = some n) (hn2 : n ≤ sizeLine) (hdf : d.params.defaults = []) (hr : Room k callerA) (li : Nat) (fd : Fd) (hl : Fs[li]? = some fd) (hd : d.name = fd.d.name) (x : Str) (hx : fd.ps = [x])
    (gok : (gs.all Gl1.ok) = true) (ok : ∀ (f : Nat) (fd : Fd), Fs[f]? = some fd → FdOk (tabOf Fs gs blt) fd) (cn an : Nat → Str)
    (plain : ∀ ns : List Int, ns.length ≤ n → (prog (glD gs) Fs k).call li [.lfz (ns.map .int)] = .ok (.sh (.bl true))) :
    PySem.W.WalkO q loose XP (He.hookD m (faOf Fs gs blt) (Fs.map Fd.d)).says l.row.toRowW d [] (fun f vs => PySem.call f vs) := by
  refine Att.attach_call hn hdf fun w s₀ s₁ mg mb fa o pm cd doc a vs ns G Y ho hdd hcd hmg hobj hints hlen hg => ?_
  obtain ⟨K, KX, c⟩ := Y
  rw [hd] at hmg
  obtain ⟨K, fd', sp, KX, hb, hsp, hF⟩ := walk_F (P := l.prog) (w := w) li fd hl x hx n k KX G.T.g c gok ok cn an hmg plain
  exact law_call KX G.T.g G.T.b G.T.builtins G.T.nolimit hg hobj hints (Nat.le_trans hlen hn2) hr hF hb (fun H hO hS => hsp H a ns hlen hO hS) fun H e s' => cx_end H s₁ e s'
end
end Z
/-! Plain lemmas about the evaluator. -/
namespace Z
open PySem PySem.Spec L2

/-- what an end promises -/
def OP (Q : O → Prop) (I : Env → Prop) : O → Prop
  | .nx ρ => I ρ
  | .ct ρ => I ρ
  | .bk ρ => Q (.nx ρ)
  | o => Q o
theorem forL_ind {t : Tg} {f : Env → O} (I : List D → Env → Prop) (Q : O → Prop) (h0 : ∀ ρ, I [] ρ → Q (.nx ρ))
    (h1 : ∀ d r ρ, I (d :: r) ρ → ∃ ρ', setT t d ρ = some ρ' ∧ OP Q (I r) (f ρ')) : ∀ ds ρ, I ds ρ → Q (forL t f ds ρ)
  | [], ρ, h => h0 ρ h
  | d :: r, ρ, h => by
    obtain ⟨ρ', e, k⟩ := h1 d r ρ h
    unfold forL
    rw [e]
    show Q (match f ρ' with
      | .nx ρ => forL t f r ρ
      | .ct ρ => forL t f r ρ
      | .bk ρ => .nx ρ
      | o => o)
    cases q : f ρ' with
    | nx ρ => rw [q] at k; exact forL_ind I Q h0 h1 r ρ k
    | ct ρ => rw [q] at k; exact forL_ind I Q h0 h1 r ρ k
    | bk ρ => rw [q] at k; exact k
    | rt a => rw [q] at k; exact k
    | ex c d ρ => rw [q] at k; exact k
    | bad => rw [q] at k; exact k
theorem whl_ind {c : Env → R Bool} {f : Env → O} (I : Nat → Env → Prop) (Q : O → Prop)
    (h : ∀ m ρ, I m ρ → (c ρ = .ok false ∧ Q (.nx ρ)) ∨ (c ρ = .ok true ∧ OP Q (fun ρ => ∃ m', m' < m ∧ I m' ρ) (f ρ))) : ∀ n m ρ, m < n → I m ρ → Q (whlF c f n ρ)
  | 0, m, ρ, hn, hi => absurd hn (by omega)
  | n + 1, m, ρ, hn, hi => by
    unfold whlF
    rcases h m ρ hi with ⟨e, q⟩ | ⟨e, q⟩
    · rw [e]; exact q
    · rw [e]
      show Q (match f ρ with
        | .nx ρ => whlF c f n ρ
        | .ct ρ => whlF c f n ρ
        | .bk ρ => .nx ρ
        | o => o)
      cases k : f ρ with
      | nx ρ => rw [k] at q; obtain ⟨m', l, j⟩ := q; exact whl_ind I Q h n m' ρ (by omega) j
      | ct ρ => rw [k] at q; obtain ⟨m', l, j⟩ := q; exact whl_ind I Q h n m' ρ (by omega) j
      | bk ρ => rw [k] at q; exact q
      | rt a => rw [k] at q; exact q
      | ex c d ρ => rw [k] at q; exact q
      | bad => rw [k] at q; exact q
@[simp] theorem setTs_nil (ρ : Env) : setTs [] [] ρ = some ρ := by rw [setTs]
@[simp] theorem setTs_cons (i : Nat) (is : List Nat) (d : D) (ds : List D) (ρ : Env) : setTs (i :: is) (d :: ds) ρ = setTs is ds (ρ.set i (some (.sh d))) := by rw [setTs]
/-! one rule a shape -/
def vrS (i : Nat) : Option (Option S) → R A
  | some (some (.sh d)) => .ok (.sh d)
  | some (some _) => .ok (.bo i)
  | _ => .bad
@[simp] theorem vrS_sh (i : Nat) (d : D) : vrS i (some (some (.sh d))) = .ok (.sh d) := id rfl
@[simp] theorem vrS_li (i : Nat) (d : List D) : vrS i (some (some (.li d))) = .ok (.bo i) := id rfl
@[simp] theorem vrS_di (i : Nat) (d : List (D × D)) : vrS i (some (some (.di d))) = .ok (.bo i) := id rfl
def rdS : Option (Option S) → R D
  | some (some s) => .ok s.d
  | _ => .bad
@[simp] theorem rdS_some (s : S) : rdS (some (some s)) = .ok s.d := id rfl
@[simp] theorem Sd_sh (d : D) : (S.sh d).d = d := id rfl
@[simp] theorem Sd_li (d : List D) : (S.li d).d = .lst d := id rfl
@[simp] theorem Sd_di (d : List (D × D)) : (S.di d).d = .dic d := id rfl
def rtS : Option (Option S) → O
  | some (some s) => .rt (.ow s)
  | _ => .bad
@[simp] theorem rtS_some (s : S) : rtS (some (some s)) = .rt (.ow s) := id rfl
def fzS (i : Nat) (ρ : Env) : Option (Option S) → Env
  | some (some s) => ρ.set i (some (.sh s.d))
  | _ => ρ
@[simp] theorem fzS_some (i : Nat) (ρ : Env) (s : S) : fzS i ρ (some (some s)) = ρ.set i (some (.sh s.d)) := id rfl
@[simp] theorem fzS_none (i : Nat) (ρ : Env) : fzS i ρ (some none) = ρ := id rfl
section
variable {Γ : Fn} {ρ : Env}
@[simp] theorem rdA_sh (d : D) : rdA ρ (.sh d) = .ok d := id rfl
@[simp] theorem rdA_ow (s : S) : rdA ρ (.ow s) = .ok s.d := id rfl
@[simp] theorem rdA_bo (i : Nat) : rdA ρ (.bo i) = rdS ρ[i]? := by
  simp only [rdA]; generalize ρ[i]? = o; rcases o with _ | _ | s <;> rfl
@[simp] theorem kpA_sh (d : D) : kpA (.sh d) = .ok d := id rfl
@[simp] theorem kpA_ow (s : S) : kpA (.ow s) = .ok s.d := id rfl
@[simp] theorem retA_sh (d : D) : retA ρ (.sh d) = .rt (.sh d) := id rfl
@[simp] theorem retA_ow (s : S) : retA ρ (.ow s) = .rt (.ow s) := id rfl
@[simp] theorem retA_bo (i : Nat) : retA ρ (.bo i) = rtS ρ[i]? := by
  simp only [retA]; generalize ρ[i]? = o; rcases o with _ | _ | s <;> rfl
@[simp] theorem asgT_vs (i : Nat) (d : D) : asgT (.v i) (.sh d) ρ = some (ρ.set i (some (.sh d))) := id rfl
@[simp] theorem asgT_vo (i : Nat) (s : S) : asgT (.v i) (.ow s) ρ = some (ρ.set i (some s)) := id rfl
@[simp] theorem asgT_t (l : List Nat) (ds : List D) : asgT (.t l) (.sh (.tup ds)) ρ = setTs l ds ρ := id rfl
@[simp] theorem setT_v (i : Nat) (d : D) : setT (.v i) d ρ = some (ρ.set i (some (.sh d))) := id rfl
@[simp] theorem setT_t (l : List Nat) (ds : List D) : setT (.t l) (.tup ds) ρ = setTs l ds ρ := id rfl
@[simp] theorem optO_some : optO (some ρ) = .nx ρ := id rfl
@[simp] theorem frzE_def (i : Nat) : frzE i ρ = fzS i ρ ρ[i]? := by
  simp only [frzE]; generalize ρ[i]? = o; rcases o with _ | _ | s <;> rfl
@[simp] theorem bind_ite {α β : Type} (c : Prop) [Decidable c] (a b : R α) (f : α → R β) : (if c then a else b).bind f = if c then a.bind f else b.bind f := by split <;> rfl
@[simp] theorem toO_ite {α : Type} (c : Prop) [Decidable c] (a b : R α) (f : α → O) : (if c then a else b).toO ρ f = if c then a.toO ρ f else b.toO ρ f := by split <;> rfl
@[simp] theorem toO_exc {α : Type} (c : Nat) (d : D) (f : α → O) : (R.exc c d : R α).toO ρ f = .ex c d ρ := id rfl
/-- one command behind another -/
def O.sq (o : O) (f : Env → O) : O := match o with
  | .nx ρ => f ρ
  | o => o
@[simp] theorem sq_nx (f : Env → O) : (O.nx ρ).sq f = f ρ := id rfl
@[simp] theorem sq_rt (a : A) (f : Env → O) : (O.rt a).sq f = .rt a := id rfl
@[simp] theorem sq_bk (f : Env → O) : (O.bk ρ).sq f = .bk ρ := id rfl
@[simp] theorem sq_ct (f : Env → O) : (O.ct ρ).sq f = .ct ρ := id rfl
@[simp] theorem sq_ex (c : Nat) (d : D) (f : Env → O) : (O.ex c d ρ).sq f = .ex c d ρ := id rfl
@[simp] theorem sq_ite (c : Prop) [Decidable c] (a b : O) (f : Env → O) : (if c then a else b).sq f = if c then a.sq f else b.sq f := by split <;> rfl
@[simp] theorem exs_nil : exs Γ .nil ρ = .nx ρ := by rw [exs]
@[simp] theorem exs_cons (c : C) (r : Cs) : exs Γ (.cons c r) ρ = (exC Γ c ρ).sq (exs Γ r) := by
  rw [exs]; cases exC Γ c ρ <;> rfl
@[simp] theorem exs_frz (i : Nat) (r : Cs) : exs Γ (.frz i r) ρ = exs Γ r (frzE i ρ) := by rw [exs]
/-- the end of a def's body -/
def O.en (o : O) : R A := match o with
  | .nx _ => .ok (.sh .non)
  | .rt a => .ok a
  | .ex c d _ => .exc c d
  | _ => .bad
@[simp] theorem en_nx : (O.nx ρ).en = .ok (.sh .non) := id rfl
@[simp] theorem en_rt (a : A) : (O.rt a).en = .ok a := id rfl
@[simp] theorem en_ex (c : Nat) (d : D) : (O.ex c d ρ).en = .exc c d := id rfl
@[simp] theorem en_ite (c : Prop) [Decidable c] (a b : O) : (if c then a else b).en = if c then a.en else b.en := by split <;> rfl
@[simp] theorem runB_eq (n m : Nat) (b : Cs) (ds : List D) (h : ds.length = n) : runB Γ n m b ds = (exs Γ b (ds.map (fun d => some (.sh d)) ++ List.replicate m none)).en := by
  unfold runB; rw [if_pos h]; cases exs Γ b (ds.map (fun d => some (.sh d)) ++ List.replicate m none) <;> rfl
@[simp] theorem ev_cst (d : D) : ev Γ (.cst d) ρ = .ok (.sh d) := by rw [ev]
@[simp] theorem ev_var (i : Nat) : ev Γ (.var i) ρ = vrS i ρ[i]? := by
  rw [ev]; generalize ρ[i]? = o; rcases o with _ | _ | _ | _ | _ <;> rfl
@[simp] theorem ev_glb (g : Nat) : ev Γ (.glb g) ρ = .ok (.sh (Γ.glob g)) := by rw [ev]
@[simp] theorem ev_bin (o : Bop) (a b : E) : ev Γ (.bin o a b) ρ = (ev Γ a ρ).bind fun x => (ev Γ b ρ).bind fun y => (rdA ρ x).bind fun x => (rdA ρ y).bind fun y => binD o x y := by rw [ev]
@[simp] theorem ev_neg (a : E) : ev Γ (.neg a) ρ = (ev Γ a ρ).bind fun x => (rdA ρ x).bind negD := by rw [ev]
@[simp] theorem ev_not (a : E) : ev Γ (.not a) ρ = (ev Γ a ρ).bind fun x => (rdA ρ x).bind fun x => (tru x).bind fun k => .ok (.sh (.bl !k)) := by rw [ev]
@[simp] theorem ev_and (a b : E) : ev Γ (.and a b) ρ = (ev Γ a ρ).bind fun x => (rdA ρ x).bind fun d => (tru d).bind fun k => if k then ev Γ b ρ else .ok x := by rw [ev]
@[simp] theorem ev_or (a b : E) : ev Γ (.or a b) ρ = (ev Γ a ρ).bind fun x => (rdA ρ x).bind fun d => (tru d).bind fun k => if k then .ok x else ev Γ b ρ := by rw [ev]
@[simp] theorem ev_cmp (o : Cop) (a b : E) : ev Γ (.cmp o a b) ρ = (ev Γ a ρ).bind fun x => (ev Γ b ρ).bind fun y => (rdA ρ x).bind fun x => (rdA ρ y).bind fun y => (cmpD o x y).bind fun k => .ok (.sh (.bl k)) := by rw [ev]
@[simp] theorem ev_chn (o p : Cop) (a b c : E) : ev Γ (.chn o p a b c) ρ = (ev Γ a ρ).bind fun x => (ev Γ b ρ).bind fun y => (rdA ρ x).bind fun x => (rdA ρ y).bind fun yd => (cmpD o x yd).bind fun k =>
      if k then (ev Γ c ρ).bind fun z => (rdA ρ z).bind fun z => (cmpD p yd z).bind fun k => .ok (.sh (.bl k)) else .ok (.sh (.bl false)) := by rw [ev]
@[simp] theorem ev_call (f : Nat) (as : Es) : ev Γ (.call f as) ρ = (evs Γ as ρ).bind fun xs => (rds ρ xs).bind fun ds => lent xs (Γ.call f ds) := by rw [ev]
@[simp] theorem ev_bif (f : Bf) (as : Es) : ev Γ (.bif f as) ρ = (evs Γ as ρ).bind fun xs => (rds ρ xs).bind fun ds => bifD f ds := by rw [ev]
@[simp] theorem ev_isi (a : E) (t : Ty) : ev Γ (.isi a t) ρ = (ev Γ a ρ).bind fun x => (rdA ρ x).bind fun x => (isiD x t).bind fun k => .ok (.sh (.bl k)) := by rw [ev]
@[simp] theorem ev_ix (a b : E) : ev Γ (.ix a b) ρ = (ev Γ a ρ).bind fun x => (ev Γ b ρ).bind fun y => (rdA ρ x).bind fun x => (rdA ρ y).bind fun y => (ixD x y).bind fun d => .ok (.sh d) := by rw [ev]
@[simp] theorem ev_sl (a : E) (lo hi : Eo) : ev Γ (.sl a lo hi) ρ = (ev Γ a ρ).bind fun x => (evo Γ lo ρ).bind fun i => (evo Γ hi ρ).bind fun j => (rdA ρ x).bind fun x => slD x i j := by rw [ev]
@[simp] theorem ev_tup (as : Es) : ev Γ (.tup as) ρ = (evs Γ as ρ).bind fun xs => (kps xs).bind fun ds => if ds.length ≤ 16777216 then .ok (.sh (.tup ds)) else .bad := by rw [ev]
@[simp] theorem ev_lis (as : Es) : ev Γ (.lis as) ρ = (evs Γ as ρ).bind fun xs => (kps xs).bind fun ds => if ds.length ≤ 16777216 then .ok (.ow (.li ds)) else .bad := by rw [ev]
@[simp] theorem ev_ife (c a b : E) : ev Γ (.ife c a b) ρ = (ev Γ c ρ).bind fun x => (rdA ρ x).bind fun d => (tru d).bind fun k => if k then ev Γ a ρ else ev Γ b ρ := by rw [ev]
@[simp] theorem evs_nil : evs Γ .nil ρ = .ok [] := by rw [evs]
@[simp] theorem evs_cons (e : E) (r : Es) : evs Γ (.cons e r) ρ = (ev Γ e ρ).bind fun x => (evs Γ r ρ).bind fun xs => .ok (x :: xs) := by rw [evs]
@[simp] theorem evo_no : evo Γ .no ρ = .ok none := by rw [evo]
@[simp] theorem evo_so (e : E) : evo Γ (.so e) ρ = (ev Γ e ρ).bind fun x => (rdA ρ x).bind fun d => (intO d).bind fun i => .ok (some i) := by rw [evo]
@[simp] theorem rds_nil : rds ρ [] = .ok [] := id rfl
@[simp] theorem rds_cons (a : A) (r : List A) : rds ρ (a :: r) = (rdA ρ a).bind fun d => (rds ρ r).bind fun ds => .ok (d :: ds) := id rfl
@[simp] theorem kps_nil : kps [] = .ok [] := id rfl
@[simp] theorem kps_cons (a : A) (r : List A) : kps (a :: r) = (kpA a).bind fun d => (kps r).bind fun ds => .ok (d :: ds) := id rfl
@[simp] theorem truA_def (x : R A) : truA ρ x = x.bind fun a => (rdA ρ a).bind tru := id rfl
@[simp] theorem evI_it (e : E) : evI Γ ρ (.it e) = (ev Γ e ρ).bind fun a => (kpA a).bind items := id rfl
@[simp] theorem evI_rng1 (a : E) : evI Γ ρ (.rng1 a) = (ev Γ a ρ).bind fun x => (rdA ρ x).bind rng1D := id rfl
@[simp] theorem evI_rng2 (a b : E) : evI Γ ρ (.rng2 a b) = (ev Γ a ρ).bind fun x => (ev Γ b ρ).bind fun y => (rdA ρ x).bind fun x => (rdA ρ y).bind fun y => rng2D x y := id rfl
end
section
variable {ρ : Env}
@[simp] theorem tru_bl (b : Bool) : tru (.bl b) = .ok b := id rfl
@[simp] theorem tru_int (i : Int) : tru (.int i) = .ok (i != 0) := id rfl
@[simp] theorem tru_non : tru .non = .ok false := id rfl
@[simp] theorem tru_lst (l : List D) : tru (.lst l) = .ok !l.isEmpty := id rfl
@[simp] theorem tru_tup (l : List D) : tru (.tup l) = .ok !l.isEmpty := id rfl
@[simp] theorem eqR_int (i j : Int) : eqR (.int i) (.int j) = .ok (decide (i = j)) := id rfl
@[simp] theorem eqR_str (i j : List Nat) : eqR (.str i) (.str j) = .ok (decide (i = j)) := id rfl
@[simp] theorem eqR_bl (i j : Bool) : eqR (.bl i) (.bl j) = .ok (decide (i = j)) := id rfl
@[simp] theorem cmpD_eq (a b : D) : cmpD .eq a b = eqR a b := id rfl
@[simp] theorem cmpD_ne (a b : D) : cmpD .ne a b = (eqR a b).bind fun k => .ok !k := id rfl
@[simp] theorem cmpD_lt (i j : Int) : cmpD .lt (.int i) (.int j) = .ok (decide (i < j)) := id rfl
@[simp] theorem cmpD_le (i j : Int) : cmpD .le (.int i) (.int j) = .ok (decide (i ≤ j)) := id rfl
@[simp] theorem cmpD_gt (i j : Int) : cmpD .gt (.int i) (.int j) = .ok (decide (j < i)) := id rfl
@[simp] theorem cmpD_ge (i j : Int) : cmpD .ge (.int i) (.int j) = .ok (decide (j ≤ i)) := id rfl
@[simp] theorem cmpD_is (a b : D) : cmpD .is a b = isR a b := id rfl
@[simp] theorem cmpD_isn (a b : D) : cmpD .isn a b = (isR a b).bind fun k => .ok !k := id rfl
@[simp] theorem cmpD_inn (a b : D) : cmpD .inn a b = inR a b := id rfl
@[simp] theorem cmpD_nin (a b : D) : cmpD .nin a b = (inR a b).bind fun k => .ok !k := id rfl
@[simp] theorem isR_non (a : D) : isR a .non = .ok a.isNon := id rfl
@[simp] theorem isR_bl (a b : Bool) : isR (.bl a) (.bl b) = .ok (decide (a = b)) := id rfl
@[simp] theorem isNon_non : D.non.isNon = true := id rfl
@[simp] theorem isNon_int (i : Int) : (D.int i).isNon = false := id rfl
@[simp] theorem isNon_str (i : List Nat) : (D.str i).isNon = false := id rfl
@[simp] theorem isNon_tup (i : List D) : (D.tup i).isNon = false := id rfl
@[simp] theorem isNon_bl (i : Bool) : (D.bl i).isNon = false := id rfl
@[simp] theorem inR_sign (c : Nat) (s : List Nat) : inR (.str [c]) (.str s) = .ok (decide (c ∈ s)) := id rfl
@[simp] theorem intO_int (i : Int) : intO (.int i) = .ok i := id rfl
@[simp] theorem negD_int (i : Int) : negD (.int i) = .ok (.sh (.int (-i))) := id rfl
@[simp] theorem lenD_lst (l : List D) : lenD (.lst l) = .ok (.int l.length) := id rfl
@[simp] theorem lenD_tup (l : List D) : lenD (.tup l) = .ok (.int l.length) := id rfl
@[simp] theorem lenD_lfz (l : List D) : lenD (.lfz l) = .ok (.int l.length) := id rfl
@[simp] theorem lenD_str (l : List Nat) (h : l.length ≤ 16777216) : lenD (.str l) = .ok (.int l.length) := by simp only [lenD]; rw [if_pos h]
@[simp] theorem bifD_len (d : D) : bifD .len [d] = (lenD d).bind fun x => .ok (.sh x) := id rfl
@[simp] theorem bifD_max (i j : Int) : bifD .max [.int i, .int j] = .ok (.sh (.int (if j > i then j else i))) := id rfl
@[simp] theorem bifD_min (i j : Int) : bifD .min [.int i, .int j] = .ok (.sh (.int (if j < i then j else i))) := id rfl
@[simp] theorem bifD_tuple_lst (l : List D) : bifD .tuple [.lst l] = .ok (.sh (.tup l)) := id rfl
@[simp] theorem bifD_list_lst (l : List D) : bifD .list [.lst l] = .ok (.ow (.li l)) := id rfl
@[simp] theorem bifD_list_tup (l : List D) : bifD .list [.tup l] = .ok (.ow (.li l)) := id rfl
theorem bifD_str (i : Int) (h : i.natAbs.log2 < 1920) : bifD .str [.int i] = .ok (.sh (.str (strInt i))) := by
  show bif1 .str (.int i) = _
  simp only [bif1]; rw [if_pos h]
@[simp] theorem ixD_lst (l : List D) (i : Int) (d : D) (h : atI l i = some d) : ixD (.lst l) (.int i) = .ok d := by unfold ixD; simp only [h]
@[simp] theorem ixD_lfz (l : List D) (i : Int) (d : D) (h : atI l i = some d) : ixD (.lfz l) (.int i) = .ok d := by unfold ixD; simp only [h]
@[simp] theorem ixD_tup (l : List D) (i : Int) (d : D) (h : atI l i = some d) : ixD (.tup l) (.int i) = .ok d := by unfold ixD; simp only [h]
theorem ixD_str (l : List Nat) (i : Int) (c : Nat) (hl : l.length ≤ 16777216) (h : atI l i = some c) : ixD (.str l) (.int i) = .ok (.str [c]) := by unfold ixD; simp only [if_pos hl, h]
@[simp] theorem slD_lst (l : List D) (a b : Option Int) : slD (.lst l) a b = .ok (.ow (.li (cutL l a b))) := id rfl
@[simp] theorem slD_lfz (l : List D) (a b : Option Int) : slD (.lfz l) a b = .ok (.ow (.li (cutL l a b))) := id rfl
@[simp] theorem slD_tup (l : List D) (a b : Option Int) : slD (.tup l) a b = .ok (.sh (.tup (cutL l a b))) := id rfl
@[simp] theorem slD_str (l : List Nat) (a b : Option Int) (h : l.length ≤ 16777216) : slD (.str l) a b = .ok (.sh (.str (cutL l a b))) := by simp only [slD]; rw [if_pos h]
@[simp] theorem items_lst (l : List D) : items (.lst l) = .ok l := id rfl
@[simp] theorem items_lfz (l : List D) : items (.lfz l) = .ok l := id rfl
@[simp] theorem items_tup (l : List D) : items (.tup l) = .ok l := id rfl
@[simp] theorem items_str (l : List Nat) : items (.str l) = .ok (l.map fun c => .str [c]) := id rfl
@[simp] theorem rng1D_nat (n : Nat) (h : n < 4611686018427387904) : rng1D (.int n) = .ok (iota 0 n) := by
  simp only [rng1D]; rw [if_pos (by omega)]; rfl
theorem rng1D_int (n : Int) (h : n < 4611686018427387904) (h0 : 0 ≤ n) : rng1D (.int n) = .ok (iota 0 n.toNat) := by
  simp only [rng1D]; rw [if_pos (by omega)]
@[simp] theorem isiD_bb (b : Bool) : isiD (.bl b) .bool = .ok true := id rfl
@[simp] theorem ifO_true (o : O) : ifO true o = o := id rfl
def isLiS : Option (Option S) → Bool
  | some (some (.li _)) => true
  | _ => false
@[simp] theorem isLi_def (i : Nat) : isLi i ρ = isLiS ρ[i]? := by unfold isLi isLiS; rfl
@[simp] theorem isLiS_li (l : List D) : isLiS (some (some (.li l))) = true := id rfl
def isNuS : Option (Option S) → Bool
  | some (some (.sh (.int _))) => true
  | _ => false
@[simp] theorem isNu_def (i : Nat) : isNu i ρ = isNuS ρ[i]? := by unfold isNu isNuS; rfl
@[simp] theorem isNuS_int (i : Int) : isNuS (some (some (.sh (.int i)))) = true := id rfl
def appS (i : Nat) (d : D) (ρ : Env) : Option (Option S) → O
  | some (some (.li l)) => if l.length < 16777216 then .nx (ρ.set i (some (.li (l ++ [d])))) else .bad
  | _ => .bad
@[simp] theorem appE_def (i : Nat) (d : D) : appE i d ρ = appS i d ρ ρ[i]? := by unfold appE appS; rfl
@[simp] theorem appS_li (i : Nat) (d : D) (l : List D) (h : l.length < 16777216) : appS i d ρ (some (some (.li l))) = .nx (ρ.set i (some (.li (l ++ [d])))) := by simp only [appS]; rw [if_pos h]
def augS (i : Nat) (d : D) (ρ : Env) (o : Option (Option S)) : O := match o, d with
  | some (some (.sh (.int a))), .int b => .nx (ρ.set i (some (.sh (.int (a + b)))))
  | _, _ => .bad
@[simp] theorem augE_def (i : Nat) (d : D) : augE i d ρ = augS i d ρ ρ[i]? := by unfold augE augS; rfl
@[simp] theorem augS_int (i : Nat) (a b : Int) : augS i (.int b) ρ (some (some (.sh (.int a)))) = .nx (ρ.set i (some (.sh (.int (a + b))))) := id rfl
def popS (t : Tg) (i : Nat) (ρ : Env) : Option (Option S) → O
  | some (some (.li l)) => (match l.getLast? with
    | some d => optO (setT t d (ρ.set i (some (.li l.dropLast))))
    | none => .bad)
  | _ => .bad
@[simp] theorem popE_def (t : Tg) (i : Nat) : popE t i ρ = popS t i ρ ρ[i]? := by unfold popE popS; rfl
@[simp] theorem popS_li (t : Tg) (i : Nat) (l : List D) (d : D) (h : l.getLast? = some d) : popS t i ρ (some (some (.li l))) = optO (setT t d (ρ.set i (some (.li l.dropLast)))) := by unfold popS; simp only [h]
@[simp] theorem lent_nil (r : R A) : lent [] r = r := by
  cases r with
  | ok a => cases a with
    | sh d => simp [lent]
    | ow s => cases s <;> simp [lent]
    | bo i => rfl
  | exc c d => simp [lent]
  | bad => rfl
@[simp] theorem lent_sh (d : D) (as : List A) (r : R A) : lent (.sh d :: as) r = lent as r := by
  cases r with
  | ok a => cases a with
    | sh d => simp [lent, A.isBo]
    | ow s => cases s <;> simp [lent, A.isBo]
    | bo i => rfl
  | exc c d => simp [lent, A.isBo]
  | bad => rfl
@[simp] theorem lent_ow (s : S) (as : List A) (r : R A) : lent (.ow s :: as) r = lent as r := by
  cases r with
  | ok a => cases a with
    | sh d => simp [lent, A.isBo]
    | ow s => cases s <;> simp [lent, A.isBo]
    | bo i => rfl
  | exc c d => simp [lent, A.isBo]
  | bad => rfl
@[simp] theorem flat_non : D.non.flat = true := id rfl
@[simp] theorem flat_bl (b : Bool) : (D.bl b).flat = true := id rfl
@[simp] theorem flat_int (i : Int) : (D.int i).flat = true := id rfl
@[simp] theorem flat_str (i : List Nat) : (D.str i).flat = true := id rfl
theorem lent_flat (as : List A) (d : D) (h : d.flat = true) : lent as (.ok (.sh d)) = .ok (.sh d) := by simp [lent, h]
@[simp] theorem lent_bl (as : List A) (b : Bool) : lent as (.ok (.sh (.bl b))) = .ok (.sh (.bl b)) := by simp [lent]
@[simp] theorem lent_int (as : List A) (b : Int) : lent as (.ok (.sh (.int b))) = .ok (.sh (.int b)) := by simp [lent]
@[simp] theorem lent_str (as : List A) (b : List Nat) : lent as (.ok (.sh (.str b))) = .ok (.sh (.str b)) := by simp [lent]
@[simp] theorem lent_non (as : List A) : lent as (.ok (.sh .non)) = .ok (.sh .non) := by simp [lent]
end
theorem OP_to {Q : O → Prop} {I : Env → Prop} {o : O} {ρ : Env} (h : o = .nx ρ) (hi : I ρ) : OP Q I o := by rw [h]; exact hi
theorem OP_rt' {Q : O → Prop} {I : Env → Prop} {o : O} {a : A} (h : o = .rt a) (hi : Q (.rt a)) : OP Q I o := by rw [h]; exact hi
@[simp] theorem OP_nx (Q : O → Prop) (I : Env → Prop) (ρ : Env) : OP Q I (.nx ρ) = I ρ := id rfl
@[simp] theorem OP_ct (Q : O → Prop) (I : Env → Prop) (ρ : Env) : OP Q I (.ct ρ) = I ρ := id rfl
@[simp] theorem OP_bk (Q : O → Prop) (I : Env → Prop) (ρ : Env) : OP Q I (.bk ρ) = Q (.nx ρ) := id rfl
@[simp] theorem OP_rt (Q : O → Prop) (I : Env → Prop) (a : A) : OP Q I (.rt a) = Q (.rt a) := id rfl
@[simp] theorem OP_ite (Q : O → Prop) (I : Env → Prop) (c : Prop) [Decidable c] (a b : O) : OP Q I (if c then a else b) = if c then OP Q I a else OP Q I b := by split <;> rfl
section
variable {Γ : Fn} {ρ : Env}
@[simp] theorem exC_asg (t : Tg) (e : E) : exC Γ (.asg t e) ρ = (ev Γ e ρ).toO ρ fun a => optO (asgT t a ρ) := by rw [exC]
@[simp] theorem exC_sub (i : Nat) (k e : E) : exC Γ (.sub i k e) ρ = ifO (isLi i ρ) ((ev Γ e ρ).toO ρ fun a => (kpA a).toO ρ fun d => (ev Γ k ρ).toO ρ fun b => (rdA ρ b).toO ρ fun k => subE i k d ρ) := by rw [exC]
@[simp] theorem exC_aug (i : Nat) (e : E) : exC Γ (.aug i e) ρ = ifO (isNu i ρ) ((ev Γ e ρ).toO ρ fun a => (rdA ρ a).toO ρ fun d => augE i d ρ) := by rw [exC]
@[simp] theorem exC_app (i : Nat) (e : E) : exC Γ (.app i e) ρ = ifO (isLi i ρ) ((ev Γ e ρ).toO ρ fun a => (kpA a).toO ρ fun d => appE i d ρ) := by rw [exC]
@[simp] theorem exC_pop (t : Tg) (i : Nat) : exC Γ (.pop t i) ρ = popE t i ρ := by rw [exC]
@[simp] theorem exC_exp (e : E) : exC Γ (.exp e) ρ = (ev Γ e ρ).toO ρ fun _ => .nx ρ := by rw [exC]
@[simp] theorem exC_ite (c : E) (a b : Cs) : exC Γ (.ite c a b) ρ = (truA ρ (ev Γ c ρ)).toO ρ fun k => if k then exs Γ a ρ else exs Γ b ρ := by rw [exC]
theorem exC_whl (n : Nat) (c : E) (b : Cs) : exC Γ (.whl n c b) ρ = whlF (fun ρ => truA ρ (ev Γ c ρ)) (fun ρ => exs Γ b ρ) n ρ := by rw [exC]
theorem exC_for (t : Tg) (it : Iz) (b : Cs) : exC Γ (.for t it b) ρ = (evI Γ ρ it).toO ρ fun ds => forL t (fun ρ => exs Γ b ρ) ds ρ := by rw [exC]
@[simp] theorem exC_ret (e : E) : exC Γ (.ret e) ρ = (ev Γ e ρ).toO ρ (retA ρ) := by rw [exC]
@[simp] theorem exC_retn : exC Γ .retn ρ = .rt (.sh .non) := by rw [exC]
@[simp] theorem exC_brk : exC Γ .brk ρ = .bk ρ := by rw [exC]
@[simp] theorem exC_cnt : exC Γ .cnt ρ = .ct ρ := by rw [exC]
@[simp] theorem exC_pas : exC Γ .pas ρ = .nx ρ := by rw [exC]
end
@[simp] theorem binD_add (i j : Int) : binD .add (.int i) (.int j) = .ok (.sh (.int (i + j))) := id rfl
@[simp] theorem binD_sub (i j : Int) : binD .sub (.int i) (.int j) = .ok (.sh (.int (i - j))) := id rfl
@[simp] theorem binD_mul (i j : Int) (h1 : -18446744073709551616 < j) (h2 : j < 18446744073709551616) : binD .mul (.int i) (.int j) = .ok (.sh (.int (i * j))) := by
  simp only [binD]; rw [if_pos (.inr (.inl ⟨h1, h2⟩))]
@[simp] theorem binD_fdiv (i j : Int) (h1 : 0 < j) (h2 : j < 18446744073709551616) : binD .fdiv (.int i) (.int j) = .ok (.sh (.int (i / j))) := by
  simp only [binD]; rw [if_pos ⟨h1, .inl h2⟩]
@[simp] theorem binD_mod (i j : Int) (h1 : 0 < j) : binD .mod (.int i) (.int j) = .ok (.sh (.int (i % j))) := by
  simp only [binD]; rw [if_pos h1]
@[simp] theorem binD_str (s t : List Nat) (h : s.length + t.length ≤ 16777216) : binD .add (.str s) (.str t) = .ok (.sh (.str (s ++ t))) := by
  simp only [binD]; rw [if_pos h]
@[simp] theorem binD_lst (s t : List D) (h : s.length + t.length ≤ 16777216) : binD .add (.lst s) (.lst t) = .ok (.ow (.li (s ++ t))) := by
  simp only [binD]; rw [if_pos h]
@[simp] theorem binD_tup (s t : List D) (h : s.length + t.length ≤ 16777216) (h2 : s ≠ []) : binD .add (.tup s) (.tup t) = .ok (.sh (.tup (s ++ t))) := by
  simp only [binD]; rw [if_pos ⟨h, h2⟩]
theorem runB_rt {Γ : Fn} {n m : Nat} {b : Cs} {ds : List D} {a : A} (hl : ds.length = n) (h : exs Γ b (ds.map (fun d => some (.sh d)) ++ List.replicate m none) = .rt a) : runB Γ n m b ds = .ok a := by
  unfold runB; rw [if_pos hl, h]
/-- how many of the leading signs are of g -/
def runE (g : List Nat) : List Nat → Nat
  | [] => 0
  | c :: r => if c ∈ g then runE g r + 1 else 0
theorem runE_le (g : List Nat) : ∀ s, runE g s ≤ s.length
  | [] => by simp [runE]
  | c :: r => by
    unfold runE
    have := runE_le g r
    split <;> simp <;> omega
def abc : List Nat := [97, 98, 99, 100, 101, 102, 103, 104, 105, 106, 107, 108, 109, 110, 111, 112, 113, 114, 115, 116, 117, 118, 119, 120, 121, 122]
@[simp] theorem abc_eq : [97, 98, 99, 100, 101, 102, 103, 104, 105, 106, 107, 108, 109, 110, 111, 112, 113, 114, 115, 116, 117, 118, 119, 120, 121, 122] = abc := rfl
def figs : List Nat := [48, 49, 50, 51, 52, 53, 54, 55, 56, 57]
@[simp] theorem figs_eq : [48, 49, 50, 51, 52, 53, 54, 55, 56, 57] = figs := rfl
/-- where a name that begins at a ends -/
def nameO (s : List Nat) (a : Nat) : Option Nat := if runE abc (s.drop a) = 0 ∨ 12 < runE abc (s.drop a) then none else some (a + runE abc (s.drop a))
@[simp] theorem natInj (m n : Nat) : ((m : Int) = (n : Int)) ↔ m = n := by omega
@[simp] theorem natLt (m n : Nat) : ((m : Int) < (n : Int)) ↔ m < n := by omega
@[simp] theorem natLe (m n : Nat) : ((m : Int) ≤ (n : Int)) ↔ m ≤ n := by omega
def natD : Option Nat → D
  | none => .non
  | some n => .int (n : Int)
@[simp] theorem natD_none : natD none = .non := id rfl
@[simp] theorem natD_some (n : Nat) : natD (some n) = .int (n : Int) := id rfl
theorem eqR_natD (o : Option Nat) (n : Nat) : eqR (natD o) (.int (n : Int)) = .ok (decide (o = some n)) := by
  cases o with
  | none => simp [eqR, D.ok, D.plain, D.dep, eqD]
  | some m => simp
@[simp] theorem isNon_natD (o : Option Nat) : (natD o).isNon = o.isNone := by cases o <;> rfl
theorem flat_natD (o : Option Nat) : (natD o).flat = true := by cases o <;> rfl
@[simp] theorem lent_natD (as : List A) (o : Option Nat) : lent as (.ok (.sh (natD o))) = .ok (.sh (natD o)) := lent_flat _ _ (flat_natD o)
/-! ### texts of kinds -/
@[simp] theorem cut1 (s : List Nat) (a : Nat) : cutL s (some (a : Int)) (some ((a : Int) + 1)) = (s[a]?).toList := by
  have e : ((a : Int) + 1) = ((a + 1 : Nat) : Int) := by omega
  unfold cutL
  rw [e, HT.sIx_nat, HT.sIx_nat]
  by_cases h : a < s.length
  · have h1 : min a s.length = a := by omega
    have h2 : min (a + 1) s.length - a = 1 := by omega
    rw [h1, h2, List.getElem?_eq_getElem h, List.drop_eq_getElem_cons h]; rfl
  · have h1 : min a s.length = s.length := by omega
    have h3 : s[a]? = none := by rw [List.getElem?_eq_none_iff]; omega
    rw [h1, h3]; simp
@[simp] theorem toList_one (o : Option Nat) (c : Nat) : (o.toList = [c]) ↔ o = some c := by
  cases o <;> simp
theorem nameO_gt {s : List Nat} {a b : Nat} (h : nameO s a = some b) : a < b := by
  unfold nameO at h
  split at h
  · cases h
  · cases h; omega
theorem nameO_le {s : List Nat} {a b : Nat} (h : nameO s a = some b) (ha : a ≤ s.length) : b ≤ s.length := by
  unfold nameO at h
  split at h
  · cases h
  · cases h
    have := runE_le abc (s.drop a)
    simp at this; omega
def plainO (s : List Nat) (a : Nat) : Option Nat :=
  if s[a]? = some 35 then (if runE figs (s.drop (a + 1)) = 0 then none else some (a + 1 + runE figs (s.drop (a + 1)))) else nameO s a
theorem plainO_gt {s : List Nat} {a b : Nat} (h : plainO s a = some b) : a < b := by
  unfold plainO at h
  split at h
  · split at h
    · cases h
    · cases h; omega
  · exact nameO_gt h
theorem plainO_le {s : List Nat} {a b : Nat} (h : plainO s a = some b) (ha : a ≤ s.length) : b ≤ s.length := by
  unfold plainO at h
  split at h
  · rename_i q
    obtain ⟨z, _⟩ := List.getElem?_eq_some_iff.mp q
    split at h
    · cases h
    · cases h
      have := runE_le figs (s.drop (a + 1))
      simp at this; omega
  · exact nameO_le h ha
/-- points and names behind, from a on -/
def pointsA (s : List Nat) (a : Nat) : Option Nat :=
  if hp : s[a]? = some 46 then (match h : nameO s (a + 1) with
    | none => none
    | some b => pointsA s b) else some a
termination_by s.length - a
decreasing_by
  have h1 := nameO_gt h
  obtain ⟨z, _⟩ := List.getElem?_eq_some_iff.mp hp
  have h2 := nameO_le h (by omega)
  omega
theorem pointsA_dot {s : List Nat} {a : Nat} (h : s[a]? = some 46) : pointsA s a = (nameO s (a + 1)).bind (pointsA s) := by
  rw [pointsA, dif_pos h]
  split
  · rename_i q; rw [q]; rfl
  · rename_i b q; rw [q]; rfl
theorem pointsA_no {s : List Nat} {a : Nat} (h : ¬ s[a]? = some 46) : pointsA s a = some a := by
  rw [pointsA, dif_neg h]
theorem pointsA_le {s : List Nat} : ∀ (m a b : Nat), s.length - a ≤ m → a ≤ s.length → pointsA s a = some b → a ≤ b ∧ b ≤ s.length ∧ ¬ s[b]? = some 46
  | m, a, b, hm, ha, h => by
    by_cases q : s[a]? = some 46
    · rw [pointsA_dot q] at h
      obtain ⟨z, _⟩ := List.getElem?_eq_some_iff.mp q
      cases k : nameO s (a + 1) with
      | none => rw [k] at h; cases h
      | some c =>
        rw [k] at h
        have h1 := nameO_gt k
        have h2 := nameO_le k (by omega)
        match m, hm with
        | 0, hm => omega
        | m + 1, hm =>
          have := pointsA_le m c b (by omega) h2 h
          exact ⟨by omega, this.2⟩
    · rw [pointsA_no q] at h
      cases h
      exact ⟨by omega, ha, q⟩
theorem pointsA_idem {s : List Nat} {a b : Nat} (ha : a ≤ s.length) (h : pointsA s a = some b) : pointsA s b = some b :=
  pointsA_no (pointsA_le (s.length - a) a b (Nat.le_refl _) ha h).2.2
/-- a kind's text from a on, without points behind it; n: how deep at most -/
def kindF (s : List Nat) : Nat → Nat → Option Nat
  | 0, _ => none
  | n + 1, a => if s[a]? = some 40 then
      ((kindF s n (a + 1)).bind (pointsA s)).bind fun b => if s[b]? = some 38 then
        ((kindF s n (b + 1)).bind (pointsA s)).bind fun c => if s[c]? = some 41 then some (c + 1) else none
      else none
    else plainO s a
theorem kindF_le {s : List Nat} : ∀ (n a b : Nat), a ≤ s.length → kindF s n a = some b → a < b ∧ b ≤ s.length
  | 0, _, _, _, h => by cases h
  | n + 1, a, b, ha, h => by
    unfold kindF at h
    split at h
    · rename_i q0
      obtain ⟨z0, _⟩ := List.getElem?_eq_some_iff.mp q0
      cases k1 : kindF s n (a + 1) with
      | none => rw [k1] at h; cases h
      | some a1 =>
        rw [k1] at h
        have l1 := kindF_le n _ _ (by omega) k1
        cases k2 : pointsA s a1 with
        | none => simp [k2] at h
        | some a2 =>
          have l2 := pointsA_le _ _ _ (Nat.le_refl _) l1.2 k2
          simp only [Option.bind_some, k2] at h
          split at h
          · rename_i q1
            obtain ⟨z1, _⟩ := List.getElem?_eq_some_iff.mp q1
            cases k3 : kindF s n (a2 + 1) with
            | none => rw [k3] at h; cases h
            | some a3 =>
              rw [k3] at h
              have l3 := kindF_le n _ _ (by omega) k3
              cases k4 : pointsA s a3 with
              | none => simp [k4] at h
              | some a4 =>
                have l4 := pointsA_le _ _ _ (Nat.le_refl _) l3.2 k4
                simp only [Option.bind_some, k4] at h
                split at h
                · rename_i q2
                  obtain ⟨z2, _⟩ := List.getElem?_eq_some_iff.mp q2
                  cases h
                  omega
                · cases h
          · cases h
    · exact ⟨plainO_gt h, plainO_le h ha⟩
/-- what is left to be read, by the signs that wait -/
def kindC (s : List Nat) : List (Option Nat) → Nat → Option Nat
  | [], a => pointsA s a
  | none :: w, a => (pointsA s a).bind fun b => if s[b]? = some 41 then kindC s w (b + 1) else none
  | some k :: w, a => (pointsA s a).bind fun b => if s[b]? = some 38 then
      (kindF s k (b + 1)).bind fun c => (pointsA s c).bind fun d => if s[d]? = some 41 then kindC s w (d + 1) else none
    else none
theorem kindC_some (s : List Nat) (k : Nat) (w : List (Option Nat)) (a : Nat) : kindC s (some k :: w) a = (pointsA s a).bind fun b => if s[b]? = some 38 then (kindF s k (b + 1)).bind (kindC s (none :: w)) else none := by
  rw [kindC]; rfl
theorem kindC_none (s : List Nat) (w : List (Option Nat)) (a : Nat) : kindC s (none :: w) a = (pointsA s a).bind fun b => if s[b]? = some 41 then kindC s w (b + 1) else none := by
  rw [kindC]
theorem kindF_open {s : List Nat} {n a : Nat} (w : List (Option Nat)) (h : s[a]? = some 40) : (kindF s (n + 1) a).bind (kindC s w) = (kindF s n (a + 1)).bind (kindC s (some n :: w)) := by
  rw [kindF, if_pos h]
  cases kindF s n (a + 1) with
  | none => rfl
  | some b =>
    show ((pointsA s b).bind _).bind _ = kindC s (some n :: w) b
    rw [kindC_some]
    cases pointsA s b with
    | none => rfl
    | some c =>
      simp only [Option.bind_some]
      split
      · cases kindF s n (c + 1) with
        | none => rfl
        | some d =>
          show ((pointsA s d).bind _).bind _ = kindC s (none :: w) d
          rw [kindC_none]
          cases pointsA s d with
          | none => rfl
          | some e =>
            simp only [Option.bind_some]
            split <;> rfl
      · rfl
theorem kindF_plain {s : List Nat} {n a : Nat} (h : ¬ s[a]? = some 40) : kindF s (n + 1) a = plainO s a := by
  rw [kindF, if_neg h]
/-- how many brackets open from a on -/
def opens (s : List Nat) (a : Nat) : Nat := (s.drop a).countP (· == 40)
theorem opens_mono (s : List Nat) {a b : Nat} (h : a ≤ b) : opens s b ≤ opens s a := by
  unfold opens
  have e : s.drop b = (s.drop a).drop (b - a) := by rw [List.drop_drop]; congr 1; omega
  rw [e]
  exact List.Sublist.countP_le (List.drop_sublist _ _)
theorem opens_step {s : List Nat} {a : Nat} (h : s[a]? = some 40) : opens s a = opens s (a + 1) + 1 := by
  obtain ⟨z, e⟩ := List.getElem?_eq_some_iff.mp h
  unfold opens
  rw [List.drop_eq_getElem_cons z, e]
  simp
theorem plains_scal : ∀ {l : List D}, (∀ d ∈ l, d.scal = true) → plains l = true ∧ deps l = 0
  | [], _ => ⟨rfl, rfl⟩
  | d :: l, h => by
    obtain ⟨h1, h2⟩ := plains_scal (l := l) fun z hz => h z (List.mem_cons_of_mem _ hz)
    have h3 := h d List.mem_cons_self
    unfold plains deps
    rw [h1, h2]
    cases d <;> first | exact ⟨rfl, rfl⟩ | cases h3
theorem ok_scal {l : List D} (h : ∀ d ∈ l, d.scal = true) : (D.lst l).ok = true := by
  obtain ⟨h1, h2⟩ := plains_scal h
  simp [D.ok, D.plain, D.dep, h1, h2]
theorem atI_some {α : Type} {l : List α} {i : Int} (h0 : 0 ≤ i) (h1 : i < l.length) : ∃ a, atI l i = some a ∧ a ∈ l := by
  obtain ⟨j, rfl⟩ := Int.eq_ofNat_of_zero_le h0
  have hj : j < l.length := by omega
  exact ⟨l[j], atI_nat (List.getElem?_eq_getElem hj), List.getElem_mem hj⟩
theorem cutL_sub {α : Type} (l : List α) (a b : Option Int) : (cutL l a b).Sublist l := by
  unfold cutL
  exact (List.take_sublist _ _).trans (List.drop_sublist _ _)
theorem cutL_length {α : Type} (l : List α) (a b : Option Int) : (cutL l a b).length ≤ l.length := (cutL_sub l a b).length_le
theorem strInt_nat (m : Nat) : strInt (m : Int) = (Nat.toDigits 10 m).map Char.toNat := by
  have : toString ((m : Nat) : Int) = String.ofList (Nat.toDigits 10 m) := rfl
  unfold strInt
  rw [this, String.toList_ofList]
theorem strInt_len {m k : Nat} (hk : 0 < k) (h : m < 10 ^ k) : (strInt (m : Int)).length ≤ k := by
  rw [strInt_nat, List.length_map]
  exact (Nat.length_toDigits_le_iff (by omega) hk).mpr h
theorem strInt_fig {m : Nat} : ∀ c ∈ strInt (m : Int), 48 ≤ c ∧ c ≤ 57 := by
  intro c hc
  rw [strInt_nat] at hc
  obtain ⟨x, hx, rfl⟩ := List.mem_map.mp hc
  have := Nat.isDigit_of_mem_toDigits (by omega) (by omega) hx
  simp [Char.isDigit] at this
  have h1 := this.1; have h2 := this.2
  constructor
  · exact h1
  · exact h2
theorem log2_1900 {i : Int} (h : i.natAbs < 2 ^ 1900) : i.natAbs.log2 < 1920 := by
  by_cases h0 : i.natAbs = 0
  · rw [h0]; decide
  · have := (Nat.log2_lt h0).mpr h
    omega
end Z
namespace K02
open PySem PySem.Spec L2 Z
def top (i : Nat) : Stmt := PySem.Challenge.pw_facestead_k02_texts_of_kinds.main.body.getD i (.Pass ⟨0, 0, 0, 0⟩)
def y_run_end_0 : Cs :=
  (.cons (.asg (.v 1) (.bin .add (.var 1) (.cst (.int 1)))) .nil)
def w_run_end_0 : C :=
  .whl fuel (.and (.cmp .lt (.var 1) (.bif .len (.cons (.var 0) .nil))) (.cmp .inn (.ix (.var 0) (.var 1)) (.var 2))) y_run_end_0
def b_run_end : Cs :=
  (.cons w_run_end_0 (.cons (.ret (.var 1)) .nil))
def f_run_end : Fd := ⟨⟨("run_end", none), "run_end", "run_end", defArgs (top 4), defBody (top 4), defScope (top 4), [], []⟩, ["text", "at", "signs"], ["text", "at", "signs"], 0, b_run_end⟩
def b_name_end : Cs :=
  (.cons (.asg (.v 2) (.call 0 (.cons (.var 0) (.cons (.var 1) (.cons (.glb 1) .nil))))) (.cons (.ite (.or (.cmp .eq (.var 2) (.var 1)) (.cmp .gt (.bin .sub (.var 2) (.var 1)) (.glb 0))) (.cons (.ret (.cst .non)) .nil) .nil) (.cons (.ret (.var 2)) .nil)))
def f_name_end : Fd := ⟨⟨("name_end", none), "name_end", "name_end", defArgs (top 5), defBody (top 5), defScope (top 5), [], []⟩, ["text", "at"], ["text", "at", "end"], 1, b_name_end⟩
def b_plain_end : Cs :=
  (.cons (.ite (.cmp .ne (.sl (.var 0) (.so (.var 1)) (.so (.bin .add (.var 1) (.cst (.int 1))))) (.cst (.str [35]))) (.cons (.ret (.call 1 (.cons (.var 0) (.cons (.var 1) .nil)))) .nil) .nil) (.cons (.asg (.v 2) (.call 0 (.cons (.var 0) (.cons (.bin .add (.var 1) (.cst (.int 1))) (.cons (.glb 2) .nil))))) (.cons (.ite (.cmp .eq (.var 2) (.bin .add (.var 1) (.cst (.int 1)))) (.cons (.ret (.cst .non)) .nil) .nil) (.cons (.ret (.var 2)) .nil))))
def f_plain_end : Fd := ⟨⟨("plain_end", none), "plain_end", "plain_end", defArgs (top 6), defBody (top 6), defScope (top 6), [], []⟩, ["text", "at"], ["text", "at", "end"], 1, b_plain_end⟩
def y_points_end_0 : Cs :=
  (.cons (.asg (.v 1) (.call 1 (.cons (.var 0) (.cons (.bin .add (.var 1) (.cst (.int 1))) .nil)))) .nil)
def w_points_end_0 : C :=
  .whl fuel (.and (.cmp .isn (.var 1) (.cst .non)) (.cmp .eq (.sl (.var 0) (.so (.var 1)) (.so (.bin .add (.var 1) (.cst (.int 1))))) (.cst (.str [46])))) y_points_end_0
def b_points_end : Cs :=
  (.cons w_points_end_0 (.cons (.ret (.var 1)) .nil))
def f_points_end : Fd := ⟨⟨("points_end", none), "points_end", "points_end", defArgs (top 7), defBody (top 7), defScope (top 7), [], []⟩, ["text", "at"], ["text", "at"], 0, b_points_end⟩
def y_is_kind_0 : Cs :=
  (.cons (.ite (.and (.var 2) (.cmp .eq (.sl (.var 0) (.so (.var 1)) (.so (.bin .add (.var 1) (.cst (.int 1))))) (.cst (.str [40])))) (.cons (.app 3 (.cst (.str [38]))) (.cons (.asg (.v 1) (.bin .add (.var 1) (.cst (.int 1)))) (.cons .cnt .nil))) .nil) (.cons (.ite (.var 2) (.cons (.asg (.v 1) (.call 2 (.cons (.var 0) (.cons (.var 1) .nil)))) .nil) .nil) (.cons (.ite (.cmp .isn (.var 1) (.cst .non)) (.cons (.asg (.v 1) (.call 3 (.cons (.var 0) (.cons (.var 1) .nil)))) .nil) .nil) (.cons (.ite (.cmp .is (.var 1) (.cst .non)) (.cons (.ret (.cst (.bl false))) .nil) .nil) (.cons (.asg (.v 2) (.cst (.bl false))) (.cons (.ite (.cmp .ne (.var 3) (.lis .nil)) (.cons (.pop (.v 4) 3) (.cons (.ite (.cmp .ne (.sl (.var 0) (.so (.var 1)) (.so (.bin .add (.var 1) (.cst (.int 1))))) (.var 4)) (.cons (.ret (.cst (.bl false))) .nil) .nil) (.cons (.asg (.v 1) (.bin .add (.var 1) (.cst (.int 1)))) (.cons (.ite (.cmp .eq (.var 4) (.cst (.str [38]))) (.cons (.app 3 (.cst (.str [41]))) (.cons (.asg (.v 2) (.cst (.bl true))) .nil)) .nil) .nil)))) .nil) .nil))))))
def w_is_kind_0 : C :=
  .whl fuel (.or (.var 2) (.cmp .ne (.var 3) (.lis .nil))) y_is_kind_0
def b_is_kind : Cs :=
  (.cons (.asg (.v 1) (.cst (.int 0))) (.cons (.asg (.v 2) (.cst (.bl true))) (.cons (.asg (.v 3) (.lis .nil)) (.cons w_is_kind_0 (.cons (.ret (.cmp .eq (.call 3 (.cons (.var 0) (.cons (.var 1) .nil))) (.bif .len (.cons (.var 0) .nil)))) .nil)))))
def f_is_kind : Fd := ⟨⟨("is_kind", none), "is_kind", "is_kind", defArgs (top 8), defBody (top 8), defScope (top 8), [], []⟩, ["text"], ["text", "at", "begins", "waiting", "sign"], 4, b_is_kind⟩
def b__law_cell_at : Cs :=
  (.cons (.ite (.cmp .lt (.var 1) (.bif .len (.cons (.var 0) .nil))) (.cons (.ret (.ix (.var 0) (.var 1))) .nil) .nil) (.cons (.ret (.cst (.int 0))) .nil))
def f__law_cell_at : Fd := ⟨⟨("_law_cell_at", none), "_law_cell_at", "_law_cell_at", defArgs (top 10), defBody (top 10), defScope (top 10), [], []⟩, ["_law_script", "_law_k"], ["_law_script", "_law_k"], 0, b__law_cell_at⟩
def y__law_stream_0 : Cs :=
  (.cons (.asg (.v 3) (.bin .mod (.bin .add (.bin .add (.bin .mul (.var 3) (.bin .add (.bin .fdiv (.var 3) (.cst (.int 1009))) (.cst (.int 69621)))) (.var 4)) (.cst (.int 1))) (.cst (.int 2147483647)))) (.cons (.app 2 (.var 3)) .nil))
def w__law_stream_0 : C :=
  .for (.v 4) (.rng1 (.var 1)) y__law_stream_0
def b__law_stream : Cs :=
  (.cons (.asg (.v 2) (.lis .nil)) (.cons (.asg (.v 3) (.bin .mod (.bin .add (.bin .mul (.var 0) (.cst (.int 48271))) (.cst (.int 7919))) (.cst (.int 2147483647)))) (.cons w__law_stream_0 (.cons (.ret (.var 2)) .nil))))
def f__law_stream : Fd := ⟨⟨("_law_stream", none), "_law_stream", "_law_stream", defArgs (top 11), defBody (top 11), defScope (top 11), [], []⟩, ["_law_cell", "_law_size"], ["_law_cell", "_law_size", "_law_found", "_law_number", "_law_k"], 3, b__law_stream⟩
def b__law_next : Cs :=
  (.cons (.ret (.bin .mod (.bin .add (.bin .mul (.var 0) (.bin .add (.bin .fdiv (.var 0) (.cst (.int 1009))) (.cst (.int 69621)))) (.cst (.int 12345))) (.cst (.int 2147483647)))) .nil)
def f__law_next : Fd := ⟨⟨("_law_next", none), "_law_next", "_law_next", defArgs (top 12), defBody (top 12), defScope (top 12), [], []⟩, ["_law_number"], ["_law_number"], 0, b__law_next⟩
def b__law_told : Cs :=
  (.cons (.asg (.v 2) (.bin .mod (.bin .fdiv (.var 0) (.cst (.int 7))) (.cst (.int 6)))) (.cons (.asg (.v 3) (.call 7 (.cons (.var 0) .nil))) (.cons (.ite (.or (.cmp .eq (.var 1) (.cst (.int 0))) (.cmp .lt (.var 2) (.cst (.int 2)))) (.cons (.asg (.v 4) (.lis (.cons (.cst (.str [110, 117, 109])) (.cons (.cst (.str [119, 111, 114, 100])) (.cons (.cst (.str [97])) (.cons (.cst (.str [122, 101, 98, 114, 97])) (.cons (.cst (.str [97, 98, 99, 100, 101, 102, 103, 104, 105, 106, 107, 108])) (.cons (.cst (.str [35, 48])) (.cons (.cst (.str [35, 48, 48, 55])) (.cons (.bin .add (.cst (.str [35])) (.bif .str (.cons (.var 3) .nil))) (.cons (.cst (.str [113, 113])) .nil))))))))))) (.cons (.ret (.ix (.var 4) (.bin .mod (.bin .fdiv (.var 3) (.cst (.int 11))) (.cst (.int 9))))) .nil)) .nil) (.cons (.ite (.cmp .eq (.var 2) (.cst (.int 2))) (.cons (.ret (.bin .add (.bin .add (.call 8 (.cons (.var 3) (.cons (.bin .sub (.var 1) (.cst (.int 1))) .nil))) (.cst (.str [46]))) (.ix (.lis (.cons (.cst (.str [111, 107])) (.cons (.cst (.str [97])) (.cons (.cst (.str [97, 98, 99, 100, 101, 102, 103, 104, 105, 106, 107, 108])) .nil)))) (.bin .mod (.bin .fdiv (.var 3) (.cst (.int 13))) (.cst (.int 3)))))) .nil) .nil) (.cons (.ret (.bin .add (.bin .add (.bin .add (.bin .add (.cst (.str [40])) (.call 8 (.cons (.var 3) (.cons (.bin .sub (.var 1) (.cst (.int 1))) .nil)))) (.cst (.str [38]))) (.call 8 (.cons (.call 7 (.cons (.var 3) .nil)) (.cons (.bin .sub (.var 1) (.cst (.int 1))) .nil)))) (.cst (.str [41])))) .nil)))))
def f__law_told : Fd := ⟨⟨("_law_told", none), "_law_told", "_law_told", defArgs (top 13), defBody (top 13), defScope (top 13), [], []⟩, ["_law_number", "_law_steps"], ["_law_number", "_law_steps", "_law_way", "_law_other", "_law_some"], 3, b__law_told⟩
def b__law_spoiled : Cs :=
  (.cons (.asg (.v 2) (.bin .mod (.ix (.var 1) (.cst (.int 1))) (.bin .add (.bif .len (.cons (.var 0) .nil)) (.cst (.int 1))))) (.cons (.asg (.v 3) (.ix (.cst (.str [40, 41, 38, 46, 35, 97, 48, 32, 65, 109])) (.bin .mod (.ix (.var 1) (.cst (.int 2))) (.cst (.int 10))))) (.cons (.ite (.cmp .eq (.bin .mod (.ix (.var 1) (.cst (.int 0))) (.cst (.int 6))) (.cst (.int 0))) (.cons (.ret (.bin .add (.sl (.var 0) .no (.so (.var 2))) (.sl (.var 0) (.so (.bin .add (.var 2) (.cst (.int 1)))) .no))) .nil) .nil) (.cons (.ite (.cmp .eq (.bin .mod (.ix (.var 1) (.cst (.int 0))) (.cst (.int 6))) (.cst (.int 1))) (.cons (.ret (.bin .add (.bin .add (.sl (.var 0) .no (.so (.var 2))) (.var 3)) (.sl (.var 0) (.so (.var 2)) .no))) .nil) .nil) (.cons (.ite (.cmp .eq (.bin .mod (.ix (.var 1) (.cst (.int 0))) (.cst (.int 6))) (.cst (.int 2))) (.cons (.ret (.bin .add (.bin .add (.sl (.var 0) .no (.so (.var 2))) (.var 3)) (.sl (.var 0) (.so (.bin .add (.var 2) (.cst (.int 1)))) .no))) .nil) .nil) (.cons (.ret (.var 0)) .nil))))))
def f__law_spoiled : Fd := ⟨⟨("_law_spoiled", none), "_law_spoiled", "_law_spoiled", defArgs (top 14), defBody (top 14), defScope (top 14), [], []⟩, ["_law_text", "_law_xs"], ["_law_text", "_law_xs", "_law_at", "_law_sign"], 2, b__law_spoiled⟩
def y__law_run_0 : Cs :=
  (.cons (.asg (.v 1) (.bin .add (.var 1) (.cst (.int 1)))) .nil)
def w__law_run_0 : C :=
  .whl fuel (.and (.cmp .lt (.var 1) (.bif .len (.cons (.var 0) .nil))) (.cmp .inn (.ix (.var 0) (.var 1)) (.var 2))) y__law_run_0
def b__law_run : Cs :=
  (.cons w__law_run_0 (.cons (.ret (.var 1)) .nil))
def f__law_run : Fd := ⟨⟨("_law_run", none), "_law_run", "_law_run", defArgs (top 15), defBody (top 15), defScope (top 15), [], []⟩, ["_law_text", "_law_at", "_law_signs"], ["_law_text", "_law_at", "_law_signs"], 0, b__law_run⟩
def b__law_name_end : Cs :=
  (.cons (.asg (.v 2) (.call 10 (.cons (.var 0) (.cons (.var 1) (.cons (.cst (.str [97, 98, 99, 100, 101, 102, 103, 104, 105, 106, 107, 108, 109, 110, 111, 112, 113, 114, 115, 116, 117, 118, 119, 120, 121, 122])) .nil))))) (.cons (.ite (.chn .lt .lt (.cst (.int 0)) (.bin .sub (.var 2) (.var 1)) (.cst (.int 13))) (.cons (.ret (.var 2)) .nil) .nil) (.cons (.ret (.neg (.cst (.int 1)))) .nil)))
def f__law_name_end : Fd := ⟨⟨("_law_name_end", none), "_law_name_end", "_law_name_end", defArgs (top 16), defBody (top 16), defScope (top 16), [], []⟩, ["_law_text", "_law_at"], ["_law_text", "_law_at", "_law_end_here"], 1, b__law_name_end⟩
def y__law_end_0 : Cs :=
  (.cons (.asg (.v 2) (.call 11 (.cons (.var 0) (.cons (.bin .add (.var 2) (.cst (.int 1))) .nil)))) .nil)
def w__law_end_0 : C :=
  .whl fuel (.and (.cmp .ge (.var 2) (.cst (.int 0))) (.cmp .eq (.sl (.var 0) (.so (.var 2)) (.so (.bin .add (.var 2) (.cst (.int 1))))) (.cst (.str [46])))) y__law_end_0
def b__law_end : Cs :=
  (.cons (.ite (.cmp .eq (.sl (.var 0) (.so (.var 1)) (.so (.bin .add (.var 1) (.cst (.int 1))))) (.cst (.str [40]))) (.cons (.asg (.v 2) (.call 12 (.cons (.var 0) (.cons (.bin .add (.var 1) (.cst (.int 1))) .nil)))) (.cons (.ite (.or (.cmp .lt (.var 2) (.cst (.int 0))) (.cmp .ne (.sl (.var 0) (.so (.var 2)) (.so (.bin .add (.var 2) (.cst (.int 1))))) (.cst (.str [38])))) (.cons (.ret (.neg (.cst (.int 1)))) .nil) .nil) (.cons (.asg (.v 2) (.call 12 (.cons (.var 0) (.cons (.bin .add (.var 2) (.cst (.int 1))) .nil)))) (.cons (.ite (.or (.cmp .lt (.var 2) (.cst (.int 0))) (.cmp .ne (.sl (.var 0) (.so (.var 2)) (.so (.bin .add (.var 2) (.cst (.int 1))))) (.cst (.str [41])))) (.cons (.ret (.neg (.cst (.int 1)))) .nil) .nil) (.cons (.asg (.v 2) (.bin .add (.var 2) (.cst (.int 1)))) .nil))))) (.cons (.ite (.cmp .eq (.sl (.var 0) (.so (.var 1)) (.so (.bin .add (.var 1) (.cst (.int 1))))) (.cst (.str [35]))) (.cons (.asg (.v 2) (.call 10 (.cons (.var 0) (.cons (.bin .add (.var 1) (.cst (.int 1))) (.cons (.cst (.str [48, 49, 50, 51, 52, 53, 54, 55, 56, 57])) .nil))))) (.cons (.ite (.cmp .eq (.var 2) (.bin .add (.var 1) (.cst (.int 1)))) (.cons (.ret (.neg (.cst (.int 1)))) .nil) .nil) .nil)) (.cons (.asg (.v 2) (.call 11 (.cons (.var 0) (.cons (.var 1) .nil)))) .nil)) .nil)) (.cons w__law_end_0 (.cons (.ret (.var 2)) .nil)))
def f__law_end : Fd := ⟨⟨("_law_end", none), "_law_end", "_law_end", defArgs (top 17), defBody (top 17), defScope (top 17), [], []⟩, ["_law_text", "_law_at"], ["_law_text", "_law_at", "_law_end_here"], 1, b__law_end⟩
def y_law_0 : Cs :=
  (.cons (.asg (.v 2) (.call 6 (.cons (.call 5 (.cons (.var 0) (.cons (.var 1) .nil))) (.cons (.cst (.int 5)) .nil)))) (.cons (.asg (.v 3) (.call 9 (.cons (.call 8 (.cons (.ix (.var 2) (.cst (.int 3))) (.cons (.bin .mod (.ix (.var 2) (.cst (.int 4))) (.cst (.int 5))) .nil))) (.cons (.var 2) .nil)))) (.cons (.asg (.v 4) (.call 4 (.cons (.var 3) .nil))) (.cons (.ite (.or (.not (.isi (.var 4) .bool)) (.cmp .ne (.var 4) (.cmp .eq (.call 12 (.cons (.var 3) (.cons (.cst (.int 0)) .nil))) (.bif .len (.cons (.var 3) .nil))))) (.cons (.ret (.cst (.bl false))) .nil) .nil) .nil))))
def w_law_0 : C :=
  .for (.v 1) (.rng1 (.bif .max (.cons (.cst (.int 1)) (.cons (.bif .min (.cons (.bif .len (.cons (.var 0) .nil)) (.cons (.cst (.int 30)) .nil))) .nil)))) y_law_0
def b_law : Cs :=
  (.cons w_law_0 (.cons (.ret (.cmp .is (.call 4 (.cons (.cst (.str [])) .nil)) (.cst (.bl false)))) .nil))
def f_law : Fd := ⟨⟨("law", none), "law", "law", defArgs (top 18), defBody (top 18), defScope (top 18), [], []⟩, ["_law_script"], ["_law_script", "_law_k", "_law_xs", "_law_text", "_law_found"], 4, b_law⟩
def Fs : List Fd := [f_run_end, f_name_end, f_plain_end, f_points_end, f_is_kind, f__law_cell_at, f__law_stream, f__law_next, f__law_told, f__law_spoiled, f__law_run, f__law_name_end, f__law_end, f_law]
def gs : List Gl1 := [.int "LONGEST" 12, .str "LETTERS" "abcdefghijklmnopqrstuvwxyz", .str "FIGURES" "0123456789"]
def blt : List Str := ["len", "range", "str", "isinstance", "bool", "max", "min"]
theorem ok_run_end : FdOk (tabOf Fs gs blt) f_run_end := ⟨⟨rfl, rfl, rfl, by decide +kernel, rfl, by decide +kernel, by decide +kernel⟩, rfl, rfl, rfl, rfl, fun _ _ _ _ _ _ us hl => match us, hl with | [_, _, _], _ => rfl, by decide +kernel⟩
theorem ok_name_end : FdOk (tabOf Fs gs blt) f_name_end := ⟨⟨rfl, rfl, rfl, by decide +kernel, rfl, by decide +kernel, by decide +kernel⟩, rfl, rfl, rfl, rfl, fun _ _ _ _ _ _ us hl => match us, hl with | [_, _], _ => rfl, by decide +kernel⟩
theorem ok_plain_end : FdOk (tabOf Fs gs blt) f_plain_end := ⟨⟨rfl, rfl, rfl, by decide +kernel, rfl, by decide +kernel, by decide +kernel⟩, rfl, rfl, rfl, rfl, fun _ _ _ _ _ _ us hl => match us, hl with | [_, _], _ => rfl, by decide +kernel⟩
theorem ok_points_end : FdOk (tabOf Fs gs blt) f_points_end := ⟨⟨rfl, rfl, rfl, by decide +kernel, rfl, by decide +kernel, by decide +kernel⟩, rfl, rfl, rfl, rfl, fun _ _ _ _ _ _ us hl => match us, hl with | [_, _], _ => rfl, by decide +kernel⟩
theorem ok_is_kind : FdOk (tabOf Fs gs blt) f_is_kind := ⟨⟨rfl, rfl, rfl, by decide +kernel, rfl, by decide +kernel, by decide +kernel⟩, rfl, rfl, rfl, rfl, fun _ _ _ _ _ _ us hl => match us, hl with | [_], _ => rfl, by decide +kernel⟩
theorem ok__law_cell_at : FdOk (tabOf Fs gs blt) f__law_cell_at := ⟨⟨rfl, rfl, rfl, by decide +kernel, rfl, by decide +kernel, by decide +kernel⟩, rfl, rfl, rfl, rfl, fun _ _ _ _ _ _ us hl => match us, hl with | [_, _], _ => rfl, by decide +kernel⟩
theorem ok__law_stream : FdOk (tabOf Fs gs blt) f__law_stream := ⟨⟨rfl, rfl, rfl, by decide +kernel, rfl, by decide +kernel, by decide +kernel⟩, rfl, rfl, rfl, rfl, fun _ _ _ _ _ _ us hl => match us, hl with | [_, _], _ => rfl, by decide +kernel⟩
theorem ok__law_next : FdOk (tabOf Fs gs blt) f__law_next := ⟨⟨rfl, rfl, rfl, by decide +kernel, rfl, by decide +kernel, by decide +kernel⟩, rfl, rfl, rfl, rfl, fun _ _ _ _ _ _ us hl => match us, hl with | [_], _ => rfl, by decide +kernel⟩
theorem ok__law_told : FdOk (tabOf Fs gs blt) f__law_told := ⟨⟨rfl, rfl, rfl, by decide +kernel, rfl, by decide +kernel, by decide +kernel⟩, rfl, rfl, rfl, rfl, fun _ _ _ _ _ _ us hl => match us, hl with | [_, _], _ => rfl, by decide +kernel⟩
theorem ok__law_spoiled : FdOk (tabOf Fs gs blt) f__law_spoiled := ⟨⟨rfl, rfl, rfl, by decide +kernel, rfl, by decide +kernel, by decide +kernel⟩, rfl, rfl, rfl, rfl, fun _ _ _ _ _ _ us hl => match us, hl with | [_, _], _ => rfl, by decide +kernel⟩
theorem ok__law_run : FdOk (tabOf Fs gs blt) f__law_run := ⟨⟨rfl, rfl, rfl, by decide +kernel, rfl, by decide +kernel, by decide +kernel⟩, rfl, rfl, rfl, rfl, fun _ _ _ _ _ _ us hl => match us, hl with | [_, _, _], _ => rfl, by decide +kernel⟩
theorem ok__law_name_end : FdOk (tabOf Fs gs blt) f__law_name_end := ⟨⟨rfl, rfl, rfl, by decide +kernel, rfl, by decide +kernel, by decide +kernel⟩, rfl, rfl, rfl, rfl, fun _ _ _ _ _ _ us hl => match us, hl with | [_, _], _ => rfl, by decide +kernel⟩
theorem ok__law_end : FdOk (tabOf Fs gs blt) f__law_end := ⟨⟨rfl, rfl, rfl, by decide +kernel, rfl, by decide +kernel, by decide +kernel⟩, rfl, rfl, rfl, rfl, fun _ _ _ _ _ _ us hl => match us, hl with | [_, _], _ => rfl, by decide +kernel⟩
theorem ok_law : FdOk (tabOf Fs gs blt) f_law := ⟨⟨rfl, rfl, rfl, by decide +kernel, rfl, by decide +kernel, by decide +kernel⟩, rfl, rfl, rfl, rfl, fun _ _ _ _ _ _ us hl => match us, hl with | [_], _ => rfl, by decide +kernel⟩
theorem oks : ∀ (f : Nat) (fd : Fd), Fs[f]? = some fd → FdOk (tabOf Fs gs blt) fd := fun f fd h => by
  match f, h with
  | 0, h => cases h; exact ok_run_end
  | 1, h => cases h; exact ok_name_end
  | 2, h => cases h; exact ok_plain_end
  | 3, h => cases h; exact ok_points_end
  | 4, h => cases h; exact ok_is_kind
  | 5, h => cases h; exact ok__law_cell_at
  | 6, h => cases h; exact ok__law_stream
  | 7, h => cases h; exact ok__law_next
  | 8, h => cases h; exact ok__law_told
  | 9, h => cases h; exact ok__law_spoiled
  | 10, h => cases h; exact ok__law_run
  | 11, h => cases h; exact ok__law_name_end
  | 12, h => cases h; exact ok__law_end
  | 13, h => cases h; exact ok_law
  | _ + 14, h => exact nomatch h
abbrev F_run_end : Nat := 0
abbrev F_name_end : Nat := 1
abbrev F_plain_end : Nat := 2
abbrev F_points_end : Nat := 3
abbrev F_is_kind : Nat := 4
abbrev F__law_cell_at : Nat := 5
abbrev F__law_stream : Nat := 6
abbrev F__law_next : Nat := 7
abbrev F__law_told : Nat := 8
abbrev F__law_spoiled : Nat := 9
abbrev F__law_run : Nat := 10
abbrev F__law_name_end : Nat := 11
abbrev F__law_end : Nat := 12
abbrev F_law : Nat := 13
def Γ (n : Nat) : Fn := prog (glD gs) Fs n
theorem glob_Γ (n g : Nat) : (Γ n).glob g = glD gs g := by unfold Γ; rw [prog_glob]
theorem call_run_end (n : Nat) (ds : List D) : (Γ (n + 1)).call 0 ds = runB (Γ n) 3 0 b_run_end ds := prog_call (fd := f_run_end) rfl ds
theorem call_name_end (n : Nat) (ds : List D) : (Γ (n + 1)).call 1 ds = runB (Γ n) 2 1 b_name_end ds := prog_call (fd := f_name_end) rfl ds
theorem call_plain_end (n : Nat) (ds : List D) : (Γ (n + 1)).call 2 ds = runB (Γ n) 2 1 b_plain_end ds := prog_call (fd := f_plain_end) rfl ds
theorem call_points_end (n : Nat) (ds : List D) : (Γ (n + 1)).call 3 ds = runB (Γ n) 2 0 b_points_end ds := prog_call (fd := f_points_end) rfl ds
theorem call_is_kind (n : Nat) (ds : List D) : (Γ (n + 1)).call 4 ds = runB (Γ n) 1 4 b_is_kind ds := prog_call (fd := f_is_kind) rfl ds
theorem call__law_cell_at (n : Nat) (ds : List D) : (Γ (n + 1)).call 5 ds = runB (Γ n) 2 0 b__law_cell_at ds := prog_call (fd := f__law_cell_at) rfl ds
theorem call__law_stream (n : Nat) (ds : List D) : (Γ (n + 1)).call 6 ds = runB (Γ n) 2 3 b__law_stream ds := prog_call (fd := f__law_stream) rfl ds
theorem call__law_next (n : Nat) (ds : List D) : (Γ (n + 1)).call 7 ds = runB (Γ n) 1 0 b__law_next ds := prog_call (fd := f__law_next) rfl ds
theorem call__law_told (n : Nat) (ds : List D) : (Γ (n + 1)).call 8 ds = runB (Γ n) 2 3 b__law_told ds := prog_call (fd := f__law_told) rfl ds
theorem call__law_spoiled (n : Nat) (ds : List D) : (Γ (n + 1)).call 9 ds = runB (Γ n) 2 2 b__law_spoiled ds := prog_call (fd := f__law_spoiled) rfl ds
theorem call__law_run (n : Nat) (ds : List D) : (Γ (n + 1)).call 10 ds = runB (Γ n) 3 0 b__law_run ds := prog_call (fd := f__law_run) rfl ds
theorem call__law_name_end (n : Nat) (ds : List D) : (Γ (n + 1)).call 11 ds = runB (Γ n) 2 1 b__law_name_end ds := prog_call (fd := f__law_name_end) rfl ds
theorem call__law_end (n : Nat) (ds : List D) : (Γ (n + 1)).call 12 ds = runB (Γ n) 2 1 b__law_end ds := prog_call (fd := f__law_end) rfl ds
theorem call_law (n : Nat) (ds : List D) : (Γ (n + 1)).call 13 ds = runB (Γ n) 1 4 b_law ds := prog_call (fd := f_law) rfl ds
theorem glob_LONGEST (n : Nat) : (Γ n).glob 0 = .int 12 := by rw [glob_Γ]; rfl
theorem glob_LETTERS (n : Nat) : (Γ n).glob 1 = .str [97, 98, 99, 100, 101, 102, 103, 104, 105, 106, 107, 108, 109, 110, 111, 112, 113, 114, 115, 116, 117, 118, 119, 120, 121, 122] := by rw [glob_Γ]; rfl
theorem glob_FIGURES (n : Nat) : (Γ n).glob 2 = .str [48, 49, 50, 51, 52, 53, 54, 55, 56, 57] := by rw [glob_Γ]; rfl
end K02
namespace K02
open PySem PySem.Spec L2 Z
theorem w_run_end (n : Nat) (s g : List Nat) (a : Nat) (hs : s.length ≤ 16777216) (ha : a ≤ s.length) :
    exC (Γ n) w_run_end_0 [some (.sh (.str s)), some (.sh (.int (a : Int))), some (.sh (.str g))] = .nx [some (.sh (.str s)), some (.sh (.int ((a + runE g (s.drop a) : Nat) : Int))), some (.sh (.str g))] := by
  unfold w_run_end_0 y_run_end_0
  rw [exC_whl]
  refine whl_ind (I := fun m ρ => ∃ b : Nat, m = s.length - b ∧ b ≤ s.length ∧ b + runE g (s.drop b) = a + runE g (s.drop a) ∧ ρ = [some (.sh (.str s)), some (.sh (.int (b : Int))), some (.sh (.str g))]) (Q := fun o => o = .nx [some (.sh (.str s)), some (.sh (.int ((a + runE g (s.drop a) : Nat) : Int))), some (.sh (.str g))]) ?_ fuel (s.length - a) _ (by unfold fuel; omega) ⟨a, rfl, ha, rfl, rfl⟩
  rintro m ρ ⟨b, rfl, hb, e, rfl⟩
  by_cases hlt : b < s.length
  · have hd : s.drop b = s[b] :: s.drop (b + 1) := List.drop_eq_getElem_cons hlt
    have hi : atI s (b : Int) = some s[b] := atI_nat (List.getElem?_eq_getElem hlt)
    by_cases hc : s[b] ∈ g
    · right
      refine ⟨by simp [hs, hlt, ixD_str _ _ _ hs hi, hc], ?_⟩
      simp [OP]
      refine ⟨s.length - (b + 1), by omega, b + 1, rfl, by omega, ?_, rfl⟩
      rw [← e, hd]; simp [runE, hc]; omega
    · left
      refine ⟨by simp [hs, hlt, ixD_str _ _ _ hs hi, hc], ?_⟩
      rw [← e, hd]; simp [runE, hc]
  · left
    have hb' : b = s.length := by omega
    refine ⟨by simp [hs, hlt], ?_⟩
    rw [← e, hb']; simp [runE]
theorem s_run_end (n : Nat) (s g : List Nat) (a : Nat) (i : Int) (hi : i = (a : Int)) (hs : s.length ≤ 16777216) (ha : a ≤ s.length) :
    (Γ (n + 1)).call F_run_end [.str s, .int i, .str g] = .ok (.sh (.int ((a + runE g (s.drop a) : Nat) : Int))) := by
  subst hi
  rw [call_run_end]
  simp [b_run_end, w_run_end n s g a hs ha]
theorem s_name_end (n : Nat) (s : List Nat) (a : Nat) (i : Int) (hi : i = (a : Int)) (hs : s.length ≤ 16777216) (ha : a ≤ s.length) :
    (Γ (n + 2)).call F_name_end [.str s, .int i] = .ok (.sh (natD (nameO s a))) := by
  subst hi
  rw [call_name_end]
  have h := s_run_end n s abc a _ rfl hs ha
  simp [b_name_end, glob_LETTERS, glob_LONGEST, h]
  by_cases h1 : runE abc (s.drop a) = 0
  · simp [h1, nameO]
  · by_cases h2 : 12 < runE abc (s.drop a)
    · have : (12 : Int) < (a : Int) + (runE abc (s.drop a) : Int) - a := by omega
      simp [h1, h2, nameO, this]
    · have : ¬ (12 : Int) < (a : Int) + (runE abc (s.drop a) : Int) - a := by omega
      have h3 : ¬ (a : Int) + (runE abc (s.drop a) : Int) = a := by omega
      simp [h1, h2, h3, nameO, this]
theorem runE_all (g : List Nat) : ∀ s : List Nat, runE g s = s.length ↔ ∀ c ∈ s, c ∈ g
  | [] => by simp [runE]
  | c :: r => by
    have ih := runE_all g r
    have le := runE_le g r
    unfold runE
    by_cases hc : c ∈ g
    · simp [hc, ih]
    · simp [hc]
theorem nameO_iff (s : List Nat) : nameO s 0 = some s.length ↔ (0 < s.length ∧ s.length < 13) ∧ ∀ c ∈ s, c ∈ abc := by
  rw [← runE_all abc s]
  unfold nameO
  have le := runE_le abc s
  simp only [List.drop_zero, Nat.zero_add]
  split
  · constructor
    · intro h; cases h
    · omega
  · constructor
    · intro h; have := Option.some.inj h; omega
    · intro h; rw [h.2]
theorem s_cell (n : Nat) (ns : List Int) (k : Nat) : ∃ i : Int, (Γ (n + 1)).call F__law_cell_at [.lfz (ns.map .int), .int (k : Int)] = .ok (.sh (.int i)) := by
  by_cases h : k < ns.length
  · refine ⟨ns[k], ?_⟩
    rw [call__law_cell_at]
    have hi : atI (ns.map D.int) (k : Int) = some (.int ns[k]) := atI_nat (by simp [h])
    simp [runB, b__law_cell_at, h, hi]
  · refine ⟨0, ?_⟩
    rw [call__law_cell_at]
    simp [runB, b__law_cell_at, h]
/-- a drawn number -/
def Drawn (l : List Int) : Prop := ∀ x ∈ l, 0 ≤ x ∧ x < 2147483647
theorem s_stream (n : Nat) (c : Int) (k : Nat) (hk : k ≤ 16777216) : ∃ l : List Int, l.length = k ∧ Drawn l ∧ (Γ (n + 1)).call F__law_stream [.int c, .int (k : Int)] = .ok (.ow (.li (l.map .int))) := by
  have hw : ∀ x : Int, 0 ≤ x → x < 2147483647 → ∃ l : List Int, l.length = k ∧ Drawn l ∧ ∃ u v, exC (Γ n) w__law_stream_0 [some (.sh (.int c)), some (.sh (.int (k : Int))), some (.li []), some (.sh (.int x)), none] = .nx [some (.sh (.int c)), some (.sh (.int (k : Int))), some (.li (l.map .int)), u, v] := by
    intro x hx0 hx1
    unfold w__law_stream_0 y__law_stream_0
    rw [exC_for]
    have hr : evI (Γ n) [some (.sh (.int c)), some (.sh (.int (k : Int))), some (.li []), some (.sh (.int x)), none] (.rng1 (.var 1)) = .ok (iota 0 k) := by
      have : k < 4611686018427387904 := by omega
      simp [this]
    rw [hr]
    refine forL_ind (I := fun ds ρ => ∃ (j : Nat) (l : List Int) (y : Int) (v : Option Z.S), ds = (List.range' j (k - j)).map (fun i => D.int ((i : Nat) : Int)) ∧ l.length = j ∧ j ≤ k ∧ Drawn l ∧ 0 ≤ y ∧ y < 2147483647 ∧ ρ = [some (.sh (.int c)), some (.sh (.int (k : Int))), some (.li (l.map .int)), some (.sh (.int y)), v])
      (Q := fun o => ∃ l : List Int, l.length = k ∧ Drawn l ∧ ∃ u v, o = .nx [some (.sh (.int c)), some (.sh (.int (k : Int))), some (.li (l.map .int)), u, v]) ?_ ?_ _ _ ⟨0, [], x, none, by simp [iota, List.range_eq_range'], rfl, by omega, by simp [Drawn], hx0, hx1, rfl⟩
    · rintro ρ ⟨j, l, y, v, h1, h2, h3, h4, h5, h6, rfl⟩
      have : j = k := by
        have := congrArg List.length h1
        simp at this; omega
      subst this
      exact ⟨l, h2, h4, _, _, rfl⟩
    · rintro d r ρ ⟨j, l, y, v, h1, h2, h3, h4, h5, h6, rfl⟩
      have hj : j < k := by
        have := congrArg List.length h1
        simp at this; omega
      have hkj : k - j = (k - (j + 1)) + 1 := by omega
      rw [hkj, List.range'_succ] at h1
      simp only [List.map_cons, List.cons.injEq] at h1
      obtain ⟨rfl, rfl⟩ := h1
      refine ⟨_, by simp; rfl, ?_⟩
      have e1 : (-18446744073709551616 : Int) < y / 1009 + 69621 := by omega
      have e2 : y / 1009 + 69621 < (18446744073709551616 : Int) := by omega
      have e3 : l.length < 16777216 := by omega
      have e4 := Int.emod_nonneg (y * (y / 1009 + 69621) + (j : Int) + 1) (b := 2147483647) (by omega)
      have e5 := Int.emod_lt_of_pos (y * (y / 1009 + 69621) + (j : Int) + 1) (b := 2147483647) (by omega)
      refine OP_to (by simp [e1, e2, e3]; rfl) ⟨j + 1, l ++ [(y * (y / 1009 + 69621) + (j : Int) + 1) % 2147483647], _, _, rfl, by simp [h2], by omega, ?_, e4, e5, by simp; rfl⟩
      intro z hz
      rcases List.mem_append.mp hz with hz | hz
      · exact h4 z hz
      · rw [List.mem_singleton] at hz; subst hz; exact ⟨e4, e5⟩
  rw [call__law_stream]
  have e1 := Int.emod_nonneg (c * 48271 + 7919) (b := 2147483647) (by omega)
  have e2 := Int.emod_lt_of_pos (c * 48271 + 7919) (b := 2147483647) (by omega)
  obtain ⟨l, h1, h2, u, v, h3⟩ := hw _ e1 e2
  refine ⟨l, h1, h2, ?_⟩
  simp [runB, b__law_stream, h3]
theorem s_plain_end (n : Nat) (s : List Nat) (a : Nat) (hs : s.length ≤ 16777216) (ha : a ≤ s.length) :
    (Γ (n + 3)).call F_plain_end [.str s, .int (a : Int)] = .ok (.sh (natD (plainO s a))) := by
  rw [call_plain_end]
  by_cases h : s[a]? = some 35
  · have hl : a < s.length := by
      rcases List.getElem?_eq_some_iff.mp h with ⟨z, _⟩; exact z
    have h1 := s_run_end (n + 1) s figs (a + 1) ((a : Int) + 1) (by omega) hs (by omega)
    by_cases h2 : runE figs (s.drop (a + 1)) = 0
    · have h3 : ((a : Int) + 1 + (runE figs (s.drop (a + 1)) : Int) = (a : Int) + 1) := by omega
      simp [b_plain_end, hs, h, h1, h2, plainO, glob_FIGURES]
    · have h3 : ¬ ((a : Int) + 1 + (runE figs (s.drop (a + 1)) : Int) = (a : Int) + 1) := by omega
      simp [b_plain_end, hs, h, h1, h2, h3, plainO, glob_FIGURES]
  · have h1 := s_name_end n s a _ rfl hs ha
    simp [b_plain_end, hs, h, h1, plainO]
theorem w_points_end (n : Nat) (s : List Nat) (a : Nat) (hs : s.length ≤ 16777216) (ha : a ≤ s.length) :
    exC (Γ (n + 2)) w_points_end_0 [some (.sh (.str s)), some (.sh (.int (a : Int)))] = .nx [some (.sh (.str s)), some (.sh (natD (pointsA s a)))] := by
  unfold w_points_end_0
  rw [exC_whl]
  refine whl_ind (I := fun m ρ => ∃ o : Option Nat, m = (match o with | none => 0 | some b => s.length - b + 1) ∧ o.bind (pointsA s) = pointsA s a ∧ (∀ b, o = some b → b ≤ s.length) ∧ ρ = [some (.sh (.str s)), some (.sh (natD o))]) (Q := fun o => o = .nx [some (.sh (.str s)), some (.sh (natD (pointsA s a)))]) ?_ fuel (s.length - a + 1) _ (by unfold fuel; omega) ⟨some a, rfl, rfl, fun b h => by cases h; exact ha, rfl⟩
  rintro m ρ ⟨o, rfl, e, hb, rfl⟩
  cases o with
  | none =>
    left
    refine ⟨by simp, ?_⟩
    rw [← e]; rfl
  | some b =>
    have hb := hb b rfl
    have e : pointsA s b = pointsA s a := e
    by_cases h : s[b]? = some 46
    · right
      have hl : b < s.length := by
        rcases List.getElem?_eq_some_iff.mp h with ⟨z, _⟩; exact z
      have h1 := s_name_end n s (b + 1) ((b : Int) + 1) (by omega) hs (by omega)
      refine ⟨by simp [hs, h], OP_to (by simp [y_points_end_0, h1]) ⟨_, ?_, nameO s (b + 1), rfl, ?_, ?_, rfl⟩⟩
      · cases q : nameO s (b + 1) with
        | none => simp
        | some c =>
          have := nameO_gt q
          have := nameO_le q (by omega)
          simp; omega
      · rw [← e, pointsA_dot h]
      · intro c q; exact nameO_le q (by omega)
    · left
      refine ⟨by simp [hs, h], ?_⟩
      rw [← e, pointsA_no h]
theorem s_points_end (n : Nat) (s : List Nat) (a : Nat) (hs : s.length ≤ 16777216) (ha : a ≤ s.length) :
    (Γ (n + 3)).call F_points_end [.str s, .int (a : Int)] = .ok (.sh (natD (pointsA s a))) := by
  rw [call_points_end]
  have h := w_points_end n s a hs ha
  simp [b_points_end, h]
def encW : Option Nat → D
  | none => .str [41]
  | some _ => .str [38]
def sgn : Option Nat → Nat
  | none => 41
  | some _ => 38
theorem encW_ok : ∀ w : List (Option Nat), eqR (.lst (w.map encW)) (.lst []) = .ok (decide (w = [])) := by
  intro w
  have h : (D.lst (w.map encW)).ok = true := ok_scal (by
    intro d hd
    obtain ⟨x, _, rfl⟩ := List.mem_map.mp hd
    cases x <;> rfl)
  cases w with
  | nil => simp [eqR, D.ok, D.plain, plains, D.dep, deps, eqD, eqDs]
  | cons x w =>
    simp only [eqR, h]
    simp [D.ok, D.plain, plains, D.dep, deps, eqD, eqDs]
/-- a machine's state of is_kind -/
structure KS (s : List Nat) (r : Option Nat) (b : Bool) (n a : Nat) (w : List (Option Nat)) : Prop where
  le : a ≤ s.length
  val : (if b then (kindF s n a).bind (kindC s w) else kindC s w a) = r
  beg : b = true → opens s a < n
  wait : ∀ k, some k ∈ w → opens s a < k
  len : w.length ≤ a
def kEnv (s : List Nat) (a : Nat) (b : Bool) (w : List (Option Nat)) (v : Option Z.S) : Z.Env := [some (.sh (.str s)), some (.sh (.int (a : Int))), some (.sh (.bl b)), some (.li (w.reverse.map encW)), v]
/-- how a turn of is_kind may end -/
def KEnd (s : List Nat) (r : Option Nat) (a0 : Nat) (o : O) : Prop :=
  (o = .rt (.sh (.bl false)) ∧ r = none) ∨ ∃ b n a w v, a0 < a ∧ KS s r b n a w ∧ (o = .nx (kEnv s a b w v) ∨ o = .ct (kEnv s a b w v))
theorem kind_turn (n : Nat) (s : List Nat) (hs : s.length ≤ 16777216) (r : Option Nat) (b : Bool) (k a : Nat) (w : List (Option Nat)) (v : Option Z.S) (K : KS s r b k a w) (hg : b = true ∨ w ≠ []) :
    KEnd s r a (exs (Γ (n + 3)) y_is_kind_0 (kEnv s a b w v)) := by
  unfold kEnv
  have ha := K.le
  have hlen := K.len
  -- behind the kind's own text
  have rest : ∀ a1 : Nat, a < a1 ∨ (a ≤ a1 ∧ w ≠ []) → a1 ≤ s.length → kindC s w a1 = r → (∀ j, some j ∈ w → opens s a1 < j) → ∀ o : O,
      (pointsA s a1 = none → o = .rt (.sh (.bl false))) →
      (∀ a2, pointsA s a1 = some a2 → w = [] → o = .nx (kEnv s a2 false [] v)) →
      (∀ a2 x w', pointsA s a1 = some a2 → w = x :: w' → ¬ s[a2]? = some (sgn x) → o = .rt (.sh (.bl false))) →
      (∀ a2 w', pointsA s a1 = some a2 → w = none :: w' → s[a2]? = some 41 → ∃ v', o = .nx (kEnv s (a2 + 1) false w' v')) →
      (∀ a2 j w', pointsA s a1 = some a2 → w = some j :: w' → s[a2]? = some 38 → ∃ v', o = .nx (kEnv s (a2 + 1) true (none :: w') v')) → KEnd s r a o := by
    intro a1 h1 h2 h3 h4 o q1 q2 q3 q4 q5
    cases hp : pointsA s a1 with
    | none =>
      refine .inl ⟨q1 hp, ?_⟩
      rw [← h3]
      cases w with
      | nil => exact hp
      | cons x w =>
        cases x with
        | none => rw [kindC_none, hp]; rfl
        | some j => rw [kindC_some, hp]; rfl
    | some a2 =>
      have l2 := pointsA_le _ _ _ (Nat.le_refl _) h2 hp
      cases w with
      | nil =>
        have h5 : a < a1 := by
          rcases h1 with h1 | h1
          · exact h1
          · exact absurd rfl h1.2
        refine .inr ⟨false, 0, a2, [], v, by omega, ⟨l2.2.1, ?_, by simp, by simp, by simp⟩, .inl (q2 a2 hp rfl)⟩
        have h6 : kindC s [] a1 = r := h3
        rw [kindC] at h6
        show kindC s [] a2 = r
        rw [kindC, pointsA_idem h2 hp, ← h6, hp]
      | cons x w' =>
        by_cases hx : s[a2]? = some (sgn x)
        · obtain ⟨z, _⟩ := List.getElem?_eq_some_iff.mp hx
          have hop : ∀ j, some j ∈ w' → opens s (a2 + 1) < j := fun j hj =>
            Nat.lt_of_le_of_lt (opens_mono s (by omega)) (h4 j (List.mem_cons_of_mem _ hj))
          cases x with
          | none =>
            obtain ⟨v', q⟩ := q4 a2 w' hp rfl hx
            refine .inr ⟨false, 0, a2 + 1, w', v', by omega, ⟨by omega, ?_, by simp, hop, by simp at hlen; omega⟩, .inl q⟩
            have hx' : s[a2]? = some 41 := hx
            rw [kindC_none, hp] at h3
            simp only [Option.bind_some, if_pos hx'] at h3
            exact h3
          | some j =>
            obtain ⟨v', q⟩ := q5 a2 j w' hp rfl hx
            refine .inr ⟨true, j, a2 + 1, none :: w', v', by omega, ⟨by omega, ?_, fun _ => Nat.lt_of_le_of_lt (opens_mono s (by omega)) (h4 j List.mem_cons_self), ?_, by simp at hlen ⊢; omega⟩, .inl q⟩
            · have hx' : s[a2]? = some 38 := hx
              rw [kindC_some, hp] at h3
              simp only [Option.bind_some, if_pos hx'] at h3
              exact h3
            · intro i hi
              rcases List.mem_cons.mp hi with hi | hi
              · cases hi
              · exact hop i hi
        · refine .inl ⟨q3 a2 x w' hp rfl hx, ?_⟩
          rw [← h3]
          cases x with
          | none => rw [kindC_none, hp]; simp only [Option.bind_some]; exact if_neg hx
          | some j => rw [kindC_some, hp]; simp only [Option.bind_some]; exact if_neg hx
  have val := K.val
  cases b with
  | true =>
    have hk := K.beg rfl
    obtain ⟨k, rfl⟩ : ∃ j, k = j + 1 := ⟨k - 1, by omega⟩
    by_cases h40 : s[a]? = some 40
    · obtain ⟨z, _⟩ := List.getElem?_eq_some_iff.mp h40
      have ho := opens_step h40
      refine .inr ⟨true, k, a + 1, some k :: w, v, by omega, ⟨by omega, ?_, fun _ => by omega, ?_, by simp; omega⟩, .inr ?_⟩
      · rw [← val]; simp only [if_true]; exact (kindF_open w h40).symm
      · intro j hj
        rcases List.mem_cons.mp hj with hj | hj
        · cases hj; omega
        · have := K.wait j hj; omega
      · have hw2 : w.length < 16777216 := by omega
        simp [y_is_kind_0, hs, h40, hw2, kEnv, encW]
    · have hpl := s_plain_end n s a hs ha
      simp only [if_true] at val
      rw [kindF_plain h40] at val
      cases hp : plainO s a with
      | none =>
        rw [hp] at val hpl
        refine .inl ⟨?_, val.symm⟩
        simp [y_is_kind_0, hs, h40, hpl]
      | some a1 =>
        rw [hp] at val hpl
        have hpl : (Γ (n + 3)).call F_plain_end [.str s, .int (a : Int)] = .ok (.sh (.int (a1 : Int))) := hpl
        have l1 := plainO_gt hp
        have l2 := plainO_le hp ha
        have hpt := s_points_end n s a1 hs l2
        refine rest a1 (.inl l1) l2 val (fun j hj => Nat.lt_of_le_of_lt (opens_mono s (by omega)) (K.wait j hj)) _ ?_ ?_ ?_ ?_ ?_
        · intro e
          rw [e] at hpt
          simp at hpt
          simp [y_is_kind_0, hs, h40, hpl, hpt]
        · intro a2 e ew
          subst ew
          rw [e] at hpt
          simp at hpt
          have e0 := encW_ok []
          simp at e0
          simp [y_is_kind_0, hs, h40, hpl, hpt, kEnv, e0]
        · intro a2 x w' e ew hx
          subst ew
          rw [e] at hpt
          simp at hpt
          have e0 := encW_ok (x :: w').reverse
          cases x with
          | none => simp [encW, sgn] at hx e0; simp [y_is_kind_0, hs, h40, hpl, hpt, kEnv, e0, hx, encW]
          | some j => simp [encW, sgn] at hx e0; simp [y_is_kind_0, hs, h40, hpl, hpt, kEnv, e0, hx, encW]
        · intro a2 w' e ew hx
          subst ew
          rw [e] at hpt
          simp at hpt
          have e0 := encW_ok (none :: w').reverse
          simp [encW] at e0
          exact ⟨_, by simp [y_is_kind_0, hs, h40, hpl, hpt, kEnv, e0, hx, encW]; rfl⟩
        · intro a2 j w' e ew hx
          subst ew
          rw [e] at hpt
          simp at hpt
          have e0 := encW_ok (some j :: w').reverse
          simp [encW] at e0
          have hw3 : w'.length < 16777216 := by simp at hlen; omega
          exact ⟨_, by simp [y_is_kind_0, hs, h40, hpl, hpt, kEnv, e0, hx, encW, hw3]; rfl⟩
  | false =>
    have hwn : w ≠ [] := by
      rcases hg with hg | hg
      · cases hg
      · exact hg
    have val : kindC s w a = r := val
    have hpt := s_points_end n s a hs ha
    refine rest a (.inr ⟨Nat.le_refl _, hwn⟩) ha val K.wait _ ?_ ?_ ?_ ?_ ?_
    · intro e
      rw [e] at hpt
      simp at hpt
      simp [y_is_kind_0, hs, hpt]
    · intro a2 e ew
      exact absurd ew hwn
    · intro a2 x w' e ew hx
      subst ew
      rw [e] at hpt
      simp at hpt
      have e0 := encW_ok (x :: w').reverse
      cases x with
      | none => simp [encW, sgn] at hx e0; simp [y_is_kind_0, hs, hpt, kEnv, e0, hx, encW]
      | some j => simp [encW, sgn] at hx e0; simp [y_is_kind_0, hs, hpt, kEnv, e0, hx, encW]
    · intro a2 w' e ew hx
      subst ew
      rw [e] at hpt
      simp at hpt
      have e0 := encW_ok (none :: w').reverse
      simp [encW] at e0
      exact ⟨_, by simp [y_is_kind_0, hs, hpt, kEnv, e0, hx, encW]; rfl⟩
    · intro a2 j w' e ew hx
      subst ew
      rw [e] at hpt
      simp at hpt
      have e0 := encW_ok (some j :: w').reverse
      simp [encW] at e0
      have hw3 : w'.length < 16777216 := by simp at hlen; omega
      exact ⟨_, by simp [y_is_kind_0, hs, hpt, kEnv, e0, hx, encW, hw3]; rfl⟩
theorem s_is_kind (n : Nat) (s : List Nat) (hs : s.length ≤ 16777216) (d : Nat) (hd : opens s 0 < d) :
    (Γ (n + 4)).call F_is_kind [.str s] = .ok (.sh (.bl (decide ((kindF s d 0).bind (pointsA s) = some s.length)))) := by
  have hw : (exC (Γ (n + 3)) w_is_kind_0 (kEnv s 0 true [] none) = .rt (.sh (.bl false)) ∧ (kindF s d 0).bind (pointsA s) = none) ∨
      ∃ a v, a ≤ s.length ∧ pointsA s a = (kindF s d 0).bind (pointsA s) ∧ exC (Γ (n + 3)) w_is_kind_0 (kEnv s 0 true [] none) = .nx (kEnv s a false [] v) := by
    unfold w_is_kind_0
    rw [exC_whl]
    have e0 : (kindF s d 0).bind (kindC s []) = (kindF s d 0).bind (pointsA s) := by
      congr 1
    refine whl_ind (I := fun m ρ => ∃ b n a w v, m = s.length - a ∧ KS s ((kindF s d 0).bind (pointsA s)) b n a w ∧ ρ = kEnv s a b w v)
      (Q := fun o => (o = .rt (.sh (.bl false)) ∧ (kindF s d 0).bind (pointsA s) = none) ∨ ∃ a v, a ≤ s.length ∧ pointsA s a = (kindF s d 0).bind (pointsA s) ∧ o = .nx (kEnv s a false [] v)) ?_ fuel (s.length - 0) _ (by unfold fuel; omega) ⟨true, d, 0, [], none, rfl, ⟨by omega, by simpa using e0, fun _ => hd, by simp, by simp⟩, rfl⟩
    rintro m ρ ⟨b, k, a, w, v, rfl, K, rfl⟩
    have ew := encW_ok w.reverse
    by_cases hg : b = true ∨ w ≠ []
    · right
      refine ⟨?_, ?_⟩
      · unfold kEnv
        cases b with
        | true => simp
        | false =>
          have : w ≠ [] := by simpa using hg
          simp at ew
          simp [ew, this]
      · rcases kind_turn n s hs _ b k a w v K hg with ⟨q1, q2⟩ | ⟨b', n', a', w', v', l, K', q⟩
        · rw [q1]; exact .inl ⟨rfl, q2⟩
        · have := K'.le
          have hI : ∃ m', m' < s.length - a ∧ ∃ b n a w v, m' = s.length - a ∧ KS s ((kindF s d 0).bind (pointsA s)) b n a w ∧ kEnv s a' b' w' v' = kEnv s a b w v := ⟨s.length - a', by omega, b', n', a', w', v', rfl, K', rfl⟩
          rcases q with q | q
          · rw [q]; exact hI
          · rw [q]; exact hI
    · have hb : b = false := by
        cases b
        · rfl
        · exact absurd (.inl rfl) hg
      have hw : w = [] := Classical.byContradiction fun z => hg (.inr z)
      subst hb hw
      left
      refine ⟨?_, .inr ⟨a, v, K.le, ?_, rfl⟩⟩
      · simp at ew
        unfold kEnv
        simp [ew]
      · have := K.val
        exact this
  rw [call_is_kind]
  unfold kEnv at hw
  rcases hw with ⟨h1, h2⟩ | ⟨a, v, h0, h1, h2⟩
  · simp at h1
    rw [h2]
    simp [b_is_kind, h1]
  · have h3 := s_points_end n s a hs h0
    rw [h1] at h3
    simp at h2
    simp [b_is_kind, h2, h3, hs, eqR_natD]
def stp (x : Int) (c : Int) : Int := (x * (x / 1009 + 69621) + c) % 2147483647
theorem stp_range (x c : Int) : 0 ≤ stp x c ∧ stp x c < 2147483647 := by
  unfold stp
  have e4 := Int.emod_nonneg (x * (x / 1009 + 69621) + c) (b := 2147483647) (by omega)
  have e5 := Int.emod_lt_of_pos (x * (x / 1009 + 69621) + c) (b := 2147483647) (by omega)
  exact ⟨e4, e5⟩
theorem s_next (n : Nat) (x : Int) (h0 : 0 ≤ x) (h1 : x < 2147483647) : (Γ (n + 1)).call F__law_next [.int x] = .ok (.sh (.int (stp x 12345))) := by
  have e1 : (-18446744073709551616 : Int) < x / 1009 + 69621 := by omega
  have e2 : x / 1009 + 69621 < (18446744073709551616 : Int) := by omega
  rw [call__law_next]
  simp [b__law_next, e1, e2, stp]
def Lb : Nat → Nat
  | 0 => 12
  | k + 1 => 2 * Lb k + 13
def Pb : Nat → Nat
  | 0 => 0
  | k + 1 => 2 * Pb k + 1
theorem Lb_le : ∀ k, 12 ≤ Lb k
  | 0 => Nat.le_refl _
  | k + 1 => by have := Lb_le k; unfold Lb; omega
def Told (k : Nat) (t : List Nat) : Prop := t.length ≤ Lb k ∧ t.countP (· == 40) ≤ Pb k
theorem told_leaf (m : Nat) (hm : m < 2147483647) : ∀ d ∈ [D.str [110, 117, 109], .str [119, 111, 114, 100], .str [97], .str [122, 101, 98, 114, 97], .str [97, 98, 99, 100, 101, 102, 103, 104, 105, 106, 107, 108], .str [35, 48], .str [35, 48, 48, 55], .str (35 :: strInt (m : Int)), .str [113, 113]], ∃ t, d = .str t ∧ t.length ≤ 12 ∧ t.countP (· == 40) = 0 := by
  have h1 : (strInt (m : Int)).length ≤ 10 := strInt_len (by omega) (by omega)
  have h2 : (strInt (m : Int)).countP (· == 40) = 0 := by
    rw [List.countP_eq_zero]
    intro c hc
    have := strInt_fig c hc
    simp; omega
  intro d hd
  simp only [List.mem_cons, List.not_mem_nil, or_false] at hd
  rcases hd with rfl | rfl | rfl | rfl | rfl | rfl | rfl | rfl | rfl
  all_goals first | exact ⟨_, rfl, by decide, by decide⟩ | exact ⟨_, rfl, by simp; omega, by simp [h2]⟩
theorem s_told : ∀ (k : Nat), k ≤ 4 → ∀ x : Int, 0 ≤ x → x < 2147483647 → ∃ t, Told k t ∧ ∀ n, (Γ (n + k + 2)).call F__law_told [.int x, .int (k : Int)] = .ok (.sh (.str t)) := by
  intro k
  induction k with
  | zero =>
    intro _ x h0 h1
    obtain ⟨m, hm⟩ := Int.eq_ofNat_of_zero_le (stp_range x 12345).1
    have hm2 := (stp_range x 12345).2
    rw [hm] at hm2
    have q3 := Int.emod_nonneg ((m : Int) / 11) (b := 9) (by omega)
    have q4 := Int.emod_lt_of_pos ((m : Int) / 11) (b := 9) (by omega)
    obtain ⟨z, hz, hmem⟩ := atI_some (l := [D.str [110, 117, 109], .str [119, 111, 114, 100], .str [97], .str [122, 101, 98, 114, 97], .str [97, 98, 99, 100, 101, 102, 103, 104, 105, 106, 107, 108], .str [35, 48], .str [35, 48, 48, 55], .str (35 :: strInt (m : Int)), .str [113, 113]]) q3 (by simp; omega)
    obtain ⟨t, rfl, t1, t2⟩ := told_leaf m (by omega) z hmem
    refine ⟨t, ⟨t1, by omega⟩, fun n => ?_⟩
    have hn := s_next (n) x h0 h1
    rw [hm] at hn
    have hs := bifD_str (m : Int) (log2_1900 (by
      have : (2147483647 : Nat) < 2 ^ 1900 := by decide +kernel
      simp; omega))
    have hl : (strInt (m : Int)).length ≤ 10 := strInt_len (by omega) (by omega)
    have hl2 : 1 + (strInt (m : Int)).length ≤ 16777216 := by omega
    rw [call__law_told]
    simp [b__law_told, hn, hs, hl2, hz]
  | succ k ih =>
    intro hk x h0 h1
    obtain ⟨m, hm⟩ := Int.eq_ofNat_of_zero_le (stp_range x 12345).1
    have hm2 := (stp_range x 12345).2
    rw [hm] at hm2
    have hLk : Lb k ≤ 400 := by
      have : k = 0 ∨ k = 1 ∨ k = 2 ∨ k = 3 := by omega
      rcases this with rfl | rfl | rfl | rfl <;> decide
    have L12 := Lb_le k
    have k1 : (k : Int) + 1 ≠ 0 := by omega
    by_cases hway : x / 7 % 6 < 2
    · have q3 := Int.emod_nonneg ((m : Int) / 11) (b := 9) (by omega)
      have q4 := Int.emod_lt_of_pos ((m : Int) / 11) (b := 9) (by omega)
      obtain ⟨z, hz, hmem⟩ := atI_some (l := [D.str [110, 117, 109], .str [119, 111, 114, 100], .str [97], .str [122, 101, 98, 114, 97], .str [97, 98, 99, 100, 101, 102, 103, 104, 105, 106, 107, 108], .str [35, 48], .str [35, 48, 48, 55], .str (35 :: strInt (m : Int)), .str [113, 113]]) q3 (by simp; omega)
      obtain ⟨t, rfl, t1, t2⟩ := told_leaf m (by omega) z hmem
      refine ⟨t, ⟨by have := Lb_le (k + 1); omega, by omega⟩, fun n => ?_⟩
      have hn := s_next (n + (k + 1)) x h0 h1
      rw [hm] at hn
      have hs := bifD_str (m : Int) (log2_1900 (by
        have : (2147483647 : Nat) < 2 ^ 1900 := by decide +kernel
        simp; omega))
      have hl : (strInt (m : Int)).length ≤ 10 := strInt_len (by omega) (by omega)
      have hl2 : 1 + (strInt (m : Int)).length ≤ 16777216 := by omega
      rw [call__law_told]
      simp [b__law_told, hn, hs, hl2, hz, hway, k1]
    · obtain ⟨t1, ⟨l1, p1⟩, h3⟩ := ih (by omega) (m : Int) (by omega) hm2
      by_cases hway2 : x / 7 % 6 = 2
      · have q3 := Int.emod_nonneg ((m : Int) / 13) (b := 3) (by omega)
        have q4 := Int.emod_lt_of_pos ((m : Int) / 13) (b := 3) (by omega)
        obtain ⟨z, hz, hmem⟩ := atI_some (l := [D.str [111, 107], .str [97], .str [97, 98, 99, 100, 101, 102, 103, 104, 105, 106, 107, 108]]) q3 (by simp; omega)
        obtain ⟨t, rfl, t2, t3⟩ : ∃ t, z = .str t ∧ t.length ≤ 12 ∧ t.countP (· == 40) = 0 := by
          simp only [List.mem_cons, List.not_mem_nil, or_false] at hmem
          rcases hmem with rfl | rfl | rfl <;> exact ⟨_, rfl, by decide, by decide⟩
        refine ⟨t1 ++ 46 :: t, ⟨by simp [Lb]; omega, by simp [Pb, t3]; omega⟩, fun n => ?_⟩
        have hn := s_next (n + (k + 1)) x h0 h1
        rw [hm] at hn
        have h4 := h3 n
        have e1 : t1.length + 1 ≤ 16777216 := by omega
        have e2 : t1.length + 1 + t.length ≤ 16777216 := by omega
        rw [call__law_told]
        have e3 : n + (k + 1) + 1 = n + k + 2 := by omega
        rw [e3] at hn ⊢
        simp [b__law_told, hn, hz, hway, k1, hway2, h4, e1, e2]
      · obtain ⟨m', hm'⟩ := Int.eq_ofNat_of_zero_le (stp_range (m : Int) 12345).1
        have hm2' := (stp_range (m : Int) 12345).2
        rw [hm'] at hm2'
        obtain ⟨t2, ⟨l2, p2⟩, h5⟩ := ih (by omega) (m' : Int) (by omega) hm2'
        refine ⟨40 :: (t1 ++ 38 :: (t2 ++ [41])), ⟨by simp [Lb]; omega, by simp [Pb]; omega⟩, fun n => ?_⟩
        have hn := s_next (n + (k + 1)) x h0 h1
        rw [hm] at hn
        have hn' := s_next (n + (k + 1)) (m : Int) (by omega) hm2
        rw [hm'] at hn'
        have h4 := h3 n
        have h6 := h5 n
        have e1 : 1 + t1.length ≤ 16777216 := by omega
        have e2 : t1.length + 1 + 1 ≤ 16777216 := by omega
        have e6 : t1.length + 1 + 1 + t2.length ≤ 16777216 := by omega
        have e4 : t1.length + (t2.length + 1) + 1 ≤ 16777216 := by omega
        have e5 : t1.length + (t2.length + 1) + 1 + 1 ≤ 16777216 := by omega
        rw [call__law_told]
        have e3 : n + (k + 1) + 1 = n + k + 2 := by omega
        rw [e3] at hn hn' ⊢
        simp [b__law_told, hn, hn', hway, k1, hway2, h4, h6, e1, e2, e4, e5, e6]
theorem cutL_lo {α : Type} (l : List α) (n : Nat) : cutL l none (some (n : Int)) = l.take n := by
  unfold cutL; rw [HT.sIx_nat, HT.sIx_none]; simp
theorem cutL_hi {α : Type} (l : List α) (n : Nat) : cutL l (some (n : Int)) none = l.drop n := by
  unfold cutL; rw [HT.sIx_nat, HT.sIx_none]
  have : (List.drop (min n l.length) l).length = l.length - min n l.length := by simp
  rw [List.take_of_length_le (by rw [this]; omega)]
  by_cases h : n ≤ l.length
  · rw [Nat.min_eq_left h]
  · rw [Nat.min_eq_right (by omega), List.drop_of_length_le (by omega), List.drop_of_length_le (by omega)]
theorem s_spoiled (n : Nat) (t : List Nat) (l : List Int) (ht : t.length ≤ 400) (hl : l.length = 5) (hd : Drawn l) :
    ∃ s : List Nat, s.length ≤ 1000 ∧ s.countP (· == 40) ≤ 2 * t.countP (· == 40) + 1 ∧ (Γ (n + 1)).call F__law_spoiled [.str t, .lst (l.map .int)] = .ok (.sh (.str s)) := by
  match l, hl with
  | [a, b, c, d, e], _ =>
  have ha := hd a (by simp); have hb := hd b (by simp); have hc := hd c (by simp)
  have i0 : atI [D.int a, .int b, .int c, .int d, .int e] 0 = some (.int a) := rfl
  have i1 : atI [D.int a, .int b, .int c, .int d, .int e] 1 = some (.int b) := rfl
  have i2 : atI [D.int a, .int b, .int c, .int d, .int e] 2 = some (.int c) := rfl
  have p0 : (0 : Int) < (t.length : Int) + 1 := by omega
  have p1 := Int.emod_nonneg b (b := (t.length : Int) + 1) (by omega)
  have p4 := Int.emod_nonneg c (b := 10) (by omega)
  have p5 := Int.emod_lt_of_pos c (b := 10) (by omega)
  obtain ⟨z, hz, _⟩ := atI_some (l := [40, 41, 38, 46, 35, 97, 48, 32, 65, 109]) p4 p5
  have p6 := ixD_str _ _ z (by simp) hz
  have p7 : t.length ≤ 16777216 := by omega
  obtain ⟨j, hj⟩ := Int.eq_ofNat_of_zero_le p1
  have s1 := (cutL_sub t none (some (j : Int)))
  have s2 := (cutL_sub t (some ((j : Int) + 1)) none)
  have s3 := (cutL_sub t (some (j : Int)) none)
  have l1 := s1.length_le; have l2 := s2.length_le; have l3 := s3.length_le
  have c1 := List.Sublist.countP_le (p := (· == 40)) s1
  have c2 := List.Sublist.countP_le (p := (· == 40)) s2
  have c3 := List.Sublist.countP_le (p := (· == 40)) s3
  have z1 : (if (z == 40) = true then 1 else 0) ≤ 1 := by split <;> omega
  rw [call__law_spoiled]
  by_cases h0 : a % 6 = 0
  · refine ⟨cutL t none (some (j : Int)) ++ cutL t (some ((j : Int) + 1)) none, by simp; omega, by rw [List.countP_append]; omega, ?_⟩
    have q1 : (cutL t none (some (j : Int))).length + (cutL t (some ((j : Int) + 1)) none).length ≤ 16777216 := by omega
    simp [b__law_spoiled, i0, i1, i2, p0, p6, p7, hj, h0, q1]
  · by_cases h1 : a % 6 = 1
    · refine ⟨cutL t none (some (j : Int)) ++ z :: cutL t (some (j : Int)) none, by simp; omega, by rw [List.countP_append, List.countP_cons]; omega, ?_⟩
      have q1 : (cutL t none (some (j : Int))).length + 1 ≤ 16777216 := by omega
      have q2 : (cutL t none (some (j : Int))).length + 1 + (cutL t (some (j : Int)) none).length ≤ 16777216 := by omega
      simp [b__law_spoiled, i0, i1, i2, p0, p6, p7, hj, h0, h1, q1, q2]
    · by_cases h2 : a % 6 = 2
      · refine ⟨cutL t none (some (j : Int)) ++ z :: cutL t (some ((j : Int) + 1)) none, by simp; omega, by rw [List.countP_append, List.countP_cons]; omega, ?_⟩
        have q1 : (cutL t none (some (j : Int))).length + 1 ≤ 16777216 := by omega
        have q2 : (cutL t none (some (j : Int))).length + 1 + (cutL t (some ((j : Int) + 1)) none).length ≤ 16777216 := by omega
        simp [b__law_spoiled, i0, i1, i2, p0, p6, p7, hj, h0, h1, h2, q1, q2]
      · refine ⟨t, by omega, by omega, ?_⟩
        simp [b__law_spoiled, i0, i1, i2, p0, p6, p7, hj, h0, h1, h2]
theorem w_law_run (n : Nat) (s g : List Nat) (a : Nat) (hs : s.length ≤ 16777216) (ha : a ≤ s.length) :
    exC (Γ n) w__law_run_0 [some (.sh (.str s)), some (.sh (.int (a : Int))), some (.sh (.str g))] = .nx [some (.sh (.str s)), some (.sh (.int ((a + runE g (s.drop a) : Nat) : Int))), some (.sh (.str g))] := w_run_end n s g a hs ha
theorem s_law_run (n : Nat) (s g : List Nat) (a : Nat) (i : Int) (hi : i = (a : Int)) (hs : s.length ≤ 16777216) (ha : a ≤ s.length) :
    (Γ (n + 1)).call F__law_run [.str s, .int i, .str g] = .ok (.sh (.int ((a + runE g (s.drop a) : Nat) : Int))) := by
  subst hi
  rw [call__law_run]
  simp [b__law_run, w_law_run n s g a hs ha]
def endI : Option Nat → Int
  | none => -1
  | some b => (b : Int)
theorem s_law_name_end (n : Nat) (s : List Nat) (a : Nat) (i : Int) (hi : i = (a : Int)) (hs : s.length ≤ 16777216) (ha : a ≤ s.length) :
    (Γ (n + 2)).call F__law_name_end [.str s, .int i] = .ok (.sh (.int (endI (nameO s a)))) := by
  subst hi
  rw [call__law_name_end]
  have h := s_law_run n s abc a _ rfl hs ha
  by_cases h1 : runE abc (s.drop a) = 0
  · simp [b__law_name_end, h, h1, nameO, endI]
  · have h3 : (0 : Int) < (a : Int) + (runE abc (s.drop a) : Int) - a := by omega
    by_cases h2 : 12 < runE abc (s.drop a)
    · have : ¬ (a : Int) + (runE abc (s.drop a) : Int) - a < (13 : Int) := by omega
      simp [b__law_name_end, h, h1, h2, h3, nameO, this, endI]
    · have : (a : Int) + (runE abc (s.drop a) : Int) - a < (13 : Int) := by omega
      have h4 : ¬ (a : Int) + (runE abc (s.drop a) : Int) ≤ a := by omega
      simp [b__law_name_end, h, h1, h2, h3, h4, nameO, this, endI]
def lft (s : List Nat) : Option Nat → Nat
  | none => 0
  | some b => s.length - b + 1
theorem lft_le (s : List Nat) (o : Option Nat) : lft s o ≤ s.length + 1 := by cases o <;> simp [lft]
theorem w_law_end (n : Nat) (s : List Nat) (o : Option Nat) (x : Option Z.S) (hs : s.length ≤ 16777216) (ho : ∀ a, o = some a → a ≤ s.length) :
    exC (Γ (n + 2)) w__law_end_0 [some (.sh (.str s)), x, some (.sh (.int (endI o)))] = .nx [some (.sh (.str s)), x, some (.sh (.int (endI (o.bind (pointsA s)))))] := by
  unfold w__law_end_0
  rw [exC_whl]
  refine whl_ind (I := fun m ρ => ∃ p : Option Nat, m = lft s p ∧ p.bind (pointsA s) = o.bind (pointsA s) ∧ (∀ b, p = some b → b ≤ s.length) ∧ ρ = [some (.sh (.str s)), x, some (.sh (.int (endI p)))])
    (Q := fun r => r = .nx [some (.sh (.str s)), x, some (.sh (.int (endI (o.bind (pointsA s)))))]) ?_ fuel (lft s o) _ (by unfold fuel; have := lft_le s o; omega) ⟨o, rfl, rfl, ho, rfl⟩
  rintro m ρ ⟨p, rfl, e, hb, rfl⟩
  cases p with
  | none =>
    left
    refine ⟨by simp [endI], ?_⟩
    rw [← e]; rfl
  | some b =>
    have hb := hb b rfl
    have e : pointsA s b = o.bind (pointsA s) := e
    have b0 : (0 : Int) ≤ (b : Int) := by omega
    by_cases h : s[b]? = some 46
    · right
      have hl : b < s.length := by
        rcases List.getElem?_eq_some_iff.mp h with ⟨z, _⟩; exact z
      have h1 := s_law_name_end n s (b + 1) ((b : Int) + 1) (by omega) hs (by omega)
      refine ⟨by simp [hs, h, endI, b0], OP_to (by simp [y__law_end_0, h1, endI]) ⟨_, ?_, nameO s (b + 1), rfl, ?_, ?_, rfl⟩⟩
      · cases q : nameO s (b + 1) with
        | none => simp [lft]
        | some c =>
          have := nameO_gt q
          have := nameO_le q (by omega)
          simp [lft]; omega
      · rw [← e, pointsA_dot h]
      · intro c q; exact nameO_le q (by omega)
    · left
      refine ⟨by simp [hs, h, endI, b0], ?_⟩
      rw [← e, pointsA_no h]
theorem pt_le {s : List Nat} {o : Option Nat} (h : ∀ a, o = some a → a ≤ s.length) : ∀ a, o.bind (pointsA s) = some a → a ≤ s.length := by
  intro a e
  cases o with
  | none => cases e
  | some b => exact (pointsA_le _ _ _ (Nat.le_refl _) (h b rfl) e).2.1
theorem endI_neg (o : Option Nat) : (endI o < 0) ↔ o = none := by
  cases o with
  | none => simp [endI]
  | some b => simp [endI]
theorem s_law_end (s : List Nat) (hs : s.length ≤ 16777216) : ∀ (d a : Nat) (i : Int), i = (a : Int) → opens s a < d → a ≤ s.length →
    (Γ (d + 3)).call F__law_end [.str s, .int i] = .ok (.sh (.int (endI ((kindF s d a).bind (pointsA s)))))
  | 0, a, i, hi, hd, ha => absurd hd (by omega)
  | d + 1, a, i, hi, hd, ha => by
    subst hi
    have e3 : d + 1 + 3 = d + 3 + 1 := by omega
    rw [e3, call__law_end]
    by_cases h40 : s[a]? = some 40
    · obtain ⟨z0, _⟩ := List.getElem?_eq_some_iff.mp h40
      have ho := opens_step h40
      have ih1 := s_law_end s hs d (a + 1) ((a : Int) + 1) (by omega) (by omega) (by omega)
      have l1 : ∀ b, (kindF s d (a + 1)).bind (pointsA s) = some b → a + 1 ≤ b ∧ b ≤ s.length := by
        intro b e
        cases q : kindF s d (a + 1) with
        | none => rw [q] at e; cases e
        | some c =>
          rw [q] at e
          have := kindF_le _ _ _ (by omega) q
          have := pointsA_le _ _ _ (Nat.le_refl _) this.2 e
          omega
      have hk : (kindF s (d + 1) a).bind (pointsA s) = (((kindF s d (a + 1)).bind (pointsA s)).bind fun b => if s[b]? = some 38 then
        ((kindF s d (b + 1)).bind (pointsA s)).bind fun c => if s[c]? = some 41 then some (c + 1) else none
          else none).bind (pointsA s) := by rw [kindF, if_pos h40]
      rw [hk]
      cases q1 : (kindF s d (a + 1)).bind (pointsA s) with
      | none =>
        rw [q1] at ih1
        simp [b__law_end, hs, h40, ih1, endI]
      | some b =>
        rw [q1] at ih1
        obtain ⟨lb, lb2⟩ := l1 b q1
        have b0 : ¬ (b : Int) < 0 := by omega
        by_cases h38 : s[b]? = some 38
        · obtain ⟨z1, _⟩ := List.getElem?_eq_some_iff.mp h38
          have ih2 := s_law_end s hs d (b + 1) ((b : Int) + 1) (by omega) (by have := opens_mono s (a := a + 1) (b := b + 1) (by omega); omega) (by omega)
          cases q2 : (kindF s d (b + 1)).bind (pointsA s) with
          | none =>
            rw [q2] at ih2
            simp [b__law_end, hs, h40, ih1, ih2, endI, b0, h38, q2]
          | some c =>
            rw [q2] at ih2
            have c0 : ¬ (c : Int) < 0 := by omega
            by_cases h41 : s[c]? = some 41
            · obtain ⟨z2, _⟩ := List.getElem?_eq_some_iff.mp h41
              have hw := w_law_end (d + 1) s (some (c + 1)) (some (.sh (.int (a : Int)))) hs (by intro x hx; cases hx; omega)
              simp [endI] at hw
              simp [b__law_end, hs, h40, ih1, ih2, endI, b0, c0, h38, q2, h41, hw]
            · simp [b__law_end, hs, h40, ih1, ih2, endI, b0, c0, h38, q2, h41]
        · simp [b__law_end, hs, h40, ih1, endI, b0, h38]
    · rw [kindF_plain h40]
      by_cases h35 : s[a]? = some 35
      · obtain ⟨z0, _⟩ := List.getElem?_eq_some_iff.mp h35
        have h1 := s_law_run (d + 2) s figs (a + 1) ((a : Int) + 1) (by omega) hs (by omega)
        have le := runE_le figs (s.drop (a + 1))
        rw [List.length_drop] at le
        by_cases h2 : runE figs (s.drop (a + 1)) = 0
        · simp [b__law_end, hs, h40, h35, h1, h2, plainO, endI]
        · have h3 : ¬ ((a : Int) + 1 + (runE figs (s.drop (a + 1)) : Int) = (a : Int) + 1) := by omega
          have hw := w_law_end (d + 1) s (some (a + 1 + runE figs (s.drop (a + 1)))) (some (.sh (.int (a : Int)))) hs (by intro x hx; cases hx; omega)
          simp [endI] at hw
          simp [b__law_end, hs, h40, h35, h1, h2, h3, plainO, endI, hw]
      · have h1 := s_law_name_end (d + 1) s a _ rfl hs ha
        have hw := w_law_end (d + 1) s (nameO s a) (some (.sh (.int (a : Int)))) hs (fun x hx => nameO_le hx ha)
        simp [b__law_end, hs, h40, h35, h1, plainO, hw]
theorem endI_len (o : Option Nat) (n : Nat) : (endI o = (n : Int)) ↔ o = some n := by
  cases o with
  | none => simp [endI]
  | some b => simp [endI]
theorem s_law_turn (ns : List Int) (k : Nat) (x y z : Option Z.S) : ∃ x' y' z', exs (Γ 39) y_law_0 [some (.sh (.lfz (ns.map .int))), some (.sh (.int (k : Int))), x, y, z] = .nx [some (.sh (.lfz (ns.map .int))), some (.sh (.int (k : Int))), x', y', z'] := by
  obtain ⟨i, hi⟩ := s_cell 38 ns k
  obtain ⟨l, h1, h2, h3⟩ := s_stream 38 i 5 (by omega)
  have h3' : (Γ 39).call 6 [.int i, .int 5] = .ok (.ow (.li (l.map .int))) := h3
  match l, h1 with
  | [a, b, c, d, e], h1 =>
  have hd := h2 d (by simp)
  have q3 := Int.emod_nonneg e (b := 5) (by omega)
  have q4 := Int.emod_lt_of_pos e (b := 5) (by omega)
  obtain ⟨j, hj⟩ := Int.eq_ofNat_of_zero_le q3
  have hj4 : j ≤ 4 := by omega
  obtain ⟨t, ⟨t1, t2⟩, t3⟩ := s_told j hj4 d hd.1 hd.2
  have hL : Lb j ≤ 400 ∧ Pb j ≤ 15 := by
    have : j = 0 ∨ j = 1 ∨ j = 2 ∨ j = 3 ∨ j = 4 := by omega
    rcases this with rfl | rfl | rfl | rfl | rfl <;> decide
  obtain ⟨s, s1, s2, s3⟩ := s_spoiled 38 t [a, b, c, d, e] (by omega) h1 h2
  have t3' := t3 (37 - j)
  have e1 : 37 - j + j + 2 = 39 := by omega
  rw [e1] at t3'
  have hs : s.length ≤ 16777216 := by omega
  have ho : opens s 0 < 36 := by unfold opens; simp; omega
  have k1 := s_is_kind 35 s hs 36 ho
  have k2 := s_law_end s hs 36 0 0 rfl ho (by omega)
  have i3 : atI [D.int a, .int b, .int c, .int d, .int e] 3 = some (.int d) := rfl
  have i4 : atI [D.int a, .int b, .int c, .int d, .int e] 4 = some (.int e) := rfl
  simp at s3
  exact ⟨_, _, _, by simp [y_law_0, hi, h3', i3, i4, hj, t3', s3, k1, k2, hs, endI_len]; exact ⟨rfl, rfl, rfl⟩⟩
theorem plain (ns : List Int) (hn : ns.length ≤ 63) : (Γ 40).call F_law [.lfz (ns.map .int)] = .ok (.sh (.bl true)) := by
  have hw : ∃ x y z u, exC (Γ 39) w_law_0 [some (.sh (.lfz (ns.map .int))), none, none, none, none] = .nx [some (.sh (.lfz (ns.map .int))), x, y, z, u] := by
    unfold w_law_0
    rw [exC_for]
    have hr : ∃ k, evI (Γ 39) [some (.sh (.lfz (ns.map .int))), none, none, none, none] (.rng1 (.bif .max (.cons (.cst (.int 1)) (.cons (.bif .min (.cons (.bif .len (.cons (.var 0) .nil)) (.cons (.cst (.int 30)) .nil))) .nil)))) = .ok (iota 0 k) := by
      refine ⟨(if (if (30 : Int) < (ns.length : Int) then (30 : Int) else ns.length) > 1 then (if (30 : Int) < (ns.length : Int) then (30 : Int) else ns.length) else 1).toNat, ?_⟩
      simp
      exact rng1D_int _ (by split <;> (try split) <;> omega) (by split <;> (try split) <;> omega)
    obtain ⟨k, hr⟩ := hr
    rw [hr]
    refine forL_ind (I := fun ds ρ => (∃ l : List Nat, ds = l.map fun i => D.int ((i : Nat) : Int)) ∧ ∃ x y z u, ρ = [some (.sh (.lfz (ns.map .int))), x, y, z, u]) (Q := fun o => ∃ x y z u, o = .nx [some (.sh (.lfz (ns.map .int))), x, y, z, u]) ?_ ?_ _ _ ⟨⟨List.range k, by simp [iota]⟩, _, _, _, _, rfl⟩
    · rintro ρ ⟨_, h⟩
      obtain ⟨x, y, z, u, rfl⟩ := h
      exact ⟨x, y, z, u, rfl⟩
    · rintro d r ρ ⟨⟨l, hl⟩, x, y, z, u, rfl⟩
      cases l with
      | nil => cases hl
      | cons i l =>
        simp only [List.map_cons, List.cons.injEq] at hl
        obtain ⟨rfl, rfl⟩ := hl
        obtain ⟨x', y', z', h⟩ := s_law_turn ns i y z u
        exact ⟨_, rfl, OP_to h ⟨⟨l, rfl⟩, _, _, _, _, rfl⟩⟩
  obtain ⟨x, y, z, u, h⟩ := hw
  have h2 := s_is_kind 35 [] (by simp) 1 (by decide)
  have e2 : decide ((kindF [] 1 0).bind (pointsA []) = some ([] : List Nat).length) = false := by
    have : kindF [] 1 0 = none := by decide
    rw [this]; rfl
  rw [e2] at h2
  rw [call_law]
  simp [b_law, h, h2]
end K02
namespace K02
open PySem PySem.Spec L2 Z
abbrev Rw : PySem.W.OpenRow := PySem.W.OpenLaw.row PySem.Challenge.rw_facestead_k02_texts_of_kinds
abbrev hk : PySem.W.Hook := He.hookD 4 (faOf Fs gs blt) (Fs.map Fd.d)
def ob (s : PySem.W.SharedT) : He.AlD := He.obsDG 4 (faOf Fs gs blt) (Fs.map Fd.d) (HandSHeadRun.getT s)
theorem ob_eq (s : PySem.W.SharedT) : ob s = hk.obs s.abs := He.obsDG_eq (HandSHeadRun.getT_eq s)
theorem run (w : PySem.World) : HandSHeadRun.RunEq Rw (PySem.W.view Rw.prog [18]) hk ob 600 ["LETTERS", "FIGURES", "LONGEST", "run_end", "name_end", "plain_end", "points_end", "is_kind", "_law_cell_at", "_law_stream", "_law_next", "_law_told", "_law_spoiled", "_law_run", "_law_name_end", "_law_end"] w := by
  intro os
  kernel_rfl
end K02
section
open PySem PySem.W PySem.Calls PyProof.Rows
theorem PySem.Challenge.cw_facestead_k02_texts_of_kinds_holds : PySem.Challenge.rw_facestead_k02_texts_of_kinds.Holds := by
  w_on; o_law
  refine HandSHeadRun.head_any (r := OpenLaw.row PySem.Challenge.rw_facestead_k02_texts_of_kinds) (q := view (OpenLaw.row PySem.Challenge.rw_facestead_k02_texts_of_kinds).prog [18]) (H := K02.hk) (ob := K02.ob) (M := 600) (loose := ["LETTERS", "FIGURES", "LONGEST", "run_end", "name_end", "plain_end", "points_end", "is_kind", "_law_cell_at", "_law_stream", "_law_next", "_law_told", "_law_spoiled", "_law_run", "_law_name_end", "_law_end"]) (d := HandSHeadRun.topDef (OpenLaw.row PySem.Challenge.rw_facestead_k02_texts_of_kinds).prog 18) (kwd := []) K02.ob_eq
    (by kernel_rfl) (fun s => by kernel_rfl) K02.run (by kernel_rfl) (by kernel_rfl) (by kernel_rfl) (by rfl) (by first | assumption | decide +kernel) (by decide +kernel) ⟨rfl, rfl, rfl, rfl, rfl, by decide +kernel⟩ ?hw ?hc
  case hw => w_witness2
  case hc =>
    exact Z.walk_end (l := PySem.Challenge.rw_facestead_k02_texts_of_kinds) (n := 63) (k := 40) 4 rfl (by decide) (by kernel_rfl) ⟨rfl, by decide, by decide⟩ K02.F_law K02.f_law rfl (by kernel_rfl) "_law_script" rfl (by decide +kernel) K02.oks (fun _ => "x") (fun _ => "x") K02.plain
end
