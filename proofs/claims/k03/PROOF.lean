import PyProof.Rows.All
import Wide.All
import OpenK.AllK
import Wide.FinOn
import KE.KStateDown
import HandS.ForMost
import HandS.ForExc
import HandS.More
import HandS.Defaults
import HandS.Flow
import HandS.Zip
import HandS.Walk
import HandS.Wide
import HandS.Gcd
import HandS.IsInst
import HandS.CallSlots
import HandS.TupAny
import HandS.TupMul
import HandS.TupLe
import HandS.TryMany
import HandS.Head0
import HandS.Head1
import HandS.Head2
import HandS.HeadEnd
import HandS.HeadHook1
import HandS.HeadHook2
import HandS.WideBits
import HandS.RaiseMore
import HandS.Style
import HandS.HeadWalk
import HandS.Star
import HandS.Iter
import KE.GoesEnum
import KE.GoesMore
import HandS.HeadHook3
import HandS.Head3
import PySem.Challenge.RW_pauseplay_k03_whole_points_behind_pauses
set_option Elab.async false
set_option linter.all false
set_option maxRecDepth 100000
set_option maxHeartbeats 4000000
/-! DL: values as plain data, cells for what is changed; a deterministic reading of each construct over the hand layer. -/
namespace DL
open PySem PySem.Spec PyProof.Rows L2

/-! ### data -/
inductive D where
  | non | bl (b : Bool) | int (i : Int) | str (s : Str) | ty (n : String)
  | tup (l : List D) | lst (l : List D) | frz (l : List D)
  | dct (ks vs : List D)
  | loc (n : Nat)
  deriving Inhabited

abbrev Hs := List D
abbrev Ev := List (Option D)

def kD : Key → D
  | .inl i => .int i
  | .inr s => .str s

def FrzL (K : PySem.W.Frag) (H : Hp) (a : Addr) (xs : List V) : Prop := (∃ o, H a = some (.frz o (.lst xs))) ∨
  ∃ (o : Obj) (its : Array Value) (n : Nat), K.lookup a = some o ∧ o.cls = .type "list" ∧ o.dict = none ∧ o.data = .seq its n ∧ its.size ≤ sizeLine ∧ Vals xs its.toList
theorem FrzL.sq {K : PySem.W.Frag} {H : Hp} {a : Addr} {xs : List V} (h : FrzL K H a xs) : SqL K H a xs := by
  rcases h with h | h
  · exact .inl (.inr h)
  · exact .inr h

mutual
inductive RV (K : PySem.W.Frag) (H : Hp) (as : List Addr) : D → V → Prop
  | non : RV K H as .non .non
  | bl (b : Bool) : RV K H as (.bl b) (.bl b)
  | int (i : Int) : RV K H as (.int i) (.int i)
  | str (s : Str) : RV K H as (.str s) (.str s)
  | ty (n : String) : RV K H as (.ty n) (.ty n)
  | tup {a : Addr} {vs : List V} {ds : List D} : SqT K H a vs → RVs K H as ds vs → RV K H as (.tup ds) (.ref a)
  | lst {a : Addr} {vs : List V} {ds : List D} : H a = some (.lst vs) → a ∉ as → RVs K H as ds vs → RV K H as (.lst ds) (.ref a)
  | frz {a : Addr} {vs : List V} {ds : List D} : FrzL K H a vs → RVs K H as ds vs → RV K H as (.frz ds) (.ref a)
  | dct {a : Addr} {kvs : List (Key × V)} {ks ds : List D} : H a = some (.dK kvs) → a ∉ as → kvs.map (fun p => kD p.1) = ks → RVs K H as ds (kvs.map (fun p => p.2)) → RV K H as (.dct ks ds) (.ref a)
inductive RVs (K : PySem.W.Frag) (H : Hp) (as : List Addr) : List D → List V → Prop
  | nil : RVs K H as [] []
  | cons {d : D} {v : V} {ds : List D} {vs : List V} : RV K H as d v → RVs K H as ds vs → RVs K H as (d :: ds) (v :: vs)
end

inductive RD (K : PySem.W.Frag) (H : Hp) (as : List Addr) : D → V → Prop
  | val {d : D} {v : V} : RV K H as d v → RD K H as d v
  | loc {n : Nat} {a : Addr} : as[n]? = some a → RD K H as (.loc n) (.ref a)

abbrev RDs (K : PySem.W.Frag) (H : Hp) (as : List Addr) : List D → List V → Prop := Paired (RD K H as)

inductive CellR (K : PySem.W.Frag) (H : Hp) (as : List Addr) : D → Addr → Prop
  | lst {a : Addr} {vs : List V} {ds : List D} : H a = some (.lst vs) → RVs K H as ds vs → CellR K H as (.lst ds) a
  | dct {a : Addr} {kvs : List (Key × V)} {ks ds : List D} : H a = some (.dK kvs) → kvs.map (fun p => kD p.1) = ks → RVs K H as ds (kvs.map (fun p => p.2)) → CellR K H as (.dct ks ds) a

structure HeapR (K : PySem.W.Frag) (H : Hp) (as : List Addr) (h : Hs) : Prop where
  len : as.length = h.length
  nd : as.Nodup
  at_ : ∀ (n : Nat) (d : D) (a : Addr), h[n]? = some d → as[n]? = some a → CellR K H as d a

abbrev EvR (K : PySem.W.Frag) (H : Hp) (as : List Addr) : Ev → L2.St → Prop := Paired fun (od : Option D) (ov : Option V) => ∀ d, od = some d → ∃ v, ov = some v ∧ RD K H as d v

structure StR (K : PySem.W.Frag) (H : Hp) (as : List Addr) (ds : Ev) (h : Hs) (σ : L2.St) : Prop where
  env : EvR K H as ds σ
  heap : HeapR K H as h

/-! ### what stays -/
def isT : HO → Bool
  | .tup _ => true
  | .frz _ _ => true
  | _ => false
/-- all but the cells stays; so do tuples and frozen things -/
def Fr (as : List Addr) (H H' : Hp) : Prop := ∀ a o, H a = some o → (a ∈ as → isT o = true) → H' a = some o
theorem Fr.refl {as : List Addr} {H : Hp} : Fr as H H := fun _ _ h _ => h
theorem Fr.trans {as : List Addr} {H H1 H2 : Hp} (x : Fr as H H1) (y : Fr as H1 H2) : Fr as H H2 := fun a o h c => y a o (x a o h c) c
theorem Fr.of_same {as : List Addr} {H H' : Hp} (x : Same H H') : Fr as H H' := fun a o h _ => x a o h
theorem same_upd {H : Hp} {p : Addr} {o : HO} (h : H p = none) : Same H (upd H p o) := fun a u e => by rw [upd_ne (ne_of_none e h)]; exact e
/-- cells only come, at places that held nothing -/
structure Grow (as : List Addr) (H : Hp) (as' : List Addr) (H' : Hp) : Prop where
  pre : as <+: as'
  new : ∀ a ∈ as', a ∈ as ∨ H a = none
  fr : Fr as H H'
theorem Grow.refl {as : List Addr} {H : Hp} : Grow as H as H := ⟨List.prefix_refl _, fun _ h => .inl h, .refl⟩
theorem Grow.of_fr {as : List Addr} {H H' : Hp} (h : Fr as H H') : Grow as H as H' := ⟨List.prefix_refl _, fun _ h => .inl h, h⟩
theorem Grow.of_same {as : List Addr} {H H' : Hp} (h : Same H H') : Grow as H as H' := .of_fr (.of_same h)
theorem Grow.trans {as as1 as2 : List Addr} {H H1 H2 : Hp} (x : Grow as H as1 H1) (y : Grow as1 H1 as2 H2) : Grow as H as2 H2 := by
  refine ⟨x.pre.trans y.pre, fun a ha => ?_, fun a o h c => ?_⟩
  · rcases y.new a ha with z | z
    · exact x.new a z
    · by_cases hm : a ∈ as
      · exact .inl hm
      · refine .inr ?_
        cases e : H a with
        | none => rfl
        | some o =>
          have := x.fr a o e (fun q => absurd q hm)
          rw [this] at z; cases z
  · refine y.fr a o (x.fr a o h c) fun hm => ?_
    rcases x.new a hm with z | z
    · exact c z
    · rw [h] at z; cases z

section
variable {K : PySem.W.Frag} {H H' : Hp} {as as' : List Addr}
theorem sqT_fr (hf : Fr as H H') {a : Addr} {vs : List V} (h : SqT K H a vs) : SqT K H' a vs := by
  rcases h with (h | ⟨o, h⟩) | h
  · exact .inl (.inl (hf _ _ h fun _ => rfl))
  · exact .inl (.inr ⟨o, hf _ _ h fun _ => rfl⟩)
  · exact .inr h
theorem frzL_fr (hf : Fr as H H') {a : Addr} {vs : List V} (h : FrzL K H a vs) : FrzL K H' a vs := by
  rcases h with ⟨o, h⟩ | h
  · exact .inl ⟨o, hf _ _ h fun _ => rfl⟩
  · exact .inr h
mutual
theorem RV.grow (g : Grow as H as' H') : ∀ {d : D} {v : V}, RV K H as d v → RV K H' as' d v
  | _, _, .non => .non
  | _, _, .bl b => .bl b
  | _, _, .int i => .int i
  | _, _, .str s => .str s
  | _, _, .ty n => .ty n
  | _, _, .tup h r => .tup (sqT_fr g.fr h) (RVs.grow g r)
  | _, _, .lst h n r => .lst (g.fr _ _ h fun z => absurd z n) (fun z => by
      rcases g.new _ z with q | q
      · exact n q
      · rw [h] at q; cases q) (RVs.grow g r)
  | _, _, .frz h r => .frz (frzL_fr g.fr h) (RVs.grow g r)
  | _, _, .dct h n e r => .dct (g.fr _ _ h fun z => absurd z n) (fun z => by
      rcases g.new _ z with q | q
      · exact n q
      · rw [h] at q; cases q) e (RVs.grow g r)
theorem RVs.grow (g : Grow as H as' H') : ∀ {ds : List D} {vs : List V}, RVs K H as ds vs → RVs K H' as' ds vs
  | _, _, .nil => .nil
  | _, _, .cons h t => .cons (RV.grow g h) (RVs.grow g t)
end
theorem pre_get {α : Type} {l l' : List α} (h : l <+: l') {n : Nat} {x : α} (e : l[n]? = some x) : l'[n]? = some x := by
  obtain ⟨t, rfl⟩ := h
  rw [List.getElem?_append_left (List.getElem?_eq_some_iff.mp e).1]
  exact e
theorem RD.grow (g : Grow as H as' H') {d : D} {v : V} (r : RD K H as d v) : RD K H' as' d v := by
  cases r with
  | val r => exact .val (r.grow g)
  | loc e => exact .loc (pre_get g.pre e)
theorem RDs.grow (g : Grow as H as' H') : ∀ {ds : List D} {vs : List V}, RDs K H as ds vs → RDs K H' as' ds vs
  | _, _, .nil => .nil
  | _, _, .cons h t => .cons (RD.grow g h) (RDs.grow g t)
theorem EvR.grow (g : Grow as H as' H') : ∀ {ds : Ev} {σ : L2.St}, EvR K H as ds σ → EvR K H' as' ds σ
  | _, _, .nil => .nil
  | _, _, .cons h t => .cons (fun d e => let ⟨v, e1, r⟩ := h d e; ⟨v, e1, r.grow g⟩) (EvR.grow g t)
theorem RV.same (hs : Same H H') {d : D} {v : V} (r : RV K H as d v) : RV K H' as d v := r.grow (.of_same hs)
theorem RVs.same (hs : Same H H') {d : List D} {v : List V} (r : RVs K H as d v) : RVs K H' as d v := r.grow (.of_same hs)
theorem RV.fr (hf : Fr as H H') {d : D} {v : V} (r : RV K H as d v) : RV K H' as d v := r.grow (.of_fr hf)
theorem RVs.fr (hf : Fr as H H') {d : List D} {v : List V} (r : RVs K H as d v) : RVs K H' as d v := r.grow (.of_fr hf)
theorem RD.fr (hf : Fr as H H') {d : D} {v : V} (r : RD K H as d v) : RD K H' as d v := r.grow (.of_fr hf)
theorem RDs.fr (hf : Fr as H H') {d : List D} {v : List V} (r : RDs K H as d v) : RDs K H' as d v := r.grow (.of_fr hf)
theorem CellR.same (hs : Same H H') {d : D} {a : Addr} (r : CellR K H as d a) : CellR K H' as d a := by
  cases r with
  | lst h r => exact .lst (hs _ _ h) (r.fr (.of_same hs))
  | dct h e r => exact .dct (hs _ _ h) e (r.fr (.of_same hs))
theorem HeapR.same (hs : Same H H') {h : Hs} (r : HeapR K H as h) : HeapR K H' as h := ⟨r.len, r.nd, fun n d a e1 e2 => (r.at_ n d a e1 e2).same hs⟩
theorem CellR.there {d : D} {a : Addr} (r : CellR K H as d a) : ∃ o, H a = some o ∧ isT o = false := by
  cases r with
  | lst h r => exact ⟨_, h, rfl⟩
  | dct h e r => exact ⟨_, h, rfl⟩
theorem HeapR.get {h : Hs} (r : HeapR K H as h) {n : Nat} {a : Addr} (e : as[n]? = some a) : ∃ d, h[n]? = some d ∧ CellR K H as d a := by
  have hl : n < as.length := (List.getElem?_eq_some_iff.mp e).1
  have hl2 : n < h.length := by rw [← r.len]; exact hl
  exact ⟨h[n], List.getElem?_eq_getElem hl2, r.at_ n _ a (List.getElem?_eq_getElem hl2) e⟩
theorem HeapR.there {h : Hs} (r : HeapR K H as h) {a : Addr} (ha : a ∈ as) : ∃ o, H a = some o ∧ isT o = false := by
  obtain ⟨n, hn, e⟩ := List.getElem_of_mem ha
  obtain ⟨d, _, c⟩ := r.get (n := n) (a := a) (by rw [List.getElem?_eq_getElem hn, e])
  exact c.there
theorem HeapR.notin {h : Hs} (r : HeapR K H as h) {p : Addr} (hp : H p = none) : p ∉ as := fun z => by
  obtain ⟨o, e, _⟩ := r.there z
  rw [hp] at e; cases e
theorem StR.same {ds : Ev} {h : Hs} {σ : L2.St} (hs : Same H H') (s : StR K H as ds h σ) : StR K H' as ds h σ := ⟨s.env.grow (.of_fr (.of_same hs)), s.heap.same hs⟩
theorem RVs.length : ∀ {ds : List D} {vs : List V}, RVs K H as ds vs → ds.length = vs.length
  | _, _, .nil => rfl
  | _, _, .cons _ t => by simp [RVs.length t]
theorem RVs.get : ∀ {ds : List D} {vs : List V} {i : Nat} {d : D}, RVs K H as ds vs → ds[i]? = some d → ∃ v, vs[i]? = some v ∧ RV K H as d v
  | _, _, _, _, .nil, e => by simp at e
  | _, _, 0, _, .cons h _, e => by simp at e; subst e; exact ⟨_, rfl, h⟩
  | _, _, i + 1, d, .cons _ t, e => by
    obtain ⟨v, h1, h2⟩ := RVs.get (i := i) (d := d) t (by simpa using e)
    exact ⟨v, by simpa using h1, h2⟩
theorem RVs.get' : ∀ {ds : List D} {vs : List V} {i : Nat} {v : V}, RVs K H as ds vs → vs[i]? = some v → ∃ d, ds[i]? = some d ∧ RV K H as d v
  | _, _, _, _, .nil, e => by simp at e
  | _, _, 0, _, .cons h _, e => by simp at e; subst e; exact ⟨_, rfl, h⟩
  | _, _, i + 1, d, .cons _ t, e => by
    obtain ⟨v, h1, h2⟩ := RVs.get' (i := i) t (by simpa using e)
    exact ⟨v, by simpa using h1, h2⟩
theorem RVs.append : ∀ {ds es : List D} {vs us : List V}, RVs K H as ds vs → RVs K H as es us → RVs K H as (ds ++ es) (vs ++ us)
  | _, _, _, _, .nil, r => r
  | _, _, _, _, .cons h t, r => .cons h (RVs.append t r)
theorem RVs.take : ∀ {ds : List D} {vs : List V} (n : Nat), RVs K H as ds vs → RVs K H as (ds.take n) (vs.take n)
  | _, _, 0, _ => by simp; exact .nil
  | _, _, _ + 1, .nil => .nil
  | _, _, n + 1, .cons h t => .cons h (RVs.take n t)
theorem RVs.drop : ∀ {ds : List D} {vs : List V} (n : Nat), RVs K H as ds vs → RVs K H as (ds.drop n) (vs.drop n)
  | _, _, 0, r => r
  | _, _, _ + 1, .nil => .nil
  | _, _, n + 1, .cons h t => RVs.drop n t
theorem RVs.set {d : D} {v : V} (r : RV K H as d v) : ∀ {ds : List D} {vs : List V} (n : Nat), RVs K H as ds vs → RVs K H as (ds.set n d) (vs.set n v)
  | _, _, _, .nil => .nil
  | _, _, 0, .cons h t => .cons r t
  | _, _, n + 1, .cons h t => .cons h (RVs.set r n t)
end
end DL

set_option Elab.async false
set_option linter.all false
set_option maxRecDepth 100000
set_option maxHeartbeats 4000000
namespace DL
open PySem PySem.Spec PyProof.Rows L2

/-! ### results -/
inductive R (α : Type) where
  | ok (a : α) (h : Hs)
  | ex (c : Str) (p : Option D) (h : Hs)
  | no
def R.bind {α β : Type} (r : R α) (k : α → Hs → R β) : R β := match r with
  | .ok a h => k a h
  | .ex c p h => .ex c p h
  | .no => .no
abbrev M (α : Type) := Ev → Hs → R α
inductive SR where
  | nx (ds : Ev) (h : Hs)
  | rt (d : D) (h : Hs)
  | bk (ds : Ev) (h : Hs)
  | ct (ds : Ev) (h : Hs)
  | ex (c : Str) (p : Option D) (ds : Ev) (h : Hs)
  | no
abbrev SM := Ev → Hs → SR
/-- the field that an error's class keeps -/
def fieldOf (c : Str) : Str :=
  if c = "InvalidNumber" then "given" else if c = "UnknownName" then "asked" else if c = "ParseError" then "spot" else if c = "NothingToUndo" then "wanted" else if c = "TooMany" then "limit" else "reason"
def ExR (K : PySem.W.Frag) (mg : Str → Option Value) (H : Hp) (as : List Addr) (c : Str) (p : Option D) (cls : Value) (dx : Option Addr) : Prop :=
  mg c = some cls ∧ (match p with
    | none => True
    | some d => ∃ a v, dx = some a ∧ H a = some (.xd [(fieldOf c, v)]) ∧ RV K H as d v)

section
variable (K : PySem.W.Frag) (mg : Str → Option Value) (W : WX)
def PostE (as : List Addr) (σ : L2.St) (H : Hp) (r : R D) (Q : VK) : Prop := match r with
  | .ok d h => ∀ v H' as', Grow as H as' H' → RD K H' as' d v → HeapR K H' as' h → Q v H'
  | .ex c p h => ∀ cls dx H' as', Grow as H as' H' → HeapR K H' as' h → ExR K mg H' as' c p cls dx → W cls dx σ H'
  | .no => False
def PostA (as : List Addr) (σ : L2.St) (H : Hp) (r : R (List D)) (Q : List V → Hp → Prop) : Prop := match r with
  | .ok d h => ∀ v H' as', Grow as H as' H' → RDs K H' as' d v → HeapR K H' as' h → Q v H'
  | .ex c p h => ∀ cls dx H' as', Grow as H as' H' → HeapR K H' as' h → ExR K mg H' as' c p cls dx → W cls dx σ H'
  | .no => False
def PostT (as : List Addr) (σ : L2.St) (H : Hp) (r : R Bool) (Q : Bool → Hp → Prop) : Prop := match r with
  | .ok b h => ∀ H' as', Grow as H as' H' → HeapR K H' as' h → Q b H'
  | .ex c p h => ∀ cls dx H' as', Grow as H as' H' → HeapR K H' as' h → ExR K mg H' as' c p cls dx → W cls dx σ H'
  | .no => False
def teM (m : M D) : TE := fun σ H Q => ∃ as ds h, StR K H as ds h σ ∧ PostE K mg W as σ H (m ds h) Q
def taM (m : M (List D)) : TA := fun σ H Q => ∃ as ds h, StR K H as ds h σ ∧ PostA K mg W as σ H (m ds h) Q
def ttM (m : M Bool) : TT := fun σ H Q => ∃ as ds h, StR K H as ds h σ ∧ PostT K mg W as σ H (m ds h) Q
def PostS (as : List Addr) (H : Hp) (r : SR) (E : Ends) : Prop := match r with
  | .nx ds h => ∀ σ' H' as', Grow as H as' H' → StR K H' as' ds h σ' → E.nx σ' H'
  | .rt d h => ∀ v H' as', Grow as H as' H' → RD K H' as' d v → HeapR K H' as' h → E.rt v H'
  | .bk ds h => ∀ σ' H' as', Grow as H as' H' → StR K H' as' ds h σ' → E.bk σ' H'
  | .ct ds h => ∀ σ' H' as', Grow as H as' H' → StR K H' as' ds h σ' → E.ct σ' H'
  | .ex c p ds h => ∀ σ' cls dx H' as', Grow as H as' H' → StR K H' as' ds h σ' → ExR K mg H' as' c p cls dx → W cls dx σ' H'
  | .no => False
def tsM (m : SM) : TS := fun E σ H => ∃ as ds h, StR K H as ds h σ ∧ PostS K mg W as H (m ds h) E
end
section
variable {K : PySem.W.Frag} {mg : Str → Option Value} {W : WX} {as as' : List Addr} {σ : L2.St} {H H' : Hp}
theorem PostE.grow {r : R D} {Q : VK} (f : Grow as H as' H') (p : PostE K mg W as σ H r Q) : PostE K mg W as' σ H' r Q := by
  cases r with
  | ok d h => exact fun v H2 as2 f2 => p v H2 as2 (f.trans f2)
  | ex c q h => exact fun cls dx H2 as2 f2 => p cls dx H2 as2 (f.trans f2)
  | no => exact p
theorem PostA.grow {r : R (List D)} {Q : List V → Hp → Prop} (f : Grow as H as' H') (p : PostA K mg W as σ H r Q) : PostA K mg W as' σ H' r Q := by
  cases r with
  | ok d h => exact fun v H2 as2 f2 => p v H2 as2 (f.trans f2)
  | ex c q h => exact fun cls dx H2 as2 f2 => p cls dx H2 as2 (f.trans f2)
  | no => exact p
theorem PostT.grow {r : R Bool} {Q : Bool → Hp → Prop} (f : Grow as H as' H') (p : PostT K mg W as σ H r Q) : PostT K mg W as' σ H' r Q := by
  cases r with
  | ok d h => exact fun H2 as2 f2 => p H2 as2 (f.trans f2)
  | ex c q h => exact fun cls dx H2 as2 f2 => p cls dx H2 as2 (f.trans f2)
  | no => exact p
theorem PostS.grow {r : SR} {E : Ends} (g : Grow as H as' H') (p : PostS K mg W as H r E) : PostS K mg W as' H' r E := by
  cases r with
  | nx ds h => exact fun σ2 H2 as2 g2 => p σ2 H2 as2 (g.trans g2)
  | rt d h => exact fun σ2 H2 as2 g2 => p σ2 H2 as2 (g.trans g2)
  | bk ds h => exact fun σ2 H2 as2 g2 => p σ2 H2 as2 (g.trans g2)
  | ct ds h => exact fun σ2 H2 as2 g2 => p σ2 H2 as2 (g.trans g2)
  | ex c q ds h => exact fun σ2 cls dx H2 as2 g2 => p σ2 cls dx H2 as2 (g.trans g2)
  | no => exact p
/-- an expression first, then more: for an expression -/
theorem PostE.bindE {r : R D} {k : D → Hs → R D} {Q Q' : VK} (p : PostE K mg W as σ H (r.bind k) Q)
    (n : ∀ d h v H1 as1, Grow as H as1 H1 → RD K H1 as1 d v → HeapR K H1 as1 h → PostE K mg W as1 σ H1 (k d h) Q → Q' v H1) : PostE K mg W as σ H r Q' := by
  cases r with
  | ok d h => exact fun v H1 as1 f r1 hr => n d h v H1 as1 f r1 hr (PostE.grow f p)
  | ex c q h => exact p
  | no => exact p
theorem PostE.bindA {r : R (List D)} {k : List D → Hs → R D} {Q : VK} {Q' : List V → Hp → Prop} (p : PostE K mg W as σ H (r.bind k) Q)
    (n : ∀ d h v H1 as1, Grow as H as1 H1 → RDs K H1 as1 d v → HeapR K H1 as1 h → PostE K mg W as1 σ H1 (k d h) Q → Q' v H1) : PostA K mg W as σ H r Q' := by
  cases r with
  | ok d h => exact fun v H1 as1 f r1 hr => n d h v H1 as1 f r1 hr (PostE.grow f p)
  | ex c q h => exact p
  | no => exact p
theorem PostE.bindT {r : R Bool} {k : Bool → Hs → R D} {Q : VK} {Q' : Bool → Hp → Prop} (p : PostE K mg W as σ H (r.bind k) Q)
    (n : ∀ b h H1 as1, Grow as H as1 H1 → HeapR K H1 as1 h → PostE K mg W as1 σ H1 (k b h) Q → Q' b H1) : PostT K mg W as σ H r Q' := by
  cases r with
  | ok d h => exact fun H1 as1 f hr => n d h H1 as1 f hr (PostE.grow f p)
  | ex c q h => exact p
  | no => exact p
theorem PostT.bindE {r : R D} {k : D → Hs → R Bool} {Q : Bool → Hp → Prop} {Q' : VK} (p : PostT K mg W as σ H (r.bind k) Q)
    (n : ∀ d h v H1 as1, Grow as H as1 H1 → RD K H1 as1 d v → HeapR K H1 as1 h → PostT K mg W as1 σ H1 (k d h) Q → Q' v H1) : PostE K mg W as σ H r Q' := by
  cases r with
  | ok d h => exact fun v H1 as1 f r1 hr => n d h v H1 as1 f r1 hr (PostT.grow f p)
  | ex c q h => exact p
  | no => exact p
theorem PostT.bindT {r : R Bool} {k : Bool → Hs → R Bool} {Q Q' : Bool → Hp → Prop} (p : PostT K mg W as σ H (r.bind k) Q)
    (n : ∀ b h H1 as1, Grow as H as1 H1 → HeapR K H1 as1 h → PostT K mg W as1 σ H1 (k b h) Q → Q' b H1) : PostT K mg W as σ H r Q' := by
  cases r with
  | ok d h => exact fun H1 as1 f hr => n d h H1 as1 f hr (PostT.grow f p)
  | ex c q h => exact p
  | no => exact p
theorem PostA.bindE {r : R D} {k : D → Hs → R (List D)} {Q : List V → Hp → Prop} {Q' : VK} (p : PostA K mg W as σ H (r.bind k) Q)
    (n : ∀ d h v H1 as1, Grow as H as1 H1 → RD K H1 as1 d v → HeapR K H1 as1 h → PostA K mg W as1 σ H1 (k d h) Q → Q' v H1) : PostE K mg W as σ H r Q' := by
  cases r with
  | ok d h => exact fun v H1 as1 f r1 hr => n d h v H1 as1 f r1 hr (PostA.grow f p)
  | ex c q h => exact p
  | no => exact p
theorem PostA.bindA {r : R (List D)} {k : List D → Hs → R (List D)} {Q Q' : List V → Hp → Prop} (p : PostA K mg W as σ H (r.bind k) Q)
    (n : ∀ d h v H1 as1, Grow as H as1 H1 → RDs K H1 as1 d v → HeapR K H1 as1 h → PostA K mg W as1 σ H1 (k d h) Q → Q' v H1) : PostA K mg W as σ H r Q' := by
  cases r with
  | ok d h => exact fun v H1 as1 f r1 hr => n d h v H1 as1 f r1 hr (PostA.grow f p)
  | ex c q h => exact p
  | no => exact p
end

/-! ### the judgements -/
abbrev DE (X : Cx) (W : WX) (e : Expr) (m : M D) : Prop := PE X e (teM X.K X.mg W m)
abbrev DT (X : Cx) (W : WX) (e : Expr) (m : M Bool) : Prop := PT X e (ttM X.K X.mg W m)
abbrev DW (X : Cx) (W : WX) (e : Expr) (m : M Bool) : Prop := PW X e (ttM X.K X.mg W m)
abbrev DA (X : Cx) (W : WX) (es : List Expr) (m : M (List D)) : Prop := PA X es (taM X.K X.mg W m)
abbrev DS (X : Cx) (W : WX) (st : Stmt) (m : SM) : Prop := PS X st (tsM X.K X.mg W m)
abbrev DSs (X : Cx) (W : WX) (sts : List Stmt) (m : SM) : Prop := PSs X sts (tsM X.K X.mg W m)
section
variable {X : Cx} {W : WX} {e : Expr} {es : List Expr} {st : Stmt} {sts : List Stmt}
theorem PE.imp {t t' : TE} (p : PE X e t) (h : ∀ σ H Q, t' σ H Q → t σ H Q) : PE X e t' := ⟨fun pins s σ H Q I q => p.run pins s σ H Q I (h σ H Q q)⟩
theorem PT.imp {t t' : TT} (p : PT X e t) (h : ∀ σ H Q, t' σ H Q → t σ H Q) : PT X e t' := ⟨fun pins s σ H Q I q => p.run pins s σ H Q I (h σ H Q q)⟩
theorem PW.imp {t t' : TT} (p : PW X e t) (h : ∀ σ H Q, t' σ H Q → t σ H Q) : PW X e t' := ⟨fun wh pins s σ H Q I q => p.run wh pins s σ H Q I (h σ H Q q)⟩
theorem PA.imp {t t' : TA} (p : PA X es t) (h : ∀ σ H Q, t' σ H Q → t σ H Q) : PA X es t' := ⟨fun pos pins s σ H Q I q => p.run pos pins s σ H Q I (h σ H Q q)⟩
theorem PS.imp {t t' : TS} (p : PS X st t) (h : ∀ D σ H, t' D σ H → t D σ H) : PS X st t' := ⟨fun pins s σ H Q I q => p.run pins s σ H Q I (h Q σ H q)⟩
theorem PSs.imp {t t' : TS} (p : PSs X sts t) (h : ∀ D σ H, t' D σ H → t D σ H) : PSs X sts t' := ⟨fun pins s σ H Q I q => p.run pins s σ H Q I (h Q σ H q)⟩
end

/-! ### names, constants -/
def mVar (i : Nat) : M D := fun ds h => match ds[i]? with
  | some (some d) => .ok d h
  | _ => .no
def mC (d : D) : M D := fun _ h => .ok d h
section
variable {X : Cx} {W : WX} {pos : Pos} {a b c : Expr} {ma mb mc : M D}
theorem EvR.get {K : PySem.W.Frag} {H : Hp} {as : List Addr} : ∀ {ds : Ev} {σ : L2.St} {i : Nat} {d : D}, EvR K H as ds σ → ds[i]? = some (some d) → ∃ v, σ[i]? = some (some v) ∧ RD K H as d v
  | _, _, _, _, .nil, e => by simp at e
  | _, _, 0, d, .cons h _, e => by
    simp at e
    obtain ⟨v, e1, r⟩ := h d e
    exact ⟨v, by simp [e1], r⟩
  | _, _, i + 1, d, .cons _ t, e => by
    obtain ⟨v, h1, h2⟩ := EvR.get (i := i) (d := d) t (by simpa using e)
    exact ⟨v, by simpa using h1, h2⟩
theorem de_var (i : Nat) {x : Str} (hN : X.N[i]? = some x := by rfl) (hv : Vis X.env.scope x := by first | exact Or.inl rfl | exact Or.inr (Or.inl rfl) | exact Or.inr (Or.inr rfl)) (hd : (x == ("__debug__" : Str)) = false := by decide)
    (hcd : (x == ("__classdict__" : Str)) = false := by decide) : DE X W (.Name x pos) (mVar i) := by
  refine PE.imp (pe_var hN hv hd hcd) fun σ H Q ⟨as, ds, h, s, p⟩ => ?_
  unfold mVar at p
  split at p
  · rename_i d e
    obtain ⟨v, e1, r⟩ := s.env.get e
    exact ⟨v, e1, p v H as .refl r s.heap⟩
  · exact p.elim
theorem de_c {d : D} {v : V} (h : PE X e (tC v)) (r : ∀ K H as, RV K H as d v) : DE X W e (mC d) :=
  PE.imp h fun σ H Q ⟨as, ds, h, s, p⟩ => p v H as .refl (.val (r _ _ _)) s.heap
theorem de_int {i : Int} {j : Nat} : DE X W (.Constant (.int i) j pos) (mC (.int i)) := de_c pe_int fun _ _ _ => .int i
theorem de_bl {i : Bool} {j : Nat} : DE X W (.Constant (.bool i) j pos) (mC (.bl i)) := de_c pe_bl fun _ _ _ => .bl i
theorem de_non {j : Nat} : DE X W (.Constant .none j pos) (mC .non) := de_c pe_non fun _ _ _ => .non
theorem de_str {x : Str} {j : Nat} : DE X W (.Constant (.str x) j pos) (mC (.str x)) := de_c pe_str fun _ _ _ => .str x
/-- a number of the module -/
theorem de_gint {x : Str} {i : Int} (hm : ∃ t, X.mg x = some (.int i t)) (hg : Gl X x := by rfl) (hd : (x == ("__debug__" : Str)) = false := by decide) : DE X W (.Name x pos) (mC (.int i)) := by
  obtain ⟨t, hm⟩ := hm
  exact de_c (pe_glob hg hm (v := .int i) ⟨t, rfl⟩ hd) fun _ _ _ => .int i
/-- a tuple of the module -/
theorem de_gtup {x : Str} {a : Addr} {vs : List V} {ds : List D} (hm : X.mg x = some (.ref a)) (hk : ∀ H, SqT X.K H a vs) (hr : ∀ H as, RVs X.K H as ds vs) (hg : Gl X x := by rfl) (hd : (x == ("__debug__" : Str)) = false := by decide) : DE X W (.Name x pos) (mC (.tup ds)) :=
  PE.imp (pe_glob hg hm (v := .ref a) rfl hd) fun σ H Q ⟨as, ds, h, s, p⟩ => p (.ref a) H as .refl (.val (.tup (hk H) (hr H as))) s.heap
end

/-! ### reading a value: cells by what they hold -/
def rd (h : Hs) : D → D
  | .loc n => h.getD n .non
  | d => d
/-- a value as it is read -/
inductive RT (K : PySem.W.Frag) (H : Hp) (as : List Addr) : D → V → Prop
  | val {d : D} {v : V} : RV K H as d v → RT K H as d v
  | cell {d : D} {a : Addr} : CellR K H as d a → RT K H as d (.ref a)
theorem RD.rt {K : PySem.W.Frag} {H : Hp} {as : List Addr} {h : Hs} {d : D} {v : V} (r : RD K H as d v) (s : HeapR K H as h) : RT K H as (rd h d) v := by
  cases r with
  | val r =>
    cases r with
    | non => exact .val .non
    | bl b => exact .val (.bl b)
    | int i => exact .val (.int i)
    | str x => exact .val (.str x)
    | ty n => exact .val (.ty n)
    | tup a b => exact .val (.tup a b)
    | lst a b c => exact .val (.lst a b c)
    | frz a b => exact .val (.frz a b)
    | dct a b c d => exact .val (.dct a b c d)
  | @loc n a e =>
    obtain ⟨d, e1, c⟩ := s.get e
    have : rd h (.loc n) = d := by
      show h.getD n .non = d
      rw [List.getD_eq_getElem?_getD, e1]
      rfl
    rw [this]
    exact .cell c
/-- the items of a list or a tuple -/
theorem RT.seq {K : PySem.W.Frag} {H : Hp} {as : List Addr} {d : D} {v : V} (r : RT K H as d v) {ds : List D} (e : d = .lst ds ∨ d = .tup ds ∨ d = .frz ds) : ∃ a vs, v = .ref a ∧ RVs K H as ds vs ∧ (SqL K H a vs ∨ SqT K H a vs) := by
  cases r with
  | val r =>
    cases r with
    | tup h r => rcases e with e | e | e <;> cases e; exact ⟨_, _, rfl, r, .inr h⟩
    | lst h n r => rcases e with e | e | e <;> cases e; exact ⟨_, _, rfl, r, .inl (SqL.of h)⟩
    | frz h r => rcases e with e | e | e <;> cases e; exact ⟨_, _, rfl, r, .inl h.sq⟩
    | _ => rcases e with e | e | e <;> cases e
  | cell r =>
    cases r with
    | lst h r => rcases e with e | e | e <;> cases e; exact ⟨_, _, rfl, r, .inl (SqL.of h)⟩
    | dct _ _ _ => rcases e with e | e | e <;> cases e
theorem RT.lst {K : PySem.W.Frag} {H : Hp} {as : List Addr} {v : V} {ds : List D} (r : RT K H as (.lst ds) v) : ∃ a vs, v = .ref a ∧ RVs K H as ds vs ∧ H a = some (.lst vs) := by
  cases r with
  | val r => cases r with
    | lst h n r => exact ⟨_, _, rfl, r, h⟩
  | cell r => cases r with
    | lst h r => exact ⟨_, _, rfl, r, h⟩
theorem RT.frz {K : PySem.W.Frag} {H : Hp} {as : List Addr} {v : V} {ds : List D} (r : RT K H as (.frz ds) v) : ∃ a vs, v = .ref a ∧ RVs K H as ds vs ∧ SqL K H a vs := by
  cases r with
  | val r => cases r with
    | frz h r => exact ⟨_, _, rfl, r, h.sq⟩
  | cell r => cases r
theorem RT.tup {K : PySem.W.Frag} {H : Hp} {as : List Addr} {v : V} {ds : List D} (r : RT K H as (.tup ds) v) : ∃ a vs, v = .ref a ∧ RVs K H as ds vs ∧ SqT K H a vs := by
  cases r with
  | val r => cases r with
    | tup h r => exact ⟨_, _, rfl, r, h⟩
  | cell r => cases r
theorem RT.int {K : PySem.W.Frag} {H : Hp} {as : List Addr} {v : V} {i : Int} (r : RT K H as (.int i) v) : v = .int i := by
  cases r with
  | val r => cases r; rfl
  | cell r => cases r
theorem RT.bl {K : PySem.W.Frag} {H : Hp} {as : List Addr} {v : V} {i : Bool} (r : RT K H as (.bl i) v) : v = .bl i := by
  cases r with
  | val r => cases r; rfl
  | cell r => cases r
theorem RT.str {K : PySem.W.Frag} {H : Hp} {as : List Addr} {v : V} {i : Str} (r : RT K H as (.str i) v) : v = .str i := by
  cases r with
  | val r => cases r; rfl
  | cell r => cases r
theorem RT.non {K : PySem.W.Frag} {H : Hp} {as : List Addr} {v : V} (r : RT K H as .non v) : v = .non := by
  cases r with
  | val r => cases r; rfl
  | cell r => cases r
theorem RT.ty {K : PySem.W.Frag} {H : Hp} {as : List Addr} {v : V} {n : String} (r : RT K H as (.ty n) v) : v = .ty n := by
  cases r with
  | val r => cases r; rfl
  | cell r => cases r

/-! ### operators by values -/
/-- f tells what the reading r gives -/
def OpS (K : PySem.W.Frag) (f : D → D → Option D) (r : R2) : Prop := ∀ (as : List Addr) (H : Hp) (x y z : D) (v u : V) (Q : VK), (∀ p, H p = none → p ∉ as) → f x y = some z → RT K H as x v → RT K H as y u →
  (∀ w H', Same H H' → RV K H' as z w → Q w H') → r v u H Q
def mBin (f : D → D → Option D) (ma mb : M D) : M D := fun ds h => (ma ds h).bind fun x h1 => (mb ds h1).bind fun y h2 => match f (rd h2 x) (rd h2 y) with
  | some z => .ok z h2
  | none => .no
theorem OpS.or1 {K : PySem.W.Frag} {f : D → D → Option D} {r r' : R2} (h : OpS K f r) : OpS K f (fun x y H Q => r x y H Q ∨ r' x y H Q) := fun as H x y z v u Q n e r1 r2 k => .inl (h as H x y z v u Q n e r1 r2 k)
section
variable {X : Cx} {W : WX} {pos : Pos} {a b c : Expr} {ma mb mc : M D}
theorem op_of_post {f : D → D → Option D} {r : R2} (hs : OpS X.K f r) {σ : L2.St} {H : Hp} {Q : VK} (q : teM X.K X.mg W (mBin f ma mb) σ H Q) : tOp r (teM X.K X.mg W ma) (teM X.K X.mg W mb) σ H Q := by
  obtain ⟨as, ds, h, s, p⟩ := q
  refine ⟨as, ds, h, s, PostE.bindE p fun x h1 v H1 as1 f1 r1 hr1 p1 => ?_⟩
  refine ⟨as1, ds, h1, ⟨s.env.grow f1, hr1⟩, PostE.bindE p1 fun y h2 u H2 as2 f2 r2 hr2 p2 => ?_⟩
  cases e : f (rd h2 x) (rd h2 y) with
  | none => rw [e] at p2; exact p2.elim
  | some z =>
    rw [e] at p2
    exact hs as2 H2 _ _ z v u Q (fun p hp => hr2.notin hp) e ((r1.grow f2).rt hr2) (r2.rt hr2) fun w H' sm rw => p2 w H' as2 (.of_same sm) (.val rw) (hr2.same sm)
theorem de_bin {op : Operator} {f : D → D → Option D} {r : R2} (ho : OpR X (binaryOp op) r) (hs : OpS X.K f r) (ha : DE X W a ma) (hb : DE X W b mb) : DE X W (.BinOp a op b pos) (mBin f ma mb) :=
  PE.imp (pe_op ho ha hb) fun σ H Q q => op_of_post hs q
theorem de_cmp {op : CmpOp} {f : D → D → Option D} {r : R2} (ho : OpR X (compareOp op) r) (hs : OpS X.K f r) (hm : behindInMarks op b = false) (ha : DE X W a ma) (hb : DE X W b mb) : DE X W (.Compare a [op] [b] pos) (mBin f ma mb) :=
  PE.imp (pe_cmpR ho ha hb hm) fun σ H Q q => op_of_post hs q
end
end DL

set_option Elab.async false
set_option linter.all false
set_option maxRecDepth 100000
set_option maxHeartbeats 4000000
namespace DL
open PySem PySem.Spec PyProof.Rows L2

/-! ### truth -/
def truD : D → Option Bool
  | .non => some false
  | .bl b => some b
  | .int i => some (i != 0)
  | .str s => if s.length ≤ 16777216 then some ((s.length : Int) != 0) else none
  | .tup l => some (!l.isEmpty)
  | .lst l => some (!l.isEmpty)
  | .frz l => some (!l.isEmpty)
  | .dct ks _ => some (!ks.isEmpty)
  | _ => none
theorem RVs.isEmpty {K : PySem.W.Frag} {H : Hp} {as : List Addr} {ds : List D} {vs : List V} (r : RVs K H as ds vs) : ds.isEmpty = vs.isEmpty := by
  cases r <;> rfl
theorem truD_ok {K : PySem.W.Frag} {H : Hp} {as : List Addr} {d : D} {v : V} {b : Bool} (e : truD d = some b) (r : RT K H as d v) : TruV K v H b := by
  cases d with
  | non => cases r.non; cases e; exact rfl
  | bl b' => cases r.bl; cases e; exact rfl
  | int i => cases r.int; cases e; exact rfl
  | str s =>
    cases r.str
    by_cases hs : s.length ≤ 16777216
    · rw [truD, if_pos hs] at e; cases e
      exact ⟨by rw [sizeLine_eq]; exact hs, rfl⟩
    · rw [truD, if_neg hs] at e; cases e
  | ty n => cases e
  | tup l =>
    cases e
    obtain ⟨a, vs, rfl, r, h⟩ := r.tup
    exact .inr (.inl ⟨vs, h, by rw [r.isEmpty]⟩)
  | lst l =>
    cases e
    obtain ⟨a, vs, rfl, r, h⟩ := r.lst
    exact .inl ⟨vs, SqL.of h, by rw [r.isEmpty]⟩
  | frz l =>
    cases e
    obtain ⟨a, vs, rfl, r, h⟩ := r.frz
    exact .inl ⟨vs, h, by rw [r.isEmpty]⟩
  | dct ks ds =>
    cases e
    cases r with
    | val r => cases r with
      | dct h n e r => exact .inr (.inr ⟨_, h, by rw [← e]; simp⟩)
    | cell r => cases r with
      | dct h e r => exact .inr (.inr ⟨_, h, by rw [← e]; simp⟩)
  | loc n => cases e
def mTru (ma : M D) : M Bool := fun ds h => (ma ds h).bind fun x h1 => match truD (rd h1 x) with
  | some b => .ok b h1
  | none => .no
def mNotT (ma : M Bool) : M Bool := fun ds h => (ma ds h).bind fun b h1 => .ok (!b) h1
def mAndT (ma mb : M Bool) : M Bool := fun ds h => (ma ds h).bind fun b h1 => if b then mb ds h1 else .ok false h1
def mOrT (ma mb : M Bool) : M Bool := fun ds h => (ma ds h).bind fun b h1 => if b then .ok true h1 else mb ds h1
/-- a test as a value: where all that stands in it is a bool -/
def mOfT (ma : M Bool) : M D := fun ds h => (ma ds h).bind fun b h1 => .ok (.bl b) h1
def mIf (mc : M Bool) (ma mb : M D) : M D := fun ds h => (mc ds h).bind fun b h1 => if b then ma ds h1 else mb ds h1
def isBl : D → Option Bool
  | .bl b => some b
  | _ => none
/-- a value that is a bool, as a test -/
def mTB (ma : M D) : M Bool := fun ds h => (ma ds h).bind fun x h1 => match isBl x with
  | some b => .ok b h1
  | none => .no
def mAndV (ma mb : M D) : M D := fun ds h => (ma ds h).bind fun x h1 => match truD (rd h1 x) with
  | some b => if b then mb ds h1 else .ok x h1
  | none => .no
def mOrV (ma mb : M D) : M D := fun ds h => (ma ds h).bind fun x h1 => match truD (rd h1 x) with
  | some b => if b then .ok x h1 else mb ds h1
  | none => .no
def mNotV (ma : M D) : M D := fun ds h => (ma ds h).bind fun x h1 => match truD (rd h1 x) with
  | some b => .ok (.bl (!b)) h1
  | none => .no
section
variable {X : Cx} {W : WX} {pos : Pos} {a b c : Expr} {rest : List Expr} {ma mb mc : M D} {ta tb tc : M Bool}
theorem isBl_ok {K : PySem.W.Frag} {H : Hp} {as : List Addr} {d : D} {v : V} {b : Bool} (e : isBl d = some b) (r : RD K H as d v) : v = .bl b := by
  cases r with
  | val r => cases r <;> cases e; rfl
  | loc _ => cases e
theorem dt_cmp {op : CmpOp} {f : D → D → Option D} {r : R2} (ho : OpR X (compareOp op) r) (hs : OpS X.K f r) (hm : behindInMarks op b = false) (ha : DE X W a ma) (hb : DE X W b mb) : DT X W (.Compare a [op] [b] pos) (mTB (mBin f ma mb)) := by
  refine PT.imp (pt_cmpR ho ha hb hm) fun σ H Q ⟨as, ds, h, s, p⟩ => ?_
  show tOp r (teM X.K X.mg W ma) (teM X.K X.mg W mb) σ H _
  refine op_of_post hs ⟨as, ds, h, s, PostT.bindE p fun x h1 v H1 as1 f1 r1 hr1 p1 => ?_⟩
  cases e : isBl x with
  | none => rw [e] at p1; exact p1.elim
  | some k =>
    rw [e] at p1
    exact ⟨k, isBl_ok e r1, p1 H1 as1 .refl hr1⟩
/-- any value's truth, as a test -/
theorem dt_tru (ha : DE X W a ma) (he : ∀ whole, isTrue a X.env whole = (do let v ← whole; standAt a.pos; holding [v] (truthy v)) := by intro _; rfl) : DT X W a (mTru ma) := by
  refine PT.imp (pt_truth ha he) fun σ H Q ⟨as, ds, h, s, p⟩ => ?_
  refine ⟨as, ds, h, s, PostT.bindE p fun x h1 v H1 as1 f1 r1 hr1 p1 => ?_⟩
  cases e : truD (rd h1 x) with
  | none => rw [e] at p1; exact p1.elim
  | some k =>
    rw [e] at p1
    exact ⟨k, truD_ok e (r1.rt hr1), p1 H1 as1 .refl hr1⟩
theorem dt_not (ha : DT X W a ta) : DT X W (.UnaryOp .Not a pos) (mNotT ta) :=
  PT.imp (pt_not ha) fun σ H Q ⟨as, ds, h, s, p⟩ => ⟨as, ds, h, s, PostT.bindT p fun b h1 H1 as1 f1 hr1 p1 => p1 H1 as1 .refl hr1⟩
theorem dw_and1 (ha : DT X W a ta) : DW X W (.BoolOp .And [a] pos) ta := pw_and1 ha
theorem dw_or1 (ha : DT X W a ta) : DW X W (.BoolOp .Or [a] pos) ta := pw_or1 ha
theorem dw_and (ha : DT X W a ta) (hb : DW X W (.BoolOp .And (b :: rest) pos) tb) : DW X W (.BoolOp .And (a :: b :: rest) pos) (mAndT ta tb) :=
  PW.imp (pw_and ha hb) fun σ H Q ⟨as, ds, h, s, p⟩ => ⟨as, ds, h, s, PostT.bindT p fun b h1 H1 as1 f1 hr1 p1 => by
    cases b with
    | true => exact ⟨as1, ds, h1, ⟨s.env.grow f1, hr1⟩, p1⟩
    | false => exact p1 H1 as1 .refl hr1⟩
theorem dw_or (ha : DT X W a ta) (hb : DW X W (.BoolOp .Or (b :: rest) pos) tb) : DW X W (.BoolOp .Or (a :: b :: rest) pos) (mOrT ta tb) :=
  PW.imp (pw_or ha hb) fun σ H Q ⟨as, ds, h, s, p⟩ => ⟨as, ds, h, s, PostT.bindT p fun b h1 H1 as1 f1 hr1 p1 => by
    cases b with
    | true => exact p1 H1 as1 .refl hr1
    | false => exact ⟨as1, ds, h1, ⟨s.env.grow f1, hr1⟩, p1⟩⟩
theorem dt_w (h : DW X W a ta) : DT X W a ta := h.pt
theorem de_if (hc : DT X W c tc) (ha : DE X W a ma) (hb : DE X W b mb) : DE X W (.IfExp c a b pos) (mIf tc ma mb) :=
  PE.imp (pe_ifExp hc ha hb) fun σ H Q ⟨as, ds, h, s, p⟩ => ⟨as, ds, h, s, PostE.bindT p fun b h1 H1 as1 f1 hr1 p1 => by
    cases b with
    | true => exact ⟨as1, ds, h1, ⟨s.env.grow f1, hr1⟩, p1⟩
    | false => exact ⟨as1, ds, h1, ⟨s.env.grow f1, hr1⟩, p1⟩⟩
theorem de_one {op : BoolOp} (ha : DE X W a ma) : DE X W (.BoolOp op [a] pos) ma := pe_one ha
theorem de_and (ha : DE X W a ma) (hb : DE X W (.BoolOp .And (b :: rest) pos) mb) : DE X W (.BoolOp .And (a :: b :: rest) pos) (mAndV ma mb) :=
  PE.imp (pe_andT ha hb) fun σ H Q ⟨as, ds, h, s, p⟩ => ⟨as, ds, h, s, PostE.bindE p fun x h1 v H1 as1 f1 r1 hr1 p1 => by
    cases e : truD (rd h1 x) with
    | none => rw [e] at p1; exact p1.elim
    | some k =>
      rw [e] at p1
      refine ⟨k, truD_ok e (r1.rt hr1), ?_⟩
      cases k with
      | true => exact ⟨as1, ds, h1, ⟨s.env.grow f1, hr1⟩, p1⟩
      | false => exact p1 v H1 as1 .refl r1 hr1⟩
theorem de_or (ha : DE X W a ma) (hb : DE X W (.BoolOp .Or (b :: rest) pos) mb) : DE X W (.BoolOp .Or (a :: b :: rest) pos) (mOrV ma mb) :=
  PE.imp (pe_orT ha hb) fun σ H Q ⟨as, ds, h, s, p⟩ => ⟨as, ds, h, s, PostE.bindE p fun x h1 v H1 as1 f1 r1 hr1 p1 => by
    cases e : truD (rd h1 x) with
    | none => rw [e] at p1; exact p1.elim
    | some k =>
      rw [e] at p1
      refine ⟨k, truD_ok e (r1.rt hr1), ?_⟩
      cases k with
      | true => exact p1 v H1 as1 .refl r1 hr1
      | false => exact ⟨as1, ds, h1, ⟨s.env.grow f1, hr1⟩, p1⟩⟩
theorem de_not (ha : DE X W a ma) : DE X W (.UnaryOp .Not a pos) (mNotV ma) :=
  PE.imp (pe_notT ha) fun σ H Q ⟨as, ds, h, s, p⟩ => ⟨as, ds, h, s, PostE.bindE p fun x h1 v H1 as1 f1 r1 hr1 p1 => by
    cases e : truD (rd h1 x) with
    | none => rw [e] at p1; exact p1.elim
    | some k =>
      rw [e] at p1
      exact ⟨k, truD_ok e (r1.rt hr1), p1 (.bl (!k)) H1 as1 .refl (.val (.bl _)) hr1⟩⟩
end

/-! ### arguments, tuples, lists -/
def mNil : M (List D) := fun _ h => .ok [] h
def mCons (ma : M D) (mr : M (List D)) : M (List D) := fun ds h => (ma ds h).bind fun x h1 => (mr ds h1).bind fun xs h2 => .ok (x :: xs) h2
def isLoc : D → Bool
  | .loc _ => true
  | _ => false
def mTup (ma : M (List D)) : M D := fun ds h => (ma ds h).bind fun xs h1 => if xs.length ≤ 16777216 ∧ xs.any isLoc = false then .ok (.tup xs) h1 else .no
def mLst (ma : M (List D)) : M D := fun ds h => (ma ds h).bind fun xs h1 => if xs.length ≤ 16777216 ∧ xs.any isLoc = false then .ok (.lst xs) h1 else .no
theorem RD.rv {K : PySem.W.Frag} {H : Hp} {as : List Addr} {d : D} {v : V} (r : RD K H as d v) (n : isLoc d = false) : RV K H as d v := by
  cases r with
  | val r => exact r
  | loc _ => cases n
theorem RDs.rvs {K : PySem.W.Frag} {H : Hp} {as : List Addr} : ∀ {ds : List D} {vs : List V}, RDs K H as ds vs → ds.any isLoc = false → RVs K H as ds vs
  | _, _, .nil, _ => .nil
  | _, _, .cons h t, n => by
    simp only [List.any_cons, Bool.or_eq_false_iff] at n
    exact .cons (h.rv n.1) (RDs.rvs t n.2)
theorem RDs.length {K : PySem.W.Frag} {H : Hp} {as : List Addr} {ds : List D} {vs : List V} (r : RDs K H as ds vs) : ds.length = vs.length := Paired.length r
theorem RVs.rds {K : PySem.W.Frag} {H : Hp} {as : List Addr} : ∀ {ds : List D} {vs : List V}, RVs K H as ds vs → RDs K H as ds vs
  | _, _, .nil => .nil
  | _, _, .cons h t => .cons (.val h) (RVs.rds t)
section
variable {X : Cx} {W : WX} {pos : Pos} {a b c e : Expr} {es : List Expr} {ma mb mc : M D} {me : M (List D)}
theorem da_nil : DA X W [] mNil := PA.imp pa_nil fun σ H Q ⟨as, ds, h, s, p⟩ => p [] H as .refl .nil s.heap
theorem da_cons (ha : DE X W e ma) (hr : DA X W es me) (hs : starEach (e :: es) X.env = (false, eval e X.env) :: starEach es X.env := by rfl) : DA X W (e :: es) (mCons ma me) :=
  PA.imp (pa_cons ha hr hs) fun σ H Q ⟨as, ds, h, s, p⟩ => ⟨as, ds, h, s, PostA.bindE p fun x h1 v H1 as1 f1 r1 hr1 p1 =>
    ⟨as1, ds, h1, ⟨s.env.grow f1, hr1⟩, PostA.bindA p1 fun xs h2 vs H2 as2 f2 r2 hr2 p2 => p2 (v :: vs) H2 as2 .refl (.cons (r1.grow f2) r2) hr2⟩⟩
theorem de_tup {x1 : Nat} (h : DA X W es me) : DE X W (.Tuple es x1 pos) (mTup me) :=
  PE.imp (pe_tup h) fun σ H Q ⟨as, ds, h, s, p⟩ => ⟨as, ds, h, s, PostE.bindA p fun xs h1 vs H1 as1 f1 r1 hr1 p1 => by
    by_cases hc : xs.length ≤ 16777216 ∧ xs.any isLoc = false
    · rw [if_pos hc] at p1
      refine ⟨by rw [sizeLine_eq, ← r1.length]; exact hc.1, fun q hq => ?_⟩
      have sm := same_upd (o := .tup vs) hq
      exact p1 (.ref q) _ as1 (.of_same sm) (.val (.tup (SqT.of upd_same) ((r1.rvs hc.2).same sm))) (hr1.same sm)
    · rw [if_neg hc] at p1; exact p1.elim⟩
theorem de_lst (h : DA X W es me) : DE X W (.List es pos) (mLst me) :=
  PE.imp (pe_lst h) fun σ H Q ⟨as, ds, h, s, p⟩ => ⟨as, ds, h, s, PostE.bindA p fun xs h1 vs H1 as1 f1 r1 hr1 p1 => by
    by_cases hc : xs.length ≤ 16777216 ∧ xs.any isLoc = false
    · rw [if_pos hc] at p1
      refine ⟨by rw [sizeLine_eq, ← r1.length]; exact hc.1, fun q hq => ?_⟩
      have sm := same_upd (o := .lst vs) hq
      exact p1 (.ref q) _ as1 (.of_same sm) (.val (.lst upd_same (hr1.notin hq) ((r1.rvs hc.2).same sm))) (hr1.same sm)
    · rw [if_neg hc] at p1; exact p1.elim⟩
/-- {} -/
theorem de_dnil : DE X W (.Dict [] [] pos) (mC (.dct [] [])) :=
  PE.imp pe_dnewK fun σ H Q ⟨as, ds, h, s, p⟩ => fun q hq => by
    have sm := same_upd (o := .dK []) hq
    exact p (.ref q) _ as (.of_same sm) (.val (.dct upd_same (s.heap.notin hq) rfl .nil)) (s.heap.same sm)
end

/-! ### subscripts, slices -/
def seqD : D → Option (List D)
  | .tup l => some l
  | .lst l => some l
  | .frz l => some l
  | _ => none
theorem seqD_ok {d : D} {l : List D} (h : seqD d = some l) : d = .lst l ∨ d = .tup l ∨ d = .frz l := by
  cases d <;> cases h <;> simp
def ixD : D → D → Option D
  | .tup l, .int i => atI l i
  | .lst l, .int i => atI l i
  | .frz l, .int i => atI l i
  | .str z, .int i => if z.length ≤ 16777216 then (atI z.cps.toList i).map fun c => .str ⟨#[c]⟩ else none
  | _, _ => none
theorem RVs.atI {K : PySem.W.Frag} {H : Hp} {as : List Addr} {ds : List D} {vs : List V} (r : RVs K H as ds vs) {i : Int} {d : D} (h : L2.atI ds i = some d) : ∃ v, L2.atI vs i = some v ∧ RV K H as d v := by
  unfold L2.atI at h ⊢
  rw [← r.length]
  cases e : ixN ds.length i with
  | none => rw [e] at h; cases h
  | some j =>
    rw [e] at h
    exact r.get h
theorem ix_s {K : PySem.W.Frag} : OpS K ixD (rIx K) := by
  intro as H x y z v u Q n e r1 r2 k
  cases y with
  | int i =>
    cases r2.int
    cases x with
    | tup l =>
      obtain ⟨a, vs, rfl, r, h⟩ := r1.tup
      obtain ⟨w, hw, rw⟩ := r.atI e
      exact .inr (.inl ⟨a, vs, i, w, rfl, rfl, h, hw, k w H (Same.refl H) rw⟩)
    | lst l =>
      obtain ⟨a, vs, rfl, r, h⟩ := r1.lst
      obtain ⟨w, hw, rw⟩ := r.atI e
      exact .inl ⟨a, vs, i, w, rfl, rfl, SqL.of h, hw, k w H (Same.refl H) rw⟩
    | frz l =>
      obtain ⟨a, vs, rfl, r, h⟩ := r1.frz
      obtain ⟨w, hw, rw⟩ := r.atI e
      exact .inl ⟨a, vs, i, w, rfl, rfl, h, hw, k w H (Same.refl H) rw⟩
    | str s =>
      cases r1.str
      by_cases hs : s.length ≤ 16777216
      · rw [ixD, if_pos hs] at e
        cases e2 : L2.atI s.cps.toList i with
        | none => rw [e2] at e; cases e
        | some c =>
          rw [e2] at e; cases e
          exact .inr (.inr ⟨s, i, c, rfl, rfl, by rw [sizeLine_eq]; exact hs, e2, k _ H (Same.refl H) (.str _)⟩)
      · rw [ixD, if_neg hs] at e; cases e
    | _ => cases e
  | _ => cases x <;> cases e
section
variable {X : Cx} {W : WX} {pos : Pos} {a b c e : Expr} {ma mb mc : M D}
theorem de_ix (hs : PlainIx b) (ha : DE X W a ma) (hb : DE X W b mb) : DE X W (.Subscript a b pos) (mBin ixD ma mb) :=
  PE.imp (pe_ix ix_seq ha hb hs) fun σ H Q q => op_of_post ix_s q
end
def intO : D → Option Int
  | .int i => some i
  | _ => none
abbrev MO := M (Option Int)
def mNoPart : MO := fun _ h => .ok none h
def mPart (ma : M D) : MO := fun ds h => (ma ds h).bind fun x h1 => match intO x with
  | some i => .ok (some i) h1
  | none => .no
def cutD (xs : List D) (lo hi : Option Int) : List D := (xs.drop (HT.sIx xs.length 0 lo)).take (HT.sIx xs.length xs.length hi - HT.sIx xs.length 0 lo)
def slD (x : D) (lo hi : Option Int) : Option D := match x with
  | .lst l => some (.lst (cutD l lo hi))
  | .tup l => some (.tup (cutD l lo hi))
  | _ => none
def mSl (ma : M D) (ml mh : MO) : M D := fun ds h => (ma ds h).bind fun x h1 => (ml ds h1).bind fun lo h2 => (mh ds h2).bind fun hi h3 => match slD (rd h3 x) lo hi with
  | some z => .ok z h3
  | none => .no
def PostO (K : PySem.W.Frag) (mg : Str → Option Value) (W : WX) (as : List Addr) (σ : L2.St) (H : Hp) (r : R (Option Int)) (Q : Option Int → Hp → Prop) : Prop := match r with
  | .ok b h => ∀ H' as', Grow as H as' H' → HeapR K H' as' h → Q b H'
  | .ex c p h => ∀ cls dx H' as', Grow as H as' H' → HeapR K H' as' h → ExR K mg H' as' c p cls dx → W cls dx σ H'
  | .no => False
def toM (K : PySem.W.Frag) (mg : Str → Option Value) (W : WX) (m : MO) : TO := fun σ H Q => ∃ as ds h, StR K H as ds h σ ∧ PostO K mg W as σ H (m ds h) Q
theorem PO.imp {X : Cx} {e : Option Expr} {t t' : TO} (p : PO X e t) (h : ∀ σ H Q, t' σ H Q → t σ H Q) : PO X e t' := ⟨fun pins s σ H Q I q => p.run pins s σ H Q I (h σ H Q q)⟩
abbrev DO (X : Cx) (W : WX) (e : Option Expr) (m : MO) : Prop := PO X e (toM X.K X.mg W m)
theorem intO_ok {K : PySem.W.Frag} {H : Hp} {as : List Addr} {d : D} {v : V} {i : Int} (e : intO d = some i) (r : RD K H as d v) : v = .int i := by
  cases r with
  | val r => cases r <;> cases e; rfl
  | loc _ => cases e
theorem RVs.cut {K : PySem.W.Frag} {H : Hp} {as : List Addr} {ds : List D} {vs : List V} (r : RVs K H as ds vs) (lo hi : Option Int) : RVs K H as (cutD ds lo hi) (cutV vs lo hi) := by
  unfold cutD cutV
  rw [← r.length]
  exact (r.drop _).take _
section
variable {X : Cx} {W : WX} {pos p2 : Pos} {a b c e : Expr} {ma mb mc : M D} {lo hi : Option Expr} {ml mh : MO}
theorem do_none : DO X W none mNoPart := PO.imp po_none fun σ H Q ⟨as, ds, h, s, p⟩ => p H as .refl s.heap
theorem do_some (ha : DE X W a ma) : DO X W (some a) (mPart ma) := PO.imp (po_some ha) fun σ H Q ⟨as, ds, h, s, p⟩ => by
  refine ⟨as, ds, h, s, ?_⟩
  unfold mPart at p
  cases hm : ma ds h with
  | ok x h1 =>
    rw [hm] at p
    have p : PostO X.K X.mg W as σ H (match intO x with | some i => .ok (some i) h1 | none => .no) Q := p
    cases e : intO x with
    | none => rw [e] at p; exact p.elim
    | some i =>
      rw [e] at p
      exact fun v H1 as1 f1 r1 hr1 => ⟨i, intO_ok e r1, p H1 as1 f1 hr1⟩
  | ex c q h1 => rw [hm] at p; exact p
  | no => rw [hm] at p; exact p
theorem PostE.bindO {K : PySem.W.Frag} {mg : Str → Option Value} {as : List Addr} {σ : L2.St} {H : Hp} {r : R (Option Int)} {k : Option Int → Hs → R D} {Q : VK} {Q' : Option Int → Hp → Prop} (p : PostE K mg W as σ H (r.bind k) Q)
    (n : ∀ b h H1 as1, Grow as H as1 H1 → HeapR K H1 as1 h → PostE K mg W as1 σ H1 (k b h) Q → Q' b H1) : PostO K mg W as σ H r Q' := by
  cases r with
  | ok d h => exact fun H1 as1 f hr => n d h H1 as1 f hr (PostE.grow f p)
  | ex c q h => exact p
  | no => exact p
theorem sl_any : SlR X (fun x lo hi H Q => rSlL X.K x lo hi H Q ∨ rSlA X.K x lo hi H Q) := sl_list.or sl_tupA
theorem de_sl (ha : DE X W a ma) (hl : DO X W lo ml) (hh : DO X W hi mh) : DE X W (.Subscript a (.Slice lo hi none p2) pos) (mSl ma ml mh) :=
  PE.imp (pe_slice sl_any ha hl hh) fun σ H Q ⟨as, ds, h, s, p⟩ => ⟨as, ds, h, s, PostE.bindE p fun x h1 v H1 as1 f1 r1 hr1 p1 =>
    ⟨as1, ds, h1, ⟨s.env.grow f1, hr1⟩, PostE.bindO p1 fun lo h2 H2 as2 f2 hr2 p2 =>
    ⟨as2, ds, h2, ⟨s.env.grow (f1.trans f2), hr2⟩, PostE.bindO p2 fun hi h3 H3 as3 f3 hr3 p3 => by
      have r3 := ((r1.grow (f2.trans f3)).rt hr3)
      revert r3 p3
      generalize rd h3 x = y
      intro p3 r3
      cases y with
      | lst l =>
        obtain ⟨q, vs, rfl, r, hq⟩ := r3.lst
        refine .inl ⟨q, vs, rfl, SqL.of hq, fun q2 hq2 => ?_⟩
        have sm := same_upd (o := .lst (cutV vs lo hi)) hq2
        exact p3 (.ref q2) _ as3 (.of_same sm) (.val (.lst upd_same (hr3.notin hq2) ((r.cut lo hi).fr (.of_same sm)))) (hr3.same sm)
      | tup l =>
        obtain ⟨q, vs, rfl, r, hq⟩ := r3.tup
        refine .inr ⟨q, vs, rfl, hq, fun hw => ?_, fun hw q2 hq2 => ?_⟩
        · have e : cutV vs lo hi = vs := by unfold cutV; rw [hw.1, hw.2]; simp
          have r' := r.cut lo hi
          rw [e] at r'
          exact p3 (.ref q) H3 as3 .refl (.val (.tup hq r')) hr3
        · have sm := same_upd (o := .tup (cutV vs lo hi)) hq2
          exact p3 (.ref q2) _ as3 (.of_same sm) (.val (.tup (SqT.of upd_same) ((r.cut lo hi).fr (.of_same sm)))) (hr3.same sm)
      | _ => exact p3.elim⟩⟩⟩
end
end DL

set_option Elab.async false
set_option linter.all false
set_option maxRecDepth 100000
set_option maxHeartbeats 4000000
namespace DL
open PySem PySem.Spec PyProof.Rows L2

/-! ### equality of data -/
mutual
def eqv : D → D → Bool
  | .non, .non => true
  | .bl a, .bl b => a == b
  | .bl a, .int j => (if a then 1 else 0) == j
  | .int i, .bl b => i == (if b then 1 else 0)
  | .int i, .int j => i == j
  | .str x, .str y => x == y
  | .lst xs, .lst ys => eqvs xs ys
  | .tup xs, .tup ys => eqvs xs ys
  | _, _ => false
def eqvs : List D → List D → Bool
  | [], [] => true
  | x :: xs, y :: ys => eqv x y && eqvs xs ys
  | _, _ => false
end
mutual
def toPy : D → PyData
  | .bl b => .bool b
  | .int i => .int i
  | .str s => .str s
  | .tup l => .tuple (toPys l)
  | .lst l => .list (toPys l)
  | _ => .none
def toPys : List D → List PyData
  | [] => []
  | d :: l => toPy d :: toPys l
end
/-- plain data of so great a depth -/
def okE : Nat → D → Bool
  | _, .non => true
  | _, .bl _ => true
  | _, .int _ => true
  | _, .str s => PyData.strOk s
  | n + 1, .tup l => l.all (okE n)
  | n + 1, .lst l => l.all (okE n)
  | _, _ => false
section
variable {K : PySem.W.Frag} {H : Hp} {as : List Addr}
theorem depthAll_le {n : Nat} : ∀ {l : List PyData}, (∀ d ∈ l, d.depth ≤ n) → PyData.depthAll l ≤ n
  | [], _ => by simp [PyData.depthAll]
  | d :: l, h => by
    have h1 := h d (by simp)
    have h2 := depthAll_le (l := l) fun e he => h e (by simp [he])
    simp only [PyData.depthAll]
    omega
theorem toPys_mem : ∀ {l : List D} {p : PyData}, p ∈ toPys l → ∃ d ∈ l, p = toPy d
  | [], _, h => by simp [toPys] at h
  | d :: l, p, h => by
    simp only [toPys, List.mem_cons] at h
    rcases h with rfl | h
    · exact ⟨d, by simp, rfl⟩
    · obtain ⟨e, he, q⟩ := toPys_mem h
      exact ⟨e, by simp [he], q⟩
theorem canLayAll_of : ∀ {l : List PyData}, (∀ d ∈ l, d.canLay0 = true) → PyData.canLayAll0 l = true
  | [], _ => by simp [PyData.canLayAll0]
  | d :: l, h => by
    simp only [PyData.canLayAll0, Bool.and_eq_true]
    exact ⟨h d (by simp), canLayAll_of fun e he => h e (by simp [he])⟩
theorem okE_lay : ∀ {n : Nat} {d : D}, okE n d = true → (toPy d).canLay0 = true ∧ (toPy d).depth ≤ n := by
  intro n
  induction n with
  | zero =>
    intro d h
    cases d with
    | non => simp [toPy, PyData.canLay0, PyData.depth]
    | bl b => simp [toPy, PyData.canLay0, PyData.depth]
    | int i => simp [toPy, PyData.canLay0, PyData.depth]
    | str s => exact ⟨by simpa [toPy, PyData.canLay0, okE] using h, by simp [toPy, PyData.depth]⟩
    | _ => simp [okE] at h
  | succ n ih =>
    intro d h
    have key : ∀ l : List D, l.all (okE n) = true → PyData.canLayAll0 (toPys l) = true ∧ PyData.depthAll (toPys l) ≤ n := by
      intro l hl
      refine ⟨canLayAll_of fun p hp => ?_, depthAll_le fun p hp => ?_⟩
      · obtain ⟨d, hd, rfl⟩ := toPys_mem hp
        exact (ih (List.all_eq_true.mp hl d hd)).1
      · obtain ⟨d, hd, rfl⟩ := toPys_mem hp
        exact (ih (List.all_eq_true.mp hl d hd)).2
    cases d with
    | non => simp [toPy, PyData.canLay0, PyData.depth]
    | bl b => simp [toPy, PyData.canLay0, PyData.depth]
    | int i => simp [toPy, PyData.canLay0, PyData.depth]
    | str s => exact ⟨by simpa [toPy, PyData.canLay0, okE] using h, by simp [toPy, PyData.depth]⟩
    | tup l =>
      obtain ⟨k1, k2⟩ := key l (by simpa [okE] using h)
      exact ⟨by simpa [toPy, PyData.canLay0] using k1, by simp only [toPy, PyData.depth]; omega⟩
    | lst l =>
      obtain ⟨k1, k2⟩ := key l (by simpa [okE] using h)
      exact ⟨by simpa [toPy, PyData.canLay0] using k1, by simp only [toPy, PyData.depth]; omega⟩
    | _ => simp [okE] at h
theorem okE_dp : ∀ {n : Nat} {d : D} {v : V}, okE n d = true → RV K H as d v → Dp K H v (toPy d) := by
  intro n
  induction n with
  | zero =>
    intro d v h r
    cases r with
    | non => exact .non
    | bl b => exact .bl b
    | int i => exact .int i
    | str s => exact .str s
    | _ => simp [okE] at h
  | succ n ih =>
    intro d v h r
    have key : ∀ (l : List D) (vs : List V), l.all (okE n) = true → RVs K H as l vs → DpAll K H vs (toPys l) := by
      intro l
      induction l with
      | nil => intro vs _ r; cases r; exact .nil
      | cons d l ihl =>
        intro vs hl r
        cases r with
        | cons r1 r2 =>
          simp only [List.all_cons, Bool.and_eq_true] at hl
          exact .cons (ih hl.1 r1) (ihl _ hl.2 r2)
    cases r with
    | non => exact .non
    | bl b => exact .bl b
    | int i => exact .int i
    | str s => exact .str s
    | tup hs rs => exact .tup hs (key _ _ (by simpa [okE] using h) rs)
    | lst hs n rs => exact .lst (SqL.of hs) (key _ _ (by simpa [okE] using h) rs)
    | _ => simp [okE] at h
theorem okE_rt {n : Nat} {d : D} {v : V} (h : okE n d = true) (r : RT K H as d v) : Dp K H v (toPy d) := by
  cases r with
  | val r => exact okE_dp h r
  | cell r =>
    cases r with
    | lst hs rs =>
      cases n with
      | zero => simp [okE] at h
      | succ n =>
        have key : ∀ (l : List D) (vs : List V), l.all (okE n) = true → RVs K H as l vs → DpAll K H vs (toPys l) := by
          intro l
          induction l with
          | nil => intro vs _ r; cases r; exact .nil
          | cons d l ihl =>
            intro vs hl r
            cases r with
            | cons r1 r2 =>
              simp only [List.all_cons, Bool.and_eq_true] at hl
              exact .cons (okE_dp hl.1 r1) (ihl _ hl.2 r2)
        exact .lst (SqL.of hs) (key _ _ (by simpa [okE] using h) rs)
    | dct _ _ _ => cases n <;> simp [okE] at h
theorem eqv_py : ∀ {n : Nat} {d e : D}, okE n d = true → ∀ {m : Nat}, okE m e = true → eqv d e = PyData.eqv (toPy d) (toPy e) := by
  intro n
  induction n with
  | zero =>
    intro d e h m h2
    cases d <;> first | (simp [okE] at h; done) | (cases e <;> first | (cases m <;> simp [okE] at h2; done) | simp [eqv, toPy, PyData.eqv])
  | succ n ih =>
    intro d e h m h2
    have key : ∀ (l k : List D), l.all (okE n) = true → ∀ m, k.all (okE m) = true → eqvs l k = PyData.eqvAll (toPys l) (toPys k) := by
      intro l
      induction l with
      | nil => intro k _ m hk; cases k <;> simp [eqvs, toPys, PyData.eqvAll]
      | cons d l ihl =>
        intro k hl m hk
        cases k with
        | nil => simp [eqvs, toPys, PyData.eqvAll]
        | cons e k =>
          simp only [List.all_cons, Bool.and_eq_true] at hl hk
          simp only [eqvs, toPys, PyData.eqvAll]
          rw [ih hl.1 hk.1, ihl k hl.2 m hk.2]
    cases d with
    | tup l =>
      cases e with
      | tup k =>
        cases m with
        | zero => simp [okE] at h2
        | succ m => simp only [eqv, toPy, PyData.eqv]; exact key l k (by simpa [okE] using h) m (by simpa [okE] using h2)
      | _ => first | (cases m <;> simp [okE] at h2; done) | simp [eqv, toPy, PyData.eqv]
    | lst l =>
      cases e with
      | lst k =>
        cases m with
        | zero => simp [okE] at h2
        | succ m => simp only [eqv, toPy, PyData.eqv]; exact key l k (by simpa [okE] using h) m (by simpa [okE] using h2)
      | _ => first | (cases m <;> simp [okE] at h2; done) | simp [eqv, toPy, PyData.eqv]
    | _ => first | (simp [okE] at h; done) | (cases e <;> first | (cases m <;> simp [okE] at h2; done) | simp [eqv, toPy, PyData.eqv])
end
def eqD (x y : D) : Option D := if okE 60 x = true ∧ okE 60 y = true then some (.bl (eqv x y)) else none
def neD (x y : D) : Option D := if okE 60 x = true ∧ okE 60 y = true then some (.bl (!eqv x y)) else none
def rEqG (K : PySem.W.Frag) (neg : Bool) : R2 := fun x y H Q => ∃ d e, Dp K H x d ∧ Dp K H y e ∧ d.canLay0 = true ∧ e.canLay0 = true ∧ d.depth ≤ 60 ∧ Q (.bl (if neg then !PyData.eqv d e else PyData.eqv d e)) H
section
variable {X : Cx}
theorem op_eqG (hu : X.A.units + 64 < cLine) : OpR X (compareOp .Eq) (rEqG X.K false) := by
  intro pins s σ H x y v u Q I rx ry h
  obtain ⟨d, e, hd, he, sd, se, dd, q⟩ := h
  obtain ⟨as, r1⟩ := Dp.reads I d x v hd rx
  obtain ⟨bs, r2⟩ := Dp.reads I e y u he ry
  have z : min d.depth e.depth ≤ d.depth := Nat.min_le_left _ _
  exact SeqAt.compareEq_reads r1 r2 sd se (by omega) ⟨.bl _, H, I, rfl, q⟩
theorem op_neG (hu : X.A.units + 64 < cLine) : OpR X (compareOp .NotEq) (rEqG X.K true) := by
  intro pins s σ H x y v u Q I rx ry h
  obtain ⟨d, e, hd, he, sd, se, dd, q⟩ := h
  obtain ⟨as, r1⟩ := Dp.reads I d x v hd rx
  obtain ⟨bs, r2⟩ := Dp.reads I e y u he ry
  have z : min d.depth e.depth ≤ d.depth := Nat.min_le_left _ _
  exact SeqAt.compareNe_reads r1 r2 sd se (by omega) ⟨.bl _, H, I, rfl, q⟩
theorem eq_s : OpS X.K eqD (rEqG X.K false) := by
  intro as H x y z v u Q n e r1 r2 k
  unfold eqD at e
  by_cases hc : okE 60 x = true ∧ okE 60 y = true
  · rw [if_pos hc] at e; cases e
    refine ⟨_, _, okE_rt hc.1 r1, okE_rt hc.2 r2, (okE_lay hc.1).1, (okE_lay hc.2).1, (okE_lay hc.1).2, ?_⟩
    rw [← eqv_py hc.1 hc.2]
    exact k _ H (Same.refl H) (.bl _)
  · rw [if_neg hc] at e; cases e
theorem ne_s : OpS X.K neD (rEqG X.K true) := by
  intro as H x y z v u Q n e r1 r2 k
  unfold neD at e
  by_cases hc : okE 60 x = true ∧ okE 60 y = true
  · rw [if_pos hc] at e; cases e
    refine ⟨_, _, okE_rt hc.1 r1, okE_rt hc.2 r2, (okE_lay hc.1).1, (okE_lay hc.2).1, (okE_lay hc.1).2, ?_⟩
    rw [← eqv_py hc.1 hc.2]
    exact k _ H (Same.refl H) (.bl _)
  · rw [if_neg hc] at e; cases e
/-! ### in -/
def rInG (K : PySem.W.Frag) (neg : Bool) : R2 := fun x y H Q => (∃ d ds, Dp K H x d ∧ (Dp K H y (.list ds) ∨ Dp K H y (.tuple ds)) ∧ d.canLay0 = true ∧ PyData.canLayAll0 ds = true ∧ d.depth ≤ 60 ∧ Q (.bl (if neg then !(ds.any fun z => PyData.eqv z d) else ds.any fun z => PyData.eqv z d)) H) ∨
  ∃ (c : Nat) (z : Str), x = .str ⟨#[c]⟩ ∧ y = .str z ∧ Q (.bl (if neg then !decide (c ∈ z.cps.toList) else decide (c ∈ z.cps.toList))) H
theorem op_inG (hu : X.A.units + 64 < cLine) : OpR X (compareOp .In) (rInG X.K false) := by
  intro pins s σ H x y v u Q I rx ry h
  rcases h with ⟨d, ds, hd, he, sd, se, dd, q⟩ | ⟨c, z, rfl, rfl, q⟩
  · obtain ⟨as, r1⟩ := Dp.reads I d x v hd rx
    have z : min (PyData.depthAll ds) d.depth ≤ d.depth := Nat.min_le_right _ _
    rcases he with he | he
    · obtain ⟨bs, r2⟩ := Dp.reads I _ y u he ry
      exact SeqAt.in_list_reads r2 r1 se sd (by omega) ⟨.bl _, H, I, rfl, q⟩
    · obtain ⟨bs, r2⟩ := Dp.reads I _ y u he ry
      exact SeqAt.in_tuple_reads r2 r1 se sd (by omega) ⟨.bl _, H, I, rfl, q⟩
  · exact op_in_sign pins s σ H _ _ v u Q I rx ry ⟨c, z, rfl, rfl, q⟩
theorem op_notInG (hu : X.A.units + 64 < cLine) : OpR X (compareOp .NotIn) (rInG X.K true) := by
  intro pins s σ H x y v u Q I rx ry h
  rcases h with ⟨d, ds, hd, he, sd, se, dd, q⟩ | ⟨c, z, rfl, rfl, q⟩
  · obtain ⟨as, r1⟩ := Dp.reads I d x v hd rx
    have z : min (PyData.depthAll ds) d.depth ≤ d.depth := Nat.min_le_right _ _
    rcases he with he | he
    · obtain ⟨bs, r2⟩ := Dp.reads I _ y u he ry
      exact SeqAt.notIn_list_reads r2 r1 se sd (by omega) ⟨.bl _, H, I, rfl, q⟩
    · obtain ⟨bs, r2⟩ := Dp.reads I _ y u he ry
      exact SeqAt.notIn_tuple_reads r2 r1 se sd (by omega) ⟨.bl _, H, I, rfl, q⟩
  · exact op_notIn_sign pins s σ H _ _ v u Q I rx ry ⟨c, z, rfl, rfl, q⟩
def oneS (s : Str) : Option Nat := match s.cps.toList with
  | [c] => some c
  | _ => none
def inB (x y : D) : Option Bool := match y with
  | .lst l => if okE 60 x = true ∧ l.all (okE 60) = true then some (l.any fun z => eqv z x) else none
  | .tup l => if okE 60 x = true ∧ l.all (okE 60) = true then some (l.any fun z => eqv z x) else none
  | .str z => (match x with
    | .str c => (match oneS c with
      | some c => some (decide (c ∈ z.cps.toList))
      | none => none)
    | _ => none)
  | _ => none
def inD (x y : D) : Option D := (inB x y).map .bl
def notInD (x y : D) : Option D := (inB x y).map fun b => .bl (!b)
theorem any_py {x : D} (hx : okE 60 x = true) : ∀ {l : List D}, l.all (okE 60) = true → (toPys l).any (fun z => PyData.eqv z (toPy x)) = l.any fun z => eqv z x
  | [], _ => rfl
  | d :: l, h => by
    simp only [List.all_cons, Bool.and_eq_true] at h
    simp only [toPys, List.any_cons]
    rw [any_py hx h.2, eqv_py h.1 hx]
theorem oneS_ok {s : Str} {c : Nat} (h : oneS s = some c) : s = ⟨#[c]⟩ := by
  unfold oneS at h
  split at h
  · rename_i e
    cases h
    obtain ⟨a⟩ := s
    have : a = #[c] := by
      have := congrArg List.toArray e
      simpa using this
    rw [this]
  · cases h
theorem in_core {as : List Addr} {H : Hp} {x y : D} {v u : V} {Q : VK} {b : Bool} (neg : Bool) (e : inB x y = some b) (r1 : RT X.K H as x v) (r2 : RT X.K H as y u) (q : Q (.bl (if neg then !b else b)) H) : rInG X.K neg v u H Q := by
  cases y with
  | lst l =>
    by_cases hc : okE 60 x = true ∧ l.all (okE 60) = true
    · rw [inB, if_pos hc] at e; cases e
      refine .inl ⟨_, _, okE_rt hc.1 r1, .inl (by have := okE_rt (n := 61) (d := .lst l) (by simpa [okE] using hc.2) r2; simpa [toPy] using this), (okE_lay hc.1).1, canLayAll_of fun p hp => ?_, (okE_lay hc.1).2, ?_⟩
      · obtain ⟨d, hd, rfl⟩ := toPys_mem hp
        exact (okE_lay (List.all_eq_true.mp hc.2 d hd)).1
      · rw [any_py hc.1 hc.2]; exact q
    · rw [inB, if_neg hc] at e; cases e
  | tup l =>
    by_cases hc : okE 60 x = true ∧ l.all (okE 60) = true
    · rw [inB, if_pos hc] at e; cases e
      refine .inl ⟨_, _, okE_rt hc.1 r1, .inr (by have := okE_rt (n := 61) (d := .tup l) (by simpa [okE] using hc.2) r2; simpa [toPy] using this), (okE_lay hc.1).1, canLayAll_of fun p hp => ?_, (okE_lay hc.1).2, ?_⟩
      · obtain ⟨d, hd, rfl⟩ := toPys_mem hp
        exact (okE_lay (List.all_eq_true.mp hc.2 d hd)).1
      · rw [any_py hc.1 hc.2]; exact q
    · rw [inB, if_neg hc] at e; cases e
  | str z =>
    cases x with
    | str c =>
      cases e2 : oneS c with
      | none => simp [inB, e2] at e
      | some c' =>
        simp [inB, e2] at e
        subst e
        cases r1.str
        cases r2.str
        exact .inr ⟨c', z, by rw [oneS_ok e2], rfl, by simpa using q⟩
    | _ => cases e
  | _ => cases e
theorem in_s : OpS X.K inD (rInG X.K false) := by
  intro as H x y z v u Q n e r1 r2 k
  unfold inD at e
  cases e2 : inB x y with
  | none => rw [e2] at e; cases e
  | some b =>
    rw [e2] at e; cases e
    exact in_core false e2 r1 r2 (k _ H (Same.refl H) (.bl _))
theorem notIn_s : OpS X.K notInD (rInG X.K true) := by
  intro as H x y z v u Q n e r1 r2 k
  unfold notInD at e
  cases e2 : inB x y with
  | none => rw [e2] at e; cases e
  | some b =>
    rw [e2] at e; cases e
    exact in_core true e2 r1 r2 (k _ H (Same.refl H) (.bl _))
/-! ### is None -/
def isNon : D → Bool
  | .non => true
  | _ => false
def isND (x y : D) : Option D := match y with
  | .non => some (.bl (isNon x))
  | _ => none
def notND (x y : D) : Option D := match y with
  | .non => some (.bl (!isNon x))
  | _ => none
theorem RT.isnon {K : PySem.W.Frag} {H : Hp} {as : List Addr} {d : D} {v : V} (r : RT K H as d v) : isNon d = decide (v = .non) := by
  cases r with
  | val r => cases r <;> simp [isNon]
  | cell r => cases r <;> simp [isNon]
theorem is_s : OpS X.K isND (fun x y H Q => y = .non ∧ Q (.bl (decide (x = .non))) H) := by
  intro as H x y z v u Q n e r1 r2 k
  cases y with
  | non =>
    cases e
    exact ⟨r2.non, by rw [← r1.isnon]; exact k _ H (Same.refl H) (.bl _)⟩
  | _ => cases e
theorem isnot_s : OpS X.K notND (fun x y H Q => y = .non ∧ Q (.bl (!decide (x = .non))) H) := by
  intro as H x y z v u Q n e r1 r2 k
  cases y with
  | non =>
    cases e
    exact ⟨r2.non, by rw [← r1.isnon]; exact k _ H (Same.refl H) (.bl _)⟩
  | _ => cases e
end
end DL

set_option Elab.async false
set_option linter.all false
set_option maxRecDepth 100000
set_option maxHeartbeats 4000000
namespace DL
open PySem PySem.Spec PyProof.Rows L2

/-! ### numbers -/
def addD : D → D → Option D
  | .int i, .int j => some (.int (i + j))
  | .str a, .str b => if a.length + b.length ≤ 16777216 then some (.str (a ++ b)) else none
  | .lst a, .lst b => if a.length + b.length ≤ 16777216 then some (.lst (a ++ b)) else none
  | .tup a, .tup b => if a.length + b.length ≤ 16777216 then some (.tup (a ++ b)) else none
  | _, _ => none
def subD : D → D → Option D
  | .int i, .int j => some (.int (i - j))
  | _, _ => none
def mulD : D → D → Option D
  | .int i, .int j => if i.natAbs.log2 + j.natAbs.log2 < 1000000 then some (.int (i * j)) else none
  | .lst l, .int k => if 0 ≤ k ∧ k ≤ 1000000 ∧ l.length * k.toNat ≤ 16777216 then some (.lst (List.replicate k.toNat l).flatten) else none
  | .tup l, .int k => if l.isEmpty = false ∧ 2 ≤ k ∧ k ≤ 1000 ∧ l.length ≤ 1000 then some (.tup (List.replicate k.toNat l).flatten) else none
  | _, _ => none
def fdivD : D → D → Option D
  | .int i, .int j => if 0 < j ∧ j.natAbs.log2 < 9000 then some (.int (i / j)) else none
  | _, _ => none
def modD : D → D → Option D
  | .int i, .int j => if 0 < j then some (.int (i % j)) else none
  | _, _ => none
def powD : D → D → Option D
  | .int i, .int j => if 0 ≤ j ∧ (Builtin.Int.intBits i : Int) * j ≤ 2 ^ 27 then some (.int (i ^ j.toNat)) else none
  | _, _ => none
section
variable {X : Cx}
abbrev rAddAll (K : PySem.W.Frag) : R2 := fun x y H Q => (∃ i j, x = .int i ∧ y = .int j ∧ Q (.int (i + j)) H) ∨ (∃ i j, x = .str i ∧ y = .str j ∧ i.length + j.length ≤ sizeLine ∧ Q (.str (i ++ j)) H) ∨ rCat x y H Q ∨ rCatA K x y H Q
theorem op_addAll : OpR X (binaryOp .Add) (rAddAll X.K) := op_add.or (op_add_str.or (op_cat.or op_catA))
theorem add_s : OpS X.K addD (rAddAll X.K) := by
  intro as H x y z v u Q n e r1 r2 k
  cases x with
  | int i =>
    cases y with
    | int j => cases e; cases r1.int; cases r2.int; exact .inl ⟨i, j, rfl, rfl, k _ H (Same.refl H) (.int _)⟩
    | _ => cases e
  | str a =>
    cases y with
    | str b =>
      by_cases hc : a.length + b.length ≤ 16777216
      · rw [addD, if_pos hc] at e; cases e; cases r1.str; cases r2.str
        exact .inr (.inl ⟨a, b, rfl, rfl, by rw [sizeLine_eq]; exact hc, k _ H (Same.refl H) (.str _)⟩)
      · rw [addD, if_neg hc] at e; cases e
    | _ => cases e
  | lst a =>
    cases y with
    | lst b =>
      by_cases hc : a.length + b.length ≤ 16777216
      · rw [addD, if_pos hc] at e; cases e
        obtain ⟨p, vs, rfl, rr, hp⟩ := r1.lst
        obtain ⟨q, us, rfl, ss, hq⟩ := r2.lst
        refine .inr (.inr (.inl ⟨p, q, vs, us, rfl, rfl, hp, hq, by rw [sizeLine_eq, ← rr.length, ← ss.length]; exact hc, fun p hp => ?_⟩))
        have sm := same_upd (o := .lst (vs ++ us)) hp
        exact k _ _ sm (.lst upd_same (n p hp) ((rr.append ss).fr (.of_same sm)))
      · rw [addD, if_neg hc] at e; cases e
    | _ => cases e
  | tup a =>
    cases y with
    | tup b =>
      by_cases hc : a.length + b.length ≤ 16777216
      · rw [addD, if_pos hc] at e; cases e
        obtain ⟨p, vs, rfl, rr, hp⟩ := r1.tup
        obtain ⟨q, us, rfl, ss, hq⟩ := r2.tup
        refine .inr (.inr (.inr ⟨p, q, vs, us, rfl, rfl, hp, hq, by rw [sizeLine_eq, ← rr.length, ← ss.length]; exact hc, fun e => ?_, fun e1 e => ?_, fun e1 e2 p hp => ?_⟩))
        · subst e
          have := rr.append ss
          exact k _ H (Same.refl H) (.tup hq this)
        · subst e
          have := rr.append ss
          rw [List.append_nil] at this
          exact k _ H (Same.refl H) (.tup hp this)
        · have sm := same_upd (o := .tup (vs ++ us)) hp
          exact k _ _ sm (.tup (SqT.of upd_same) ((rr.append ss).fr (.of_same sm)))
      · rw [addD, if_neg hc] at e; cases e
    | _ => cases e
  | _ => cases e
theorem sub_s : OpS X.K subD (rI0 fun i j => .int (i - j)) := by
  intro as H x y z v u Q n e r1 r2 k
  cases x with
  | int i =>
    cases y with
    | int j => cases e; cases r1.int; cases r2.int; exact ⟨i, j, rfl, rfl, k _ H (Same.refl H) (.int _)⟩
    | _ => cases e
  | _ => cases e
abbrev rMulAll (K : PySem.W.Frag) : R2 := fun x y H Q => (rI CMulW fun i j => .int (i * j)) x y H Q ∨ rRep x y H Q ∨ rRepT K x y H Q
theorem op_mulAll : OpR X (binaryOp .Mult) (rMulAll X.K) := op_mulW.or (op_rep.or op_repT)
theorem RVs.rep {K : PySem.W.Frag} {H : Hp} {as : List Addr} {ds : List D} {vs : List V} (r : RVs K H as ds vs) : ∀ k : Nat, RVs K H as (List.replicate k ds).flatten (List.replicate k vs).flatten
  | 0 => .nil
  | k + 1 => by
    rw [List.replicate_succ, List.replicate_succ, List.flatten_cons, List.flatten_cons]
    exact r.append (RVs.rep r k)
theorem mul_s : OpS X.K mulD (rMulAll X.K) := by
  intro as H x y z v u Q n e r1 r2 k
  cases x with
  | int i =>
    cases y with
    | int j =>
      by_cases hc : i.natAbs.log2 + j.natAbs.log2 < 1000000
      · rw [mulD, if_pos hc] at e; cases e; cases r1.int; cases r2.int
        exact .inl ⟨i, j, rfl, rfl, hc, k _ H (Same.refl H) (.int _)⟩
      · rw [mulD, if_neg hc] at e; cases e
    | _ => cases e
  | lst l =>
    cases y with
    | int j =>
      by_cases hc : 0 ≤ j ∧ j ≤ 1000000 ∧ l.length * j.toNat ≤ 16777216
      · rw [mulD, if_pos hc] at e; cases e; cases r2.int
        obtain ⟨p, vs, rfl, rr, hp⟩ := r1.lst
        refine .inr (.inl ⟨p, j, vs, rfl, rfl, hp, by omega, by omega, by rw [sizeLine_eq, ← rr.length]; exact hc.2.2, fun q hq => ?_⟩)
        have sm := same_upd (o := .lst (List.replicate j.toNat vs).flatten) hq
        exact k _ _ sm (.lst upd_same (n q hq) ((rr.rep _).fr (.of_same sm)))
      · rw [mulD, if_neg hc] at e; cases e
    | _ => cases e
  | tup l =>
    cases y with
    | int j =>
      by_cases hc : l.isEmpty = false ∧ 2 ≤ j ∧ j ≤ 1000 ∧ l.length ≤ 1000
      · rw [mulD, if_pos hc] at e; cases e; cases r2.int
        obtain ⟨p, vs, rfl, rr, hp⟩ := r1.tup
        refine .inr (.inr ⟨p, j, vs, rfl, rfl, hp, fun z => ?_, hc.2.1, hc.2.2.1, by rw [← rr.length]; exact hc.2.2.2, fun q hq => ?_⟩)
        · subst z; cases rr; simp at hc
        · have sm := same_upd (o := .tup (List.replicate j.toNat vs).flatten) hq
          exact k _ _ sm (.tup (SqT.of upd_same) ((rr.rep _).fr (.of_same sm)))
      · rw [mulD, if_neg hc] at e; cases e
    | _ => cases e
  | _ => cases e
theorem fdiv_s : OpS X.K fdivD (rI CDivW fun i j => .int (i / j)) := by
  intro as H x y z v u Q n e r1 r2 k
  cases x with
  | int i =>
    cases y with
    | int j =>
      by_cases hc : 0 < j ∧ j.natAbs.log2 < 9000
      · rw [fdivD, if_pos hc] at e; cases e; cases r1.int; cases r2.int
        exact ⟨i, j, rfl, rfl, hc, k _ H (Same.refl H) (.int _)⟩
      · rw [fdivD, if_neg hc] at e; cases e
    | _ => cases e
  | _ => cases e
theorem mod_s : OpS X.K modD (rI (fun _ j => 0 < j) fun i j => .int (i % j)) := by
  intro as H x y z v u Q n e r1 r2 k
  cases x with
  | int i =>
    cases y with
    | int j =>
      by_cases hc : 0 < j
      · rw [modD, if_pos hc] at e; cases e; cases r1.int; cases r2.int
        exact ⟨i, j, rfl, rfl, hc, k _ H (Same.refl H) (.int _)⟩
      · rw [modD, if_neg hc] at e; cases e
    | _ => cases e
  | _ => cases e
theorem op_powB : OpR X (binaryOp .Pow) (rI (fun i j => 0 ≤ j ∧ (Builtin.Int.intBits i : Int) * j ≤ 2 ^ 27) fun i j => .int (i ^ j.toNat)) := opI fun _ _ _ _ _ _ _ hc q => pow_int hc.1 hc.2 q
theorem pow_s : OpS X.K powD (rI (fun i j => 0 ≤ j ∧ (Builtin.Int.intBits i : Int) * j ≤ 2 ^ 27) fun i j => .int (i ^ j.toNat)) := by
  intro as H x y z v u Q n e r1 r2 k
  cases x with
  | int i =>
    cases y with
    | int j =>
      by_cases hc : 0 ≤ j ∧ (Builtin.Int.intBits i : Int) * j ≤ 2 ^ 27
      · rw [powD, if_pos hc] at e; cases e; cases r1.int; cases r2.int
        exact ⟨i, j, rfl, rfl, hc, k _ H (Same.refl H) (.int _)⟩
      · rw [powD, if_neg hc] at e; cases e
    | _ => cases e
  | _ => cases e
end
/-! ### comparisons of order -/
def cmpI (p : Int → Int → Bool) : D → D → Option D
  | .int i, .int j => some (.bl (p i j))
  | _, _ => none
/-- tuples of ints -/
def intsD : List D → Option (List Int)
  | [] => some []
  | .int i :: r => (intsD r).map (i :: ·)
  | _ :: _ => none
def ltD : D → D → Option D
  | .int i, .int j => some (.bl (decide (i < j)))
  | .tup a, .tup b => (match intsD a, intsD b with
    | some x, some y => some (.bl (HT.lexLt x y))
    | _, _ => none)
  | .str a, .str b => some (.bl (decide (a.cps.toList < b.cps.toList)))
  | _, _ => none
def leD : D → D → Option D := cmpI fun i j => decide (i ≤ j)
def gtD : D → D → Option D := cmpI fun i j => decide (j < i)
def geD : D → D → Option D := cmpI fun i j => decide (j ≤ i)
theorem intsD_ok {K : PySem.W.Frag} {H : Hp} {as : List Addr} : ∀ {ds : List D} {vs : List V} {ns : List Int}, intsD ds = some ns → RVs K H as ds vs → vs = ns.map V.int
  | [], _, _, e, r => by cases e; cases r; rfl
  | d :: ds, _, ns, e, r => by
    cases d with
    | int i =>
      cases e2 : intsD ds with
      | none => simp [intsD, e2] at e
      | some ms =>
        simp [intsD, e2] at e
        subst e
        cases r with
        | cons r1 r2 =>
          cases r1
          rw [intsD_ok e2 r2]; rfl
    | _ => cases e
section
variable {X : Cx}
theorem cmpI_s {p : Int → Int → Bool} : OpS X.K (cmpI p) (rI0 fun i j => .bl (p i j)) := by
  intro as H x y z v u Q n e r1 r2 k
  cases x with
  | int i =>
    cases y with
    | int j => cases e; cases r1.int; cases r2.int; exact ⟨i, j, rfl, rfl, k _ H (Same.refl H) (.bl _)⟩
    | _ => cases e
  | _ => cases e
abbrev rLtAll (K : PySem.W.Frag) : R2 := fun x y H Q => (rI0 fun i j => .bl (decide (i < j))) x y H Q ∨ rLtT K x y H Q ∨ ∃ i j, x = .str i ∧ y = .str j ∧ Q (.bl (decide (i.cps.toList < j.cps.toList))) H
theorem op_ltAll (hu : X.A.units < cLine) : OpR X (compareOp .Lt) (rLtAll X.K) := op_lt.or ((op_ltT hu).or op_lt_str)
theorem lt_s : OpS X.K ltD (rLtAll X.K) := by
  intro as H x y z v u Q n e r1 r2 k
  cases x with
  | int i =>
    cases y with
    | int j => cases e; cases r1.int; cases r2.int; exact .inl ⟨i, j, rfl, rfl, k _ H (Same.refl H) (.bl _)⟩
    | _ => cases e
  | tup a =>
    cases y with
    | tup b =>
      cases e1 : intsD a with
      | none => simp [ltD, e1] at e
      | some ns =>
        cases e2 : intsD b with
        | none => simp [ltD, e1, e2] at e
        | some ms =>
          simp [ltD, e1, e2] at e
          subst e
          obtain ⟨p, vs, rfl, rr, hp⟩ := r1.tup
          obtain ⟨q, us, rfl, ss, hq⟩ := r2.tup
          cases intsD_ok e1 rr
          cases intsD_ok e2 ss
          exact .inr (.inl ⟨p, q, ns, ms, rfl, rfl, hp, hq, k _ H (Same.refl H) (.bl _)⟩)
    | _ => cases e
  | str a =>
    cases y with
    | str b => cases e; cases r1.str; cases r2.str; exact .inr (.inr ⟨a, b, rfl, rfl, k _ H (Same.refl H) (.bl _)⟩)
    | _ => cases e
  | _ => cases e
end
/-! ### one operand -/
def UnS (K : PySem.W.Frag) (f : D → Option D) (r : V → Hp → VK → Prop) : Prop := ∀ (as : List Addr) (H : Hp) (x z : D) (v : V) (Q : VK), (∀ p, H p = none → p ∉ as) → f x = some z → RT K H as x v →
  (∀ w H', Same H H' → RV K H' as z w → Q w H') → r v H Q
def mUn (f : D → Option D) (ma : M D) : M D := fun ds h => (ma ds h).bind fun x h1 => match f (rd h1 x) with
  | some z => .ok z h1
  | none => .no
def negD : D → Option D
  | .int i => some (.int (-i))
  | _ => none
section
variable {X : Cx} {W : WX} {pos : Pos} {a b c e : Expr} {ma mb mc : M D}
theorem de_un {op : UnaryOp} {f : D → Option D} {r : V → Hp → VK → Prop} (ho : UnR X (unaryOp op) r) (hs : UnS X.K f r) (ha : DE X W a ma) : DE X W (.UnaryOp op a pos) (mUn f ma) :=
  PE.imp (pe_un ho ha) fun σ H Q ⟨as, ds, h, s, p⟩ => ⟨as, ds, h, s, PostE.bindE p fun x h1 v H1 as1 f1 r1 hr1 p1 => by
    cases e : f (rd h1 x) with
    | none => rw [e] at p1; exact p1.elim
    | some z =>
      rw [e] at p1
      exact hs as1 H1 _ z v Q (fun p hp => hr1.notin hp) e (r1.rt hr1) fun w H' sm rw => p1 w H' as1 (.of_same sm) (.val rw) (hr1.same sm)⟩
theorem neg_s : UnS X.K negD (rU fun i => .int (-i)) := by
  intro as H x z v Q n e r k
  cases x with
  | int i => cases e; cases r.int; exact ⟨i, rfl, k _ H (Same.refl H) (.int _)⟩
  | _ => cases e
theorem de_neg (ha : DE X W a ma) : DE X W (.UnaryOp .USub a pos) (mUn negD ma) := de_un un_neg neg_s ha
theorem de_add (ha : DE X W a ma) (hb : DE X W b mb) : DE X W (.BinOp a .Add b pos) (mBin addD ma mb) := de_bin op_addAll add_s ha hb
theorem de_sub (ha : DE X W a ma) (hb : DE X W b mb) : DE X W (.BinOp a .Sub b pos) (mBin subD ma mb) := de_bin op_sub sub_s ha hb
theorem de_mul (ha : DE X W a ma) (hb : DE X W b mb) : DE X W (.BinOp a .Mult b pos) (mBin mulD ma mb) := de_bin op_mulAll mul_s ha hb
theorem de_fdiv (ha : DE X W a ma) (hb : DE X W b mb) : DE X W (.BinOp a .FloorDiv b pos) (mBin fdivD ma mb) := de_bin op_fdivW fdiv_s ha hb
theorem de_mod (ha : DE X W a ma) (hb : DE X W b mb) : DE X W (.BinOp a .Mod b pos) (mBin modD ma mb) := de_bin op_mod mod_s ha hb
theorem de_pow (ha : DE X W a ma) (hb : DE X W b mb) : DE X W (.BinOp a .Pow b pos) (mBin powD ma mb) := de_bin op_powB pow_s ha hb
/-! comparisons by their operator: the rule for a value and for a test -/
structure CmpK (X : Cx) (op : CmpOp) (f : D → D → Option D) : Prop where
  ex : ∃ r, OpR X (compareOp op) r ∧ OpS X.K f r
theorem ck_lt {k : Nat} (hr : Room k X.A) : CmpK X .Lt ltD := ⟨_, op_ltAll hr.units0, lt_s⟩
theorem ck_le : CmpK X .LtE leD := ⟨_, op_le, cmpI_s⟩
theorem ck_gt : CmpK X .Gt gtD := ⟨_, op_gt, cmpI_s⟩
theorem ck_ge : CmpK X .GtE geD := ⟨_, op_ge, cmpI_s⟩
theorem ck_eq {k : Nat} (hr : Room k X.A) : CmpK X .Eq eqD := ⟨_, op_eqG hr.units, eq_s⟩
theorem ck_ne {k : Nat} (hr : Room k X.A) : CmpK X .NotEq neD := ⟨_, op_neG hr.units, ne_s⟩
theorem ck_in {k : Nat} (hr : Room k X.A) : CmpK X .In inD := ⟨_, op_inG hr.units, in_s⟩
theorem ck_notIn {k : Nat} (hr : Room k X.A) : CmpK X .NotIn notInD := ⟨_, op_notInG hr.units, notIn_s⟩
theorem ck_is : CmpK X .Is isND := ⟨_, op_isN, is_s⟩
theorem ck_isNot : CmpK X .IsNot notND := ⟨_, op_notN, isnot_s⟩
theorem de_cm {op : CmpOp} {f : D → D → Option D} (c : CmpK X op f) (ha : DE X W a ma) (hb : DE X W b mb) (hm : behindInMarks op b = false := by first | rfl | exact nomark _ (by decide) (by decide)) : DE X W (.Compare a [op] [b] pos) (mBin f ma mb) := by
  obtain ⟨r, h1, h2⟩ := c.ex
  exact de_cmp h1 h2 hm ha hb
theorem dt_cm {op : CmpOp} {f : D → D → Option D} (c : CmpK X op f) (ha : DE X W a ma) (hb : DE X W b mb) (hm : behindInMarks op b = false := by first | rfl | exact nomark _ (by decide) (by decide)) : DT X W (.Compare a [op] [b] pos) (mTB (mBin f ma mb)) := by
  obtain ⟨r, h1, h2⟩ := c.ex
  exact dt_cmp h1 h2 hm ha hb
/-- a < b < c -/
def mChain (f g : D → D → Option D) (ma mb mc : M D) : M D := fun ds h => (ma ds h).bind fun x h1 => (mb ds h1).bind fun y h2 => match (f (rd h2 x) (rd h2 y)).bind isBl with
  | some true => (mc ds h2).bind fun z h3 => (match (g (rd h3 y) (rd h3 z)).bind isBl with
    | some k => .ok (.bl k) h3
    | none => .no)
  | some false => .ok (.bl false) h2
  | none => .no
theorem isBl_eq {d : D} {b : Bool} (h : isBl d = some b) : d = .bl b := by
  cases d <;> cases h; rfl
end
end DL

set_option Elab.async false
set_option linter.all false
set_option maxRecDepth 100000
set_option maxHeartbeats 4000000
namespace DL
open PySem PySem.Spec PyProof.Rows L2

/-! ### a < b < c -/
section
variable {X : Cx} {W : WX} {pos : Pos} {a b c e : Expr} {es : List Expr} {ma mb mc : M D} {me : M (List D)}
theorem chain_core {f g : D → D → Option D} {r r' : R2} (hs : OpS X.K f r) (hs' : OpS X.K g r') {σ : L2.St} {H : Hp} {Q : VK} (q : teM X.K X.mg W (mChain f g ma mb mc) σ H Q) : tChain r r' (teM X.K X.mg W ma) (teM X.K X.mg W mb) (teM X.K X.mg W mc) σ H Q := by
  obtain ⟨as, ds, h, s, p⟩ := q
  refine ⟨as, ds, h, s, PostE.bindE p fun x h1 v H1 as1 f1 r1 hr1 p1 => ?_⟩
  refine ⟨as1, ds, h1, ⟨s.env.grow f1, hr1⟩, PostE.bindE p1 fun y h2 u H2 as2 f2 r2 hr2 p2 => ?_⟩
  cases e : f (rd h2 x) (rd h2 y) with
  | none => simp only [e, Option.bind_none] at p2; exact p2.elim
  | some z =>
    cases ez : isBl z with
    | none => simp only [e, Option.bind_some, ez] at p2; exact p2.elim
    | some k =>
      have ez' := isBl_eq ez
      subst ez'
      refine hs as2 H2 _ _ _ v u _ (fun p hp => hr2.notin hp) e ((r1.grow f2).rt hr2) (r2.rt hr2) fun w H3 sm rw => ?_
      cases rw
      refine ⟨k, rfl, ?_⟩
      cases k with
      | false =>
        simp only [e, Option.bind_some, ez] at p2
        exact p2 (.bl false) H3 as2 (.of_same sm) (.val (.bl _)) (hr2.same sm)
      | true =>
        simp only [e, Option.bind_some, ez] at p2
        have gs : Grow as2 H2 as2 H3 := .of_same sm
        refine ⟨as2, ds, h2, ⟨s.env.grow (f1.trans (f2.trans gs)), hr2.same sm⟩, PostE.bindE (PostE.grow gs p2) fun z3 h3 w3 H4 as4 f4 r4 hr4 p4 => ?_⟩
        cases e4 : g (rd h3 y) (rd h3 z3) with
        | none => simp only [e4, Option.bind_none] at p4; exact p4.elim
        | some z4 =>
          cases ez4 : isBl z4 with
          | none => simp only [e4, Option.bind_some, ez4] at p4; exact p4.elim
          | some k4 =>
            simp only [e4, Option.bind_some, ez4] at p4
            have e5 := isBl_eq ez4
            subst e5
            exact hs' as4 H4 _ _ _ u w3 Q (fun p hp => hr4.notin hp) e4 ((r2.grow (gs.trans f4)).rt hr4) (r4.rt hr4) fun w H' sm rw => p4 w H' as4 (.of_same sm) (.val rw) (hr4.same sm)
theorem de_chain {op op' : CmpOp} {f g : D → D → Option D} (k : CmpK X op f) (k' : CmpK X op' g) (ha : DE X W a ma) (hb : DE X W b mb) (hc : DE X W c mc) (hm : lastMarks [op, op'] [b, c] = false := by with_unfolding_all rfl) :
    DE X W (.Compare a [op, op'] [b, c] pos) (mChain f g ma mb mc) := by
  obtain ⟨r, h1, h2⟩ := k.ex
  obtain ⟨r', h1', h2'⟩ := k'.ex
  exact PE.imp (pe_chain h1 h1' ha hb hc hm) fun σ H Q q => chain_core h2 h2' q
theorem dt_chain {op op' : CmpOp} {f g : D → D → Option D} (k : CmpK X op f) (k' : CmpK X op' g) (ha : DE X W a ma) (hb : DE X W b mb) (hc : DE X W c mc) (hm : lastMarks [op, op'] [b, c] = false := by with_unfolding_all rfl) :
    DT X W (.Compare a [op, op'] [b, c] pos) (mTB (mChain f g ma mb mc)) := by
  obtain ⟨r, h1, h2⟩ := k.ex
  obtain ⟨r', h1', h2'⟩ := k'.ex
  refine PT.imp (pt_chain h1 h1' ha hb hc hm) fun σ H Q ⟨as, ds, h, s, p⟩ => ?_
  refine chain_core (W := W) h2 h2' ⟨as, ds, h, s, PostT.bindE p fun x h1 v H1 as1 f1 r1 hr1 p1 => ?_⟩
  cases e : isBl x with
  | none => rw [e] at p1; exact p1.elim
  | some k =>
    rw [e] at p1
    exact ⟨k, isBl_ok e r1, p1 H1 as1 .refl hr1⟩
/-! ### a list that is changed later: a cell -/
def mNew (ma : M (List D)) : M D := fun ds h => (ma ds h).bind fun xs h1 => if xs.length ≤ 16777216 ∧ xs.any isLoc = false then .ok (.loc h1.length) (h1 ++ [.lst xs]) else .no
theorem get_snoc {α : Type} {l : List α} {x y : α} {n : Nat} (e : (l ++ [x])[n]? = some y) : (n < l.length ∧ l[n]? = some y) ∨ (n = l.length ∧ x = y) := by
  by_cases hn : n < l.length
  · rw [List.getElem?_append_left hn] at e
    exact .inl ⟨hn, e⟩
  · rw [List.getElem?_append_right (by omega)] at e
    by_cases hz : n - l.length = 0
    · rw [hz] at e
      simp at e
      exact .inr ⟨by omega, e⟩
    · rw [List.getElem?_eq_none (by simp; omega)] at e; cases e
theorem CellR.grow {K : PySem.W.Frag} {H H' : Hp} {as as' : List Addr} (g : Grow as H as' H') {d : D} {a : Addr} (hH : H' a = H a) (r : CellR K H as d a) : CellR K H' as' d a := by
  cases r with
  | lst h r => exact .lst (hH.trans h) (r.grow g)
  | dct h e r => exact .dct (hH.trans h) e (r.grow g)
/-- a new cell -/
theorem HeapR.push {K : PySem.W.Frag} {H : Hp} {as : List Addr} {h : Hs} (r : HeapR K H as h) {q : Addr} (hq : H q = none) {vs : List V} {ds : List D} (rv : RVs K H as ds vs) :
    Grow as H (as ++ [q]) (upd H q (.lst vs)) ∧ HeapR K (upd H q (.lst vs)) (as ++ [q]) (h ++ [.lst ds]) := by
  have g : Grow as H (as ++ [q]) (upd H q (.lst vs)) := ⟨List.prefix_append _ _, fun a ha => by
    rcases List.mem_append.mp ha with z | z
    · exact .inl z
    · rw [List.mem_singleton.mp z]; exact .inr hq, .of_same (same_upd hq)⟩
  have nq := r.notin hq
  refine ⟨g, ⟨by simp [r.len], ?_, fun n d a e1 e2 => ?_⟩⟩
  · rw [List.nodup_append]
    exact ⟨r.nd, by simp, fun a ha b hb e => nq (by rw [List.mem_singleton.mp hb] at e; rw [← e]; exact ha)⟩
  · rcases get_snoc e1 with ⟨l1, q1⟩ | ⟨l1, q1⟩
    · rcases get_snoc e2 with ⟨l2, q2⟩ | ⟨l2, q2⟩
      · exact (r.at_ n d a q1 q2).grow g (upd_ne fun z => nq (by rw [← z]; exact List.mem_of_getElem? q2))
      · exact absurd l1 (by rw [l2, r.len]; omega)
    · rcases get_snoc e2 with ⟨l2, q2⟩ | ⟨l2, q2⟩
      · exact absurd l2 (by rw [l1, r.len]; omega)
      · subst q1 q2
        exact .lst upd_same (rv.grow g)
theorem de_new (h : DA X W es me) : DE X W (.List es pos) (mNew me) :=
  PE.imp (pe_lst h) fun σ H Q ⟨as, ds, h, s, p⟩ => ⟨as, ds, h, s, PostE.bindA p fun xs h1 vs H1 as1 f1 r1 hr1 p1 => by
    by_cases hc : xs.length ≤ 16777216 ∧ xs.any isLoc = false
    · rw [if_pos hc] at p1
      refine ⟨by rw [sizeLine_eq, ← r1.length]; exact hc.1, fun q hq => ?_⟩
      obtain ⟨g, hp⟩ := hr1.push hq (r1.rvs hc.2)
      exact p1 (.ref q) _ _ g (.loc (by rw [← hr1.len]; simp)) hp
    · rw [if_neg hc] at p1; exact p1.elim⟩
theorem nodup_at {α : Type} {l : List α} (hN : l.Nodup) {i j : Nat} {x : α} (a : l[i]? = some x) (b : l[j]? = some x) : i = j := by
  obtain ⟨h1, e1⟩ := List.getElem?_eq_some_iff.mp a
  obtain ⟨h2, e2⟩ := List.getElem?_eq_some_iff.mp b
  exact (List.getElem_inj hN).mp (e1.trans e2.symm)
/-- a cell's list is another one now -/
theorem HeapR.write {K : PySem.W.Frag} {H : Hp} {as : List Addr} {h : Hs} (r : HeapR K H as h) {n : Nat} {q : Addr} (e : as[n]? = some q) {vs : List V} {ds : List D} (rv : RVs K H as ds vs) :
    Grow as H as (upd H q (.lst vs)) ∧ HeapR K (upd H q (.lst vs)) as (h.set n (.lst ds)) := by
  have hq : q ∈ as := List.mem_of_getElem? e
  have g : Grow as H as (upd H q (.lst vs)) := .of_fr fun b o hb hc => by
    have nb : b ≠ q := fun z => by
      subst z
      obtain ⟨o', h1, h2⟩ := r.there hq
      rw [hb] at h1; cases h1
      rw [hc hq] at h2; cases h2
    rw [upd_ne nb]; exact hb
  refine ⟨g, ⟨by simp [r.len], r.nd, fun m d a e1 e2 => ?_⟩⟩
  by_cases hm : n = m
  · subst hm
    rw [e] at e2; cases e2
    have hl : n < h.length := by rw [← r.len]; exact (List.getElem?_eq_some_iff.mp e).1
    rw [List.getElem?_set_self hl] at e1
    cases e1
    exact .lst upd_same (rv.grow g)
  · rw [List.getElem?_set_ne hm] at e1
    refine (r.at_ m d a e1 e2).grow g (upd_ne fun z => hm ?_)
    subst z
    exact nodup_at r.nd e e2
/-! ### cells forgotten -/
theorem RV.shrink {K : PySem.W.Frag} {H : Hp} {as as' : List Addr} (h : ∀ a ∈ as, a ∈ as') : ∀ {d : D} {v : V}, RV K H as' d v → RV K H as d v := fun {d v} r => by
  refine RV.rec (motive_1 := fun d v _ => RV K H as d v) (motive_2 := fun ds vs _ => RVs K H as ds vs) .non .bl .int .str .ty (fun a _ r => .tup a r) (fun a n _ r => .lst a (fun z => n (h _ z)) r) (fun a _ r => .frz a r) (fun a n e _ r => .dct a (fun z => n (h _ z)) e r) .nil (fun _ _ r1 r2 => .cons r1 r2) r
theorem RVs.shrink {K : PySem.W.Frag} {H : Hp} {as as' : List Addr} (h : ∀ a ∈ as, a ∈ as') : ∀ {d : List D} {v : List V}, RVs K H as' d v → RVs K H as d v
  | _, _, .nil => .nil
  | _, _, .cons a b => .cons (a.shrink h) (RVs.shrink h b)
theorem HeapR.take {K : PySem.W.Frag} {H : Hp} {as : List Addr} {h : Hs} (r : HeapR K H as h) (n : Nat) : HeapR K H (as.take n) (h.take n) := by
  refine ⟨by simp [r.len], r.nd.sublist (List.take_sublist _ _), fun m d a e1 e2 => ?_⟩
  have hm : m < n := by
    have := (List.getElem?_eq_some_iff.mp e1).1
    rw [List.length_take] at this
    omega
  rw [List.getElem?_take, if_pos hm] at e1 e2
  have sub : ∀ b ∈ as.take n, b ∈ as := fun b hb => List.mem_of_mem_take hb
  cases r.at_ m d a e1 e2 with
  | lst h q => exact .lst h (q.shrink sub)
  | dct h e q => exact .dct h e (q.shrink sub)
theorem pre_take {α : Type} {l l' : List α} (h : l <+: l') : l'.take l.length = l := by
  obtain ⟨t, rfl⟩ := h
  simp
theorem HeapR.back {K : PySem.W.Frag} {H H' : Hp} {as as' : List Addr} {h : Hs} (g : Grow as H as' H') (r : HeapR K H' as' h) : HeapR K H' as (h.take as.length) := by
  have := r.take as.length
  rw [pre_take g.pre] at this
  exact this
theorem Grow.sub {as as' : List Addr} {H H' : Hp} (g : Grow as H as' H') : ∀ a ∈ as, a ∈ as' := fun a ha => by
  obtain ⟨t, rfl⟩ := g.pre
  exact List.mem_append_left _ ha
theorem Grow.back {as as' : List Addr} {H H' : Hp} (g : Grow as H as' H') : Grow as H as H' := .of_fr g.fr
end

/-! ### defs -/
section
variable (K : PySem.W.Frag) (mg : Str → Option Value)
def PostC (as : List Addr) (H : Hp) (r : R D) (Q : VK) (E : XK) : Prop := match r with
  | .ok d h => ∀ v H' as', Grow as H as' H' → RD K H' as' d v → HeapR K H' as' h → Q v H'
  | .ex c p h => ∀ cls dx H' as', Grow as H as' H' → HeapR K H' as' h → ExR K mg H' as' c p cls dx → E cls dx H'
  | .no => False
def spD (np : Nat) (F : List D → Hs → R D) : Sp := fun vs H Q E => vs.length = np ∧ ∃ as ds h, RDs K H as ds vs ∧ HeapR K H as h ∧ PostC K mg as H (F ds h) Q E
end
structure FD (P : Program) (w : World) (K : PySem.W.Frag) (mg : Str → Option Value) (base : Heap) (k : Nat) (x : Str) (np : Nat) (F : List D → Hs → R D) : Prop where
  ex : ∃ f fd ps, mg x = some (.ref f) ∧ PySem.W.keepIn K (.ref f) = true ∧ Binds K fd ps [] ∧ FnOk P w K mg base (L2.CX P w) k f fd ps (spD K mg np F)
def mCall (np : Nat) (F : List D → Hs → R D) (me : M (List D)) : M D := fun ds h => (me ds h).bind fun xs h1 => if xs.length = np then F xs h1 else .no
section
variable {X : Cx} {W : WX} {pos p : Pos} {a b c e : Expr} {es : List Expr} {ma mb mc : M D} {me : M (List D)}
theorem PostC.ofE {K : PySem.W.Frag} {mg : Str → Option Value} {as : List Addr} {σ : L2.St} {H : Hp} {r : R D} {Q : VK} (p : PostE K mg W as σ H r Q) : PostC K mg as H r Q (WE W σ) := by
  cases r with
  | ok d h => exact p
  | ex c q h => exact fun cls dx H' as' g hr x => p cls dx H' as' g hr x
  | no => exact p
theorem de_call {k np : Nat} {x : Str} {F : List D → Hs → R D} (G : FD X.prog X.w X.K X.mg X.base k x np F) (hr : Room k X.A) (tk : Takes X W) (ha : DA X W (e :: es) me) (hg : Gl X x := by rfl) (hdb : (x == ("__debug__" : Str)) = false := by decide)
    (he : starEach (e :: es) X.env = (false, eval e X.env) :: starEach es X.env := by rfl) (hpl : (backTo pos (starEach es X.env)).any (·.1) = false := by rfl) : DE X W (.Call (.Name x p) (e :: es) [] pos) (mCall np F me) := by
  obtain ⟨f, fd, ps, hm, hk, hb, ok⟩ := G.ex
  refine PE.imp (pe_callSD (dvs := []) (E := WE W) ok hr hg hm hk hb .nil (fun σ => passAt tk σ) ha hdb he hpl) fun σ H Q ⟨as, ds, h, s, q⟩ => ?_
  refine ⟨as, ds, h, s, PostE.bindA q fun xs h1 vs H1 as1 f1 r1 hr1 p1 => ?_⟩
  by_cases hn : xs.length = np
  · rw [if_pos hn] at p1
    rw [List.append_nil]
    exact ⟨by rw [← r1.length]; exact hn, as1, xs, h1, r1, hr1, PostC.ofE p1⟩
  · rw [if_neg hn] at p1; exact p1.elim
end

/-! ### built-ins -/
def CallS (K : PySem.W.Frag) (f : List D → Option D) (r : List V → Hp → VK → Prop) : Prop := ∀ (as : List Addr) (H : Hp) (xs : List D) (z : D) (vs : List V) (Q : VK), (∀ p, H p = none → p ∉ as) → f xs = some z → Paired (RT K H as) xs vs →
  (∀ w H', Same H H' → RV K H' as z w → Q w H') → r vs H Q
def mB (f : List D → Option D) (me : M (List D)) : M D := fun ds h => (me ds h).bind fun xs h1 => match f (xs.map (rd h1)) with
  | some z => .ok z h1
  | none => .no
theorem RDs.rts {K : PySem.W.Frag} {H : Hp} {as : List Addr} {h : Hs} (s : HeapR K H as h) : ∀ {ds : List D} {vs : List V}, RDs K H as ds vs → Paired (RT K H as) (ds.map (rd h)) vs
  | _, _, .nil => .nil
  | _, _, .cons r t => .cons (r.rt s) (RDs.rts s t)
theorem rts1 {K : PySem.W.Frag} {H : Hp} {as : List Addr} {x : D} {vs : List V} (r : Paired (RT K H as) [x] vs) : ∃ v, vs = [v] ∧ RT K H as x v := by
  cases r with
  | cons r t => cases t; exact ⟨_, rfl, r⟩
theorem rts2 {K : PySem.W.Frag} {H : Hp} {as : List Addr} {x y : D} {vs : List V} (r : Paired (RT K H as) [x, y] vs) : ∃ v u, vs = [v, u] ∧ RT K H as x v ∧ RT K H as y u := by
  cases r with
  | cons r t => cases t with
    | cons r2 t => cases t; exact ⟨_, _, rfl, r, r2⟩
section
variable {X : Cx} {W : WX} {pos p : Pos} {e : Expr} {es : List Expr} {me : M (List D)} {x : Str} {id : String}
theorem de_callB {f : List D → Option D} {r : List V → Hp → VK → Prop} (hc : CallR X (.builtin id) r) (hs : CallS X.K f r) (hm : X.mg x = none) (hv : bootBuiltins x = some (.builtin id)) (ha : DA X W (e :: es) me) (hg : Gl X x := by rfl) (hn : x ≠ "__name__" := by decide) (hdb : (x == ("__debug__" : Str)) = false := by decide)
    (he : starEach (e :: es) X.env = (false, eval e X.env) :: starEach es X.env := by rfl) (hpl : (backTo pos (starEach es X.env)).any (·.1) = false := by rfl) : DE X W (.Call (.Name x p) (e :: es) [] pos) (mB f me) :=
  PE.imp (pe_callB hc hg hm hv ha hn hdb he hpl) fun σ H Q ⟨as, ds, h, s, q⟩ => ⟨as, ds, h, s, PostE.bindA q fun xs h1 vs H1 as1 f1 r1 hr1 p1 => by
    cases e : f (xs.map (rd h1)) with
    | none => rw [e] at p1; exact p1.elim
    | some z =>
      rw [e] at p1
      exact hs as1 H1 _ z vs Q (fun p hp => hr1.notin hp) e (r1.rts hr1) fun w H' sm rw => p1 w H' as1 (.of_same sm) (.val rw) (hr1.same sm)⟩
theorem de_callT {f : List D → Option D} {r : List V → Hp → VK → Prop} (hc : CallR X (.type id) r) (hs : CallS X.K f r) (hm : X.mg x = none) (hv : bootBuiltins x = some (.type id)) (ha : DA X W (e :: es) me) (hg : Gl X x := by rfl) (hn : x ≠ "__name__" := by decide) (hdb : (x == ("__debug__" : Str)) = false := by decide)
    (he : starEach (e :: es) X.env = (false, eval e X.env) :: starEach es X.env := by rfl) (hpl : (backTo pos (starEach es X.env)).any (·.1) = false := by rfl) : DE X W (.Call (.Name x p) (e :: es) [] pos) (mB f me) :=
  PE.imp (pe_callTy hc hg hm hv ha hn hdb he hpl) fun σ H Q ⟨as, ds, h, s, q⟩ => ⟨as, ds, h, s, PostE.bindA q fun xs h1 vs H1 as1 f1 r1 hr1 p1 => by
    cases e : f (xs.map (rd h1)) with
    | none => rw [e] at p1; exact p1.elim
    | some z =>
      rw [e] at p1
      exact hs as1 H1 _ z vs Q (fun p hp => hr1.notin hp) e (r1.rts hr1) fun w H' sm rw => p1 w H' as1 (.of_same sm) (.val rw) (hr1.same sm)⟩
/-- a built-in class as a value -/
theorem de_ty {n : String} (hm : X.mg x = none) (hv : bootBuiltins x = some (.type n)) (hg : Gl X x := by rfl) (hn : x ≠ "__name__" := by decide) (hdb : (x == ("__debug__" : Str)) = false := by decide) : DE X W (.Name x pos) (mC (.ty n)) :=
  de_c (pe_bltn hg hm hv (v := .ty n) rfl hn hdb) fun _ _ _ => .ty n
end
end DL

set_option Elab.async false
set_option linter.all false
set_option maxRecDepth 100000
set_option maxHeartbeats 4000000
namespace DL
open PySem PySem.Spec PyProof.Rows L2
def on1 (f : D → Option D) : List D → Option D
  | [x] => f x
  | _ => none
def on2 (f : D → D → Option D) : List D → Option D
  | [x, y] => f x y
  | _ => none
def len1 : D → Option D
  | .tup l => some (.int l.length)
  | .lst l => some (.int l.length)
  | .frz l => some (.int l.length)
  | .str s => if s.length ≤ 16777216 then some (.int s.length) else none
  | .dct ks _ => some (.int ks.length)
  | _ => none
def abs1 : D → Option D
  | .int i => some (.int (if i < 0 then -i else i))
  | _ => none
def max2 : D → D → Option D
  | .int i, .int j => some (.int (if j > i then j else i))
  | _, _ => none
def min2 : D → D → Option D
  | .int i, .int j => some (.int (if j < i then j else i))
  | _, _ => none
def toInt1 : D → Option D
  | .int i => some (.int i)
  | .bl b => some (.int (if b then 1 else 0))
  | _ => none
def blsD : List D → Option (List Bool)
  | [] => some []
  | .bl b :: r => (blsD r).map (b :: ·)
  | _ :: _ => none
def all1 : D → Option D
  | .lst l => (blsD l).map fun bs => .bl (bs.all id)
  | _ => none
def any1 : D → Option D
  | .lst l => (blsD l).map fun bs => .bl (bs.any id)
  | _ => none
def sum1 : D → Option D
  | .lst l => (intsD l).map fun ns => .int ns.sum
  | _ => none
def toTup1 : D → Option D
  | .lst l => some (.tup l)
  | .tup l => some (.tup l)
  | _ => none
def toLst1 : D → Option D
  | .lst l => some (.lst l)
  | .frz l => some (.lst l)
  | .tup l => some (.lst l)
  | _ => none
def tyN : D → Option String
  | .non => some "NoneType"
  | .bl _ => some "bool"
  | .int _ => some "int"
  | .str _ => some "str"
  | .tup _ => some "tuple"
  | .lst _ => some "list"
  | .frz _ => some "list"
  | .dct _ _ => some "dict"
  | _ => none
def isT2 (t c : String) : Option Bool :=
  if (["int", "bool", "str", "tuple", "list", "dict"] : List String).contains c then some (t == c || (t == "bool" && c == "int")) else none
def isi2 : D → D → Option D
  | x, .ty c => (match tyN x with
    | some t => (isT2 t c).map .bl
    | none => none)
  | _, _ => none
def repr1 : D → Option D
  | .bl b => some (.str (if b then "True" else "False"))
  | .non => some (.str "None")
  | .int i => if i.natAbs.log2 < 1920 then some (.str (toString i)) else none
  | .str s => if (reprText s).length ≤ 16777216 then some (.str (reprText s)) else none
  | _ => none
def divmod2 : D → D → Option D
  | .int i, .int j => if 0 < j ∧ Builtin.Int.intBits i ≤ Builtin.Int.intBits j + 4000 then some (.tup [.int (i / j), .int (i % j)]) else none
  | _, _ => none
def gcd2 : D → D → Option D
  | .int i, .int j => some (.int ((Nat.gcd i.natAbs j.natAbs : Nat) : Int))
  | _, _ => none
theorem blsD_ok {K : PySem.W.Frag} {H : Hp} {as : List Addr} : ∀ {ds : List D} {vs : List V} {ns : List Bool}, blsD ds = some ns → RVs K H as ds vs → vs = ns.map V.bl
  | [], _, _, e, r => by cases e; cases r; rfl
  | d :: ds, _, ns, e, r => by
    cases d with
    | bl i =>
      cases e2 : blsD ds with
      | none => simp [blsD, e2] at e
      | some ms =>
        simp [blsD, e2] at e
        subst e
        cases r with
        | cons r1 r2 =>
          cases r1
          rw [blsD_ok e2 r2]; rfl
    | _ => cases e
theorem RT.tyx {K : PySem.W.Frag} {H : Hp} {as : List Addr} {d : D} {v : V} {t : String} (e : tyN d = some t) (r : RT K H as d v) : TyX K H v (.type t) := by
  cases r with
  | val r =>
    cases r with
    | non => cases e; exact .base .non
    | bl b => cases e; exact .base (.bl b)
    | int i => cases e; exact .base (.int i)
    | str s => cases e; exact .base (.str s)
    | ty n => cases e
    | tup h r =>
      cases e
      rcases h with (h | ⟨o, h⟩) | ⟨o, its, n, h1, h2, _⟩
      · exact .base (.tup h)
      · exact .fTuple h
      · exact .kTuple h1 h2
    | lst h n r => cases e; exact .base (.lst h)
    | frz h r =>
      cases e
      rcases h with ⟨o, h⟩ | ⟨o, its, n, h1, h2, _⟩
      · exact .base (.frz h)
      · exact .kList h1 h2
    | dct h n _ _ => cases e; exact .base (.dK h)
  | cell r =>
    cases r with
    | lst h r => cases e; exact .base (.lst h)
    | dct h _ _ => cases e; exact .base (.dK h)
/-- the table of isinstance -/
theorem isT2_ok {t c : String} {b : Bool} {K : PySem.W.Frag} (ht : t ∈ (["NoneType", "bool", "int", "str", "tuple", "list", "dict"] : List String)) (h : isT2 t c = some b) : PySem.W.kitOne K (.type t) (.type c) = some b := by
  unfold isT2 at h
  by_cases hc : (["int", "bool", "str", "tuple", "list", "dict"] : List String).contains c = true
  · rw [if_pos hc] at h
    have key : ∀ t ∈ (["NoneType", "bool", "int", "str", "tuple", "list", "dict"] : List String), ∀ c ∈ (["int", "bool", "str", "tuple", "list", "dict"] : List String), kitB t c = some (t == c || (t == "bool" && c == "int")) := by decide +kernel
    cases h
    exact kit_ty (key t ht c (by simpa using hc))
  · rw [if_neg hc] at h; cases h
theorem tyN_mem {d : D} {t : String} (e : tyN d = some t) : t ∈ (["NoneType", "bool", "int", "str", "tuple", "list", "dict"] : List String) := by
  cases d <;> first | (cases e; done) | (cases e; decide)
abbrev RC := List V → Hp → VK → Prop
def C1 (K : PySem.W.Frag) (f : D → Option D) (r : RC) : Prop := ∀ (as : List Addr) (H : Hp) (x z : D) (v : V) (Q : VK), (∀ p, H p = none → p ∉ as) → f x = some z → RT K H as x v → (∀ w H', Same H H' → RV K H' as z w → Q w H') → r [v] H Q
def C2 (K : PySem.W.Frag) (f : D → D → Option D) (r : RC) : Prop := ∀ (as : List Addr) (H : Hp) (x y z : D) (v u : V) (Q : VK), (∀ p, H p = none → p ∉ as) → f x y = some z → RT K H as x v → RT K H as y u → (∀ w H', Same H H' → RV K H' as z w → Q w H') → r [v, u] H Q
theorem C1.s {K : PySem.W.Frag} {f : D → Option D} {r : RC} (c : C1 K f r) : CallS K (on1 f) r := by
  intro as H xs z vs Q n e hr k
  cases hr with
  | nil => cases e
  | cons r1 t =>
    cases t with
    | nil => exact c as H _ z _ Q n e r1 k
    | cons _ _ => cases e
theorem C2.s {K : PySem.W.Frag} {f : D → D → Option D} {r : RC} (c : C2 K f r) : CallS K (on2 f) r := by
  intro as H xs z vs Q n e hr k
  cases hr with
  | nil => cases e
  | cons r1 t =>
    cases t with
    | nil => cases e
    | cons r2 t =>
      cases t with
      | nil => exact c as H _ _ z _ _ Q n e r1 r2 k
      | cons _ _ => cases e
section
variable {K : PySem.W.Frag} {X : Cx}
abbrev rLenAll (K : PySem.W.Frag) : RC := fun xs H Q => (∃ p ys, xs = [.ref p] ∧ (SqL K H p ys ∨ SqT K H p ys) ∧ Q (.int ys.length) H) ∨ (∃ z, xs = [.str z] ∧ z.length ≤ sizeLine ∧ Q (.int z.length) H) ∨ ∃ (d : Addr) (kvs : List (Key × V)), xs = [.ref d] ∧ H d = some (.dK kvs) ∧ Q (.int kvs.length) H
theorem c_len : C1 K len1 (rLenAll K) := by
  intro as H x z v Q n e r k
  have seq : ∀ l, (x = .lst l ∨ x = .tup l ∨ x = .frz l) → z = .int l.length → rLenAll K [v] H Q := fun l hl hz => by
    obtain ⟨a, vs, rfl, rr, h⟩ := r.seq hl
    subst hz
    exact .inl ⟨a, vs, rfl, h, by rw [← rr.length]; exact k _ H (Same.refl H) (.int _)⟩
  cases x with
  | tup l => cases e; exact seq l (by simp) rfl
  | lst l => cases e; exact seq l (by simp) rfl
  | frz l => cases e; exact seq l (by simp) rfl
  | str s =>
    cases r.str
    by_cases hs : s.length ≤ 16777216
    · rw [len1, if_pos hs] at e; cases e
      exact .inr (.inl ⟨s, rfl, by rw [sizeLine_eq]; exact hs, k _ H (Same.refl H) (.int _)⟩)
    · rw [len1, if_neg hs] at e; cases e
  | dct ks ds =>
    cases e
    have fin : ∀ (a : Addr) (kvs : List (Key × V)), v = .ref a → H a = some (.dK kvs) → kvs.map (fun p => kD p.1) = ks → rLenAll K [v] H Q := fun a kvs e1 e2 e3 => by
      subst e1 e3
      have := k _ H (Same.refl H) (.int _)
      rw [List.length_map] at this
      exact .inr (.inr ⟨a, kvs, rfl, e2, this⟩)
    cases r with
    | val r => cases r with
      | dct h _ e _ => exact fin _ _ rfl h e
    | cell r => cases r with
      | dct h e _ => exact fin _ _ rfl h e
  | _ => cases e
theorem c_abs : C1 K abs1 (fun xs H Q => ∃ i, xs = [.int i] ∧ Q (.int (if i < 0 then -i else i)) H) := by
  intro as H x z v Q n e r k
  cases x with
  | int i => cases e; cases r.int; exact ⟨i, rfl, k _ H (Same.refl H) (.int _)⟩
  | _ => cases e
theorem c_max : C2 K max2 (fun xs H Q => ∃ i j, xs = [.int i, .int j] ∧ Q (.int (if j > i then j else i)) H) := by
  intro as H x y z v u Q n e r1 r2 k
  cases x with
  | int i => cases y with
    | int j => cases e; cases r1.int; cases r2.int; exact ⟨i, j, rfl, k _ H (Same.refl H) (.int _)⟩
    | _ => cases e
  | _ => cases e
theorem c_min : C2 K min2 (fun xs H Q => ∃ i j, xs = [.int i, .int j] ∧ Q (.int (if j < i then j else i)) H) := by
  intro as H x y z v u Q n e r1 r2 k
  cases x with
  | int i => cases y with
    | int j => cases e; cases r1.int; cases r2.int; exact ⟨i, j, rfl, k _ H (Same.refl H) (.int _)⟩
    | _ => cases e
  | _ => cases e
theorem c_int : C1 K toInt1 (fun xs H Q => (∃ i, xs = [.int i] ∧ Q (.int i) H) ∨ ∃ k, xs = [.bl k] ∧ Q (.int (if k then 1 else 0)) H) := by
  intro as H x z v Q n e r k
  cases x with
  | int i => cases e; cases r.int; exact .inl ⟨i, rfl, k _ H (Same.refl H) (.int _)⟩
  | bl b => cases e; cases r.bl; exact .inr ⟨b, rfl, k _ H (Same.refl H) (.int _)⟩
  | _ => cases e
theorem c_all : C1 K all1 (rAll K) := by
  intro as H x z v Q n e r k
  cases x with
  | lst l =>
    cases e2 : blsD l with
    | none => simp [all1, e2] at e
    | some bs =>
      simp [all1, e2] at e
      subst e
      obtain ⟨a, vs, rfl, rr, h⟩ := r.lst
      cases blsD_ok e2 rr
      exact ⟨a, bs, rfl, SqL.of h, by have := k _ H (Same.refl H) (.bl _); simpa using this⟩
  | _ => cases e
theorem c_any : C1 K any1 (rAny K) := by
  intro as H x z v Q n e r k
  cases x with
  | lst l =>
    cases e2 : blsD l with
    | none => simp [any1, e2] at e
    | some bs =>
      simp [any1, e2] at e
      subst e
      obtain ⟨a, vs, rfl, rr, h⟩ := r.lst
      cases blsD_ok e2 rr
      exact ⟨a, bs, rfl, SqL.of h, by have := k _ H (Same.refl H) (.bl _); simpa using this⟩
  | _ => cases e
theorem c_sum : C1 K sum1 (rSum K) := by
  intro as H x z v Q n e r k
  cases x with
  | lst l =>
    cases e2 : intsD l with
    | none => simp [sum1, e2] at e
    | some bs =>
      simp [sum1, e2] at e
      subst e
      obtain ⟨a, vs, rfl, rr, h⟩ := r.lst
      cases intsD_ok e2 rr
      exact ⟨a, bs, rfl, SqL.of h, by have := k _ H (Same.refl H) (.int _); simpa using this⟩
  | _ => cases e
theorem c_tup : C1 K toTup1 (fun xs H Q => ∃ p ys, xs = [.ref p] ∧ ((SqL K H p ys ∧ ∀ l, H l = none → Q (.ref l) (upd H l (.tup ys))) ∨ (SqT K H p ys ∧ Q (.ref p) H))) := by
  intro as H x z v Q n e r k
  cases x with
  | lst l =>
    cases e
    obtain ⟨a, vs, rfl, rr, h⟩ := r.lst
    refine ⟨a, vs, rfl, .inl ⟨SqL.of h, fun q hq => ?_⟩⟩
    have sm := same_upd (o := .tup vs) hq
    exact k _ _ sm (.tup (SqT.of upd_same) (rr.same sm))
  | tup l =>
    cases e
    obtain ⟨a, vs, rfl, rr, h⟩ := r.tup
    exact ⟨a, vs, rfl, .inr ⟨h, k _ H (Same.refl H) (.tup h rr)⟩⟩
  | _ => cases e
theorem c_lst : C1 K toLst1 (fun xs H Q => ∃ p ys, xs = [.ref p] ∧ (SqL K H p ys ∨ SqT K H p ys) ∧ ∀ l, H l = none → Q (.ref l) (upd H l (.lst ys))) := by
  intro as H x z v Q n e r k
  have seq : ∀ l, (x = .lst l ∨ x = .tup l ∨ x = .frz l) → z = .lst l → ∃ p ys, [v] = [V.ref p] ∧ (SqL K H p ys ∨ SqT K H p ys) ∧ ∀ l, H l = none → Q (.ref l) (upd H l (.lst ys)) := fun l hl hz => by
    obtain ⟨a, vs, rfl, rr, h⟩ := r.seq hl
    subst hz
    refine ⟨a, vs, rfl, h, fun q hq => ?_⟩
    have sm := same_upd (o := .lst vs) hq
    exact k _ _ sm (.lst upd_same (n q hq) (rr.same sm))
  cases x with
  | tup l => cases e; exact seq l (by simp) rfl
  | lst l => cases e; exact seq l (by simp) rfl
  | frz l => cases e; exact seq l (by simp) rfl
  | _ => cases e
theorem c_isi : C2 K isi2 (rIsi K) := by
  intro as H x y z v u Q n e r1 r2 k
  cases y with
  | ty c =>
    cases r2.ty
    cases e1 : tyN x with
    | none => simp [isi2, e1] at e
    | some t =>
      cases e2 : isT2 t c with
      | none => simp [isi2, e1, e2] at e
      | some b =>
        simp [isi2, e1, e2] at e
        subst e
        exact ⟨v, .ty c, .type t, .type c, b, rfl, .ty c, r1.tyx e1, isT2_ok (tyN_mem e1) e2, k _ H (Same.refl H) (.bl _)⟩
  | _ => cases e
theorem c_divmod : C2 K divmod2 (fun xs H Q => ∃ i j, xs = [.int i, .int j] ∧ CDivP i j ∧ ∀ p, H p = none → Q (.ref p) (upd H p (.tup [.int (i / j), .int (i % j)]))) := by
  intro as H x y z v u Q n e r1 r2 k
  cases x with
  | int i => cases y with
    | int j =>
      by_cases hc : 0 < j ∧ Builtin.Int.intBits i ≤ Builtin.Int.intBits j + 4000
      · rw [divmod2, if_pos hc] at e; cases e; cases r1.int; cases r2.int
        refine ⟨i, j, rfl, divp_ok hc.1 hc.2, fun q hq => ?_⟩
        have sm := same_upd (o := .tup [.int (i / j), .int (i % j)]) hq
        exact k _ _ sm (.tup (SqT.of upd_same) (.cons (.int _) (.cons (.int _) .nil)))
      · rw [divmod2, if_neg hc] at e; cases e
    | _ => cases e
  | _ => cases e
theorem c_gcd : C2 K gcd2 rGcd := by
  intro as H x y z v u Q n e r1 r2 k
  cases x with
  | int i => cases y with
    | int j => cases e; cases r1.int; cases r2.int; exact ⟨i, j, rfl, k _ H (Same.refl H) (.int _)⟩
    | _ => cases e
  | _ => cases e
abbrev rRepr1 : RC := fun xs H Q => (∃ b, xs = [.bl b] ∧ Q (.str (if b then "True" else "False")) H) ∨ (xs = [.non] ∧ Q (.str "None") H) ∨ (∃ i, xs = [.int i] ∧ i.natAbs.log2 < 1920 ∧ Q (.str (toString i)) H) ∨ ∃ s, xs = [.str s] ∧ (reprText s).length ≤ sizeLine ∧ Q (.str (reprText s)) H
theorem call_repr1 : CallR X (.builtin "repr") rRepr1 := by
  intro pins s σ H xs us Q I r h
  rcases h with ⟨b, rfl, q⟩ | ⟨rfl, q⟩ | ⟨i, rfl, hz, q⟩ | ⟨x, rfl, hz, q⟩
  · obtain ⟨u, rfl, hu⟩ := vals1 r
    cases hu
    exact PySem.P.repr_of_bool ⟨.str _, H, I.tok _, ⟨_, rfl⟩, q⟩
  · obtain ⟨u, rfl, hu⟩ := vals1 r
    cases hu
    exact PySem.P.repr_of_none ⟨.str _, H, I.tok _, ⟨_, rfl⟩, q⟩
  · obtain ⟨u, rfl, t, rfl⟩ := vals1 r
    exact PySem.P.repr_of_int hz ⟨.str _, H, I.tok _, ⟨_, rfl⟩, q⟩
  · obtain ⟨u, rfl, t, rfl⟩ := vals1 r
    exact PySem.P.repr_of_str ⟨.str _, H, I.tok _, ⟨_, rfl⟩, q⟩ hz
theorem c_repr : C1 K repr1 rRepr1 := by
  intro as H x z v Q n e r k
  cases x with
  | bl b => cases e; cases r.bl; exact .inl ⟨b, rfl, k _ H (Same.refl H) (.str _)⟩
  | non => cases e; cases r.non; exact .inr (.inl ⟨rfl, k _ H (Same.refl H) (.str _)⟩)
  | int i =>
    by_cases hc : i.natAbs.log2 < 1920
    · rw [repr1, if_pos hc] at e; cases e; cases r.int; exact .inr (.inr (.inl ⟨i, rfl, hc, k _ H (Same.refl H) (.str _)⟩))
    · rw [repr1, if_neg hc] at e; cases e
  | str s =>
    by_cases hc : (reprText s).length ≤ 16777216
    · rw [repr1, if_pos hc] at e; cases e; cases r.str; exact .inr (.inr (.inr ⟨s, rfl, by rw [sizeLine_eq]; exact hc, k _ H (Same.refl H) (.str _)⟩))
    · rw [repr1, if_neg hc] at e; cases e
  | _ => cases e
end
/-! ### the calls as they are written -/
section
variable {X : Cx} {W : WX} {pos p : Pos} {e : Expr} {es : List Expr} {me : M (List D)} {x : Str}
/-- a built-in by its name: what is asked of the module: the name is free -/
structure Bi (X : Cx) (x : Str) (f : List D → Option D) : Prop where
  ex : (∃ id r, CallR X (.builtin id) r ∧ CallS X.K f r ∧ X.mg x = none ∧ bootBuiltins x = some (.builtin id)) ∨ (∃ id r, CallR X (.type id) r ∧ CallS X.K f r ∧ X.mg x = none ∧ bootBuiltins x = some (.type id)) ∨
    ∃ id r, CallR X (.builtin id) r ∧ CallS X.K f r ∧ X.mg x = some (.builtin id)
theorem de_bi {f : List D → Option D} (B : Bi X x f) (ha : DA X W (e :: es) me) (hg : Gl X x := by rfl) (hn : x ≠ "__name__" := by decide) (hdb : (x == ("__debug__" : Str)) = false := by decide)
    (he : starEach (e :: es) X.env = (false, eval e X.env) :: starEach es X.env := by rfl) (hpl : (backTo pos (starEach es X.env)).any (·.1) = false := by rfl) : DE X W (.Call (.Name x p) (e :: es) [] pos) (mB f me) := by
  rcases B.ex with ⟨id, r, h1, h2, h3, h4⟩ | ⟨id, r, h1, h2, h3, h4⟩ | ⟨id, r, h1, h2, h3⟩
  · exact de_callB h1 h2 h3 h4 ha hg hn hdb he hpl
  · exact de_callT h1 h2 h3 h4 ha hg hn hdb he hpl
  · refine PE.imp (pe_callBfun h1 hg h3 ha hdb he hpl) fun σ H Q ⟨as, ds, h, s, q⟩ => ⟨as, ds, h, s, PostE.bindA q fun xs h1 vs H1 as1 f1 r1 hr1 p1 => ?_⟩
    cases e : f (xs.map (rd h1)) with
    | none => rw [e] at p1; exact p1.elim
    | some z =>
      rw [e] at p1
      exact h2 as1 H1 _ z vs Q (fun p hp => hr1.notin hp) e (r1.rts hr1) fun w H' sm rw => p1 w H' as1 (.of_same sm) (.val rw) (hr1.same sm)
variable (m : X.mg x = none)
theorem b_len (h : X.mg "len" = none) : Bi X "len" (on1 len1) := ⟨.inl ⟨_, _, call_len_seq.or (call_len_str.or call_lenD), c_len.s, h, by decide +kernel⟩⟩
theorem b_abs (h : X.mg "abs" = none) : Bi X "abs" (on1 abs1) := ⟨.inl ⟨_, _, call_abs, c_abs.s, h, by decide +kernel⟩⟩
theorem b_max (h : X.mg "max" = none) (hc : X.calm = true := by rfl) : Bi X "max" (on2 max2) := ⟨.inl ⟨_, _, call_max2 hc, c_max.s, h, by decide +kernel⟩⟩
theorem b_min (h : X.mg "min" = none) (hc : X.calm = true := by rfl) : Bi X "min" (on2 min2) := ⟨.inl ⟨_, _, call_min2 hc, c_min.s, h, by decide +kernel⟩⟩
theorem b_int (h : X.mg "int" = none) : Bi X "int" (on1 toInt1) := ⟨.inr (.inl ⟨_, _, call_int1, c_int.s, h, by decide +kernel⟩)⟩
theorem b_all (h : X.mg "all" = none) (hc : X.calm = true := by rfl) : Bi X "all" (on1 all1) := ⟨.inl ⟨_, _, cr_all hc, c_all.s, h, by decide +kernel⟩⟩
theorem b_any (h : X.mg "any" = none) (hc : X.calm = true := by rfl) : Bi X "any" (on1 any1) := ⟨.inl ⟨_, _, cr_any hc, c_any.s, h, by decide +kernel⟩⟩
theorem b_sum (h : X.mg "sum" = none) (hc : X.calm = true := by rfl) : Bi X "sum" (on1 sum1) := ⟨.inl ⟨_, _, cr_sum hc, c_sum.s, h, by decide +kernel⟩⟩
theorem b_tuple (h : X.mg "tuple" = none) : Bi X "tuple" (on1 toTup1) := ⟨.inr (.inl ⟨_, _, call_tuple_of, c_tup.s, h, by decide +kernel⟩)⟩
theorem b_list (h : X.mg "list" = none) : Bi X "list" (on1 toLst1) := ⟨.inr (.inl ⟨_, _, call_list_of, c_lst.s, h, by decide +kernel⟩)⟩
theorem b_isinstance (h : X.mg "isinstance" = none) : Bi X "isinstance" (on2 isi2) := ⟨.inl ⟨_, _, call_isi, c_isi.s, h, by decide +kernel⟩⟩
theorem b_repr (h : X.mg "repr" = none) : Bi X "repr" (on1 repr1) := ⟨.inl ⟨_, _, call_repr1, c_repr.s, h, by decide +kernel⟩⟩
theorem b_divmod (h : X.mg "divmod" = none) : Bi X "divmod" (on2 divmod2) := ⟨.inl ⟨_, _, call_divmodW, c_divmod.s, h, by decide +kernel⟩⟩
theorem b_gcd (h : X.mg "gcd" = some (.builtin "math.gcd")) : Bi X "gcd" (on2 gcd2) := ⟨.inr (.inr ⟨_, _, cr_gcd, c_gcd.s, h⟩)⟩
end
end DL

set_option Elab.async false
set_option linter.all false
set_option maxRecDepth 100000
set_option maxHeartbeats 4000000
namespace DL
open PySem PySem.Spec PyProof.Rows L2

/-! ### targets -/
mutual
inductive Tg where
  | nm (i : Nat)
  | tp (l : Tgs)
inductive Tgs where
  | nil
  | cons (t : Tg) (l : Tgs)
end
def Tgs.len : Tgs → Nat
  | .nil => 0
  | .cons _ l => l.len + 1
mutual
def gOf (K : PySem.W.Frag) : Tg → TG
  | .nm i => gName i
  | .tp l => gTup K l.len (gsOf K l)
def gsOf (K : PySem.W.Frag) : Tgs → TGs
  | .nil => gNil
  | .cons t l => gCons (gOf K t) (gsOf K l)
end
mutual
def asgT : Tg → D → Ev → Option Ev
  | .nm i, d, ds => some (ds.set i (some d))
  | .tp l, .tup es, ds => asgTs l es ds
  | .tp _, _, _ => none
def asgTs : Tgs → List D → Ev → Option Ev
  | .nil, [], ds => some ds
  | .cons t l, e :: es, ds => (asgT t e ds).bind (asgTs l es)
  | _, _, _ => none
end
mutual
def Tg.ns : Tg → List Nat
  | .nm i => [i]
  | .tp l => l.ns
def Tgs.ns : Tgs → List Nat
  | .nil => []
  | .cons t l => t.ns ++ l.ns
end
abbrev DG (X : Cx) (tg : Expr) (t : Tg) : Prop := PG X tg (gOf X.K t)
abbrev DGs (X : Cx) (tg : List Expr) (t : Tgs) : Prop := PGs X tg (gsOf X.K t)
section
variable {K : PySem.W.Frag} {H : Hp} {as : List Addr}
theorem EvR.length {ds : Ev} {σ : L2.St} (r : EvR K H as ds σ) : ds.length = σ.length := Paired.length r
theorem EvR.set {d : D} {v : V} (r : RD K H as d v) : ∀ {ds : Ev} {σ : L2.St} (i : Nat), EvR K H as ds σ → EvR K H as (ds.set i (some d)) (σ.set i (some v))
  | _, _, _, .nil => .nil
  | _, _, 0, .cons h t => .cons (fun e he => by cases he; exact ⟨v, rfl, r⟩) t
  | _, _, i + 1, .cons h t => .cons h (EvR.set r i t)
theorem EvR.forget : ∀ {ds : Ev} {σ : L2.St} (i : Nat), EvR K H as ds σ → EvR K H as (ds.set i none) (σ.set i none)
  | _, _, _, .nil => .nil
  | _, _, 0, .cons h t => .cons (fun e he => nomatch he) t
  | _, _, i + 1, .cons h t => .cons h (EvR.forget i t)
def wipeD (ds : Ev) : List Nat → Ev
  | [] => ds
  | v :: vs => (wipeD ds vs).set v none
theorem EvR.wipe {ds : Ev} {σ : L2.St} (r : EvR K H as ds σ) : ∀ vs : List Nat, EvR K H as (wipeD ds vs) (L2.wipe σ vs)
  | [] => r
  | v :: vs => (EvR.wipe r vs).forget v
theorem wipe_set {σ : L2.St} {i : Nat} {x : Option V} : ∀ {vs : List Nat}, i ∈ vs → L2.wipe (σ.set i x) vs = L2.wipe σ vs
  | v :: vs, h => by
    by_cases hm : i ∈ vs
    · show (L2.wipe (σ.set i x) vs).set v none = (L2.wipe σ vs).set v none
      rw [wipe_set hm]
    · have e : i = v := by
        rcases List.mem_cons.mp h with z | z
        · exact z
        · exact absurd z hm
      subst e
      have key : ∀ (vs : List Nat), i ∉ vs → L2.wipe (σ.set i x) vs = (L2.wipe σ vs).set i x := by
        intro vs
        induction vs with
        | nil => intro _; rfl
        | cons w ws ih =>
          intro hn
          simp only [List.mem_cons, not_or] at hn
          show (L2.wipe (σ.set i x) ws).set w none = ((L2.wipe σ ws).set w none).set i x
          rw [ih hn.2, List.set_comm _ _ hn.1]
      show (L2.wipe (σ.set i x) vs).set i none = (L2.wipe σ vs).set i none
      rw [key vs hm, List.set_set]
theorem wipe_idem {σ : L2.St} : ∀ {us vs : List Nat}, (∀ i ∈ us, i ∈ vs) → L2.wipe (L2.wipe σ us) vs = L2.wipe σ vs
  | [], _, _ => rfl
  | u :: us, vs, h => by
    show L2.wipe ((L2.wipe σ us).set u none) vs = _
    rw [wipe_set (h u (by simp)), wipe_idem fun i hi => h i (by simp [hi])]
mutual
theorem asg_ok : ∀ (t : Tg) {ds ds' : Ev} {σ : L2.St} {d : D} {v : V} {Q : L2.St → Hp → Prop}, EvR K H as ds σ → RD K H as d v → asgT t d ds = some ds' →
    (∀ σ', EvR K H as ds' σ' → (∀ vs, (∀ i ∈ t.ns, i ∈ vs) → L2.wipe σ' vs = L2.wipe σ vs) → Q σ' H) → gOf K t v σ H Q
  | .nm i, ds, ds', σ, d, v, Q, s, r, e, k => by
    simp only [asgT, Option.some.injEq] at e
    subst e
    simp only [gOf]
    exact k _ (s.set r i) fun vs h => wipe_set (h i (by simp [Tg.ns]))
  | .tp l, ds, ds', σ, d, v, Q, s, r, e, k => by
    cases d with
    | tup es =>
      simp only [asgT] at e
      cases r with
      | val r => cases r with
        | tup h rs =>
          simp only [gOf]
          refine ⟨_, _, rfl, h, ?_, asgs_ok l s rs e k⟩
          rw [← rs.length]
          exact asgs_len l e
    | _ => simp only [asgT] at e; cases e
theorem asgs_ok : ∀ (t : Tgs) {ds ds' : Ev} {σ : L2.St} {es : List D} {vs : List V} {Q : L2.St → Hp → Prop}, EvR K H as ds σ → RVs K H as es vs → asgTs t es ds = some ds' →
    (∀ σ', EvR K H as ds' σ' → (∀ vs, (∀ i ∈ t.ns, i ∈ vs) → L2.wipe σ' vs = L2.wipe σ vs) → Q σ' H) → gsOf K t vs σ H Q
  | .nil, ds, ds', σ, es, vs, Q, s, r, e, k => by
    cases es with
    | nil =>
      cases r
      simp only [asgTs, Option.some.injEq] at e
      subst e
      simp only [gsOf]
      exact ⟨rfl, k _ s fun _ _ => rfl⟩
    | cons _ _ => simp only [asgTs] at e; cases e
  | .cons t l, ds, ds', σ, es, vs, Q, s, r, e, k => by
    cases es with
    | nil => simp only [asgTs] at e; cases e
    | cons d es =>
      cases r with
      | cons r1 r2 =>
        simp only [asgTs] at e
        cases e1 : asgT t d ds with
        | none => rw [e1] at e; cases e
        | some ds1 =>
          rw [e1] at e
          simp only [gsOf]
          exact ⟨_, _, rfl, asg_ok t s (.val r1) e1 fun σ1 s1 w1 => asgs_ok l s1 r2 e fun σ2 s2 w2 => k σ2 s2 fun vs h => (w2 vs fun i hi => h i (by simp [Tgs.ns, hi])).trans (w1 vs fun i hi => h i (by simp [Tgs.ns, hi]))⟩
theorem asgs_len : ∀ (t : Tgs) {ds ds' : Ev} {es : List D}, asgTs t es ds = some ds' → es.length = t.len
  | .nil, ds, ds', es, e => by
    cases es with
    | nil => rfl
    | cons _ _ => simp only [asgTs] at e; cases e
  | .cons t l, ds, ds', es, e => by
    cases es with
    | nil => simp only [asgTs] at e; cases e
    | cons d es =>
      simp only [asgTs] at e
      cases e1 : asgT t d ds with
      | none => rw [e1] at e; cases e
      | some ds1 =>
        rw [e1] at e
        simp only [Tgs.len, List.length_cons]
        rw [asgs_len l e]
end
end
section
variable {X : Cx} {pos : Pos}
theorem dg_nm {i : Nat} {x : Str} (hN : X.N.Nodup) (hi : X.N[i]? = some x) (hx : Loc X.env.scope x) (hf : X.fn x = true ∨ X.env.scope.names.lookup x = some .local := by first | exact .inl rfl | exact .inr rfl | assumption) : DG X (.Name x pos) (.nm i) := by
  show PG X _ (gOf X.K (.nm i))
  rw [gOf]
  exact pg_name hN hi hx hf
theorem dgs_nil : DGs X [] .nil := by
  show PGs X _ (gsOf X.K .nil)
  rw [gsOf]
  exact pgs_nil
theorem dgs_cons {e : Expr} {es : List Expr} {t : Tg} {l : Tgs} (h1 : DG X e t) (h2 : DGs X es l) (hs : (assignEach (e :: es) X.env).map (·.2) = assign e X.env :: (assignEach es X.env).map (·.2) := by rfl) : DGs X (e :: es) (.cons t l) := by
  show PGs X _ (gsOf X.K (.cons t l))
  rw [gsOf]
  exact pgs_cons h1 h2 hs
theorem dg_tp {es : List Expr} {k : Nat} {l : Tgs} (h : DGs X es l) (hc : X.calm = true := by rfl) (hn : (assignEach es X.env).length = l.len := by rfl) (hst : (assignEach es X.env).findIdx? (·.1) = none := by rfl) : DG X (.Tuple es k pos) (.tp l) := by
  show PG X _ (gOf X.K (.tp l))
  rw [gOf]
  exact pg_tup hc h hn hst
end

/-! ### what is walked -/
inductive Src where
  | its (l : List D)
  | cell (n len : Nat)
def srcAt : Src → Hs → Nat → Option D
  | .its l, _, i => l[i]?
  | .cell n len, h, i => match h[n]? with
    | some (.lst l) => if l.length = len then l[i]? else none
    | _ => none
def srcEnd : Src → Hs → Bool
  | .its _, _ => true
  | .cell n len, h => match h[n]? with
    | some (.lst l) => l.length == len
    | _ => false
def Src.len : Src → Nat
  | .its l => l.length
  | .cell _ n => n
structure WalkD (K : PySem.W.Frag) (as : List Addr) (H : Hp) (J : It) (s : Src) : Prop where
  go : ∀ i h H1 as1 d, Grow as H as1 H1 → HeapR K H1 as1 h → srcAt s h i = some d → J.go i H1 ∧ ∀ x H2, J.yld i H1 x H2 → Same H1 H2 ∧ RV K H2 as1 d x
  stop : ∀ h H1 as1, Grow as H as1 H1 → HeapR K H1 as1 h → srcEnd s h = true → J.stop s.len H1
def PostI (K : PySem.W.Frag) (mg : Str → Option Value) (W : WX) (as : List Addr) (σ : L2.St) (H : Hp) (r : R Src) (Q : It → Hp → Prop) : Prop := match r with
  | .ok s h => ∀ J H' as', Grow as H as' H' → HeapR K H' as' h → WalkD K as' H' J s → Q J H'
  | .ex c p h => ∀ cls dx H' as', Grow as H as' H' → HeapR K H' as' h → ExR K mg H' as' c p cls dx → W cls dx σ H'
  | .no => False
def tiM (K : PySem.W.Frag) (mg : Str → Option Value) (W : WX) (m : M Src) : TI := fun σ H Q => ∃ as ds h, StR K H as ds h σ ∧ PostI K mg W as σ H (m ds h) Q
abbrev DI (X : Cx) (W : WX) (tg iter : Expr) (m : M Src) : Prop := PI X tg iter (tiM X.K X.mg W m)
theorem PI.imp {X : Cx} {tg iter : Expr} {t t' : TI} (p : PI X tg iter t) (h : ∀ σ H Q, t' σ H Q → t σ H Q) : PI X tg iter t' := ⟨fun pins s σ H Q I q => p.run pins s σ H Q I (h σ H Q q)⟩
theorem PI.or {X : Cx} {tg iter : Expr} {t t' : TI} (p : PI X tg iter t) (q : PI X tg iter t') : PI X tg iter (fun σ H Q => t σ H Q ∨ t' σ H Q) := ⟨fun pins s σ H Q I w => w.elim (p.run pins s σ H Q I) (q.run pins s σ H Q I)⟩
theorem PostI.grow {K : PySem.W.Frag} {mg : Str → Option Value} {W : WX} {as as' : List Addr} {σ : L2.St} {H H' : Hp} {r : R Src} {Q : It → Hp → Prop} (f : Grow as H as' H') (p : PostI K mg W as σ H r Q) : PostI K mg W as' σ H' r Q := by
  cases r with
  | ok d h => exact fun v H2 as2 f2 => p v H2 as2 (f.trans f2)
  | ex c q h => exact fun cls dx H2 as2 f2 => p cls dx H2 as2 (f.trans f2)
  | no => exact p
theorem PostI.bindE {K : PySem.W.Frag} {mg : Str → Option Value} {W : WX} {as : List Addr} {σ : L2.St} {H : Hp} {r : R D} {k : D → Hs → R Src} {Q : It → Hp → Prop} {Q' : VK} (p : PostI K mg W as σ H (r.bind k) Q)
    (n : ∀ d h v H1 as1, Grow as H as1 H1 → RD K H1 as1 d v → HeapR K H1 as1 h → PostI K mg W as1 σ H1 (k d h) Q → Q' v H1) : PostE K mg W as σ H r Q' := by
  cases r with
  | ok d h => exact fun v H1 as1 f r1 hr => n d h v H1 as1 f r1 hr (PostI.grow f p)
  | ex c q h => exact p
  | no => exact p
theorem PostI.bindA {K : PySem.W.Frag} {mg : Str → Option Value} {W : WX} {as : List Addr} {σ : L2.St} {H : Hp} {r : R (List D)} {k : List D → Hs → R Src} {Q : It → Hp → Prop} {Q' : List V → Hp → Prop} (p : PostI K mg W as σ H (r.bind k) Q)
    (n : ∀ d h v H1 as1, Grow as H as1 H1 → RDs K H1 as1 d v → HeapR K H1 as1 h → PostI K mg W as1 σ H1 (k d h) Q → Q' v H1) : PostA K mg W as σ H r Q' := by
  cases r with
  | ok d h => exact fun v H1 as1 f r1 hr => n d h v H1 as1 f r1 hr (PostI.grow f p)
  | ex c q h => exact p
  | no => exact p
def srcOf (x : D) (h : Hs) : Option Src := match x with
  | .tup l => some (.its l)
  | .lst l => some (.its l)
  | .frz l => some (.its l)
  | .loc n => (match h[n]? with
    | some (.lst l) => some (.cell n l.length)
    | _ => none)
  | _ => none
def mSeq (ma : M D) : M Src := fun ds h => (ma ds h).bind fun x h1 => match srcOf x h1 with
  | some s => .ok s h1
  | none => .no
def rangeL (lo : Int) (n : Nat) : List D := (List.range n).map fun i => .int (lo + (i : Nat))
def rng1 : List D → Option Src
  | [.int j] => if j < 2 ^ 62 ∧ -(2 ^ 62) ≤ j then some (.its (rangeL 0 j.toNat)) else none
  | _ => none
def rng2 : List D → Option Src
  | [.int i, .int j] => if -(2 ^ 62) ≤ i ∧ i < 2 ^ 62 ∧ -(2 ^ 62) ≤ j ∧ j < 2 ^ 62 then some (.its (rangeL i (j - i).toNat)) else none
  | _ => none
def mSrcA (f : List D → Option Src) (me : M (List D)) : M Src := fun ds h => (me ds h).bind fun xs h1 => match f (xs.map (rd h1)) with
  | some s => .ok s h1
  | none => .no
section
variable {K : PySem.W.Frag}
theorem walkD_range {as : List Addr} {H : Hp} {lo : Int} {n : Nat} : WalkD K as H (Itr lo n) (.its (rangeL lo n)) := by
  refine ⟨fun i h H1 as1 d g hr e => ?_, fun h H1 as1 g hr e => ?_⟩
  · simp only [srcAt, rangeL, List.getElem?_map] at e
    by_cases hi : i < n
    · rw [List.getElem?_range hi] at e
      simp only [Option.map_some, Option.some.injEq] at e
      subst e
      exact ⟨hi, fun x H2 ⟨e1, e2⟩ => by subst e1 e2; exact ⟨Same.refl _, .int _⟩⟩
    · rw [List.getElem?_eq_none (by simpa using hi)] at e; cases e
  · show n ≤ (rangeL lo n).length
    simp [rangeL]
theorem walkD_lst {as : List Addr} {H : Hp} {a : Addr} {vs : List V} {ds : List D} (hs : ∀ as1 H1, Grow as H as1 H1 → SqL K H1 a vs) (r : RVs K H as ds vs) : WalkD K as H (Itl K a) (.its ds) := by
  refine ⟨fun i h H1 as1 d g hr e => ?_, fun h H1 as1 g hr e => ⟨vs, hs as1 H1 g, by rw [← r.length]; exact Nat.le_refl _⟩⟩
  obtain ⟨v, e1, r1⟩ := r.get (show ds[i]? = some d from e)
  exact ⟨⟨vs, v, hs as1 H1 g, e1⟩, fun x H2 ⟨e2, e3⟩ => by
    subst e2
    have := e3 vs (hs as1 _ g)
    rw [e1] at this; cases this
    exact ⟨Same.refl _, r1.grow g⟩⟩
theorem walkD_tup {as : List Addr} {H : Hp} {a : Addr} {vs : List V} {ds : List D} (hs : SqT K H a vs) (r : RVs K H as ds vs) : WalkD K as H (Itt K a) (.its ds) := by
  refine ⟨fun i h H1 as1 d g hr e => ?_, fun h H1 as1 g hr e => ⟨vs, sqT_fr g.fr hs, by rw [← r.length]; exact Nat.le_refl _⟩⟩
  obtain ⟨v, e1, r1⟩ := r.get (show ds[i]? = some d from e)
  exact ⟨⟨vs, v, sqT_fr g.fr hs, e1⟩, fun x H2 ⟨e2, e3⟩ => by
    subst e2
    have := e3 vs (sqT_fr g.fr hs)
    rw [e1] at this; cases this
    exact ⟨Same.refl _, r1.grow g⟩⟩
theorem walkD_cell {as : List Addr} {H : Hp} {a : Addr} {n len : Nat} (ha : as[n]? = some a) : WalkD K as H (Itl K a) (.cell n len) := by
  refine ⟨fun i h H1 as1 d g hr e => ?_, fun h H1 as1 g hr e => ?_⟩
  · obtain ⟨c, e1, cr⟩ := hr.get (pre_get g.pre ha)
    simp only [srcAt, e1] at e
    cases cr with
    | lst h r =>
      simp only at e
      split at e
      · obtain ⟨v, e2, r1⟩ := r.get e
        exact ⟨⟨_, v, SqL.of h, e2⟩, fun x H2 ⟨e3, e4⟩ => by
          subst e3
          have := e4 _ (SqL.of h)
          rw [e2] at this; cases this
          exact ⟨Same.refl _, r1⟩⟩
      · cases e
    | dct _ _ _ => cases e
  · obtain ⟨c, e1, cr⟩ := hr.get (pre_get g.pre ha)
    simp only [srcEnd, e1] at e
    cases cr with
    | lst h r => exact ⟨_, SqL.of h, by rw [← r.length]; simp at e; rw [e]; exact Nat.le_refl _⟩
    | dct _ _ _ => cases e
end
section
variable {X : Cx} {W : WX} {tg a b : Expr} {ma mb : M D} {me : M (List D)} {p pos : Pos}
theorem di_seq (ha : DE X W a ma) : DI X W tg a (mSeq ma) := by
  refine PI.imp (PI.or (pi_list ha) (pi_tup ha)) fun σ H Q ⟨as, ds, h, s, q⟩ => ?_
  unfold mSeq at q
  cases e : ma ds h with
  | ex c p h1 => rw [e] at q; exact .inl ⟨as, ds, h, s, by rw [e]; exact q⟩
  | no => rw [e] at q; exact q.elim
  | ok x h1 =>
    rw [e] at q
    cases x with
    | tup l =>
      have q : PostI X.K X.mg W as σ H (.ok (.its l) h1) Q := q
      refine .inr ⟨as, ds, h, s, ?_⟩
      rw [e]
      intro v H1 as1 g r hr
      cases r with
      | val r => cases r with
        | tup h rs => exact ⟨_, rfl, ⟨_, h⟩, q _ H1 as1 g hr (walkD_tup h rs)⟩
    | lst l =>
      have q : PostI X.K X.mg W as σ H (.ok (.its l) h1) Q := q
      refine .inl ⟨as, ds, h, s, ?_⟩
      rw [e]
      intro v H1 as1 g r hr
      cases r with
      | val r => cases r with
        | lst h n rs => exact ⟨_, rfl, ⟨_, SqL.of h⟩, q _ H1 as1 g hr (walkD_lst (fun as2 H2 g2 => SqL.of (g2.fr _ _ h fun z => absurd z n)) rs)⟩
    | frz l =>
      have q : PostI X.K X.mg W as σ H (.ok (.its l) h1) Q := q
      refine .inl ⟨as, ds, h, s, ?_⟩
      rw [e]
      intro v H1 as1 g r hr
      cases r with
      | val r => cases r with
        | frz h rs => exact ⟨_, rfl, ⟨_, h.sq⟩, q _ H1 as1 g hr (walkD_lst (fun as2 H2 g2 => (frzL_fr g2.fr h).sq) rs)⟩
    | loc n =>
      refine .inl ⟨as, ds, h, s, ?_⟩
      rw [e]
      intro v H1 as1 g r hr
      cases r with
      | val r => cases r
      | loc ha =>
        obtain ⟨c, e1, cr⟩ := hr.get ha
        cases cr with
        | @lst a vs l hh rs =>
          have q : PostI X.K X.mg W as σ H (match srcOf (.loc n) h1 with | some s => .ok s h1 | none => .no) Q := q
          have es : srcOf (.loc n) h1 = some (.cell n l.length) := by simp only [srcOf, e1]
          rw [es] at q
          exact ⟨_, rfl, ⟨_, SqL.of hh⟩, q _ H1 as1 g hr (walkD_cell ha)⟩
        | dct hh _ _ =>
          have q : PostI X.K X.mg W as σ H (match srcOf (.loc n) h1 with | some s => .ok s h1 | none => .no) Q := q
          simp only [srcOf, e1] at q
          exact q.elim
    | _ => exact q.elim
theorem di_range1 (ha : DA X W [a] me) (hm : X.mg "range" = none) (hg : Gl X "range" := by rfl) (hs : starEach [a] X.env = [(false, eval a X.env)] := by rfl) : DI X W tg (.Call (.Name "range" p) [a] [] pos) (mSrcA rng1 me) := by
  refine PI.imp (pi_range1 hg hm ha hs) fun σ H Q ⟨as, ds, h, s, q⟩ => ⟨as, ds, h, s, PostI.bindA q fun xs h1 vs H1 as1 f1 r1 hr1 p1 => ?_⟩
  have rt := r1.rts hr1
  revert p1 rt
  generalize xs.map (rd h1) = ys
  intro p1 rt
  cases rt with
  | nil => exact p1.elim
  | cons r t =>
    cases t with
    | cons _ _ => rename_i x _ _ _ _ _ _ _; cases x <;> exact p1.elim
    | nil =>
      rename_i x v
      cases x with
      | int j =>
        cases r.int
        by_cases hc : j < 2 ^ 62 ∧ -(2 ^ 62) ≤ j
        · simp only [rng1, if_pos hc] at p1
          exact ⟨j, rfl, hc.2, hc.1, p1 _ H1 as1 .refl hr1 walkD_range⟩
        · simp only [rng1, if_neg hc] at p1; exact p1.elim
      | _ => exact p1.elim
theorem di_range2 (ha : DA X W [a, b] me) (hm : X.mg "range" = none) (hg : Gl X "range" := by rfl) (hs : starEach [a, b] X.env = [(false, eval a X.env), (false, eval b X.env)] := by rfl) (hs2 : starEach [b] X.env = [(false, eval b X.env)] := by rfl) : DI X W tg (.Call (.Name "range" p) [a, b] [] pos) (mSrcA rng2 me) := by
  refine PI.imp (pi_range2 hg hm ha hs hs2) fun σ H Q ⟨as, ds, h, s, q⟩ => ⟨as, ds, h, s, PostI.bindA q fun xs h1 vs H1 as1 f1 r1 hr1 p1 => ?_⟩
  have rt := r1.rts hr1
  revert p1 rt
  generalize xs.map (rd h1) = ys
  intro p1 rt
  match ys, vs, rt with
  | [], _, _ => exact p1.elim
  | [x], _, _ => cases x <;> exact p1.elim
  | x :: y :: z :: l, _, _ => cases x <;> first | exact p1.elim | (cases y <;> exact p1.elim)
  | [x, y], [v, u], .cons r (.cons r2 .nil) =>
    cases x with
    | int i =>
      cases y with
      | int j =>
        cases r.int
        cases r2.int
        by_cases hc : -(2 ^ 62) ≤ i ∧ i < 2 ^ 62 ∧ -(2 ^ 62) ≤ j ∧ j < 2 ^ 62
        · simp only [rng2, if_pos hc] at p1
          exact ⟨i, j, rfl, hc, p1 _ H1 as1 .refl hr1 walkD_range⟩
        · simp only [rng2, if_neg hc] at p1; exact p1.elim
      | _ => exact p1.elim
    | _ => exact p1.elim
end
end DL

set_option Elab.async false
set_option linter.all false
set_option maxRecDepth 100000
set_option maxHeartbeats 4000000
namespace DL
open PySem PySem.Spec PyProof.Rows L2

/-! ### comprehensions -/
def R.noex {α : Type} : R α → R α
  | .ok a h => .ok a h
  | _ => .no
/-- n: the place of the new list's cell -/
def lcGo (n : Nat) (ds0 : Ev) (s : Src) (t : Tg) (tt : M Bool) (te : M D) : Nat → Nat → Hs → R D
  | 0, _, hh => if srcEnd s hh then (match hh[n]? with
    | some (.lst acc) => .ok (.lst acc) (hh.take n)
    | _ => .no) else .no
  | k + 1, i, hh => match (srcAt s hh i).bind fun x => asgT t x ds0 with
    | none => .no
    | some ds => (tt ds hh).noex.bind fun b h2 => if b then (te ds h2).noex.bind fun y h3 => (match h3[n]? with
        | some (.lst acc) => if isLoc y = false ∧ acc.length < 16777216 then lcGo n ds0 s t tt te k (i + 1) ((h3.take (n + 1)).set n (.lst (acc ++ [y]))) else .no
        | _ => .no) else lcGo n ds0 s t tt te k (i + 1) (h2.take (n + 1))
def mLc (src : M Src) (vs : List Nat) (t : Tg) (tt : M Bool) (te : M D) : M D := fun ds h => (src ds h).bind fun s h1 => lcGo h1.length (wipeD ds vs) s t tt te s.len 0 (h1 ++ [.lst []])
abbrev W0 : WX := fun _ _ _ _ => False
def mYes : M Bool := fun _ h => .ok true h
abbrev DTs (X : Cx) (ifs : List Expr) (m : M Bool) : Prop := PTs X ifs (ttM X.K X.mg W0 m)
section
variable {X : Cx} {W : WX} {pos p : Pos} {a b c e : Expr} {es : List Expr} {ma mb mc : M D} {me : M (List D)}
theorem PTs.imp {ifs : List Expr} {t t' : TT} (p : PTs X ifs t) (h : ∀ σ H Q, t' σ H Q → t σ H Q) : PTs X ifs t' := ⟨fun pins s σ H Q I q => p.run pins s σ H Q I (h σ H Q q)⟩
theorem dts_nil : DTs X [] mYes := PTs.imp pts_nil fun σ H Q ⟨as, ds, h, s, p⟩ => p H as .refl s.heap
theorem dts_one {tc : M Bool} (h : DT X W0 c tc) : DTs X [c] tc := pts_one h
theorem PostT.noex {K : PySem.W.Frag} {mg : Str → Option Value} {as : List Addr} {σ : L2.St} {H : Hp} {r : R Bool} {k : Bool → Hs → R D} {Q : VK} {Q' : Bool → Hp → Prop} (p : PostE K mg W as σ H (r.noex.bind k) Q)
    (n : ∀ b h H1 as1, Grow as H as1 H1 → HeapR K H1 as1 h → PostE K mg W as1 σ H1 (k b h) Q → Q' b H1) {σ' : L2.St} : PostT K mg W0 as σ' H r Q' := by
  cases r with
  | ok d h => exact fun H1 as1 f hr => n d h H1 as1 f hr (PostE.grow f p)
  | ex c q h => exact p.elim
  | no => exact p
theorem PostE.noex {K : PySem.W.Frag} {mg : Str → Option Value} {as : List Addr} {σ : L2.St} {H : Hp} {r : R D} {k : D → Hs → R D} {Q Q' : VK} (p : PostE K mg W as σ H (r.noex.bind k) Q)
    (n : ∀ d h v H1 as1, Grow as H as1 H1 → RD K H1 as1 d v → HeapR K H1 as1 h → PostE K mg W as1 σ H1 (k d h) Q → Q' v H1) {σ' : L2.St} : PostE K mg W0 as σ' H r Q' := by
  cases r with
  | ok d h => exact fun v H1 as1 f r1 hr => n d h v H1 as1 f r1 hr (PostE.grow f p)
  | ex c q h => exact p.elim
  | no => exact p
theorem HeapR.get2 {K : PySem.W.Frag} {H : Hp} {as : List Addr} {h : Hs} (r : HeapR K H as h) {n : Nat} {d : D} (e : h[n]? = some d) : ∃ a, as[n]? = some a ∧ CellR K H as d a := by
  have hl : n < h.length := (List.getElem?_eq_some_iff.mp e).1
  have hl2 : n < as.length := by rw [r.len]; exact hl
  exact ⟨as[n], List.getElem?_eq_getElem hl2, r.at_ n d _ e (List.getElem?_eq_getElem hl2)⟩
/-- to the first places again -/
theorem back1 {K : PySem.W.Frag} {H H' : Hp} {as as' : List Addr} {h : Hs} {ds : Ev} {σ : L2.St} (g : Grow as H as' H') (r : HeapR K H' as' h) (s : EvR K H as ds σ) {m : Nat} (hm : as.length = m) : StR K H' as ds (h.take m) σ := by
  subst hm
  exact ⟨s.grow g.back, r.back g⟩
theorem lc_post {ms : M Src} {t : Tg} {mt : M Bool} {vs : List Nat} (hsub : ∀ i ∈ t.ns, i ∈ vs) {σ : L2.St} {H0 : Hp} {Q : VK} (q : teM X.K X.mg W (mLc ms vs t mt ma) σ H0 Q) :
    tLc (tiM X.K X.mg W ms) (gOf X.K t) (ttM X.K X.mg W0 mt) (teM X.K X.mg W0 ma) vs σ H0 Q := by
  obtain ⟨as, ds, h, s, q⟩ := q
  refine ⟨as, ds, h, s, ?_⟩
  unfold mLc at q
  cases es : ms ds h with
  | ex c p h1 => rw [es] at q; exact q
  | no => rw [es] at q; exact q
  | ok sr h1 =>
    rw [es] at q
    intro J H as1 g hr wk D hD
    have q : PostE X.K X.mg W as σ H0 (lcGo h1.length (wipeD ds vs) sr t mt ma sr.len 0 (h1 ++ [.lst []])) Q := q
    have q := PostE.grow g q
    obtain ⟨g2, hr2⟩ := hr.push hD (vs := []) (ds := []) .nil
    have len : as1.length = h1.length := hr.len
    generalize hn : h1.length = n at q len
    have hD1 : ∀ as' : List Addr, as1 ++ [D] <+: as' → as'[n]? = some D := fun as' hp => pre_get hp (by rw [← len]; simp)
    have len1 : (as1 ++ [D]).length = n + 1 := by simp [len]
    refine ⟨fun i m H' => m + i = sr.len ∧ ∃ hh, Grow as1 H (as1 ++ [D]) H' ∧ StR X.K H' (as1 ++ [D]) (wipeD ds vs) hh (L2.wipe σ vs) ∧ PostE X.K X.mg W as1 σ H (lcGo n (wipeD ds vs) sr t mt ma m i hh) Q, ⟨sr.len, rfl, _, g2, ⟨((s.env.grow g).grow g2).wipe vs, hr2⟩, q⟩, ?_⟩
    rintro i m H' ⟨hmi, hh, g3, s3, q3⟩
    cases m with
    | zero =>
      refine .inl ?_
      cases ee : srcEnd sr hh with
      | false => simp only [lcGo, ee] at q3; exact q3.elim
      | true =>
        have hi' : i = sr.len := by omega
        subst hi'
        refine ⟨wk.stop hh H' _ g3 s3.heap ee, ?_⟩
        simp only [lcGo, ee, if_true] at q3
        cases ea : hh[n]? with
        | none => rw [ea] at q3; exact q3.elim
        | some c =>
          rw [ea] at q3
          obtain ⟨a, e1, cr⟩ := s3.heap.get2 ea
          have e2 := hD1 _ (List.prefix_refl _)
          rw [e1] at e2; cases e2
          cases cr with
          | dct _ _ _ => exact q3.elim
          | lst hh' rs =>
            have sub : ∀ b ∈ as1, b ∈ as1 ++ [D] := fun b hb => List.mem_append_left _ hb
            refine q3 (.ref D) H' as1 g3.back (.val (.lst hh' (hr.notin hD) (rs.shrink sub))) ?_
            have := s3.heap.back g3
            rw [len] at this
            exact this
    | succ m =>
      refine .inr ?_
      cases eb : (srcAt sr hh i).bind fun x => asgT t x (wipeD ds vs) with
      | none => simp only [lcGo, eb] at q3; exact q3.elim
      | some ds1 =>
        obtain ⟨x, ex, e2⟩ := Option.bind_eq_some_iff.mp eb
        obtain ⟨go, yl⟩ := wk.go i hh H' _ x g3 s3.heap ex
        refine ⟨go, _, fun H'' w => ⟨m, Nat.lt_succ_self m, w⟩, fun v H2 y => ?_⟩
        obtain ⟨sm, rv⟩ := yl v H2 y
        refine asg_ok t (s3.env.grow (.of_same sm)) (.val rv) e2 fun σ2 s4 wp => ⟨(wp vs hsub).trans (wipe_idem fun _ h => h), ?_⟩
        refine ⟨as1 ++ [D], ds1, hh, ⟨s4, s3.heap.same sm⟩, ?_⟩
        simp only [lcGo, eb] at q3
        cases ett : mt ds1 hh with
        | ex c p h2 => rw [ett] at q3; exact q3.elim
        | no => rw [ett] at q3; exact q3.elim
        | ok b h2 =>
          rw [ett] at q3
          simp only [R.noex, R.bind] at q3
          intro H3 as3 g4 hr3
          have gA : Grow (as1 ++ [D]) H' as3 H3 := (Grow.of_same sm).trans g4
          cases b with
          | false =>
            simp only [Bool.false_eq_true, if_false] at q3 ⊢
            exact ⟨by omega, _, g3.trans gA.back, back1 gA hr3 s3.env len1, q3⟩
          | true =>
            simp only [if_true] at q3 ⊢
            refine ⟨as3, ds1, h2, ⟨s4.grow g4, hr3⟩, ?_⟩
            cases ete : ma ds1 h2 with
            | ex c p h3 => rw [ete] at q3; exact q3.elim
            | no => rw [ete] at q3; exact q3.elim
            | ok y h3 =>
              rw [ete] at q3
              simp only [R.noex, R.bind] at q3
              intro v4 H4 as4 g5 r4 hr4
              have gB : Grow (as1 ++ [D]) H' as4 H4 := gA.trans g5
              cases ea : h3[n]? with
              | none => rw [ea] at q3; exact q3.elim
              | some c =>
                rw [ea] at q3
                obtain ⟨a, e1, cr⟩ := hr4.get2 ea
                have e3 := hD1 _ gB.pre
                rw [e1] at e3; cases e3
                cases cr with
                | dct _ _ _ => exact q3.elim
                | @lst _ accV acc hh' rs =>
                  simp only at q3
                  by_cases hcnd : isLoc y = false ∧ acc.length < 16777216
                  · rw [if_pos hcnd] at q3
                    have sub : ∀ b ∈ as1 ++ [D], b ∈ as4 := gB.sub
                    have st := back1 gB hr4 s3.env len1
                    obtain ⟨g6, hr6⟩ := st.heap.write (n := n) (q := D) (hD1 _ (List.prefix_refl _)) ((rs.shrink sub).append (.cons ((r4.rv hcnd.1).shrink sub) .nil))
                    exact ⟨accV, hh', by rw [sizeLine_eq, ← rs.length]; exact hcnd.2, by omega, _, (g3.trans gB.back).trans g6, ⟨st.env.grow g6, hr6⟩, q3⟩
                  · rw [if_neg hcnd] at q3; exact q3.elim
theorem de_lc {elt tg iter : Expr} {ifs : List Expr} {scope : Scope} {own : List (Str × Nat)} {ms : M Src} {t : Tg} {mt : M Bool} (hN : X.N.Nodup) (hi : DI X W tg iter ms) (ok : BlkOk X.N X.env.scope scope own)
    (hg : ∀ (s : Shared) (H : Hp) (C : Addr) (cl : List (Str × Addr)) (fp : List Addr), DG (X.blk s H scope (compEnvC scope cl C X.env) fp) tg t) (ht : ∀ (s : Shared) (H : Hp) (C : Addr) (cl : List (Str × Addr)) (fp : List Addr), DTs (X.blk s H scope (compEnvC scope cl C X.env) fp) ifs mt)
    (he : ∀ (s : Shared) (H : Hp) (C : Addr) (cl : List (Str × Addr)) (fp : List Addr), DE (X.blk s H scope (compEnvC scope cl C X.env) fp) W0 elt ma) (hsub : ∀ i ∈ t.ns, i ∈ own.map (·.2) := by decide) (hc : X.calm = true := by rfl) (hs : ∀ x, foldedSetIterable iter X.env x = pure x := by intro _; rfl) :
    DE X W (.ListComp elt [⟨tg, iter, ifs, 0⟩] scope pos) (mLc ms (own.map (·.2)) t mt ma) :=
  PE.imp (pe_lc (wi := tiM X.K X.mg W ms) (g := gOf X.K t) (tt := ttM X.K X.mg W0 mt) (te := teM X.K X.mg W0 ma) hc hN hi ok hg ht he hs) fun σ H0 Q q => lc_post hsub q
end
end DL

set_option Elab.async false
set_option linter.all false
set_option maxRecDepth 100000
set_option maxHeartbeats 4000000
namespace DL
open PySem PySem.Spec PyProof.Rows L2

/-! ### statements -/
def sRet (ma : M D) : SM := fun ds h => match ma ds h with
  | .ok d h1 => .rt d h1
  | .ex c p h1 => .ex c p ds h1
  | .no => .no
def sRetN : SM := fun _ h => .rt .non h
def sPass : SM := fun ds h => .nx ds h
def sBrk : SM := fun ds h => .bk ds h
def sCnt : SM := fun ds h => .ct ds h
def sNo : SM := fun _ _ => .no
def sDrop (ma : M D) : SM := fun ds h => match ma ds h with
  | .ok _ h1 => .nx ds h1
  | .ex c p h1 => .ex c p ds h1
  | .no => .no
def sAsg (t : Tg) (ma : M D) : SM := fun ds h => match ma ds h with
  | .ok d h1 => (match asgT t d ds with
    | some ds' => .nx ds' h1
    | none => .no)
  | .ex c p h1 => .ex c p ds h1
  | .no => .no
def sSeq (m1 m2 : SM) : SM := fun ds h => match m1 ds h with
  | .nx ds' h' => m2 ds' h'
  | r => r
def sIf (mc : M Bool) (m1 m2 : SM) : SM := fun ds h => match mc ds h with
  | .ok b h1 => if b then m1 ds h1 else m2 ds h1
  | .ex c p h1 => .ex c p ds h1
  | .no => .no
def sPar (is : List Nat) (me : M (List D)) : SM := fun ds h => match me ds h with
  | .ok xs h1 => if xs.length = is.length then .nx ((is.zip xs).foldl (fun ds p => ds.set p.1 (some p.2)) ds) h1 else .no
  | .ex c p h1 => .ex c p ds h1
  | .no => .no
def isLstAt (h : Hs) (n : Nat) : Bool := match h[n]? with
  | some (.lst _) => true
  | _ => false
/-- x.append(e), x a cell -/
def sApp (mo ma : M D) : SM := fun ds h => match mo ds h with
  | .ok (.loc n) h1 => if isLstAt h1 n = false then .no else (match ma ds h1 with
    | .ok y h2 => (match h2[n]? with
      | some (.lst l) => if isLoc y = false ∧ l.length < 16777216 then .nx ds (h2.set n (.lst (l ++ [y]))) else .no
      | _ => .no)
    | .ex c p h2 => .ex c p ds h2
    | .no => .no)
  | _ => .no
/-- x[i] = e, x a cell: the value first -/
def sPut (mo mi mv : M D) : SM := fun ds h => match mv ds h with
  | .ok y h1 => (match mo ds h1 with
    | .ok (.loc n) h2 => (match mi ds h2 with
      | .ok (.int i) h3 => (match h3[n]? with
        | some (.lst l) => (match ixN l.length i with
          | some j => if isLoc y = false then .nx ds (h3.set n (.lst (l.set j y))) else .no
          | none => .no)
        | _ => .no)
      | _ => .no)
    | _ => .no)
  | .ex c p h1 => .ex c p ds h1
  | .no => .no
section
variable {X : Cx} {W : WX} {pos p : Pos} {a b c e o i : Expr} {es : List Expr} {ma mb mc mo mi mv : M D} {me : M (List D)} {st : Stmt} {sts xs ys : List Stmt} {m1 m2 : SM} {tc : M Bool}
theorem ds_ret (ha : DE X W e ma) : DS X W (.Return (some e) pos) (sRet ma) := PS.imp (ps_ret ha) fun Dn σ H ⟨as, ds, h, s, p⟩ => ⟨as, ds, h, s, by
  unfold sRet at p
  cases e : ma ds h with
  | ok d h1 => rw [e] at p; exact p
  | ex c q h1 => rw [e] at p; exact fun cls dx H' as' g hr x => p σ cls dx H' as' g ⟨s.env.grow g, hr⟩ x
  | no => rw [e] at p; exact p⟩
theorem ds_retN : DS X W (.Return none pos) sRetN := PS.imp ps_retN fun Dn σ H ⟨as, ds, h, s, p⟩ => p .non H as .refl (.val .non) s.heap
theorem ds_pass : DS X W (.Pass pos) sPass := PS.imp ps_pass fun Dn σ H ⟨as, ds, h, s, p⟩ => p σ H as .refl s
theorem ds_brk : DS X W (.Break pos) sBrk := PS.imp ps_break fun Dn σ H ⟨as, ds, h, s, p⟩ => p σ H as .refl s
theorem ds_cnt : DS X W (.Continue pos) sCnt := PS.imp ps_continue fun Dn σ H ⟨as, ds, h, s, p⟩ => p σ H as .refl s
theorem ds_doc {x : Str} {j : Nat} {pos' : Pos} : DS X W (.Expr (.Constant (.str x) j pos) pos') sPass := PS.imp ps_doc fun Dn σ H ⟨as, ds, h, s, p⟩ => p σ H as .refl s
theorem ds_no : DS X W st sNo := PS.imp ps_never fun Dn σ H ⟨as, ds, h, s, p⟩ => p
theorem dss_no : DSs X W sts sNo := PSs.imp pss_never fun Dn σ H ⟨as, ds, h, s, p⟩ => p
theorem ds_expr (ha : DE X W e ma) (hs : swapsWith e none pos.line X.env = pure false := by rfl) : DS X W (.Expr e pos) (sDrop ma) := PS.imp (ps_expr ha hs) fun Dn σ H ⟨as, ds, h, s, p⟩ => ⟨as, ds, h, s, by
  unfold sDrop at p
  cases e : ma ds h with
  | ok d h1 => rw [e] at p; exact fun v H' as' g r hr => p σ H' as' g ⟨s.env.grow g, hr⟩
  | ex c q h1 => rw [e] at p; exact fun cls dx H' as' g hr x => p σ cls dx H' as' g ⟨s.env.grow g, hr⟩ x
  | no => rw [e] at p; exact p⟩
theorem asg_core {t : Tg} {Dn : Ends} {σ : L2.St} {H : Hp} (q : tsM X.K X.mg W (sAsg t ma) Dn σ H) : teM X.K X.mg W ma σ H fun x H1 => gOf X.K t x σ H1 Dn.nx := by
  obtain ⟨as, ds, h, s, p⟩ := q
  refine ⟨as, ds, h, s, ?_⟩
  unfold sAsg at p
  cases e : ma ds h with
  | ok d h1 =>
    rw [e] at p
    simp only at p
    cases e2 : asgT t d ds with
    | none => rw [e2] at p; exact p.elim
    | some ds' =>
      rw [e2] at p
      exact fun v H' as' g r hr => asg_ok t (s.env.grow g) r e2 fun σ' s' _ => p σ' H' as' g ⟨s', hr⟩
  | ex c q h1 => rw [e] at p; exact fun cls dx H' as' g hr x => p σ cls dx H' as' g ⟨s.env.grow g, hr⟩ x
  | no => rw [e] at p; exact p
theorem ds_set {i : Nat} {x : Str} {pos' : Pos} (hN : X.N.Nodup) (hi : X.N[i]? = some x) (hx : Loc X.env.scope x) (ha : DE X W e ma) (hs : swapsWith e (some (.Name x pos')) pos.line X.env = pure false := by rfl) (hf : X.fn x = true ∨ X.env.scope.names.lookup x = some .local := by first | exact .inl rfl | exact .inr rfl | assumption) :
    DS X W (.Assign [.Name x pos'] e pos) (sAsg (.nm i) ma) := PS.imp (ps_set hN hi hx ha hs hf) fun Dn σ H q => by
  have := asg_core q
  simp only [gOf] at this
  exact this
theorem ds_asg {tg : Expr} {t : Tg} (ha : DE X W e ma) (hg : DG X tg t) (hs : swapsWithSole [tg] e pos.line X.env = pure false := by rfl) (hw : swappedStores [tg] e X.env = pure none := by rfl) (h1 : (assignEach [tg] X.env).map (·.2) = [assign tg X.env] := by rfl) :
    DS X W (.Assign [tg] e pos) (sAsg t ma) := PS.imp (ps_asg ha hg hs hw h1) fun Dn σ H q => asg_core q
theorem ds_par2 {i j : Nat} {x y : Str} {px py pt : Pos} {kt k2 pt2} (hN : X.N.Nodup) (hi : X.N[i]? = some x) (hj : X.N[j]? = some y) (hx : X.env.scope.names.lookup x = some .local) (hy : X.env.scope.names.lookup y = some .local) (ha : DA X W [a, b] me)
    (hij : i ≠ j := by decide) (hc : X.calm = true := by rfl) (hw : swappedStores [.Tuple [.Name x px, .Name y py] kt pt] (.Tuple [a, b] k2 pt2) X.env = pure (some [x, y]) := by rfl) (hs : swapsWithSole [.Tuple [.Name x px, .Name y py] kt pt] (.Tuple [a, b] k2 pt2) pos.line X.env = pure false := by rfl) :
    DS X W (.Assign [.Tuple [.Name x px, .Name y py] kt pt] (.Tuple [a, b] k2 pt2) pos) (sPar [i, j] me) :=
  PS.imp (ps_par hc hN hi hj hij hx hy ha hw hs) fun Dn σ H ⟨as, ds, h, s, p⟩ => ⟨as, ds, h, s, by
    unfold sPar at p
    cases e : me ds h with
    | ok xs h1 =>
      rw [e] at p
      simp only at p
      intro vs H' as' g r hr
      match xs, vs, r with
      | [], _, _ => exact p.elim
      | [_], _, _ => exact p.elim
      | _ :: _ :: _ :: _, _, _ => exact (by simp at p; exact p.elim)
      | [d, d'], [v, v'], .cons r1 (.cons r2 .nil) => exact ⟨v, v', rfl, p _ H' as' g ⟨(((s.env.grow g).set r1 i).set r2 j), hr⟩⟩
    | ex c q h1 => rw [e] at p; exact fun cls dx H' as' g hr x => p σ cls dx H' as' g ⟨s.env.grow g, hr⟩ x
    | no => rw [e] at p; exact p⟩
theorem ds_lc {i : Nat} {y : Str} {py : Pos} {elt tg iter : Expr} {ifs : List Expr} {scope : Scope} {own : List (Str × Nat)} {spos : Pos} {ms : M Src} {t : Tg} {mt : M Bool} (hN : X.N.Nodup) (hy : X.N[i]? = some y) (hyl : X.env.scope.names.lookup y = some .local)
    (hsw : swapsWith (.ListComp elt [⟨tg, iter, ifs, 0⟩] scope pos) (some (.Name y py)) spos.line X.env = pure true) (hi : DI X W tg iter ms) (ok : BlkOk X.N X.env.scope scope own)
    (hg : ∀ (s : Shared) (H : Hp) (C : Addr) (cl : List (Str × Addr)) (fp : List Addr), DG (X.blk s H scope (compEnvC scope cl C X.env) fp) tg t) (ht : ∀ (s : Shared) (H : Hp) (C : Addr) (cl : List (Str × Addr)) (fp : List Addr), DTs (X.blk s H scope (compEnvC scope cl C X.env) fp) ifs mt)
    (he : ∀ (s : Shared) (H : Hp) (C : Addr) (cl : List (Str × Addr)) (fp : List Addr), DE (X.blk s H scope (compEnvC scope cl C X.env) fp) W0 elt ma) (hsub : ∀ i ∈ t.ns, i ∈ own.map (·.2) := by decide) (hc : X.calm = true := by rfl) (hs : ∀ x, foldedSetIterable iter X.env x = pure x := by intro _; rfl) :
    DS X W (.Assign [.Name y py] (.ListComp elt [⟨tg, iter, ifs, 0⟩] scope pos) spos) (sAsg (.nm i) (mLc ms (own.map (·.2)) t mt ma)) :=
  PS.imp (ps_setLc (wi := tiM X.K X.mg W ms) (g := gOf X.K t) (tt := ttM X.K X.mg W0 mt) (te := teM X.K X.mg W0 ma) hc hN hy hyl hsw hi ok hg ht he hs) fun Dn σ H q => by
    have := asg_core q
    simp only [gOf] at this
    exact lc_post hsub this
theorem dss_nil : DSs X W [] sPass := PSs.imp pss_nil fun Dn σ H ⟨as, ds, h, s, p⟩ => p σ H as .refl s
theorem dss_cons (h1 : DS X W st m1) (h2 : DSs X W sts m2) : DSs X W (st :: sts) (sSeq m1 m2) := PSs.imp (pss_cons h1 h2) fun Dn σ H ⟨as, ds, h, s, p⟩ => ⟨as, ds, h, s, by
  unfold sSeq at p
  cases e : m1 ds h with
  | nx ds' h' => rw [e] at p; exact fun σ' H' as' g s' => ⟨as', ds', h', s', PostS.grow g p⟩
  | rt d h' => rw [e] at p; exact p
  | bk ds' h' => rw [e] at p; exact p
  | ct ds' h' => rw [e] at p; exact p
  | ex c q ds' h' => rw [e] at p; exact p
  | no => rw [e] at p; exact p⟩
theorem dss_one (h1 : DS X W st m1) : DSs X W [st] m1 := pss_one h1
theorem ds_if (hc : DT X W c tc) (h1 : DSs X W xs m1) (h2 : DSs X W ys m2) : DS X W (.If c xs ys pos) (sIf tc m1 m2) := PS.imp (ps_if hc h1 h2) fun Dn σ H ⟨as, ds, h, s, p⟩ => ⟨as, ds, h, s, by
  unfold sIf at p
  cases e : tc ds h with
  | ok b h1 =>
    rw [e] at p
    intro H' as' g hr
    cases b with
    | true => exact ⟨as', ds, h1, ⟨s.env.grow g, hr⟩, PostS.grow g p⟩
    | false => exact ⟨as', ds, h1, ⟨s.env.grow g, hr⟩, PostS.grow g p⟩
  | ex c q h1 => rw [e] at p; exact fun cls dx H' as' g hr x => p σ cls dx H' as' g ⟨s.env.grow g, hr⟩ x
  | no => rw [e] at p; exact p⟩
end
end DL

set_option Elab.async false
set_option linter.all false
set_option maxRecDepth 100000
set_option maxHeartbeats 4000000
namespace DL
open PySem PySem.Spec PyProof.Rows L2

/-- loops: what was made within a turn is forgotten behind it -/
def gcE (n0 : Nat) (ds : Ev) : Ev := ds.map fun o => match o with
  | some (.loc n) => if n < n0 then o else none
  | o => o
def forGo (n0 : Nat) (s : Src) (t : Tg) (body : SM) : Nat → Nat → Ev → Hs → SR
  | 0, _, ds, h => if srcEnd s h then .nx ds h else .no
  | k + 1, i, ds, h => match (srcAt s h i).bind fun x => asgT t x ds with
    | none => .no
    | some ds1 => match body ds1 h with
      | .nx ds2 h2 => forGo n0 s t body k (i + 1) (gcE n0 ds2) (h2.take n0)
      | .ct ds2 h2 => forGo n0 s t body k (i + 1) (gcE n0 ds2) (h2.take n0)
      | .bk ds2 h2 => .nx ds2 h2
      | r => r
def sFor (ms : M Src) (t : Tg) (body : SM) : SM := fun ds h => match ms ds h with
  | .ok s h1 => forGo h1.length s t body s.len 0 ds h1
  | .ex c p h1 => .ex c p ds h1
  | .no => .no
def whileGo (n0 : Nat) (c : M Bool) (body : SM) : Nat → Ev → Hs → SR
  | 0, _, _ => .no
  | k + 1, ds, h => match c ds h with
    | .ok b h1 => if b then (match body ds h1 with
        | .nx ds2 h2 => whileGo n0 c body k (gcE n0 ds2) (h2.take n0)
        | .ct ds2 h2 => whileGo n0 c body k (gcE n0 ds2) (h2.take n0)
        | .bk ds2 h2 => .nx ds2 h2
        | r => r) else .nx ds h1
    | .ex e p h1 => .ex e p ds h1
    | .no => .no
def sWhile (fuel : Nat) (c : M Bool) (body : SM) : SM := fun ds h => whileGo h.length c body fuel ds h
theorem RD.shrink {K : PySem.W.Frag} {H H' : Hp} {as as' : List Addr} (g : Grow as H as' H') {d : D} {v : V} (r : RD K H' as' d v) (h : ∀ n, d = .loc n → n < as.length) : RD K H' as d v := by
  cases r with
  | val r => exact .val (r.shrink g.sub)
  | @loc n a e =>
    obtain ⟨t, rfl⟩ := g.pre
    rw [List.getElem?_append_left (h n rfl)] at e
    exact .loc e
theorem EvR.gc {K : PySem.W.Frag} {H H' : Hp} {as as' : List Addr} (g : Grow as H as' H') : ∀ {ds : Ev} {σ : L2.St}, EvR K H' as' ds σ → EvR K H' as (gcE as.length ds) σ
  | _, _, .nil => .nil
  | _, _, .cons (a := od) h t => by
    refine .cons (fun d e => ?_) (EvR.gc g t)
    cases od with
    | none => cases e
    | some d0 =>
      cases d0 with
      | loc n =>
        simp only at e
        split at e
        · rename_i hl
          cases e
          obtain ⟨v, e1, r⟩ := h _ rfl
          exact ⟨v, e1, r.shrink g fun m hm => by cases hm; exact hl⟩
        · cases e
      | _ =>
        cases e
        obtain ⟨v, e1, r⟩ := h _ rfl
        exact ⟨v, e1, r.shrink g fun m hm => nomatch hm⟩
theorem StR.gc {K : PySem.W.Frag} {H H' : Hp} {as as' : List Addr} {ds : Ev} {h : Hs} {σ : L2.St} (g : Grow as H as' H') (s : StR K H' as' ds h σ) : StR K H' as (gcE as.length ds) (h.take as.length) σ := ⟨s.env.gc g, s.heap.back g⟩
section
variable {X : Cx} {W : WX} {pos p : Pos} {a b c e o i : Expr} {es : List Expr} {ma mb mc mo mi mv : M D} {me : M (List D)} {st : Stmt} {sts xs ys : List Stmt} {m1 m2 mbd : SM} {tc : M Bool}
theorem app_post {Dn : Ends} {σ : L2.St} {H : Hp} (q : tsM X.K X.mg W (sApp mo ma) Dn σ H) : tDrop (tBM X.K "list" rAppend (teM X.K X.mg W mo) (taM X.K X.mg W (mCons ma mNil))) Dn σ H := by
  obtain ⟨as, ds, h, s, q⟩ := q
  refine ⟨as, ds, h, s, ?_⟩
  unfold sApp at q
  cases eo : mo ds h with
  | ex c p h1 => rw [eo] at q; exact q.elim
  | no => rw [eo] at q; exact q.elim
  | ok x h1 =>
    rw [eo] at q
    cases x with
    | loc n =>
      simp only at q
      intro v H1 as1 g1 r1 hr1
      cases r1 with
      | val r => cases r
      | @loc _ ad hat =>
        obtain ⟨c0, ec0, cr0⟩ := hr1.get hat
        cases cr0 with
        | dct hd _ _ => simp only [isLstAt, ec0] at q; exact q.elim
        | lst hl0 _ =>
          have ei : isLstAt h1 n = true := by simp only [isLstAt, ec0]
          rw [ei] at q
          simp only [Bool.true_eq_false, if_false] at q
          refine ⟨Or.inl ⟨rfl, _, Or.inl (Or.inl hl0)⟩, as1, ds, h1, ⟨s.env.grow g1, hr1⟩, ?_⟩
          unfold mCons mNil
          cases ea : ma ds h1 with
          | ex c p h2 => rw [ea] at q; exact fun cls dx H' as' g hr x => q σ cls dx H' as' (g1.trans g) ⟨s.env.grow (g1.trans g), hr⟩ x
          | no => rw [ea] at q; exact q.elim
          | ok y h2 =>
            rw [ea] at q
            simp only at q
            intro vs H2 as2 g2 r2 hr2
            cases r2 with
            | cons ry t =>
              cases t
              cases en : h2[n]? with
              | none => rw [en] at q; exact q.elim
              | some c =>
                rw [en] at q
                obtain ⟨a', e1, cr⟩ := hr2.get2 en
                have e2 := pre_get g2.pre hat
                rw [e1] at e2; cases e2
                cases cr with
                | dct _ _ _ => exact q.elim
                | @lst _ accV l hh rs =>
                  simp only at q
                  by_cases hc : isLoc y = false ∧ l.length < 16777216
                  · rw [if_pos hc] at q
                    obtain ⟨g3, hr3⟩ := hr2.write e1 (rs.append (.cons (ry.rv hc.1) .nil))
                    exact ⟨ad, accV, _, rfl, rfl, hh, by rw [sizeLine_eq, ← rs.length]; exact hc.2, q σ _ as2 ((g1.trans g2).trans g3) ⟨(s.env.grow (g1.trans g2)).grow g3, hr3⟩⟩
                  · rw [if_neg hc] at q; exact q.elim
    | _ => exact q.elim
theorem ds_app {apos : Pos} (ho : DE X W o mo) (ha : DA X W [e] (mCons ma mNil)) (hc : ∀ {to : TE} {t : TA}, PE X o to → PA X [e] t → PE X (.Call (.Attribute o "append" apos) [e] [] pos) (tBM X.K "list" rAppend to t) := by intro _ _ h1 h2; exact pe_bm PySem.F.plainAttrs_list PySem.F.slot_list_append PySem.F.type_list_append mt_append h1 h2)
    (hs : swapsWith (.Call (.Attribute o "append" apos) [e] [] pos) none p.line X.env = pure false := by rfl) : DS X W (.Expr (.Call (.Attribute o "append" apos) [e] [] pos) p) (sApp mo ma) :=
  PS.imp (ps_expr (hc ho ha) hs) fun Dn σ H q => app_post q
theorem put_post {Dn : Ends} {σ : L2.St} {H : Hp} (q : tsM X.K X.mg W (sPut mo mi mv) Dn σ H) : tAsg (teM X.K X.mg W mv) (gSub (teM X.K X.mg W mo) (teM X.K X.mg W mi) rSetL) Dn σ H := by
  obtain ⟨as, ds, h, s, q⟩ := q
  refine ⟨as, ds, h, s, ?_⟩
  unfold sPut at q
  cases ev : mv ds h with
  | ex c p h1 => rw [ev] at q; exact fun cls dx H' as' g hr x => q σ cls dx H' as' g ⟨s.env.grow g, hr⟩ x
  | no => rw [ev] at q; exact q.elim
  | ok y h1 =>
    rw [ev] at q
    intro v H1 as1 g1 r1 hr1
    refine ⟨as1, ds, h1, ⟨s.env.grow g1, hr1⟩, ?_⟩
    simp only at q
    cases eo : mo ds h1 with
    | ex c p h2 => rw [eo] at q; exact q.elim
    | no => rw [eo] at q; exact q.elim
    | ok x h2 =>
      rw [eo] at q
      intro vo H2 as2 g2 r2 hr2
      have s2 : StR X.K H2 as2 ds h2 σ := ⟨s.env.grow (g1.trans g2), hr2⟩
      refine ⟨as2, ds, h2, s2, ?_⟩
      cases x with
      | loc n =>
        simp only at q
        cases ei : mi ds h2 with
        | ex c p h3 => rw [ei] at q; exact q.elim
        | no => rw [ei] at q; exact q.elim
        | ok z h3 =>
          rw [ei] at q
          intro vi H3 as3 g3 r3 hr3
          cases z with
          | int i =>
            simp only at q
            cases en : h3[n]? with
            | none => rw [en] at q; exact q.elim
            | some c =>
              rw [en] at q
              obtain ⟨ad, e1, cr⟩ := hr3.get2 en
              cases cr with
              | dct _ _ _ => exact q.elim
              | @lst _ accV l hh rs =>
                simp only at q
                cases ej : ixN l.length i with
                | none => rw [ej] at q; exact q.elim
                | some j =>
                  rw [ej] at q
                  simp only at q
                  by_cases hl : isLoc y = false
                  · rw [if_pos hl] at q
                    cases r2 with
                    | val r => cases r
                    | @loc _ ad2 hat =>
                      have e2 := pre_get g3.pre hat
                      rw [e1] at e2; cases e2
                      cases r3 with
                      | val r3 =>
                        cases r3
                        obtain ⟨g4, hr4⟩ := hr3.write e1 (rs.set ((r1.grow (g2.trans g3)).rv hl) j)
                        exact ⟨ad, accV, i, j, rfl, rfl, hh, by rw [← rs.length]; exact ej, q σ _ as3 (((g1.trans g2).trans g3).trans g4) ⟨(s2.env.grow g3).grow g4, hr4⟩⟩
                  · rw [if_neg hl] at q; exact q.elim
          | _ => exact q.elim
      | _ => exact q.elim
theorem ds_put {tp : Pos} (ho : DE X W o mo) (hi : DE X W i mi) (hv : DE X W e mv)
    (ha : ∀ v, assign (.Subscript o i tp) X.env v = (do
      let ov ← holding [v] (eval o X.env)
      let iv ← holding [v, ov] (eval i X.env)
      standAt tp
      holding [v, ov, iv] (setItem ov iv v)
      release [v, ov, iv] []) := by intro _; rfl) (hs : swapsWithSole [.Subscript o i tp] e pos.line X.env = pure false := by rfl) (hw : swappedStores [.Subscript o i tp] e X.env = pure none := by rfl)
    (h1 : (assignEach [.Subscript o i tp] X.env).map (·.2) = [assign (.Subscript o i tp) X.env] := by rfl) : DS X W (.Assign [.Subscript o i tp] e pos) (sPut mo mi mv) :=
  PS.imp (ps_asg hv (pg_sub ho hi set_list ha) hs hw h1) fun Dn σ H q => put_post q
theorem for_post {ms : M Src} {t : Tg} {Dn : Ends} {σ : L2.St} {H : Hp} (q : tsM X.K X.mg W (sFor ms t mbd) Dn σ H) : tFor (tiM X.K X.mg W ms) (gOf X.K t) (tsM X.K X.mg W mbd) Dn σ H := by
  obtain ⟨as, ds, h, s, q⟩ := q
  refine ⟨as, ds, h, s, ?_⟩
  unfold sFor at q
  cases es : ms ds h with
  | ex c p h1 => rw [es] at q; exact fun cls dx H' as' g hr x => q σ cls dx H' as' g ⟨s.env.grow g, hr⟩ x
  | no => rw [es] at q; exact q.elim
  | ok sr h1 =>
    rw [es] at q
    intro J H1 as1 g hr wk
    have q : PostS X.K X.mg W as H (forGo h1.length sr t mbd sr.len 0 ds h1) Dn := q
    have q := PostS.grow g q
    have len : as1.length = h1.length := hr.len
    generalize hn : h1.length = n at q len
    refine ⟨fun i m σ' H' => m + i = sr.len ∧ ∃ ds' hh, Grow as1 H1 as1 H' ∧ StR X.K H' as1 ds' hh σ' ∧ PostS X.K X.mg W as1 H1 (forGo n sr t mbd m i ds' hh) Dn, ⟨sr.len, rfl, ds, h1, .refl, ⟨s.env.grow g, hr⟩, q⟩, ?_⟩
    rintro i m σ' H' ⟨hmi, ds', hh, g3, s3, q3⟩
    cases m with
    | zero =>
      refine .inl ?_
      cases ee : srcEnd sr hh with
      | false => simp only [forGo, ee] at q3; exact q3.elim
      | true =>
        have hi' : i = sr.len := by omega
        subst hi'
        simp only [forGo, ee, if_true] at q3
        exact ⟨wk.stop hh H' _ g3 s3.heap ee, q3 σ' H' as1 g3 s3⟩
    | succ m =>
      refine .inr ?_
      cases eb : (srcAt sr hh i).bind fun x => asgT t x ds' with
      | none => simp only [forGo, eb] at q3; exact q3.elim
      | some ds1 =>
        obtain ⟨x, ex, e2⟩ := Option.bind_eq_some_iff.mp eb
        obtain ⟨go, yl⟩ := wk.go i hh H' _ x g3 s3.heap ex
        refine ⟨go, _, fun σ'' H'' w => ⟨m, Nat.lt_succ_self m, w⟩, fun v H2 y => ?_⟩
        obtain ⟨sm, rv⟩ := yl v H2 y
        have gs : Grow as1 H' as1 H2 := .of_same sm
        refine asg_ok t (s3.env.grow gs) (.val rv) e2 fun σ2 s4 wp => ⟨as1, ds1, hh, ⟨s4, s3.heap.same sm⟩, ?_⟩
        simp only [forGo, eb] at q3
        cases ebd : mbd ds1 hh with
        | nx ds2 h2 =>
          rw [ebd] at q3
          intro σ5 H5 as5 g5 s5
          have := s5.gc g5
          rw [len] at this
          exact ⟨by omega, _, _, (g3.trans gs).trans g5.back, this, q3⟩
        | ct ds2 h2 =>
          rw [ebd] at q3
          intro σ5 H5 as5 g5 s5
          have := s5.gc g5
          rw [len] at this
          exact ⟨by omega, _, _, (g3.trans gs).trans g5.back, this, q3⟩
        | bk ds2 h2 => rw [ebd] at q3; exact fun σ5 H5 as5 g5 s5 => q3 σ5 H5 as5 ((g3.trans gs).trans g5) s5
        | rt d h2 => rw [ebd] at q3; exact fun v H5 as5 g5 => q3 v H5 as5 ((g3.trans gs).trans g5)
        | ex c p ds2 h2 => rw [ebd] at q3; exact fun σ5 cls dx H5 as5 g5 => q3 σ5 cls dx H5 as5 ((g3.trans gs).trans g5)
        | no => rw [ebd] at q3; exact q3.elim
theorem ds_for {tg iter : Expr} {body : List Stmt} {ms : M Src} {t : Tg} (hp : PassesOwn (model X.prog X.w) X.A X.env X.xe) (hi : DI X W tg iter ms) (hg : DG X tg t) (hb : DSs X W body mbd) (hc : X.calm = true := by rfl) (hs : ∀ x, foldedSetIterable iter X.env x = pure x := by intro _; rfl) :
    DS X W (.For tg iter body [] pos) (sFor ms t mbd) := PS.imp (ps_for hp hc hi hg hb hs) fun Dn σ H q => for_post q
theorem while_post {fuel : Nat} {Dn : Ends} {σ : L2.St} {H : Hp} (q : tsM X.K X.mg W (sWhile fuel tc mbd) Dn σ H) : tWhile (ttM X.K X.mg W tc) (tsM X.K X.mg W mbd) Dn σ H := by
  obtain ⟨as, ds, h, s, q⟩ := q
  unfold sWhile at q
  have len : as.length = h.length := s.heap.len
  generalize hn : h.length = n at q len
  refine ⟨fun m σ' H' => ∃ ds' hh, Grow as H as H' ∧ StR X.K H' as ds' hh σ' ∧ PostS X.K X.mg W as H (whileGo n tc mbd m ds' hh) Dn, ⟨fuel, ds, h, .refl, s, q⟩, ?_⟩
  rintro m σ' H' ⟨ds', hh, g3, s3, q3⟩
  cases m with
  | zero => exact q3.elim
  | succ m =>
    refine ⟨as, ds', hh, s3, ?_⟩
    simp only [whileGo] at q3
    cases ec : tc ds' hh with
    | ex c p h2 => rw [ec] at q3; exact fun cls dx H2 as2 g hr x => q3 σ' cls dx H2 as2 (g3.trans g) ⟨s3.env.grow g, hr⟩ x
    | no => rw [ec] at q3; exact q3.elim
    | ok b h1 =>
      rw [ec] at q3
      intro H2 as2 g2 hr2
      have s4 : StR X.K H2 as2 ds' h1 σ' := ⟨s3.env.grow g2, hr2⟩
      cases b with
      | false =>
        simp only [Bool.false_eq_true, if_false] at q3 ⊢
        exact q3 σ' H2 as2 (g3.trans g2) s4
      | true =>
        simp only [if_true] at q3 ⊢
        refine ⟨_, fun σ'' H'' w => ⟨m, Nat.lt_succ_self m, w⟩, as2, ds', h1, s4, ?_⟩
        cases ebd : mbd ds' h1 with
        | nx ds2 h2 =>
          rw [ebd] at q3
          intro σ5 H5 as5 g5 s5
          have := s5.gc (g2.trans g5)
          rw [len] at this
          exact ⟨_, _, g3.trans (g2.trans g5).back, this, q3⟩
        | ct ds2 h2 =>
          rw [ebd] at q3
          intro σ5 H5 as5 g5 s5
          have := s5.gc (g2.trans g5)
          rw [len] at this
          exact ⟨_, _, g3.trans (g2.trans g5).back, this, q3⟩
        | bk ds2 h2 => rw [ebd] at q3; exact fun σ5 H5 as5 g5 s5 => q3 σ5 H5 as5 ((g3.trans g2).trans g5) s5
        | rt d h2 => rw [ebd] at q3; exact fun v H5 as5 g5 => q3 v H5 as5 ((g3.trans g2).trans g5)
        | ex c p ds2 h2 => rw [ebd] at q3; exact fun σ5 cls dx H5 as5 g5 => q3 σ5 cls dx H5 as5 ((g3.trans g2).trans g5)
        | no => rw [ebd] at q3; exact q3.elim
theorem ds_while {body : List Stmt} {fuel : Nat} (hp : PassesOwn (model X.prog X.w) X.A X.env X.xe) (hc : DT X W c tc) (hb : DSs X W body mbd) : DS X W (.While c body [] pos) (sWhile fuel tc mbd) := PS.imp (ps_while hp hc hb) fun Dn σ H q => while_post q
end
end DL

set_option Elab.async false
set_option linter.all false
set_option maxRecDepth 100000
set_option maxHeartbeats 4000000
namespace DL
open PySem PySem.Spec PyProof.Rows L2

/-! ### a def by its body -/
/-- what is handed back: a list of its own as a value -/
def finV (n0 : Nat) : SR → R D
  | .nx _ h => .ok .non (h.take n0)
  | .rt (.loc n) h => if n < n0 then .ok (.loc n) (h.take n0) else (match h[n]? with
    | some (.lst l) => .ok (.lst l) (h.take n0)
    | _ => .no)
  | .rt d h => .ok d (h.take n0)
  | .ex c p _ h => .ex c p (h.take n0)
  | _ => .no
/-- .. as a cell, for the caller to change -/
def finC (n0 : Nat) : SR → R D
  | .rt (.loc n) h => if n < n0 then .no else (match h[n]? with
    | some (.lst l) => .ok (.loc n0) (h.take n0 ++ [.lst l])
    | _ => .no)
  | _ => .no
def mkF (np nl : Nat) (fin : Nat → SR → R D) (body : SM) : List D → Hs → R D := fun args h => if args.length = np then fin h.length (body (args.map some ++ List.replicate nl none) h) else .no
section
variable {K : PySem.W.Frag} {mg : Str → Option Value} {as : List Addr} {H : Hp}
theorem EvR.start : ∀ {ds : List D} {vs : List V}, RDs K H as ds vs → EvR K H as (ds.map some) (vs.map some)
  | _, _, .nil => .nil
  | _, _, .cons r t => .cons (fun d e => by cases e; exact ⟨_, rfl, r⟩) (EvR.start t)
theorem EvR.nones : ∀ n : Nat, EvR K H as (List.replicate n none) (List.replicate n none)
  | 0 => .nil
  | n + 1 => .cons (fun d e => nomatch e) (EvR.nones n)
theorem EvR.append : ∀ {ds es : Ev} {vs us : L2.St}, EvR K H as ds vs → EvR K H as es us → EvR K H as (ds ++ es) (vs ++ us)
  | _, _, _, _, .nil, r => r
  | _, _, _, _, .cons h t, r => .cons h (EvR.append t r)
theorem CellR.shrink {as' : List Addr} (h : ∀ a ∈ as, a ∈ as') {d : D} {a : Addr} (r : CellR K H as' d a) : CellR K H as d a := by
  cases r with
  | lst hh r => exact .lst hh (r.shrink h)
  | dct hh e r => exact .dct hh e (r.shrink h)
/-- how a body's end and a def's end fit -/
def FinOk (fin : Nat → SR → R D) : Prop := ∀ (K : PySem.W.Frag) (mg : Str → Option Value) (as : List Addr) (H : Hp) (r : SR) (Q : VK) (E : XK) , PostC K mg as H (fin as.length r) Q E → PostS K mg (fun cls d _ H => E cls d H) as H r { nx := fun _ H' => Q .non H', rt := Q }
theorem finV_ok : FinOk finV := by
  intro K mg as H r Q E p
  cases r with
  | nx ds h => exact fun σ H' as' g s => p .non H' as g.back (.val .non) (s.heap.back g)
  | rt d h =>
    intro v H' as' g r hr
    cases d with
    | loc n =>
      by_cases hn : n < as.length
      · simp only [finV, if_pos hn] at p
        exact p v H' as g.back (r.shrink g fun m hm => by cases hm; exact hn) (hr.back g)
      · simp only [finV, if_neg hn] at p
        cases r with
        | val r => cases r
        | @loc _ a e =>
          obtain ⟨c, ec, cr⟩ := hr.get e
          rw [ec] at p
          cases cr with
          | dct _ _ _ => exact p.elim
          | lst hh rs =>
            have na : a ∉ as := fun z => by
              obtain ⟨m, hm, em⟩ := List.getElem_of_mem z
              have e2 : as'[m]? = some a := pre_get g.pre (by rw [List.getElem?_eq_getElem hm, em])
              have := nodup_at hr.nd e e2
              omega
            exact p (.ref a) H' as g.back (.val (.lst hh na (rs.shrink g.sub))) (hr.back g)
    | _ => exact p v H' as g.back (r.shrink g fun m hm => nomatch hm) (hr.back g)
  | bk ds h => exact p.elim
  | ct ds h => exact p.elim
  | ex c q ds h => exact fun σ cls dx H' as' g s x => p cls dx H' as g.back (s.heap.back g) ⟨x.1, by
      have := x.2
      cases q with
      | none => trivial
      | some d =>
        obtain ⟨a, v, e1, e2, r⟩ := this
        exact ⟨a, v, e1, e2, r.shrink g.sub⟩⟩
  | no => exact p
theorem finC_ok : FinOk finC := by
  intro K mg as H r Q E p
  cases r with
  | rt d h =>
    intro v H' as' g r hr
    cases d with
    | loc n =>
      by_cases hn : n < as.length
      · simp only [finC, if_pos hn] at p; exact p.elim
      · simp only [finC, if_neg hn] at p
        cases r with
        | val r => cases r
        | @loc _ a e =>
          obtain ⟨c, ec, cr⟩ := hr.get e
          rw [ec] at p
          cases cr with
          | dct _ _ _ => exact p.elim
          | @lst _ vs l hh rs =>
            have na : a ∉ as := fun z => by
              obtain ⟨m, hm, em⟩ := List.getElem_of_mem z
              have e2 : as'[m]? = some a := pre_get g.pre (by rw [List.getElem?_eq_getElem hm, em])
              have := nodup_at hr.nd e e2
              omega
            have ha : a ∈ as' := List.mem_of_getElem? e
            have sub : ∀ b ∈ as ++ [a], b ∈ as' := fun b hb => by
              rcases List.mem_append.mp hb with z | z
              · exact g.sub b z
              · rw [List.mem_singleton.mp z]; exact ha
            refine p (.ref a) H' (as ++ [a]) ⟨List.prefix_append _ _, fun b hb => g.new b (sub b hb), g.fr⟩ (.loc (by simp)) ?_
            have hb := hr.back g
            refine ⟨by simp [hb.len.symm], ?_, fun m d b e1 e2 => ?_⟩
            · rw [List.nodup_append]
              exact ⟨hb.nd, by simp, fun x hx y hy e => na (by rw [List.mem_singleton.mp hy] at e; rw [← e]; exact hx)⟩
            · have hl : as.length = (h.take as.length).length := hb.len
              rcases get_snoc e1 with ⟨l1, q1⟩ | ⟨l1, q1⟩
              · rcases get_snoc e2 with ⟨l2, q2⟩ | ⟨l2, q2⟩
                · obtain ⟨k1, k2⟩ := List.getElem?_eq_some_iff.mp q2
                  have q3 : as'[m]? = some b := pre_get g.pre q2
                  have q4 : h[m]? = some d := by
                    rw [List.getElem?_take, if_pos (show m < as.length from k1)] at q1
                    exact q1
                  exact (hr.at_ m d b q4 q3).shrink sub
                · omega
              · rcases get_snoc e2 with ⟨l2, q2⟩ | ⟨l2, q2⟩
                · omega
                · subst q1 q2
                  exact .lst hh (rs.shrink sub)
    | _ => exact p.elim
  | _ => exact p.elim
end
section
variable {P : Program} {w : World} {K : PySem.W.Frag} {mg : Str → Option Value} {base : Heap}
theorem fn_mk {d : He.DefD} {N ps : List Str} {k : Nat} {f : Addr} {fd : FuncData} {m : SM} {fin : Nat → SR → R D} (F : FunD K d.name d.qual d.params d.body d.scope (d.dvs K) (d.kws K) f fd) (hf : FinOk fin) (S : FnScope N ps d.scope)
    (hbody : ∀ (cdv : Value) (A : Around) (outer : List Env) (s : Shared) (H : Hp) (E : XK), Room k (A.deeper (envOfC d.qual d.scope s.heap.objs.size f cdv)) →
      DSs (cxOf (L2.CX P w) P w K mg base N d.qual d.scope f cdv A outer s H E) (fun cls d _ H => E cls d H) d.body m) : FnOk P w K mg base (L2.CX P w) (k + 1) f fd ps (spD K mg ps.length (mkF ps.length (N.length - ps.length) fin m)) := by
  refine F.ok S (fun vs H Q E h => h.1) fun cdv A outer s H vs Q E hr h => ⟨_, hbody cdv A outer s H E hr, ?_⟩
  obtain ⟨hl, as, ds, hh, r, hr2, p⟩ := h
  have e1 : ds.length = ps.length := by rw [r.length]; exact hl
  unfold mkF at p
  rw [if_pos e1] at p
  refine ⟨as, ds.map some ++ List.replicate (N.length - ps.length) none, hh, ⟨?_, hr2⟩, ?_⟩
  · unfold L2.start
    rw [hl]
    exact (EvR.start r).append (EvR.nones _)
  · rw [← hr2.len] at p
    exact hf K mg as H _ Q E p
theorem fd_mk (d : He.DefD) (N ps : List Str) (k np nl : Nat) {x : Str} {f : Addr} {fd : FuncData} {m : SM} {fin : Nat → SR → R D} (hnp : ps.length = np) (hnl : N.length - ps.length = nl) (F : FunD K d.name d.qual d.params d.body d.scope (d.dvs K) (d.kws K) f fd) (hm : mg x = some (.ref f)) (hf : FinOk fin) (S : FnScope N ps d.scope)
    (hb : Binds K fd ps [])
    (hbody : ∀ (cdv : Value) (A : Around) (outer : List Env) (s : Shared) (H : Hp) (E : XK), Room k (A.deeper (envOfC d.qual d.scope s.heap.objs.size f cdv)) →
      DSs (cxOf (L2.CX P w) P w K mg base N d.qual d.scope f cdv A outer s H E) (fun cls d _ H => E cls d H) d.body m) : FD P w K mg base (k + 1) x np (mkF np nl fin m) := by
  subst hnp hnl
  exact ⟨f, fd, ps, hm, F.kp, hb, fn_mk F hf S hbody⟩
theorem fn_mk' (d : He.DefD) (N ps : List Str) (k np nl : Nat) {f : Addr} {fd : FuncData} {m : SM} {fin : Nat → SR → R D} (hnp : ps.length = np) (hnl : N.length - ps.length = nl) (F : FunD K d.name d.qual d.params d.body d.scope (d.dvs K) (d.kws K) f fd) (hf : FinOk fin) (S : FnScope N ps d.scope)
    (hbody : ∀ (cdv : Value) (A : Around) (outer : List Env) (s : Shared) (H : Hp) (E : XK), Room k (A.deeper (envOfC d.qual d.scope s.heap.objs.size f cdv)) →
      DSs (cxOf (L2.CX P w) P w K mg base N d.qual d.scope f cdv A outer s H E) (fun cls d _ H => E cls d H) d.body m) : FnOk P w K mg base (L2.CX P w) (k + 1) f fd ps (spD K mg np (mkF np nl fin m)) := by
  subst hnp hnl
  exact fn_mk F hf S hbody
/-- the law's own def lets nothing out -/
theorem fn_quiet {f : Addr} {fd : FuncData} {ps : List Str} {k : Nat} {sp : Sp} (F : FnOk P w K mg base (L2.CX P w) k f fd ps sp) : FnOk P w K mg base CX0 k f fd ps (fun vs H Q _ => sp vs H Q E0) := by
  refine ⟨fun vs H Q E h => F.len vs H Q E0 h, fun A outer s H args us vs Q E hr e0 hb hv hs => codeAny_mono (F.run A outer s H args us vs Q E0 hr e0 hb hv hs) fun r s' q => ?_⟩
  cases r with
  | error e =>
    obtain ⟨_, _, _, _, _, _, _, _, _, _, _, _, z⟩ := (show L2.CX P w outer H s E0 e s' from q)
    exact z.elim
  | ok fl => cases fl <;> exact q
end
end DL

set_option Elab.async false
set_option linter.all false
set_option maxRecDepth 100000
set_option maxHeartbeats 4000000
namespace DL
open PySem PySem.Spec PyProof.Rows L2

/-! ### enumerate of a tuple -/
theorem enumNewT (t : Addr) (items : Array Value) :
    Meets (Builtin.«enumerate.__new__» ⟨[.type "enumerate", .ref t], []⟩) (fun _ R s => s.heap.IsTuple t items ∧
      R (.ok (.ret (.ref (s.heap.push { cls := .type "tuple_iterator", data := .fields #[.ref t, .int 0 0] }).objs.size)))
        { s with heap := (s.heap.push { cls := .type "tuple_iterator", data := .fields #[.ref t, .int 0 0] }).push { cls := .type "enumerate", data := .fields #[.none, .bool false, .ref s.heap.objs.size, rawInt 0, .none, .none] } }) :=
  .of_wp fun prog w A R s h => by
    obtain ⟨hp, g, d, tk, os⟩ := s; obtain ⟨hT, h⟩ := h
    have hsub := sub_enumerate
    have q1 : ∀ {A' : Around} {E : Value → Shared → Prop} {Q : Value → Shared → Prop}, Q (.ref hp.objs.size) ⟨hp.push { cls := .type "tuple_iterator", data := .fields #[.ref t, .int 0 0] }, g, d, tk, os⟩ → wpAny (model prog w) A' (pyIter (.ref t)) Q E ⟨hp, g, d, tk, os⟩ :=
      fun q => wpAny_pyIter_tuple (s := ⟨hp, g, d, tk, os⟩) hT q
    wp_walk using q1
    refine wpAny_stack_any fun st => wpAny_pure ?_
    split
    · rename_i c _ _ _ _ _
      cases (c == Value.type "enumerate")
      · wp_walk using q1
        exact ⟨_, rfl, h⟩
      · wp_walk using q1
        exact ⟨_, rfl, h⟩
    · wp_walk using q1
      exact ⟨_, rfl, h⟩
theorem enumCallT {prog : Program} {w : World} {A : Around} {E : Value → Shared → Prop} {s : Shared} {t : Addr} {items : Array Value} {Q : Value → Shared → Prop} (hT : s.heap.IsTuple t items)
    (h : ∀ h', IsEnum h' (s.heap.objs.size + 1) s.heap.objs.size 0 .none → h'.IsTupleIter s.heap.objs.size t 0 → h'.objs.size = s.heap.objs.size + 2 →
      (∀ b o, s.heap.get? b = some o → h'.get? b = some o) → Q (.ref (s.heap.objs.size + 1)) { s with heap := h' }) :
    wpAny (model prog w) A (call (.type "enumerate") [.ref t]) Q E s := by
  refine callType_new F.called_enumerate (by decide) (F.typeCall_enumerate_1 _) (F.newCall_enumerate_1 _) (fun obj => F.args_object_init_2 obj _) F.entry_enumerate_new
    (enumNewT t items) ⟨hT, ?_⟩
  have hz : (s.heap.push { cls := .type "tuple_iterator", data := .fields #[.ref t, .int 0 0] }).objs.size = s.heap.objs.size + 1 := Heap.size_push ..
  show _ ∧ _
  rw [hz]
  have he : IsEnum ((s.heap.push { cls := .type "tuple_iterator", data := .fields #[.ref t, .int 0 0] }).push
      { cls := .type "enumerate", data := .fields #[.none, .bool false, .ref s.heap.objs.size, rawInt 0, .none, .none] }) (s.heap.objs.size + 1) s.heap.objs.size 0 .none := by
    have := Heap.get?_push_size (s.heap.push { cls := .type "tuple_iterator", data := .fields #[.ref t, .int 0 0] })
      (o := { cls := .type "enumerate", data := .fields #[.none, .bool false, .ref s.heap.objs.size, rawInt 0, .none, .none] }) rfl
    rw [hz] at this; exact this
  refine ⟨⟨_, he, rfl⟩, h _ he ⟨_, Heap.get?_push_of_some _ (Heap.get?_push_size _ rfl), rfl, rfl⟩ (by rw [Heap.size_push, hz]) fun b o x => Heap.get?_push_of_some _ (Heap.get?_push_of_some _ x)⟩
def IteT (K : PySem.W.Frag) (a : Addr) : It :=
  ⟨fun i H => ∃ (xs : List V) (x : V), SqT K H a xs ∧ xs[i]? = some x, fun i H v H' => ∃ T x, v = .ref T ∧ H T = none ∧ H' = upd H T (.tup [.int (i : Nat), x]) ∧ ∀ xs, SqT K H a xs → xs[i]? = some x, fun i H => ∃ xs : List V, SqT K H a xs ∧ xs.length = i⟩
theorem turn_enumT {P : Program} {w : World} {K : PySem.W.Frag} {elts : List Expr} {kk : Nat} {tpos : Pos} (a e it : Addr) :
    Turn P w K (.Tuple elts kk tpos) (IteT K a) [e, it] e (fun i h => (∃ old, IsEnum h e it ((i : Nat) : Int) old) ∧ h.IsTupleIter it a i ∧ e ≠ it ∧ a ≠ it ∧ a ≠ e) where
  mem := by simp
  obj := fun i h st b hb => by
    obtain ⟨⟨old, he⟩, ⟨o, ho, hc, hd⟩, _⟩ := st
    have e' : b = e ∨ b = it := by simpa using hb
    rcases e' with z | z
    · rw [z]; exact ⟨_, he, fun v q => nomatch q⟩
    · rw [z]; exact ⟨o, ho, fun v q => by rw [hd] at q; cases q⟩
  keep := fun i h h' st k => let ⟨⟨old, he⟩, hi, hne⟩ := st; ⟨⟨old, k e (by simp) _ he⟩, hi.at fun o q => k it (by simp) o q, hne⟩
  item := by
    intro X hP hw hK hc i pins s σ H E I hf st hg
    subst hP hw hK
    obtain ⟨⟨old, he⟩, hit, hne, hat, hae⟩ := st
    obtain ⟨xs, x, hq, hx⟩ := hg
    obtain ⟨its, rv, p, hz⟩ := I.tuple hq
    obtain ⟨u, hu, ru⟩ := rv.get hx
    have hel : e < s.heap.objs.size := Heap.lt_size he
    have hil : it < s.heap.objs.size := by obtain ⟨_, q, _⟩ := hit; exact Heap.lt_size q
    have D := Draws.tuple (prog := X.prog) (w := X.w) (A := X.A.in1) (I.ok.hd hc) it a hat its.toArray
    have hlt : i < its.toArray.size := by
      have := (List.getElem?_eq_some_iff.mp hu).1
      simpa using this
    refine wpAny_pyNext_enum_itemC D he ⟨hit, p⟩ hlt hne (by simp [hne, Ne.symm hae]) fun x' h' tk hP ho hs' hT hsz hk => ?_
    have ex : x' = u := by
      have q2 : its.toArray[i]? = some u := by simpa using hu
      rw [q2] at hP
      exact (Option.some.inj hP).symm
    subst ex
    refine ⟨_, rfl, wpAny_letOwnedTupleGo_enum (s := { s with heap := h', toks := tk + 1 }) ho fun h'' he' sb => ?_⟩
    have hT2 : h''.get? s.heap.objs.size = some { cls := .type "tuple", data := .seq #[.int i tk, x'] } := (sb.2 _ (Nat.ne_of_gt hel)).trans hT
    have new : ObjOk X.prog X.w (upd H s.heap.objs.size (.tup [.int (i : Nat), x])) h'' s.heap.objs.size (.tup [.int (i : Nat), x]) :=
      ⟨by show 2 ≤ sizeLine; decide, [.int i tk, x'], .cons ⟨_, rfl⟩ (.cons ru .nil), ⟨_, hT2, rfl, _, rfl⟩⟩
    have I1 : Inv X pins σ (upd H s.heap.objs.size (.tup [.int (i : Nat), x])) { s with heap := h'', toks := tk + 1 } :=
      I.turnedNew (ch := [e, it]) (fun b ob hb q => (sb.2 b (fun z => hb (by simp [z]))).trans (hk b ob (fun z => hb (by simp [z])) (fun z => hb (by simp [z])) q)) hf (Nat.le_refl _) new
    refine ⟨.ref s.heap.objs.size, _, I1, rfl, ⟨_, x, rfl, I.hok.fresh (Nat.le_refl _), rfl, fun ys hy => by rw [I.tuple_inj hy hq]; exact hx⟩, ⟨⟨x', ?_⟩, hs'.1.at fun o q => (sb.2 it (Ne.symm hne)).trans q, hne, hat, hae⟩, fun b hb => ?_⟩
    · have e1 : ((i + 1 : Nat) : Int) = (i : Int) + 1 := by omega
      rw [e1]; exact he'
    · have hb' : b < s.heap.objs.size := by
        have e' : b = e ∨ b = it := by simpa using hb
        rcases e' with z | z
        · rw [z]; exact hel
        · rw [z]; exact hil
      rw [upd_ne (Nat.ne_of_lt hb')]
      exact (hf b hb).1
  done := by
    intro X hP hw hK hc i pins s σ H E I hf st hg
    subst hP hw hK
    obtain ⟨⟨old, he⟩, hit, hne, hat, hae⟩ := st
    obtain ⟨xs, hq, hx⟩ := hg
    obtain ⟨its, rv, p, hz⟩ := I.tuple hq
    obtain ⟨f0, f1, f2, f3, f4, f5⟩ := hf it (by simp)
    have hl := rv.length
    have D := Draws.tuple (prog := X.prog) (w := X.w) (A := X.A.in1) (I.ok.hd hc) it a hat its.toArray
    have hi : i = its.toArray.size := by rw [List.size_toArray]; omega
    subst hi
    exact wpAny_pyNext_enum_endD D he ⟨hit, p⟩ fun h' eb => ⟨rfl, I.turned (t' := s.toks) (fun b o hb q => eb b o hb q) f0 f1 f3 f4 f5⟩
  self := fun A i s Q E st h => let ⟨⟨_, he⟩, _⟩ := st; wpAny_pyIter_enum he h
def iEnumT (K : PySem.W.Frag) (ta : TA) : TI := fun σ H R => ta σ H fun vs H1 => ∃ a xs, vs = [.ref a] ∧ SqT K H1 a xs ∧ R (IteT K a) H1
theorem pi_enumT {X : Cx} {e : Expr} {ta : TA} {p pos tpos : Pos} {elts : List Expr} {kk : Nat} (hg : Gl X "enumerate") (hm : X.mg "enumerate" = none) (ha : PA X [e] ta) (hs : starEach [e] X.env = [(false, eval e X.env)] := by rfl) :
    PI X (.Tuple elts kk tpos) (.Call (.Name "enumerate" p) [e] [] pos) (iEnumT X.K ta) := by
  refine ⟨fun pins s σ H R I h => ?_⟩
  refine Call_ (ld_blt I hg hm boot_enumerate (PyProof.Rows.callWith_type1 (thn (ha.run pos pins s σ H _ I h) fun us s1 ⟨vs, H1, I1, r1, q1⟩ => ?_) hs rfl))
  obtain ⟨a, xs, ex, hq, q⟩ := q1
  subst ex
  cases r1 with
  | cons r rr =>
    cases rr
    cases r
    obtain ⟨its, rv, p', hz⟩ := I1.tuple hq
    obtain ⟨o1, ho1, _⟩ := id p'
    have hal : a < s1.heap.objs.size := Heap.lt_size ho1
    refine enumCallT (show s1.heap.IsTuple a its.toArray from p') fun h' he hit hsz hk => wpAny_pyIter_enum he ?_
    have I2 : Inv X pins σ H1 { s1 with heap := h' } := I1.kept (t' := s1.toks) hk
    refine ⟨s1.heap.objs.size + 1, [s1.heap.objs.size + 1, s1.heap.objs.size], _, _, H1, rfl, I2, turn_enumT a (s1.heap.objs.size + 1) s1.heap.objs.size, ⟨⟨.none, he⟩, hit, Nat.succ_ne_self _, Nat.ne_of_lt hal, Nat.ne_of_lt (Nat.lt_succ_of_lt hal)⟩, fun b hb => ?_, q⟩
    have e' : b = s1.heap.objs.size + 1 ∨ b = s1.heap.objs.size := by simpa using hb
    have hle : s1.heap.objs.size ≤ b := by
      rcases e' with z | z
      · rw [z]; exact Nat.le_add_right _ _
      · rw [z]; exact Nat.le_refl _
    exact I1.fpOk hle (I1.hok.fresh hle)
end DL

set_option Elab.async false
set_option linter.all false
set_option maxRecDepth 100000
set_option maxHeartbeats 4000000
namespace DL
open PySem PySem.Spec PyProof.Rows L2 RZ

/-! ### enumerate, zip -/
def mSrcR (f : List D → Option Src) (me : M (List D)) : M Src := fun ds h => (me ds h).bind fun xs h1 => match f xs with
  | some s => .ok s h1
  | none => .no
def enumL (l : List D) : List D := l.zipIdx.map fun p => .tup [.int (p.2 : Nat), p.1]
def zipL (a b : List D) : List D := List.zipWith (fun x y => .tup [x, y]) a b
def lsOf : D → Option (List D)
  | .lst l => some l
  | .frz l => some l
  | _ => none
def enum1 : List D → Option Src
  | [.tup l] => some (.its (enumL l))
  | [x] => (lsOf x).map fun l => .its (enumL l)
  | _ => none
def zip2 : List D → Option Src
  | [.tup a, .tup b] => some (.its (zipL a b))
  | [x, y] => (lsOf x).bind fun a => (lsOf y).map fun b => .its (zipL a b)
  | _ => none
section
variable {K : PySem.W.Frag} {H : Hp} {as : List Addr}
theorem enumL_get {l : List D} {i : Nat} {d : D} (e : (enumL l)[i]? = some d) : ∃ x, l[i]? = some x ∧ d = .tup [.int (i : Nat), x] := by
  simp only [enumL, List.getElem?_map, List.getElem?_zipIdx] at e
  cases hx : l[i]? with
  | none => rw [hx] at e; cases e
  | some x => rw [hx] at e; cases e; exact ⟨x, rfl, by simp⟩
theorem zipL_get {a b : List D} {i : Nat} {d : D} (e : (zipL a b)[i]? = some d) : ∃ x y, a[i]? = some x ∧ b[i]? = some y ∧ d = .tup [x, y] := by
  simp only [zipL, List.getElem?_zipWith] at e
  cases hx : a[i]? with
  | none => rw [hx] at e; cases e
  | some x =>
    cases hy : b[i]? with
    | none => rw [hx, hy] at e; cases e
    | some y => rw [hx, hy] at e; cases e; exact ⟨x, y, rfl, rfl, rfl⟩
theorem walkD_enum {a : Addr} {vs : List V} {ds : List D} (hs : ∀ as1 H1, Grow as H as1 H1 → SqL K H1 a vs) (r : RVs K H as ds vs) : WalkD K as H (Ite K a) (.its (enumL ds)) := by
  refine ⟨fun i h H1 as1 d g hr e => ?_, fun h H1 as1 g hr e => ⟨vs, hs as1 H1 g, ?_⟩⟩
  · obtain ⟨x, e1, rfl⟩ := enumL_get (show (enumL ds)[i]? = some d from e)
    obtain ⟨v, e2, r1⟩ := r.get e1
    refine ⟨⟨vs, v, hs as1 H1 g, e2⟩, fun y H2 ⟨T, x', ey, hT, eH, e3⟩ => ?_⟩
    subst ey eH
    have := e3 vs (hs as1 _ g)
    rw [e2] at this; cases this
    have sm := same_upd (o := .tup [.int (i : Nat), v]) hT
    exact ⟨sm, .tup (SqT.of upd_same) (.cons (.int _) (.cons ((r1.grow g).same sm) .nil))⟩
  · show vs.length ≤ (enumL ds).length
    rw [← r.length]; simp [enumL]
theorem walkD_enumT {a : Addr} {vs : List V} {ds : List D} (hs : SqT K H a vs) (r : RVs K H as ds vs) : WalkD K as H (IteT K a) (.its (enumL ds)) := by
  refine ⟨fun i h H1 as1 d g hr e => ?_, fun h H1 as1 g hr e => ⟨vs, sqT_fr g.fr hs, ?_⟩⟩
  · obtain ⟨x, e1, rfl⟩ := enumL_get (show (enumL ds)[i]? = some d from e)
    obtain ⟨v, e2, r1⟩ := r.get e1
    refine ⟨⟨vs, v, sqT_fr g.fr hs, e2⟩, fun y H2 ⟨T, x', ey, hT, eH, e3⟩ => ?_⟩
    subst ey eH
    have := e3 vs (sqT_fr g.fr hs)
    rw [e2] at this; cases this
    have sm := same_upd (o := .tup [.int (i : Nat), v]) hT
    exact ⟨sm, .tup (SqT.of upd_same) (.cons (.int _) (.cons ((r1.grow g).same sm) .nil))⟩
  · show vs.length = (enumL ds).length
    rw [← r.length]; simp [enumL]
theorem walkD_zip {a b : Addr} {vs us : List V} {ds es : List D} (hs : ∀ as1 H1, Grow as H as1 H1 → SqL K H1 a vs) (hs2 : ∀ as1 H1, Grow as H as1 H1 → SqL K H1 b us) (r : RVs K H as ds vs) (r2 : RVs K H as es us) : WalkD K as H (Itz K a b) (.its (zipL ds es)) := by
  refine ⟨fun i h H1 as1 d g hr e => ?_, fun h H1 as1 g hr e => ⟨vs, us, hs as1 H1 g, hs2 as1 H1 g, ?_⟩⟩
  · obtain ⟨x, y, e1, e2, rfl⟩ := zipL_get (show (zipL ds es)[i]? = some d from e)
    obtain ⟨v, e3, r3⟩ := r.get e1
    obtain ⟨u, e4, r4⟩ := r2.get e2
    refine ⟨⟨vs, us, v, u, hs as1 H1 g, hs2 as1 H1 g, e3, e4⟩, fun z H2 ⟨T, x', y', ey, hT, eH, e5, e6⟩ => ?_⟩
    subst ey eH
    have := e5 vs (hs as1 _ g)
    rw [e3] at this; cases this
    have := e6 us (hs2 as1 _ g)
    rw [e4] at this; cases this
    have sm := same_upd (o := .tup [v, u]) hT
    exact ⟨sm, .tup (SqT.of upd_same) (.cons ((r3.grow g).same sm) (.cons ((r4.grow g).same sm) .nil))⟩
  · show vs.length ≤ (zipL ds es).length ∨ us.length ≤ (zipL ds es).length
    rw [← r.length, ← r2.length]; simp only [zipL, List.length_zipWith]; omega
theorem walkD_zipT {a b : Addr} {vs us : List V} {ds es : List D} (hs : SqT K H a vs) (hs2 : SqT K H b us) (r : RVs K H as ds vs) (r2 : RVs K H as es us) : WalkD K as H (ItzT K a b) (.its (zipL ds es)) := by
  refine ⟨fun i h H1 as1 d g hr e => ?_, fun h H1 as1 g hr e => ⟨vs, us, sqT_fr g.fr hs, sqT_fr g.fr hs2, ?_⟩⟩
  · obtain ⟨x, y, e1, e2, rfl⟩ := zipL_get (show (zipL ds es)[i]? = some d from e)
    obtain ⟨v, e3, r3⟩ := r.get e1
    obtain ⟨u, e4, r4⟩ := r2.get e2
    refine ⟨⟨vs, us, v, u, sqT_fr g.fr hs, sqT_fr g.fr hs2, e3, e4⟩, fun z H2 ⟨T, x', y', ey, hT, eH, e5, e6⟩ => ?_⟩
    subst ey eH
    have := e5 vs (sqT_fr g.fr hs)
    rw [e3] at this; cases this
    have := e6 us (sqT_fr g.fr hs2)
    rw [e4] at this; cases this
    have sm := same_upd (o := .tup [v, u]) hT
    exact ⟨sm, .tup (SqT.of upd_same) (.cons ((r3.grow g).same sm) (.cons ((r4.grow g).same sm) .nil))⟩
  · show vs.length ≤ (zipL ds es).length ∨ us.length ≤ (zipL ds es).length
    rw [← r.length, ← r2.length]; simp only [zipL, List.length_zipWith]; omega
/-- a list as a value stays -/
theorem RD.lsOf {as' : List Addr} {d : D} {v : V} {l : List D} (r : RD K H as d v) (e : lsOf d = some l) : ∃ a vs, v = .ref a ∧ RVs K H as l vs ∧ ∀ as1 H1, Grow as H as1 H1 → SqL K H1 a vs := by
  cases d with
  | lst l' =>
    cases e
    cases r with
    | val r => cases r with
      | lst h n rs => exact ⟨_, _, rfl, rs, fun as2 H2 g2 => SqL.of (g2.fr _ _ h fun z => absurd z n)⟩
  | frz l' =>
    cases e
    cases r with
    | val r => cases r with
      | frz h rs => exact ⟨_, _, rfl, rs, fun as2 H2 g2 => (frzL_fr g2.fr h).sq⟩
  | _ => cases e
end
section
variable {X : Cx} {W : WX} {a b e e2 : Expr} {es : List Expr} {ma mb : M D} {me : M (List D)} {p pos tpos : Pos} {elts : List Expr} {kk : Nat}
theorem di_enum (ha : DA X W [e] me) (hm : X.mg "enumerate" = none) (hg : Gl X "enumerate" := by rfl) (hs : starEach [e] X.env = [(false, eval e X.env)] := by rfl) :
    DI X W (.Tuple elts kk tpos) (.Call (.Name "enumerate" p) [e] [] pos) (mSrcR enum1 me) := by
  refine PI.imp (PI.or (pi_enum hg hm ha hs) (pi_enumT hg hm ha hs)) fun σ H Q ⟨as, ds, h, s, q⟩ => ?_
  unfold mSrcR at q
  cases ee : me ds h with
  | ex c p h1 => rw [ee] at q; exact .inl ⟨as, ds, h, s, by rw [ee]; exact q⟩
  | no => rw [ee] at q; exact q.elim
  | ok xs h1 =>
    rw [ee] at q
    match xs with
    | [] => exact q.elim
    | _ :: _ :: _ => exact (by simp [R.bind, enum1] at q; exact q.elim)
    | [x] =>
      by_cases ht : ∃ l, x = .tup l
      · obtain ⟨l, rfl⟩ := ht
        have q : PostI X.K X.mg W as σ H (.ok (.its (enumL l)) h1) Q := q
        refine .inr ⟨as, ds, h, s, ?_⟩
        rw [ee]
        intro v H1 as1 g r hr
        cases r with
        | cons r rr =>
          cases rr
          cases r with
          | val r => cases r with
            | tup h rs => exact ⟨_, _, rfl, h, q _ H1 as1 g hr (walkD_enumT h rs)⟩
      · cases el : lsOf x with
        | none => cases x <;> first | exact absurd ⟨_, rfl⟩ ht | exact q.elim | (cases el; done)
        | some l =>
          have ex : enum1 [x] = some (.its (enumL l)) := by cases x <;> first | exact absurd ⟨_, rfl⟩ ht | (cases el; done) | (cases el; rfl)
          have q : PostI X.K X.mg W as σ H (match enum1 [x] with | some s => .ok s h1 | none => .no) Q := q
          rw [ex] at q
          refine .inl ⟨as, ds, h, s, ?_⟩
          rw [ee]
          intro v H1 as1 g r hr
          cases r with
          | cons r rr =>
            cases rr
            obtain ⟨a, vs, rfl, rs, hq⟩ := r.lsOf (as' := as) el
            exact ⟨a, vs, rfl, hq _ _ .refl, q _ H1 as1 g hr (walkD_enum hq rs)⟩
theorem di_zip (ha : DA X W [e, e2] me) (hm : X.mg "zip" = none) (hg : Gl X "zip" := by rfl) (hs : starEach [e, e2] X.env = (false, eval e X.env) :: starEach [e2] X.env := by rfl) (hpl : (backTo pos (starEach [e2] X.env)).any (·.1) = false := by rfl) :
    DI X W (.Tuple elts kk tpos) (.Call (.Name "zip" p) [e, e2] [] pos) (mSrcR zip2 me) := by
  refine PI.imp (RZ.pi_zipA hg hm ha hs hpl) fun σ H Q ⟨as, ds, h, s, q⟩ => ⟨as, ds, h, s, PostI.bindA q fun xs h1 vs H1 as1 f1 r1 hr1 p1 => ?_⟩
  match xs, vs, r1 with
  | [], _, _ => exact p1.elim
  | [_], _, _ => exact (by simp [zip2] at p1; exact p1.elim)
  | _ :: _ :: _ :: _, _, _ => exact (by simp [zip2] at p1; exact p1.elim)
  | [x, y], [v, u], .cons r (.cons r2 .nil) =>
    by_cases ht : ∃ l m, x = .tup l ∧ y = .tup m
    · obtain ⟨l, m, rfl, rfl⟩ := ht
      have p1 : PostI X.K X.mg W as1 σ H1 (.ok (.its (zipL l m)) h1) Q := p1
      cases r with
      | val r => cases r with
        | tup h rs => cases r2 with
          | val r2 => cases r2 with
            | tup h' rs' => exact ⟨_, _, _, _, rfl, .inr ⟨h, h', p1 _ H1 as1 .refl hr1 (walkD_zipT h h' rs rs')⟩⟩
    · have ex : zip2 [x, y] = (lsOf x).bind fun a => (lsOf y).map fun b => .its (zipL a b) := by
        cases x <;> cases y <;> first | rfl | exact absurd ⟨_, _, rfl, rfl⟩ ht
      have p1 : PostI X.K X.mg W as1 σ H1 (match zip2 [x, y] with | some s => .ok s h1 | none => .no) Q := p1
      rw [ex] at p1
      cases el : lsOf x with
      | none => rw [el] at p1; exact p1.elim
      | some l =>
        cases em : lsOf y with
        | none => rw [el, em] at p1; exact p1.elim
        | some m =>
          rw [el, em] at p1
          obtain ⟨a, vs, rfl, rs, hq⟩ := r.lsOf (as' := as) el
          obtain ⟨b, us, rfl, rs', hq'⟩ := r2.lsOf (as' := as) em
          exact ⟨_, _, _, _, rfl, .inl ⟨hq _ _ .refl, hq' _ _ .refl, p1 _ H1 as1 .refl hr1 (walkD_zip hq hq' rs rs')⟩⟩
/-! ### xs[::-1], stars, a, b, c = x, y, z -/
def mRev (ma : M D) : M D := fun ds h => (ma ds h).bind fun x h1 => match lsOf (rd h1 x) with
  | some l => .ok (.lst l.reverse) h1
  | none => .no
theorem RVs.reverse {K : PySem.W.Frag} {H : Hp} {as : List Addr} : ∀ {ds : List D} {vs : List V}, RVs K H as ds vs → RVs K H as ds.reverse vs.reverse
  | _, _, .nil => .nil
  | _, _, .cons r t => by rw [List.reverse_cons, List.reverse_cons]; exact (RVs.reverse t).append (.cons r .nil)
theorem de_rev {k : Nat} {p1 p2 p3 : Pos} (ha : DE X W a ma) : DE X W (.Subscript a (.Slice none none (some (.UnaryOp .USub (.Constant (.int 1) k p1) p2)) p3) pos) (mRev ma) :=
  PE.imp (pe_revL ha) fun σ H Q ⟨as, ds, h, s, q⟩ => ⟨as, ds, h, s, PostE.bindE q fun x h1 v H1 as1 f1 r1 hr1 p1 => by
    cases el : lsOf (rd h1 x) with
    | none => rw [el] at p1; exact p1.elim
    | some l =>
      rw [el] at p1
      have rt := r1.rt hr1
      have ed : rd h1 x = .lst l ∨ rd h1 x = .frz l := by
        revert el; generalize rd h1 x = d; intro el
        cases d <;> cases el <;> simp
      rcases ed with e | e
      · rw [e] at rt
        obtain ⟨a, vs, rfl, rs, hh⟩ := rt.lst
        refine ⟨a, vs, rfl, SqL.of hh, fun q hq => ?_⟩
        have sm := same_upd (o := .lst vs.reverse) hq
        exact p1 (.ref q) _ as1 (.of_same sm) (.val (.lst upd_same (hr1.notin hq) (rs.reverse.same sm))) (hr1.same sm)
      · rw [e] at rt
        obtain ⟨a, vs, rfl, rs, hh⟩ := rt.frz
        refine ⟨a, vs, rfl, hh, fun q hq => ?_⟩
        have sm := same_upd (o := .lst vs.reverse) hq
        exact p1 (.ref q) _ as1 (.of_same sm) (.val (.lst upd_same (hr1.notin hq) (rs.reverse.same sm))) (hr1.same sm)⟩
def sqOf : D → Option (List D)
  | .lst l => some l
  | .frz l => some l
  | .tup l => some l
  | _ => none
def mStar (ma : M D) (me : M (List D)) : M (List D) := fun ds h => (ma ds h).bind fun x h1 => match sqOf (rd h1 x) with
  | some l => (me ds h1).bind fun ys h2 => .ok (l ++ ys) h2
  | none => .no
theorem RDs.append {K : PySem.W.Frag} {H : Hp} {as : List Addr} : ∀ {ds es : List D} {vs us : List V}, RDs K H as ds vs → RDs K H as es us → RDs K H as (ds ++ es) (vs ++ us)
  | _, _, _, _, .nil, r => r
  | _, _, _, _, .cons a t, r => .cons a (RDs.append t r)
theorem da_star (ha : DE X W e ma) (hr : DA X W es me) (hs : starEach (.Starred e p :: es) X.env = (true, eval e X.env) :: starEach es X.env := by rfl) : DA X W (.Starred e p :: es) (mStar ma me) :=
  PA.imp (StX.pa_star ha hr hs) fun σ H Q ⟨as, ds, h, s, q⟩ => ⟨as, ds, h, s, PostA.bindE q fun x h1 v H1 as1 f1 r1 hr1 p1 => by
    cases el : sqOf (rd h1 x) with
    | none => rw [el] at p1; exact p1.elim
    | some l =>
      rw [el] at p1
      have ed : rd h1 x = .lst l ∨ rd h1 x = .tup l ∨ rd h1 x = .frz l := by
        revert el; generalize rd h1 x = d; intro el
        cases d <;> cases el <;> simp
      obtain ⟨a, vs, rfl, rs, hh⟩ := (r1.rt hr1).seq ed
      exact ⟨a, vs, rfl, hh.symm, as1, ds, h1, ⟨s.env.grow f1, hr1⟩, PostA.bindA p1 fun ys h2 us H2 as2 f2 r2 hr2 p2 => p2 (vs ++ us) H2 as2 .refl ((rs.grow f2).rds.append r2) hr2⟩⟩
theorem ds_par3 {i j l : Nat} {x y z : Str} {a b c : Expr} {px py pz pt pos : Pos} {kt k2 pt2} (hN : X.N.Nodup) (hi : X.N[i]? = some x) (hj : X.N[j]? = some y) (hl : X.N[l]? = some z) (hx : X.env.scope.names.lookup x = some .local) (hy : X.env.scope.names.lookup y = some .local) (hz : X.env.scope.names.lookup z = some .local) (ha : DA X W [a, b, c] me)
    (hij : i ≠ j := by decide) (hil : i ≠ l := by decide) (hjl : j ≠ l := by decide) (hc : X.calm = true := by rfl)
    (hw : swappedStores [.Tuple [.Name x px, .Name y py, .Name z pz] kt pt] (.Tuple [a, b, c] k2 pt2) X.env = pure (some [x, y, z]) := by rfl)
    (hs : swapsWithSole [.Tuple [.Name x px, .Name y py, .Name z pz] kt pt] (.Tuple [a, b, c] k2 pt2) pos.line X.env = pure false := by rfl) :
    DS X W (.Assign [.Tuple [.Name x px, .Name y py, .Name z pz] kt pt] (.Tuple [a, b, c] k2 pt2) pos) (sPar [i, j, l] me) :=
  PS.imp (ps_par3 hc hN hi hj hl hij hil hjl hx hy hz ha hw hs) fun Dn σ H ⟨as, ds, h, s, p⟩ => ⟨as, ds, h, s, by
    unfold sPar at p
    cases e : me ds h with
    | ok xs h1 =>
      rw [e] at p
      simp only at p
      intro vs H' as' g r hr
      match xs, vs, r with
      | [], _, _ => exact p.elim
      | [_], _, _ => exact p.elim
      | [_, _], _, _ => exact p.elim
      | _ :: _ :: _ :: _ :: _, _, _ => exact (by simp at p; exact p.elim)
      | [d, d', d''], [v, v', v''], .cons r1 (.cons r2 (.cons r3 .nil)) => exact ⟨v, v', v'', rfl, p _ H' as' g ⟨((((s.env.grow g).set r1 i).set r2 j).set r3 l), hr⟩⟩
    | ex c q h1 => rw [e] at p; exact fun cls dx H' as' g hr x => p σ cls dx H' as' g ⟨s.env.grow g, hr⟩ x
    | no => rw [e] at p; exact p⟩
end
end DL

set_option Elab.async false
set_option linter.all false
set_option maxRecDepth 100000
set_option maxHeartbeats 4000000
namespace DL
open PySem PySem.Spec PyProof.Rows L2 RZ

/-! ### what is told of the top, and one Bool more -/
/-- further facts -/
inductive Xf where
  | blt (x : Str) (id : String)
  | tup (x : Str) (vs : List He.Dv)
  | may (f : PySem.W.Frag → Bool)
def Xf.ok (K : PySem.W.Frag) : Xf → Bool
  | .blt x id => He.eqO (PySem.W.nsIn K mainGlobals x) (some (some (.builtin id)))
  | .tup x vs => He.tupB K x vs
  | .may f => f K
structure SaysL (fa : List He.Fa) (fn : List He.DefD) (xf : List Xf) (K : PySem.W.Frag) : Prop where
  d : He.SaysD fa fn K
  more : (xf.all fun f => f.ok K) = true
abbrev AlL : Type := He.AlD × Bool
def obsL (n : Nat) (fa : List He.Fa) (fn : List He.DefD) (xf : List Xf) (g : Addr → Option Obj) : AlL := (He.obsD fa fn (He.frG g (He.asD g n)), xf.all fun f => f.ok (He.frG g (He.asD g n)))
def hookL (n : Nat) (fa : List He.Fa) (fn : List He.DefD) (xf : List Xf) : PySem.W.Hook where
  α := AlL
  obs := fun s => obsL n fa fn xf s.heap.get?
  val := fun _ => (He.valD fn, true)
  says := fun _ h => ∃ K : PySem.W.Frag, K.In h ∧ SaysL fa fn xf K
  of := fun _ _ e => ⟨_, He.frG_in, congrArg (fun z : AlL => z.1) e, congrArg (fun z : AlL => z.2) e⟩
  keeps := fun _ _ _ ⟨K, hK, c⟩ k => ⟨K, PySem.W.Frag.In.keeps hK k, c⟩
theorem obsL_eq {n : Nat} {fa : List He.Fa} {fn : List He.DefD} {xf : List Xf} {g : Addr → Option Obj} {s : Shared} (h : ∀ a, g a = s.heap.get? a) : obsL n fa fn xf g = (hookL n fa fn xf).obs s := by
  have e : g = s.heap.get? := funext h
  rw [e] <;> rfl
section
variable {fa : List He.Fa} {fn : List He.DefD} {xf : List Xf} {K : PySem.W.Frag} {h : Heap} {mg : Str → Option Value}
theorem SaysL.fact (c : SaysL fa fn xf K) (i : Nat) {f : He.Fa} (e : fa[i]? = some f) : f.ok K = true := c.d.fact i e
theorem SaysL.def_ (c : SaysL fa fn xf K) (i : Nat) {d : He.DefD} (e : fn[i]? = some d) : ∃ fd, FunD K d.name d.qual d.params d.body d.scope (d.dvs K) (d.kws K) (He.fAd K d.at_) fd := c.d.def_ i e
theorem SaysL.xfact (c : SaysL fa fn xf K) (i : Nat) {f : Xf} (e : xf[i]? = some f) : f.ok K = true := by
  obtain ⟨hi, e2⟩ := List.getElem?_eq_some_iff.mp e
  exact List.all_eq_true.mp c.more f (e2 ▸ List.getElem_mem hi)
theorem blt_ok (X : K.In h) (G : h.Ns mainGlobals mg) {x : Str} {id : String} (c : (Xf.blt x id).ok K = true) : mg x = some (.builtin id) := PySem.W.mg_of X G (He.eqO_ok c)
end
end DL

set_option Elab.async false
set_option linter.all false
set_option maxRecDepth 100000
set_option maxHeartbeats 4000000
namespace DL
open PySem PySem.Spec PyProof.Rows L2 RZ

/-! ### a comprehension whose list is changed in place later -/
def lcGoC (n : Nat) (ds0 : Ev) (s : Src) (t : Tg) (tt : M Bool) (te : M D) : Nat → Nat → Hs → R D
  | 0, _, hh => if srcEnd s hh then (match hh[n]? with
    | some (.lst _) => .ok (.loc n) hh
    | _ => .no) else .no
  | k + 1, i, hh => match (srcAt s hh i).bind fun x => asgT t x ds0 with
    | none => .no
    | some ds => (tt ds hh).noex.bind fun b h2 => if b then (te ds h2).noex.bind fun y h3 => (match h3[n]? with
        | some (.lst acc) => if isLoc y = false ∧ acc.length < 16777216 then lcGoC n ds0 s t tt te k (i + 1) ((h3.take (n + 1)).set n (.lst (acc ++ [y]))) else .no
        | _ => .no) else lcGoC n ds0 s t tt te k (i + 1) (h2.take (n + 1))
def mLcC (src : M Src) (vs : List Nat) (t : Tg) (tt : M Bool) (te : M D) : M D := fun ds h => (src ds h).bind fun s h1 => lcGoC h1.length (wipeD ds vs) s t tt te s.len 0 (h1 ++ [.lst []])
section
variable {X : Cx} {W : WX} {pos p : Pos} {a b c e : Expr} {es : List Expr} {ma mb mc : M D} {me : M (List D)}
theorem lc_postC {ms : M Src} {t : Tg} {mt : M Bool} {vs : List Nat} (hsub : ∀ i ∈ t.ns, i ∈ vs) {σ : L2.St} {H0 : Hp} {Q : VK} (q : teM X.K X.mg W (mLcC ms vs t mt ma) σ H0 Q) :
    tLc (tiM X.K X.mg W ms) (gOf X.K t) (ttM X.K X.mg W0 mt) (teM X.K X.mg W0 ma) vs σ H0 Q := by
  obtain ⟨as, ds, h, s, q⟩ := q
  refine ⟨as, ds, h, s, ?_⟩
  unfold mLcC at q
  cases es : ms ds h with
  | ex c p h1 => rw [es] at q; exact q
  | no => rw [es] at q; exact q
  | ok sr h1 =>
    rw [es] at q
    intro J H as1 g hr wk D hD
    have q : PostE X.K X.mg W as σ H0 (lcGoC h1.length (wipeD ds vs) sr t mt ma sr.len 0 (h1 ++ [.lst []])) Q := q
    have q := PostE.grow g q
    obtain ⟨g2, hr2⟩ := hr.push hD (vs := []) (ds := []) .nil
    have len : as1.length = h1.length := hr.len
    generalize hn : h1.length = n at q len
    have hD1 : ∀ as' : List Addr, as1 ++ [D] <+: as' → as'[n]? = some D := fun as' hp => pre_get hp (by rw [← len]; simp)
    have len1 : (as1 ++ [D]).length = n + 1 := by simp [len]
    refine ⟨fun i m H' => m + i = sr.len ∧ ∃ hh, Grow as1 H (as1 ++ [D]) H' ∧ StR X.K H' (as1 ++ [D]) (wipeD ds vs) hh (L2.wipe σ vs) ∧ PostE X.K X.mg W as1 σ H (lcGoC n (wipeD ds vs) sr t mt ma m i hh) Q, ⟨sr.len, rfl, _, g2, ⟨((s.env.grow g).grow g2).wipe vs, hr2⟩, q⟩, ?_⟩
    rintro i m H' ⟨hmi, hh, g3, s3, q3⟩
    cases m with
    | zero =>
      refine .inl ?_
      cases ee : srcEnd sr hh with
      | false => simp only [lcGoC, ee] at q3; exact q3.elim
      | true =>
        have hi' : i = sr.len := by omega
        subst hi'
        refine ⟨wk.stop hh H' _ g3 s3.heap ee, ?_⟩
        simp only [lcGoC, ee, if_true] at q3
        cases ea : hh[n]? with
        | none => rw [ea] at q3; exact q3.elim
        | some c =>
          rw [ea] at q3
          obtain ⟨a, e1, cr⟩ := s3.heap.get2 ea
          have e2 := hD1 _ (List.prefix_refl _)
          rw [e1] at e2; cases e2
          cases cr with
          | dct _ _ _ => exact q3.elim
          | lst hh' rs =>
            exact q3 (.ref D) H' (as1 ++ [D]) g3 (.loc (hD1 _ (List.prefix_refl _))) s3.heap
    | succ m =>
      refine .inr ?_
      cases eb : (srcAt sr hh i).bind fun x => asgT t x (wipeD ds vs) with
      | none => simp only [lcGoC, eb] at q3; exact q3.elim
      | some ds1 =>
        obtain ⟨x, ex, e2⟩ := Option.bind_eq_some_iff.mp eb
        obtain ⟨go, yl⟩ := wk.go i hh H' _ x g3 s3.heap ex
        refine ⟨go, _, fun H'' w => ⟨m, Nat.lt_succ_self m, w⟩, fun v H2 y => ?_⟩
        obtain ⟨sm, rv⟩ := yl v H2 y
        refine asg_ok t (s3.env.grow (.of_same sm)) (.val rv) e2 fun σ2 s4 wp => ⟨(wp vs hsub).trans (wipe_idem fun _ h => h), ?_⟩
        refine ⟨as1 ++ [D], ds1, hh, ⟨s4, s3.heap.same sm⟩, ?_⟩
        simp only [lcGoC, eb] at q3
        cases ett : mt ds1 hh with
        | ex c p h2 => rw [ett] at q3; exact q3.elim
        | no => rw [ett] at q3; exact q3.elim
        | ok b h2 =>
          rw [ett] at q3
          simp only [R.noex, R.bind] at q3
          intro H3 as3 g4 hr3
          have gA : Grow (as1 ++ [D]) H' as3 H3 := (Grow.of_same sm).trans g4
          cases b with
          | false =>
            simp only [Bool.false_eq_true, if_false] at q3 ⊢
            exact ⟨by omega, _, g3.trans gA.back, back1 gA hr3 s3.env len1, q3⟩
          | true =>
            simp only [if_true] at q3 ⊢
            refine ⟨as3, ds1, h2, ⟨s4.grow g4, hr3⟩, ?_⟩
            cases ete : ma ds1 h2 with
            | ex c p h3 => rw [ete] at q3; exact q3.elim
            | no => rw [ete] at q3; exact q3.elim
            | ok y h3 =>
              rw [ete] at q3
              simp only [R.noex, R.bind] at q3
              intro v4 H4 as4 g5 r4 hr4
              have gB : Grow (as1 ++ [D]) H' as4 H4 := gA.trans g5
              cases ea : h3[n]? with
              | none => rw [ea] at q3; exact q3.elim
              | some c =>
                rw [ea] at q3
                obtain ⟨a, e1, cr⟩ := hr4.get2 ea
                have e3 := hD1 _ gB.pre
                rw [e1] at e3; cases e3
                cases cr with
                | dct _ _ _ => exact q3.elim
                | @lst _ accV acc hh' rs =>
                  simp only at q3
                  by_cases hcnd : isLoc y = false ∧ acc.length < 16777216
                  · rw [if_pos hcnd] at q3
                    have sub : ∀ b ∈ as1 ++ [D], b ∈ as4 := gB.sub
                    have st := back1 gB hr4 s3.env len1
                    obtain ⟨g6, hr6⟩ := st.heap.write (n := n) (q := D) (hD1 _ (List.prefix_refl _)) ((rs.shrink sub).append (.cons ((r4.rv hcnd.1).shrink sub) .nil))
                    exact ⟨accV, hh', by rw [sizeLine_eq, ← rs.length]; exact hcnd.2, by omega, _, (g3.trans gB.back).trans g6, ⟨st.env.grow g6, hr6⟩, q3⟩
                  · rw [if_neg hcnd] at q3; exact q3.elim
theorem de_lcC {elt tg iter : Expr} {ifs : List Expr} {scope : Scope} {own : List (Str × Nat)} {ms : M Src} {t : Tg} {mt : M Bool} (hN : X.N.Nodup) (hi : DI X W tg iter ms) (ok : BlkOk X.N X.env.scope scope own)
    (hg : ∀ (s : Shared) (H : Hp) (C : Addr) (cl : List (Str × Addr)) (fp : List Addr), DG (X.blk s H scope (compEnvC scope cl C X.env) fp) tg t) (ht : ∀ (s : Shared) (H : Hp) (C : Addr) (cl : List (Str × Addr)) (fp : List Addr), DTs (X.blk s H scope (compEnvC scope cl C X.env) fp) ifs mt)
    (he : ∀ (s : Shared) (H : Hp) (C : Addr) (cl : List (Str × Addr)) (fp : List Addr), DE (X.blk s H scope (compEnvC scope cl C X.env) fp) W0 elt ma) (hsub : ∀ i ∈ t.ns, i ∈ own.map (·.2) := by decide) (hc : X.calm = true := by rfl) (hs : ∀ x, foldedSetIterable iter X.env x = pure x := by intro _; rfl) :
    DE X W (.ListComp elt [⟨tg, iter, ifs, 0⟩] scope pos) (mLcC ms (own.map (·.2)) t mt ma) :=
  PE.imp (pe_lc (wi := tiM X.K X.mg W ms) (g := gOf X.K t) (tt := ttM X.K X.mg W0 mt) (te := teM X.K X.mg W0 ma) hc hN hi ok hg ht he hs) fun σ H0 Q q => lc_postC hsub q
theorem ds_lcC {i : Nat} {y : Str} {py : Pos} {elt tg iter : Expr} {ifs : List Expr} {scope : Scope} {own : List (Str × Nat)} {spos : Pos} {ms : M Src} {t : Tg} {mt : M Bool} (hN : X.N.Nodup) (hy : X.N[i]? = some y) (hyl : X.env.scope.names.lookup y = some .local)
    (hsw : swapsWith (.ListComp elt [⟨tg, iter, ifs, 0⟩] scope pos) (some (.Name y py)) spos.line X.env = pure true) (hi : DI X W tg iter ms) (ok : BlkOk X.N X.env.scope scope own)
    (hg : ∀ (s : Shared) (H : Hp) (C : Addr) (cl : List (Str × Addr)) (fp : List Addr), DG (X.blk s H scope (compEnvC scope cl C X.env) fp) tg t) (ht : ∀ (s : Shared) (H : Hp) (C : Addr) (cl : List (Str × Addr)) (fp : List Addr), DTs (X.blk s H scope (compEnvC scope cl C X.env) fp) ifs mt)
    (he : ∀ (s : Shared) (H : Hp) (C : Addr) (cl : List (Str × Addr)) (fp : List Addr), DE (X.blk s H scope (compEnvC scope cl C X.env) fp) W0 elt ma) (hsub : ∀ i ∈ t.ns, i ∈ own.map (·.2) := by decide) (hc : X.calm = true := by rfl) (hs : ∀ x, foldedSetIterable iter X.env x = pure x := by intro _; rfl) :
    DS X W (.Assign [.Name y py] (.ListComp elt [⟨tg, iter, ifs, 0⟩] scope pos) spos) (sAsg (.nm i) (mLcC ms (own.map (·.2)) t mt ma)) :=
  PS.imp (ps_setLc (wi := tiM X.K X.mg W ms) (g := gOf X.K t) (tt := ttM X.K X.mg W0 mt) (te := teM X.K X.mg W0 ma) hc hN hy hyl hsw hi ok hg ht he hs) fun Dn σ H q => by
    have := asg_core q
    simp only [gOf] at this
    exact lc_postC hsub this
end
end DL

set_option Elab.async false
set_option linter.all false
set_option maxRecDepth 100000
set_option maxHeartbeats 1000000
namespace DL
open PySem PySem.Spec PyProof.Rows L2 RZ

/-! ### stepping through mirrors: what must hold of a result -/
abbrev XP := Str → Option D → Hs → Prop
abbrev x0 : XP := fun _ _ _ => False
structure Po where
  nx : Ev → Hs → Prop
  rt : D → Hs → Prop
  bk : Ev → Hs → Prop
  ct : Ev → Hs → Prop
  ex : Str → Option D → Ev → Hs → Prop
def wR {α : Type} (r : R α) (E : XP) (Q : α → Hs → Prop) : Prop := match r with
  | .ok a h => Q a h
  | .ex c p h => E c p h
  | .no => False
def wS (r : SR) (P : Po) : Prop := match r with
  | .nx ds h => P.nx ds h
  | .rt d h => P.rt d h
  | .bk ds h => P.bk ds h
  | .ct ds h => P.ct ds h
  | .ex c p ds h => P.ex c p ds h
  | .no => False
def wO {α : Type} (o : Option α) (P : α → Prop) : Prop := match o with
  | some a => P a
  | none => False
section
variable {α β : Type} {E E' : XP} {Q Q' : α → Hs → Prop} {ds : Ev} {h : Hs} {P : Po}
theorem wO_some {o : Option α} {a : α} {P : α → Prop} (e : o = some a) (q : P a) : wO o P := by rw [e]; exact q
theorem wR_eq {r : R α} {a : α} (e : r = .ok a h) (q : Q a h) : wR r E Q := by rw [e]; exact q
theorem wR_ok {r : R α} (w : wR r x0 Q) : ∃ a h, r = .ok a h ∧ Q a h := by
  cases r with
  | ok a h => exact ⟨a, h, rfl, w⟩
  | ex c p h => exact w.elim
  | no => exact w.elim
theorem wR_mono {r : R α} (w : wR r E Q) (k : ∀ a h, Q a h → Q' a h) : wR r E Q' := by
  cases r with
  | ok a h => exact k a h w
  | ex c p h => exact w
  | no => exact w
theorem wR_exm {r : R α} (w : wR r E Q) (k : ∀ c p h, E c p h → E' c p h) : wR r E' Q := by
  cases r with
  | ok a h => exact w
  | ex c p h => exact k c p h w
  | no => exact w
theorem wR_0 {r : R α} (w : wR r x0 Q) : wR r E Q := wR_exm w fun _ _ _ z => z.elim
theorem wR_bind {r : R α} {k : α → Hs → R β} {Q : β → Hs → Prop} (w : wR r E fun a h => wR (k a h) E Q) : wR (r.bind k) E Q := by
  cases r with
  | ok a h => exact w
  | ex c p h => exact w
  | no => exact w
theorem w_var {i : Nat} {d : D} {Q : D → Hs → Prop} (e : ds[i]? = some (some d)) (q : Q d h) : wR (mVar i ds h) E Q := by
  unfold mVar
  rw [e]
  exact q
theorem w_c {d : D} {Q : D → Hs → Prop} (q : Q d h) : wR (mC d ds h) E Q := q
theorem w_bin {f : D → D → Option D} {ma mb : M D} {Q : D → Hs → Prop} (w : wR (ma ds h) E fun x h1 => wR (mb ds h1) E fun y h2 => wO (f (rd h2 x) (rd h2 y)) fun z => Q z h2) : wR (mBin f ma mb ds h) E Q := by
  refine wR_bind (wR_mono w fun x h1 w1 => wR_bind (wR_mono w1 fun y h2 w2 => ?_))
  cases e : f (rd h2 x) (rd h2 y) with
  | none => rw [e] at w2; exact w2.elim
  | some z => rw [e] at w2; exact w2
theorem w_un {f : D → Option D} {ma : M D} {Q : D → Hs → Prop} (w : wR (ma ds h) E fun x h1 => wO (f (rd h1 x)) fun z => Q z h1) : wR (mUn f ma ds h) E Q := by
  refine wR_bind (wR_mono w fun x h1 w2 => ?_)
  cases e : f (rd h1 x) with
  | none => rw [e] at w2; exact w2.elim
  | some z => rw [e] at w2; exact w2
theorem w_nil {Q : List D → Hs → Prop} (q : Q [] h) : wR (mNil ds h) E Q := q
theorem w_cons {ma : M D} {mr : M (List D)} {Q : List D → Hs → Prop} (w : wR (ma ds h) E fun x h1 => wR (mr ds h1) E fun xs h2 => Q (x :: xs) h2) : wR (mCons ma mr ds h) E Q :=
  wR_bind (wR_mono w fun _ _ w1 => wR_bind (wR_mono w1 fun _ _ w2 => w2))
theorem w_star {ma : M D} {mr : M (List D)} {Q : List D → Hs → Prop} (w : wR (ma ds h) E fun x h1 => wO (sqOf (rd h1 x)) fun l => wR (mr ds h1) E fun xs h2 => Q (l ++ xs) h2) : wR (mStar ma mr ds h) E Q := by
  refine wR_bind (wR_mono w fun x h1 w2 => ?_)
  cases e : sqOf (rd h1 x) with
  | none => rw [e] at w2; exact w2.elim
  | some l => rw [e] at w2; exact wR_bind (wR_mono w2 fun _ _ w3 => w3)
theorem w_tup {me : M (List D)} {Q : D → Hs → Prop} (w : wR (me ds h) E fun xs h1 => (xs.length ≤ 16777216 ∧ xs.any isLoc = false) ∧ Q (.tup xs) h1) : wR (mTup me ds h) E Q :=
  wR_bind (wR_mono w fun xs h1 w2 => by rw [if_pos w2.1]; exact w2.2)
theorem w_lst {me : M (List D)} {Q : D → Hs → Prop} (w : wR (me ds h) E fun xs h1 => (xs.length ≤ 16777216 ∧ xs.any isLoc = false) ∧ Q (.lst xs) h1) : wR (mLst me ds h) E Q :=
  wR_bind (wR_mono w fun xs h1 w2 => by rw [if_pos w2.1]; exact w2.2)
theorem w_new {me : M (List D)} {Q : D → Hs → Prop} (w : wR (me ds h) E fun xs h1 => (xs.length ≤ 16777216 ∧ xs.any isLoc = false) ∧ Q (.loc h1.length) (h1 ++ [.lst xs])) : wR (mNew me ds h) E Q :=
  wR_bind (wR_mono w fun xs h1 w2 => by rw [if_pos w2.1]; exact w2.2)
theorem w_call {np : Nat} {F : List D → Hs → R D} {me : M (List D)} {Q : D → Hs → Prop} (w : wR (me ds h) E fun xs h1 => xs.length = np ∧ wR (F xs h1) E Q) : wR (mCall np F me ds h) E Q :=
  wR_bind (wR_mono w fun xs h1 w2 => by rw [if_pos w2.1]; exact w2.2)
theorem w_b {f : List D → Option D} {me : M (List D)} {Q : D → Hs → Prop} (w : wR (me ds h) E fun xs h1 => wO (f (xs.map (rd h1))) fun z => Q z h1) : wR (mB f me ds h) E Q := by
  refine wR_bind (wR_mono w fun x h1 w2 => ?_)
  cases e : f (x.map (rd h1)) with
  | none => rw [e] at w2; exact w2.elim
  | some z => rw [e] at w2; exact w2
theorem w_tru {ma : M D} {Q : Bool → Hs → Prop} (w : wR (ma ds h) E fun x h1 => wO (truD (rd h1 x)) fun z => Q z h1) : wR (mTru ma ds h) E Q := by
  refine wR_bind (wR_mono w fun x h1 w2 => ?_)
  cases e : truD (rd h1 x) with
  | none => rw [e] at w2; exact w2.elim
  | some z => rw [e] at w2; exact w2
theorem w_tb {ma : M D} {Q : Bool → Hs → Prop} (w : wR (ma ds h) E fun x h1 => wO (isBl x) fun z => Q z h1) : wR (mTB ma ds h) E Q := by
  refine wR_bind (wR_mono w fun x h1 w2 => ?_)
  cases e : isBl x with
  | none => rw [e] at w2; exact w2.elim
  | some z => rw [e] at w2; exact w2
theorem w_notT {ma : M Bool} {Q : Bool → Hs → Prop} (w : wR (ma ds h) E fun b h1 => Q (!b) h1) : wR (mNotT ma ds h) E Q := wR_bind w
/-- a test's two ways -/
theorem w_andT {ma mb : M Bool} {Q : Bool → Hs → Prop} (w : wR (ma ds h) E fun b h1 => (b = true → wR (mb ds h1) E Q) ∧ (b = false → Q false h1)) : wR (mAndT ma mb ds h) E Q :=
  wR_bind (wR_mono w fun b h1 w2 => by cases b with | true => exact w2.1 rfl | false => exact w2.2 rfl)
theorem w_orT {ma mb : M Bool} {Q : Bool → Hs → Prop} (w : wR (ma ds h) E fun b h1 => (b = true → Q true h1) ∧ (b = false → wR (mb ds h1) E Q)) : wR (mOrT ma mb ds h) E Q :=
  wR_bind (wR_mono w fun b h1 w2 => by cases b with | true => exact w2.1 rfl | false => exact w2.2 rfl)
theorem w_if {mc : M Bool} {ma mb : M D} {Q : D → Hs → Prop} (w : wR (mc ds h) E fun b h1 => (b = true → wR (ma ds h1) E Q) ∧ (b = false → wR (mb ds h1) E Q)) : wR (mIf mc ma mb ds h) E Q :=
  wR_bind (wR_mono w fun b h1 w2 => by cases b with | true => exact w2.1 rfl | false => exact w2.2 rfl)
theorem w_andV {ma mb : M D} {Q : D → Hs → Prop} (w : wR (ma ds h) E fun x h1 => wO (truD (rd h1 x)) fun b => (b = true → wR (mb ds h1) E Q) ∧ (b = false → Q x h1)) : wR (mAndV ma mb ds h) E Q :=
  wR_bind (wR_mono w fun x h1 w2 => by
    cases e : truD (rd h1 x) with
    | none => rw [e] at w2; exact w2.elim
    | some b => rw [e] at w2; cases b with | true => exact w2.1 rfl | false => exact w2.2 rfl)
theorem w_orV {ma mb : M D} {Q : D → Hs → Prop} (w : wR (ma ds h) E fun x h1 => wO (truD (rd h1 x)) fun b => (b = true → Q x h1) ∧ (b = false → wR (mb ds h1) E Q)) : wR (mOrV ma mb ds h) E Q :=
  wR_bind (wR_mono w fun x h1 w2 => by
    cases e : truD (rd h1 x) with
    | none => rw [e] at w2; exact w2.elim
    | some b => rw [e] at w2; cases b with | true => exact w2.1 rfl | false => exact w2.2 rfl)
theorem w_notV {ma : M D} {Q : D → Hs → Prop} (w : wR (ma ds h) E fun x h1 => wO (truD (rd h1 x)) fun b => Q (.bl (!b)) h1) : wR (mNotV ma ds h) E Q :=
  wR_bind (wR_mono w fun x h1 w2 => by
    cases e : truD (rd h1 x) with
    | none => rw [e] at w2; exact w2.elim
    | some b => rw [e] at w2; exact w2)
theorem w_chain {f g : D → D → Option D} {ma mb mc : M D} {Q : D → Hs → Prop} (w : wR (ma ds h) E fun x h1 => wR (mb ds h1) E fun y h2 => wO ((f (rd h2 x) (rd h2 y)).bind isBl) fun b => (b = true → wR (mc ds h2) E fun z h3 => wO ((g (rd h3 y) (rd h3 z)).bind isBl) fun r => Q (.bl r) h3) ∧ (b = false → Q (.bl false) h2)) : wR (mChain f g ma mb mc ds h) E Q := by
  refine wR_bind (wR_mono w fun x h1 w1 => wR_bind (wR_mono w1 fun y h2 w2 => ?_))
  cases e : (f (rd h2 x) (rd h2 y)).bind isBl with
  | none => rw [e] at w2; exact w2.elim
  | some b =>
    rw [e] at w2
    cases b with
    | false => exact w2.2 rfl
    | true =>
      refine wR_bind (wR_mono (w2.1 rfl) fun z h3 w3 => ?_)
      cases e3 : (g (rd h3 y) (rd h3 z)).bind isBl with
      | none => rw [e3] at w3; exact w3.elim
      | some r => rw [e3] at w3; exact w3
theorem w_sl {ma : M D} {ml mh : MO} {Q : D → Hs → Prop} (w : wR (ma ds h) E fun x h1 => wR (ml ds h1) E fun lo h2 => wR (mh ds h2) E fun hi h3 => wO (slD (rd h3 x) lo hi) fun z => Q z h3) : wR (mSl ma ml mh ds h) E Q := by
  refine wR_bind (wR_mono w fun x h1 w1 => wR_bind (wR_mono w1 fun lo h2 w2 => wR_bind (wR_mono w2 fun hi h3 w3 => ?_)))
  cases e : slD (rd h3 x) lo hi with
  | none => rw [e] at w3; exact w3.elim
  | some z => rw [e] at w3; exact w3
theorem w_noPart {Q : Option Int → Hs → Prop} (q : Q none h) : wR (mNoPart ds h) E Q := q
theorem w_part {ma : M D} {Q : Option Int → Hs → Prop} (w : wR (ma ds h) E fun x h1 => wO (intO x) fun i => Q (some i) h1) : wR (mPart ma ds h) E Q := by
  refine wR_bind (wR_mono w fun x h1 w2 => ?_)
  cases e : intO x with
  | none => rw [e] at w2; exact w2.elim
  | some z => rw [e] at w2; exact w2
theorem w_rev {ma : M D} {Q : D → Hs → Prop} (w : wR (ma ds h) E fun x h1 => wO (lsOf (rd h1 x)) fun l => Q (.lst l.reverse) h1) : wR (mRev ma ds h) E Q := by
  refine wR_bind (wR_mono w fun x h1 w2 => ?_)
  cases e : lsOf (rd h1 x) with
  | none => rw [e] at w2; exact w2.elim
  | some z => rw [e] at w2; exact w2
theorem w_seq {ma : M D} {Q : Src → Hs → Prop} (w : wR (ma ds h) E fun x h1 => wO (srcOf x h1) fun s => Q s h1) : wR (mSeq ma ds h) E Q := by
  refine wR_bind (wR_mono w fun x h1 w2 => ?_)
  cases e : srcOf x h1 with
  | none => rw [e] at w2; exact w2.elim
  | some z => rw [e] at w2; exact w2
theorem w_srcA {f : List D → Option Src} {me : M (List D)} {Q : Src → Hs → Prop} (w : wR (me ds h) E fun xs h1 => wO (f (xs.map (rd h1))) fun s => Q s h1) : wR (mSrcA f me ds h) E Q := by
  refine wR_bind (wR_mono w fun x h1 w2 => ?_)
  cases e : f (x.map (rd h1)) with
  | none => rw [e] at w2; exact w2.elim
  | some z => rw [e] at w2; exact w2
theorem w_srcR {f : List D → Option Src} {me : M (List D)} {Q : Src → Hs → Prop} (w : wR (me ds h) E fun xs h1 => wO (f xs) fun s => Q s h1) : wR (mSrcR f me ds h) E Q := by
  refine wR_bind (wR_mono w fun x h1 w2 => ?_)
  cases e : f x with
  | none => rw [e] at w2; exact w2.elim
  | some z => rw [e] at w2; exact w2
theorem w_yes {Q : Bool → Hs → Prop} (q : Q true h) : wR (mYes ds h) E Q := q
/-! statements -/
abbrev exP (P : Po) (ds : Ev) : XP := fun c p h => P.ex c p ds h
theorem w_ret {ma : M D} (w : wR (ma ds h) (exP P ds) P.rt) : wS (sRet ma ds h) P := by
  unfold sRet
  cases e : ma ds h <;> rw [e] at w <;> exact w
theorem w_retN (w : P.rt .non h) : wS (sRetN ds h) P := w
theorem w_pass (w : P.nx ds h) : wS (sPass ds h) P := w
theorem w_brk (w : P.bk ds h) : wS (sBrk ds h) P := w
theorem w_cnt (w : P.ct ds h) : wS (sCnt ds h) P := w
theorem w_drop {ma : M D} (w : wR (ma ds h) (exP P ds) fun _ h1 => P.nx ds h1) : wS (sDrop ma ds h) P := by
  unfold sDrop
  cases e : ma ds h <;> rw [e] at w <;> exact w
theorem w_asg {t : Tg} {ma : M D} (w : wR (ma ds h) (exP P ds) fun d h1 => wO (asgT t d ds) fun ds' => P.nx ds' h1) : wS (sAsg t ma ds h) P := by
  unfold sAsg
  cases e : ma ds h with
  | ok d h1 =>
    rw [e] at w
    have w : wO (asgT t d ds) fun ds' => P.nx ds' h1 := w
    show wS (match asgT t d ds with | some ds' => .nx ds' h1 | none => .no) P
    cases e2 : asgT t d ds <;> rw [e2] at w <;> exact w
  | ex c p h1 => rw [e] at w; exact w
  | no => rw [e] at w; exact w
theorem w_par {is : List Nat} {me : M (List D)} (w : wR (me ds h) (exP P ds) fun xs h1 => xs.length = is.length ∧ P.nx ((is.zip xs).foldl (fun ds p => ds.set p.1 (some p.2)) ds) h1) : wS (sPar is me ds h) P := by
  unfold sPar
  cases e : me ds h with
  | ok d h1 =>
    rw [e] at w
    have w1 := And.left w
    have w2 := And.right w
    show wS (if d.length = is.length then _ else _) P
    rw [if_pos w1]
    exact w2
  | ex c p h1 => rw [e] at w; exact w
  | no => rw [e] at w; exact w
theorem w_sseq {m1 m2 : SM} (w : wS (m1 ds h) { P with nx := fun ds' h' => wS (m2 ds' h') P }) : wS (sSeq m1 m2 ds h) P := by
  unfold sSeq
  cases e : m1 ds h <;> rw [e] at w <;> exact w
theorem w_sif {mc : M Bool} {m1 m2 : SM} (w : wR (mc ds h) (exP P ds) fun b h1 => (b = true → wS (m1 ds h1) P) ∧ (b = false → wS (m2 ds h1) P)) : wS (sIf mc m1 m2 ds h) P := by
  unfold sIf
  cases e : mc ds h with
  | ok b h1 =>
    rw [e] at w
    cases b with
    | true => exact w.1 rfl
    | false => exact w.2 rfl
  | ex c p h1 => rw [e] at w; exact w
  | no => rw [e] at w; exact w
theorem w_app {mo ma : M D} (w : wR (mo ds h) x0 fun d h1 => ∃ n, d = D.loc n ∧ isLstAt h1 n = true ∧ wR (ma ds h1) (exP P ds) fun y h2 => ∃ l, h2[n]? = some (.lst l) ∧ (isLoc y = false ∧ l.length < 16777216) ∧ P.nx ds (h2.set n (.lst (l ++ [y])))) : wS (sApp mo ma ds h) P := by
  unfold sApp
  obtain ⟨d, h1, e, n, rfl, e2, w⟩ := wR_ok w
  rw [e]
  show wS (if isLstAt h1 n = false then _ else _) P
  rw [e2, if_neg (by decide)]
  cases e3 : ma ds h1 with
  | ok y h2 =>
    rw [e3] at w
    obtain ⟨l, e4, c, w⟩ := w
    simp only [e4, if_pos c]
    exact w
  | ex c p h1 => rw [e3] at w; exact w
  | no => rw [e3] at w; exact w
theorem w_put {mo mi mv : M D} (w : wR (mv ds h) (exP P ds) fun y h1 => wR (mo ds h1) x0 fun d h2 => ∃ n, d = D.loc n ∧ wR (mi ds h2) x0 fun k h3 => ∃ i l j, k = D.int i ∧ h3[n]? = some (.lst l) ∧ ixN l.length i = some j ∧ isLoc y = false ∧ P.nx ds (h3.set n (.lst (l.set j y)))) : wS (sPut mo mi mv ds h) P := by
  unfold sPut
  cases e : mv ds h with
  | ok y h1 =>
    rw [e] at w
    have w : wR (mo ds h1) x0 fun d h2 => ∃ n, d = D.loc n ∧ wR (mi ds h2) x0 fun k h3 => ∃ i l j, k = D.int i ∧ h3[n]? = some (.lst l) ∧ ixN l.length i = some j ∧ isLoc y = false ∧ P.nx ds (h3.set n (.lst (l.set j y))) := w
    obtain ⟨d, h2, e2, n, rfl, w⟩ := wR_ok w
    obtain ⟨k, h3, e3, i, l, j, rfl, e4, e5, e6, w⟩ := wR_ok w
    simp only [e2, e3, e4, e5, if_pos e6]
    exact w
  | ex c p h1 => rw [e] at w; exact w
  | no => rw [e] at w; exact w
/-! a def's result -/
def wF (n0 : Nat) (Q : D → Hs → Prop) (d : D) (h : Hs) : Prop := match d with
  | .loc n => if n < n0 then Q (.loc n) (h.take n0) else (match h[n]? with
    | some (.lst l) => Q (.lst l) (h.take n0)
    | _ => False)
  | d => Q d (h.take n0)
theorem wF_val {n0 : Nat} {Q : D → Hs → Prop} {d : D} (hd : isLoc d = false) (q : Q d (h.take n0)) : wF n0 Q d h := by
  cases d <;> first | exact q | cases hd
abbrev poF (n0 : Nat) (E : XP) (Q : D → Hs → Prop) : Po := ⟨fun _ h1 => Q .non (h1.take n0), wF n0 Q, fun _ _ => False, fun _ _ => False, fun c p _ h1 => E c p (h1.take n0)⟩
theorem w_fun {np nl : Nat} {body : SM} {args : List D} {Q : D → Hs → Prop} (hl : args.length = np) (w : wS (body (args.map some ++ List.replicate nl none) h) (poF h.length E Q)) : wR (mkF np nl finV body args h) E Q := by
  unfold mkF
  rw [if_pos hl]
  cases e : body (args.map some ++ List.replicate nl none) h with
  | nx ds h1 => rw [e] at w; exact w
  | bk ds h1 => rw [e] at w; exact w.elim
  | ct ds h1 => rw [e] at w; exact w.elim
  | ex c p ds h1 => rw [e] at w; exact w
  | no => rw [e] at w; exact w.elim
  | rt d h1 =>
    rw [e] at w
    cases d with
    | loc n =>
      have w : wF h.length Q (.loc n) h1 := w
      unfold wF at w
      show wR (if n < h.length then _ else _) E Q
      by_cases hn : n < h.length
      · rw [if_pos hn]; simp only [if_pos hn] at w; exact w
      · rw [if_neg hn]; simp only [if_neg hn] at w
        cases e2 : h1[n]? with
        | none => rw [e2] at w; exact w.elim
        | some c =>
          rw [e2] at w
          cases c <;> first | exact w | exact w.elim
    | _ => exact w
/-! loops -/
theorem w_for {ms : M Src} {t : Tg} {body : SM} (l : List D) (I : Nat → Ev → Hs → Prop) (w : wR (ms ds h) (exP P ds) fun s h1 => s = .its l ∧ I 0 ds h1 ∧
    (∀ i x ds hh, l[i]? = some x → I i ds hh → wO (asgT t x ds) fun ds1 => wS (body ds1 hh) ⟨fun ds2 h2 => I (i + 1) (gcE h1.length ds2) (h2.take h1.length), P.rt, P.nx, fun ds2 h2 => I (i + 1) (gcE h1.length ds2) (h2.take h1.length), P.ex⟩) ∧
    ∀ ds' h', I l.length ds' h' → P.nx ds' h') : wS (sFor ms t body ds h) P := by
  unfold sFor
  cases e : ms ds h with
  | ex c p h1 => rw [e] at w; exact w
  | no => rw [e] at w; exact w
  | ok s h1 =>
    rw [e] at w
    obtain ⟨rfl, w0, step, fin⟩ := w
    show wS (forGo h1.length (.its l) t body l.length 0 ds h1) P
    have key : ∀ (k i : Nat) (ds : Ev) (hh : Hs), k + i = l.length → I i ds hh → wS (forGo h1.length (.its l) t body k i ds hh) P := by
      intro k
      induction k with
      | zero =>
        intro i ds hh e hi
        have : i = l.length := by omega
        subst this
        exact fin ds hh hi
      | succ k ih =>
        intro i ds hh e hi
        have hil : i < l.length := by omega
        have st := step i l[i] ds hh (List.getElem?_eq_getElem hil) hi
        simp only [forGo, srcAt, List.getElem?_eq_getElem hil, Option.bind_some]
        cases ea : asgT t l[i] ds with
        | none => rw [ea] at st; exact st.elim
        | some ds1 =>
          rw [ea] at st
          have st : wS (body ds1 hh) ⟨fun ds2 h2 => I (i + 1) (gcE h1.length ds2) (h2.take h1.length), P.rt, P.nx, fun ds2 h2 => I (i + 1) (gcE h1.length ds2) (h2.take h1.length), P.ex⟩ := st
          show wS (match body ds1 hh with | .nx ds2 h2 => forGo h1.length (.its l) t body k (i + 1) (gcE h1.length ds2) (h2.take h1.length) | .ct ds2 h2 => forGo h1.length (.its l) t body k (i + 1) (gcE h1.length ds2) (h2.take h1.length) | .bk ds2 h2 => .nx ds2 h2 | r => r) P
          cases eb : body ds1 hh with
          | nx ds2 h2 => rw [eb] at st; exact ih _ _ _ (by omega) st
          | ct ds2 h2 => rw [eb] at st; exact ih _ _ _ (by omega) st
          | bk ds2 h2 => rw [eb] at st; exact st
          | rt d h2 => rw [eb] at st; exact st
          | ex c p ds2 h2 => rw [eb] at st; exact st
          | no => rw [eb] at st; exact st.elim
    exact key l.length 0 ds h1 (by omega) w0
/-- I k: at most k turns more -/
theorem w_while {c : M Bool} {body : SM} {fuel : Nat} (I : Nat → Ev → Hs → Prop) (k0 : Nat) (hk : k0 < fuel) (w0 : I k0 ds h)
    (step : ∀ k ds hh, I k ds hh → wR (c ds hh) (exP P ds) fun b h1 => (b = true → wS (body ds h1) ⟨fun ds2 h2 => ∃ k', k' < k ∧ I k' (gcE h.length ds2) (h2.take h.length), P.rt, P.nx, fun ds2 h2 => ∃ k', k' < k ∧ I k' (gcE h.length ds2) (h2.take h.length), P.ex⟩) ∧ (b = false → P.nx ds h1)) :
    wS (sWhile fuel c body ds h) P := by
  unfold sWhile
  generalize h.length = n0 at step
  have key : ∀ (f k : Nat) (ds : Ev) (hh : Hs), k < f → I k ds hh → wS (whileGo n0 c body f ds hh) P := by
    intro f
    induction f with
    | zero => intro k ds hh e; omega
    | succ f ih =>
      intro k ds hh e hi
      have st := step k ds hh hi
      unfold whileGo
      cases ec : c ds hh with
      | ex c p h1 => rw [ec] at st; exact st
      | no => rw [ec] at st; exact st.elim
      | ok b h1 =>
        rw [ec] at st
        cases b with
        | false => exact st.2 rfl
        | true =>
          have st := st.1 rfl
          show wS (match body ds h1 with | .nx ds2 h2 => whileGo n0 c body f (gcE n0 ds2) (h2.take n0) | .ct ds2 h2 => whileGo n0 c body f (gcE n0 ds2) (h2.take n0) | .bk ds2 h2 => .nx ds2 h2 | r => r) P
          cases eb : body ds h1 with
          | nx ds2 h2 => rw [eb] at st; obtain ⟨k', hk', st⟩ := st; exact ih k' _ _ (by omega) st
          | ct ds2 h2 => rw [eb] at st; obtain ⟨k', hk', st⟩ := st; exact ih k' _ _ (by omega) st
          | bk ds2 h2 => rw [eb] at st; exact st
          | rt d h2 => rw [eb] at st; exact st
          | ex c p ds2 h2 => rw [eb] at st; exact st
          | no => rw [eb] at st; exact st.elim
  exact key fuel k0 ds h hk w0
/-! comprehensions -/
theorem noex_wR {α : Type} {r : R α} {Q : α → Hs → Prop} (w : wR r x0 Q) : ∃ a h, r.noex = .ok a h ∧ Q a h := by
  obtain ⟨a, h, e, q⟩ := wR_ok w
  exact ⟨a, h, by rw [e]; rfl, q⟩
/-- by an invariant of the heap, the new list's cell at place n -/
theorem w_lcI {ms : M Src} {vs : List Nat} {t : Tg} {tt : M Bool} {te : M D} {Q : D → Hs → Prop} (l : List D) (I : Nat → Hs → Prop) (w : wR (ms ds h) E fun s h1 => s = .its l ∧ I 0 (h1 ++ [.lst []]) ∧
    (∀ i x hh, l[i]? = some x → I i hh → wO (asgT t x (wipeD ds vs)) fun ds1 => wR (tt ds1 hh) x0 fun b h2 => (b = true → wR (te ds1 h2) x0 fun y h3 => ∃ acc, h3[h1.length]? = some (.lst acc) ∧ (isLoc y = false ∧ acc.length < 16777216) ∧ I (i + 1) ((h3.take (h1.length + 1)).set h1.length (.lst (acc ++ [y])))) ∧ (b = false → I (i + 1) (h2.take (h1.length + 1)))) ∧
    ∀ hh, I l.length hh → ∃ acc, hh[h1.length]? = some (.lst acc) ∧ Q (.lst acc) (hh.take h1.length)) : wR (mLc ms vs t tt te ds h) E Q := by
  refine wR_bind (wR_mono w fun s h1 ⟨es, w0, step, fin⟩ => ?_)
  subst es
  have key : ∀ (k i : Nat) (hh : Hs), k + i = l.length → I i hh → wR (lcGo h1.length (wipeD ds vs) (.its l) t tt te k i hh) E Q := by
    intro k
    induction k with
    | zero =>
      intro i hh e hi
      have : i = l.length := by omega
      subst this
      obtain ⟨acc, e1, q⟩ := fin hh hi
      simp only [lcGo, srcEnd, if_true, e1]
      exact q
    | succ k ih =>
      intro i hh e hi
      have hil : i < l.length := by omega
      have st := step i l[i] hh (List.getElem?_eq_getElem hil) hi
      simp only [lcGo, srcAt, List.getElem?_eq_getElem hil, Option.bind_some]
      cases ea : asgT t l[i] (wipeD ds vs) with
      | none => rw [ea] at st; exact st.elim
      | some ds1 =>
        rw [ea] at st
        obtain ⟨b, h2, e2, st⟩ := noex_wR st
        simp only [e2, R.bind]
        cases b with
        | false => exact ih _ _ (by omega) (st.2 rfl)
        | true =>
          obtain ⟨y, h3, e3, acc, e4, c, st⟩ := noex_wR (st.1 rfl)
          simp only [if_true, e3, e4]
          rw [if_pos c]
          exact ih _ _ (by omega) st
  exact key l.length 0 _ (by show l.length + 0 = _; omega) w0
/-- .. the same, the list a cell -/
theorem w_lcC {ms : M Src} {vs : List Nat} {t : Tg} {tt : M Bool} {te : M D} {Q : D → Hs → Prop} (l : List D) (I : Nat → Hs → Prop) (w : wR (ms ds h) E fun s h1 => s = .its l ∧ I 0 (h1 ++ [.lst []]) ∧
    (∀ i x hh, l[i]? = some x → I i hh → wO (asgT t x (wipeD ds vs)) fun ds1 => wR (tt ds1 hh) x0 fun b h2 => (b = true → wR (te ds1 h2) x0 fun y h3 => ∃ acc, h3[h1.length]? = some (.lst acc) ∧ (isLoc y = false ∧ acc.length < 16777216) ∧ I (i + 1) ((h3.take (h1.length + 1)).set h1.length (.lst (acc ++ [y])))) ∧ (b = false → I (i + 1) (h2.take (h1.length + 1)))) ∧
    ∀ hh, I l.length hh → ∃ acc, hh[h1.length]? = some (.lst acc) ∧ Q (.loc h1.length) hh) : wR (mLcC ms vs t tt te ds h) E Q := by
  refine wR_bind (wR_mono w fun s h1 ⟨es, w0, step, fin⟩ => ?_)
  subst es
  have key : ∀ (k i : Nat) (hh : Hs), k + i = l.length → I i hh → wR (lcGoC h1.length (wipeD ds vs) (.its l) t tt te k i hh) E Q := by
    intro k
    induction k with
    | zero =>
      intro i hh e hi
      have : i = l.length := by omega
      subst this
      obtain ⟨acc, e1, q⟩ := fin hh hi
      simp only [lcGoC, srcEnd, if_true, e1]
      exact q
    | succ k ih =>
      intro i hh e hi
      have hil : i < l.length := by omega
      have st := step i l[i] hh (List.getElem?_eq_getElem hil) hi
      simp only [lcGoC, srcAt, List.getElem?_eq_getElem hil, Option.bind_some]
      cases ea : asgT t l[i] (wipeD ds vs) with
      | none => rw [ea] at st; exact st.elim
      | some ds1 =>
        rw [ea] at st
        obtain ⟨b, h2, e2, st⟩ := noex_wR st
        simp only [e2, R.bind]
        cases b with
        | false => exact ih _ _ (by omega) (st.2 rfl)
        | true =>
          obtain ⟨y, h3, e3, acc, e4, c, st⟩ := noex_wR (st.1 rfl)
          simp only [if_true, e3, e4]
          rw [if_pos c]
          exact ih _ _ (by omega) st
  exact key l.length 0 _ (by show l.length + 0 = _; omega) w0
/-- a comprehension that changes nothing: what each item gives -/
theorem w_lc {ms : M Src} {vs : List Nat} {t : Tg} {tt : M Bool} {te : M D} {Q : D → Hs → Prop} (l : List D) (p : D → Bool) (g : D → D) (w : wR (ms ds h) E fun s h1 => s = .its l ∧ l.length < 16777216 ∧
    (∀ x, x ∈ l → wO (asgT t x (wipeD ds vs)) fun ds1 => ∀ hh : Hs, wR (tt ds1 hh) x0 fun b h2 => h2 = hh ∧ b = p x ∧ (p x = true → wR (te ds1 hh) x0 fun y h3 => h3 = hh ∧ y = g x ∧ isLoc y = false)) ∧ Q (.lst ((l.filter p).map g)) h1) : wR (mLc ms vs t tt te ds h) E Q := by
  refine wR_bind (wR_mono w fun s h1 ⟨es, hl, hx, q⟩ => ?_)
  subst es
  have q1 : ∀ {z : D}, (h1 ++ [z])[h1.length]? = some z := by simp
  have q2 : ∀ {z : D}, (h1 ++ [z]).take (h1.length + 1) = h1 ++ [z] := List.take_of_length_le (by simp)
  have q3 : ∀ {z : D}, (h1 ++ [z]).take h1.length = h1 := by simp
  have q4 : ∀ {z y : D}, (h1 ++ [z]).set h1.length y = h1 ++ [y] := by simp [List.set_append]
  have key : ∀ (rest pre : List D) (acc : List D), l = pre ++ rest → acc.length ≤ pre.length → lcGo h1.length (wipeD ds vs) (.its l) t tt te rest.length pre.length (h1 ++ [.lst acc]) = .ok (.lst (acc ++ (rest.filter p).map g)) h1 := by
    intro rest
    induction rest with
    | nil =>
      intro pre acc e ha
      simp only [List.length_nil, lcGo, srcEnd, if_true, q1, q3, List.filter_nil, List.map_nil, List.append_nil]
    | cons x rest ih =>
      intro pre acc e ha
      have hx := hx x (by rw [e]; simp)
      have e4 : l[pre.length]? = some x := by rw [e]; simp
      have e5 : l = (pre ++ [x]) ++ rest := by rw [e]; simp
      have hlen : (pre ++ [x]).length = pre.length + 1 := by simp
      have hll : pre.length < l.length := by rw [e]; simp
      simp only [List.length_cons, lcGo, srcAt, e4, Option.bind_some]
      cases ea : asgT t x (wipeD ds vs) with
      | none => rw [ea] at hx; exact hx.elim
      | some ds1 =>
        rw [ea] at hx
        obtain ⟨b, h2, e2, rfl, rfl, st⟩ := noex_wR (hx (h1 ++ [.lst acc]))
        simp only [e2, R.bind]
        cases hp : p x with
        | false =>
          simp only [Bool.false_eq_true, if_false, q2]
          rw [← hlen, ih (pre ++ [x]) acc e5 (by simp; omega), List.filter_cons, hp]
          simp
        | true =>
          obtain ⟨y, h3, e6, rfl, rfl, e7⟩ := noex_wR (st hp)
          simp only [if_true, e6, q1]
          rw [if_pos ⟨e7, by omega⟩, q2, q4, ← hlen, ih (pre ++ [x]) (acc ++ [g x]) e5 (by simp; omega), List.filter_cons, hp]
          simp
  have k := key l [] [] (by simp) (Nat.le_refl _)
  simp only [List.length_nil, List.nil_append] at k
  exact wR_eq k q
end
end DL

set_option Elab.async false
set_option linter.all false
set_option maxRecDepth 100000
set_option maxHeartbeats 1000000
set_option exponentiation.threshold 5000
namespace DL
open PySem PySem.Spec PyProof.Rows L2 RZ

theorem sm {x : Int} (h1 : -(2 ^ 1000) < x) (h2 : x < 2 ^ 1000) : x.natAbs < 2 ^ 4000 := Nat.lt_of_lt_of_le (by omega) (Nat.pow_le_pow_right (by decide) (by decide : (1000 : Nat) ≤ 4000))
/-! ### rules with the continuations apart -/
section
variable {N B C : Ev → Hs → Prop} {T : D → Hs → Prop} {X : Str → Option D → Ev → Hs → Prop} {ds : Ev} {h : Hs} {E : XP}
theorem v_ret {ma : M D} (w : wR (ma ds h) (fun c p h => X c p ds h) T) : wS (sRet ma ds h) ⟨N, T, B, C, X⟩ := w_ret w
theorem v_retN (w : T .non h) : wS (sRetN ds h) ⟨N, T, B, C, X⟩ := w
theorem v_pass (w : N ds h) : wS (sPass ds h) ⟨N, T, B, C, X⟩ := w
theorem v_brk (w : B ds h) : wS (sBrk ds h) ⟨N, T, B, C, X⟩ := w
theorem v_cnt (w : C ds h) : wS (sCnt ds h) ⟨N, T, B, C, X⟩ := w
theorem v_drop {ma : M D} (w : wR (ma ds h) (fun c p h => X c p ds h) fun _ h1 => N ds h1) : wS (sDrop ma ds h) ⟨N, T, B, C, X⟩ := w_drop w
theorem v_asg {t : Tg} {ma : M D} (w : wR (ma ds h) (fun c p h => X c p ds h) fun d h1 => wO (asgT t d ds) fun ds' => N ds' h1) : wS (sAsg t ma ds h) ⟨N, T, B, C, X⟩ := w_asg w
theorem v_par {is : List Nat} {me : M (List D)} (w : wR (me ds h) (fun c p h => X c p ds h) fun xs h1 => xs.length = is.length ∧ N ((is.zip xs).foldl (fun ds p => ds.set p.1 (some p.2)) ds) h1) : wS (sPar is me ds h) ⟨N, T, B, C, X⟩ := w_par w
theorem v_par2 {i j : Nat} {me : M (List D)} (w : wR (me ds h) (fun c p h => X c p ds h) fun xs h1 => ∃ a b, xs = [a, b] ∧ N ((ds.set i (some a)).set j (some b)) h1) : wS (sPar [i, j] me ds h) ⟨N, T, B, C, X⟩ :=
  w_par (wR_mono w fun xs h1 ⟨a, b, e, q⟩ => by subst e; exact ⟨rfl, q⟩)
theorem v_par3 {i j k : Nat} {me : M (List D)} (w : wR (me ds h) (fun c p h => X c p ds h) fun xs h1 => ∃ a b c, xs = [a, b, c] ∧ N (((ds.set i (some a)).set j (some b)).set k (some c)) h1) : wS (sPar [i, j, k] me ds h) ⟨N, T, B, C, X⟩ :=
  w_par (wR_mono w fun xs h1 ⟨a, b, c, e, q⟩ => by subst e; exact ⟨rfl, q⟩)
theorem v_seq {m1 m2 : SM} (w : wS (m1 ds h) ⟨fun ds' h' => wS (m2 ds' h') ⟨N, T, B, C, X⟩, T, B, C, X⟩) : wS (sSeq m1 m2 ds h) ⟨N, T, B, C, X⟩ := w_sseq w
theorem v_if {mc : M Bool} {m1 m2 : SM} (w : wR (mc ds h) (fun c p h => X c p ds h) fun b h1 => (b = true → wS (m1 ds h1) ⟨N, T, B, C, X⟩) ∧ (b = false → wS (m2 ds h1) ⟨N, T, B, C, X⟩)) : wS (sIf mc m1 m2 ds h) ⟨N, T, B, C, X⟩ := w_sif w
theorem v_app {mo ma : M D} (w : wR (mo ds h) x0 fun d h1 => ∃ n, d = D.loc n ∧ isLstAt h1 n = true ∧ wR (ma ds h1) (fun c p h => X c p ds h) fun y h2 => ∃ l, h2[n]? = some (.lst l) ∧ (isLoc y = false ∧ l.length < 16777216) ∧ N ds (h2.set n (.lst (l ++ [y])))) : wS (sApp mo ma ds h) ⟨N, T, B, C, X⟩ := w_app w
theorem v_put {mo mi mv : M D} (w : wR (mv ds h) (fun c p h => X c p ds h) fun y h1 => wR (mo ds h1) x0 fun d h2 => ∃ n, d = D.loc n ∧ wR (mi ds h2) x0 fun k h3 => ∃ i l j, k = D.int i ∧ h3[n]? = some (.lst l) ∧ ixN l.length i = some j ∧ isLoc y = false ∧ N ds (h3.set n (.lst (l.set j y)))) : wS (sPut mo mi mv ds h) ⟨N, T, B, C, X⟩ := w_put w
theorem v_fun {np nl : Nat} {body : SM} {args : List D} {Q : D → Hs → Prop} (hl : args.length = np) (w : wS (body (args.map some ++ List.replicate nl none) h) ⟨fun _ h1 => Q .non (h1.take h.length), wF h.length Q, fun _ _ => False, fun _ _ => False, fun c p _ h1 => E c p (h1.take h.length)⟩) : wR (mkF np nl finV body args h) E Q := w_fun hl w
end
/-! ### what operators give -/
section
variable {P : D → Prop} {x y : D} {i j : Int} {a b : List D}
theorem o_addI (ex : x = .int i) (ey : y = .int j) (q : P (.int (i + j))) : wO (addD x y) P := by subst ex ey; exact q
theorem o_addT (ex : x = .tup a) (ey : y = .tup b) (hl : a.length + b.length ≤ 16777216) (q : P (.tup (a ++ b))) : wO (addD x y) P := by
  subst ex ey; exact wO_some (by rw [addD, if_pos hl]) q
theorem o_addL (ex : x = .lst a) (ey : y = .lst b) (hl : a.length + b.length ≤ 16777216) (q : P (.lst (a ++ b))) : wO (addD x y) P := by
  subst ex ey; exact wO_some (by rw [addD, if_pos hl]) q
theorem o_subI (ex : x = .int i) (ey : y = .int j) (q : P (.int (i - j))) : wO (subD x y) P := by subst ex ey; exact q
theorem log2_4000 {x : Int} (h : x.natAbs < 2 ^ 4000) : x.natAbs.log2 < 4000 := PySem.Flt.log2_lt_of (by decide) h
theorem o_mulI (ex : x = .int i) (ey : y = .int j) (hi : i.natAbs < 2 ^ 4000) (hj : j.natAbs < 2 ^ 4000) (q : P (.int (i * j))) : wO (mulD x y) P := by
  subst ex ey
  have h1 := log2_4000 hi
  have h2 := log2_4000 hj
  exact wO_some (by rw [mulD, if_pos (by omega)]) q
theorem o_fdivI (ex : x = .int i) (ey : y = .int j) (h0 : 0 < j) (hj : j.natAbs < 2 ^ 4000) (q : P (.int (i / j))) : wO (fdivD x y) P := by
  subst ex ey
  have h2 := log2_4000 hj
  exact wO_some (by rw [fdivD, if_pos ⟨h0, by omega⟩]) q
theorem o_modI (ex : x = .int i) (ey : y = .int j) (h0 : 0 < j) (q : P (.int (i % j))) : wO (modD x y) P := by
  subst ex ey; exact wO_some (by rw [modD, if_pos h0]) q
theorem o_powI {z : D} (e : powD x y = some z) (q : P z) : wO (powD x y) P := wO_some e q
theorem o_ltI (ex : x = .int i) (ey : y = .int j) (q : P (.bl (decide (i < j)))) : wO (ltD x y) P := by subst ex ey; exact q
theorem o_leI (ex : x = .int i) (ey : y = .int j) (q : P (.bl (decide (i ≤ j)))) : wO (leD x y) P := by subst ex ey; exact q
theorem o_gtI (ex : x = .int i) (ey : y = .int j) (q : P (.bl (decide (j < i)))) : wO (gtD x y) P := by subst ex ey; exact q
theorem o_geI (ex : x = .int i) (ey : y = .int j) (q : P (.bl (decide (j ≤ i)))) : wO (geD x y) P := by subst ex ey; exact q
theorem o_negI (ex : x = .int i) (q : P (.int (-i))) : wO (negD x) P := by subst ex; exact q
theorem okE_int {n : Nat} {i : Int} : okE n (.int i) = true := by cases n <;> rfl
theorem eqv_int : eqv (.int i) (.int j) = decide (i = j) := by simp only [eqv]; by_cases h : i = j <;> simp [h]
theorem o_eqI (ex : x = .int i) (ey : y = .int j) (q : P (.bl (decide (i = j)))) : wO (eqD x y) P := by
  subst ex ey; exact wO_some (by rw [eqD, if_pos ⟨okE_int, okE_int⟩, eqv_int]) q
theorem o_neI (ex : x = .int i) (ey : y = .int j) (q : P (.bl (!decide (i = j)))) : wO (neD x y) P := by
  subst ex ey; exact wO_some (by rw [neD, if_pos ⟨okE_int, okE_int⟩, eqv_int]) q
theorem o_eqG (hx : okE 60 x = true) (hy : okE 60 y = true) (q : P (.bl (eqv x y))) : wO (eqD x y) P := wO_some (by rw [eqD, if_pos ⟨hx, hy⟩]) q
theorem o_neG (hx : okE 60 x = true) (hy : okE 60 y = true) (q : P (.bl (!eqv x y))) : wO (neD x y) P := wO_some (by rw [neD, if_pos ⟨hx, hy⟩]) q
theorem eqv_self : ∀ {n : Nat} {d : D}, okE n d = true → eqv d d = true := by
  intro n
  induction n with
  | zero => intro d h; cases d <;> first | (simp [okE] at h; done) | (simp [eqv]; done)
  | succ n ih =>
    intro d h
    have key : ∀ l : List D, l.all (okE n) = true → eqvs l l = true := by
      intro l
      induction l with
      | nil => intro _; simp [eqvs]
      | cons d l ihl =>
        intro hl
        simp only [List.all_cons, Bool.and_eq_true] at hl
        simp only [eqvs, ih hl.1, ihl hl.2, Bool.and_self]
    cases d with
    | tup l => simp only [eqv]; exact key l (by simpa [okE] using h)
    | lst l => simp only [eqv]; exact key l (by simpa [okE] using h)
    | _ => first | (simp [okE] at h; done) | (simp [eqv]; done)
theorem o_eqS (e : x = y) (hx : okE 60 y = true) (q : P (.bl true)) : wO (eqD x y) P := by subst e; exact o_eqG hx hx (by rw [eqv_self hx]; exact q)
theorem o_neS (e : x = y) (hx : okE 60 y = true) (q : P (.bl false)) : wO (neD x y) P := by subst e; exact o_neG hx hx (by rw [eqv_self hx]; exact q)
theorem o_isN (ey : y = .non) (q : P (.bl (isNon x))) : wO (isND x y) P := by subst ey; exact q
theorem o_notN (ey : y = .non) (q : P (.bl (!isNon x))) : wO (notND x y) P := by subst ey; exact q
theorem o_ix {o : D} {k : Nat} {z : D} (ex : x = o) (es : sqOf o = some a) (ey : y = .int i) (hk : i = (k : Nat)) (e : a[k]? = some z) (q : P z) : wO (ixD x y) P := by
  subst ex ey
  have hl : k < a.length := (List.getElem?_eq_some_iff.mp e).1
  have key : L2.atI a i = some z := by
    unfold L2.atI
    have : ixN a.length i = some k := by
      rw [ixN, if_pos (by omega)]
      rw [if_pos (by omega)]
      congr 1
      omega
    rw [this]
    exact e
  cases x <;> first | cases es | skip
  all_goals exact wO_some key q
variable {xs : List D}
theorem o_lenT {l : List D} (e : xs = [.tup l]) (q : P (.int (l.length : Nat))) : wO (on1 len1 xs) P := by subst e; exact q
theorem o_lenL {l : List D} (e : xs = [.lst l]) (q : P (.int (l.length : Nat))) : wO (on1 len1 xs) P := by subst e; exact q
theorem o_lenF {l : List D} (e : xs = [.frz l]) (q : P (.int (l.length : Nat))) : wO (on1 len1 xs) P := by subst e; exact q
theorem o_abs (e : xs = [.int i]) (q : P (.int (if i < 0 then -i else i))) : wO (on1 abs1 xs) P := by subst e; exact q
theorem o_int (e : xs = [.int i]) (q : P (.int i)) : wO (on1 toInt1 xs) P := by subst e; exact q
theorem o_intB {c : Bool} (e : xs = [.bl c]) (q : P (.int (if c then 1 else 0))) : wO (on1 toInt1 xs) P := by subst e; exact q
theorem o_max (e : xs = [.int i, .int j]) (q : P (.int (if j > i then j else i))) : wO (on2 max2 xs) P := by subst e; exact q
theorem o_min (e : xs = [.int i, .int j]) (q : P (.int (if j < i then j else i))) : wO (on2 min2 xs) P := by subst e; exact q
theorem o_gcd (e : xs = [.int i, .int j]) (q : P (.int ((Nat.gcd i.natAbs j.natAbs : Nat) : Int))) : wO (on2 gcd2 xs) P := by subst e; exact q
theorem o_tupL {l : List D} (e : xs = [.lst l]) (q : P (.tup l)) : wO (on1 toTup1 xs) P := by subst e; exact q
theorem o_tupT {l : List D} (e : xs = [.tup l]) (q : P (.tup l)) : wO (on1 toTup1 xs) P := by subst e; exact q
theorem o_lst {l : List D} {o : D} (e : xs = [o]) (es : sqOf o = some l) (q : P (.lst l)) : wO (on1 toLst1 xs) P := by subst e; cases o <;> cases es <;> exact q
theorem blsD_map : ∀ bs : List Bool, blsD (bs.map .bl) = some bs
  | [] => rfl
  | b :: bs => by simp [blsD, blsD_map bs]
theorem o_all {bs : List Bool} (e : xs = [.lst (bs.map .bl)]) (q : P (.bl (bs.all id))) : wO (on1 all1 xs) P := by subst e; exact wO_some (by simp [on1, all1, blsD_map]) q
theorem o_any {bs : List Bool} (e : xs = [.lst (bs.map .bl)]) (q : P (.bl (bs.any id))) : wO (on1 any1 xs) P := by subst e; exact wO_some (by simp [on1, any1, blsD_map]) q
theorem o_isi {c t : String} {b : Bool} {o : D} (e : xs = [o, .ty c]) (et : tyN o = some t) (h : isT2 t c = some b) (q : P (.bl b)) : wO (on2 isi2 xs) P := by
  subst e; exact wO_some (by simp [on2, isi2, et, h]) q
theorem o_truB {Pb : Bool → Prop} {b : Bool} (ex : x = .bl b) (q : Pb b) : wO (truD x) Pb := by subst ex; exact q
theorem o_truI {Pb : Bool → Prop} (ex : x = .int i) (q : Pb (i != 0)) : wO (truD x) Pb := by subst ex; exact q
theorem o_isBl {Pb : Bool → Prop} {b : Bool} (ex : x = .bl b) (q : Pb b) : wO (isBl x) Pb := by subst ex; exact q
theorem o_bindBl {Pb : Bool → Prop} {o : Option D} (w : wO o fun z => wO (isBl z) Pb) : wO (o.bind isBl) Pb := by
  cases o with
  | none => exact w.elim
  | some z => exact w
theorem o_asg1 {Pe : Ev → Prop} {k : Nat} {d : D} {ds : Ev} (q : Pe (ds.set k (some d))) : wO (asgT (.nm k) d ds) Pe := by unfold asgT; exact q
theorem o_asg2 {Pe : Ev → Prop} {k l : Nat} {d u v : D} {ds : Ev} (e : d = .tup [u, v]) (q : Pe ((ds.set k (some u)).set l (some v))) : wO (asgT (.tp (.cons (.nm k) (.cons (.nm l) .nil))) d ds) Pe := by
  subst e; simp only [asgT, asgTs, Option.bind_some]; exact q
theorem o_asg3 {Pe : Ev → Prop} {k l m : Nat} {d u v w : D} {ds : Ev} (e : d = .tup [u, v, w]) (q : Pe (((ds.set k (some u)).set l (some v)).set m (some w))) : wO (asgT (.tp (.cons (.nm k) (.cons (.nm l) (.cons (.nm m) .nil)))) d ds) Pe := by
  subst e; simp only [asgT, asgTs, Option.bind_some]; exact q
theorem o_asg4 {Pe : Ev → Prop} {k l m n : Nat} {d u v w z : D} {ds : Ev} (e : d = .tup [u, v, w, z]) (q : Pe ((((ds.set k (some u)).set l (some v)).set m (some w)).set n (some z))) : wO (asgT (.tp (.cons (.nm k) (.cons (.nm l) (.cons (.nm m) (.cons (.nm n) .nil))))) d ds) Pe := by
  subst e; simp only [asgT, asgTs, Option.bind_some]; exact q
end
end DL

set_option Elab.async false
set_option linter.all false
set_option maxRecDepth 100000
set_option maxHeartbeats 1000000
namespace DL
open PySem PySem.Spec PyProof.Rows L2 RZ
section
variable {E : XP} {Q : D → Hs → Prop} {ds : Ev} {h : Hs} {ms : M Src} {vs : List Nat} {t : Tg} {te : M D}
/-- [f(x) for x in l] -/
theorem w_map (l : List D) (g : D → D) (w : wR (ms ds h) E fun s h1 => s = .its l ∧ l.length < 16777216 ∧
    (∀ x, x ∈ l → wO (asgT t x (wipeD ds vs)) fun ds1 => ∀ hh : Hs, wR (te ds1 hh) x0 fun y h3 => h3 = hh ∧ y = g x ∧ isLoc y = false) ∧ Q (.lst (l.map g)) h1) : wR (mLc ms vs t mYes te ds h) E Q := by
  refine w_lc l (fun _ => true) g (wR_mono w fun s h1 ⟨e, hl, hx, q⟩ => ⟨e, hl, fun x m => ?_, by rw [List.filter_eq_self.mpr fun _ _ => rfl]; exact q⟩)
  have := hx x m
  cases e2 : asgT t x (wipeD ds vs) with
  | none => rw [e2] at this; exact this
  | some ds1 => rw [e2] at this; exact fun hh => ⟨rfl, rfl, fun _ => this hh⟩
/-- all([f(x) for x in l]) -/
theorem w_allLc (l : List D) (g : D → Bool) (w : wR (ms ds h) E fun s h1 => s = .its l ∧ l.length < 16777216 ∧
    (∀ x, x ∈ l → wO (asgT t x (wipeD ds vs)) fun ds1 => ∀ hh : Hs, wR (te ds1 hh) x0 fun y h3 => h3 = hh ∧ y = .bl (g x)) ∧ Q (.bl (l.all g)) h1) : wR (mB (on1 all1) (mCons (mLc ms vs t mYes te) mNil) ds h) E Q := by
  refine w_b (w_cons (w_map l (fun x => .bl (g x)) (wR_mono w fun s h1 ⟨e, hl, hx, q⟩ => ⟨e, hl, fun x m => ?_, w_nil ?_⟩)))
  · have := hx x m
    cases e2 : asgT t x (wipeD ds vs) with
    | none => rw [e2] at this; exact this
    | some ds1 => rw [e2] at this; exact fun hh => wR_mono (this hh) fun y h3 ⟨a, b⟩ => ⟨a, b, by rw [b]; rfl⟩
  · refine o_all (bs := l.map g) ?_ ?_
    · simp [rd, Function.comp_def]
    · rw [List.all_map]; exact q
theorem w_anyLc (l : List D) (g : D → Bool) (w : wR (ms ds h) E fun s h1 => s = .its l ∧ l.length < 16777216 ∧
    (∀ x, x ∈ l → wO (asgT t x (wipeD ds vs)) fun ds1 => ∀ hh : Hs, wR (te ds1 hh) x0 fun y h3 => h3 = hh ∧ y = .bl (g x)) ∧ Q (.bl (l.any g)) h1) : wR (mB (on1 any1) (mCons (mLc ms vs t mYes te) mNil) ds h) E Q := by
  refine w_b (w_cons (w_map l (fun x => .bl (g x)) (wR_mono w fun s h1 ⟨e, hl, hx, q⟩ => ⟨e, hl, fun x m => ?_, w_nil ?_⟩)))
  · have := hx x m
    cases e2 : asgT t x (wipeD ds vs) with
    | none => rw [e2] at this; exact this
    | some ds1 => rw [e2] at this; exact fun hh => wR_mono (this hh) fun y h3 ⟨a, b⟩ => ⟨a, b, by rw [b]; rfl⟩
  · refine o_any (bs := l.map g) ?_ ?_
    · simp [rd, Function.comp_def]
    · rw [List.any_map]; exact q
/-- tuple([f(x) for x in l]) -/
theorem w_tupLc (l : List D) (g : D → D) (w : wR (ms ds h) E fun s h1 => s = .its l ∧ l.length < 16777216 ∧
    (∀ x, x ∈ l → wO (asgT t x (wipeD ds vs)) fun ds1 => ∀ hh : Hs, wR (te ds1 hh) x0 fun y h3 => h3 = hh ∧ y = g x ∧ isLoc y = false) ∧ Q (.tup (l.map g)) h1) : wR (mB (on1 toTup1) (mCons (mLc ms vs t mYes te) mNil) ds h) E Q :=
  w_b (w_cons (w_map l g (wR_mono w fun s h1 ⟨e, hl, hx, q⟩ => ⟨e, hl, hx, w_nil (o_tupL rfl q)⟩)))
/-- .. over ints -/
theorem w_tupLcI (l : List Int) (g : Int → Int) (w : wR (ms ds h) E fun s h1 => s = .its (l.map .int) ∧ l.length < 16777216 ∧
    (∀ x, x ∈ l → wO (asgT t (.int x) (wipeD ds vs)) fun ds1 => ∀ hh : Hs, wR (te ds1 hh) x0 fun y h3 => h3 = hh ∧ y = .int (g x)) ∧ Q (.tup ((l.map g).map .int)) h1) : wR (mB (on1 toTup1) (mCons (mLc ms vs t mYes te) mNil) ds h) E Q := by
  refine w_tupLc (l.map .int) (fun d => match d with | .int i => .int (g i) | _ => .non) (wR_mono w fun s h1 ⟨e, hl, hx, q⟩ => ⟨e, by simpa using hl, ?_, by simpa [Function.comp_def] using q⟩)
  intro x m
  obtain ⟨i, hi, rfl⟩ := List.mem_map.mp m
  have := hx i hi
  cases e2 : asgT t (.int i) (wipeD ds vs) with
  | none => rw [e2] at this; exact this
  | some ds1 => rw [e2] at this; exact fun hh => wR_mono (this hh) fun y h3 ⟨a, b⟩ => ⟨a, b, by rw [b]; rfl⟩
theorem v_for {N B C : Ev → Hs → Prop} {T : D → Hs → Prop} {X : Str → Option D → Ev → Hs → Prop} {body : SM} (l : List D) (I : Nat → Ev → Hs → Prop) (w : wR (ms ds h) (fun c p h => X c p ds h) fun s h1 => s = .its l ∧ I 0 ds h1 ∧
    (∀ i x ds hh, l[i]? = some x → I i ds hh → wO (asgT t x ds) fun ds1 => wS (body ds1 hh) ⟨fun ds2 h2 => I (i + 1) (gcE h1.length ds2) (h2.take h1.length), T, N, fun ds2 h2 => I (i + 1) (gcE h1.length ds2) (h2.take h1.length), X⟩) ∧
    ∀ ds' h', I l.length ds' h' → N ds' h') : wS (sFor ms t body ds h) ⟨N, T, B, C, X⟩ := w_for l I w
theorem v_while {N B C : Ev → Hs → Prop} {T : D → Hs → Prop} {X : Str → Option D → Ev → Hs → Prop} {c : M Bool} {body : SM} {fuel : Nat} (I : Nat → Ev → Hs → Prop) (k0 : Nat) (hk : k0 < fuel) (w0 : I k0 ds h)
    (step : ∀ k ds hh, I k ds hh → wR (c ds hh) (fun c p h => X c p ds h) fun b h1 => (b = true → wS (body ds h1) ⟨fun ds2 h2 => ∃ k', k' < k ∧ I k' (gcE h.length ds2) (h2.take h.length), T, N, fun ds2 h2 => ∃ k', k' < k ∧ I k' (gcE h.length ds2) (h2.take h.length), X⟩) ∧ (b = false → N ds h1)) :
    wS (sWhile fuel c body ds h) ⟨N, T, B, C, X⟩ := w_while I k0 hk w0 step
end
end DL

set_option Elab.async false
set_option linter.all false
set_option maxRecDepth 100000
set_option maxHeartbeats 4000000
namespace DL
open PySem PySem.Spec PyProof.Rows L2

/-! ### a tuple once, or not at all -/
theorem tup_mul1 (l : Addr) (items : Array Value) (n : Nat) (dd : Option Addr) (sl : Array (Option Value)) (u : Tok) :
    Meets (Builtin.«tuple.__mul__» ⟨[.ref l, .int 1 u], []⟩) (fun _ R s => s.heap.get? l = some { cls := .type "tuple", dict := dd, data := .seq items n, slots := sl } ∧ R (.ok (.ret (Value.ref l))) s) :=
  .of_wp fun prog w A R s h => by
    obtain ⟨hp, g, d, tk, os⟩ := s
    obtain ⟨hl, h⟩ := h
    have f1 := AutoSeq1.idx_int
    wp_walk using wpAny_loadPart' hl
    repeat (first
      | exact ⟨_, rfl, h⟩
      | (refine wpAny_ite_false (by decide) ?_; wp_walk using wpAny_loadPart' hl)
      | (refine wpAny_ite_true (by simp) ?_; wp_walk using wpAny_loadPart' hl))
theorem tup_mul0 (l : Addr) (items : Array Value) (n : Nat) (dd : Option Addr) (sl : Array (Option Value)) (x : Int) (u : Tok) (h0 : x ≤ 0) (h1 : -1000 ≤ x) (hi : items.isEmpty = false) :
    Meets (Builtin.«tuple.__mul__» ⟨[.ref l, .int x u], []⟩) (fun _ R s => s.heap.get? l = some { cls := .type "tuple", dict := dd, data := .seq items n, slots := sl } ∧
      R (.ok (.ret (Value.ref s.heap.objs.size))) { s with heap := s.heap.push { cls := Value.type "tuple", data := Data.seq #[] }, toks := s.toks }) :=
  .of_wp fun prog w A R s h => by
    obtain ⟨hp, g, d, tk, os⟩ := s
    obtain ⟨hl, h⟩ := h
    have f1 := AutoSeq1.idx_int
    have c0 : (decide (x < -(2 ^ 63)) || decide (x ≥ 2 ^ 63)) = false := by
      rw [decide_eq_false (by omega), decide_eq_false (by omega)] <;> rfl
    have c1 : (items.isEmpty || x == 1) = false := by
      rw [hi, Bool.false_or]
      exact beq_eq_false_iff_ne.mpr (by omega)
    have c2 : (decide (x ≤ 0) || items.isEmpty) = true := by
      rw [decide_eq_true h0] <;> rfl
    wp_walk using wpAny_loadPart' hl
    repeat (first
      | exact ⟨_, rfl, h⟩
      | (refine wpAny_ite_false (decide_eq_false (by rw [c0]; exact Bool.false_ne_true)) ?_; wp_walk using wpAny_loadPart' hl)
      | (refine wpAny_ite_false (decide_eq_false (by rw [c1]; exact Bool.false_ne_true)) ?_; wp_walk using wpAny_loadPart' hl)
      | (refine wpAny_ite_true (decide_eq_true c2) ?_; wp_walk using wpAny_loadPart' hl))
def rRep1 (K : PySem.W.Frag) : R2 := fun x y H Q => ∃ (a : Addr) (n : Int) (us : List V), x = .ref a ∧ y = .int n ∧ SqT K H a us ∧ us ≠ [] ∧ ((n = 1 ∧ Q (.ref a) H) ∨ (n ≤ 0 ∧ -1000 ≤ n ∧ ∀ b, H b = none → Q (.ref b) (upd H b (.tup []))))
section
variable {X : Cx}
theorem op_rep1 : OpR X (binaryOp .Mult) (rRep1 X.K) := by
  rintro pins s σ H x y v u Q I rx ry ⟨a, n, us, rfl, rfl, hT, ne, q⟩
  cases rx
  obtain ⟨tk, rfl⟩ := ry
  obtain ⟨its, rv, ⟨ob, ho, hc, cap, hd⟩, _⟩ := I.tuple hT
  obtain ⟨cls, dct, dat, slt⟩ := ob
  cases (show cls = _ from hc)
  cases (show dat = _ from hd)
  have len : us.length = its.length := rv.length
  have pos : 0 < us.length := List.length_pos_iff.mpr ne
  have some_ : its.toArray.isEmpty = false := by
    cases its with
    | nil => rw [List.length_nil] at len; omega
    | cons _ _ => rfl
  refine wpAny_binaryOp_repeat_ref (T := "tuple") (U := "int") (by decide) ⟨_, ho, rfl⟩ (fun s' => typeIs_int s' n tk) noFill_tuple_mul F.fills_int_mul F.slot_int_rmul repeat_tuple F.slot_int_index.lookup ?_
  refine call_meets F.slot_int_rmul (typeIs_int s n tk) F.entry_int_rmul (F.args_int_rmul_2 _ _) (int_rmul_tuple n tk a its.toArray cap dct slt) ⟨ho, rfl, ⟨_, ho, rfl⟩, ?_⟩
  rcases q with ⟨rfl, q⟩ | ⟨n0, n1, q⟩
  · exact call_meets F.slot_tuple_mul ⟨_, ho, rfl⟩ F.entry_tuple_mul (F.args_tuple_mul_2 _ _) (tup_mul1 a its.toArray cap dct slt tk) ⟨ho, .ref a, H, I, rfl, q⟩
  · refine call_meets F.slot_tuple_mul ⟨_, ho, rfl⟩ F.entry_tuple_mul (F.args_tuple_mul_2 _ _) (tup_mul0 a its.toArray cap dct slt n tk n0 n1 some_) ⟨ho, ?_⟩
    refine ⟨.ref s.heap.objs.size, upd H s.heap.objs.size (.tup []), I.laid (t' := s.toks) (fun _ _ e => Heap.get?_push_of_some _ e) (Nat.le_refl _) ?_, rfl, q _ (I.hok.fresh (Nat.le_refl _))⟩
    exact ⟨Nat.zero_le _, [], .nil, IsTup.new _ _⟩
end
def mulD4 (x y : D) : Option D := match mulD x y with
  | some z => some z
  | none => match x, y with
    | .tup l, .int k => if l.isEmpty = false ∧ k ≤ 1 ∧ -1000 ≤ k then some (.tup (List.replicate k.toNat l).flatten) else none
    | _, _ => none
section
variable {X : Cx} {W : WX} {pos : Pos} {a b : Expr} {ma mb : M D}
theorem mul4_s : OpS X.K mulD4 fun x y H Q => rMulAll X.K x y H Q ∨ rRep1 X.K x y H Q := by
  intro as H x y z v u Q n e r1 r2 k
  unfold mulD4 at e
  cases e1 : mulD x y with
  | some z' =>
    rw [e1] at e
    cases e
    exact .inl (mul_s (X := X) as H x y z v u Q n e1 r1 r2 k)
  | none =>
    rw [e1] at e
    cases x with
    | tup l => cases y with
      | int j =>
        by_cases hc : l.isEmpty = false ∧ j ≤ 1 ∧ -1000 ≤ j
        · simp only [if_pos hc] at e
          cases e; cases r2.int
          obtain ⟨p, vs, rfl, rr, hp⟩ := r1.tup
          refine .inr ⟨p, j, vs, rfl, rfl, hp, fun z => ?_, ?_⟩
          · subst z; cases rr; simp at hc
          · by_cases h1 : j = 1
            · subst h1
              refine .inl ⟨rfl, ?_⟩
              have el : (List.replicate (1 : Int).toNat l).flatten = l := by simp
              rw [el] at k
              exact k _ H (Same.refl H) (.tup hp rr)
            · refine .inr ⟨by omega, by omega, fun q hq => ?_⟩
              have sm := same_upd (o := .tup []) hq
              have el : (List.replicate j.toNat l).flatten = [] := by rw [show j.toNat = 0 by omega]; rfl
              rw [el] at k
              exact k _ _ sm (.tup (SqT.of upd_same) .nil)
        · simp only [if_neg hc] at e
          cases e
      | _ => cases e
    | _ => cases e
theorem de_mul4 (ha : DE X W a ma) (hb : DE X W b mb) : DE X W (.BinOp a .Mult b pos) (mBin mulD4 ma mb) := de_bin (op_mulAll.or op_rep1) mul4_s ha hb
end
/-- one thing, so many times: for every small number -/
theorem mul4_one {d : D} {k : Int} (h0 : 0 ≤ k) (h1 : k ≤ 1000) : mulD4 (.tup [d]) (.int k) = some (.tup (List.replicate k.toNat d)) := by
  have e : (List.replicate k.toNat [d]).flatten = List.replicate k.toNat d := by
    generalize k.toNat = n
    induction n with
    | zero => rfl
    | succ n ih => rw [List.replicate_succ, List.flatten_cons, ih, List.replicate_succ]; rfl
  unfold mulD4
  by_cases h2 : 2 ≤ k
  · rw [mulD, if_pos ⟨rfl, h2, h1, by simp⟩, e]
  · rw [mulD, if_neg (by omega)]
    dsimp only
    rw [if_pos ⟨rfl, by omega, by omega⟩, e]
end DL

set_option Elab.async false
set_option linter.all false
set_option maxRecDepth 100000
set_option maxHeartbeats 1000000
namespace W
open PySem PySem.Spec PyProof.Rows L2 DL
def top (i : Nat) : Stmt := PySem.Challenge.pw_pauseplay_k03_whole_points_behind_pauses.main.body.getD i (.Pass ⟨0, 0, 0, 0⟩)
abbrev s_is_whole : Stmt := top 8
def d_is_whole : He.DefD := ⟨("is_whole", none), "is_whole", "is_whole", defArgs s_is_whole, defBody s_is_whole, defScope s_is_whole, [], []⟩
abbrev s_is_integer : Stmt := top 9
def d_is_integer : He.DefD := ⟨("is_integer", none), "is_integer", "is_integer", defArgs s_is_integer, defBody s_is_integer, defScope s_is_integer, [], []⟩
abbrev s_is_within : Stmt := top 10
def d_is_within : He.DefD := ⟨("is_within", none), "is_within", "is_within", defArgs s_is_within, defBody s_is_within, defScope s_is_within, [], []⟩
abbrev s_is_ascending : Stmt := top 11
def d_is_ascending : He.DefD := ⟨("is_ascending", none), "is_ascending", "is_ascending", defArgs s_is_ascending, defBody s_is_ascending, defScope s_is_ascending, [], []⟩
abbrev s_are_indices : Stmt := top 12
def d_are_indices : He.DefD := ⟨("are_indices", none), "are_indices", "are_indices", defArgs s_are_indices, defBody s_are_indices, defScope s_are_indices, [], []⟩
abbrev s_require_within : Stmt := top 13
def d_require_within : He.DefD := ⟨("require_within", none), "require_within", "require_within", defArgs s_require_within, defBody s_require_within, defScope s_require_within, [], []⟩
abbrev s_is_fraction_in : Stmt := top 17
def d_is_fraction_in : He.DefD := ⟨("is_fraction_in", none), "is_fraction_in", "is_fraction_in", defArgs s_is_fraction_in, defBody s_is_fraction_in, defScope s_is_fraction_in, [], []⟩
abbrev s_is_pause_in : Stmt := top 18
def d_is_pause_in : He.DefD := ⟨("is_pause_in", none), "is_pause_in", "is_pause_in", defArgs s_is_pause_in, defBody s_is_pause_in, defScope s_is_pause_in, [], []⟩
abbrev s_lowest_in : Stmt := top 19
def d_lowest_in : He.DefD := ⟨("lowest_in", none), "lowest_in", "lowest_in", defArgs s_lowest_in, defBody s_lowest_in, defScope s_lowest_in, [], []⟩
abbrev s_is_point_in : Stmt := top 20
def d_is_point_in : He.DefD := ⟨("is_point_in", none), "is_point_in", "is_point_in", defArgs s_is_point_in, defBody s_is_point_in, defScope s_is_point_in, [], []⟩
abbrev s_clocks_in : Stmt := top 21
def d_clocks_in : He.DefD := ⟨("clocks_in", none), "clocks_in", "clocks_in", defArgs s_clocks_in, defBody s_clocks_in, defScope s_clocks_in, [], []⟩
abbrev s_lowest_point_in : Stmt := top 22
def d_lowest_point_in : He.DefD := ⟨("lowest_point_in", none), "lowest_point_in", "lowest_point_in", defArgs s_lowest_point_in, defBody s_lowest_point_in, defScope s_lowest_point_in, [], []⟩
abbrev s_same_in : Stmt := top 23
def d_same_in : He.DefD := ⟨("same_in", none), "same_in", "same_in", defArgs s_same_in, defBody s_same_in, defScope s_same_in, [], []⟩
abbrev s_later_in : Stmt := top 24
def d_later_in : He.DefD := ⟨("later_in", none), "later_in", "later_in", defArgs s_later_in, defBody s_later_in, defScope s_later_in, [], []⟩
abbrev s_back_in : Stmt := top 25
def d_back_in : He.DefD := ⟨("back_in", none), "back_in", "back_in", defArgs s_back_in, defBody s_back_in, defScope s_back_in, [], []⟩
abbrev s_shown_in : Stmt := top 26
def d_shown_in : He.DefD := ⟨("shown_in", none), "shown_in", "shown_in", defArgs s_shown_in, defBody s_shown_in, defScope s_shown_in, [], []⟩
abbrev s_is_any_point : Stmt := top 27
def d_is_any_point : He.DefD := ⟨("is_any_point", none), "is_any_point", "is_any_point", defArgs s_is_any_point, defBody s_is_any_point, defScope s_is_any_point, [], []⟩
abbrev s_require_pause : Stmt := top 28
def d_require_pause : He.DefD := ⟨("require_pause", none), "require_pause", "require_pause", defArgs s_require_pause, defBody s_require_pause, defScope s_require_pause, [], []⟩
abbrev s_require_point : Stmt := top 29
def d_require_point : He.DefD := ⟨("require_point", none), "require_point", "require_point", defArgs s_require_point, defBody s_require_point, defScope s_require_point, [], []⟩
abbrev s_is_point : Stmt := top 30
def d_is_point : He.DefD := ⟨("is_point", none), "is_point", "is_point", defArgs s_is_point, defBody s_is_point, defScope s_is_point, [], []⟩
abbrev s_are_same : Stmt := top 31
def d_are_same : He.DefD := ⟨("are_same", none), "are_same", "are_same", defArgs s_are_same, defBody s_are_same, defScope s_are_same, [], []⟩
abbrev s_later : Stmt := top 32
def d_later : He.DefD := ⟨("later", none), "later", "later", defArgs s_later, defBody s_later, defScope s_later, [], []⟩
abbrev s_set_back : Stmt := top 33
def d_set_back : He.DefD := ⟨("set_back", none), "set_back", "set_back", defArgs s_set_back, defBody s_set_back, defScope s_set_back, [], []⟩
abbrev s_require_clocks : Stmt := top 34
def d_require_clocks : He.DefD := ⟨("require_clocks", none), "require_clocks", "require_clocks", defArgs s_require_clocks, defBody s_require_clocks, defScope s_require_clocks, [], []⟩
abbrev s_shown : Stmt := top 35
def d_shown : He.DefD := ⟨("shown", none), "shown", "shown", defArgs s_shown, defBody s_shown, defScope s_shown, [], []⟩
abbrev s__law_spins : Stmt := top 37
def d__law_spins : He.DefD := ⟨("_law_spins", none), "_law_spins", "_law_spins", defArgs s__law_spins, defBody s__law_spins, defScope s__law_spins, [], []⟩
abbrev s__law_spin : Stmt := top 38
def d__law_spin : He.DefD := ⟨("_law_spin", none), "_law_spin", "_law_spin", defArgs s__law_spin, defBody s__law_spin, defScope s__law_spin, [], []⟩
abbrev s__law_among : Stmt := top 39
def d__law_among : He.DefD := ⟨("_law_among", none), "_law_among", "_law_among", defArgs s__law_among, defBody s__law_among, defScope s__law_among, [], []⟩
abbrev s__law_shown : Stmt := top 40
def d__law_shown : He.DefD := ⟨("_law_shown", none), "_law_shown", "_law_shown", defArgs s__law_shown, defBody s__law_shown, defScope s__law_shown, [], []⟩
abbrev s__law_later : Stmt := top 41
def d__law_later : He.DefD := ⟨("_law_later", none), "_law_later", "_law_later", defArgs s__law_later, defBody s__law_later, defScope s__law_later, [], []⟩
abbrev s__law_set_back : Stmt := top 42
def d__law_set_back : He.DefD := ⟨("_law_set_back", none), "_law_set_back", "_law_set_back", defArgs s__law_set_back, defBody s__law_set_back, defScope s__law_set_back, [], []⟩
abbrev s__law_point_drawn : Stmt := top 43
def d__law_point_drawn : He.DefD := ⟨("_law_point_drawn", none), "_law_point_drawn", "_law_point_drawn", defArgs s__law_point_drawn, defBody s__law_point_drawn, defScope s__law_point_drawn, [], []⟩
abbrev s__law_pause_drawn : Stmt := top 44
def d__law_pause_drawn : He.DefD := ⟨("_law_pause_drawn", none), "_law_pause_drawn", "_law_pause_drawn", defArgs s__law_pause_drawn, defBody s__law_pause_drawn, defScope s__law_pause_drawn, [], []⟩
abbrev s__law_shared : Stmt := top 45
def d__law_shared : He.DefD := ⟨("_law_shared", none), "_law_shared", "_law_shared", defArgs s__law_shared, defBody s__law_shared, defScope s__law_shared, [], []⟩
abbrev s__law_plain : Stmt := top 46
def d__law_plain : He.DefD := ⟨("_law_plain", none), "_law_plain", "_law_plain", defArgs s__law_plain, defBody s__law_plain, defScope s__law_plain, [], []⟩
abbrev s__law_is_point : Stmt := top 47
def d__law_is_point : He.DefD := ⟨("_law_is_point", none), "_law_is_point", "_law_is_point", defArgs s__law_is_point, defBody s__law_is_point, defScope s__law_is_point, [], []⟩
abbrev s__law_some_point : Stmt := top 48
def d__law_some_point : He.DefD := ⟨("_law_some_point", none), "_law_some_point", "_law_some_point", defArgs s__law_some_point, defBody s__law_some_point, defScope s__law_some_point, [], []⟩
abbrev s__law_right : Stmt := top 49
def d__law_right : He.DefD := ⟨("_law_right", none), "_law_right", "_law_right", defArgs s__law_right, defBody s__law_right, defScope s__law_right, [], []⟩
abbrev s_law : Stmt := top 50
def d_law : He.DefD := ⟨("law", none), "law", "law", defArgs s_law, defBody s_law, defScope s_law, [], []⟩
def fn : List He.DefD := ([d_is_whole, d_is_integer, d_is_within, d_is_ascending, d_are_indices, d_require_within, d_is_fraction_in, d_is_pause_in, d_lowest_in, d_is_point_in, d_clocks_in, d_lowest_point_in, d_same_in, d_later_in, d_back_in, d_shown_in, d_is_any_point, d_require_pause, d_require_point, d_is_point, d_are_same, d_later, d_set_back, d_require_clocks, d_shown, d__law_spins, d__law_spin, d__law_among, d__law_shown, d__law_later] : List He.DefD) ++ ([d__law_set_back, d__law_point_drawn, d__law_pause_drawn, d__law_shared, d__law_plain, d__law_is_point, d__law_some_point, d__law_right, d_law] : List He.DefD)
def fa : List He.Fa := ([.glo "is_whole", .glo "is_integer", .glo "is_within", .glo "is_ascending", .glo "are_indices", .glo "require_within", .glo "is_fraction_in", .glo "is_pause_in", .glo "lowest_in", .glo "is_point_in", .glo "clocks_in", .glo "lowest_point_in", .glo "same_in", .glo "later_in", .glo "back_in", .glo "shown_in", .glo "is_any_point", .glo "require_pause", .glo "require_point", .glo "is_point", .glo "are_same", .glo "later", .glo "set_back", .glo "require_clocks", .glo "shown", .glo "_law_spins", .glo "_law_spin", .glo "_law_among", .glo "_law_shown", .glo "_law_later"] : List He.Fa) ++ ([.glo "_law_set_back", .glo "_law_point_drawn", .glo "_law_pause_drawn", .glo "_law_shared", .glo "_law_plain", .glo "_law_is_point", .glo "_law_some_point", .glo "_law_right", .glo "law", .free "int", .free "isinstance", .free "bool", .free "zip", .free "all", .free "len", .free "tuple", .free "abs", .free "max", .free "enumerate", .int "SIXTY" 1000000000000000000000000000000000000000000000000000000000000, .int "PAIR" 2, .free "range", .int "MOST_CLOCKS" 4, .free "list", .free "repr", .free "min"] : List He.Fa)
def xf : List Xf := ([.blt "gcd" "math.gcd"] : List Xf)
structure Zx (K : PySem.W.Frag) (mg : Str → Option Value) (h : Heap) : Prop where
  X : K.In h
  G : h.Ns mainGlobals mg
  c : SaysL fa fn xf K
section
variable {P : Program} {w : World} {K : PySem.W.Frag} {mg : Str → Option Value} {h base : Heap}
def b_is_whole : SM := sRet (mAndV (mB (on2 isi2) (mCons (mVar 0) (mCons (mC (.ty "int")) (mNil)))) (mNotV (mB (on2 isi2) (mCons (mVar 0) (mCons (mC (.ty "bool")) (mNil))))))
def f_is_whole : List D → Hs → R D := mkF 1 0 finV b_is_whole
def b_is_ascending : SM := sRet (mB (on1 all1) (mCons (mLc (mSrcR zip2 (mCons (mVar 0) (mCons (mSl (mVar 0) (mPart (mC (.int 1))) (mNoPart)) (mNil)))) [1, 2] (.tp (.cons (.nm 1) (.cons (.nm 2) (.nil)))) (mYes) (mBin ltD (mVar 1) (mVar 2))) (mNil)))
def f_is_ascending : List D → Hs → R D := mkF 1 2 finV b_is_ascending
def b_lowest_in : SM := sSeq (sAsg (.tp (.cons (.nm 1) (.cons (.nm 2) (.nil)))) (mVar 0)) (sSeq (sAsg (.nm 3) (mB (on2 gcd2) (mCons (mVar 1) (mCons (mVar 2) (mNil))))) (sRet (mTup (mCons (mBin fdivD (mVar 1) (mVar 3)) (mCons (mBin fdivD (mVar 2) (mVar 3)) (mNil))))))
def f_lowest_in : List D → Hs → R D := mkF 1 3 finV b_lowest_in
def b_clocks_in : SM := sRet (mB (on1 len1) (mCons (mBin ixD (mVar 0) (mC (.int 1))) (mNil)))
def f_clocks_in : List D → Hs → R D := mkF 1 0 finV b_clocks_in
def b_lowest_point_in : SM := sSeq (sAsg (.nm 1) (mBin ixD (mVar 0) (mC (.int 0)))) (sSeq (sFor (mSeq (mBin ixD (mVar 0) (mC (.int 1)))) (.nm 2) (sAsg (.nm 1) (mB (on2 gcd2) (mCons (mVar 1) (mCons (mVar 2) (mNil)))))) (sRet (mTup (mCons (mBin fdivD (mBin ixD (mVar 0) (mC (.int 0))) (mVar 1)) (mCons (mB (on1 toTup1) (mCons (mLc (mSeq (mBin ixD (mVar 0) (mC (.int 1)))) [2] (.nm 2) (mYes) (mBin fdivD (mVar 2) (mVar 1))) (mNil))) (mNil))))))
def f_lowest_point_in : List D → Hs → R D := mkF 1 2 finV b_lowest_point_in
def b_shown_in : SM := sSeq (sAsg (.nm 3) (mTup (mCons (mC (.int 0)) (mStar (mBin ixD (mVar 0) (mC (.int 1))) (mNil))))) (sRet (mTup (mCons (mBin subD (mBin ixD (mVar 3) (mVar 1)) (mBin ixD (mVar 3) (mVar 2))) (mCons (mBin ixD (mVar 0) (mC (.int 0))) (mNil)))))
def f_shown_in : List D → Hs → R D := mkF 3 1 finV b_shown_in
def b__law_spins : SM := sSeq (sAsg (.nm 2) (mIf (mTB (mBin ltD (mVar 1) (mB (on1 len1) (mCons (mVar 0) (mNil))))) (mB (on1 toInt1) (mCons (mBin ixD (mVar 0) (mVar 1)) (mNil))) (mBin addD (mBin mulD (mC (.int 311)) (mVar 1)) (mC (.int 97))))) (sSeq (sAsg (.nm 3) (mBin modD (mB (on1 toInt1) (mCons (mB (on1 abs1) (mCons (mVar 2) (mNil))) (mNil))) (mBin powD (mBin powD (mC (.int 10)) (mC (.int 54))) (mC (.int 6))))) (sRet (mNew (mCons (mB (on2 max2) (mCons (mC (.int 0)) (mCons (mBin subD (mVar 3) (mBin powD (mC (.int 10)) (mC (.int 16)))) (mNil)))) (mCons (mBin addD (mBin addD (mBin addD (mBin mulD (mBin modD (mB (on1 toInt1) (mCons (mVar 3) (mNil))) (mC (.int 2305843009213693921))) (mC (.int 73))) (mBin mulD (mC (.int 967)) (mVar 1))) (mBin mulD (mC (.int 43)) (mB (on1 toInt1) (mCons (mBin ltD (mVar 2) (mC (.int 0))) (mNil))))) (mC (.int 23))) (mCons (mC (.int 0)) (mNil)))))))
def f__law_spins : List D → Hs → R D := mkF 2 2 finC b__law_spins
def b__law_spin : SM := sSeq (sIf (mTB (mBin gtD (mBin ixD (mVar 0) (mC (.int 0))) (mC (.int 0)))) (sSeq (sAsg (.nm 2) (mBin modD (mB (on1 toInt1) (mCons (mBin ixD (mVar 0) (mC (.int 0))) (mNil))) (mVar 1))) (sSeq (sPut (mVar 0) (mC (.int 0)) (mBin fdivD (mBin ixD (mVar 0) (mC (.int 0))) (mVar 1))) (sRet (mVar 2)))) (sPass)) (sSeq (sPut (mVar 0) (mC (.int 2)) (mBin addD (mBin ixD (mVar 0) (mC (.int 2))) (mC (.int 1)))) (sSeq (sAsg (.nm 3) (mBin modD (mB (on1 toInt1) (mCons (mBin addD (mBin ixD (mVar 0) (mC (.int 1))) (mBin mulD (mC (.int 32452867)) (mBin ixD (mVar 0) (mC (.int 2))))) (mNil))) (mC (.int 2305843009213693951)))) (sSeq (sAsg (.nm 4) (mBin addD (mBin mulD (mBin modD (mB (on1 toInt1) (mCons (mBin addD (mBin mulD (mVar 3) (mVar 3)) (mBin mulD (mC (.int 131)) (mBin ixD (mVar 0) (mC (.int 2))))) (mNil))) (mC (.int 2305843009213693907))) (mC (.int 49979687))) (mVar 3))) (sRet (mBin modD (mB (on1 toInt1) (mCons (mBin fdivD (mVar 4) (mC (.int 65579))) (mNil))) (mVar 1))))))
def f__law_spin : List D → Hs → R D := mkF 2 3 finV b__law_spin
def b__law_shown : SM := sRet (mIf (mTB (mBin gtD (mVar 1) (mC (.int 0)))) (mBin ixD (mBin ixD (mVar 0) (mC (.int 1))) (mBin subD (mVar 1) (mC (.int 1)))) (mC (.int 0)))
def f__law_shown : List D → Hs → R D := mkF 2 0 finV b__law_shown
def b__law_later : SM := sRet (mTup (mCons (mBin mulD (mBin ixD (mVar 0) (mC (.int 0))) (mVar 2)) (mCons (mB (on1 toTup1) (mCons (mLc (mSeq (mBin ixD (mVar 0) (mC (.int 1)))) [3] (.nm 3) (mYes) (mBin addD (mBin mulD (mVar 3) (mVar 2)) (mBin mulD (mVar 1) (mBin ixD (mVar 0) (mC (.int 0)))))) (mNil))) (mNil))))
def f__law_later : List D → Hs → R D := mkF 3 1 finV b__law_later
def b__law_set_back : SM := sRet (mTup (mCons (mBin ixD (mVar 0) (mC (.int 0))) (mCons (mB (on1 toTup1) (mCons (mLc (mSrcR enum1 (mCons (mBin ixD (mVar 0) (mC (.int 1))) (mNil))) [2, 3] (.tp (.cons (.nm 2) (.cons (.nm 3) (.nil)))) (mYes) (mIf (mTB (mBin inD (mBin addD (mVar 2) (mC (.int 1))) (mVar 1))) (mC (.int 0)) (mVar 3))) (mNil))) (mNil))))
def f__law_set_back : List D → Hs → R D := mkF 2 2 finV b__law_set_back
def b__law_shared : SM := sSeq (sAsg (.nm 1) (mBin ixD (mVar 0) (mC (.int 0)))) (sSeq (sFor (mSeq (mSl (mVar 0) (mPart (mC (.int 1))) (mNoPart))) (.nm 2) (sWhile 100000 (mTB (mBin gtD (mVar 2) (mC (.int 0)))) (sPar [1, 2] (mCons (mVar 2) (mCons (mBin modD (mVar 1) (mVar 2)) (mNil)))))) (sRet (mVar 1)))
def f__law_shared : List D → Hs → R D := mkF 1 2 finV b__law_shared
def b__law_is_point : SM := sSeq (sIf (mOrT (mNotT (mTru (mB (on2 isi2) (mCons (mVar 1) (mCons (mC (.ty "tuple")) (mNil)))))) (mOrT (mTB (mBin neD (mB (on1 len1) (mCons (mVar 1) (mNil))) (mC (.int 2)))) (mOrT (mNotT (mTru (mB (on2 isi2) (mCons (mBin ixD (mVar 1) (mC (.int 1))) (mCons (mC (.ty "tuple")) (mNil)))))) (mTB (mBin neD (mB (on1 len1) (mCons (mBin ixD (mVar 1) (mC (.int 1))) (mNil))) (mVar 0)))))) (sRet (mC (.bl false))) (sPass)) (sSeq (sFor (mSeq (mBin addD (mTup (mCons (mBin ixD (mVar 1) (mC (.int 0))) (mNil))) (mBin ixD (mVar 1) (mC (.int 1))))) (.nm 2) (sIf (mOrT (mTru (mB (on2 isi2) (mCons (mVar 2) (mCons (mC (.ty "bool")) (mNil))))) (mOrT (mNotT (mTru (mB (on2 isi2) (mCons (mVar 2) (mCons (mC (.ty "int")) (mNil)))))) (mNotT (mTB (mChain leD ltD (mC (.int 0)) (mVar 2) (mBin powD (mC (.int 10)) (mC (.int 60)))))))) (sRet (mC (.bl false))) (sPass))) (sRet (mBin geD (mBin ixD (mVar 1) (mC (.int 0))) (mC (.int 1)))))
def f__law_is_point : List D → Hs → R D := mkF 2 1 finV b__law_is_point
def b_is_integer : SM := sRet (mAndV (mCall 1 f_is_whole (mCons (mVar 0) (mNil))) (mChain ltD ltD (mUn negD (mC (.int 1000000000000000000000000000000000000000000000000000000000000))) (mVar 0) (mC (.int 1000000000000000000000000000000000000000000000000000000000000))))
def f_is_integer : List D → Hs → R D := mkF 1 0 finV b_is_integer
def b_is_within : SM := sRet (mAndV (mCall 1 f_is_whole (mCons (mVar 0) (mNil))) (mChain leD leD (mVar 1) (mVar 0) (mVar 2)))
def f_is_within : List D → Hs → R D := mkF 3 0 finV b_is_within
def b_same_in : SM := sRet (mBin eqD (mCall 1 f_lowest_point_in (mCons (mVar 0) (mNil))) (mCall 1 f_lowest_point_in (mCons (mVar 1) (mNil))))
def f_same_in : List D → Hs → R D := mkF 2 0 finV b_same_in
def b_later_in : SM := sSeq (sAsg (.tp (.cons (.nm 2) (.cons (.nm 3) (.nil)))) (mTup (mCons (mBin mulD (mBin ixD (mVar 0) (mC (.int 0))) (mBin ixD (mVar 1) (mC (.int 1)))) (mCons (mBin mulD (mBin ixD (mVar 0) (mC (.int 0))) (mBin ixD (mVar 1) (mC (.int 0)))) (mNil))))) (sRet (mCall 1 f_lowest_point_in (mCons (mTup (mCons (mVar 2) (mCons (mB (on1 toTup1) (mCons (mLc (mSeq (mBin ixD (mVar 0) (mC (.int 1)))) [4] (.nm 4) (mYes) (mBin addD (mBin mulD (mVar 4) (mBin ixD (mVar 1) (mC (.int 1)))) (mVar 3))) (mNil))) (mNil)))) (mNil))))
def f_later_in : List D → Hs → R D := mkF 2 3 finV b_later_in
def b_back_in : SM := sSeq (sAsg (.nm 2) (mB (on1 toTup1) (mCons (mLc (mSrcR enum1 (mCons (mBin ixD (mVar 0) (mC (.int 1))) (mNil))) [3, 4] (.tp (.cons (.nm 3) (.cons (.nm 4) (.nil)))) (mYes) (mIf (mTB (mBin inD (mBin addD (mVar 3) (mC (.int 1))) (mVar 1))) (mC (.int 0)) (mVar 4))) (mNil)))) (sRet (mCall 1 f_lowest_point_in (mCons (mTup (mCons (mBin ixD (mVar 0) (mC (.int 0))) (mCons (mVar 2) (mNil)))) (mNil))))
def f_back_in : List D → Hs → R D := mkF 2 3 finV b_back_in
def b__law_among : SM := sRet (mBin ixD (mVar 1) (mCall 2 f__law_spin (mCons (mVar 0) (mCons (mB (on1 len1) (mCons (mVar 1) (mNil))) (mNil)))))
def f__law_among : List D → Hs → R D := mkF 2 0 finV b__law_among
def b__law_plain : SM := sSeq (sAsg (.nm 1) (mCall 1 f__law_shared (mCons (mBin addD (mTup (mCons (mBin ixD (mVar 0) (mC (.int 0))) (mNil))) (mBin ixD (mVar 0) (mC (.int 1)))) (mNil)))) (sRet (mTup (mCons (mBin fdivD (mBin ixD (mVar 0) (mC (.int 0))) (mVar 1)) (mCons (mB (on1 toTup1) (mCons (mLc (mSeq (mBin ixD (mVar 0) (mC (.int 1)))) [2] (.nm 2) (mYes) (mBin fdivD (mVar 2) (mVar 1))) (mNil))) (mNil)))))
def f__law_plain : List D → Hs → R D := mkF 1 2 finV b__law_plain
def b_are_indices : SM := sSeq (sIf (mOrT (mNotT (mTru (mB (on2 isi2) (mCons (mVar 0) (mCons (mC (.ty "tuple")) (mNil)))))) (mNotT (mTru (mB (on1 all1) (mCons (mLc (mSeq (mVar 0)) [2] (.nm 2) (mYes) (mCall 3 f_is_within (mCons (mVar 2) (mCons (mC (.int 0)) (mCons (mBin subD (mVar 1) (mC (.int 1))) (mNil)))))) (mNil)))))) (sRet (mC (.bl false))) (sPass)) (sRet (mCall 1 f_is_ascending (mCons (mVar 0) (mNil))))
def f_are_indices : List D → Hs → R D := mkF 2 1 finV b_are_indices
def b_require_within : SM := sIf (mNotT (mTru (mCall 3 f_is_within (mCons (mVar 0) (mCons (mVar 1) (mCons (mVar 2) (mNil))))))) (sNo) (sPass)
def f_require_within : List D → Hs → R D := mkF 3 0 finV b_require_within
def b_is_fraction_in : SM := sSeq (sIf (mOrT (mNotT (mTru (mB (on2 isi2) (mCons (mVar 0) (mCons (mC (.ty "tuple")) (mNil)))))) (mOrT (mTB (mBin neD (mB (on1 len1) (mCons (mVar 0) (mNil))) (mC (.int 2)))) (mNotT (mTru (mB (on1 all1) (mCons (mLc (mSeq (mVar 0)) [1] (.nm 1) (mYes) (mCall 1 f_is_integer (mCons (mVar 1) (mNil)))) (mNil))))))) (sRet (mC (.bl false))) (sPass)) (sRet (mBin geD (mBin ixD (mVar 0) (mC (.int 1))) (mC (.int 1))))
def f_is_fraction_in : List D → Hs → R D := mkF 1 1 finV b_is_fraction_in
def b_is_point_in : SM := sSeq (sIf (mOrT (mNotT (mTru (mB (on2 isi2) (mCons (mVar 1) (mCons (mC (.ty "tuple")) (mNil)))))) (mOrT (mTB (mBin neD (mB (on1 len1) (mCons (mVar 1) (mNil))) (mC (.int 2)))) (mOrT (mNotT (mTru (mCall 1 f_is_integer (mCons (mBin ixD (mVar 1) (mC (.int 0))) (mNil))))) (mTB (mBin ltD (mBin ixD (mVar 1) (mC (.int 0))) (mC (.int 1))))))) (sRet (mC (.bl false))) (sPass)) (sSeq (sIf (mOrT (mNotT (mTru (mB (on2 isi2) (mCons (mBin ixD (mVar 1) (mC (.int 1))) (mCons (mC (.ty "tuple")) (mNil)))))) (mTB (mBin neD (mB (on1 len1) (mCons (mBin ixD (mVar 1) (mC (.int 1))) (mNil))) (mVar 0)))) (sRet (mC (.bl false))) (sPass)) (sRet (mB (on1 all1) (mCons (mLc (mSeq (mBin ixD (mVar 1) (mC (.int 1)))) [2] (.nm 2) (mYes) (mAndV (mCall 1 f_is_integer (mCons (mVar 2) (mNil))) (mBin geD (mVar 2) (mC (.int 0))))) (mNil)))))
def f_is_point_in : List D → Hs → R D := mkF 2 1 finV b_is_point_in
def b__law_point_drawn : SM := sSeq (sAsg (.nm 3) (mCall 2 f__law_among (mCons (mVar 0) (mCons (mLst (mCons (mC (.int 1)) (mCons (mC (.int 1)) (mCons (mC (.int 2)) (mCons (mC (.int 2)) (mCons (mC (.int 3)) (mCons (mC (.int 4)) (mCons (mC (.int 6)) (mCons (mC (.int 12)) (mNil)))))))))) (mNil))))) (sSeq (sAsg (.nm 4) (mLcC (mSrcA rng1 (mCons (mVar 1) (mNil))) [5] (.nm 5) (mYes) (mCall 2 f__law_spin (mCons (mVar 0) (mCons (mBin addD (mBin mulD (mVar 2) (mVar 3)) (mC (.int 2))) (mNil)))))) (sSeq (sIf (mAndT (mTB (mBin gtD (mVar 1) (mC (.int 1)))) (mTB (mBin eqD (mCall 2 f__law_spin (mCons (mVar 0) (mCons (mC (.int 3)) (mNil)))) (mC (.int 0))))) (sPut (mVar 4) (mCall 2 f__law_spin (mCons (mVar 0) (mCons (mVar 1) (mNil)))) (mBin modD (mCall 2 f__law_among (mCons (mVar 0) (mCons (mVar 4) (mNil)))) (mVar 3))) (sPass)) (sRet (mTup (mCons (mVar 3) (mCons (mB (on1 toTup1) (mCons (mVar 4) (mNil))) (mNil)))))))
def f__law_point_drawn : List D → Hs → R D := mkF 3 3 finV b__law_point_drawn
def b__law_pause_drawn : SM := sSeq (sAsg (.nm 2) (mCall 2 f__law_among (mCons (mVar 0) (mCons (mLst (mCons (mC (.int 1)) (mCons (mC (.int 1)) (mCons (mC (.int 2)) (mCons (mC (.int 3)) (mCons (mC (.int 4)) (mNil))))))) (mNil))))) (sRet (mTup (mCons (mCall 2 f__law_among (mCons (mVar 0) (mCons (mLst (mCons (mC (.int 0)) (mCons (mCall 2 f__law_spin (mCons (mVar 0) (mCons (mBin addD (mBin mulD (mVar 2) (mVar 1)) (mC (.int 1))) (mNil)))) (mCons (mCall 2 f__law_spin (mCons (mVar 0) (mCons (mBin mulD (mC (.int 2)) (mVar 2)) (mNil)))) (mNil))))) (mNil)))) (mCons (mVar 2) (mNil)))))
def f__law_pause_drawn : List D → Hs → R D := mkF 2 1 finV b__law_pause_drawn
def b_is_pause_in : SM := sRet (mAndV (mCall 1 f_is_fraction_in (mCons (mVar 0) (mNil))) (mBin geD (mBin ixD (mVar 0) (mC (.int 0))) (mC (.int 0))))
def f_is_pause_in : List D → Hs → R D := mkF 1 0 finV b_is_pause_in
def b_is_any_point : SM := sSeq (sIf (mOrT (mNotT (mTru (mB (on2 isi2) (mCons (mVar 0) (mCons (mC (.ty "tuple")) (mNil)))))) (mOrT (mTB (mBin neD (mB (on1 len1) (mCons (mVar 0) (mNil))) (mC (.int 2)))) (mNotT (mTru (mB (on2 isi2) (mCons (mBin ixD (mVar 0) (mC (.int 1))) (mCons (mC (.ty "tuple")) (mNil)))))))) (sRet (mC (.bl false))) (sPass)) (sRet (mAndV (mBin leD (mB (on1 len1) (mCons (mBin ixD (mVar 0) (mC (.int 1))) (mNil))) (mC (.int 4))) (mCall 2 f_is_point_in (mCons (mB (on1 len1) (mCons (mBin ixD (mVar 0) (mC (.int 1))) (mNil))) (mCons (mVar 0) (mNil))))))
def f_is_any_point : List D → Hs → R D := mkF 1 0 finV b_is_any_point
def b_is_point : SM := sSeq (sDrop (mCall 3 f_require_within (mCons (mVar 0) (mCons (mC (.int 0)) (mCons (mC (.int 4)) (mNil)))))) (sRet (mCall 2 f_is_point_in (mCons (mVar 0) (mCons (mVar 1) (mNil)))))
def f_is_point : List D → Hs → R D := mkF 2 0 finV b_is_point
def b_require_clocks : SM := sIf (mOrT (mNotT (mTru (mCall 2 f_are_indices (mCons (mVar 1) (mCons (mBin addD (mVar 0) (mC (.int 1))) (mNil)))))) (mTB (mBin inD (mC (.int 0)) (mVar 1)))) (sNo) (sPass)
def f_require_clocks : List D → Hs → R D := mkF 2 0 finV b_require_clocks
def b__law_some_point : SM := sSeq (sIf (mTB (mBin gtD (mCall 2 f__law_spin (mCons (mVar 0) (mCons (mC (.int 5)) (mNil)))) (mC (.int 0)))) (sRet (mCall 3 f__law_point_drawn (mCons (mVar 0) (mCons (mVar 1) (mCons (mC (.int 5)) (mNil)))))) (sPass)) (sSeq (sAsg (.nm 2) (mBin addD (mC (.int 1)) (mCall 2 f__law_spin (mCons (mVar 0) (mCons (mBin powD (mC (.int 10)) (mC (.int 20))) (mNil)))))) (sRet (mTup (mCons (mVar 2) (mCons (mB (on1 toTup1) (mCons (mLc (mSrcA rng1 (mCons (mVar 1) (mNil))) [3] (.nm 3) (mYes) (mCall 2 f__law_spin (mCons (mVar 0) (mCons (mBin powD (mC (.int 10)) (mC (.int 22))) (mNil))))) (mNil))) (mNil))))))
def f__law_some_point : List D → Hs → R D := mkF 2 2 finV b__law_some_point
def b_require_pause : SM := sIf (mNotT (mTru (mCall 1 f_is_pause_in (mCons (mVar 0) (mNil))))) (sNo) (sPass)
def f_require_pause : List D → Hs → R D := mkF 1 0 finV b_require_pause
def b_require_point : SM := sIf (mNotT (mTru (mCall 1 f_is_any_point (mCons (mVar 0) (mNil))))) (sNo) (sPass)
def f_require_point : List D → Hs → R D := mkF 1 0 finV b_require_point
def b_are_same : SM := sSeq (sDrop (mCall 1 f_require_point (mCons (mVar 0) (mNil)))) (sSeq (sDrop (mCall 1 f_require_point (mCons (mVar 1) (mNil)))) (sSeq (sIf (mTB (mBin neD (mCall 1 f_clocks_in (mCons (mVar 0) (mNil))) (mCall 1 f_clocks_in (mCons (mVar 1) (mNil))))) (sNo) (sPass)) (sRet (mCall 2 f_same_in (mCons (mVar 0) (mCons (mVar 1) (mNil)))))))
def f_are_same : List D → Hs → R D := mkF 2 0 finV b_are_same
def b_later : SM := sSeq (sDrop (mCall 1 f_require_point (mCons (mVar 0) (mNil)))) (sSeq (sDrop (mCall 1 f_require_pause (mCons (mVar 1) (mNil)))) (sRet (mCall 2 f_later_in (mCons (mVar 0) (mCons (mVar 1) (mNil))))))
def f_later : List D → Hs → R D := mkF 2 0 finV b_later
def b_set_back : SM := sSeq (sDrop (mCall 1 f_require_point (mCons (mVar 0) (mNil)))) (sSeq (sDrop (mCall 2 f_require_clocks (mCons (mCall 1 f_clocks_in (mCons (mVar 0) (mNil))) (mCons (mVar 1) (mNil))))) (sRet (mCall 2 f_back_in (mCons (mVar 0) (mCons (mVar 1) (mNil))))))
def f_set_back : List D → Hs → R D := mkF 2 0 finV b_set_back
def b_shown : SM := sSeq (sDrop (mCall 1 f_require_point (mCons (mVar 0) (mNil)))) (sSeq (sDrop (mCall 3 f_require_within (mCons (mVar 1) (mCons (mC (.int 0)) (mCons (mCall 1 f_clocks_in (mCons (mVar 0) (mNil))) (mNil)))))) (sSeq (sDrop (mCall 3 f_require_within (mCons (mVar 2) (mCons (mC (.int 0)) (mCons (mCall 1 f_clocks_in (mCons (mVar 0) (mNil))) (mNil)))))) (sRet (mCall 1 f_lowest_in (mCons (mCall 3 f_shown_in (mCons (mVar 0) (mCons (mVar 1) (mCons (mVar 2) (mNil))))) (mNil))))))
def f_shown : List D → Hs → R D := mkF 3 0 finV b_shown
def b__law_right : SM := sSeq (sAsg (.nm 1) (mCall 2 f__law_spin (mCons (mVar 0) (mCons (mC (.int 5)) (mNil))))) (sSeq (sPar [2, 3, 4] (mCons (mCall 2 f__law_some_point (mCons (mVar 0) (mCons (mVar 1) (mNil)))) (mCons (mCall 2 f__law_pause_drawn (mCons (mVar 0) (mCons (mC (.int 5)) (mNil)))) (mCons (mCall 2 f__law_pause_drawn (mCons (mVar 0) (mCons (mC (.int 5)) (mNil)))) (mNil))))) (sSeq (sAsg (.nm 5) (mCall 2 f_later (mCons (mVar 2) (mCons (mVar 3) (mNil))))) (sSeq (sIf (mTB (mBin neD (mVar 5) (mCall 1 f__law_plain (mCons (mCall 3 f__law_later (mCons (mVar 2) (mCons (mBin ixD (mVar 3) (mC (.int 0))) (mCons (mBin ixD (mVar 3) (mC (.int 1))) (mNil))))) (mNil))))) (sRet (mC (.bl false))) (sPass)) (sSeq (sAsg (.nm 6) (mTup (mCons (mBin addD (mBin mulD (mBin ixD (mVar 3) (mC (.int 0))) (mBin ixD (mVar 4) (mC (.int 1)))) (mBin mulD (mBin ixD (mVar 4) (mC (.int 0))) (mBin ixD (mVar 3) (mC (.int 1))))) (mCons (mBin mulD (mBin ixD (mVar 3) (mC (.int 1))) (mBin ixD (mVar 4) (mC (.int 1)))) (mNil))))) (sSeq (sIf (mOrT (mTB (mBin neD (mCall 2 f_later (mCons (mVar 5) (mCons (mVar 4) (mNil)))) (mCall 2 f_later (mCons (mVar 2) (mCons (mVar 6) (mNil)))))) (mTB (mBin neD (mCall 2 f_later (mCons (mVar 2) (mCons (mTup (mCons (mC (.int 0)) (mCons (mC (.int 7)) (mNil)))) (mNil)))) (mCall 1 f__law_plain (mCons (mVar 2) (mNil)))))) (sRet (mC (.bl false))) (sPass)) (sSeq (sAsg (.nm 7) (mB (on1 toTup1) (mCons (mLc (mSrcA rng2 (mCons (mC (.int 1)) (mCons (mBin addD (mVar 1) (mC (.int 1))) (mNil)))) [16] (.nm 16) (mTB (mBin eqD (mCall 2 f__law_spin (mCons (mVar 0) (mCons (mC (.int 2)) (mNil)))) (mC (.int 0)))) (mVar 16)) (mNil)))) (sSeq (sIf (mOrT (mTB (mBin neD (mCall 2 f_set_back (mCons (mVar 2) (mCons (mVar 7) (mNil)))) (mCall 1 f__law_plain (mCons (mCall 2 f__law_set_back (mCons (mVar 2) (mCons (mVar 7) (mNil)))) (mNil))))) (mTB (mBin neD (mCall 2 f_set_back (mCons (mCall 2 f_set_back (mCons (mVar 2) (mCons (mVar 7) (mNil)))) (mCons (mVar 7) (mNil)))) (mCall 2 f_set_back (mCons (mVar 2) (mCons (mVar 7) (mNil))))))) (sRet (mC (.bl false))) (sPass)) (sSeq (sFor (mSrcA rng1 (mCons (mBin addD (mVar 1) (mC (.int 1))) (mNil))) (.nm 8) (sFor (mSrcA rng1 (mCons (mBin addD (mVar 1) (mC (.int 1))) (mNil))) (.nm 9) (sSeq (sAsg (.nm 10) (mCall 3 f_shown (mCons (mVar 2) (mCons (mVar 8) (mCons (mVar 9) (mNil)))))) (sSeq (sAsg (.nm 11) (mBin subD (mCall 2 f__law_shown (mCons (mVar 2) (mCons (mVar 8) (mNil)))) (mCall 2 f__law_shown (mCons (mVar 2) (mCons (mVar 9) (mNil)))))) (sSeq (sAsg (.nm 12) (mCall 1 f__law_shared (mCons (mTup (mCons (mBin ixD (mVar 2) (mC (.int 0))) (mCons (mB (on1 abs1) (mCons (mVar 11) (mNil))) (mNil)))) (mNil)))) (sSeq (sIf (mTB (mBin neD (mVar 10) (mTup (mCons (mBin fdivD (mVar 11) (mVar 12)) (mCons (mBin fdivD (mBin ixD (mVar 2) (mC (.int 0))) (mVar 12)) (mNil)))))) (sRet (mC (.bl false))) (sPass)) (sIf (mAndT (mTB (mBin neD (mCall 3 f_shown (mCons (mVar 5) (mCons (mVar 8) (mCons (mVar 9) (mNil))))) (mVar 10))) (mTB (mBin gtD (mBin mulD (mVar 8) (mVar 9)) (mC (.int 0))))) (sRet (mC (.bl false))) (sPass)))))))) (sSeq (sAsg (.nm 13) (mTup (mCons (mBin mulD (mBin ixD (mVar 2) (mC (.int 0))) (mC (.int 3))) (mCons (mB (on1 toTup1) (mCons (mLc (mSeq (mBin ixD (mVar 2) (mC (.int 1)))) [17] (.nm 17) (mYes) (mBin mulD (mC (.int 3)) (mVar 17))) (mNil))) (mNil))))) (sSeq (sAsg (.nm 14) (mTup (mCons (mBin ixD (mVar 2) (mC (.int 0))) (mCons (mB (on1 toTup1) (mCons (mLc (mSeq (mBin ixD (mVar 2) (mC (.int 1)))) [17] (.nm 17) (mYes) (mBin addD (mVar 17) (mC (.int 1)))) (mNil))) (mNil))))) (sSeq (sIf (mOrT (mNotT (mTru (mCall 2 f_are_same (mCons (mVar 2) (mCons (mVar 13) (mNil)))))) (mTB (mBin neD (mCall 2 f_are_same (mCons (mVar 13) (mCons (mVar 14) (mNil)))) (mBin eqD (mVar 1) (mC (.int 0)))))) (sRet (mC (.bl false))) (sPass)) (sSeq (sAsg (.nm 15) (mLst (mCons (mVar 2) (mCons (mVar 13) (mCons (mVar 14) (mCons (mB (on1 toLst1) (mCons (mVar 2) (mNil))) (mCons (mSl (mVar 2) (mNoPart) (mPart (mC (.int 1)))) (mCons (mBin addD (mVar 2) (mTup (mCons (mC (.int 0)) (mNil)))) (mCons (mTup (mCons (mC (.int 0)) (mCons (mBin ixD (mVar 2) (mC (.int 1))) (mNil)))) (mCons (mTup (mCons (mBin ixD (mVar 2) (mC (.int 0))) (mCons (mB (on1 toLst1) (mCons (mBin ixD (mVar 2) (mC (.int 1))) (mNil))) (mNil)))) (mCons (mC .non) (mCons (mC (.int 3)) (mCons (mC (.str "point")) (mCons (mC (.dct [] [])) (mNil))))))))))))))) (sSeq (sAsg (.nm 15) (mBin addD (mVar 15) (mLst (mCons (mTup (mCons (mBin ixD (mVar 2) (mC (.int 0))) (mCons (mBin addD (mBin ixD (mVar 2) (mC (.int 1))) (mTup (mCons (mC (.int 0)) (mNil)))) (mNil)))) (mCons (mTup (mCons (mC (.bl true)) (mCons (mBin ixD (mVar 2) (mC (.int 1))) (mNil)))) (mCons (mTup (mCons (mBin ixD (mVar 2) (mC (.int 0))) (mCons (mSl (mBin ixD (mVar 2) (mC (.int 1))) (mPart (mC (.int 1))) (mNoPart)) (mNil)))) (mCons (mTup (mCons (mBin ixD (mVar 2) (mC (.int 0))) (mCons (mBin mulD4 (mTup (mCons (mBin subD (mC (.int 0)) (mC (.int 1))) (mNil))) (mVar 1)) (mNil)))) (mNil)))))))) (sSeq (sAsg (.nm 15) (mBin addD (mVar 15) (mLst (mCons (mTup (mCons (mBin powD (mC (.int 10)) (mC (.int 60))) (mCons (mBin ixD (mVar 2) (mC (.int 1))) (mNil)))) (mCons (mTup (mCons (mC (.int 1)) (mCons (mBin mulD4 (mTup (mCons (mC (.bl true)) (mNil))) (mVar 1)) (mNil)))) (mCons (mTup (mCons (mC (.int 1)) (mCons (mBin mulD4 (mTup (mCons (mC (.str "0")) (mNil))) (mVar 1)) (mNil)))) (mCons (mTup (mCons (mUn negD (mC (.int 1))) (mCons (mBin ixD (mVar 2) (mC (.int 1))) (mNil)))) (mNil)))))))) (sRet (mBin eqD (mLc (mSeq (mVar 15)) [17] (.nm 17) (mTB (mBin neD (mB (on1 repr1) (mCons (mCall 2 f_is_point (mCons (mVar 1) (mCons (mVar 17) (mNil)))) (mNil))) (mB (on1 repr1) (mCons (mCall 2 f__law_is_point (mCons (mVar 1) (mCons (mVar 17) (mNil)))) (mNil))))) (mVar 17)) (mLst (mNil))))))))))))))))))
def f__law_right : List D → Hs → R D := mkF 1 17 finV b__law_right
def b_law : SM := sSeq (sFor (mSrcA rng1 (mCons (mB (on2 max2) (mCons (mC (.int 1)) (mCons (mB (on2 min2) (mCons (mC (.int 3)) (mCons (mB (on1 len1) (mCons (mVar 0) (mNil))) (mNil)))) (mNil)))) (mNil))) (.nm 1) (sSeq (sAsg (.nm 2) (mCall 2 f__law_spins (mCons (mVar 0) (mCons (mVar 1) (mNil))))) (sFor (mSrcA rng1 (mCons (mC (.int 6)) (mNil))) (.nm 3) (sIf (mNotT (mTru (mCall 1 f__law_right (mCons (mVar 2) (mNil))))) (sRet (mC (.bl false))) (sPass))))) (sSeq (sAsg (.nm 4) (mLst (mCons (mCall 2 f_later (mCons (mTup (mCons (mC (.int 2)) (mCons (mTup (mCons (mC (.int 1)) (mCons (mC (.int 4)) (mNil)))) (mNil)))) (mCons (mTup (mCons (mC (.int 1)) (mCons (mC (.int 3)) (mNil)))) (mNil)))) (mCons (mCall 2 f_set_back (mCons (mTup (mCons (mC (.int 2)) (mCons (mTup (mCons (mC (.int 1)) (mCons (mC (.int 4)) (mNil)))) (mNil)))) (mCons (mTup (mCons (mC (.int 1)) (mNil))) (mNil)))) (mCons (mCall 2 f_set_back (mCons (mTup (mCons (mC (.int 2)) (mCons (mTup (mCons (mC (.int 1)) (mCons (mC (.int 4)) (mNil)))) (mNil)))) (mCons (mTup (mNil)) (mNil)))) (mCons (mCall 2 f_later (mCons (mTup (mCons (mC (.int 6)) (mCons (mTup (mNil)) (mNil)))) (mCons (mTup (mCons (mC (.int 1)) (mCons (mC (.int 4)) (mNil)))) (mNil)))) (mNil))))))) (sRet (mBin eqD (mVar 4) (mLst (mCons (mTup (mCons (mC (.int 6)) (mCons (mTup (mCons (mC (.int 5)) (mCons (mC (.int 14)) (mNil)))) (mNil)))) (mCons (mTup (mCons (mC (.int 1)) (mCons (mTup (mCons (mC (.int 0)) (mCons (mC (.int 2)) (mNil)))) (mNil)))) (mCons (mTup (mCons (mC (.int 2)) (mCons (mTup (mCons (mC (.int 1)) (mCons (mC (.int 4)) (mNil)))) (mNil)))) (mCons (mTup (mCons (mC (.int 1)) (mCons (mTup (mNil)) (mNil)))) (mNil)))))))))
def f_law : List D → Hs → R D := mkF 1 4 finV b_law
theorem sc_is_whole : FnScope ["value"] ["value"] (defScope s_is_whole) := ⟨rfl, rfl, rfl, by decide +kernel, rfl, by decide +kernel, by decide +kernel⟩
theorem ok_is_whole (Z : Zx K mg h) : FD P w K mg base 1 "is_whole" 1 f_is_whole := by
  obtain ⟨fd, F⟩ := Z.c.def_ 0 (d := d_is_whole) rfl
  have nd := sc_is_whole.nd
  exact fd_mk d_is_whole ["value"] ["value"] 0 1 0 rfl rfl F (He.glo_ok Z.X Z.G (Z.c.fact 0 rfl)) finV_ok sc_is_whole (FunD.bindsN F fun _ _ _ _ _ _ us hl => match us, hl with | [_], _ => rfl) fun cdv A outer s H E hr =>
    (dss_one (ds_ret (de_and (de_bi (b_isinstance (He.free_ok Z.X Z.G (Z.c.fact 40 rfl))) (da_cons (de_var 0) (da_cons (de_ty (He.free_ok Z.X Z.G (Z.c.fact 39 rfl)) (by decide +kernel)) (da_nil)))) (de_one (de_not (de_bi (b_isinstance (He.free_ok Z.X Z.G (Z.c.fact 40 rfl))) (da_cons (de_var 0) (da_cons (de_ty (He.free_ok Z.X Z.G (Z.c.fact 41 rfl)) (by decide +kernel)) (da_nil)))))))))
theorem sc_is_ascending : FnScope ["value", "one", "other"] ["value"] (defScope s_is_ascending) := ⟨rfl, rfl, rfl, by decide +kernel, rfl, by decide +kernel, by decide +kernel⟩
theorem ok_is_ascending (Z : Zx K mg h) : FD P w K mg base 1 "is_ascending" 1 f_is_ascending := by
  obtain ⟨fd, F⟩ := Z.c.def_ 3 (d := d_is_ascending) rfl
  have nd := sc_is_ascending.nd
  exact fd_mk d_is_ascending ["value", "one", "other"] ["value"] 0 1 2 rfl rfl F (He.glo_ok Z.X Z.G (Z.c.fact 3 rfl)) finV_ok sc_is_ascending (FunD.bindsN F fun _ _ _ _ _ _ us hl => match us, hl with | [_], _ => rfl) fun cdv A outer s H E hr =>
    (dss_one (ds_ret (de_bi (b_all (He.free_ok Z.X Z.G (Z.c.fact 43 rfl))) (da_cons (de_lc (own := [("one", 1), ("other", 2)]) nd (di_zip (da_cons (de_var 0) (da_cons (de_sl (de_var 0) (do_some (de_int)) (do_none)) (da_nil))) (He.free_ok Z.X Z.G (Z.c.fact 42 rfl))) (blkOk_by (N := ["value", "one", "other"]) (sc := defScope s_is_ascending) (by decide +kernel)) (fun _ _ _ _ _ => dg_tp (dgs_cons (dg_nm nd rfl (by first | exact Or.inl rfl | exact Or.inr rfl)) (dgs_cons (dg_nm nd rfl (by first | exact Or.inl rfl | exact Or.inr rfl)) (dgs_nil)))) (fun _ _ _ _ _ => dts_nil) (fun _ _ _ _ _ => de_cm (ck_lt hr) (de_var 1) (de_var 2))) (da_nil)))))
theorem sc_lowest_in : FnScope ["fraction", "top", "bottom", "shared"] ["fraction"] (defScope s_lowest_in) := ⟨rfl, rfl, rfl, by decide +kernel, rfl, by decide +kernel, by decide +kernel⟩
theorem ok_lowest_in (Z : Zx K mg h) : FD P w K mg base 1 "lowest_in" 1 f_lowest_in := by
  obtain ⟨fd, F⟩ := Z.c.def_ 8 (d := d_lowest_in) rfl
  have nd := sc_lowest_in.nd
  exact fd_mk d_lowest_in ["fraction", "top", "bottom", "shared"] ["fraction"] 0 1 3 rfl rfl F (He.glo_ok Z.X Z.G (Z.c.fact 8 rfl)) finV_ok sc_lowest_in (FunD.bindsN F fun _ _ _ _ _ _ us hl => match us, hl with | [_], _ => rfl) fun cdv A outer s H E hr =>
    (dss_cons (ds_asg (de_var 0) (dg_tp (dgs_cons (dg_nm nd rfl (by first | exact Or.inl rfl | exact Or.inr rfl)) (dgs_cons (dg_nm nd rfl (by first | exact Or.inl rfl | exact Or.inr rfl)) (dgs_nil))))) (dss_cons (ds_set nd rfl (by first | exact Or.inl rfl | exact Or.inr rfl) (de_bi (b_gcd (blt_ok Z.X Z.G (Z.c.xfact 0 rfl))) (da_cons (de_var 1) (da_cons (de_var 2) (da_nil))))) (dss_one (ds_ret (de_tup (da_cons (de_fdiv (de_var 1) (de_var 3)) (da_cons (de_fdiv (de_var 2) (de_var 3)) (da_nil))))))))
theorem sc_clocks_in : FnScope ["point"] ["point"] (defScope s_clocks_in) := ⟨rfl, rfl, rfl, by decide +kernel, rfl, by decide +kernel, by decide +kernel⟩
theorem ok_clocks_in (Z : Zx K mg h) : FD P w K mg base 1 "clocks_in" 1 f_clocks_in := by
  obtain ⟨fd, F⟩ := Z.c.def_ 10 (d := d_clocks_in) rfl
  have nd := sc_clocks_in.nd
  exact fd_mk d_clocks_in ["point"] ["point"] 0 1 0 rfl rfl F (He.glo_ok Z.X Z.G (Z.c.fact 10 rfl)) finV_ok sc_clocks_in (FunD.bindsN F fun _ _ _ _ _ _ us hl => match us, hl with | [_], _ => rfl) fun cdv A outer s H E hr =>
    (dss_one (ds_ret (de_bi (b_len (He.free_ok Z.X Z.G (Z.c.fact 44 rfl))) (da_cons (de_ix (fun _ _ => rfl) (de_var 0) (de_int)) (da_nil)))))
theorem sc_lowest_point_in : FnScope ["point", "shared", "one"] ["point"] (defScope s_lowest_point_in) := ⟨rfl, rfl, rfl, by decide +kernel, rfl, by decide +kernel, by decide +kernel⟩
theorem ok_lowest_point_in (Z : Zx K mg h) : FD P w K mg base 1 "lowest_point_in" 1 f_lowest_point_in := by
  obtain ⟨fd, F⟩ := Z.c.def_ 11 (d := d_lowest_point_in) rfl
  have nd := sc_lowest_point_in.nd
  exact fd_mk d_lowest_point_in ["point", "shared", "one"] ["point"] 0 1 2 rfl rfl F (He.glo_ok Z.X Z.G (Z.c.fact 11 rfl)) finV_ok sc_lowest_point_in (FunD.bindsN F fun _ _ _ _ _ _ us hl => match us, hl with | [_], _ => rfl) fun cdv A outer s H E hr =>
    (dss_cons (ds_set nd rfl (by first | exact Or.inl rfl | exact Or.inr rfl) (de_ix (fun _ _ => rfl) (de_var 0) (de_int))) (dss_cons (ds_for (passes_of rfl) (di_seq (de_ix (fun _ _ => rfl) (de_var 0) (de_int))) (dg_nm nd rfl (by first | exact Or.inl rfl | exact Or.inr rfl)) (dss_one (ds_set nd rfl (by first | exact Or.inl rfl | exact Or.inr rfl) (de_bi (b_gcd (blt_ok Z.X Z.G (Z.c.xfact 0 rfl))) (da_cons (de_var 1) (da_cons (de_var 2) (da_nil))))))) (dss_one (ds_ret (de_tup (da_cons (de_fdiv (de_ix (fun _ _ => rfl) (de_var 0) (de_int)) (de_var 1)) (da_cons (de_bi (b_tuple (He.free_ok Z.X Z.G (Z.c.fact 45 rfl))) (da_cons (de_lc (own := [("one", 2)]) nd (di_seq (de_ix (fun _ _ => rfl) (de_var 0) (de_int))) (blkOk_by (N := ["point", "shared", "one"]) (sc := defScope s_lowest_point_in) (by decide +kernel)) (fun _ _ _ _ _ => dg_nm nd rfl (by first | exact Or.inl rfl | exact Or.inr rfl)) (fun _ _ _ _ _ => dts_nil) (fun _ _ _ _ _ => de_fdiv (de_var 2) (de_var 1))) (da_nil))) (da_nil))))))))
theorem sc_shown_in : FnScope ["point", "one", "other", "values"] ["point", "one", "other"] (defScope s_shown_in) := ⟨rfl, rfl, rfl, by decide +kernel, rfl, by decide +kernel, by decide +kernel⟩
theorem ok_shown_in (Z : Zx K mg h) : FD P w K mg base 1 "shown_in" 3 f_shown_in := by
  obtain ⟨fd, F⟩ := Z.c.def_ 15 (d := d_shown_in) rfl
  have nd := sc_shown_in.nd
  exact fd_mk d_shown_in ["point", "one", "other", "values"] ["point", "one", "other"] 0 3 1 rfl rfl F (He.glo_ok Z.X Z.G (Z.c.fact 15 rfl)) finV_ok sc_shown_in (FunD.bindsN F fun _ _ _ _ _ _ us hl => match us, hl with | [_, _, _], _ => rfl) fun cdv A outer s H E hr =>
    (dss_cons (ds_set nd rfl (by first | exact Or.inl rfl | exact Or.inr rfl) (de_tup (da_cons (de_int) (da_star (de_ix (fun _ _ => rfl) (de_var 0) (de_int)) (da_nil))))) (dss_one (ds_ret (de_tup (da_cons (de_sub (de_ix (fun _ _ => rfl) (de_var 3) (de_var 1)) (de_ix (fun _ _ => rfl) (de_var 3) (de_var 2))) (da_cons (de_ix (fun _ _ => rfl) (de_var 0) (de_int)) (da_nil)))))))
theorem sc__law_spins : FnScope ["script", "spot", "cell", "great"] ["script", "spot"] (defScope s__law_spins) := ⟨rfl, rfl, rfl, by decide +kernel, rfl, by decide +kernel, by decide +kernel⟩
theorem ok__law_spins (Z : Zx K mg h) : FD P w K mg base 1 "_law_spins" 2 f__law_spins := by
  obtain ⟨fd, F⟩ := Z.c.def_ 25 (d := d__law_spins) rfl
  have nd := sc__law_spins.nd
  exact fd_mk d__law_spins ["script", "spot", "cell", "great"] ["script", "spot"] 0 2 2 rfl rfl F (He.glo_ok Z.X Z.G (Z.c.fact 25 rfl)) finC_ok sc__law_spins (FunD.bindsN F fun _ _ _ _ _ _ us hl => match us, hl with | [_, _], _ => rfl) fun cdv A outer s H E hr =>
    (dss_cons (ds_set nd rfl (by first | exact Or.inl rfl | exact Or.inr rfl) (de_if (dt_cm (ck_lt hr) (de_var 1) (de_bi (b_len (He.free_ok Z.X Z.G (Z.c.fact 44 rfl))) (da_cons (de_var 0) (da_nil)))) (de_bi (b_int (He.free_ok Z.X Z.G (Z.c.fact 39 rfl))) (da_cons (de_ix (fun _ _ => rfl) (de_var 0) (de_var 1)) (da_nil))) (de_add (de_mul (de_int) (de_var 1)) (de_int)))) (dss_cons (ds_set nd rfl (by first | exact Or.inl rfl | exact Or.inr rfl) (de_mod (de_bi (b_int (He.free_ok Z.X Z.G (Z.c.fact 39 rfl))) (da_cons (de_bi (b_abs (He.free_ok Z.X Z.G (Z.c.fact 46 rfl))) (da_cons (de_var 2) (da_nil))) (da_nil))) (de_pow (de_pow (de_int) (de_int)) (de_int)))) (dss_one (ds_ret (de_new (da_cons (de_bi (b_max (He.free_ok Z.X Z.G (Z.c.fact 47 rfl))) (da_cons (de_int) (da_cons (de_sub (de_var 3) (de_pow (de_int) (de_int))) (da_nil)))) (da_cons (de_add (de_add (de_add (de_mul (de_mod (de_bi (b_int (He.free_ok Z.X Z.G (Z.c.fact 39 rfl))) (da_cons (de_var 3) (da_nil))) (de_int)) (de_int)) (de_mul (de_int) (de_var 1))) (de_mul (de_int) (de_bi (b_int (He.free_ok Z.X Z.G (Z.c.fact 39 rfl))) (da_cons (de_cm (ck_lt hr) (de_var 2) (de_int)) (da_nil))))) (de_int)) (da_cons (de_int) (da_nil)))))))))
theorem sc__law_spin : FnScope ["spins", "total", "found", "one", "two"] ["spins", "total"] (defScope s__law_spin) := ⟨rfl, rfl, rfl, by decide +kernel, rfl, by decide +kernel, by decide +kernel⟩
theorem ok__law_spin (Z : Zx K mg h) : FD P w K mg base 1 "_law_spin" 2 f__law_spin := by
  obtain ⟨fd, F⟩ := Z.c.def_ 26 (d := d__law_spin) rfl
  have nd := sc__law_spin.nd
  exact fd_mk d__law_spin ["spins", "total", "found", "one", "two"] ["spins", "total"] 0 2 3 rfl rfl F (He.glo_ok Z.X Z.G (Z.c.fact 26 rfl)) finV_ok sc__law_spin (FunD.bindsN F fun _ _ _ _ _ _ us hl => match us, hl with | [_, _], _ => rfl) fun cdv A outer s H E hr =>
    (dss_cons (ds_if (dt_cm ck_gt (de_ix (fun _ _ => rfl) (de_var 0) (de_int)) (de_int)) (dss_cons (ds_set nd rfl (by first | exact Or.inl rfl | exact Or.inr rfl) (de_mod (de_bi (b_int (He.free_ok Z.X Z.G (Z.c.fact 39 rfl))) (da_cons (de_ix (fun _ _ => rfl) (de_var 0) (de_int)) (da_nil))) (de_var 1))) (dss_cons (ds_put (de_var 0) (de_int) (de_fdiv (de_ix (fun _ _ => rfl) (de_var 0) (de_int)) (de_var 1))) (dss_one (ds_ret (de_var 2))))) (dss_nil)) (dss_cons (ds_put (de_var 0) (de_int) (de_add (de_ix (fun _ _ => rfl) (de_var 0) (de_int)) (de_int))) (dss_cons (ds_set nd rfl (by first | exact Or.inl rfl | exact Or.inr rfl) (de_mod (de_bi (b_int (He.free_ok Z.X Z.G (Z.c.fact 39 rfl))) (da_cons (de_add (de_ix (fun _ _ => rfl) (de_var 0) (de_int)) (de_mul (de_int) (de_ix (fun _ _ => rfl) (de_var 0) (de_int)))) (da_nil))) (de_int))) (dss_cons (ds_set nd rfl (by first | exact Or.inl rfl | exact Or.inr rfl) (de_add (de_mul (de_mod (de_bi (b_int (He.free_ok Z.X Z.G (Z.c.fact 39 rfl))) (da_cons (de_add (de_mul (de_var 3) (de_var 3)) (de_mul (de_int) (de_ix (fun _ _ => rfl) (de_var 0) (de_int)))) (da_nil))) (de_int)) (de_int)) (de_var 3))) (dss_one (ds_ret (de_mod (de_bi (b_int (He.free_ok Z.X Z.G (Z.c.fact 39 rfl))) (da_cons (de_fdiv (de_var 4) (de_int)) (da_nil))) (de_var 1))))))))
theorem sc__law_shown : FnScope ["point", "at"] ["point", "at"] (defScope s__law_shown) := ⟨rfl, rfl, rfl, by decide +kernel, rfl, by decide +kernel, by decide +kernel⟩
theorem ok__law_shown (Z : Zx K mg h) : FD P w K mg base 1 "_law_shown" 2 f__law_shown := by
  obtain ⟨fd, F⟩ := Z.c.def_ 28 (d := d__law_shown) rfl
  have nd := sc__law_shown.nd
  exact fd_mk d__law_shown ["point", "at"] ["point", "at"] 0 2 0 rfl rfl F (He.glo_ok Z.X Z.G (Z.c.fact 28 rfl)) finV_ok sc__law_shown (FunD.bindsN F fun _ _ _ _ _ _ us hl => match us, hl with | [_, _], _ => rfl) fun cdv A outer s H E hr =>
    (dss_one (ds_ret (de_if (dt_cm ck_gt (de_var 1) (de_int)) (de_ix (fun _ _ => rfl) (de_ix (fun _ _ => rfl) (de_var 0) (de_int)) (de_sub (de_var 1) (de_int))) (de_int))))
theorem sc__law_later : FnScope ["point", "top", "bottom", "value"] ["point", "top", "bottom"] (defScope s__law_later) := ⟨rfl, rfl, rfl, by decide +kernel, rfl, by decide +kernel, by decide +kernel⟩
theorem ok__law_later (Z : Zx K mg h) : FD P w K mg base 1 "_law_later" 3 f__law_later := by
  obtain ⟨fd, F⟩ := Z.c.def_ 29 (d := d__law_later) rfl
  have nd := sc__law_later.nd
  exact fd_mk d__law_later ["point", "top", "bottom", "value"] ["point", "top", "bottom"] 0 3 1 rfl rfl F (He.glo_ok Z.X Z.G (Z.c.fact 29 rfl)) finV_ok sc__law_later (FunD.bindsN F fun _ _ _ _ _ _ us hl => match us, hl with | [_, _, _], _ => rfl) fun cdv A outer s H E hr =>
    (dss_one (ds_ret (de_tup (da_cons (de_mul (de_ix (fun _ _ => rfl) (de_var 0) (de_int)) (de_var 2)) (da_cons (de_bi (b_tuple (He.free_ok Z.X Z.G (Z.c.fact 45 rfl))) (da_cons (de_lc (own := [("value", 3)]) nd (di_seq (de_ix (fun _ _ => rfl) (de_var 0) (de_int))) (blkOk_by (N := ["point", "top", "bottom", "value"]) (sc := defScope s__law_later) (by decide +kernel)) (fun _ _ _ _ _ => dg_nm nd rfl (by first | exact Or.inl rfl | exact Or.inr rfl)) (fun _ _ _ _ _ => dts_nil) (fun _ _ _ _ _ => de_add (de_mul (de_var 3) (de_var 2)) (de_mul (de_var 1) (de_ix (fun _ _ => rfl) (de_var 0) (de_int))))) (da_nil))) (da_nil))))))
theorem sc__law_set_back : FnScope ["point", "clocks", "at", "value"] ["point", "clocks"] (defScope s__law_set_back) := ⟨rfl, rfl, rfl, by decide +kernel, rfl, by decide +kernel, by decide +kernel⟩
theorem ok__law_set_back (Z : Zx K mg h) : FD P w K mg base 1 "_law_set_back" 2 f__law_set_back := by
  obtain ⟨fd, F⟩ := Z.c.def_ 30 (d := d__law_set_back) rfl
  have nd := sc__law_set_back.nd
  exact fd_mk d__law_set_back ["point", "clocks", "at", "value"] ["point", "clocks"] 0 2 2 rfl rfl F (He.glo_ok Z.X Z.G (Z.c.fact 30 rfl)) finV_ok sc__law_set_back (FunD.bindsN F fun _ _ _ _ _ _ us hl => match us, hl with | [_, _], _ => rfl) fun cdv A outer s H E hr =>
    (dss_one (ds_ret (de_tup (da_cons (de_ix (fun _ _ => rfl) (de_var 0) (de_int)) (da_cons (de_bi (b_tuple (He.free_ok Z.X Z.G (Z.c.fact 45 rfl))) (da_cons (de_lc (own := [("at", 2), ("value", 3)]) nd (di_enum (da_cons (de_ix (fun _ _ => rfl) (de_var 0) (de_int)) (da_nil)) (He.free_ok Z.X Z.G (Z.c.fact 48 rfl))) (blkOk_by (N := ["point", "clocks", "at", "value"]) (sc := defScope s__law_set_back) (by decide +kernel)) (fun _ _ _ _ _ => dg_tp (dgs_cons (dg_nm nd rfl (by first | exact Or.inl rfl | exact Or.inr rfl)) (dgs_cons (dg_nm nd rfl (by first | exact Or.inl rfl | exact Or.inr rfl)) (dgs_nil)))) (fun _ _ _ _ _ => dts_nil) (fun _ _ _ _ _ => de_if (dt_cm (ck_in hr) (de_add (de_var 2) (de_int)) (de_var 1)) (de_int) (de_var 3))) (da_nil))) (da_nil))))))
theorem sc__law_shared : FnScope ["numbers", "found", "number"] ["numbers"] (defScope s__law_shared) := ⟨rfl, rfl, rfl, by decide +kernel, rfl, by decide +kernel, by decide +kernel⟩
theorem ok__law_shared (Z : Zx K mg h) : FD P w K mg base 1 "_law_shared" 1 f__law_shared := by
  obtain ⟨fd, F⟩ := Z.c.def_ 33 (d := d__law_shared) rfl
  have nd := sc__law_shared.nd
  exact fd_mk d__law_shared ["numbers", "found", "number"] ["numbers"] 0 1 2 rfl rfl F (He.glo_ok Z.X Z.G (Z.c.fact 33 rfl)) finV_ok sc__law_shared (FunD.bindsN F fun _ _ _ _ _ _ us hl => match us, hl with | [_], _ => rfl) fun cdv A outer s H E hr =>
    (dss_cons (ds_set nd rfl (by first | exact Or.inl rfl | exact Or.inr rfl) (de_ix (fun _ _ => rfl) (de_var 0) (de_int))) (dss_cons (ds_for (passes_of rfl) (di_seq (de_sl (de_var 0) (do_some (de_int)) (do_none))) (dg_nm nd rfl (by first | exact Or.inl rfl | exact Or.inr rfl)) (dss_one (ds_while (passes_of rfl) (dt_cm ck_gt (de_var 2) (de_int)) (dss_one (ds_par2 nd rfl rfl rfl rfl (da_cons (de_var 2) (da_cons (de_mod (de_var 1) (de_var 2)) (da_nil)))))))) (dss_one (ds_ret (de_var 1)))))
theorem sc__law_is_point : FnScope ["clocks", "value", "number"] ["clocks", "value"] (defScope s__law_is_point) := ⟨rfl, rfl, rfl, by decide +kernel, rfl, by decide +kernel, by decide +kernel⟩
theorem ok__law_is_point (Z : Zx K mg h) : FD P w K mg base 1 "_law_is_point" 2 f__law_is_point := by
  obtain ⟨fd, F⟩ := Z.c.def_ 35 (d := d__law_is_point) rfl
  have nd := sc__law_is_point.nd
  exact fd_mk d__law_is_point ["clocks", "value", "number"] ["clocks", "value"] 0 2 1 rfl rfl F (He.glo_ok Z.X Z.G (Z.c.fact 35 rfl)) finV_ok sc__law_is_point (FunD.bindsN F fun _ _ _ _ _ _ us hl => match us, hl with | [_, _], _ => rfl) fun cdv A outer s H E hr =>
    (dss_cons (ds_if (dt_w (dw_or (dt_not (dt_tru (de_bi (b_isinstance (He.free_ok Z.X Z.G (Z.c.fact 40 rfl))) (da_cons (de_var 1) (da_cons (de_ty (He.free_ok Z.X Z.G (Z.c.fact 45 rfl)) (by decide +kernel)) (da_nil)))))) (dw_or (dt_cm (ck_ne hr) (de_bi (b_len (He.free_ok Z.X Z.G (Z.c.fact 44 rfl))) (da_cons (de_var 1) (da_nil))) (de_int)) (dw_or (dt_not (dt_tru (de_bi (b_isinstance (He.free_ok Z.X Z.G (Z.c.fact 40 rfl))) (da_cons (de_ix (fun _ _ => rfl) (de_var 1) (de_int)) (da_cons (de_ty (He.free_ok Z.X Z.G (Z.c.fact 45 rfl)) (by decide +kernel)) (da_nil)))))) (dw_or1 (dt_cm (ck_ne hr) (de_bi (b_len (He.free_ok Z.X Z.G (Z.c.fact 44 rfl))) (da_cons (de_ix (fun _ _ => rfl) (de_var 1) (de_int)) (da_nil))) (de_var 0))))))) (dss_one (ds_ret (de_bl))) (dss_nil)) (dss_cons (ds_for (passes_of rfl) (di_seq (de_add (de_tup (da_cons (de_ix (fun _ _ => rfl) (de_var 1) (de_int)) (da_nil))) (de_ix (fun _ _ => rfl) (de_var 1) (de_int)))) (dg_nm nd rfl (by first | exact Or.inl rfl | exact Or.inr rfl)) (dss_one (ds_if (dt_w (dw_or (dt_tru (de_bi (b_isinstance (He.free_ok Z.X Z.G (Z.c.fact 40 rfl))) (da_cons (de_var 2) (da_cons (de_ty (He.free_ok Z.X Z.G (Z.c.fact 41 rfl)) (by decide +kernel)) (da_nil))))) (dw_or (dt_not (dt_tru (de_bi (b_isinstance (He.free_ok Z.X Z.G (Z.c.fact 40 rfl))) (da_cons (de_var 2) (da_cons (de_ty (He.free_ok Z.X Z.G (Z.c.fact 39 rfl)) (by decide +kernel)) (da_nil)))))) (dw_or1 (dt_not (dt_chain ck_le (ck_lt hr) (de_int) (de_var 2) (de_pow (de_int) (de_int)))))))) (dss_one (ds_ret (de_bl))) (dss_nil)))) (dss_one (ds_ret (de_cm ck_ge (de_ix (fun _ _ => rfl) (de_var 1) (de_int)) (de_int))))))
theorem sc_is_integer : FnScope ["value"] ["value"] (defScope s_is_integer) := ⟨rfl, rfl, rfl, by decide +kernel, rfl, by decide +kernel, by decide +kernel⟩
theorem ok_is_integer (Z : Zx K mg h) : FD P w K mg base 2 "is_integer" 1 f_is_integer := by
  obtain ⟨fd, F⟩ := Z.c.def_ 1 (d := d_is_integer) rfl
  have nd := sc_is_integer.nd
  exact fd_mk d_is_integer ["value"] ["value"] 1 1 0 rfl rfl F (He.glo_ok Z.X Z.G (Z.c.fact 1 rfl)) finV_ok sc_is_integer (FunD.bindsN F fun _ _ _ _ _ _ us hl => match us, hl with | [_], _ => rfl) fun cdv A outer s H E hr =>
    (dss_one (ds_ret (de_and (de_call (ok_is_whole Z) (hr.mono (by decide)) (takes_of rfl rfl rfl rfl) (da_cons (de_var 0) (da_nil))) (de_one (de_chain (ck_lt hr) (ck_lt hr) (de_neg (de_gint (He.int_ok Z.X Z.G (Z.c.fact 49 rfl)))) (de_var 0) (de_gint (He.int_ok Z.X Z.G (Z.c.fact 49 rfl))))))))
theorem sc_is_within : FnScope ["value", "least", "most"] ["value", "least", "most"] (defScope s_is_within) := ⟨rfl, rfl, rfl, by decide +kernel, rfl, by decide +kernel, by decide +kernel⟩
theorem ok_is_within (Z : Zx K mg h) : FD P w K mg base 2 "is_within" 3 f_is_within := by
  obtain ⟨fd, F⟩ := Z.c.def_ 2 (d := d_is_within) rfl
  have nd := sc_is_within.nd
  exact fd_mk d_is_within ["value", "least", "most"] ["value", "least", "most"] 1 3 0 rfl rfl F (He.glo_ok Z.X Z.G (Z.c.fact 2 rfl)) finV_ok sc_is_within (FunD.bindsN F fun _ _ _ _ _ _ us hl => match us, hl with | [_, _, _], _ => rfl) fun cdv A outer s H E hr =>
    (dss_one (ds_ret (de_and (de_call (ok_is_whole Z) (hr.mono (by decide)) (takes_of rfl rfl rfl rfl) (da_cons (de_var 0) (da_nil))) (de_one (de_chain ck_le ck_le (de_var 1) (de_var 0) (de_var 2))))))
theorem sc_same_in : FnScope ["one", "other"] ["one", "other"] (defScope s_same_in) := ⟨rfl, rfl, rfl, by decide +kernel, rfl, by decide +kernel, by decide +kernel⟩
theorem ok_same_in (Z : Zx K mg h) : FD P w K mg base 2 "same_in" 2 f_same_in := by
  obtain ⟨fd, F⟩ := Z.c.def_ 12 (d := d_same_in) rfl
  have nd := sc_same_in.nd
  exact fd_mk d_same_in ["one", "other"] ["one", "other"] 1 2 0 rfl rfl F (He.glo_ok Z.X Z.G (Z.c.fact 12 rfl)) finV_ok sc_same_in (FunD.bindsN F fun _ _ _ _ _ _ us hl => match us, hl with | [_, _], _ => rfl) fun cdv A outer s H E hr =>
    (dss_one (ds_ret (de_cm (ck_eq hr) (de_call (ok_lowest_point_in Z) (hr.mono (by decide)) (takes_of rfl rfl rfl rfl) (da_cons (de_var 0) (da_nil))) (de_call (ok_lowest_point_in Z) (hr.mono (by decide)) (takes_of rfl rfl rfl rfl) (da_cons (de_var 1) (da_nil))))))
theorem sc_later_in : FnScope ["point", "pause", "bottom", "more", "one"] ["point", "pause"] (defScope s_later_in) := ⟨rfl, rfl, rfl, by decide +kernel, rfl, by decide +kernel, by decide +kernel⟩
theorem ok_later_in (Z : Zx K mg h) : FD P w K mg base 2 "later_in" 2 f_later_in := by
  obtain ⟨fd, F⟩ := Z.c.def_ 13 (d := d_later_in) rfl
  have nd := sc_later_in.nd
  exact fd_mk d_later_in ["point", "pause", "bottom", "more", "one"] ["point", "pause"] 1 2 3 rfl rfl F (He.glo_ok Z.X Z.G (Z.c.fact 13 rfl)) finV_ok sc_later_in (FunD.bindsN F fun _ _ _ _ _ _ us hl => match us, hl with | [_, _], _ => rfl) fun cdv A outer s H E hr =>
    (dss_cons (ds_asg (de_tup (da_cons (de_mul (de_ix (fun _ _ => rfl) (de_var 0) (de_int)) (de_ix (fun _ _ => rfl) (de_var 1) (de_int))) (da_cons (de_mul (de_ix (fun _ _ => rfl) (de_var 0) (de_int)) (de_ix (fun _ _ => rfl) (de_var 1) (de_int))) (da_nil)))) (dg_tp (dgs_cons (dg_nm nd rfl (by first | exact Or.inl rfl | exact Or.inr rfl)) (dgs_cons (dg_nm nd rfl (by first | exact Or.inl rfl | exact Or.inr rfl)) (dgs_nil))))) (dss_one (ds_ret (de_call (ok_lowest_point_in Z) (hr.mono (by decide)) (takes_of rfl rfl rfl rfl) (da_cons (de_tup (da_cons (de_var 2) (da_cons (de_bi (b_tuple (He.free_ok Z.X Z.G (Z.c.fact 45 rfl))) (da_cons (de_lc (own := [("one", 4)]) nd (di_seq (de_ix (fun _ _ => rfl) (de_var 0) (de_int))) (blkOk_by (N := ["point", "pause", "bottom", "more", "one"]) (sc := defScope s_later_in) (by decide +kernel)) (fun _ _ _ _ _ => dg_nm nd rfl (by first | exact Or.inl rfl | exact Or.inr rfl)) (fun _ _ _ _ _ => dts_nil) (fun _ _ _ _ _ => de_add (de_mul (de_var 4) (de_ix (fun _ _ => rfl) (de_var 1) (de_int))) (de_var 3))) (da_nil))) (da_nil)))) (da_nil))))))
theorem sc_back_in : FnScope ["point", "clocks", "values", "at", "one"] ["point", "clocks"] (defScope s_back_in) := ⟨rfl, rfl, rfl, by decide +kernel, rfl, by decide +kernel, by decide +kernel⟩
theorem ok_back_in (Z : Zx K mg h) : FD P w K mg base 2 "back_in" 2 f_back_in := by
  obtain ⟨fd, F⟩ := Z.c.def_ 14 (d := d_back_in) rfl
  have nd := sc_back_in.nd
  exact fd_mk d_back_in ["point", "clocks", "values", "at", "one"] ["point", "clocks"] 1 2 3 rfl rfl F (He.glo_ok Z.X Z.G (Z.c.fact 14 rfl)) finV_ok sc_back_in (FunD.bindsN F fun _ _ _ _ _ _ us hl => match us, hl with | [_, _], _ => rfl) fun cdv A outer s H E hr =>
    (dss_cons (ds_set nd rfl (by first | exact Or.inl rfl | exact Or.inr rfl) (de_bi (b_tuple (He.free_ok Z.X Z.G (Z.c.fact 45 rfl))) (da_cons (de_lc (own := [("at", 3), ("one", 4)]) nd (di_enum (da_cons (de_ix (fun _ _ => rfl) (de_var 0) (de_int)) (da_nil)) (He.free_ok Z.X Z.G (Z.c.fact 48 rfl))) (blkOk_by (N := ["point", "clocks", "values", "at", "one"]) (sc := defScope s_back_in) (by decide +kernel)) (fun _ _ _ _ _ => dg_tp (dgs_cons (dg_nm nd rfl (by first | exact Or.inl rfl | exact Or.inr rfl)) (dgs_cons (dg_nm nd rfl (by first | exact Or.inl rfl | exact Or.inr rfl)) (dgs_nil)))) (fun _ _ _ _ _ => dts_nil) (fun _ _ _ _ _ => de_if (dt_cm (ck_in hr) (de_add (de_var 3) (de_int)) (de_var 1)) (de_int) (de_var 4))) (da_nil)))) (dss_one (ds_ret (de_call (ok_lowest_point_in Z) (hr.mono (by decide)) (takes_of rfl rfl rfl rfl) (da_cons (de_tup (da_cons (de_ix (fun _ _ => rfl) (de_var 0) (de_int)) (da_cons (de_var 2) (da_nil)))) (da_nil))))))
theorem sc__law_among : FnScope ["spins", "items"] ["spins", "items"] (defScope s__law_among) := ⟨rfl, rfl, rfl, by decide +kernel, rfl, by decide +kernel, by decide +kernel⟩
theorem ok__law_among (Z : Zx K mg h) : FD P w K mg base 2 "_law_among" 2 f__law_among := by
  obtain ⟨fd, F⟩ := Z.c.def_ 27 (d := d__law_among) rfl
  have nd := sc__law_among.nd
  exact fd_mk d__law_among ["spins", "items"] ["spins", "items"] 1 2 0 rfl rfl F (He.glo_ok Z.X Z.G (Z.c.fact 27 rfl)) finV_ok sc__law_among (FunD.bindsN F fun _ _ _ _ _ _ us hl => match us, hl with | [_, _], _ => rfl) fun cdv A outer s H E hr =>
    (dss_one (ds_ret (de_ix (fun _ _ => rfl) (de_var 1) (de_call (ok__law_spin Z) (hr.mono (by decide)) (takes_of rfl rfl rfl rfl) (da_cons (de_var 0) (da_cons (de_bi (b_len (He.free_ok Z.X Z.G (Z.c.fact 44 rfl))) (da_cons (de_var 1) (da_nil))) (da_nil)))))))
theorem sc__law_plain : FnScope ["point", "shared", "value"] ["point"] (defScope s__law_plain) := ⟨rfl, rfl, rfl, by decide +kernel, rfl, by decide +kernel, by decide +kernel⟩
theorem ok__law_plain (Z : Zx K mg h) : FD P w K mg base 2 "_law_plain" 1 f__law_plain := by
  obtain ⟨fd, F⟩ := Z.c.def_ 34 (d := d__law_plain) rfl
  have nd := sc__law_plain.nd
  exact fd_mk d__law_plain ["point", "shared", "value"] ["point"] 1 1 2 rfl rfl F (He.glo_ok Z.X Z.G (Z.c.fact 34 rfl)) finV_ok sc__law_plain (FunD.bindsN F fun _ _ _ _ _ _ us hl => match us, hl with | [_], _ => rfl) fun cdv A outer s H E hr =>
    (dss_cons (ds_set nd rfl (by first | exact Or.inl rfl | exact Or.inr rfl) (de_call (ok__law_shared Z) (hr.mono (by decide)) (takes_of rfl rfl rfl rfl) (da_cons (de_add (de_tup (da_cons (de_ix (fun _ _ => rfl) (de_var 0) (de_int)) (da_nil))) (de_ix (fun _ _ => rfl) (de_var 0) (de_int))) (da_nil)))) (dss_one (ds_ret (de_tup (da_cons (de_fdiv (de_ix (fun _ _ => rfl) (de_var 0) (de_int)) (de_var 1)) (da_cons (de_bi (b_tuple (He.free_ok Z.X Z.G (Z.c.fact 45 rfl))) (da_cons (de_lc (own := [("value", 2)]) nd (di_seq (de_ix (fun _ _ => rfl) (de_var 0) (de_int))) (blkOk_by (N := ["point", "shared", "value"]) (sc := defScope s__law_plain) (by decide +kernel)) (fun _ _ _ _ _ => dg_nm nd rfl (by first | exact Or.inl rfl | exact Or.inr rfl)) (fun _ _ _ _ _ => dts_nil) (fun _ _ _ _ _ => de_fdiv (de_var 2) (de_var 1))) (da_nil))) (da_nil)))))))
theorem sc_are_indices : FnScope ["value", "size", "one"] ["value", "size"] (defScope s_are_indices) := ⟨rfl, rfl, rfl, by decide +kernel, rfl, by decide +kernel, by decide +kernel⟩
theorem ok_are_indices (Z : Zx K mg h) : FD P w K mg base 3 "are_indices" 2 f_are_indices := by
  obtain ⟨fd, F⟩ := Z.c.def_ 4 (d := d_are_indices) rfl
  have nd := sc_are_indices.nd
  exact fd_mk d_are_indices ["value", "size", "one"] ["value", "size"] 2 2 1 rfl rfl F (He.glo_ok Z.X Z.G (Z.c.fact 4 rfl)) finV_ok sc_are_indices (FunD.bindsN F fun _ _ _ _ _ _ us hl => match us, hl with | [_, _], _ => rfl) fun cdv A outer s H E hr =>
    (dss_cons (ds_if (dt_w (dw_or (dt_not (dt_tru (de_bi (b_isinstance (He.free_ok Z.X Z.G (Z.c.fact 40 rfl))) (da_cons (de_var 0) (da_cons (de_ty (He.free_ok Z.X Z.G (Z.c.fact 45 rfl)) (by decide +kernel)) (da_nil)))))) (dw_or1 (dt_not (dt_tru (de_bi (b_all (He.free_ok Z.X Z.G (Z.c.fact 43 rfl))) (da_cons (de_lc (own := [("one", 2)]) nd (di_seq (de_var 0)) (blkOk_by (N := ["value", "size", "one"]) (sc := defScope s_are_indices) (by decide +kernel)) (fun _ _ _ _ _ => dg_nm nd rfl (by first | exact Or.inl rfl | exact Or.inr rfl)) (fun _ _ _ _ _ => dts_nil) (fun _ _ _ _ _ => de_call (ok_is_within Z) (hr.mono (by decide)) takes0 (da_cons (de_var 2) (da_cons (de_int) (da_cons (de_sub (de_var 1) (de_int)) (da_nil)))))) (da_nil)))))))) (dss_one (ds_ret (de_bl))) (dss_nil)) (dss_one (ds_ret (de_call (ok_is_ascending Z) (hr.mono (by decide)) (takes_of rfl rfl rfl rfl) (da_cons (de_var 0) (da_nil))))))
theorem sc_require_within : FnScope ["value", "least", "most"] ["value", "least", "most"] (defScope s_require_within) := ⟨rfl, rfl, rfl, by decide +kernel, rfl, by decide +kernel, by decide +kernel⟩
theorem ok_require_within (Z : Zx K mg h) : FD P w K mg base 3 "require_within" 3 f_require_within := by
  obtain ⟨fd, F⟩ := Z.c.def_ 5 (d := d_require_within) rfl
  have nd := sc_require_within.nd
  exact fd_mk d_require_within ["value", "least", "most"] ["value", "least", "most"] 2 3 0 rfl rfl F (He.glo_ok Z.X Z.G (Z.c.fact 5 rfl)) finV_ok sc_require_within (FunD.bindsN F fun _ _ _ _ _ _ us hl => match us, hl with | [_, _, _], _ => rfl) fun cdv A outer s H E hr =>
    (dss_one (ds_if (dt_not (dt_tru (de_call (ok_is_within Z) (hr.mono (by decide)) (takes_of rfl rfl rfl rfl) (da_cons (de_var 0) (da_cons (de_var 1) (da_cons (de_var 2) (da_nil))))))) (dss_one (ds_no)) (dss_nil)))
theorem sc_is_fraction_in : FnScope ["value", "one"] ["value"] (defScope s_is_fraction_in) := ⟨rfl, rfl, rfl, by decide +kernel, rfl, by decide +kernel, by decide +kernel⟩
theorem ok_is_fraction_in (Z : Zx K mg h) : FD P w K mg base 3 "is_fraction_in" 1 f_is_fraction_in := by
  obtain ⟨fd, F⟩ := Z.c.def_ 6 (d := d_is_fraction_in) rfl
  have nd := sc_is_fraction_in.nd
  exact fd_mk d_is_fraction_in ["value", "one"] ["value"] 2 1 1 rfl rfl F (He.glo_ok Z.X Z.G (Z.c.fact 6 rfl)) finV_ok sc_is_fraction_in (FunD.bindsN F fun _ _ _ _ _ _ us hl => match us, hl with | [_], _ => rfl) fun cdv A outer s H E hr =>
    (dss_cons (ds_if (dt_w (dw_or (dt_not (dt_tru (de_bi (b_isinstance (He.free_ok Z.X Z.G (Z.c.fact 40 rfl))) (da_cons (de_var 0) (da_cons (de_ty (He.free_ok Z.X Z.G (Z.c.fact 45 rfl)) (by decide +kernel)) (da_nil)))))) (dw_or (dt_cm (ck_ne hr) (de_bi (b_len (He.free_ok Z.X Z.G (Z.c.fact 44 rfl))) (da_cons (de_var 0) (da_nil))) (de_gint (He.int_ok Z.X Z.G (Z.c.fact 50 rfl)))) (dw_or1 (dt_not (dt_tru (de_bi (b_all (He.free_ok Z.X Z.G (Z.c.fact 43 rfl))) (da_cons (de_lc (own := [("one", 1)]) nd (di_seq (de_var 0)) (blkOk_by (N := ["value", "one"]) (sc := defScope s_is_fraction_in) (by decide +kernel)) (fun _ _ _ _ _ => dg_nm nd rfl (by first | exact Or.inl rfl | exact Or.inr rfl)) (fun _ _ _ _ _ => dts_nil) (fun _ _ _ _ _ => de_call (ok_is_integer Z) (hr.mono (by decide)) takes0 (da_cons (de_var 1) (da_nil)))) (da_nil))))))))) (dss_one (ds_ret (de_bl))) (dss_nil)) (dss_one (ds_ret (de_cm ck_ge (de_ix (fun _ _ => rfl) (de_var 0) (de_int)) (de_int)))))
theorem sc_is_point_in : FnScope ["clocks", "value", "one"] ["clocks", "value"] (defScope s_is_point_in) := ⟨rfl, rfl, rfl, by decide +kernel, rfl, by decide +kernel, by decide +kernel⟩
theorem ok_is_point_in (Z : Zx K mg h) : FD P w K mg base 3 "is_point_in" 2 f_is_point_in := by
  obtain ⟨fd, F⟩ := Z.c.def_ 9 (d := d_is_point_in) rfl
  have nd := sc_is_point_in.nd
  exact fd_mk d_is_point_in ["clocks", "value", "one"] ["clocks", "value"] 2 2 1 rfl rfl F (He.glo_ok Z.X Z.G (Z.c.fact 9 rfl)) finV_ok sc_is_point_in (FunD.bindsN F fun _ _ _ _ _ _ us hl => match us, hl with | [_, _], _ => rfl) fun cdv A outer s H E hr =>
    (dss_cons (ds_if (dt_w (dw_or (dt_not (dt_tru (de_bi (b_isinstance (He.free_ok Z.X Z.G (Z.c.fact 40 rfl))) (da_cons (de_var 1) (da_cons (de_ty (He.free_ok Z.X Z.G (Z.c.fact 45 rfl)) (by decide +kernel)) (da_nil)))))) (dw_or (dt_cm (ck_ne hr) (de_bi (b_len (He.free_ok Z.X Z.G (Z.c.fact 44 rfl))) (da_cons (de_var 1) (da_nil))) (de_gint (He.int_ok Z.X Z.G (Z.c.fact 50 rfl)))) (dw_or (dt_not (dt_tru (de_call (ok_is_integer Z) (hr.mono (by decide)) (takes_of rfl rfl rfl rfl) (da_cons (de_ix (fun _ _ => rfl) (de_var 1) (de_int)) (da_nil))))) (dw_or1 (dt_cm (ck_lt hr) (de_ix (fun _ _ => rfl) (de_var 1) (de_int)) (de_int))))))) (dss_one (ds_ret (de_bl))) (dss_nil)) (dss_cons (ds_if (dt_w (dw_or (dt_not (dt_tru (de_bi (b_isinstance (He.free_ok Z.X Z.G (Z.c.fact 40 rfl))) (da_cons (de_ix (fun _ _ => rfl) (de_var 1) (de_int)) (da_cons (de_ty (He.free_ok Z.X Z.G (Z.c.fact 45 rfl)) (by decide +kernel)) (da_nil)))))) (dw_or1 (dt_cm (ck_ne hr) (de_bi (b_len (He.free_ok Z.X Z.G (Z.c.fact 44 rfl))) (da_cons (de_ix (fun _ _ => rfl) (de_var 1) (de_int)) (da_nil))) (de_var 0))))) (dss_one (ds_ret (de_bl))) (dss_nil)) (dss_one (ds_ret (de_bi (b_all (He.free_ok Z.X Z.G (Z.c.fact 43 rfl))) (da_cons (de_lc (own := [("one", 2)]) nd (di_seq (de_ix (fun _ _ => rfl) (de_var 1) (de_int))) (blkOk_by (N := ["clocks", "value", "one"]) (sc := defScope s_is_point_in) (by decide +kernel)) (fun _ _ _ _ _ => dg_nm nd rfl (by first | exact Or.inl rfl | exact Or.inr rfl)) (fun _ _ _ _ _ => dts_nil) (fun _ _ _ _ _ => de_and (de_call (ok_is_integer Z) (hr.mono (by decide)) takes0 (da_cons (de_var 2) (da_nil))) (de_one (de_cm ck_ge (de_var 2) (de_int))))) (da_nil)))))))
theorem sc__law_point_drawn : FnScope ["spins", "clocks", "most", "q", "values", "at"] ["spins", "clocks", "most"] (defScope s__law_point_drawn) := ⟨rfl, rfl, rfl, by decide +kernel, rfl, by decide +kernel, by decide +kernel⟩
theorem ok__law_point_drawn (Z : Zx K mg h) : FD P w K mg base 3 "_law_point_drawn" 3 f__law_point_drawn := by
  obtain ⟨fd, F⟩ := Z.c.def_ 31 (d := d__law_point_drawn) rfl
  have nd := sc__law_point_drawn.nd
  exact fd_mk d__law_point_drawn ["spins", "clocks", "most", "q", "values", "at"] ["spins", "clocks", "most"] 2 3 3 rfl rfl F (He.glo_ok Z.X Z.G (Z.c.fact 31 rfl)) finV_ok sc__law_point_drawn (FunD.bindsN F fun _ _ _ _ _ _ us hl => match us, hl with | [_, _, _], _ => rfl) fun cdv A outer s H E hr =>
    (dss_cons (ds_set nd rfl (by first | exact Or.inl rfl | exact Or.inr rfl) (de_call (ok__law_among Z) (hr.mono (by decide)) (takes_of rfl rfl rfl rfl) (da_cons (de_var 0) (da_cons (de_lst (da_cons (de_int) (da_cons (de_int) (da_cons (de_int) (da_cons (de_int) (da_cons (de_int) (da_cons (de_int) (da_cons (de_int) (da_cons (de_int) (da_nil)))))))))) (da_nil))))) (dss_cons (ds_lcC (own := [("at", 5)]) nd rfl rfl (sw_true rfl rfl rfl (by decide +kernel)) (di_range1 (da_cons (de_var 1) (da_nil)) (He.free_ok Z.X Z.G (Z.c.fact 51 rfl))) (blkOk_by (N := ["spins", "clocks", "most", "q", "values", "at"]) (sc := defScope s__law_point_drawn) (by decide +kernel)) (fun _ _ _ _ _ => dg_nm nd rfl (by first | exact Or.inl rfl | exact Or.inr rfl)) (fun _ _ _ _ _ => dts_nil) (fun _ _ _ _ _ => de_call (ok__law_spin Z) (hr.mono (by decide)) takes0 (da_cons (de_var 0) (da_cons (de_add (de_mul (de_var 2) (de_var 3)) (de_int)) (da_nil))))) (dss_cons (ds_if (dt_w (dw_and (dt_cm ck_gt (de_var 1) (de_int)) (dw_and1 (dt_cm (ck_eq hr) (de_call (ok__law_spin Z) (hr.mono (by decide)) (takes_of rfl rfl rfl rfl) (da_cons (de_var 0) (da_cons (de_int) (da_nil)))) (de_int))))) (dss_one (ds_put (de_var 4) (de_call (ok__law_spin Z) (hr.mono (by decide)) (takes_of rfl rfl rfl rfl) (da_cons (de_var 0) (da_cons (de_var 1) (da_nil)))) (de_mod (de_call (ok__law_among Z) (hr.mono (by decide)) (takes_of rfl rfl rfl rfl) (da_cons (de_var 0) (da_cons (de_var 4) (da_nil)))) (de_var 3)))) (dss_nil)) (dss_one (ds_ret (de_tup (da_cons (de_var 3) (da_cons (de_bi (b_tuple (He.free_ok Z.X Z.G (Z.c.fact 45 rfl))) (da_cons (de_var 4) (da_nil))) (da_nil)))))))))
theorem sc__law_pause_drawn : FnScope ["spins", "most", "q"] ["spins", "most"] (defScope s__law_pause_drawn) := ⟨rfl, rfl, rfl, by decide +kernel, rfl, by decide +kernel, by decide +kernel⟩
theorem ok__law_pause_drawn (Z : Zx K mg h) : FD P w K mg base 3 "_law_pause_drawn" 2 f__law_pause_drawn := by
  obtain ⟨fd, F⟩ := Z.c.def_ 32 (d := d__law_pause_drawn) rfl
  have nd := sc__law_pause_drawn.nd
  exact fd_mk d__law_pause_drawn ["spins", "most", "q"] ["spins", "most"] 2 2 1 rfl rfl F (He.glo_ok Z.X Z.G (Z.c.fact 32 rfl)) finV_ok sc__law_pause_drawn (FunD.bindsN F fun _ _ _ _ _ _ us hl => match us, hl with | [_, _], _ => rfl) fun cdv A outer s H E hr =>
    (dss_cons (ds_set nd rfl (by first | exact Or.inl rfl | exact Or.inr rfl) (de_call (ok__law_among Z) (hr.mono (by decide)) (takes_of rfl rfl rfl rfl) (da_cons (de_var 0) (da_cons (de_lst (da_cons (de_int) (da_cons (de_int) (da_cons (de_int) (da_cons (de_int) (da_cons (de_int) (da_nil))))))) (da_nil))))) (dss_one (ds_ret (de_tup (da_cons (de_call (ok__law_among Z) (hr.mono (by decide)) (takes_of rfl rfl rfl rfl) (da_cons (de_var 0) (da_cons (de_lst (da_cons (de_int) (da_cons (de_call (ok__law_spin Z) (hr.mono (by decide)) (takes_of rfl rfl rfl rfl) (da_cons (de_var 0) (da_cons (de_add (de_mul (de_var 2) (de_var 1)) (de_int)) (da_nil)))) (da_cons (de_call (ok__law_spin Z) (hr.mono (by decide)) (takes_of rfl rfl rfl rfl) (da_cons (de_var 0) (da_cons (de_mul (de_int) (de_var 2)) (da_nil)))) (da_nil))))) (da_nil)))) (da_cons (de_var 2) (da_nil)))))))
theorem sc_is_pause_in : FnScope ["value"] ["value"] (defScope s_is_pause_in) := ⟨rfl, rfl, rfl, by decide +kernel, rfl, by decide +kernel, by decide +kernel⟩
theorem ok_is_pause_in (Z : Zx K mg h) : FD P w K mg base 4 "is_pause_in" 1 f_is_pause_in := by
  obtain ⟨fd, F⟩ := Z.c.def_ 7 (d := d_is_pause_in) rfl
  have nd := sc_is_pause_in.nd
  exact fd_mk d_is_pause_in ["value"] ["value"] 3 1 0 rfl rfl F (He.glo_ok Z.X Z.G (Z.c.fact 7 rfl)) finV_ok sc_is_pause_in (FunD.bindsN F fun _ _ _ _ _ _ us hl => match us, hl with | [_], _ => rfl) fun cdv A outer s H E hr =>
    (dss_one (ds_ret (de_and (de_call (ok_is_fraction_in Z) (hr.mono (by decide)) (takes_of rfl rfl rfl rfl) (da_cons (de_var 0) (da_nil))) (de_one (de_cm ck_ge (de_ix (fun _ _ => rfl) (de_var 0) (de_int)) (de_int))))))
theorem sc_is_any_point : FnScope ["value"] ["value"] (defScope s_is_any_point) := ⟨rfl, rfl, rfl, by decide +kernel, rfl, by decide +kernel, by decide +kernel⟩
theorem ok_is_any_point (Z : Zx K mg h) : FD P w K mg base 4 "is_any_point" 1 f_is_any_point := by
  obtain ⟨fd, F⟩ := Z.c.def_ 16 (d := d_is_any_point) rfl
  have nd := sc_is_any_point.nd
  exact fd_mk d_is_any_point ["value"] ["value"] 3 1 0 rfl rfl F (He.glo_ok Z.X Z.G (Z.c.fact 16 rfl)) finV_ok sc_is_any_point (FunD.bindsN F fun _ _ _ _ _ _ us hl => match us, hl with | [_], _ => rfl) fun cdv A outer s H E hr =>
    (dss_cons (ds_if (dt_w (dw_or (dt_not (dt_tru (de_bi (b_isinstance (He.free_ok Z.X Z.G (Z.c.fact 40 rfl))) (da_cons (de_var 0) (da_cons (de_ty (He.free_ok Z.X Z.G (Z.c.fact 45 rfl)) (by decide +kernel)) (da_nil)))))) (dw_or (dt_cm (ck_ne hr) (de_bi (b_len (He.free_ok Z.X Z.G (Z.c.fact 44 rfl))) (da_cons (de_var 0) (da_nil))) (de_gint (He.int_ok Z.X Z.G (Z.c.fact 50 rfl)))) (dw_or1 (dt_not (dt_tru (de_bi (b_isinstance (He.free_ok Z.X Z.G (Z.c.fact 40 rfl))) (da_cons (de_ix (fun _ _ => rfl) (de_var 0) (de_int)) (da_cons (de_ty (He.free_ok Z.X Z.G (Z.c.fact 45 rfl)) (by decide +kernel)) (da_nil)))))))))) (dss_one (ds_ret (de_bl))) (dss_nil)) (dss_one (ds_ret (de_and (de_cm ck_le (de_bi (b_len (He.free_ok Z.X Z.G (Z.c.fact 44 rfl))) (da_cons (de_ix (fun _ _ => rfl) (de_var 0) (de_int)) (da_nil))) (de_gint (He.int_ok Z.X Z.G (Z.c.fact 52 rfl)))) (de_one (de_call (ok_is_point_in Z) (hr.mono (by decide)) (takes_of rfl rfl rfl rfl) (da_cons (de_bi (b_len (He.free_ok Z.X Z.G (Z.c.fact 44 rfl))) (da_cons (de_ix (fun _ _ => rfl) (de_var 0) (de_int)) (da_nil))) (da_cons (de_var 0) (da_nil)))))))))
theorem sc_is_point : FnScope ["clocks", "value"] ["clocks", "value"] (defScope s_is_point) := ⟨rfl, rfl, rfl, by decide +kernel, rfl, by decide +kernel, by decide +kernel⟩
theorem ok_is_point (Z : Zx K mg h) : FD P w K mg base 4 "is_point" 2 f_is_point := by
  obtain ⟨fd, F⟩ := Z.c.def_ 19 (d := d_is_point) rfl
  have nd := sc_is_point.nd
  exact fd_mk d_is_point ["clocks", "value"] ["clocks", "value"] 3 2 0 rfl rfl F (He.glo_ok Z.X Z.G (Z.c.fact 19 rfl)) finV_ok sc_is_point (FunD.bindsN F fun _ _ _ _ _ _ us hl => match us, hl with | [_, _], _ => rfl) fun cdv A outer s H E hr =>
    (dss_cons (ds_expr (de_call (ok_require_within Z) (hr.mono (by decide)) (takes_of rfl rfl rfl rfl) (da_cons (de_var 0) (da_cons (de_int) (da_cons (de_gint (He.int_ok Z.X Z.G (Z.c.fact 52 rfl))) (da_nil)))))) (dss_one (ds_ret (de_call (ok_is_point_in Z) (hr.mono (by decide)) (takes_of rfl rfl rfl rfl) (da_cons (de_var 0) (da_cons (de_var 1) (da_nil)))))))
theorem sc_require_clocks : FnScope ["many", "value"] ["many", "value"] (defScope s_require_clocks) := ⟨rfl, rfl, rfl, by decide +kernel, rfl, by decide +kernel, by decide +kernel⟩
theorem ok_require_clocks (Z : Zx K mg h) : FD P w K mg base 4 "require_clocks" 2 f_require_clocks := by
  obtain ⟨fd, F⟩ := Z.c.def_ 23 (d := d_require_clocks) rfl
  have nd := sc_require_clocks.nd
  exact fd_mk d_require_clocks ["many", "value"] ["many", "value"] 3 2 0 rfl rfl F (He.glo_ok Z.X Z.G (Z.c.fact 23 rfl)) finV_ok sc_require_clocks (FunD.bindsN F fun _ _ _ _ _ _ us hl => match us, hl with | [_, _], _ => rfl) fun cdv A outer s H E hr =>
    (dss_one (ds_if (dt_w (dw_or (dt_not (dt_tru (de_call (ok_are_indices Z) (hr.mono (by decide)) (takes_of rfl rfl rfl rfl) (da_cons (de_var 1) (da_cons (de_add (de_var 0) (de_int)) (da_nil)))))) (dw_or1 (dt_cm (ck_in hr) (de_int) (de_var 1))))) (dss_one (ds_no)) (dss_nil)))
theorem sc__law_some_point : FnScope ["spins", "clocks", "q", "at"] ["spins", "clocks"] (defScope s__law_some_point) := ⟨rfl, rfl, rfl, by decide +kernel, rfl, by decide +kernel, by decide +kernel⟩
theorem ok__law_some_point (Z : Zx K mg h) : FD P w K mg base 4 "_law_some_point" 2 f__law_some_point := by
  obtain ⟨fd, F⟩ := Z.c.def_ 36 (d := d__law_some_point) rfl
  have nd := sc__law_some_point.nd
  exact fd_mk d__law_some_point ["spins", "clocks", "q", "at"] ["spins", "clocks"] 3 2 2 rfl rfl F (He.glo_ok Z.X Z.G (Z.c.fact 36 rfl)) finV_ok sc__law_some_point (FunD.bindsN F fun _ _ _ _ _ _ us hl => match us, hl with | [_, _], _ => rfl) fun cdv A outer s H E hr =>
    (dss_cons (ds_if (dt_cm ck_gt (de_call (ok__law_spin Z) (hr.mono (by decide)) (takes_of rfl rfl rfl rfl) (da_cons (de_var 0) (da_cons (de_int) (da_nil)))) (de_int)) (dss_one (ds_ret (de_call (ok__law_point_drawn Z) (hr.mono (by decide)) (takes_of rfl rfl rfl rfl) (da_cons (de_var 0) (da_cons (de_var 1) (da_cons (de_int) (da_nil))))))) (dss_nil)) (dss_cons (ds_set nd rfl (by first | exact Or.inl rfl | exact Or.inr rfl) (de_add (de_int) (de_call (ok__law_spin Z) (hr.mono (by decide)) (takes_of rfl rfl rfl rfl) (da_cons (de_var 0) (da_cons (de_pow (de_int) (de_int)) (da_nil)))))) (dss_one (ds_ret (de_tup (da_cons (de_var 2) (da_cons (de_bi (b_tuple (He.free_ok Z.X Z.G (Z.c.fact 45 rfl))) (da_cons (de_lc (own := [("at", 3)]) nd (di_range1 (da_cons (de_var 1) (da_nil)) (He.free_ok Z.X Z.G (Z.c.fact 51 rfl))) (blkOk_by (N := ["spins", "clocks", "q", "at"]) (sc := defScope s__law_some_point) (by decide +kernel)) (fun _ _ _ _ _ => dg_nm nd rfl (by first | exact Or.inl rfl | exact Or.inr rfl)) (fun _ _ _ _ _ => dts_nil) (fun _ _ _ _ _ => de_call (ok__law_spin Z) (hr.mono (by decide)) takes0 (da_cons (de_var 0) (da_cons (de_pow (de_int) (de_int)) (da_nil))))) (da_nil))) (da_nil))))))))
theorem sc_require_pause : FnScope ["value"] ["value"] (defScope s_require_pause) := ⟨rfl, rfl, rfl, by decide +kernel, rfl, by decide +kernel, by decide +kernel⟩
theorem ok_require_pause (Z : Zx K mg h) : FD P w K mg base 5 "require_pause" 1 f_require_pause := by
  obtain ⟨fd, F⟩ := Z.c.def_ 17 (d := d_require_pause) rfl
  have nd := sc_require_pause.nd
  exact fd_mk d_require_pause ["value"] ["value"] 4 1 0 rfl rfl F (He.glo_ok Z.X Z.G (Z.c.fact 17 rfl)) finV_ok sc_require_pause (FunD.bindsN F fun _ _ _ _ _ _ us hl => match us, hl with | [_], _ => rfl) fun cdv A outer s H E hr =>
    (dss_one (ds_if (dt_not (dt_tru (de_call (ok_is_pause_in Z) (hr.mono (by decide)) (takes_of rfl rfl rfl rfl) (da_cons (de_var 0) (da_nil))))) (dss_one (ds_no)) (dss_nil)))
theorem sc_require_point : FnScope ["value"] ["value"] (defScope s_require_point) := ⟨rfl, rfl, rfl, by decide +kernel, rfl, by decide +kernel, by decide +kernel⟩
theorem ok_require_point (Z : Zx K mg h) : FD P w K mg base 5 "require_point" 1 f_require_point := by
  obtain ⟨fd, F⟩ := Z.c.def_ 18 (d := d_require_point) rfl
  have nd := sc_require_point.nd
  exact fd_mk d_require_point ["value"] ["value"] 4 1 0 rfl rfl F (He.glo_ok Z.X Z.G (Z.c.fact 18 rfl)) finV_ok sc_require_point (FunD.bindsN F fun _ _ _ _ _ _ us hl => match us, hl with | [_], _ => rfl) fun cdv A outer s H E hr =>
    (dss_one (ds_if (dt_not (dt_tru (de_call (ok_is_any_point Z) (hr.mono (by decide)) (takes_of rfl rfl rfl rfl) (da_cons (de_var 0) (da_nil))))) (dss_one (ds_no)) (dss_nil)))
theorem sc_are_same : FnScope ["one", "other"] ["one", "other"] (defScope s_are_same) := ⟨rfl, rfl, rfl, by decide +kernel, rfl, by decide +kernel, by decide +kernel⟩
theorem ok_are_same (Z : Zx K mg h) : FD P w K mg base 6 "are_same" 2 f_are_same := by
  obtain ⟨fd, F⟩ := Z.c.def_ 20 (d := d_are_same) rfl
  have nd := sc_are_same.nd
  exact fd_mk d_are_same ["one", "other"] ["one", "other"] 5 2 0 rfl rfl F (He.glo_ok Z.X Z.G (Z.c.fact 20 rfl)) finV_ok sc_are_same (FunD.bindsN F fun _ _ _ _ _ _ us hl => match us, hl with | [_, _], _ => rfl) fun cdv A outer s H E hr =>
    (dss_cons (ds_expr (de_call (ok_require_point Z) (hr.mono (by decide)) (takes_of rfl rfl rfl rfl) (da_cons (de_var 0) (da_nil)))) (dss_cons (ds_expr (de_call (ok_require_point Z) (hr.mono (by decide)) (takes_of rfl rfl rfl rfl) (da_cons (de_var 1) (da_nil)))) (dss_cons (ds_if (dt_cm (ck_ne hr) (de_call (ok_clocks_in Z) (hr.mono (by decide)) (takes_of rfl rfl rfl rfl) (da_cons (de_var 0) (da_nil))) (de_call (ok_clocks_in Z) (hr.mono (by decide)) (takes_of rfl rfl rfl rfl) (da_cons (de_var 1) (da_nil)))) (dss_one (ds_no)) (dss_nil)) (dss_one (ds_ret (de_call (ok_same_in Z) (hr.mono (by decide)) (takes_of rfl rfl rfl rfl) (da_cons (de_var 0) (da_cons (de_var 1) (da_nil)))))))))
theorem sc_later : FnScope ["point", "pause"] ["point", "pause"] (defScope s_later) := ⟨rfl, rfl, rfl, by decide +kernel, rfl, by decide +kernel, by decide +kernel⟩
theorem ok_later (Z : Zx K mg h) : FD P w K mg base 6 "later" 2 f_later := by
  obtain ⟨fd, F⟩ := Z.c.def_ 21 (d := d_later) rfl
  have nd := sc_later.nd
  exact fd_mk d_later ["point", "pause"] ["point", "pause"] 5 2 0 rfl rfl F (He.glo_ok Z.X Z.G (Z.c.fact 21 rfl)) finV_ok sc_later (FunD.bindsN F fun _ _ _ _ _ _ us hl => match us, hl with | [_, _], _ => rfl) fun cdv A outer s H E hr =>
    (dss_cons (ds_expr (de_call (ok_require_point Z) (hr.mono (by decide)) (takes_of rfl rfl rfl rfl) (da_cons (de_var 0) (da_nil)))) (dss_cons (ds_expr (de_call (ok_require_pause Z) (hr.mono (by decide)) (takes_of rfl rfl rfl rfl) (da_cons (de_var 1) (da_nil)))) (dss_one (ds_ret (de_call (ok_later_in Z) (hr.mono (by decide)) (takes_of rfl rfl rfl rfl) (da_cons (de_var 0) (da_cons (de_var 1) (da_nil))))))))
theorem sc_set_back : FnScope ["point", "clocks"] ["point", "clocks"] (defScope s_set_back) := ⟨rfl, rfl, rfl, by decide +kernel, rfl, by decide +kernel, by decide +kernel⟩
theorem ok_set_back (Z : Zx K mg h) : FD P w K mg base 6 "set_back" 2 f_set_back := by
  obtain ⟨fd, F⟩ := Z.c.def_ 22 (d := d_set_back) rfl
  have nd := sc_set_back.nd
  exact fd_mk d_set_back ["point", "clocks"] ["point", "clocks"] 5 2 0 rfl rfl F (He.glo_ok Z.X Z.G (Z.c.fact 22 rfl)) finV_ok sc_set_back (FunD.bindsN F fun _ _ _ _ _ _ us hl => match us, hl with | [_, _], _ => rfl) fun cdv A outer s H E hr =>
    (dss_cons (ds_expr (de_call (ok_require_point Z) (hr.mono (by decide)) (takes_of rfl rfl rfl rfl) (da_cons (de_var 0) (da_nil)))) (dss_cons (ds_expr (de_call (ok_require_clocks Z) (hr.mono (by decide)) (takes_of rfl rfl rfl rfl) (da_cons (de_call (ok_clocks_in Z) (hr.mono (by decide)) (takes_of rfl rfl rfl rfl) (da_cons (de_var 0) (da_nil))) (da_cons (de_var 1) (da_nil))))) (dss_one (ds_ret (de_call (ok_back_in Z) (hr.mono (by decide)) (takes_of rfl rfl rfl rfl) (da_cons (de_var 0) (da_cons (de_var 1) (da_nil))))))))
theorem sc_shown : FnScope ["point", "one", "other"] ["point", "one", "other"] (defScope s_shown) := ⟨rfl, rfl, rfl, by decide +kernel, rfl, by decide +kernel, by decide +kernel⟩
theorem ok_shown (Z : Zx K mg h) : FD P w K mg base 6 "shown" 3 f_shown := by
  obtain ⟨fd, F⟩ := Z.c.def_ 24 (d := d_shown) rfl
  have nd := sc_shown.nd
  exact fd_mk d_shown ["point", "one", "other"] ["point", "one", "other"] 5 3 0 rfl rfl F (He.glo_ok Z.X Z.G (Z.c.fact 24 rfl)) finV_ok sc_shown (FunD.bindsN F fun _ _ _ _ _ _ us hl => match us, hl with | [_, _, _], _ => rfl) fun cdv A outer s H E hr =>
    (dss_cons (ds_expr (de_call (ok_require_point Z) (hr.mono (by decide)) (takes_of rfl rfl rfl rfl) (da_cons (de_var 0) (da_nil)))) (dss_cons (ds_expr (de_call (ok_require_within Z) (hr.mono (by decide)) (takes_of rfl rfl rfl rfl) (da_cons (de_var 1) (da_cons (de_int) (da_cons (de_call (ok_clocks_in Z) (hr.mono (by decide)) (takes_of rfl rfl rfl rfl) (da_cons (de_var 0) (da_nil))) (da_nil)))))) (dss_cons (ds_expr (de_call (ok_require_within Z) (hr.mono (by decide)) (takes_of rfl rfl rfl rfl) (da_cons (de_var 2) (da_cons (de_int) (da_cons (de_call (ok_clocks_in Z) (hr.mono (by decide)) (takes_of rfl rfl rfl rfl) (da_cons (de_var 0) (da_nil))) (da_nil)))))) (dss_one (ds_ret (de_call (ok_lowest_in Z) (hr.mono (by decide)) (takes_of rfl rfl rfl rfl) (da_cons (de_call (ok_shown_in Z) (hr.mono (by decide)) (takes_of rfl rfl rfl rfl) (da_cons (de_var 0) (da_cons (de_var 1) (da_cons (de_var 2) (da_nil))))) (da_nil))))))))
theorem sc__law_right : FnScope ["spins", "clocks", "point", "pause", "more", "behind", "both", "some", "one", "other", "told", "less", "shared", "wide", "far", "near", "clock", "value"] ["spins"] (defScope s__law_right) := ⟨rfl, rfl, rfl, by decide +kernel, rfl, by decide +kernel, by decide +kernel⟩
theorem ok__law_right (Z : Zx K mg h) : FD P w K mg base 7 "_law_right" 1 f__law_right := by
  obtain ⟨fd, F⟩ := Z.c.def_ 37 (d := d__law_right) rfl
  have nd := sc__law_right.nd
  exact fd_mk d__law_right ["spins", "clocks", "point", "pause", "more", "behind", "both", "some", "one", "other", "told", "less", "shared", "wide", "far", "near", "clock", "value"] ["spins"] 6 1 17 rfl rfl F (He.glo_ok Z.X Z.G (Z.c.fact 37 rfl)) finV_ok sc__law_right (FunD.bindsN F fun _ _ _ _ _ _ us hl => match us, hl with | [_], _ => rfl) fun cdv A outer s H E hr =>
    (dss_cons (ds_set nd rfl (by first | exact Or.inl rfl | exact Or.inr rfl) (de_call (ok__law_spin Z) (hr.mono (by decide)) (takes_of rfl rfl rfl rfl) (da_cons (de_var 0) (da_cons (de_int) (da_nil))))) (dss_cons (ds_par3 nd rfl rfl rfl rfl rfl rfl (da_cons (de_call (ok__law_some_point Z) (hr.mono (by decide)) (takes_of rfl rfl rfl rfl) (da_cons (de_var 0) (da_cons (de_var 1) (da_nil)))) (da_cons (de_call (ok__law_pause_drawn Z) (hr.mono (by decide)) (takes_of rfl rfl rfl rfl) (da_cons (de_var 0) (da_cons (de_int) (da_nil)))) (da_cons (de_call (ok__law_pause_drawn Z) (hr.mono (by decide)) (takes_of rfl rfl rfl rfl) (da_cons (de_var 0) (da_cons (de_int) (da_nil)))) (da_nil))))) (dss_cons (ds_set nd rfl (by first | exact Or.inl rfl | exact Or.inr rfl) (de_call (ok_later Z) (hr.mono (by decide)) (takes_of rfl rfl rfl rfl) (da_cons (de_var 2) (da_cons (de_var 3) (da_nil))))) (dss_cons (ds_if (dt_cm (ck_ne hr) (de_var 5) (de_call (ok__law_plain Z) (hr.mono (by decide)) (takes_of rfl rfl rfl rfl) (da_cons (de_call (ok__law_later Z) (hr.mono (by decide)) (takes_of rfl rfl rfl rfl) (da_cons (de_var 2) (da_cons (de_ix (fun _ _ => rfl) (de_var 3) (de_int)) (da_cons (de_ix (fun _ _ => rfl) (de_var 3) (de_int)) (da_nil))))) (da_nil)))) (dss_one (ds_ret (de_bl))) (dss_nil)) (dss_cons (ds_set nd rfl (by first | exact Or.inl rfl | exact Or.inr rfl) (de_tup (da_cons (de_add (de_mul (de_ix (fun _ _ => rfl) (de_var 3) (de_int)) (de_ix (fun _ _ => rfl) (de_var 4) (de_int))) (de_mul (de_ix (fun _ _ => rfl) (de_var 4) (de_int)) (de_ix (fun _ _ => rfl) (de_var 3) (de_int)))) (da_cons (de_mul (de_ix (fun _ _ => rfl) (de_var 3) (de_int)) (de_ix (fun _ _ => rfl) (de_var 4) (de_int))) (da_nil))))) (dss_cons (ds_if (dt_w (dw_or (dt_cm (ck_ne hr) (de_call (ok_later Z) (hr.mono (by decide)) (takes_of rfl rfl rfl rfl) (da_cons (de_var 5) (da_cons (de_var 4) (da_nil)))) (de_call (ok_later Z) (hr.mono (by decide)) (takes_of rfl rfl rfl rfl) (da_cons (de_var 2) (da_cons (de_var 6) (da_nil))))) (dw_or1 (dt_cm (ck_ne hr) (de_call (ok_later Z) (hr.mono (by decide)) (takes_of rfl rfl rfl rfl) (da_cons (de_var 2) (da_cons (de_tup (da_cons (de_int) (da_cons (de_int) (da_nil)))) (da_nil)))) (de_call (ok__law_plain Z) (hr.mono (by decide)) (takes_of rfl rfl rfl rfl) (da_cons (de_var 2) (da_nil))))))) (dss_one (ds_ret (de_bl))) (dss_nil)) (dss_cons (ds_set nd rfl (by first | exact Or.inl rfl | exact Or.inr rfl) (de_bi (b_tuple (He.free_ok Z.X Z.G (Z.c.fact 45 rfl))) (da_cons (de_lc (own := [("clock", 16)]) nd (di_range2 (da_cons (de_int) (da_cons (de_add (de_var 1) (de_int)) (da_nil))) (He.free_ok Z.X Z.G (Z.c.fact 51 rfl))) (blkOk_by (N := ["spins", "clocks", "point", "pause", "more", "behind", "both", "some", "one", "other", "told", "less", "shared", "wide", "far", "near", "clock", "value"]) (sc := defScope s__law_right) (by decide +kernel)) (fun _ _ _ _ _ => dg_nm nd rfl (by first | exact Or.inl rfl | exact Or.inr rfl)) (fun _ _ _ _ _ => dts_one (dt_cm (ck_eq hr) (de_call (ok__law_spin Z) (hr.mono (by decide)) takes0 (da_cons (de_var 0) (da_cons (de_int) (da_nil)))) (de_int))) (fun _ _ _ _ _ => de_var 16)) (da_nil)))) (dss_cons (ds_if (dt_w (dw_or (dt_cm (ck_ne hr) (de_call (ok_set_back Z) (hr.mono (by decide)) (takes_of rfl rfl rfl rfl) (da_cons (de_var 2) (da_cons (de_var 7) (da_nil)))) (de_call (ok__law_plain Z) (hr.mono (by decide)) (takes_of rfl rfl rfl rfl) (da_cons (de_call (ok__law_set_back Z) (hr.mono (by decide)) (takes_of rfl rfl rfl rfl) (da_cons (de_var 2) (da_cons (de_var 7) (da_nil)))) (da_nil)))) (dw_or1 (dt_cm (ck_ne hr) (de_call (ok_set_back Z) (hr.mono (by decide)) (takes_of rfl rfl rfl rfl) (da_cons (de_call (ok_set_back Z) (hr.mono (by decide)) (takes_of rfl rfl rfl rfl) (da_cons (de_var 2) (da_cons (de_var 7) (da_nil)))) (da_cons (de_var 7) (da_nil)))) (de_call (ok_set_back Z) (hr.mono (by decide)) (takes_of rfl rfl rfl rfl) (da_cons (de_var 2) (da_cons (de_var 7) (da_nil)))))))) (dss_one (ds_ret (de_bl))) (dss_nil)) (dss_cons (ds_for (passes_of rfl) (di_range1 (da_cons (de_add (de_var 1) (de_int)) (da_nil)) (He.free_ok Z.X Z.G (Z.c.fact 51 rfl))) (dg_nm nd rfl (by first | exact Or.inl rfl | exact Or.inr rfl)) (dss_one (ds_for (passes_of rfl) (di_range1 (da_cons (de_add (de_var 1) (de_int)) (da_nil)) (He.free_ok Z.X Z.G (Z.c.fact 51 rfl))) (dg_nm nd rfl (by first | exact Or.inl rfl | exact Or.inr rfl)) (dss_cons (ds_set nd rfl (by first | exact Or.inl rfl | exact Or.inr rfl) (de_call (ok_shown Z) (hr.mono (by decide)) (takes_of rfl rfl rfl rfl) (da_cons (de_var 2) (da_cons (de_var 8) (da_cons (de_var 9) (da_nil)))))) (dss_cons (ds_set nd rfl (by first | exact Or.inl rfl | exact Or.inr rfl) (de_sub (de_call (ok__law_shown Z) (hr.mono (by decide)) (takes_of rfl rfl rfl rfl) (da_cons (de_var 2) (da_cons (de_var 8) (da_nil)))) (de_call (ok__law_shown Z) (hr.mono (by decide)) (takes_of rfl rfl rfl rfl) (da_cons (de_var 2) (da_cons (de_var 9) (da_nil)))))) (dss_cons (ds_set nd rfl (by first | exact Or.inl rfl | exact Or.inr rfl) (de_call (ok__law_shared Z) (hr.mono (by decide)) (takes_of rfl rfl rfl rfl) (da_cons (de_tup (da_cons (de_ix (fun _ _ => rfl) (de_var 2) (de_int)) (da_cons (de_bi (b_abs (He.free_ok Z.X Z.G (Z.c.fact 46 rfl))) (da_cons (de_var 11) (da_nil))) (da_nil)))) (da_nil)))) (dss_cons (ds_if (dt_cm (ck_ne hr) (de_var 10) (de_tup (da_cons (de_fdiv (de_var 11) (de_var 12)) (da_cons (de_fdiv (de_ix (fun _ _ => rfl) (de_var 2) (de_int)) (de_var 12)) (da_nil))))) (dss_one (ds_ret (de_bl))) (dss_nil)) (dss_one (ds_if (dt_w (dw_and (dt_cm (ck_ne hr) (de_call (ok_shown Z) (hr.mono (by decide)) (takes_of rfl rfl rfl rfl) (da_cons (de_var 5) (da_cons (de_var 8) (da_cons (de_var 9) (da_nil))))) (de_var 10)) (dw_and1 (dt_cm ck_gt (de_mul (de_var 8) (de_var 9)) (de_int))))) (dss_one (ds_ret (de_bl))) (dss_nil)))))))))) (dss_cons (ds_set nd rfl (by first | exact Or.inl rfl | exact Or.inr rfl) (de_tup (da_cons (de_mul (de_ix (fun _ _ => rfl) (de_var 2) (de_int)) (de_int)) (da_cons (de_bi (b_tuple (He.free_ok Z.X Z.G (Z.c.fact 45 rfl))) (da_cons (de_lc (own := [("value", 17)]) nd (di_seq (de_ix (fun _ _ => rfl) (de_var 2) (de_int))) (blkOk_by (N := ["spins", "clocks", "point", "pause", "more", "behind", "both", "some", "one", "other", "told", "less", "shared", "wide", "far", "near", "clock", "value"]) (sc := defScope s__law_right) (by decide +kernel)) (fun _ _ _ _ _ => dg_nm nd rfl (by first | exact Or.inl rfl | exact Or.inr rfl)) (fun _ _ _ _ _ => dts_nil) (fun _ _ _ _ _ => de_mul (de_int) (de_var 17))) (da_nil))) (da_nil))))) (dss_cons (ds_set nd rfl (by first | exact Or.inl rfl | exact Or.inr rfl) (de_tup (da_cons (de_ix (fun _ _ => rfl) (de_var 2) (de_int)) (da_cons (de_bi (b_tuple (He.free_ok Z.X Z.G (Z.c.fact 45 rfl))) (da_cons (de_lc (own := [("value", 17)]) nd (di_seq (de_ix (fun _ _ => rfl) (de_var 2) (de_int))) (blkOk_by (N := ["spins", "clocks", "point", "pause", "more", "behind", "both", "some", "one", "other", "told", "less", "shared", "wide", "far", "near", "clock", "value"]) (sc := defScope s__law_right) (by decide +kernel)) (fun _ _ _ _ _ => dg_nm nd rfl (by first | exact Or.inl rfl | exact Or.inr rfl)) (fun _ _ _ _ _ => dts_nil) (fun _ _ _ _ _ => de_add (de_var 17) (de_int))) (da_nil))) (da_nil))))) (dss_cons (ds_if (dt_w (dw_or (dt_not (dt_tru (de_call (ok_are_same Z) (hr.mono (by decide)) (takes_of rfl rfl rfl rfl) (da_cons (de_var 2) (da_cons (de_var 13) (da_nil)))))) (dw_or1 (dt_cm (ck_ne hr) (de_call (ok_are_same Z) (hr.mono (by decide)) (takes_of rfl rfl rfl rfl) (da_cons (de_var 13) (da_cons (de_var 14) (da_nil)))) (de_cm (ck_eq hr) (de_var 1) (de_int)))))) (dss_one (ds_ret (de_bl))) (dss_nil)) (dss_cons (ds_set nd rfl (by first | exact Or.inl rfl | exact Or.inr rfl) (de_lst (da_cons (de_var 2) (da_cons (de_var 13) (da_cons (de_var 14) (da_cons (de_bi (b_list (He.free_ok Z.X Z.G (Z.c.fact 53 rfl))) (da_cons (de_var 2) (da_nil))) (da_cons (de_sl (de_var 2) (do_none) (do_some (de_int))) (da_cons (de_add (de_var 2) (de_tup (da_cons (de_int) (da_nil)))) (da_cons (de_tup (da_cons (de_int) (da_cons (de_ix (fun _ _ => rfl) (de_var 2) (de_int)) (da_nil)))) (da_cons (de_tup (da_cons (de_ix (fun _ _ => rfl) (de_var 2) (de_int)) (da_cons (de_bi (b_list (He.free_ok Z.X Z.G (Z.c.fact 53 rfl))) (da_cons (de_ix (fun _ _ => rfl) (de_var 2) (de_int)) (da_nil))) (da_nil)))) (da_cons (de_non) (da_cons (de_int) (da_cons (de_str) (da_cons (de_dnil) (da_nil))))))))))))))) (dss_cons (ds_set nd rfl (by first | exact Or.inl rfl | exact Or.inr rfl) (de_add (de_var 15) (de_lst (da_cons (de_tup (da_cons (de_ix (fun _ _ => rfl) (de_var 2) (de_int)) (da_cons (de_add (de_ix (fun _ _ => rfl) (de_var 2) (de_int)) (de_tup (da_cons (de_int) (da_nil)))) (da_nil)))) (da_cons (de_tup (da_cons (de_bl) (da_cons (de_ix (fun _ _ => rfl) (de_var 2) (de_int)) (da_nil)))) (da_cons (de_tup (da_cons (de_ix (fun _ _ => rfl) (de_var 2) (de_int)) (da_cons (de_sl (de_ix (fun _ _ => rfl) (de_var 2) (de_int)) (do_some (de_int)) (do_none)) (da_nil)))) (da_cons (de_tup (da_cons (de_ix (fun _ _ => rfl) (de_var 2) (de_int)) (da_cons (de_mul4 (de_tup (da_cons (de_sub (de_int) (de_int)) (da_nil))) (de_var 1)) (da_nil)))) (da_nil)))))))) (dss_cons (ds_set nd rfl (by first | exact Or.inl rfl | exact Or.inr rfl) (de_add (de_var 15) (de_lst (da_cons (de_tup (da_cons (de_pow (de_int) (de_int)) (da_cons (de_ix (fun _ _ => rfl) (de_var 2) (de_int)) (da_nil)))) (da_cons (de_tup (da_cons (de_int) (da_cons (de_mul4 (de_tup (da_cons (de_bl) (da_nil))) (de_var 1)) (da_nil)))) (da_cons (de_tup (da_cons (de_int) (da_cons (de_mul4 (de_tup (da_cons (de_str) (da_nil))) (de_var 1)) (da_nil)))) (da_cons (de_tup (da_cons (de_neg (de_int)) (da_cons (de_ix (fun _ _ => rfl) (de_var 2) (de_int)) (da_nil)))) (da_nil)))))))) (dss_one (ds_ret (de_cm (ck_eq hr) (de_lc (own := [("value", 17)]) nd (di_seq (de_var 15)) (blkOk_by (N := ["spins", "clocks", "point", "pause", "more", "behind", "both", "some", "one", "other", "told", "less", "shared", "wide", "far", "near", "clock", "value"]) (sc := defScope s__law_right) (by decide +kernel)) (fun _ _ _ _ _ => dg_nm nd rfl (by first | exact Or.inl rfl | exact Or.inr rfl)) (fun _ _ _ _ _ => dts_one (dt_cm (ck_ne hr) (de_bi (b_repr (He.free_ok Z.X Z.G (Z.c.fact 54 rfl))) (da_cons (de_call (ok_is_point Z) (hr.mono (by decide)) takes0 (da_cons (de_var 1) (da_cons (de_var 17) (da_nil)))) (da_nil))) (de_bi (b_repr (He.free_ok Z.X Z.G (Z.c.fact 54 rfl))) (da_cons (de_call (ok__law_is_point Z) (hr.mono (by decide)) takes0 (da_cons (de_var 1) (da_cons (de_var 17) (da_nil)))) (da_nil))))) (fun _ _ _ _ _ => de_var 17)) (de_lst (da_nil))))))))))))))))))))
theorem sc_law : FnScope ["script", "spot", "spins", "turn", "told"] ["script"] (defScope s_law) := ⟨rfl, rfl, rfl, by decide +kernel, rfl, by decide +kernel, by decide +kernel⟩
theorem ok_law {f : Addr} {fd : FuncData} (Z : Zx K mg h) (F : FunD K d_law.name d_law.qual d_law.params d_law.body d_law.scope (d_law.dvs K) (d_law.kws K) f fd) : FnOk P w K mg base (L2.CX P w) 8 f fd ["script"] (spD K mg 1 f_law) := by
  have nd := sc_law.nd
  exact fn_mk' d_law ["script", "spot", "spins", "turn", "told"] ["script"] 7 1 4 rfl rfl F finV_ok sc_law fun cdv A outer s H E hr =>
    (dss_cons (ds_for (passes_of rfl) (di_range1 (da_cons (de_bi (b_max (He.free_ok Z.X Z.G (Z.c.fact 47 rfl))) (da_cons (de_int) (da_cons (de_bi (b_min (He.free_ok Z.X Z.G (Z.c.fact 55 rfl))) (da_cons (de_int) (da_cons (de_bi (b_len (He.free_ok Z.X Z.G (Z.c.fact 44 rfl))) (da_cons (de_var 0) (da_nil))) (da_nil)))) (da_nil)))) (da_nil)) (He.free_ok Z.X Z.G (Z.c.fact 51 rfl))) (dg_nm nd rfl (by first | exact Or.inl rfl | exact Or.inr rfl)) (dss_cons (ds_set nd rfl (by first | exact Or.inl rfl | exact Or.inr rfl) (de_call (ok__law_spins Z) (hr.mono (by decide)) (takes_of rfl rfl rfl rfl) (da_cons (de_var 0) (da_cons (de_var 1) (da_nil))))) (dss_one (ds_for (passes_of rfl) (di_range1 (da_cons (de_int) (da_nil)) (He.free_ok Z.X Z.G (Z.c.fact 51 rfl))) (dg_nm nd rfl (by first | exact Or.inl rfl | exact Or.inr rfl)) (dss_one (ds_if (dt_not (dt_tru (de_call (ok__law_right Z) (hr.mono (by decide)) (takes_of rfl rfl rfl rfl) (da_cons (de_var 2) (da_nil))))) (dss_one (ds_ret (de_bl))) (dss_nil))))))) (dss_cons (ds_set nd rfl (by first | exact Or.inl rfl | exact Or.inr rfl) (de_lst (da_cons (de_call (ok_later Z) (hr.mono (by decide)) (takes_of rfl rfl rfl rfl) (da_cons (de_tup (da_cons (de_int) (da_cons (de_tup (da_cons (de_int) (da_cons (de_int) (da_nil)))) (da_nil)))) (da_cons (de_tup (da_cons (de_int) (da_cons (de_int) (da_nil)))) (da_nil)))) (da_cons (de_call (ok_set_back Z) (hr.mono (by decide)) (takes_of rfl rfl rfl rfl) (da_cons (de_tup (da_cons (de_int) (da_cons (de_tup (da_cons (de_int) (da_cons (de_int) (da_nil)))) (da_nil)))) (da_cons (de_tup (da_cons (de_int) (da_nil))) (da_nil)))) (da_cons (de_call (ok_set_back Z) (hr.mono (by decide)) (takes_of rfl rfl rfl rfl) (da_cons (de_tup (da_cons (de_int) (da_cons (de_tup (da_cons (de_int) (da_cons (de_int) (da_nil)))) (da_nil)))) (da_cons (de_tup (da_nil)) (da_nil)))) (da_cons (de_call (ok_later Z) (hr.mono (by decide)) (takes_of rfl rfl rfl rfl) (da_cons (de_tup (da_cons (de_int) (da_cons (de_tup (da_nil)) (da_nil)))) (da_cons (de_tup (da_cons (de_int) (da_cons (de_int) (da_nil)))) (da_nil)))) (da_nil))))))) (dss_one (ds_ret (de_cm (ck_eq hr) (de_var 4) (de_lst (da_cons (de_tup (da_cons (de_int) (da_cons (de_tup (da_cons (de_int) (da_cons (de_int) (da_nil)))) (da_nil)))) (da_cons (de_tup (da_cons (de_int) (da_cons (de_tup (da_cons (de_int) (da_cons (de_int) (da_nil)))) (da_nil)))) (da_cons (de_tup (da_cons (de_int) (da_cons (de_tup (da_cons (de_int) (da_cons (de_int) (da_nil)))) (da_nil)))) (da_cons (de_tup (da_cons (de_int) (da_cons (de_tup (da_nil)) (da_nil)))) (da_nil)))))))))))
end
abbrev R : PySem.W.OpenRow := PySem.W.OpenLaw.row PySem.Challenge.rw_pauseplay_k03_whole_points_behind_pauses
abbrev hk : PySem.W.Hook := hookL 4 fa fn xf
def ob (s : PySem.W.SharedT) : AlL := obsL 4 fa fn xf (HandSHeadRun.getT s)
theorem ob_eq (s : PySem.W.SharedT) : ob s = hk.obs s.abs := obsL_eq (HandSHeadRun.getT_eq s)
def loose : List Str := (["PlayError", "InvalidPoint", "InvalidOperation", "InvalidNumber", "SIXTY", "is_whole", "is_integer", "is_within", "is_ascending", "are_indices", "require_within", "MOST_CLOCKS", "PAIR", "is_fraction_in", "is_pause_in", "lowest_in", "is_point_in", "clocks_in", "lowest_point_in", "same_in", "later_in", "back_in", "shown_in", "is_any_point", "require_pause", "require_point", "is_point", "are_same", "later", "set_back"] : List Str) ++ (["require_clocks", "shown", "_law_spins", "_law_spin", "_law_among", "_law_shown", "_law_later", "_law_set_back", "_law_point_drawn", "_law_pause_drawn", "_law_shared", "_law_plain", "_law_is_point", "_law_some_point", "_law_right"] : List Str)
theorem run (w : World) : HandSHeadRun.RunEqI R (PySem.W.view R.prog [0, 50]) hk ob 6000 loose w := by
  unfold HandSHeadRun.RunEqI
  kernel_rfl
/-- the law's answer at every list of ints -/
def Answers : Prop := ∀ ns : List Int, ns.length ≤ 63 → ∃ h', f_law [.frz (ns.map .int)] [] = .ok (.bl true) h'
theorem frz_ints {K : PySem.W.Frag} {H : Hp} {as : List Addr} : ∀ ns : List Int, RVs K H as (ns.map .int) (ns.map V.int)
  | [] => .nil
  | n :: ns => .cons (.int n) (frz_ints ns)
theorem sp_law (an : Answers) {K : PySem.W.Frag} {mg : Str → Option Value} {H : Hp} {a : Addr} {ns : List Int} (hl : ns.length ≤ 63) (hO : Only H) (hS : SqL K H a (ns.map V.int)) : spD K mg 1 f_law [.ref a] H (fun v _ => v = .bl true) fun _ _ _ => False := by
  refine ⟨rfl, [], [.frz (ns.map .int)], [], .cons (.val (.frz ?_ (frz_ints ns))) .nil, ⟨rfl, .nil, fun n d b e _ => nomatch e⟩, ?_⟩
  · rcases hS with (h | ⟨o, h⟩) | h
    · rcases hO a with z | ⟨o, xs, z⟩
      · rw [h] at z; cases z
      · rw [h] at z; cases z
    · exact .inl ⟨o, h⟩
    · exact .inr h
  · obtain ⟨h', e⟩ := an ns hl
    rw [e]
    intro v H' as' _ r _
    cases r with
    | val r => cases r; rfl
theorem facts {P : Program} {w : World} {K : PySem.W.Frag} {h : Heap} {mg : Str → Option Value} {f : Addr} (Z : Zx K mg h) (hfa : mg ("law" : Str) = some (.ref f)) :
    ∃ fd : FuncData, (∀ (s : Shared) (v : Value), BindsTo s fd ⟨[v], []⟩ [("script", v)]) ∧ ∀ base : Heap, K.In base → base.Ns mainGlobals mg → FnOk P w K mg base CX0 8 f fd ["script"] (fun vs H Q _ => spD K mg 1 f_law vs H Q E0) := by
  obtain ⟨fd, F⟩ := Z.c.def_ 38 (d := d_law) rfl
  have e := hfa.symm.trans (He.glo_ok Z.X Z.G (Z.c.fact 38 (f := .glo "law") rfl))
  cases e
  have b := FunD.bindsA (ps := ["script"]) F fun _ _ _ _ _ _ us hl => match us, hl with | [_], _ => rfl
  refine ⟨fd, fun s v => b s [v] rfl, fun base _ _ => ?_⟩
  exact fn_quiet (ok_law (P := P) (w := w) (base := base) Z F)
end W
section
open PySem PySem.W PySem.Calls PyProof.Rows
theorem W.main (an : W.Answers) : PySem.Challenge.rw_pauseplay_k03_whole_points_behind_pauses.Holds := by
  w_on; o_law
  refine HandSHeadRun.head_imp (r := OpenLaw.row PySem.Challenge.rw_pauseplay_k03_whole_points_behind_pauses) (q := view (OpenLaw.row PySem.Challenge.rw_pauseplay_k03_whole_points_behind_pauses).prog [0, 50]) (H := W.hk) (ob := W.ob) (M := 6000) (loose := W.loose) (d := HandSHeadRun.topDef (OpenLaw.row PySem.Challenge.rw_pauseplay_k03_whole_points_behind_pauses).prog 50) (kwd := []) W.ob_eq
    W.run (by kernel_rfl) (by kernel_rfl) (by kernel_rfl) (by rfl) (by first | assumption | decide +kernel) (by decide +kernel) ⟨rfl, rfl, rfl, rfl, rfl, by decide +kernel⟩ ?hw ?hc
  case hw => w_witness2
  case hc =>
    refine L2.walk_ofE (l := PySem.Challenge.rw_pauseplay_k03_whole_points_behind_pauses) (n := 63) (k := 8) (x := "script") (CX := L2.CX0) rfl (by decide) (by kernel_rfl) ⟨rfl, by decide, by decide⟩ ?F (fun _ _ _ _ z => z)
    intro w mg fa h Y G hmg0
    obtain ⟨K, KX, c⟩ := Y
    have hmg : mg ("law" : PySem.Str) = some (.ref fa) := by
      have e : (HandSHeadRun.topDef (OpenLaw.row PySem.Challenge.rw_pauseplay_k03_whole_points_behind_pauses).prog 50).name = ("law" : PySem.Str) := by kernel_rfl
      rw [← e]
      exact hmg0
    obtain ⟨fd, hb, hF⟩ := W.facts (P := (PySem.Challenge.rw_pauseplay_k03_whole_points_behind_pauses).prog) (w := w) ⟨KX, G, c⟩ hmg
    exact ⟨K, fd, fun vs H Q _ => DL.spD K mg 1 W.f_law vs H Q L2.E0, KX, hb, fun H a ns hl hO hS => W.sp_law an hl hO hS, hF⟩
end

set_option Elab.async false
set_option linter.all false
set_option maxRecDepth 100000
set_option maxHeartbeats 1000000
set_option exponentiation.threshold 5000
namespace W
open PySem PySem.Spec PyProof.Rows L2 DL
local macro_rules | `(tactic| wtm_at "v1") => `(tactic| first
  | ((with_reducible apply w_var); exact rfl)
  | with_reducible refine w_c ?_
  | with_reducible refine w_nil ?_
  | with_reducible refine w_cons ?_
  | with_reducible refine w_bin ?_
  | with_reducible refine w_call ?_
  | with_reducible refine w_b ?_
  | with_reducible refine w_tb ?_
  | with_reducible refine w_tru ?_
  | with_reducible refine w_un ?_
  | with_reducible refine w_tup ?_
  | with_reducible refine w_lst ?_
  | with_reducible refine w_new ?_
  | with_reducible refine w_star ?_
  | with_reducible refine w_notT ?_
  | with_reducible refine w_andT ?_
  | with_reducible refine w_orT ?_
  | with_reducible refine w_if ?_
  | with_reducible refine w_andV ?_
  | with_reducible refine w_orV ?_
  | with_reducible refine w_notV ?_
  | with_reducible refine w_chain ?_
  | with_reducible refine w_sl ?_
  | with_reducible refine w_noPart ?_
  | with_reducible refine w_part ?_
  | with_reducible refine w_rev ?_
  | with_reducible refine w_seq ?_
  | with_reducible refine w_srcA ?_
  | with_reducible refine w_srcR ?_
  | with_reducible refine w_yes ?_
  | with_reducible refine v_seq ?_
  | with_reducible refine v_asg ?_
  | with_reducible refine v_if ?_
  | with_reducible refine v_ret ?_
  | with_reducible refine v_pass ?_
  | with_reducible refine v_retN ?_
  | with_reducible refine v_par2 ?_
  | with_reducible refine v_par3 ?_
  | with_reducible refine v_drop ?_
  | with_reducible refine v_put ?_
  | with_reducible refine v_app ?_
  | with_reducible refine v_brk ?_
  | with_reducible refine v_cnt ?_)
local macro_rules | `(tactic| wtm_at "o1") => `(tactic| first
  | ((with_reducible refine o_asg1 ?_); simp only [List.set_cons_zero, List.set_cons_succ])
  | ((with_reducible apply o_asg2); exact rfl; simp only [List.set_cons_zero, List.set_cons_succ])
  | ((with_reducible apply o_asg3); exact rfl; simp only [List.set_cons_zero, List.set_cons_succ])
  | ((with_reducible apply o_asg4); exact rfl; simp only [List.set_cons_zero, List.set_cons_succ])
  | ((with_reducible apply o_isBl); exact rfl)
  | ((with_reducible apply o_truB); exact rfl)
  | ((with_reducible apply o_truI); exact rfl)
  | with_reducible refine o_bindBl ?_
  | ((with_reducible apply o_ix); exact rfl; exact rfl; exact rfl; exact rfl; exact rfl)
  | ((with_reducible apply o_addI); exact rfl; exact rfl)
  | ((with_reducible apply o_subI); exact rfl; exact rfl)
  | ((with_reducible apply o_ltI); exact rfl; exact rfl)
  | ((with_reducible apply o_leI); exact rfl; exact rfl)
  | ((with_reducible apply o_gtI); exact rfl; exact rfl)
  | ((with_reducible apply o_geI); exact rfl; exact rfl)
  | ((with_reducible apply o_eqI); exact rfl; exact rfl)
  | ((with_reducible apply o_neI); exact rfl; exact rfl)
  | ((with_reducible apply o_negI); exact rfl)
  | ((with_reducible apply o_modI); exact rfl; exact rfl; (first | decide | omega))
  | ((with_reducible apply o_mulI); exact rfl; exact rfl; (first | exact sm (by omega) (by omega) | assumption); (first | exact sm (by omega) (by omega) | assumption))
  | ((with_reducible apply o_fdivI); exact rfl; exact rfl; (first | decide | omega); (first | exact sm (by omega) (by omega) | assumption))
  | ((with_reducible apply o_isN); exact rfl)
  | ((with_reducible apply o_notN); exact rfl)
  | ((with_reducible apply o_lenT); exact rfl)
  | ((with_reducible apply o_lenL); exact rfl)
  | ((with_reducible apply o_lenF); exact rfl)
  | ((with_reducible apply o_abs); exact rfl)
  | ((with_reducible apply o_int); exact rfl)
  | ((with_reducible apply o_intB); exact rfl)
  | ((with_reducible apply o_max); exact rfl)
  | ((with_reducible apply o_min); exact rfl)
  | ((with_reducible apply o_gcd); exact rfl)
  | ((with_reducible apply o_tupL); exact rfl)
  | ((with_reducible apply o_tupT); exact rfl)
  | ((with_reducible apply o_lst); exact rfl; exact rfl)
  | ((with_reducible apply o_isi (b := true)); exact rfl; exact rfl; decide +kernel)
  | ((with_reducible apply o_isi (b := false)); exact rfl; exact rfl; decide +kernel)
  | ((with_reducible apply wO_some); assumption))
local macro_rules | `(tactic| wtm_at "s1") => `(tactic| first
  | refine ⟨rfl, ?_⟩
  | refine ⟨_, _, rfl, ?_⟩
  | refine ⟨_, _, _, rfl, ?_⟩
  | refine ⟨_, rfl, ?_⟩
  | (refine ⟨_, _, _, rfl, rfl, rfl, rfl, ?_⟩; simp only [List.set_cons_zero, List.set_cons_succ, Int.reduceToNat])
  | ((with_reducible refine ⟨⟨?_, ?_⟩, ?_⟩); (focus (simp only [List.length_cons, List.length_nil]; omega)); (focus (simp only [List.any_cons, List.any_nil, Bool.or_false, Bool.or_eq_false_iff]; repeat' (first | exact rfl | assumption | refine ⟨?_, ?_⟩))))
  | ((with_reducible refine ⟨fun hb => ?_, fun hb => ?_⟩) <;> (try simp only [decide_eq_true_eq, decide_eq_false_iff_not, Bool.not_eq_true', Bool.not_eq_false', List.length_cons, List.length_nil] at hb) <;> (try (first | (exfalso; omega) | exact absurd hb (by decide) | (cases hb; done))))
  | ((with_reducible apply wF_val); (first | exact rfl | assumption); (try simp only [List.length_cons, List.take_succ_cons, List.take_length])))
local macro_rules | `(tactic| wtm_at "vc") => `(tactic| repeat' (first | wtm_at "v1" | wtm_at "o1" | wtm_at "s1"))

theorem pow_ok {i j : Int} (h : 0 ≤ j ∧ (Builtin.Int.intBits i : Int) * j ≤ 2 ^ 27) : powD (.int i) (.int j) = some (.int (i ^ j.toNat)) := by rw [powD, if_pos h]
/-- the draws' cell -/
def Sp (m : Int) (s : D) : Prop := ∃ a b c : Int, s = .lst [.int a, .int b, .int c] ∧ 0 ≤ a ∧ 0 ≤ b ∧ b < 2 ^ 80 ∧ 0 ≤ c ∧ c ≤ m
theorem Sp.mono {m n : Int} {h : D} (s : Sp m h) (e : m ≤ n) : Sp n h := by
  obtain ⟨a, b, c, h1, h2, h3, h4, h5, h6⟩ := s
  exact ⟨a, b, c, h1, h2, h3, h4, h5, by omega⟩
theorem spin_w {m t : Int} {s : D} {tl : Hs} {E : XP} {Q : D → Hs → Prop} (S : Sp m s) (hm : m < 2 ^ 60) (h0 : 0 < t) (ht : t < 2 ^ 1000) (q : ∀ r s', 0 ≤ r → r < t → Sp (m + 1) s' → Q (.int r) (s' :: tl)) : wR (f__law_spin [.loc 0, .int t] (s :: tl)) E Q := by
  obtain ⟨a, b, c, rfl, ha, hb, hb2, hc, hcm⟩ := S
  refine v_fun rfl ?_
  unfold b__law_spin
  simp only [List.map_cons, List.map_nil, List.replicate, List.cons_append, List.nil_append]
  wtm_at "vc"
  · exact q _ _ (Int.emod_nonneg _ (by omega)) (Int.emod_lt_of_pos _ h0) ⟨_, _, _, rfl, Int.ediv_nonneg ha (by omega), hb, hb2, hc, by omega⟩
  · exact q _ _ (Int.emod_nonneg _ (by omega)) (Int.emod_lt_of_pos _ h0) ⟨_, _, _, rfl, ha, hb, hb2, by omega, by omega⟩
local macro_rules | `(tactic| wtm_at "s1") => `(tactic| ((with_reducible refine spin_w (by assumption) (by omega) (by omega) (by omega) ?_); intro _ _ _ _ _))
theorem among_w {m : Int} {s : D} {l : List D} {tl : Hs} {E : XP} {Q : D → Hs → Prop} (S : Sp m s) (hm : m < 2 ^ 60) (h0 : l ≠ []) (hl : l.length < 1000) (hv : ∀ d ∈ l, isLoc d = false) (q : ∀ d s', d ∈ l → isLoc d = false → Sp (m + 1) s' → Q d (s' :: tl)) : wR (f__law_among [.loc 0, .lst l] (s :: tl)) E Q := by
  have l0 : 0 < l.length := List.length_pos_iff.mpr h0
  refine v_fun rfl ?_
  unfold b__law_among
  simp only [List.map_cons, List.map_nil, List.replicate, List.cons_append, List.nil_append]
  wtm_at "vc"
  rename_i r s' r0 r1 S'
  obtain ⟨k, rfl⟩ : ∃ k : Nat, r = (k : Int) := ⟨r.toNat, by omega⟩
  have hk : k < l.length := by omega
  have hz := hv _ (List.getElem_mem hk)
  refine o_ix rfl rfl rfl rfl (List.getElem?_eq_getElem hk) ?_
  refine wF_val hz ?_
  simp only [List.length_cons, List.take_succ_cons, List.take_length]
  exact q _ _ (List.getElem_mem hk) hz S'
theorem mul_ok {i j : Int} (hi : i.natAbs < 2 ^ 4000) (hj : j.natAbs < 2 ^ 4000) : mulD (.int i) (.int j) = some (.int (i * j)) := by
  have h1 := log2_4000 hi
  have h2 := log2_4000 hj
  rw [mulD, if_pos (by omega)]
theorem mod_ok {i j : Int} (h0 : 0 < j) : modD (.int i) (.int j) = some (.int (i % j)) := by rw [modD, if_pos h0]
theorem pow54 : ((10 : Int) ^ 54) ^ 6 = 10 ^ 324 := by decide
/-- the spins as they are made -/
theorem spins_ok {ns : List Int} {spot : Int} (h0 : 0 ≤ spot) (h1 : spot < 64) : ∃ s, f__law_spins [.frz (ns.map .int), .int spot] [] = .ok (.loc 0) [s] ∧ Sp 0 s := by
  obtain ⟨cell, hc⟩ : ∃ cell : Int, ∀ (ds : Ev), (mIf (mTB (mBin ltD (mVar 1) (mB (on1 len1) (mCons (mVar 0) (mNil))))) (mB (on1 toInt1) (mCons (mBin ixD (mVar 0) (mVar 1)) (mNil))) (mBin addD (mBin mulD (mC (.int 311)) (mVar 1)) (mC (.int 97)))) [some (.frz (ns.map .int)), some (.int spot), none, none] [] = .ok (.int cell) [] := by
    by_cases hs : spot < (ns.length : Int)
    · have hn : spot.toNat < ns.length := by omega
      refine ⟨ns[spot.toNat], fun _ => ?_⟩
      simp [mIf, mTB, mBin, mVar, mB, mCons, mNil, R.bind, rd, on1, len1, ltD, isBl, hs, ixD, L2.atI, ixN, h0, toInt1, hn]
    · refine ⟨311 * spot + 97, fun _ => ?_⟩
      simp [mIf, mTB, mBin, mVar, mB, mCons, mNil, R.bind, rd, on1, len1, ltD, isBl, hs, mC, mul_ok (i := 311) (j := spot) (sm (by decide) (by decide)) (sm (by omega) (by omega)), addD]
  obtain ⟨P54, h54⟩ : ∃ x : Int, x = 10 ^ 54 := ⟨_, rfl⟩
  obtain ⟨P324, h324⟩ : ∃ x : Int, x = 10 ^ 324 := ⟨_, rfl⟩
  obtain ⟨P16, h16⟩ : ∃ x : Int, x = 10 ^ 16 := ⟨_, rfl⟩
  have p1 : powD (.int 10) (.int 54) = some (.int P54) := by rw [h54]; exact pow_ok (by decide +kernel)
  have p2 : powD (.int P54) (.int 6) = some (.int P324) := by rw [h54, h324, ← pow54]; exact pow_ok (by decide +kernel)
  have p3 : powD (.int 10) (.int 16) = some (.int P16) := by rw [h16]; exact pow_ok (by decide +kernel)
  obtain ⟨great, hgr⟩ : ∃ x : Int, x = (if cell < 0 then -cell else cell) % P324 := ⟨_, rfl⟩
  obtain ⟨one, hone⟩ : ∃ x : Int, x = great % 2305843009213693921 := ⟨_, rfl⟩
  have o1 : 0 ≤ one := by rw [hone]; exact Int.emod_nonneg _ (by decide)
  have o2 : one < 2305843009213693921 := by rw [hone]; exact Int.emod_lt_of_pos _ (by decide)
  obtain ⟨neg, hneg⟩ : ∃ x : Int, x = if cell < 0 then 1 else 0 := ⟨_, rfl⟩
  have n1 : 0 ≤ neg ∧ neg ≤ 1 := by rw [hneg]; split <;> omega
  refine ⟨.lst [.int (if great - P16 > 0 then great - P16 else 0), .int (one * 73 + 967 * spot + 43 * neg + 23), .int 0], ?_, _, _, _, rfl, ?_, by omega, by omega, by omega, by omega⟩
  · have e1 : mulD (.int one) (.int 73) = some (.int (one * 73)) := mul_ok (sm (by omega) (by omega)) (sm (by decide) (by decide))
    have e2 : mulD (.int 967) (.int spot) = some (.int (967 * spot)) := mul_ok (sm (by decide) (by decide)) (sm (by omega) (by omega))
    have e3 : mulD (.int 43) (.int neg) = some (.int (43 * neg)) := mul_ok (sm (by decide) (by decide)) (sm (by omega) (by omega))
    have m1 : modD (.int (if cell < 0 then -cell else cell)) (.int P324) = some (.int great) := by rw [hgr]; exact mod_ok (by rw [h324]; decide)
    have m2 : modD (.int great) (.int 2305843009213693921) = some (.int one) := by rw [hone]; exact mod_ok (by decide)
    have hc := hc []
    have hn : toInt1 (.bl (decide (cell < 0))) = some (.int neg) := by
      rw [hneg]
      show some (D.int (if decide (cell < 0) = true then 1 else 0)) = _
      simp
    have ha : abs1 (.int cell) = some (.int (if cell < 0 then -cell else cell)) := rfl
    generalize (if cell < 0 then -cell else cell) = acell at ha m1
    have hi : toInt1 (.int acell) = some (.int acell) := rfl
    have hg : toInt1 (.int great) = some (.int great) := rfl
    simp [f__law_spins, b__law_spins, mkF, sSeq, sAsg, hc, asgT, mBin, mB, on1, on2, mCons, mNil, mVar, mC, R.bind, rd, ha, hi, hg, p1, p2, p3, m1, m2, sRet, mNew, max2, subD, addD, e1, e2, e3, ltD, hn, isLoc, finC]
  · split <;> omega
end W

set_option Elab.async false
set_option linter.all false
set_option maxRecDepth 100000
set_option maxHeartbeats 1000000
set_option exponentiation.threshold 5000
namespace W
open PySem PySem.Spec PyProof.Rows L2 DL
local macro_rules | `(tactic| wtm_at "v1") => `(tactic| first
  | ((with_reducible apply w_var); exact rfl)
  | with_reducible refine w_c ?_
  | with_reducible refine w_nil ?_
  | with_reducible refine w_cons ?_
  | with_reducible refine w_bin ?_
  | with_reducible refine w_call ?_
  | with_reducible refine w_b ?_
  | with_reducible refine w_tb ?_
  | with_reducible refine w_tru ?_
  | with_reducible refine w_un ?_
  | with_reducible refine w_tup ?_
  | with_reducible refine w_lst ?_
  | with_reducible refine w_new ?_
  | with_reducible refine w_star ?_
  | with_reducible refine w_notT ?_
  | with_reducible refine w_andT ?_
  | with_reducible refine w_orT ?_
  | with_reducible refine w_if ?_
  | with_reducible refine w_andV ?_
  | with_reducible refine w_orV ?_
  | with_reducible refine w_notV ?_
  | with_reducible refine w_chain ?_
  | with_reducible refine w_sl ?_
  | with_reducible refine w_noPart ?_
  | with_reducible refine w_part ?_
  | with_reducible refine w_rev ?_
  | with_reducible refine w_seq ?_
  | with_reducible refine w_srcA ?_
  | with_reducible refine w_srcR ?_
  | with_reducible refine w_yes ?_
  | with_reducible refine v_seq ?_
  | with_reducible refine v_asg ?_
  | with_reducible refine v_if ?_
  | with_reducible refine v_ret ?_
  | with_reducible refine v_pass ?_
  | with_reducible refine v_retN ?_
  | with_reducible refine v_par2 ?_
  | with_reducible refine v_par3 ?_
  | with_reducible refine v_drop ?_
  | with_reducible refine v_put ?_
  | with_reducible refine v_app ?_
  | with_reducible refine v_brk ?_
  | with_reducible refine v_cnt ?_)
local macro_rules | `(tactic| wtm_at "o1") => `(tactic| first
  | ((with_reducible refine o_asg1 ?_); simp only [List.set_cons_zero, List.set_cons_succ])
  | ((with_reducible apply o_asg2); exact rfl; simp only [List.set_cons_zero, List.set_cons_succ])
  | ((with_reducible apply o_asg3); exact rfl; simp only [List.set_cons_zero, List.set_cons_succ])
  | ((with_reducible apply o_asg4); exact rfl; simp only [List.set_cons_zero, List.set_cons_succ])
  | ((with_reducible apply o_isBl); exact rfl)
  | ((with_reducible apply o_truB); exact rfl)
  | ((with_reducible apply o_truI); exact rfl)
  | with_reducible refine o_bindBl ?_
  | ((with_reducible apply o_ix); exact rfl; exact rfl; exact rfl; exact rfl; exact rfl)
  | ((with_reducible apply o_addI); exact rfl; exact rfl)
  | ((with_reducible apply o_subI); exact rfl; exact rfl)
  | ((with_reducible apply o_ltI); exact rfl; exact rfl)
  | ((with_reducible apply o_leI); exact rfl; exact rfl)
  | ((with_reducible apply o_gtI); exact rfl; exact rfl)
  | ((with_reducible apply o_geI); exact rfl; exact rfl)
  | ((with_reducible apply o_eqI); exact rfl; exact rfl)
  | ((with_reducible apply o_neI); exact rfl; exact rfl)
  | ((with_reducible apply o_negI); exact rfl)
  | ((with_reducible apply o_modI); exact rfl; exact rfl; (first | decide | omega))
  | ((with_reducible apply o_mulI); exact rfl; exact rfl; (first | exact sm (by omega) (by omega) | assumption); (first | exact sm (by omega) (by omega) | assumption))
  | ((with_reducible apply o_fdivI); exact rfl; exact rfl; (first | decide | omega); (first | exact sm (by omega) (by omega) | assumption))
  | ((with_reducible apply o_isN); exact rfl)
  | ((with_reducible apply o_notN); exact rfl)
  | ((with_reducible apply o_lenT); exact rfl)
  | ((with_reducible apply o_lenL); exact rfl)
  | ((with_reducible apply o_lenF); exact rfl)
  | ((with_reducible apply o_abs); exact rfl)
  | ((with_reducible apply o_int); exact rfl)
  | ((with_reducible apply o_intB); exact rfl)
  | ((with_reducible apply o_max); exact rfl)
  | ((with_reducible apply o_min); exact rfl)
  | ((with_reducible apply o_gcd); exact rfl)
  | ((with_reducible apply o_tupL); exact rfl)
  | ((with_reducible apply o_tupT); exact rfl)
  | ((with_reducible apply o_lst); exact rfl; exact rfl)
  | ((with_reducible apply o_isi (b := true)); exact rfl; exact rfl; decide +kernel)
  | ((with_reducible apply o_isi (b := false)); exact rfl; exact rfl; decide +kernel)
  | ((with_reducible apply wO_some); assumption))
local macro_rules | `(tactic| wtm_at "s1") => `(tactic| first
  | refine ⟨rfl, ?_⟩
  | refine ⟨_, _, rfl, ?_⟩
  | refine ⟨_, _, _, rfl, ?_⟩
  | refine ⟨_, rfl, ?_⟩
  | (refine ⟨_, _, _, rfl, rfl, rfl, rfl, ?_⟩; simp only [List.set_cons_zero, List.set_cons_succ, Int.reduceToNat])
  | ((with_reducible refine ⟨⟨?_, ?_⟩, ?_⟩); (focus (simp only [List.length_cons, List.length_nil]; omega)); (focus (simp only [List.any_cons, List.any_nil, Bool.or_false, Bool.or_eq_false_iff]; repeat' (first | exact rfl | assumption | refine ⟨?_, ?_⟩))))
  | ((with_reducible refine ⟨fun hb => ?_, fun hb => ?_⟩) <;> (try simp only [decide_eq_true_eq, decide_eq_false_iff_not, Bool.not_eq_true', Bool.not_eq_false', List.length_cons, List.length_nil] at hb) <;> (try (first | (exfalso; omega) | exact absurd hb (by decide) | (cases hb; done))))
  | ((with_reducible apply wF_val); (first | exact rfl | assumption); (try simp only [List.length_cons, List.take_succ_cons, List.take_length])))
local macro_rules | `(tactic| wtm_at "vc") => `(tactic| repeat' (first | wtm_at "v1" | wtm_at "o1" | wtm_at "s1"))

local macro_rules | `(tactic| wtm_at "s1") => `(tactic| ((with_reducible refine spin_w (by assumption) (by omega) (by omega) (by omega) ?_); intro _ _ _ _ _))
local macro_rules | `(tactic| wtm_at "fn") => `(tactic| (refine v_fun rfl ?_; simp only [List.map_cons, List.map_nil, List.replicate, List.cons_append, List.nil_append]))
/-! ### values -/
def isI : D → Bool
  | .int _ => true
  | _ => false
def inG : D → Bool
  | .int i => decide (-(10 ^ 60) < i ∧ i < 10 ^ 60)
  | _ => false
theorem is_whole_w {d : D} {h : Hs} {E : XP} {Q : D → Hs → Prop} (hd : (tyN d).isSome = true) (q : Q (.bl (isI d)) h) : wR (f_is_whole [d] h) E Q := by
  refine v_fun rfl ?_
  unfold b_is_whole
  simp only [List.map_cons, List.map_nil, List.replicate, List.cons_append, List.nil_append]
  cases d <;> first | (cases hd; done) | skip
  all_goals wtm_at "vc"
  all_goals (try simp only [List.take_length])
  all_goals exact q
local macro_rules | `(tactic| wtm_at "s1") => `(tactic| ((with_reducible refine is_whole_w ?_ ?_); (first | rfl | assumption)))
theorem is_integer_w {d : D} {h : Hs} {E : XP} {Q : D → Hs → Prop} (hd : (tyN d).isSome = true) (q : Q (.bl (inG d)) h) : wR (f_is_integer [d] h) E Q := by
  wtm_at "fn"
  unfold b_is_integer
  cases d <;> first | (cases hd; done) | skip
  all_goals wtm_at "vc"
  all_goals (try simp only [List.take_length])
  all_goals first | exact q | (rename_i hb; cases hb; done) | skip
  all_goals simp only [inG] at q
  · rename_i i hb hc
    have e : decide (-(10 ^ 60) < i ∧ i < 10 ^ 60) = decide (i < 10 ^ 60) := by
      rw [decide_eq_decide]; omega
    rw [e] at q
    exact q
  · rename_i i hb hc
    have e : decide (-(10 ^ 60) < i ∧ i < 10 ^ 60) = false := by
      rw [decide_eq_false_iff_not]; omega
    rw [e] at q
    exact q
local macro_rules | `(tactic| wtm_at "s1") => `(tactic| ((with_reducible refine is_integer_w ?_ ?_); (first | rfl | assumption)))
def nat60 : D → Bool
  | .int i => decide (0 ≤ i ∧ i < 10 ^ 60)
  | _ => false
/-- what a point of k clocks is -/
def ptB (k : Int) : D → Bool
  | .tup [.int q, .tup l] => decide (1 ≤ q ∧ q < 10 ^ 60) && decide ((l.length : Int) = k) && l.all nat60
  | _ => false
def ni : Nat → D → Bool
  | 0, d => (tyN d).isSome
  | n + 1, .tup l => l.all (ni n)
  | _ + 1, d => (tyN d).isSome
theorem ni_ty {n : Nat} {d : D} (h : ni n d = true) : (tyN d).isSome = true := by
  cases n with
  | zero => exact h
  | succ n => cases d <;> first | rfl | exact h
theorem rd_ty {h : Hs} {d : D} (ht : (tyN d).isSome = true) : rd h d = d := by cases d <;> first | rfl | cases ht
theorem o_isiT {hh : Hs} {o : D} {xs : List D} {P : D → Prop} (e : xs = [rd hh o, .ty "tuple"]) (ht : (tyN o).isSome = true) (hn : ¬ ∃ l, o = .tup l) (q : P (.bl false)) : wO (on2 isi2 xs) P := by
  subst e
  cases o <;> first | (cases ht; done) | (exact absurd ⟨_, rfl⟩ hn) | (exact wO_some (by rfl) q)
theorem o_allG {l : List D} {g : D → Bool} {xs : List D} {P : D → Prop} (e : xs = [.lst (l.map fun x => .bl (g x))]) (q : P (.bl (l.all g))) : wO (on1 all1 xs) P := by
  subst e
  exact o_all (bs := l.map g) (by simp [Function.comp_def]) (by rw [List.all_map]; exact q)
local macro_rules | `(tactic| wtm_at "o1") => `(tactic| first | ((with_reducible apply o_isiT); exact rfl; assumption; assumption) | ((with_reducible apply o_allG); exact rfl))
theorem ptB_no {k : Int} {a b : D} (hn : ¬ ∃ l, b = .tup l) : ptB k (.tup [a, b]) = false := by
  cases b <;> first | (exact absurd ⟨_, rfl⟩ hn) | (cases a <;> rfl)
theorem ptB_no2 {k : Int} {d : D} (hn : ¬ ∃ l, d = .tup l) : ptB k d = false := by
  cases d <;> first | (exact absurd ⟨_, rfl⟩ hn) | rfl
theorem ptB_no3 {k : Int} {a : D} {l : List D} (hn : isI a = false) : ptB k (.tup [a, .tup l]) = false := by
  cases a <;> first | (cases hn; done) | rfl
theorem inG_I {a : D} (h : isI a = false) : inG a = false := by cases a <;> first | (cases h; done) | rfl
theorem is_point_in_w {k : Int} {d : D} {h : Hs} {E : XP} {Q : D → Hs → Prop} (hk : k < 1000) (hd : ni 2 d = true) (q : Q (.bl (ptB k d)) h) : wR (f_is_point_in [.int k, d] h) E Q := by
  have q : ∀ z, z = ptB k d → Q (.bl z) h := fun z e => e ▸ q
  wtm_at "fn"
  unfold b_is_point_in
  by_cases ht : ∃ l, d = .tup l
  · obtain ⟨l, rfl⟩ := ht
    match l, hd, q with
    | [], _, q =>
      wtm_at "vc"
      simpa using q _ (by rfl)
    | [a], _, q =>
      wtm_at "vc"
      simpa using q _ (by cases a <;> rfl)
    | a :: b :: c :: r, _, q =>
      wtm_at "vc"
      simpa using q _ (by cases a <;> cases b <;> rfl)
    | [a, b], hd, q =>
      simp only [ni, List.all_cons, List.all_nil, Bool.and_true, Bool.and_eq_true] at hd
      have h1 := ni_ty hd.1
      have h2 := ni_ty hd.2
      by_cases hb : ∃ l, b = .tup l
      · obtain ⟨l, rfl⟩ := hb
        by_cases ha : ∃ i, a = .int i
        · obtain ⟨i, rfl⟩ := ha
          wtm_at "vc"
          · simpa using q _ (by simp_all [ptB, inG]; omega)
          · simpa using q _ (by simp [ptB]; omega)
          · simpa using q _ (by simp_all [ptB])
          · refine w_map l (fun d => .bl (nat60 d)) ?_
            wtm_at "vc"
            refine ⟨by omega, fun x m => ?_, ?_⟩
            · refine o_asg1 ?_
              simp only [wipeD, List.set_cons_zero, List.set_cons_succ]
              intro hh
              have hx : (tyN x).isSome = true := by
                have := hd.2
                simp only [ni, List.all_eq_true] at this
                exact this x m
              cases x <;> wtm_at "vc"
              all_goals first
                | exact rfl
                | (rename_i i hb
                   simp only [inG, decide_eq_true_eq, decide_eq_false_iff_not] at hb
                   refine ⟨?_, rfl⟩
                   simp only [nat60, inG]
                   congr 1
                   rw [decide_eq_decide]
                   omega)
            · wtm_at "vc"
              have h5 : inG (.int i) = true := by assumption
              have h6 : ¬ i < 1 := by assumption
              have h7 : (l.length : Int) = k := by assumption
              try simp only [List.take_length]
              refine q _ ?_
              simp only [inG, decide_eq_true_eq] at h5
              simp only [ptB]
              rw [decide_eq_true (by omega), decide_eq_true (by omega)]
              rfl
        · have hI : isI a = false := by cases a <;> first | rfl | exact absurd ⟨_, rfl⟩ ha
          rw [ptB_no3 hI] at q
          have := inG_I hI
          wtm_at "vc"
          · simpa using q _ rfl
          · rename_i h3
            rw [this] at h3; cases h3
      · rw [ptB_no hb] at q
        cases a <;> wtm_at "vc"
        all_goals (try simp only [List.take_length])
        all_goals exact q _ rfl
  · rw [ptB_no2 ht] at q
    have := ni_ty hd
    wtm_at "vc"
    simpa using q _ rfl
local macro_rules | `(tactic| wtm_at "s1") => `(tactic| ((with_reducible refine is_point_in_w ?_ ?_ ?_); (first | decide | omega); assumption))
theorem is_within_w {k a b : Int} {h : Hs} {E : XP} {Q : D → Hs → Prop} (q : Q (.bl (decide (a ≤ k ∧ k ≤ b))) h) : wR (f_is_within [.int k, .int a, .int b] h) E Q := by
  wtm_at "fn"
  unfold b_is_within
  wtm_at "vc"
  · rename_i hb hc
    rw [decide_eq_decide.mpr (show a ≤ k ∧ k ≤ b ↔ k ≤ b by omega)] at q
    simpa using q
  · rename_i hb hc
    rw [decide_eq_false (show ¬ (a ≤ k ∧ k ≤ b) by omega)] at q
    simpa using q
local macro_rules | `(tactic| wtm_at "s1") => `(tactic| with_reducible refine is_within_w ?_)
theorem require_within_w {k a b : Int} {h : Hs} {E : XP} {Q : D → Hs → Prop} (h0 : a ≤ k) (h1 : k ≤ b) (q : Q .non h) : wR (f_require_within [.int k, .int a, .int b] h) E Q := by
  wtm_at "fn"
  unfold b_require_within
  wtm_at "vc"
  simpa using q
local macro_rules | `(tactic| wtm_at "s1") => `(tactic| ((with_reducible refine require_within_w ?_ ?_ ?_); omega; omega))
theorem is_point_w {k : Int} {d : D} {h : Hs} {E : XP} {Q : D → Hs → Prop} (h0 : 0 ≤ k) (hk : k ≤ 4) (hd : ni 2 d = true) (q : Q (.bl (ptB k d)) h) : wR (f_is_point [.int k, d] h) E Q := by
  wtm_at "fn"
  unfold b_is_point
  wtm_at "vc"
  simpa using q
theorem pow60 : powD (.int 10) (.int 60) = some (.int (10 ^ 60)) := pow_ok (by decide +kernel)
def pos1 : D → Bool
  | .int i => decide (1 ≤ i)
  | _ => false
theorem ptB_eq {k : Int} {a : D} {l : List D} (e : (l.length : Int) = k) : ptB k (.tup [a, .tup l]) = ((a :: l).all nat60 && pos1 a) := by
  cases a with
  | int i =>
    have key : decide (1 ≤ i ∧ i < 10 ^ 60) = (decide (0 ≤ i ∧ i < 10 ^ 60) && decide (1 ≤ i)) := by
      rw [Bool.eq_iff_iff]
      simp only [Bool.and_eq_true, decide_eq_true_eq]
      omega
    simp only [ptB, List.all_cons, nat60, pos1, decide_eq_true e, Bool.and_true, key]
    exact Bool.and_right_comm _ _ _
  | _ => simp [ptB, pos1]
theorem law_is_point_w {k : Int} {d : D} {h : Hs} {E : XP} {Q : D → Hs → Prop} (hk : k < 1000) (hd : ni 2 d = true) (q : Q (.bl (ptB k d)) h) : wR (f__law_is_point [.int k, d] h) E Q := by
  have q : ∀ z, z = ptB k d → Q (.bl z) h := fun z e => e ▸ q
  wtm_at "fn"
  unfold b__law_is_point
  by_cases ht : ∃ l, d = .tup l
  · obtain ⟨l, rfl⟩ := ht
    match l, hd, q with
    | [], _, q =>
      wtm_at "vc"
      simpa using q _ (by rfl)
    | [a], _, q =>
      wtm_at "vc"
      simpa using q _ (by cases a <;> rfl)
    | a :: b :: c :: r, _, q =>
      wtm_at "vc"
      simpa using q _ (by cases a <;> cases b <;> rfl)
    | [a, b], hd, q =>
      simp only [ni, List.all_cons, List.all_nil, Bool.and_true, Bool.and_eq_true] at hd
      have h1 := ni_ty hd.1
      have h2 := ni_ty hd.2
      by_cases hb : ∃ l, b = .tup l
      · obtain ⟨l, rfl⟩ := hb
        wtm_at "vc"
        · rename_i hl
          simpa using q _ (by cases a <;> simp [ptB, hl])
        · rename_i hl
          rw [ptB_eq hl] at q
          have p60 := pow60
          have hla : isLoc a = false := by cases a <;> first | rfl | cases h1
          refine v_for (a :: l) (fun i ds hh => hh = h ∧ (∃ x2, ds = [some (.int k), some (.tup [a, .tup l]), x2]) ∧ ((a :: l).take i).all nat60 = true) ?_
          wtm_at "vc"
          refine o_addT rfl rfl ?_ ?_
          · simp only [List.length_cons, List.length_nil]; omega
          refine wO_some rfl ?_
          refine ⟨rfl, ⟨rfl, ⟨_, rfl⟩, rfl⟩, ?_, ?_⟩
          · rintro i x ds hh hx ⟨rfl, ⟨x2, rfl⟩, hi⟩
            have htake : (a :: l).take (i + 1) = (a :: l).take i ++ [x] := by rw [List.take_add_one, hx]; rfl
            have hxt : (tyN x).isSome = true := by
              have m := List.mem_of_getElem? hx
              have := hd.2
              simp only [ni, List.all_eq_true] at this
              rcases List.mem_cons.mp m with rfl | m
              · exact h1
              · exact this x m
            have hno : nat60 x = false → ((a :: l).all nat60 && pos1 a) = false := fun e => by
              rw [show (a :: l).all nat60 = false from by
                rw [List.all_eq_false]
                exact ⟨x, List.mem_of_getElem? hx, by simp [e]⟩]
              rfl
            cases x <;> first | (cases hxt; done) | skip
            all_goals wtm_at "vc"
            all_goals first
              | exact q _ (hno (by first | rfl | (simp only [nat60, decide_eq_false_iff_not]; omega))).symm
              | (refine ⟨List.take_length, ⟨_, rfl⟩, ?_⟩
                 rw [htake, List.all_append, hi]
                 simp only [List.all_cons, List.all_nil, Bool.and_true, Bool.true_and, nat60, decide_eq_true_eq]
                 omega)
          · rintro ds hh ⟨rfl, ⟨x2, rfl⟩, hi⟩
            rw [List.take_length] at hi
            rw [hi] at q
            simp only [List.all_cons, Bool.and_eq_true] at hi
            obtain ⟨i, rfl⟩ : ∃ i, a = .int i := by cases a <;> first | exact ⟨_, rfl⟩ | (cases hi.1; done)
            wtm_at "vc"
            exact q _ (by simp [pos1])
      · rw [ptB_no hb] at q
        wtm_at "vc"
        simpa using q _ rfl
  · rw [ptB_no2 ht] at q
    have := ni_ty hd
    wtm_at "vc"
    simpa using q _ rfl
end W

set_option Elab.async false
set_option linter.all false
set_option maxRecDepth 100000
set_option maxHeartbeats 1000000
set_option exponentiation.threshold 5000
namespace W
open PySem PySem.Spec PyProof.Rows L2 DL
local macro_rules | `(tactic| wtm_at "v1") => `(tactic| first
  | ((with_reducible apply w_var); exact rfl)
  | with_reducible refine w_c ?_
  | with_reducible refine w_nil ?_
  | with_reducible refine w_cons ?_
  | with_reducible refine w_bin ?_
  | with_reducible refine w_call ?_
  | with_reducible refine w_b ?_
  | with_reducible refine w_tb ?_
  | with_reducible refine w_tru ?_
  | with_reducible refine w_un ?_
  | with_reducible refine w_tup ?_
  | with_reducible refine w_lst ?_
  | with_reducible refine w_new ?_
  | with_reducible refine w_star ?_
  | with_reducible refine w_notT ?_
  | with_reducible refine w_andT ?_
  | with_reducible refine w_orT ?_
  | with_reducible refine w_if ?_
  | with_reducible refine w_andV ?_
  | with_reducible refine w_orV ?_
  | with_reducible refine w_notV ?_
  | with_reducible refine w_chain ?_
  | with_reducible refine w_sl ?_
  | with_reducible refine w_noPart ?_
  | with_reducible refine w_part ?_
  | with_reducible refine w_rev ?_
  | with_reducible refine w_seq ?_
  | with_reducible refine w_srcA ?_
  | with_reducible refine w_srcR ?_
  | with_reducible refine w_yes ?_
  | with_reducible refine v_seq ?_
  | with_reducible refine v_asg ?_
  | with_reducible refine v_if ?_
  | with_reducible refine v_ret ?_
  | with_reducible refine v_pass ?_
  | with_reducible refine v_retN ?_
  | with_reducible refine v_par2 ?_
  | with_reducible refine v_par3 ?_
  | with_reducible refine v_drop ?_
  | with_reducible refine v_put ?_
  | with_reducible refine v_app ?_
  | with_reducible refine v_brk ?_
  | with_reducible refine v_cnt ?_)
local macro_rules | `(tactic| wtm_at "o1") => `(tactic| first
  | ((with_reducible refine o_asg1 ?_); simp only [List.set_cons_zero, List.set_cons_succ])
  | ((with_reducible apply o_asg2); exact rfl; simp only [List.set_cons_zero, List.set_cons_succ])
  | ((with_reducible apply o_asg3); exact rfl; simp only [List.set_cons_zero, List.set_cons_succ])
  | ((with_reducible apply o_asg4); exact rfl; simp only [List.set_cons_zero, List.set_cons_succ])
  | ((with_reducible apply o_isBl); exact rfl)
  | ((with_reducible apply o_truB); exact rfl)
  | ((with_reducible apply o_truI); exact rfl)
  | with_reducible refine o_bindBl ?_
  | ((with_reducible apply o_ix); exact rfl; exact rfl; exact rfl; exact rfl; exact rfl)
  | ((with_reducible apply o_addI); exact rfl; exact rfl)
  | ((with_reducible apply o_subI); exact rfl; exact rfl)
  | ((with_reducible apply o_ltI); exact rfl; exact rfl)
  | ((with_reducible apply o_leI); exact rfl; exact rfl)
  | ((with_reducible apply o_gtI); exact rfl; exact rfl)
  | ((with_reducible apply o_geI); exact rfl; exact rfl)
  | ((with_reducible apply o_eqI); exact rfl; exact rfl)
  | ((with_reducible apply o_neI); exact rfl; exact rfl)
  | ((with_reducible apply o_negI); exact rfl)
  | ((with_reducible apply o_modI); exact rfl; exact rfl; (first | decide | omega))
  | ((with_reducible apply o_mulI); exact rfl; exact rfl; (first | exact sm (by omega) (by omega) | assumption); (first | exact sm (by omega) (by omega) | assumption))
  | ((with_reducible apply o_fdivI); exact rfl; exact rfl; (first | decide | omega); (first | exact sm (by omega) (by omega) | assumption))
  | ((with_reducible apply o_isN); exact rfl)
  | ((with_reducible apply o_notN); exact rfl)
  | ((with_reducible apply o_lenT); exact rfl)
  | ((with_reducible apply o_lenL); exact rfl)
  | ((with_reducible apply o_lenF); exact rfl)
  | ((with_reducible apply o_abs); exact rfl)
  | ((with_reducible apply o_int); exact rfl)
  | ((with_reducible apply o_intB); exact rfl)
  | ((with_reducible apply o_max); exact rfl)
  | ((with_reducible apply o_min); exact rfl)
  | ((with_reducible apply o_gcd); exact rfl)
  | ((with_reducible apply o_tupL); exact rfl)
  | ((with_reducible apply o_tupT); exact rfl)
  | ((with_reducible apply o_lst); exact rfl; exact rfl)
  | ((with_reducible apply o_isi (b := true)); exact rfl; exact rfl; decide +kernel)
  | ((with_reducible apply o_isi (b := false)); exact rfl; exact rfl; decide +kernel)
  | ((with_reducible apply wO_some); assumption))
local macro_rules | `(tactic| wtm_at "s1") => `(tactic| first
  | refine ⟨rfl, ?_⟩
  | refine ⟨_, _, rfl, ?_⟩
  | refine ⟨_, _, _, rfl, ?_⟩
  | refine ⟨_, rfl, ?_⟩
  | (refine ⟨_, _, _, rfl, rfl, rfl, rfl, ?_⟩; simp only [List.set_cons_zero, List.set_cons_succ, Int.reduceToNat])
  | ((with_reducible refine ⟨⟨?_, ?_⟩, ?_⟩); (focus (simp only [List.length_cons, List.length_nil]; omega)); (focus (simp only [List.any_cons, List.any_nil, Bool.or_false, Bool.or_eq_false_iff]; repeat' (first | exact rfl | assumption | refine ⟨?_, ?_⟩))))
  | ((with_reducible refine ⟨fun hb => ?_, fun hb => ?_⟩) <;> (try simp only [decide_eq_true_eq, decide_eq_false_iff_not, Bool.not_eq_true', Bool.not_eq_false', List.length_cons, List.length_nil] at hb) <;> (try (first | (exfalso; omega) | exact absurd hb (by decide) | (cases hb; done))))
  | ((with_reducible apply wF_val); (first | exact rfl | assumption); (try simp only [List.length_cons, List.take_succ_cons, List.take_length])))
local macro_rules | `(tactic| wtm_at "vc") => `(tactic| repeat' (first | wtm_at "v1" | wtm_at "o1" | wtm_at "s1"))

local macro_rules | `(tactic| wtm_at "s1") => `(tactic| ((with_reducible refine spin_w (by assumption) (by omega) (by omega) (by omega) ?_); intro _ _ _ _ _))
local macro_rules | `(tactic| wtm_at "fn") => `(tactic| (refine v_fun rfl ?_; simp only [List.map_cons, List.map_nil, List.replicate, List.cons_append, List.nil_append]))
local macro_rules | `(tactic| wtm_at "s1") => `(tactic| ((with_reducible refine is_whole_w ?_ ?_); (first | rfl | assumption)))
local macro_rules | `(tactic| wtm_at "s1") => `(tactic| ((with_reducible refine is_integer_w ?_ ?_); (first | rfl | assumption)))
local macro_rules | `(tactic| wtm_at "o1") => `(tactic| first | ((with_reducible apply o_isiT); exact rfl; assumption; assumption) | ((with_reducible apply o_allG); exact rfl))
local macro_rules | `(tactic| wtm_at "s1") => `(tactic| ((with_reducible refine is_point_in_w ?_ ?_ ?_); (first | decide | omega); assumption))
local macro_rules | `(tactic| wtm_at "s1") => `(tactic| with_reducible refine is_within_w ?_)
local macro_rules | `(tactic| wtm_at "s1") => `(tactic| ((with_reducible refine require_within_w ?_ ?_ ?_); omega; omega))
theorem w_mapI {E : XP} {Q : D → Hs → Prop} {ds : Ev} {h : Hs} {ms : M Src} {vs : List Nat} {t : Tg} {te : M D} (l : List Int) (g : Int → Int) (w : wR (ms ds h) E fun s h1 => s = .its (l.map .int) ∧ l.length < 16777216 ∧
    (∀ x, x ∈ l → wO (asgT t (.int x) (wipeD ds vs)) fun ds1 => ∀ hh : Hs, wR (te ds1 hh) x0 fun y h3 => h3 = hh ∧ y = .int (g x)) ∧ Q (.lst ((l.map g).map .int)) h1) : wR (mLc ms vs t mYes te ds h) E Q := by
  refine w_map (l.map .int) (fun d => match d with | .int i => .int (g i) | _ => .non) (wR_mono w fun s h1 ⟨e, hl, hx, q⟩ => ⟨e, by simpa using hl, ?_, by simpa [Function.comp_def] using q⟩)
  intro x m
  obtain ⟨i, hi, rfl⟩ := List.mem_map.mp m
  have := hx i hi
  cases e2 : asgT t (.int i) (wipeD ds vs) with
  | none => rw [e2] at this; exact this
  | some ds1 => rw [e2] at this; exact fun hh => wR_mono (this hh) fun y h3 ⟨a, b⟩ => ⟨a, b, by rw [b]; rfl⟩
local macro_rules | `(tactic| wtm_at "lc") => `(tactic| (refine o_asg1 ?_; simp only [wipeD, List.set_cons_zero, List.set_cons_succ]))
/-! ### points -/
abbrev pt (q : Int) (v : List Int) : D := .tup [.int q, .tup (v.map .int)]
theorem okE_ints {n : Nat} (l : List Int) : (l.map D.int).all (okE n) = true := by
  rw [List.all_eq_true]; intro x hx; obtain ⟨i, _, rfl⟩ := List.mem_map.mp hx; exact okE_int
theorem okE_pt {q : Int} {v : List Int} : okE 60 (pt q v) = true := by
  simp only [okE, List.all_cons, List.all_nil, Bool.and_true, okE_ints]
theorem eqvs_ints : ∀ a b : List Int, eqvs (a.map .int) (b.map .int) = decide (a = b)
  | [], [] => by simp [eqvs]
  | [], _ :: _ => by simp [eqvs]
  | _ :: _, [] => by simp [eqvs]
  | x :: a, y :: b => by
    simp only [List.map_cons, eqvs, eqv_int, eqvs_ints a b, List.cons.injEq]
    by_cases h1 : x = y <;> by_cases h2 : a = b <;> simp [h1, h2]
theorem eqv_pt {q r : Int} {v u : List Int} : eqv (pt q v) (pt r u) = decide (q = r ∧ v = u) := by
  simp only [eqv, eqvs, eqvs_ints, Bool.and_true]
  by_cases h1 : q = r <;> by_cases h2 : v = u <;> simp [h1, h2]
def gI (s x : Int) : Int := ((Nat.gcd s.natAbs x.natAbs : Nat) : Int)
def gL (q : Int) (v : List Int) : Int := v.foldl gI q
theorem gI_pos {q x : Int} (h : 1 ≤ q) : 1 ≤ gI q x ∧ gI q x ≤ q := by
  have h1 : 0 < Nat.gcd q.natAbs x.natAbs := Nat.gcd_pos_of_pos_left _ (by omega)
  have h2 : Nat.gcd q.natAbs x.natAbs ≤ q.natAbs := Nat.gcd_le_left _ (by omega)
  unfold gI
  omega
theorem gL_pos : ∀ (v : List Int) {q : Int}, 1 ≤ q → 1 ≤ gL q v ∧ gL q v ≤ q
  | [], q, h => ⟨h, Int.le_refl _⟩
  | x :: v, q, h => by
    have a := gI_pos (x := x) h
    have b := gL_pos v a.1
    exact ⟨b.1, Int.le_trans b.2 a.2⟩
theorem gL_snoc {q x : Int} {v : List Int} : gL q (v ++ [x]) = gI (gL q v) x := by simp [gL, List.foldl_append]
def lowQ (q : Int) (v : List Int) : Int := q / gL q v
def lowV (q : Int) (v : List Int) : List Int := v.map (· / gL q v)
theorem lowest_point_in_w {q : Int} {v : List Int} {h : Hs} {E : XP} {Q : D → Hs → Prop} (h1 : 1 ≤ q) (h2 : q < 2 ^ 900) (hv : v.length < 1000) (k : Q (pt (lowQ q v) (lowV q v)) h) : wR (f_lowest_point_in [pt q v] h) E Q := by
  have hg := gL_pos v h1
  simp only [lowQ, lowV] at k
  wtm_at "fn"
  unfold b_lowest_point_in
  wtm_at "vc"
  refine v_for (v.map .int) (fun i ds hh => hh = h ∧ ∃ x2, ds = [some (pt q v), some (.int (gL q (v.take i))), x2]) ?_
  wtm_at "vc"
  refine ⟨⟨rfl, _, rfl⟩, ?_, ?_⟩
  · rintro i x ds hh hx ⟨rfl, x2, rfl⟩
    rw [List.getElem?_map] at hx
    obtain ⟨n, hn, rfl⟩ := Option.map_eq_some_iff.mp hx
    have htake : v.take (i + 1) = v.take i ++ [n] := by rw [List.take_add_one, hn]; rfl
    wtm_at "vc"
    refine ⟨List.take_length, some (.int n), ?_⟩
    rw [htake, gL_snoc]
    rfl
  · rintro ds hh ⟨rfl, x2, rfl⟩
    rw [List.length_map, List.take_length]
    generalize gL q v = g at *
    wtm_at "vc"
    refine w_mapI v (fun x => x / g) ?_
    wtm_at "vc"
    refine ⟨by omega, fun x m => ?_, ?_⟩
    · wtm_at "lc"
      intro hh
      wtm_at "vc"
      exact rfl
    · wtm_at "vc"
      (try simp only [List.take_length])
      exact k
local macro_rules | `(tactic| wtm_at "s1") => `(tactic| ((with_reducible refine lowest_point_in_w ?_ ?_ ?_ ?_); omega; omega; (first | omega | (simp only [List.length_map, List.length_zipIdx]; omega))))
theorem same_in_w {q r : Int} {v u : List Int} {h : Hs} {E : XP} {Q : D → Hs → Prop} (h1 : 1 ≤ q) (h2 : q < 2 ^ 900) (hv : v.length < 1000) (h3 : 1 ≤ r) (h4 : r < 2 ^ 900) (hu : u.length < 1000)
    (k : Q (.bl (eqv (pt (lowQ q v) (lowV q v)) (pt (lowQ r u) (lowV r u)))) h) : wR (f_same_in [pt q v, pt r u] h) E Q := by
  wtm_at "fn"
  unfold b_same_in
  wtm_at "vc"
  refine o_eqG okE_pt okE_pt ?_
  wtm_at "vc"
  (try simp only [List.take_length])
  exact k
theorem later_in_w {q t b : Int} {v : List Int} {h : Hs} {E : XP} {Q : D → Hs → Prop} (h1 : 1 ≤ q) (h2 : q < 2 ^ 400) (hv : v.length < 1000) (hb : 1 ≤ b) (hb2 : b < 2 ^ 400) (ht : 0 ≤ t) (ht2 : t < 2 ^ 400) (hx : ∀ x ∈ v, 0 ≤ x ∧ x < 2 ^ 400)
    (k : Q (pt (lowQ (q * b) (v.map fun x => x * b + q * t)) (lowV (q * b) (v.map fun x => x * b + q * t))) h) : wR (f_later_in [pt q v, .tup [.int t, .int b]] h) E Q := by
  have a1 : 1 ≤ q * b := Int.mul_pos (by omega) (by omega)
  have a2 : q * b < 2 ^ 900 := by
    have := Int.mul_le_mul (a := q) (b := b) (c := 2 ^ 400) (d := 2 ^ 400) (by omega) (by omega) (by omega) (by omega)
    omega
  wtm_at "fn"
  unfold b_later_in
  wtm_at "vc"
  refine w_mapI v (fun x => x * b + q * t) ?_
  wtm_at "vc"
  refine ⟨by omega, fun x m => ?_, ?_⟩
  · wtm_at "lc"
    intro hh
    have := hx x m
    wtm_at "vc"
    exact rfl
  · wtm_at "vc"
    (try simp only [List.take_length])
    exact k
theorem in_ints {i : Int} {c : List Int} : inD (.int i) (.tup (c.map .int)) = some (.bl (decide (i ∈ c))) := by
  simp only [inD, inB]
  rw [if_pos ⟨okE_int, okE_ints c⟩]
  simp only [Option.map_some, List.any_map]
  congr 2
  rw [Bool.eq_iff_iff]
  simp only [List.any_eq_true, Function.comp_apply, eqv_int, decide_eq_true_eq]
  constructor
  · rintro ⟨x, hx, rfl⟩; exact hx
  · exact fun h => ⟨i, h, rfl⟩
theorem o_inI {i : Int} {c : List Int} {x y : D} {P : D → Prop} (ex : x = .int i) (ey : y = .tup (c.map .int)) (q : P (.bl (decide (i ∈ c)))) : wO (inD x y) P := by
  subst ex ey; exact wO_some in_ints q
local macro_rules | `(tactic| wtm_at "o1") => `(tactic| ((with_reducible apply o_inI); exact rfl; exact rfl))
/-- [f(at, x) for at, x in enumerate(ints)] -/
theorem w_enumI {E : XP} {Q : D → Hs → Prop} {ds : Ev} {h : Hs} {ms : M Src} {vs : List Nat} {t : Tg} {te : M D} (l : List Int) (g : Int → Int → Int) (w : wR (ms ds h) E fun s h1 => s = .its (enumL (l.map .int)) ∧ l.length < 16777216 ∧
    (∀ (k : Nat) x, l[k]? = some x → wO (asgT t (.tup [.int (k : Nat), .int x]) (wipeD ds vs)) fun ds1 => ∀ hh : Hs, wR (te ds1 hh) x0 fun y h3 => h3 = hh ∧ y = .int (g (k : Nat) x)) ∧ Q (.lst ((l.zipIdx.map fun p => g (p.2 : Nat) p.1).map .int)) h1) : wR (mLc ms vs t mYes te ds h) E Q := by
  refine w_map (enumL (l.map .int)) (fun d => match d with | .tup [.int i, .int x] => .int (g i x) | _ => .non) (wR_mono w fun s h1 ⟨e, hl, hx, q⟩ => ⟨e, by simpa [enumL] using hl, ?_, ?_⟩)
  · intro x m
    obtain ⟨k, hk⟩ := List.mem_iff_getElem?.mp m
    obtain ⟨y, hy, rfl⟩ := enumL_get hk
    rw [List.getElem?_map] at hy
    obtain ⟨n, hn, rfl⟩ := Option.map_eq_some_iff.mp hy
    have := hx k n hn
    cases e2 : asgT t (.tup [.int (k : Nat), .int n]) (wipeD ds vs) with
    | none => rw [e2] at this; exact this
    | some ds1 => rw [e2] at this; exact fun hh => wR_mono (this hh) fun y h3 ⟨a, b⟩ => ⟨a, b, by rw [b]; rfl⟩
  · have e : (enumL (l.map .int)).map (fun d => match d with | .tup [.int i, .int x] => .int (g i x) | _ => D.non) = (l.zipIdx.map fun p => g (p.2 : Nat) p.1).map D.int := by
      simp only [enumL, List.zipIdx_map, List.map_map]
      rfl
    rw [e]
    exact q
theorem back_in_w {q : Int} {v c : List Int} {h : Hs} {E : XP} {Q : D → Hs → Prop} (h1 : 1 ≤ q) (h2 : q < 2 ^ 400) (hv : v.length < 1000)
    (k : Q (pt (lowQ q (v.zipIdx.map fun p => if ((p.2 : Int) + 1) ∈ c then 0 else p.1)) (lowV q (v.zipIdx.map fun p => if ((p.2 : Int) + 1) ∈ c then 0 else p.1))) h) : wR (f_back_in [pt q v, .tup (c.map .int)] h) E Q := by
  wtm_at "fn"
  unfold b_back_in
  wtm_at "vc"
  refine w_enumI v (fun i x => if i + 1 ∈ c then 0 else x) ?_
  wtm_at "vc"
  refine ⟨by omega, fun i x m => ?_, ?_⟩
  · refine o_asg2 rfl ?_
    simp only [wipeD, List.set_cons_zero, List.set_cons_succ]
    intro hh
    wtm_at "vc"
    all_goals (rename_i hc; simp [hc])
  · wtm_at "vc"
    (try simp only [List.take_length])
    exact k
theorem lowest_in_w {t b : Int} {h : Hs} {E : XP} {Q : D → Hs → Prop} (hb : 1 ≤ b) (hb2 : b < 2 ^ 900) (k : Q (.tup [.int (t / gI t b), .int (b / gI t b)]) h) : wR (f_lowest_in [.tup [.int t, .int b]] h) E Q := by
  have h1 : 1 ≤ gI t b ∧ gI t b ≤ b := by
    have a1 : 0 < Nat.gcd t.natAbs b.natAbs := Nat.gcd_pos_of_pos_right _ (by omega)
    have a2 : Nat.gcd t.natAbs b.natAbs ≤ b.natAbs := Nat.gcd_le_right _ (by omega)
    unfold gI
    omega
  wtm_at "fn"
  unfold b_lowest_in
  simp only [gI] at *
  wtm_at "vc"
  (try simp only [List.take_length])
  exact k

/-! ### the law's own divisor -/
theorem gI_step {f n : Int} (h0 : 0 ≤ f) (h1 : 0 < n) : gI n (f % n) = gI f n := by
  unfold gI
  have : (f % n).natAbs = f.natAbs % n.natAbs := by
    rw [Int.natAbs_emod_of_nonneg h0]
  rw [this, Nat.gcd_comm f.natAbs, Nat.gcd_rec n.natAbs f.natAbs, Nat.gcd_comm]
theorem gI_zero {f : Int} (h : 0 ≤ f) : gI f 0 = f := by
  unfold gI
  simp
  omega
theorem half {f n : Int} (h1 : 0 < n) (h2 : n ≤ f) : n * (f % n) * 2 ≤ f * n := by
  have a := Int.emod_add_mul_ediv f n
  have b := Int.emod_lt_of_pos f h1
  have c : 1 ≤ f / n := by rw [Int.le_ediv_iff_mul_le h1]; omega
  have d : n * 1 ≤ n * (f / n) := Int.mul_le_mul_of_nonneg_left c (by omega)
  have e : f % n * 2 ≤ f := by omega
  have := Int.mul_le_mul_of_nonneg_left e (show 0 ≤ n by omega)
  rw [Int.mul_assoc, Int.mul_comm f n]
  exact this
def shInv (G : Int) (x0 : D) (k : Nat) (ds : Ev) : Prop := ∃ f n : Int, ds = [some x0, some (.int f), some (.int n)] ∧ 1 ≤ f ∧ 0 ≤ n ∧ f < 2 ^ 1000 ∧ n < 2 ^ 1000 ∧ gI f n = G ∧ ((n ≤ f ∧ f * n < 2 ^ k) ∨ (f < n ∧ ∃ j, k = j + 1 ∧ f * n < 2 ^ j))
theorem shared_while {N B C : Ev → Hs → Prop} {T : D → Hs → Prop} {X : Str → Option D → Ev → Hs → Prop} {x0 : D} {f n : Int} {h : Hs} (f1 : 1 ≤ f) (n0 : 0 ≤ n) (f2 : f < 2 ^ 1000) (n2 : n < 2 ^ 1000) (hx : isLoc x0 = false)
    (q : N [some x0, some (.int (gI f n)), some (.int 0)] h) : wS (sWhile 100000 (mTB (mBin gtD (mVar 2) (mC (.int 0)))) (sPar [1, 2] (mCons (mVar 2) (mCons (mBin modD (mVar 1) (mVar 2)) (mNil)))) [some x0, some (.int f), some (.int n)] h) ⟨N, T, B, C, X⟩ := by
  have fn : f * n < 2 ^ 2000 := by
    have := Int.mul_le_mul (a := f) (b := n) (c := 2 ^ 1000) (d := 2 ^ 1000 - 1) (by omega) (by omega) (by omega) (by omega)
    have e : (2 : Int) ^ 1000 * (2 ^ 1000 - 1) < 2 ^ 2000 := by decide +kernel
    omega
  refine v_while (fun k ds hh => hh = h ∧ shInv (gI f n) x0 k ds) 2001 (by decide) ⟨rfl, f, n, rfl, f1, n0, f2, n2, rfl, ?_⟩ ?_
  · by_cases c : n ≤ f
    · exact .inl ⟨c, Int.lt_trans fn (by decide +kernel)⟩
    · exact .inr ⟨by omega, 2000, rfl, fn⟩
  · rintro k ds hh ⟨rfl, f', n', rfl, g1, m0, g2, m2, hG, hd⟩
    have gcx : gcE (List.length hh) [some x0, some (.int n'), some (.int (f' % n'))] = [some x0, some (.int n'), some (.int (f' % n'))] := by
      cases x0 <;> first | rfl | cases hx
    wtm_at "vc"
    · rename_i hn
      have r0 := Int.emod_nonneg f' (show n' ≠ 0 by omega)
      have r1 := Int.emod_lt_of_pos f' hn
      have hG2 : gI n' (f' % n') = gI f n := by rw [gI_step (by omega) hn, hG]
      rcases hd with ⟨c, hp⟩ | ⟨c, j, rfl, hp⟩
      · cases k with
        | zero =>
          have : 1 ≤ f' * n' := Int.mul_pos (by omega) hn
          simp at hp
          omega
        | succ k =>
          have hh2 := half hn c
          rw [Int.pow_succ] at hp
          exact ⟨k, Nat.lt_succ_self k, List.take_length, n', f' % n', gcx, by omega, r0, by omega, by omega, hG2, .inl ⟨by omega, by omega⟩⟩
      · have e : f' % n' = f' := Int.emod_eq_of_lt (by omega) c
        exact ⟨j, Nat.lt_succ_self j, List.take_length, n', f' % n', gcx, by omega, r0, by omega, by omega, hG2, .inl ⟨by omega, by rw [e, Int.mul_comm]; exact hp⟩⟩
    · rename_i hn
      have : n' = 0 := by omega
      subst this
      rw [gI_zero (by omega)] at hG
      rw [hG]
      exact q
theorem o_sl1 {d : D} {l : List D} {x : D} {lo hi : Option Int} {P : D → Prop} (ex : x = .tup (d :: l)) (e1 : lo = some 1) (e2 : hi = none) (q : P (.tup l)) : wO (slD x lo hi) P := by
  subst ex e1 e2
  refine wO_some ?_ q
  simp [slD, DL.cutD, HT.sIx]
local macro_rules | `(tactic| wtm_at "o1") => `(tactic| ((with_reducible apply o_sl1); exact rfl; exact rfl; exact rfl))
local macro_rules | `(tactic| wtm_at "o1") => `(tactic| ((with_reducible apply o_addT); exact rfl; exact rfl; (focus (simp only [List.length_cons, List.length_nil, List.length_map]; omega)); (try simp only [List.cons_append, List.nil_append])))
theorem law_shared_w {q : Int} {v : List Int} {h : Hs} {E : XP} {Q : D → Hs → Prop} (h1 : 1 ≤ q) (h2 : q < 2 ^ 900) (hv : v.length < 1000) (hx : ∀ x ∈ v, 0 ≤ x ∧ x < 2 ^ 900) (k : Q (.int (gL q v)) h) : wR (f__law_shared [.tup (.int q :: v.map .int)] h) E Q := by
  wtm_at "fn"
  unfold b__law_shared
  wtm_at "vc"
  refine v_for (v.map .int) (fun i ds hh => hh = h ∧ ∃ x2, ds = [some (.tup (.int q :: v.map .int)), some (.int (gL q (v.take i))), x2]) ?_
  wtm_at "vc"
  refine ⟨by simp [DL.cutD, HT.sIx]; exact List.take_of_length_le (by simp), ⟨rfl, _, rfl⟩, ?_, ?_⟩
  · rintro i x ds hh hx2 ⟨rfl, x2, rfl⟩
    rw [List.getElem?_map] at hx2
    obtain ⟨n, hn, rfl⟩ := Option.map_eq_some_iff.mp hx2
    have htake : v.take (i + 1) = v.take i ++ [n] := by rw [List.take_add_one, hn]; rfl
    have hg := gL_pos (v.take i) h1
    have hxn := hx n (List.mem_of_getElem? hn)
    wtm_at "vc"
    refine shared_while hg.1 hxn.1 (by omega) (by omega) rfl ?_
    refine ⟨List.take_length, some (.int 0), ?_⟩
    rw [htake, gL_snoc]
    rfl
  · rintro ds hh ⟨rfl, x2, rfl⟩
    rw [List.length_map, List.take_length]
    wtm_at "vc"
    (try simp only [List.take_length])
    exact k
local macro_rules | `(tactic| wtm_at "s1") => `(tactic| ((with_reducible refine law_shared_w ?_ ?_ ?_ ?_ ?_); omega; omega; (first | omega | (simp only [List.length_map, List.length_zipIdx]; omega)); (first | assumption | skip)))
theorem law_plain_w {q : Int} {v : List Int} {h : Hs} {E : XP} {Q : D → Hs → Prop} (h1 : 1 ≤ q) (h2 : q < 2 ^ 900) (hv : v.length < 1000) (hx : ∀ x ∈ v, 0 ≤ x ∧ x < 2 ^ 900) (k : Q (pt (lowQ q v) (lowV q v)) h) : wR (f__law_plain [pt q v] h) E Q := by
  have hg := gL_pos v h1
  simp only [lowQ, lowV] at k
  wtm_at "fn"
  unfold b__law_plain
  wtm_at "vc"
  wtm_at "vc"
  refine w_mapI v (fun x => x / gL q v) ?_
  wtm_at "vc"
  refine ⟨by omega, fun x m => ?_, ?_⟩
  · wtm_at "lc"
    intro hh
    wtm_at "vc"
    exact rfl
  · wtm_at "vc"
    (try simp only [List.take_length])
    exact k
end W

set_option Elab.async false
set_option linter.all false
set_option maxRecDepth 100000
set_option maxHeartbeats 1000000
set_option exponentiation.threshold 5000
namespace W
open PySem PySem.Spec PyProof.Rows L2 DL
local macro_rules | `(tactic| wtm_at "v1") => `(tactic| first
  | ((with_reducible apply w_var); exact rfl)
  | with_reducible refine w_c ?_
  | with_reducible refine w_nil ?_
  | with_reducible refine w_cons ?_
  | with_reducible refine w_bin ?_
  | with_reducible refine w_call ?_
  | with_reducible refine w_b ?_
  | with_reducible refine w_tb ?_
  | with_reducible refine w_tru ?_
  | with_reducible refine w_un ?_
  | with_reducible refine w_tup ?_
  | with_reducible refine w_lst ?_
  | with_reducible refine w_new ?_
  | with_reducible refine w_star ?_
  | with_reducible refine w_notT ?_
  | with_reducible refine w_andT ?_
  | with_reducible refine w_orT ?_
  | with_reducible refine w_if ?_
  | with_reducible refine w_andV ?_
  | with_reducible refine w_orV ?_
  | with_reducible refine w_notV ?_
  | with_reducible refine w_chain ?_
  | with_reducible refine w_sl ?_
  | with_reducible refine w_noPart ?_
  | with_reducible refine w_part ?_
  | with_reducible refine w_rev ?_
  | with_reducible refine w_seq ?_
  | with_reducible refine w_srcA ?_
  | with_reducible refine w_srcR ?_
  | with_reducible refine w_yes ?_
  | with_reducible refine v_seq ?_
  | with_reducible refine v_asg ?_
  | with_reducible refine v_if ?_
  | with_reducible refine v_ret ?_
  | with_reducible refine v_pass ?_
  | with_reducible refine v_retN ?_
  | with_reducible refine v_par2 ?_
  | with_reducible refine v_par3 ?_
  | with_reducible refine v_drop ?_
  | with_reducible refine v_put ?_
  | with_reducible refine v_app ?_
  | with_reducible refine v_brk ?_
  | with_reducible refine v_cnt ?_)
local macro_rules | `(tactic| wtm_at "o1") => `(tactic| first
  | ((with_reducible refine o_asg1 ?_); simp only [List.set_cons_zero, List.set_cons_succ])
  | ((with_reducible apply o_asg2); exact rfl; simp only [List.set_cons_zero, List.set_cons_succ])
  | ((with_reducible apply o_asg3); exact rfl; simp only [List.set_cons_zero, List.set_cons_succ])
  | ((with_reducible apply o_asg4); exact rfl; simp only [List.set_cons_zero, List.set_cons_succ])
  | ((with_reducible apply o_isBl); exact rfl)
  | ((with_reducible apply o_truB); exact rfl)
  | ((with_reducible apply o_truI); exact rfl)
  | with_reducible refine o_bindBl ?_
  | ((with_reducible apply o_ix); exact rfl; exact rfl; exact rfl; exact rfl; exact rfl)
  | ((with_reducible apply o_addI); exact rfl; exact rfl)
  | ((with_reducible apply o_subI); exact rfl; exact rfl)
  | ((with_reducible apply o_ltI); exact rfl; exact rfl)
  | ((with_reducible apply o_leI); exact rfl; exact rfl)
  | ((with_reducible apply o_gtI); exact rfl; exact rfl)
  | ((with_reducible apply o_geI); exact rfl; exact rfl)
  | ((with_reducible apply o_eqI); exact rfl; exact rfl)
  | ((with_reducible apply o_neI); exact rfl; exact rfl)
  | ((with_reducible apply o_negI); exact rfl)
  | ((with_reducible apply o_modI); exact rfl; exact rfl; (first | decide | omega))
  | ((with_reducible apply o_mulI); exact rfl; exact rfl; (first | exact sm (by omega) (by omega) | assumption); (first | exact sm (by omega) (by omega) | assumption))
  | ((with_reducible apply o_fdivI); exact rfl; exact rfl; (first | decide | omega); (first | exact sm (by omega) (by omega) | assumption))
  | ((with_reducible apply o_isN); exact rfl)
  | ((with_reducible apply o_notN); exact rfl)
  | ((with_reducible apply o_lenT); exact rfl)
  | ((with_reducible apply o_lenL); exact rfl)
  | ((with_reducible apply o_lenF); exact rfl)
  | ((with_reducible apply o_abs); exact rfl)
  | ((with_reducible apply o_int); exact rfl)
  | ((with_reducible apply o_intB); exact rfl)
  | ((with_reducible apply o_max); exact rfl)
  | ((with_reducible apply o_min); exact rfl)
  | ((with_reducible apply o_gcd); exact rfl)
  | ((with_reducible apply o_tupL); exact rfl)
  | ((with_reducible apply o_tupT); exact rfl)
  | ((with_reducible apply o_lst); exact rfl; exact rfl)
  | ((with_reducible apply o_isi (b := true)); exact rfl; exact rfl; decide +kernel)
  | ((with_reducible apply o_isi (b := false)); exact rfl; exact rfl; decide +kernel)
  | ((with_reducible apply wO_some); assumption))
local macro_rules | `(tactic| wtm_at "s1") => `(tactic| first
  | refine ⟨rfl, ?_⟩
  | refine ⟨_, _, rfl, ?_⟩
  | refine ⟨_, _, _, rfl, ?_⟩
  | refine ⟨_, rfl, ?_⟩
  | (refine ⟨_, _, _, rfl, rfl, rfl, rfl, ?_⟩; simp only [List.set_cons_zero, List.set_cons_succ, Int.reduceToNat])
  | ((with_reducible refine ⟨⟨?_, ?_⟩, ?_⟩); (focus (simp only [List.length_cons, List.length_nil]; omega)); (focus (simp only [List.any_cons, List.any_nil, Bool.or_false, Bool.or_eq_false_iff]; repeat' (first | exact rfl | assumption | refine ⟨?_, ?_⟩))))
  | ((with_reducible refine ⟨fun hb => ?_, fun hb => ?_⟩) <;> (try simp only [decide_eq_true_eq, decide_eq_false_iff_not, Bool.not_eq_true', Bool.not_eq_false', List.length_cons, List.length_nil] at hb) <;> (try (first | (exfalso; omega) | exact absurd hb (by decide) | (cases hb; done))))
  | ((with_reducible apply wF_val); (first | exact rfl | assumption); (try simp only [List.length_cons, List.take_succ_cons, List.take_length])))
local macro_rules | `(tactic| wtm_at "vc") => `(tactic| repeat' (first | wtm_at "v1" | wtm_at "o1" | wtm_at "s1"))

local macro_rules | `(tactic| wtm_at "s1") => `(tactic| ((with_reducible refine spin_w (by assumption) (by omega) (by omega) (by omega) ?_); intro _ _ _ _ _))
local macro_rules | `(tactic| wtm_at "fn") => `(tactic| (refine v_fun rfl ?_; simp only [List.map_cons, List.map_nil, List.replicate, List.cons_append, List.nil_append]))
local macro_rules | `(tactic| wtm_at "s1") => `(tactic| ((with_reducible refine is_whole_w ?_ ?_); (first | rfl | assumption)))
local macro_rules | `(tactic| wtm_at "s1") => `(tactic| ((with_reducible refine is_integer_w ?_ ?_); (first | rfl | assumption)))
local macro_rules | `(tactic| wtm_at "o1") => `(tactic| first | ((with_reducible apply o_isiT); exact rfl; assumption; assumption) | ((with_reducible apply o_allG); exact rfl))
local macro_rules | `(tactic| wtm_at "s1") => `(tactic| ((with_reducible refine is_point_in_w ?_ ?_ ?_); (first | decide | omega); assumption))
local macro_rules | `(tactic| wtm_at "s1") => `(tactic| with_reducible refine is_within_w ?_)
local macro_rules | `(tactic| wtm_at "s1") => `(tactic| ((with_reducible refine require_within_w ?_ ?_ ?_); omega; omega))
local macro_rules | `(tactic| wtm_at "lc") => `(tactic| (refine o_asg1 ?_; simp only [wipeD, List.set_cons_zero, List.set_cons_succ]))
local macro_rules | `(tactic| wtm_at "s1") => `(tactic| ((with_reducible refine lowest_point_in_w ?_ ?_ ?_ ?_); omega; omega; (first | omega | (simp only [List.length_map, List.length_zipIdx]; omega))))
local macro_rules | `(tactic| wtm_at "o1") => `(tactic| ((with_reducible apply o_inI); exact rfl; exact rfl))
local macro_rules | `(tactic| wtm_at "o1") => `(tactic| ((with_reducible apply o_sl1); exact rfl; exact rfl; exact rfl))
local macro_rules | `(tactic| wtm_at "o1") => `(tactic| ((with_reducible apply o_addT); exact rfl; exact rfl; (focus (simp only [List.length_cons, List.length_nil, List.length_map]; omega)); (try simp only [List.cons_append, List.nil_append])))
local macro_rules | `(tactic| wtm_at "s1") => `(tactic| ((with_reducible refine law_shared_w ?_ ?_ ?_ ?_ ?_); omega; omega; (first | omega | (simp only [List.length_map, List.length_zipIdx]; omega)); (first | assumption | skip)))
def frB : D → Bool
  | .tup [.int a, .int b] => decide (-(10 ^ 60) < a ∧ a < 10 ^ 60) && decide (1 ≤ b ∧ b < 10 ^ 60)
  | _ => false
theorem is_fraction_in_w {t b : Int} {h : Hs} {E : XP} {Q : D → Hs → Prop} (k : Q (.bl (frB (.tup [.int t, .int b]))) h) : wR (f_is_fraction_in [.tup [.int t, .int b]] h) E Q := by
  have q : ∀ z, z = frB (.tup [.int t, .int b]) → Q (.bl z) h := fun z e => e ▸ k
  wtm_at "fn"
  unfold b_is_fraction_in
  wtm_at "vc"
  refine w_map [.int t, .int b] (fun d => .bl (inG d)) ?_
  wtm_at "vc"
  refine ⟨by simp, fun x m => ?_, ?_⟩
  · wtm_at "lc"
    intro hh
    have : (tyN x).isSome = true := by simp at m; rcases m with rfl | rfl <;> rfl
    wtm_at "vc"
    exact rfl
  · wtm_at "vc"
    · rename_i hc
      refine q _ ?_
      simp only [List.all_cons, List.all_nil, Bool.and_true, inG, Bool.and_eq_false_iff, decide_eq_false_iff_not] at hc
      symm
      simp only [frB, Bool.and_eq_false_iff, decide_eq_false_iff_not]
      omega
    · rename_i hc
      refine q _ ?_
      simp only [List.all_cons, List.all_nil, Bool.and_true, inG, Bool.and_eq_true, decide_eq_true_eq] at hc
      simp only [frB]
      rw [decide_eq_true hc.1, Bool.true_and, decide_eq_decide]
      omega
local macro_rules | `(tactic| wtm_at "s1") => `(tactic| with_reducible refine is_fraction_in_w ?_)
theorem require_pause_w {t b : Int} {h : Hs} {E : XP} {Q : D → Hs → Prop} (t0 : 0 ≤ t) (t1 : t < 10 ^ 60) (b0 : 1 ≤ b) (b1 : b < 10 ^ 60) (k : Q .non h) : wR (f_require_pause [.tup [.int t, .int b]] h) E Q := by
  have e : frB (.tup [.int t, .int b]) = true := by simp only [frB, Bool.and_eq_true, decide_eq_true_eq]; omega
  have w : ∀ {E : XP} {Q : D → Hs → Prop}, Q (.bl true) h → wR (f_is_pause_in [.tup [.int t, .int b]] h) E Q := fun {E Q} q => by
    wtm_at "fn"
    unfold b_is_pause_in
    wtm_at "vc"
    · rw [decide_eq_true t0]
      (try simp only [List.take_length])
      exact q
    · rename_i hb
      rw [e] at hb
      cases hb
  wtm_at "fn"
  unfold b_require_pause
  wtm_at "vc"
  refine w ?_
  wtm_at "vc"
  (try simp only [List.take_length])
  exact k
theorem is_any_point_w {q : Int} {v : List Int} {h : Hs} {E : XP} {Q : D → Hs → Prop} (hv : v.length ≤ 4) (e : ptB v.length (pt q v) = true) (k : Q (.bl true) h) : wR (f_is_any_point [pt q v] h) E Q := by
  have hn : ni 2 (pt q v) = true := by
    simp only [ni, List.all_cons, List.all_nil, Bool.and_true, Bool.and_eq_true, List.all_map]
    exact ⟨rfl, by rw [List.all_eq_true]; intros; rfl⟩
  wtm_at "fn"
  unfold b_is_any_point
  wtm_at "vc"
  · rw [List.length_map, e]
    exact k
  · rename_i hb
    rw [List.length_map] at hb
    exact absurd hv (by omega)
/-- a point that the checks let -/
structure Pt (q : Int) (v : List Int) : Prop where
  q1 : 1 ≤ q
  q2 : q < 10 ^ 60
  len : v.length ≤ 4
  all : ∀ x ∈ v, 0 ≤ x ∧ x < 10 ^ 60
theorem Pt.b {q : Int} {v : List Int} (p : Pt q v) : ptB v.length (pt q v) = true := by
  simp only [ptB, Bool.and_eq_true, decide_eq_true_eq, List.all_map, List.length_map, List.all_eq_true]
  exact ⟨⟨⟨p.q1, p.q2⟩, trivial⟩, fun x hx => by simpa [nat60] using p.all x hx⟩
theorem require_point_w {q : Int} {v : List Int} {h : Hs} {E : XP} {Q : D → Hs → Prop} (p : Pt q v) (k : Q .non h) : wR (f_require_point [pt q v] h) E Q := by
  wtm_at "fn"
  unfold b_require_point
  wtm_at "vc"
  refine is_any_point_w p.len p.b ?_
  wtm_at "vc"
  (try simp only [List.take_length])
  exact k
local macro_rules | `(tactic| wtm_at "s1") => `(tactic| ((with_reducible refine require_point_w ?_ ?_); (focus assumption)))
local macro_rules | `(tactic| wtm_at "s1") => `(tactic| ((with_reducible refine require_pause_w ?_ ?_ ?_ ?_ ?_); (focus omega); (focus omega); (focus omega); (focus omega)))
theorem clocks_in_w {q : Int} {v : List Int} {h : Hs} {E : XP} {Q : D → Hs → Prop} (k : Q (.int v.length) h) : wR (f_clocks_in [pt q v] h) E Q := by
  wtm_at "fn"
  unfold b_clocks_in
  wtm_at "vc"
  (try simp only [List.take_length])
  rw [List.length_map]
  exact k
local macro_rules | `(tactic| wtm_at "s1") => `(tactic| with_reducible refine clocks_in_w ?_)
def latV (q t b : Int) (v : List Int) : List Int := v.map fun x => x * b + q * t
theorem later_w {q t b : Int} {v : List Int} {h : Hs} {E : XP} {Q : D → Hs → Prop} (p : Pt q v) (t0 : 0 ≤ t) (t1 : t < 10 ^ 60) (b0 : 1 ≤ b) (b1 : b < 10 ^ 60)
    (k : Q (pt (lowQ (q * b) (latV q t b v)) (lowV (q * b) (latV q t b v))) h) : wR (f_later [pt q v, .tup [.int t, .int b]] h) E Q := by
  wtm_at "fn"
  unfold b_later
  wtm_at "vc"
  refine later_in_w p.q1 (Int.lt_trans p.q2 (by decide +kernel)) (by have := p.len; omega) b0 (Int.lt_trans b1 (by decide +kernel)) t0 (Int.lt_trans t1 (by decide +kernel)) (fun x hx => ⟨(p.all x hx).1, Int.lt_trans (p.all x hx).2 (by decide +kernel)⟩) ?_
  wtm_at "vc"
  (try simp only [List.take_length])
  exact k
def ltP : D → Bool
  | .tup [.int a, .int b] => decide (a < b)
  | _ => false
theorem zip_asc : ∀ c : List Int, c.Pairwise (· < ·) → (zipL (c.map .int) ((c.map .int).drop 1)).all ltP = true
  | [], _ => rfl
  | [_], _ => rfl
  | a :: b :: c, h => by
    have h1 := List.pairwise_cons.mp h
    have h2 := zip_asc (b :: c) h1.2
    simp only [List.map_cons, List.drop_succ_cons, List.drop_zero, zipL, List.zipWith_cons_cons, List.all_cons, Bool.and_eq_true] at h2 ⊢
    exact ⟨decide_eq_true (h1.1 b (by simp)), h2⟩
theorem is_ascending_w {c : List Int} {h : Hs} {E : XP} {Q : D → Hs → Prop} (hc : c.Pairwise (· < ·)) (hl : c.length < 1000) (k : Q (.bl true) h) : wR (f_is_ascending [.tup (c.map .int)] h) E Q := by
  have sl : slD (.tup (c.map .int)) (some 1) none = some (.tup ((c.map .int).drop 1)) := by
    cases c with
    | nil => simp [slD, DL.cutD, HT.sIx]
    | cons a c =>
      simp [slD, DL.cutD, HT.sIx]
      exact List.take_of_length_le (by simp)
  wtm_at "fn"
  unfold b_is_ascending
  refine v_ret (w_b (w_cons ?_))
  refine w_map (zipL (c.map .int) ((c.map .int).drop 1)) (fun d => .bl (ltP d)) ?_
  refine w_srcR (w_cons ?_)
  wtm_at "v1"
  refine w_cons (w_sl ?_)
  wtm_at "v1"
  refine w_part (w_c ?_)
  refine wO_some rfl (w_noPart (wO_some sl (w_nil (wO_some rfl ⟨rfl, ?_, fun x m => ?_, ?_⟩))))
  · simp [zipL]; omega
  · obtain ⟨i, hi⟩ := List.mem_iff_getElem?.mp m
    obtain ⟨a, b, ha, hb, rfl⟩ := zipL_get hi
    obtain ⟨x, _, rfl⟩ := List.mem_map.mp (List.mem_of_getElem? ha)
    obtain ⟨y, _, rfl⟩ := List.mem_map.mp (List.mem_of_mem_drop (List.mem_of_getElem? hb))
    refine o_asg2 rfl ?_
    simp only [wipeD, List.set_cons_zero, List.set_cons_succ]
    intro hh
    wtm_at "vc"
    exact rfl
  · wtm_at "vc"
    rw [zip_asc c hc]
    (try simp only [List.take_length])
    exact k

theorem are_indices_w {c : List Int} {n : Int} {h : Hs} {E : XP} {Q : D → Hs → Prop} (hc : c.Pairwise (· < ·)) (hl : c.length < 1000) (hx : ∀ x ∈ c, 0 ≤ x ∧ x < n) (k : Q (.bl true) h) : wR (f_are_indices [.tup (c.map .int), .int n] h) E Q := by
  have hall : (c.map D.int).all (fun d => match d with | .int i => decide (0 ≤ i ∧ i ≤ n - 1) | _ => false) = true := by
    rw [List.all_map, List.all_eq_true]
    intro x m
    have := hx x m
    simp only [Function.comp_apply, decide_eq_true_eq]
    omega
  wtm_at "fn"
  unfold b_are_indices
  wtm_at "vc"
  refine w_map (c.map .int) (fun d => .bl (match d with | .int i => decide (0 ≤ i ∧ i ≤ n - 1) | _ => false)) ?_
  wtm_at "vc"
  refine ⟨by simp; omega, fun x m => ?_, ?_⟩
  · obtain ⟨i, _, rfl⟩ := List.mem_map.mp m
    wtm_at "lc"
    intro hh
    wtm_at "vc"
    exact rfl
  · wtm_at "vc"
    · rename_i hb
      rw [hall] at hb; cases hb
    · refine is_ascending_w hc hl ?_
      (try simp only [List.take_length])
      wtm_at "vc"
      (try simp only [List.take_length])
      exact k
theorem require_clocks_w {c : List Int} {n : Int} {h : Hs} {E : XP} {Q : D → Hs → Prop} (hc : c.Pairwise (· < ·)) (hl : c.length < 1000) (hx : ∀ x ∈ c, 1 ≤ x ∧ x ≤ n) (k : Q .non h) : wR (f_require_clocks [.int n, .tup (c.map .int)] h) E Q := by
  wtm_at "fn"
  unfold b_require_clocks
  wtm_at "vc"
  refine are_indices_w hc hl (fun x m => by have := hx x m; omega) ?_
  wtm_at "vc"
  · rename_i hb
    exact absurd (hx 0 hb).1 (by decide)
  · (try simp only [List.take_length])
    exact k
def bakV (c v : List Int) : List Int := v.zipIdx.map fun p => if ((p.2 : Int) + 1) ∈ c then 0 else p.1
theorem set_back_w {q : Int} {v c : List Int} {h : Hs} {E : XP} {Q : D → Hs → Prop} (p : Pt q v) (hc : c.Pairwise (· < ·)) (hl : c.length < 1000) (hx : ∀ x ∈ c, 1 ≤ x ∧ x ≤ (v.length : Int)) (k : Q (pt (lowQ q (bakV c v)) (lowV q (bakV c v))) h) : wR (f_set_back [pt q v, .tup (c.map .int)] h) E Q := by
  wtm_at "fn"
  unfold b_set_back
  wtm_at "vc"
  refine require_clocks_w hc hl hx ?_
  wtm_at "vc"
  refine back_in_w p.q1 (Int.lt_trans p.q2 (by decide +kernel)) (by have := p.len; omega) ?_
  wtm_at "vc"
  (try simp only [List.take_length])
  exact k
def shV (v : List Int) (i : Nat) : Int := ((0 : Int) :: v)[i]?.getD 0
theorem shown_w {q : Int} {v : List Int} {i j : Nat} {h : Hs} {E : XP} {Q : D → Hs → Prop} (p : Pt q v) (hi : i ≤ v.length) (hj : j ≤ v.length)
    (k : Q (.tup [.int ((shV v i - shV v j) / gI (shV v i - shV v j) q), .int (q / gI (shV v i - shV v j) q)]) h) : wR (f_shown [pt q v, .int (i : Nat), .int (j : Nat)] h) E Q := by
  have si : ∀ {i : Nat}, i ≤ v.length → (D.int 0 :: v.map .int)[i]? = some (.int (shV v i)) := by
    intro i hi
    have e : (D.int 0 :: v.map .int) = ((0 : Int) :: v).map D.int := rfl
    rw [e, List.getElem?_map, List.getElem?_eq_getElem (by simp; omega)]
    simp only [shV, List.getElem?_eq_getElem (show i < (0 :: v).length by simp; omega), Option.getD_some, Option.map_some]
  have inner : ∀ {E : XP} {Q : D → Hs → Prop}, Q (.tup [.int (shV v i - shV v j), .int q]) h → wR (f_shown_in [pt q v, .int (i : Nat), .int (j : Nat)] h) E Q := fun {E Q} k => by
    wtm_at "fn"
    unfold b_shown_in
    wtm_at "vc"
    refine wO_some rfl (w_nil ?_)
    rw [List.append_nil]
    refine ⟨⟨by have := p.len; simp; omega, by simp [isLoc]⟩, ?_⟩
    wtm_at "o1"
    wtm_at "vc"
    refine o_ix rfl rfl rfl rfl (si hi) ?_
    wtm_at "vc"
    refine o_ix rfl rfl rfl rfl (si hj) ?_
    wtm_at "vc"
    (try simp only [List.take_length])
    exact k
  wtm_at "fn"
  unfold b_shown
  wtm_at "vc"
  refine inner ?_
  wtm_at "vc"
  refine lowest_in_w p.q1 (Int.lt_trans p.q2 (by decide +kernel)) ?_
  wtm_at "vc"
  (try simp only [List.take_length])
  exact k
theorem are_same_w {q r : Int} {v u : List Int} {h : Hs} {E : XP} {Q : D → Hs → Prop} (p : Pt q v) (p2 : Pt r u) (hl : v.length = u.length) (k : Q (.bl (decide (lowQ q v = lowQ r u ∧ lowV q v = lowV r u))) h) : wR (f_are_same [pt q v, pt r u] h) E Q := by
  wtm_at "fn"
  unfold b_are_same
  wtm_at "vc"
  · refine same_in_w p.q1 (Int.lt_trans p.q2 (by decide +kernel)) (by have := p.len; omega) p2.q1 (Int.lt_trans p2.q2 (by decide +kernel)) (by have := p2.len; omega) ?_
    wtm_at "vc"
    rw [eqv_pt]
    (try simp only [List.take_length])
    exact k
theorem law_shown_w {q : Int} {v : List Int} {i : Nat} {h : Hs} {E : XP} {Q : D → Hs → Prop} (hi : i ≤ v.length) (k : Q (.int (shV v i)) h) : wR (f__law_shown [pt q v, .int (i : Nat)] h) E Q := by
  wtm_at "fn"
  unfold b__law_shown
  cases i with
  | zero =>
    wtm_at "vc"
    simpa [shV] using k
  | succ i =>
    have e : (v.map D.int)[i]? = some (.int (shV v (i + 1))) := by
      rw [List.getElem?_map, List.getElem?_eq_getElem (by omega)]
      simp only [shV, List.getElem?_cons_succ, List.getElem?_eq_getElem (show i < v.length by omega), Option.getD_some, Option.map_some]
    wtm_at "vc"
    refine o_ix rfl rfl rfl (by omega) e ?_
    (try simp only [List.take_length])
    wtm_at "vc"
    (try simp only [List.take_length])
    exact k
theorem law_later_w {q t b : Int} {v : List Int} {h : Hs} {E : XP} {Q : D → Hs → Prop} (p : Pt q v) (t0 : 0 ≤ t) (t1 : t < 10 ^ 60) (b0 : 1 ≤ b) (b1 : b < 10 ^ 60)
    (k : Q (pt (q * b) (v.map fun x => x * b + t * q)) h) : wR (f__law_later [pt q v, .int t, .int b] h) E Q := by
  have q1 := p.q1
  have q2 := p.q2
  have hl := p.len
  wtm_at "fn"
  unfold b__law_later
  wtm_at "vc"
  refine w_mapI v (fun x => x * b + t * q) ?_
  wtm_at "vc"
  refine ⟨by omega, fun x m => ?_, ?_⟩
  · wtm_at "lc"
    intro hh
    have := p.all x m
    wtm_at "vc"
    exact rfl
  · wtm_at "vc"
    (try simp only [List.take_length])
    exact k
theorem law_set_back_w {q : Int} {v c : List Int} {h : Hs} {E : XP} {Q : D → Hs → Prop} (p : Pt q v) (k : Q (pt q (bakV c v)) h) : wR (f__law_set_back [pt q v, .tup (c.map .int)] h) E Q := by
  have hl := p.len
  wtm_at "fn"
  unfold b__law_set_back
  wtm_at "vc"
  refine w_enumI v (fun i x => if i + 1 ∈ c then 0 else x) ?_
  wtm_at "vc"
  refine ⟨by omega, fun i x m => ?_, ?_⟩
  · refine o_asg2 rfl ?_
    simp only [wipeD, List.set_cons_zero, List.set_cons_succ]
    intro hh
    wtm_at "vc"
    all_goals (rename_i hc; simp [hc])
  · wtm_at "vc"
    (try simp only [List.take_length])
    exact k
end W

set_option Elab.async false
set_option linter.all false
set_option maxRecDepth 100000
set_option maxHeartbeats 1000000
set_option exponentiation.threshold 5000
namespace W
open PySem PySem.Spec PyProof.Rows L2 DL
local macro_rules | `(tactic| wtm_at "v1") => `(tactic| first
  | ((with_reducible apply w_var); exact rfl)
  | with_reducible refine w_c ?_
  | with_reducible refine w_nil ?_
  | with_reducible refine w_cons ?_
  | with_reducible refine w_bin ?_
  | with_reducible refine w_call ?_
  | with_reducible refine w_b ?_
  | with_reducible refine w_tb ?_
  | with_reducible refine w_tru ?_
  | with_reducible refine w_un ?_
  | with_reducible refine w_tup ?_
  | with_reducible refine w_lst ?_
  | with_reducible refine w_new ?_
  | with_reducible refine w_star ?_
  | with_reducible refine w_notT ?_
  | with_reducible refine w_andT ?_
  | with_reducible refine w_orT ?_
  | with_reducible refine w_if ?_
  | with_reducible refine w_andV ?_
  | with_reducible refine w_orV ?_
  | with_reducible refine w_notV ?_
  | with_reducible refine w_chain ?_
  | with_reducible refine w_sl ?_
  | with_reducible refine w_noPart ?_
  | with_reducible refine w_part ?_
  | with_reducible refine w_rev ?_
  | with_reducible refine w_seq ?_
  | with_reducible refine w_srcA ?_
  | with_reducible refine w_srcR ?_
  | with_reducible refine w_yes ?_
  | with_reducible refine v_seq ?_
  | with_reducible refine v_asg ?_
  | with_reducible refine v_if ?_
  | with_reducible refine v_ret ?_
  | with_reducible refine v_pass ?_
  | with_reducible refine v_retN ?_
  | with_reducible refine v_par2 ?_
  | with_reducible refine v_par3 ?_
  | with_reducible refine v_drop ?_
  | with_reducible refine v_put ?_
  | with_reducible refine v_app ?_
  | with_reducible refine v_brk ?_
  | with_reducible refine v_cnt ?_)
local macro_rules | `(tactic| wtm_at "o1") => `(tactic| first
  | ((with_reducible refine o_asg1 ?_); simp only [List.set_cons_zero, List.set_cons_succ])
  | ((with_reducible apply o_asg2); exact rfl; simp only [List.set_cons_zero, List.set_cons_succ])
  | ((with_reducible apply o_asg3); exact rfl; simp only [List.set_cons_zero, List.set_cons_succ])
  | ((with_reducible apply o_asg4); exact rfl; simp only [List.set_cons_zero, List.set_cons_succ])
  | ((with_reducible apply o_isBl); exact rfl)
  | ((with_reducible apply o_truB); exact rfl)
  | ((with_reducible apply o_truI); exact rfl)
  | with_reducible refine o_bindBl ?_
  | ((with_reducible apply o_ix); exact rfl; exact rfl; exact rfl; exact rfl; exact rfl)
  | ((with_reducible apply o_addI); exact rfl; exact rfl)
  | ((with_reducible apply o_subI); exact rfl; exact rfl)
  | ((with_reducible apply o_ltI); exact rfl; exact rfl)
  | ((with_reducible apply o_leI); exact rfl; exact rfl)
  | ((with_reducible apply o_gtI); exact rfl; exact rfl)
  | ((with_reducible apply o_geI); exact rfl; exact rfl)
  | ((with_reducible apply o_eqI); exact rfl; exact rfl)
  | ((with_reducible apply o_neI); exact rfl; exact rfl)
  | ((with_reducible apply o_negI); exact rfl)
  | ((with_reducible apply o_modI); exact rfl; exact rfl; (first | decide | omega))
  | ((with_reducible apply o_mulI); exact rfl; exact rfl; (first | exact sm (by omega) (by omega) | assumption); (first | exact sm (by omega) (by omega) | assumption))
  | ((with_reducible apply o_fdivI); exact rfl; exact rfl; (first | decide | omega); (first | exact sm (by omega) (by omega) | assumption))
  | ((with_reducible apply o_isN); exact rfl)
  | ((with_reducible apply o_notN); exact rfl)
  | ((with_reducible apply o_lenT); exact rfl)
  | ((with_reducible apply o_lenL); exact rfl)
  | ((with_reducible apply o_lenF); exact rfl)
  | ((with_reducible apply o_abs); exact rfl)
  | ((with_reducible apply o_int); exact rfl)
  | ((with_reducible apply o_intB); exact rfl)
  | ((with_reducible apply o_max); exact rfl)
  | ((with_reducible apply o_min); exact rfl)
  | ((with_reducible apply o_gcd); exact rfl)
  | ((with_reducible apply o_tupL); exact rfl)
  | ((with_reducible apply o_tupT); exact rfl)
  | ((with_reducible apply o_lst); exact rfl; exact rfl)
  | ((with_reducible apply o_isi (b := true)); exact rfl; exact rfl; decide +kernel)
  | ((with_reducible apply o_isi (b := false)); exact rfl; exact rfl; decide +kernel)
  | ((with_reducible apply wO_some); assumption))
local macro_rules | `(tactic| wtm_at "s1") => `(tactic| first
  | refine ⟨rfl, ?_⟩
  | refine ⟨_, _, rfl, ?_⟩
  | refine ⟨_, _, _, rfl, ?_⟩
  | refine ⟨_, rfl, ?_⟩
  | (refine ⟨_, _, _, rfl, rfl, rfl, rfl, ?_⟩; simp only [List.set_cons_zero, List.set_cons_succ, Int.reduceToNat])
  | ((with_reducible refine ⟨⟨?_, ?_⟩, ?_⟩); (focus (simp only [List.length_cons, List.length_nil]; omega)); (focus (simp only [List.any_cons, List.any_nil, Bool.or_false, Bool.or_eq_false_iff]; repeat' (first | exact rfl | assumption | refine ⟨?_, ?_⟩))))
  | ((with_reducible refine ⟨fun hb => ?_, fun hb => ?_⟩) <;> (try simp only [decide_eq_true_eq, decide_eq_false_iff_not, Bool.not_eq_true', Bool.not_eq_false', List.length_cons, List.length_nil] at hb) <;> (try (first | (exfalso; omega) | exact absurd hb (by decide) | (cases hb; done))))
  | ((with_reducible apply wF_val); (first | exact rfl | assumption); (try simp only [List.length_cons, List.take_succ_cons, List.take_length])))
local macro_rules | `(tactic| wtm_at "vc") => `(tactic| repeat' (first | wtm_at "v1" | wtm_at "o1" | wtm_at "s1"))

local macro_rules | `(tactic| wtm_at "s1") => `(tactic| ((with_reducible refine spin_w (by assumption) (by omega) (by omega) (by omega) ?_); intro _ _ _ _ _))
local macro_rules | `(tactic| wtm_at "fn") => `(tactic| (refine v_fun rfl ?_; simp only [List.map_cons, List.map_nil, List.replicate, List.cons_append, List.nil_append]))
local macro_rules | `(tactic| wtm_at "s1") => `(tactic| ((with_reducible refine is_whole_w ?_ ?_); (first | rfl | assumption)))
local macro_rules | `(tactic| wtm_at "s1") => `(tactic| ((with_reducible refine is_integer_w ?_ ?_); (first | rfl | assumption)))
local macro_rules | `(tactic| wtm_at "o1") => `(tactic| first | ((with_reducible apply o_isiT); exact rfl; assumption; assumption) | ((with_reducible apply o_allG); exact rfl))
local macro_rules | `(tactic| wtm_at "s1") => `(tactic| ((with_reducible refine is_point_in_w ?_ ?_ ?_); (first | decide | omega); assumption))
local macro_rules | `(tactic| wtm_at "s1") => `(tactic| with_reducible refine is_within_w ?_)
local macro_rules | `(tactic| wtm_at "s1") => `(tactic| ((with_reducible refine require_within_w ?_ ?_ ?_); omega; omega))
local macro_rules | `(tactic| wtm_at "lc") => `(tactic| (refine o_asg1 ?_; simp only [wipeD, List.set_cons_zero, List.set_cons_succ]))
local macro_rules | `(tactic| wtm_at "s1") => `(tactic| ((with_reducible refine lowest_point_in_w ?_ ?_ ?_ ?_); omega; omega; (first | omega | (simp only [List.length_map, List.length_zipIdx]; omega))))
local macro_rules | `(tactic| wtm_at "o1") => `(tactic| ((with_reducible apply o_inI); exact rfl; exact rfl))
local macro_rules | `(tactic| wtm_at "o1") => `(tactic| ((with_reducible apply o_sl1); exact rfl; exact rfl; exact rfl))
local macro_rules | `(tactic| wtm_at "o1") => `(tactic| ((with_reducible apply o_addT); exact rfl; exact rfl; (focus (simp only [List.length_cons, List.length_nil, List.length_map]; omega)); (try simp only [List.cons_append, List.nil_append])))
local macro_rules | `(tactic| wtm_at "s1") => `(tactic| ((with_reducible refine law_shared_w ?_ ?_ ?_ ?_ ?_); omega; omega; (first | omega | (simp only [List.length_map, List.length_zipIdx]; omega)); (first | assumption | skip)))
local macro_rules | `(tactic| wtm_at "s1") => `(tactic| with_reducible refine is_fraction_in_w ?_)
local macro_rules | `(tactic| wtm_at "s1") => `(tactic| ((with_reducible refine require_point_w ?_ ?_); (focus assumption)))
local macro_rules | `(tactic| wtm_at "s1") => `(tactic| ((with_reducible refine require_pause_w ?_ ?_ ?_ ?_ ?_); (focus omega); (focus omega); (focus omega); (focus omega)))
local macro_rules | `(tactic| wtm_at "s1") => `(tactic| with_reducible refine clocks_in_w ?_)
theorem pause_drawn_w {m : Int} {s : D} {tl : Hs} {E : XP} {Q : D → Hs → Prop} (S : Sp m s) (hm : m < 2 ^ 59) (q : ∀ t b s', 0 ≤ t → t < 1000 → 1 ≤ b → b ≤ 4 → Sp (m + 4) s' → Q (.tup [.int t, .int b]) (s' :: tl)) : wR (f__law_pause_drawn [.loc 0, .int 5] (s :: tl)) E Q := by
  wtm_at "fn"
  unfold b__law_pause_drawn
  wtm_at "vc"
  refine among_w S (by omega) (by simp) (by simp) (by simp [isLoc]) fun d s1 hd hl S1 => ?_
  obtain ⟨b, rfl, b1, b4⟩ : ∃ b, d = .int b ∧ 1 ≤ b ∧ b ≤ 4 := by
    simp at hd
    rcases hd with rfl | rfl | rfl | rfl <;> exact ⟨_, rfl, by decide, by decide⟩
  wtm_at "vc"
  rename_i r1 s2 r10 r11 S2 r2 s3 r20 r21 S3
  refine among_w S3 (by omega) (by simp) (by simp) (by simp [isLoc]) fun d s4 hd hl S4 => ?_
  obtain ⟨t, rfl, t0, t1⟩ : ∃ t, d = .int t ∧ 0 ≤ t ∧ t < 1000 := by
    simp at hd
    rcases hd with rfl | rfl | rfl
    · exact ⟨_, rfl, by decide, by decide⟩
    · exact ⟨_, rfl, by omega, by omega⟩
    · exact ⟨_, rfl, by omega, by omega⟩
  wtm_at "vc"
  exact q _ _ _ t0 t1 b1 b4 (S4.mono (by omega))
theorem among_c {m : Int} {s : D} {l : List D} {E : XP} {Q : D → Hs → Prop} (S : Sp m s) (hm : m < 2 ^ 60) (h0 : l ≠ []) (hl : l.length < 1000) (hv : ∀ d ∈ l, isLoc d = false) (q : ∀ d s', d ∈ l → Sp (m + 1) s' → Q d [s', .lst l]) : wR (f__law_among [.loc 0, .loc 1] [s, .lst l]) E Q := by
  have l0 : 0 < l.length := List.length_pos_iff.mpr h0
  wtm_at "fn"
  unfold b__law_among
  wtm_at "vc"
  rename_i r s' r0 r1 S'
  obtain ⟨k, rfl⟩ : ∃ k : Nat, r = (k : Int) := ⟨r.toNat, by omega⟩
  have hk : k < l.length := by omega
  refine o_ix rfl rfl rfl rfl (List.getElem?_eq_getElem hk) ?_
  refine wF_val (hv _ (List.getElem_mem hk)) ?_
  exact q _ _ (List.getElem_mem hk) S'
end W

set_option Elab.async false
set_option linter.all false
set_option maxRecDepth 100000
set_option maxHeartbeats 1000000
set_option exponentiation.threshold 5000
namespace W
open PySem PySem.Spec PyProof.Rows L2 DL
theorem is_wR_R {α : Type} {r : DL.R α} {E : XP} {Q : α → Hs → Prop} (h : wR r E Q) : wR r E Q := h
theorem is_wS_R {r : SR} {P : Po} (h : wS r P) : wS r P := h
theorem is_wO_R {α : Type} {o : Option α} {P : α → Prop} (h : wO o P) : wO o P := h
local macro_rules | `(tactic| wtm_at "g1") => `(tactic| (fail_if_success (with_reducible refine is_wR_R ?_); fail_if_success (with_reducible refine is_wS_R ?_); fail_if_success (with_reducible refine is_wO_R ?_)))
local macro_rules | `(tactic| wtm_at "v1") => `(tactic| first
  | ((with_reducible apply w_var); exact rfl)
  | with_reducible refine w_c ?_
  | with_reducible refine w_nil ?_
  | with_reducible refine w_cons ?_
  | with_reducible refine w_bin ?_
  | with_reducible refine w_call ?_
  | with_reducible refine w_b ?_
  | with_reducible refine w_tb ?_
  | with_reducible refine w_tru ?_
  | with_reducible refine w_un ?_
  | with_reducible refine w_tup ?_
  | with_reducible refine w_lst ?_
  | with_reducible refine w_new ?_
  | with_reducible refine w_star ?_
  | with_reducible refine w_notT ?_
  | with_reducible refine w_andT ?_
  | with_reducible refine w_orT ?_
  | with_reducible refine w_if ?_
  | with_reducible refine w_andV ?_
  | with_reducible refine w_orV ?_
  | with_reducible refine w_notV ?_
  | with_reducible refine w_chain ?_
  | with_reducible refine w_sl ?_
  | with_reducible refine w_noPart ?_
  | with_reducible refine w_part ?_
  | with_reducible refine w_rev ?_
  | with_reducible refine w_seq ?_
  | with_reducible refine w_srcA ?_
  | with_reducible refine w_srcR ?_
  | with_reducible refine w_yes ?_
  | with_reducible refine v_seq ?_
  | with_reducible refine v_asg ?_
  | with_reducible refine v_if ?_
  | with_reducible refine v_ret ?_
  | with_reducible refine v_pass ?_
  | with_reducible refine v_retN ?_
  | with_reducible refine v_par2 ?_
  | with_reducible refine v_par3 ?_
  | with_reducible refine v_drop ?_
  | with_reducible refine v_put ?_
  | with_reducible refine v_app ?_
  | with_reducible refine v_brk ?_
  | with_reducible refine v_cnt ?_)
local macro_rules | `(tactic| wtm_at "o1") => `(tactic| first
  | ((with_reducible refine o_asg1 ?_); simp only [List.set_cons_zero, List.set_cons_succ])
  | ((with_reducible apply o_asg2); exact rfl; simp only [List.set_cons_zero, List.set_cons_succ])
  | ((with_reducible apply o_asg3); exact rfl; simp only [List.set_cons_zero, List.set_cons_succ])
  | ((with_reducible apply o_asg4); exact rfl; simp only [List.set_cons_zero, List.set_cons_succ])
  | ((with_reducible apply o_isBl); exact rfl)
  | ((with_reducible apply o_truB); exact rfl)
  | ((with_reducible apply o_truI); exact rfl)
  | with_reducible refine o_bindBl ?_
  | ((with_reducible apply o_ix); exact rfl; exact rfl; exact rfl; exact rfl; exact rfl)
  | ((with_reducible apply o_addI); exact rfl; exact rfl)
  | ((with_reducible apply o_subI); exact rfl; exact rfl)
  | ((with_reducible apply o_ltI); exact rfl; exact rfl)
  | ((with_reducible apply o_leI); exact rfl; exact rfl)
  | ((with_reducible apply o_gtI); exact rfl; exact rfl)
  | ((with_reducible apply o_geI); exact rfl; exact rfl)
  | ((with_reducible apply o_eqI); exact rfl; exact rfl)
  | ((with_reducible apply o_neI); exact rfl; exact rfl)
  | ((with_reducible apply o_negI); exact rfl)
  | ((with_reducible apply o_modI); exact rfl; exact rfl; (first | decide | omega))
  | ((with_reducible apply o_mulI); exact rfl; exact rfl; (first | exact sm (by omega) (by omega) | assumption); (first | exact sm (by omega) (by omega) | assumption))
  | ((with_reducible apply o_fdivI); exact rfl; exact rfl; (first | decide | omega); (first | exact sm (by omega) (by omega) | assumption))
  | ((with_reducible apply o_isN); exact rfl)
  | ((with_reducible apply o_notN); exact rfl)
  | ((with_reducible apply o_lenT); exact rfl)
  | ((with_reducible apply o_lenL); exact rfl)
  | ((with_reducible apply o_lenF); exact rfl)
  | ((with_reducible apply o_abs); exact rfl)
  | ((with_reducible apply o_int); exact rfl)
  | ((with_reducible apply o_intB); exact rfl)
  | ((with_reducible apply o_max); exact rfl)
  | ((with_reducible apply o_min); exact rfl)
  | ((with_reducible apply o_gcd); exact rfl)
  | ((with_reducible apply o_tupL); exact rfl)
  | ((with_reducible apply o_tupT); exact rfl)
  | ((with_reducible apply o_lst); exact rfl; exact rfl)
  | ((with_reducible apply o_isi (b := true)); exact rfl; exact rfl; decide +kernel)
  | ((with_reducible apply o_isi (b := false)); exact rfl; exact rfl; decide +kernel)
  | ((with_reducible apply wO_some); assumption))
local macro_rules | `(tactic| wtm_at "s1") => `(tactic| first
  | (wtm_at "g1"; refine ⟨rfl, ?_⟩)
  | (wtm_at "g1"; refine ⟨_, _, rfl, ?_⟩)
  | (wtm_at "g1"; refine ⟨_, _, _, rfl, ?_⟩)
  | (wtm_at "g1"; refine ⟨_, rfl, ?_⟩)
  | (wtm_at "g1"; refine ⟨_, _, _, rfl, rfl, rfl, rfl, ?_⟩; simp only [List.set_cons_zero, List.set_cons_succ, Int.reduceToNat])
  | ((with_reducible refine ⟨⟨?_, ?_⟩, ?_⟩); (focus (simp only [List.length_cons, List.length_nil]; omega)); (focus (simp only [List.any_cons, List.any_nil, Bool.or_false, Bool.or_eq_false_iff]; repeat' (first | exact rfl | assumption | refine ⟨?_, ?_⟩))))
  | ((with_reducible refine ⟨fun hb => ?_, fun hb => ?_⟩) <;> (try simp only [decide_eq_true_eq, decide_eq_false_iff_not, Bool.not_eq_true', Bool.not_eq_false', List.length_cons, List.length_nil] at hb) <;> (try (first | (exfalso; omega) | exact absurd hb (by decide) | (cases hb; done))))
  | ((with_reducible apply wF_val); (first | exact rfl | assumption); (try simp only [List.length_cons, List.take_succ_cons, List.take_length])))
local macro_rules | `(tactic| wtm_at "vc") => `(tactic| repeat' (first | wtm_at "v1" | wtm_at "o1" | wtm_at "s1"))

local macro_rules | `(tactic| wtm_at "s1") => `(tactic| ((with_reducible refine spin_w (by assumption) (by omega) (by omega) (by omega) ?_); intro _ _ _ _ _))
local macro_rules | `(tactic| wtm_at "fn") => `(tactic| (refine v_fun rfl ?_; simp only [List.map_cons, List.map_nil, List.replicate, List.cons_append, List.nil_append]))
local macro_rules | `(tactic| wtm_at "s1") => `(tactic| ((with_reducible refine is_whole_w ?_ ?_); (first | rfl | assumption)))
local macro_rules | `(tactic| wtm_at "s1") => `(tactic| ((with_reducible refine is_integer_w ?_ ?_); (first | rfl | assumption)))
local macro_rules | `(tactic| wtm_at "o1") => `(tactic| first | ((with_reducible apply o_isiT); exact rfl; assumption; assumption) | ((with_reducible apply o_allG); exact rfl))
local macro_rules | `(tactic| wtm_at "s1") => `(tactic| ((with_reducible refine is_point_in_w ?_ ?_ ?_); (first | decide | omega); assumption))
local macro_rules | `(tactic| wtm_at "s1") => `(tactic| with_reducible refine is_within_w ?_)
local macro_rules | `(tactic| wtm_at "s1") => `(tactic| ((with_reducible refine require_within_w ?_ ?_ ?_); omega; omega))
local macro_rules | `(tactic| wtm_at "lc") => `(tactic| (refine o_asg1 ?_; simp only [wipeD, List.set_cons_zero, List.set_cons_succ]))
local macro_rules | `(tactic| wtm_at "s1") => `(tactic| ((with_reducible refine lowest_point_in_w ?_ ?_ ?_ ?_); omega; omega; (first | omega | (simp only [List.length_map, List.length_zipIdx]; omega))))
local macro_rules | `(tactic| wtm_at "o1") => `(tactic| ((with_reducible apply o_inI); exact rfl; exact rfl))
local macro_rules | `(tactic| wtm_at "o1") => `(tactic| ((with_reducible apply o_sl1); exact rfl; exact rfl; exact rfl))
local macro_rules | `(tactic| wtm_at "o1") => `(tactic| ((with_reducible apply o_addT); exact rfl; exact rfl; (focus (simp only [List.length_cons, List.length_nil, List.length_map]; omega)); (try simp only [List.cons_append, List.nil_append])))
local macro_rules | `(tactic| wtm_at "s1") => `(tactic| ((with_reducible refine law_shared_w ?_ ?_ ?_ ?_ ?_); omega; omega; (first | omega | (simp only [List.length_map, List.length_zipIdx]; omega)); (first | assumption | skip)))
local macro_rules | `(tactic| wtm_at "s1") => `(tactic| with_reducible refine is_fraction_in_w ?_)
local macro_rules | `(tactic| wtm_at "s1") => `(tactic| ((with_reducible refine require_point_w ?_ ?_); (focus assumption)))
local macro_rules | `(tactic| wtm_at "s1") => `(tactic| ((with_reducible refine require_pause_w ?_ ?_ ?_ ?_ ?_); (focus omega); (focus omega); (focus omega); (focus omega)))
local macro_rules | `(tactic| wtm_at "s1") => `(tactic| with_reducible refine clocks_in_w ?_)
/-- what is drawn of points -/
structure Dr (q : Int) (v : List Int) (n : Nat) : Prop where
  q1 : 1 ≤ q
  q2 : q ≤ 10 ^ 20
  len : v.length = n
  all : ∀ x ∈ v, 0 ≤ x ∧ x < 10 ^ 22
/-- lengths are letters of their own: where a cast of a Nat is held against 2 ^ 62, a look at the goal never ends -/
theorem rng1_w {k : Int} {n : Nat} (hk : k = n) (h : n ≤ 5) : rng1 [.int k] = some (.its (rangeL 0 n)) := by
  have e : k.toNat = n := by omega
  rw [rng1, if_pos (by omega), e]
theorem rl_len {n : Nat} : (rangeL 0 n).length = n := by simp [rangeL]
theorem ixN_in {n : Nat} {i : Int} (h0 : 0 ≤ i) (h1 : i < n) : ixN n i = some i.toNat := by
  unfold ixN
  simp [h0, h1]
/-- n draws into a list -/
def DrI (m : Int) (tl : Hs) (B : Int) (i : Nat) (hh : Hs) : Prop := ∃ (s' : D) (vs : List Int), hh = s' :: tl ++ [.lst (vs.map .int)] ∧ vs.length = i ∧ Sp (m + i) s' ∧ ∀ x ∈ vs, 0 ≤ x ∧ x < B
theorem draws_step {m B : Int} {s' : D} {vs : List Int} {r : Int} {i : Nat} (hl : vs.length = i) (hv : ∀ x ∈ vs, 0 ≤ x ∧ x < B) (r0 : 0 ≤ r) (r1 : r < B) (S : Sp (m + i + 1) s') : DrI m [] B (i + 1) [s', .lst (vs.map .int ++ [.int r])] := by
  refine ⟨s', vs ++ [r], by rw [List.map_append]; rfl, by rw [List.length_append, hl]; rfl, S.mono (by omega), fun x hx => ?_⟩
  rcases List.mem_append.mp hx with h | h
  · exact hv x h
  · rw [List.mem_singleton.mp h]; exact ⟨r0, r1⟩
theorem point_drawn_w {m : Int} {s : D} {k : Int} {n : Nat} {E : XP} {Q : D → Hs → Prop} (S : Sp m s) (hm : m < 2 ^ 59) (hk : k = n) (hn : n ≤ 4) (q : ∀ q v s', Dr q v n → Sp (m + 12) s' → Q (pt q v) [s']) : wR (f__law_point_drawn [.loc 0, .int k, .int 5] [s]) E Q := by
  wtm_at "fn"
  unfold b__law_point_drawn
  wtm_at "vc"
  refine among_w S (by omega) (by simp) (by simp) (by simp [isLoc]) fun d s1 hd hl S1 => ?_
  have hb : ∃ b : Int, d = .int b ∧ 1 ≤ b ∧ b ≤ 12 := by
    simp only [List.mem_cons, List.not_mem_nil, or_false] at hd
    rcases hd with e | e | e | e | e | e | e | e <;> exact ⟨_, e, by decide, by decide⟩
  cases hb with | intro b hb => ?_
  have b1 := hb.2.1
  have b4 := hb.2.2
  have e := hb.1
  clear hb
  subst e
  wtm_at "vc"
  refine w_lcC (rangeL 0 n) (DrI (m + 1) [] 62) ?_
  refine w_srcA (w_cons ?_)
  wtm_at "v1"
  refine w_nil ?_
  simp only [List.map_cons, List.map_nil, rd, rng1_w hk (show n ≤ 5 by omega)]
  refine wO_some rfl (And.intro rfl (And.intro ?_ (And.intro ?_ ?_)))
  · exact ⟨s1, [], rfl, rfl, S1.mono (by omega), fun x h => nomatch h⟩
  · rintro i x hh hx ⟨s', vs, rfl, hl, S', hv⟩
    have hi : i < n := by
      have := (List.getElem?_eq_some_iff.mp hx).1
      rwa [rl_len] at this
    refine o_asg1 ?_
    simp only [wipeD, List.set_cons_zero, List.set_cons_succ, List.cons_append, List.nil_append]
    wtm_at "vc"
    rename_i r s2 r0 r1 S2
    refine ⟨⟨rfl, by rw [List.length_map]; omega⟩, ?_⟩
    exact draws_step hl hv r0 (by omega) S2
  · rintro hh ⟨s', vs, rfl, hl, S', hv⟩
    rw [rl_len] at hl S'
    refine ⟨vs.map .int, rfl, ?_⟩
    simp only [List.cons_append, List.nil_append]
    wtm_at "vc"
    · rename_i hk1 r s2 r0 r1 S2 hr
      have hne : vs.map D.int ≠ [] := fun z => by
        have := List.length_eq_zero_iff.mpr (List.map_eq_nil_iff.mp z)
        omega
      refine among_c S2 (by omega) hne (by rw [List.length_map]; omega) (fun d hd => by
        have z := List.mem_map.mp hd
        cases z with | intro x z => rw [← z.2]; rfl) fun d s3 hd2 S3 => ?_
      have z := List.mem_map.mp hd2
      cases z with | intro x z => ?_
      have hx := z.1
      have e := z.2
      clear z
      subst e
      wtm_at "vc"
      rename_i r4 s4 r40 r41 S4
      refine ⟨r4, vs.map .int, r4.toNat, rfl, rfl, ?_, rfl, ?_⟩
      · rw [List.length_map, ixN_in r40 (by omega)]
      · wtm_at "vc"
        have ev : (vs.map D.int).set r4.toNat (D.int (x % b)) = (vs.set r4.toNat (x % b)).map D.int := by rw [List.map_set]
        rw [ev]
        have z0 := Int.emod_nonneg x (show b ≠ 0 by omega)
        have z1 := Int.emod_lt_of_pos x (show 0 < b by omega)
        refine q b (vs.set r4.toNat (x % b)) _ ⟨by omega, by omega, by rw [List.length_set, hl], fun y hy => ?_⟩ (S4.mono (by omega))
        rcases List.mem_or_eq_of_mem_set hy with h | h
        · exact ⟨(hv y h).1, by have := (hv y h).2; omega⟩
        · rw [h]; exact ⟨z0, by omega⟩
    · exact q b vs _ ⟨by omega, by omega, hl, fun x hx => ⟨(hv x hx).1, by have := (hv x hx).2; omega⟩⟩ ((by assumption : Sp (m + 1 + n + 1) _).mono (by omega))
    · exact q b vs _ ⟨by omega, by omega, hl, fun x hx => ⟨(hv x hx).1, by have := (hv x hx).2; omega⟩⟩ (S'.mono (by omega))

theorem pow20 : powD (.int 10) (.int 20) = some (.int 100000000000000000000) := (pow_ok (by decide +kernel)).trans (by rw [show ((10 : Int) ^ Int.toNat 20) = 100000000000000000000 by decide +kernel])
theorem pow22 : powD (.int 10) (.int 22) = some (.int 10000000000000000000000) := (pow_ok (by decide +kernel)).trans (by rw [show ((10 : Int) ^ Int.toNat 22) = 10000000000000000000000 by decide +kernel])
local macro_rules | `(tactic| wtm_at "o1") => `(tactic| first | ((with_reducible apply wO_some); exact pow20) | ((with_reducible apply wO_some); exact pow22))
theorem some_point_w {m : Int} {s : D} {k : Int} {n : Nat} {E : XP} {Q : D → Hs → Prop} (S : Sp m s) (hm : m < 2 ^ 58) (hk : k = n) (hn : n ≤ 4) (q : ∀ q v s', Dr q v n → Sp (m + 13) s' → Q (pt q v) [s']) : wR (f__law_some_point [.loc 0, .int k] [s]) E Q := by
  wtm_at "fn"
  unfold b__law_some_point
  wtm_at "vc"
  · rename_i r s1 r0 r1 S1 hr
    refine point_drawn_w S1 (by omega) hk hn fun q' v s2 hd S2 => ?_
    exact q q' v s2 hd (S2.mono (by omega))
  · rename_i r s1 r0 r1 S1 hr r2 s2 r20 r21 S2
    refine w_lcI (rangeL 0 n) (DrI (m + 2) [] 10000000000000000000000) ?_
    refine w_srcA (w_cons ?_)
    wtm_at "v1"
    refine w_nil ?_
    simp only [List.map_cons, List.map_nil, rd, rng1_w hk (show n ≤ 5 by omega)]
    refine wO_some rfl (And.intro rfl (And.intro ?_ (And.intro ?_ ?_)))
    · exact ⟨s2, [], rfl, rfl, S2.mono (by omega), fun x h => nomatch h⟩
    · rintro i x hh hx ⟨s', vs, rfl, hl, S', hv⟩
      have hi : i < n := by
        have := (List.getElem?_eq_some_iff.mp hx).1
        rwa [rl_len] at this
      refine o_asg1 ?_
      simp only [wipeD, List.set_cons_zero, List.set_cons_succ, List.cons_append, List.nil_append]
      wtm_at "vc"
      rename_i r3 s3 r30 r31 S3
      refine ⟨⟨rfl, by rw [List.length_map]; omega⟩, ?_⟩
      exact draws_step hl hv r30 (by omega) S3
    · rintro hh ⟨s', vs, rfl, hl, S', hv⟩
      rw [rl_len] at hl S'
      refine ⟨vs.map .int, rfl, ?_⟩
      simp only [List.cons_append, List.nil_append]
      wtm_at "vc"
      exact q (1 + r2) vs s' ⟨by omega, by omega, hl, fun x hx => ⟨(hv x hx).1, by have := (hv x hx).2; omega⟩⟩ (S'.mono (by omega))
end W

set_option Elab.async false
set_option linter.all false
set_option maxRecDepth 100000
set_option maxHeartbeats 1000000
set_option exponentiation.threshold 5000
namespace W
open PySem PySem.Spec PyProof.Rows L2 DL
theorem is_wR_S {α : Type} {r : DL.R α} {E : XP} {Q : α → Hs → Prop} (h : wR r E Q) : wR r E Q := h
theorem is_wS_S {r : SR} {P : Po} (h : wS r P) : wS r P := h
theorem is_wO_S {α : Type} {o : Option α} {P : α → Prop} (h : wO o P) : wO o P := h
local macro_rules | `(tactic| wtm_at "g1") => `(tactic| (fail_if_success (with_reducible refine is_wR_S ?_); fail_if_success (with_reducible refine is_wS_S ?_); fail_if_success (with_reducible refine is_wO_S ?_)))
local macro_rules | `(tactic| wtm_at "v1") => `(tactic| first
  | ((with_reducible apply w_var); exact rfl)
  | with_reducible refine w_c ?_
  | with_reducible refine w_nil ?_
  | with_reducible refine w_cons ?_
  | with_reducible refine w_bin ?_
  | with_reducible refine w_call ?_
  | with_reducible refine w_b ?_
  | with_reducible refine w_tb ?_
  | with_reducible refine w_tru ?_
  | with_reducible refine w_un ?_
  | with_reducible refine w_tup ?_
  | with_reducible refine w_lst ?_
  | with_reducible refine w_new ?_
  | with_reducible refine w_star ?_
  | with_reducible refine w_notT ?_
  | with_reducible refine w_andT ?_
  | with_reducible refine w_orT ?_
  | with_reducible refine w_if ?_
  | with_reducible refine w_andV ?_
  | with_reducible refine w_orV ?_
  | with_reducible refine w_notV ?_
  | with_reducible refine w_chain ?_
  | with_reducible refine w_sl ?_
  | with_reducible refine w_noPart ?_
  | with_reducible refine w_part ?_
  | with_reducible refine w_rev ?_
  | with_reducible refine w_seq ?_
  | with_reducible refine w_srcA ?_
  | with_reducible refine w_srcR ?_
  | with_reducible refine w_yes ?_
  | with_reducible refine v_seq ?_
  | with_reducible refine v_asg ?_
  | with_reducible refine v_if ?_
  | with_reducible refine v_ret ?_
  | with_reducible refine v_pass ?_
  | with_reducible refine v_retN ?_
  | with_reducible refine v_par2 ?_
  | with_reducible refine v_par3 ?_
  | with_reducible refine v_drop ?_
  | with_reducible refine v_put ?_
  | with_reducible refine v_app ?_
  | with_reducible refine v_brk ?_
  | with_reducible refine v_cnt ?_)
local macro_rules | `(tactic| wtm_at "o1") => `(tactic| first
  | ((with_reducible refine o_asg1 ?_); simp only [List.set_cons_zero, List.set_cons_succ])
  | ((with_reducible apply o_asg2); exact rfl; simp only [List.set_cons_zero, List.set_cons_succ])
  | ((with_reducible apply o_asg3); exact rfl; simp only [List.set_cons_zero, List.set_cons_succ])
  | ((with_reducible apply o_asg4); exact rfl; simp only [List.set_cons_zero, List.set_cons_succ])
  | ((with_reducible apply o_isBl); exact rfl)
  | ((with_reducible apply o_truB); exact rfl)
  | ((with_reducible apply o_truI); exact rfl)
  | with_reducible refine o_bindBl ?_
  | ((with_reducible apply o_ix); exact rfl; exact rfl; exact rfl; exact rfl; exact rfl)
  | ((with_reducible apply o_addI); exact rfl; exact rfl)
  | ((with_reducible apply o_subI); exact rfl; exact rfl)
  | ((with_reducible apply o_ltI); exact rfl; exact rfl)
  | ((with_reducible apply o_leI); exact rfl; exact rfl)
  | ((with_reducible apply o_gtI); exact rfl; exact rfl)
  | ((with_reducible apply o_geI); exact rfl; exact rfl)
  | ((with_reducible apply o_eqI); exact rfl; exact rfl)
  | ((with_reducible apply o_neI); exact rfl; exact rfl)
  | ((with_reducible apply o_negI); exact rfl)
  | ((with_reducible apply o_modI); exact rfl; exact rfl; (first | decide | omega))
  | ((with_reducible apply o_mulI); exact rfl; exact rfl; (first | exact sm (by omega) (by omega) | assumption); (first | exact sm (by omega) (by omega) | assumption))
  | ((with_reducible apply o_fdivI); exact rfl; exact rfl; (first | decide | omega); (first | exact sm (by omega) (by omega) | assumption))
  | ((with_reducible apply o_isN); exact rfl)
  | ((with_reducible apply o_notN); exact rfl)
  | ((with_reducible apply o_lenT); exact rfl)
  | ((with_reducible apply o_lenL); exact rfl)
  | ((with_reducible apply o_lenF); exact rfl)
  | ((with_reducible apply o_abs); exact rfl)
  | ((with_reducible apply o_int); exact rfl)
  | ((with_reducible apply o_intB); exact rfl)
  | ((with_reducible apply o_max); exact rfl)
  | ((with_reducible apply o_min); exact rfl)
  | ((with_reducible apply o_gcd); exact rfl)
  | ((with_reducible apply o_tupL); exact rfl)
  | ((with_reducible apply o_tupT); exact rfl)
  | ((with_reducible apply o_lst); exact rfl; exact rfl)
  | ((with_reducible apply o_isi (b := true)); exact rfl; exact rfl; decide +kernel)
  | ((with_reducible apply o_isi (b := false)); exact rfl; exact rfl; decide +kernel)
  | ((with_reducible apply wO_some); assumption))
local macro_rules | `(tactic| wtm_at "s1") => `(tactic| first
  | (wtm_at "g1"; refine ⟨rfl, ?_⟩)
  | (wtm_at "g1"; refine ⟨_, _, rfl, ?_⟩)
  | (wtm_at "g1"; refine ⟨_, _, _, rfl, ?_⟩)
  | (wtm_at "g1"; refine ⟨_, rfl, ?_⟩)
  | (wtm_at "g1"; refine ⟨_, _, _, rfl, rfl, rfl, rfl, ?_⟩; simp only [List.set_cons_zero, List.set_cons_succ, Int.reduceToNat])
  | ((with_reducible refine ⟨⟨?_, ?_⟩, ?_⟩); (focus (simp only [List.length_cons, List.length_nil]; omega)); (focus (simp only [List.any_cons, List.any_nil, Bool.or_false, Bool.or_eq_false_iff]; repeat' (first | exact rfl | assumption | refine ⟨?_, ?_⟩))))
  | ((with_reducible refine ⟨fun hb => ?_, fun hb => ?_⟩) <;> (try simp only [decide_eq_true_eq, decide_eq_false_iff_not, Bool.not_eq_true', Bool.not_eq_false', List.length_cons, List.length_nil] at hb) <;> (try (first | (exfalso; omega) | exact absurd hb (by decide) | (cases hb; done))))
  | ((with_reducible apply wF_val); (first | exact rfl | assumption); (try simp only [List.length_cons, List.take_succ_cons, List.take_length])))
local macro_rules | `(tactic| wtm_at "vc") => `(tactic| repeat' (first | wtm_at "v1" | wtm_at "o1" | wtm_at "s1"))

local macro_rules | `(tactic| wtm_at "s1") => `(tactic| ((with_reducible refine spin_w (by assumption) (by omega) (by omega) (by omega) ?_); intro _ _ _ _ _))
local macro_rules | `(tactic| wtm_at "fn") => `(tactic| (refine v_fun rfl ?_; simp only [List.map_cons, List.map_nil, List.replicate, List.cons_append, List.nil_append]))
local macro_rules | `(tactic| wtm_at "s1") => `(tactic| ((with_reducible refine is_whole_w ?_ ?_); (first | rfl | assumption)))
local macro_rules | `(tactic| wtm_at "s1") => `(tactic| ((with_reducible refine is_integer_w ?_ ?_); (first | rfl | assumption)))
local macro_rules | `(tactic| wtm_at "o1") => `(tactic| first | ((with_reducible apply o_isiT); exact rfl; assumption; assumption) | ((with_reducible apply o_allG); exact rfl))
local macro_rules | `(tactic| wtm_at "s1") => `(tactic| ((with_reducible refine is_point_in_w ?_ ?_ ?_); (first | decide | omega); assumption))
local macro_rules | `(tactic| wtm_at "s1") => `(tactic| with_reducible refine is_within_w ?_)
local macro_rules | `(tactic| wtm_at "s1") => `(tactic| ((with_reducible refine require_within_w ?_ ?_ ?_); omega; omega))
local macro_rules | `(tactic| wtm_at "lc") => `(tactic| (refine o_asg1 ?_; simp only [wipeD, List.set_cons_zero, List.set_cons_succ]))
local macro_rules | `(tactic| wtm_at "s1") => `(tactic| ((with_reducible refine lowest_point_in_w ?_ ?_ ?_ ?_); omega; omega; (first | omega | (simp only [List.length_map, List.length_zipIdx]; omega))))
local macro_rules | `(tactic| wtm_at "o1") => `(tactic| ((with_reducible apply o_inI); exact rfl; exact rfl))
local macro_rules | `(tactic| wtm_at "o1") => `(tactic| ((with_reducible apply o_sl1); exact rfl; exact rfl; exact rfl))
local macro_rules | `(tactic| wtm_at "o1") => `(tactic| ((with_reducible apply o_addT); exact rfl; exact rfl; (focus (simp only [List.length_cons, List.length_nil, List.length_map]; omega)); (try simp only [List.cons_append, List.nil_append])))
local macro_rules | `(tactic| wtm_at "s1") => `(tactic| ((with_reducible refine law_shared_w ?_ ?_ ?_ ?_ ?_); omega; omega; (first | omega | (simp only [List.length_map, List.length_zipIdx]; omega)); (first | assumption | skip)))
local macro_rules | `(tactic| wtm_at "s1") => `(tactic| with_reducible refine is_fraction_in_w ?_)
local macro_rules | `(tactic| wtm_at "s1") => `(tactic| ((with_reducible refine require_point_w ?_ ?_); (focus assumption)))
local macro_rules | `(tactic| wtm_at "s1") => `(tactic| ((with_reducible refine require_pause_w ?_ ?_ ?_ ?_ ?_); (focus omega); (focus omega); (focus omega); (focus omega)))
local macro_rules | `(tactic| wtm_at "s1") => `(tactic| with_reducible refine clocks_in_w ?_)
theorem gI_mul {k s x : Int} (hk : 0 ≤ k) : gI (k * s) (k * x) = k * gI s x := by
  unfold gI
  rw [Int.natAbs_mul, Int.natAbs_mul, Nat.gcd_mul_left, Int.natCast_mul, Int.natAbs_of_nonneg hk]
theorem gL_mul {k : Int} (hk : 0 ≤ k) : ∀ (v : List Int) (q : Int), gL (k * q) (v.map (k * ·)) = k * gL q v
  | [], q => rfl
  | x :: v, q => by
    show gL (gI (k * q) (k * x)) (v.map (k * ·)) = k * gL (gI q x) v
    rw [gI_mul hk, gL_mul hk v]
theorem low_mul {k q : Int} {v : List Int} (hk : 1 ≤ k) : lowQ (k * q) (v.map (k * ·)) = lowQ q v ∧ lowV (k * q) (v.map (k * ·)) = lowV q v := by
  unfold lowQ lowV
  rw [gL_mul (by omega)]
  refine ⟨Int.mul_ediv_mul_of_pos _ _ (by omega), ?_⟩
  rw [List.map_map]
  exact List.map_congr_left fun x _ => Int.mul_ediv_mul_of_pos _ _ (by omega)
theorem gI_dvd {s x : Int} : gI s x ∣ s ∧ gI s x ∣ x := ⟨Int.ofNat_dvd_left.mpr (Nat.gcd_dvd_left _ _), Int.ofNat_dvd_left.mpr (Nat.gcd_dvd_right _ _)⟩
theorem gL_dvd : ∀ (v : List Int) (q : Int), gL q v ∣ q ∧ ∀ x ∈ v, gL q v ∣ x
  | [], q => ⟨Int.dvd_refl q, fun x h => nomatch h⟩
  | x :: v, q => by
    obtain ⟨h1, h2⟩ := gL_dvd v (gI q x)
    have e : gL q (x :: v) = gL (gI q x) v := rfl
    rw [e]
    refine ⟨Int.dvd_trans h1 gI_dvd.1, fun y hy => ?_⟩
    rcases List.mem_cons.mp hy with rfl | hy
    · exact Int.dvd_trans h1 gI_dvd.2
    · exact h2 y hy
theorem low_q {q : Int} {v : List Int} : gL q v * lowQ q v = q := Int.mul_ediv_cancel' (gL_dvd v q).1
theorem low_v {q : Int} {v : List Int} : (lowV q v).map (gL q v * ·) = v := by
  unfold lowV
  rw [List.map_map]
  conv => rhs; rw [← List.map_id v]
  exact List.map_congr_left fun x hx => Int.mul_ediv_cancel' ((gL_dvd v q).2 x hx)
/-- two points that differ by a factor are the same in lowest terms -/
theorem low_same {q r : Int} {v u : List Int} {k : Int} (hk : 1 ≤ k) (e1 : k * r = q) (e2 : u.map (k * ·) = v) : lowQ r u = lowQ q v ∧ lowV r u = lowV q v := by
  subst e1 e2
  exact ⟨(low_mul hk).1.symm, (low_mul hk).2.symm⟩
theorem later_later {q t b t2 b2 : Int} {v : List Int} (hq : 1 ≤ q * b) :
    lowQ (lowQ (q * b) (latV q t b v) * b2) (latV (lowQ (q * b) (latV q t b v)) t2 b2 (lowV (q * b) (latV q t b v))) = lowQ (q * (b * b2)) (latV q (t * b2 + t2 * b) (b * b2) v) ∧
    lowV (lowQ (q * b) (latV q t b v) * b2) (latV (lowQ (q * b) (latV q t b v)) t2 b2 (lowV (q * b) (latV q t b v))) = lowV (q * (b * b2)) (latV q (t * b2 + t2 * b) (b * b2) v) := by
  have g1 := (gL_pos (latV q t b v) hq).1
  have e1 := low_q (q := q * b) (v := latV q t b v)
  have e2 := low_v (q := q * b) (v := latV q t b v)
  generalize lowQ (q * b) (latV q t b v) = q1 at *
  generalize lowV (q * b) (latV q t b v) = v1 at *
  generalize gL (q * b) (latV q t b v) = g at *
  refine low_same g1 ?_ ?_
  · rw [← Int.mul_assoc, e1, Int.mul_assoc]
  · have e3 : (latV q1 t2 b2 v1).map (g * ·) = latV (q * b) t2 b2 (v1.map (g * ·)) := by
      unfold latV
      rw [List.map_map, List.map_map]
      refine List.map_congr_left fun x _ => ?_
      show g * (x * b2 + q1 * t2) = g * x * b2 + q * b * t2
      rw [← e1]
      grind
    rw [e3, e2]
    unfold latV
    rw [List.map_map]
    refine List.map_congr_left fun x _ => ?_
    show (x * b + q * t) * b2 + q * b * t2 = x * (b * b2) + q * (t * b2 + t2 * b)
    grind
theorem later_none {q : Int} {v : List Int} : lowQ (q * 7) (latV q 0 7 v) = lowQ q v ∧ lowV (q * 7) (latV q 0 7 v) = lowV q v := by
  have h := low_mul (k := 7) (q := q) (v := v) (by omega)
  have e : latV q 0 7 v = v.map (7 * ·) := List.map_congr_left fun x _ => by show x * 7 + q * 0 = 7 * x; omega
  rw [e, Int.mul_comm q 7]
  exact h
theorem bak_mul {c : List Int} {k : Int} (v : List Int) : bakV c (v.map (k * ·)) = (bakV c v).map (k * ·) := by
  unfold bakV
  rw [List.zipIdx_map, List.map_map, List.map_map]
  refine List.map_congr_left fun p _ => ?_
  show (if ((p.2 : Int) + 1) ∈ c then 0 else k * p.1) = k * (if ((p.2 : Int) + 1) ∈ c then 0 else p.1)
  split <;> simp
theorem bak_len {c v : List Int} : (bakV c v).length = v.length := by simp [bakV]
theorem bak_at {c v : List Int} {i : Nat} : (bakV c v)[i]? = v[i]?.map fun x => if ((i : Int) + 1) ∈ c then 0 else x := by
  unfold bakV
  rw [List.getElem?_map, List.getElem?_zipIdx]
  cases v[i]? <;> simp
theorem bak_bak {c v : List Int} : bakV c (bakV c v) = bakV c v := by
  apply List.ext_getElem?
  intro i
  rw [bak_at, bak_at]
  cases v[i]? with
  | none => rfl
  | some x =>
    simp only [Option.map_some]
    split <;> rfl
theorem back_back {q : Int} {c v : List Int} (hq : 1 ≤ q) : lowQ (lowQ q (bakV c v)) (bakV c (lowV q (bakV c v))) = lowQ q (bakV c v) ∧ lowV (lowQ q (bakV c v)) (bakV c (lowV q (bakV c v))) = lowV q (bakV c v) := by
  refine low_same (gL_pos (bakV c v) hq).1 low_q ?_
  rw [← bak_mul, low_v, bak_bak]
/-- a fraction in lowest terms, of a difference -/
theorem frac_mul {x q k : Int} (hk : 1 ≤ k) : (k * x) / gI (k * x) (k * q) = x / gI x q ∧ (k * q) / gI (k * x) (k * q) = q / gI x q := by
  rw [gI_mul (by omega)]
  exact ⟨Int.mul_ediv_mul_of_pos _ _ (by omega), Int.mul_ediv_mul_of_pos _ _ (by omega)⟩
theorem frac_same {x q x2 q2 k : Int} (hk : 1 ≤ k) (e1 : k * x2 = x) (e2 : k * q2 = q) : x2 / gI x2 q2 = x / gI x q ∧ q2 / gI x2 q2 = q / gI x q := by
  subst e1 e2
  exact ⟨(frac_mul hk).1.symm, (frac_mul hk).2.symm⟩
theorem sh_map {f : Int → Int} {v : List Int} {i : Nat} (hi : 0 < i) (hl : i ≤ v.length) : shV (v.map f) i = f (shV v i) := by
  obtain ⟨j, rfl⟩ : ∃ j, i = j + 1 := ⟨i - 1, by omega⟩
  simp only [shV, List.getElem?_cons_succ, List.getElem?_map]
  rw [List.getElem?_eq_getElem (by omega)]
  rfl
theorem shown_later {q t b : Int} {v : List Int} {i j : Nat} (hq : 1 ≤ q) (hb : 1 ≤ b) (hi : 0 < i) (hi2 : i ≤ v.length) (hj : 0 < j) (hj2 : j ≤ v.length) :
    (shV (lowV (q * b) (latV q t b v)) i - shV (lowV (q * b) (latV q t b v)) j) / gI (shV (lowV (q * b) (latV q t b v)) i - shV (lowV (q * b) (latV q t b v)) j) (lowQ (q * b) (latV q t b v)) = (shV v i - shV v j) / gI (shV v i - shV v j) q ∧
    lowQ (q * b) (latV q t b v) / gI (shV (lowV (q * b) (latV q t b v)) i - shV (lowV (q * b) (latV q t b v)) j) (lowQ (q * b) (latV q t b v)) = q / gI (shV v i - shV v j) q := by
  have hqb : 1 ≤ q * b := by
    have := Int.mul_le_mul hq hb (by omega) (by omega)
    omega
  have g1 := (gL_pos (latV q t b v) hqb).1
  have e1 := low_q (q := q * b) (v := latV q t b v)
  have e2 := low_v (q := q * b) (v := latV q t b v)
  have hl : (lowV (q * b) (latV q t b v)).length = v.length := by simp [lowV, latV]
  generalize lowQ (q * b) (latV q t b v) = q1 at *
  generalize lowV (q * b) (latV q t b v) = v1 at *
  generalize gL (q * b) (latV q t b v) = g at *
  have ei : ∀ {i : Nat}, 0 < i → i ≤ v.length → g * shV v1 i = shV v i * b + q * t := fun {i} h1 h2 => by
    rw [← sh_map (f := (g * ·)) h1 (by omega), e2]
    unfold latV
    rw [sh_map h1 h2]
  have a := frac_same (x := g * (shV v1 i - shV v1 j)) (q := g * q1) g1 rfl rfl
  have c := frac_same (x := b * (shV v i - shV v j)) (q := b * q) hb rfl rfl
  have d1 : g * (shV v1 i - shV v1 j) = b * (shV v i - shV v j) := by
    rw [Int.mul_sub, ei hi hi2, ei hj hj2]
    grind
  have d2 : g * q1 = b * q := by rw [e1, Int.mul_comm]
  rw [d1, d2] at a
  exact ⟨a.1.trans c.1.symm, a.2.trans c.2.symm⟩
theorem gI_comm {x q : Int} (hq : 0 ≤ q) : gL q [if x < 0 then -x else x] = gI x q := by
  show gI q (if x < 0 then -x else x) = _
  unfold gI
  rw [Nat.gcd_comm]
  congr 2
  split <;> omega
theorem far_not {q : Int} {v : List Int} (hq : 1 ≤ q) : (lowQ q v = lowQ q (v.map (· + 1)) ∧ lowV q v = lowV q (v.map (· + 1))) ↔ v.length = 0 := by
  constructor
  · rintro ⟨h1, h2⟩
    cases v with
    | nil => rfl
    | cons x v =>
      exfalso
      have p1 := low_q (q := q) (v := x :: v)
      have p2 := low_q (q := q) (v := (x :: v).map (· + 1))
      have r1 := (gL_pos (x :: v) hq).1
      have r2 := (gL_pos ((x :: v).map (· + 1)) hq).1
      rw [← h1] at p2
      have z : lowQ q (x :: v) ≠ 0 := fun z => by rw [z] at p1; simp at p1; omega
      have hg : gL q (x :: v) = gL q ((x :: v).map (· + 1)) := Int.eq_of_mul_eq_mul_right z (p1.trans p2.symm)
      have w1 := low_v (q := q) (v := x :: v)
      have w2 := low_v (q := q) (v := (x :: v).map (· + 1))
      rw [← h2, ← hg, w1] at w2
      simp at w2
      omega
  · intro h
    have : v = [] := List.length_eq_zero_iff.mp h
    subst this
    exact ⟨rfl, rfl⟩
theorem wide_same {q : Int} {v : List Int} : lowQ (q * 3) (v.map (3 * ·)) = lowQ q v ∧ lowV (q * 3) (v.map (3 * ·)) = lowV q v := by
  rw [Int.mul_comm q 3]
  exact low_mul (by omega)
end W

set_option Elab.async false
set_option linter.all false
set_option maxRecDepth 100000
set_option maxHeartbeats 1000000
set_option exponentiation.threshold 5000
namespace W
open PySem PySem.Spec PyProof.Rows L2 DL
theorem is_wR_T {α : Type} {r : DL.R α} {E : XP} {Q : α → Hs → Prop} (h : wR r E Q) : wR r E Q := h
theorem is_wS_T {r : SR} {P : Po} (h : wS r P) : wS r P := h
theorem is_wO_T {α : Type} {o : Option α} {P : α → Prop} (h : wO o P) : wO o P := h
local macro_rules | `(tactic| wtm_at "g1") => `(tactic| (fail_if_success (with_reducible refine is_wR_T ?_); fail_if_success (with_reducible refine is_wS_T ?_); fail_if_success (with_reducible refine is_wO_T ?_)))
local macro_rules | `(tactic| wtm_at "v1") => `(tactic| first
  | ((with_reducible apply w_var); exact rfl)
  | with_reducible refine w_c ?_
  | with_reducible refine w_nil ?_
  | with_reducible refine w_cons ?_
  | with_reducible refine w_bin ?_
  | with_reducible refine w_call ?_
  | with_reducible refine w_b ?_
  | with_reducible refine w_tb ?_
  | with_reducible refine w_tru ?_
  | with_reducible refine w_un ?_
  | with_reducible refine w_tup ?_
  | with_reducible refine w_lst ?_
  | with_reducible refine w_new ?_
  | with_reducible refine w_star ?_
  | with_reducible refine w_notT ?_
  | with_reducible refine w_andT ?_
  | with_reducible refine w_orT ?_
  | with_reducible refine w_if ?_
  | with_reducible refine w_andV ?_
  | with_reducible refine w_orV ?_
  | with_reducible refine w_notV ?_
  | with_reducible refine w_chain ?_
  | with_reducible refine w_sl ?_
  | with_reducible refine w_noPart ?_
  | with_reducible refine w_part ?_
  | with_reducible refine w_rev ?_
  | with_reducible refine w_seq ?_
  | with_reducible refine w_srcA ?_
  | with_reducible refine w_srcR ?_
  | with_reducible refine w_yes ?_
  | with_reducible refine v_seq ?_
  | with_reducible refine v_asg ?_
  | with_reducible refine v_if ?_
  | with_reducible refine v_ret ?_
  | with_reducible refine v_pass ?_
  | with_reducible refine v_retN ?_
  | with_reducible refine v_par2 ?_
  | with_reducible refine v_par3 ?_
  | with_reducible refine v_drop ?_
  | with_reducible refine v_put ?_
  | with_reducible refine v_app ?_
  | with_reducible refine v_brk ?_
  | with_reducible refine v_cnt ?_)
local macro_rules | `(tactic| wtm_at "o1") => `(tactic| first
  | ((with_reducible refine o_asg1 ?_); simp only [List.set_cons_zero, List.set_cons_succ])
  | ((with_reducible apply o_asg2); exact rfl; simp only [List.set_cons_zero, List.set_cons_succ])
  | ((with_reducible apply o_asg3); exact rfl; simp only [List.set_cons_zero, List.set_cons_succ])
  | ((with_reducible apply o_asg4); exact rfl; simp only [List.set_cons_zero, List.set_cons_succ])
  | ((with_reducible apply o_isBl); exact rfl)
  | ((with_reducible apply o_truB); exact rfl)
  | ((with_reducible apply o_truI); exact rfl)
  | with_reducible refine o_bindBl ?_
  | ((with_reducible apply o_ix); exact rfl; exact rfl; exact rfl; exact rfl; exact rfl)
  | ((with_reducible apply o_addI); exact rfl; exact rfl)
  | ((with_reducible apply o_subI); exact rfl; exact rfl)
  | ((with_reducible apply o_ltI); exact rfl; exact rfl)
  | ((with_reducible apply o_leI); exact rfl; exact rfl)
  | ((with_reducible apply o_gtI); exact rfl; exact rfl)
  | ((with_reducible apply o_geI); exact rfl; exact rfl)
  | ((with_reducible apply o_eqI); exact rfl; exact rfl)
  | ((with_reducible apply o_neI); exact rfl; exact rfl)
  | ((with_reducible apply o_negI); exact rfl)
  | ((with_reducible apply o_modI); exact rfl; exact rfl; (first | decide | omega))
  | ((with_reducible apply o_mulI); exact rfl; exact rfl; (first | exact sm (by omega) (by omega) | assumption); (first | exact sm (by omega) (by omega) | assumption))
  | ((with_reducible apply o_fdivI); exact rfl; exact rfl; (first | decide | omega); (first | exact sm (by omega) (by omega) | assumption))
  | ((with_reducible apply o_isN); exact rfl)
  | ((with_reducible apply o_notN); exact rfl)
  | ((with_reducible apply o_lenT); exact rfl)
  | ((with_reducible apply o_lenL); exact rfl)
  | ((with_reducible apply o_lenF); exact rfl)
  | ((with_reducible apply o_abs); exact rfl)
  | ((with_reducible apply o_int); exact rfl)
  | ((with_reducible apply o_intB); exact rfl)
  | ((with_reducible apply o_max); exact rfl)
  | ((with_reducible apply o_min); exact rfl)
  | ((with_reducible apply o_gcd); exact rfl)
  | ((with_reducible apply o_tupL); exact rfl)
  | ((with_reducible apply o_tupT); exact rfl)
  | ((with_reducible apply o_lst); exact rfl; exact rfl)
  | ((with_reducible apply o_isi (b := true)); exact rfl; exact rfl; decide +kernel)
  | ((with_reducible apply o_isi (b := false)); exact rfl; exact rfl; decide +kernel)
  | ((with_reducible apply wO_some); assumption))
local macro_rules | `(tactic| wtm_at "s1") => `(tactic| first
  | (wtm_at "g1"; refine ⟨rfl, ?_⟩)
  | (wtm_at "g1"; refine ⟨_, _, rfl, ?_⟩)
  | (wtm_at "g1"; refine ⟨_, _, _, rfl, ?_⟩)
  | (wtm_at "g1"; refine ⟨_, rfl, ?_⟩)
  | (wtm_at "g1"; refine ⟨_, _, _, rfl, rfl, rfl, rfl, ?_⟩; simp only [List.set_cons_zero, List.set_cons_succ, Int.reduceToNat])
  | ((with_reducible refine ⟨⟨?_, ?_⟩, ?_⟩); (focus (simp only [List.length_cons, List.length_nil]; omega)); (focus (simp only [List.any_cons, List.any_nil, Bool.or_false, Bool.or_eq_false_iff]; repeat' (first | exact rfl | assumption | refine ⟨?_, ?_⟩))))
  | ((with_reducible refine ⟨fun hb => ?_, fun hb => ?_⟩) <;> (try simp only [decide_eq_true_eq, decide_eq_false_iff_not, Bool.not_eq_true', Bool.not_eq_false', List.length_cons, List.length_nil] at hb) <;> (try (first | (exfalso; omega) | exact absurd hb (by decide) | (cases hb; done))))
  | ((with_reducible apply wF_val); (first | exact rfl | assumption); (try simp only [List.length_cons, List.take_succ_cons, List.take_length])))
local macro_rules | `(tactic| wtm_at "vc") => `(tactic| repeat' (first | wtm_at "v1" | wtm_at "o1" | wtm_at "s1"))

local macro_rules | `(tactic| wtm_at "s1") => `(tactic| ((with_reducible refine spin_w (by assumption) (by omega) (by omega) (by omega) ?_); intro _ _ _ _ _))
local macro_rules | `(tactic| wtm_at "fn") => `(tactic| (refine v_fun rfl ?_; simp only [List.map_cons, List.map_nil, List.replicate, List.cons_append, List.nil_append]))
def q_1 : SM := sAsg (.nm 1) (mCall 2 f__law_spin (mCons (mVar 0) (mCons (mC (.int 5)) (mNil))))
def q_2 : SM := sPar [2, 3, 4] (mCons (mCall 2 f__law_some_point (mCons (mVar 0) (mCons (mVar 1) (mNil)))) (mCons (mCall 2 f__law_pause_drawn (mCons (mVar 0) (mCons (mC (.int 5)) (mNil)))) (mCons (mCall 2 f__law_pause_drawn (mCons (mVar 0) (mCons (mC (.int 5)) (mNil)))) (mNil))))
def q_3 : SM := sAsg (.nm 5) (mCall 2 f_later (mCons (mVar 2) (mCons (mVar 3) (mNil))))
def q_4 : SM := sIf (mTB (mBin neD (mVar 5) (mCall 1 f__law_plain (mCons (mCall 3 f__law_later (mCons (mVar 2) (mCons (mBin ixD (mVar 3) (mC (.int 0))) (mCons (mBin ixD (mVar 3) (mC (.int 1))) (mNil))))) (mNil))))) (sRet (mC (.bl false))) (sPass)
def q_5 : SM := sAsg (.nm 6) (mTup (mCons (mBin addD (mBin mulD (mBin ixD (mVar 3) (mC (.int 0))) (mBin ixD (mVar 4) (mC (.int 1)))) (mBin mulD (mBin ixD (mVar 4) (mC (.int 0))) (mBin ixD (mVar 3) (mC (.int 1))))) (mCons (mBin mulD (mBin ixD (mVar 3) (mC (.int 1))) (mBin ixD (mVar 4) (mC (.int 1)))) (mNil))))
def q_6 : SM := sIf (mOrT (mTB (mBin neD (mCall 2 f_later (mCons (mVar 5) (mCons (mVar 4) (mNil)))) (mCall 2 f_later (mCons (mVar 2) (mCons (mVar 6) (mNil)))))) (mTB (mBin neD (mCall 2 f_later (mCons (mVar 2) (mCons (mTup (mCons (mC (.int 0)) (mCons (mC (.int 7)) (mNil)))) (mNil)))) (mCall 1 f__law_plain (mCons (mVar 2) (mNil)))))) (sRet (mC (.bl false))) (sPass)
def q_7 : SM := sAsg (.nm 7) (mB (on1 toTup1) (mCons (mLc (mSrcA rng2 (mCons (mC (.int 1)) (mCons (mBin addD (mVar 1) (mC (.int 1))) (mNil)))) [16] (.nm 16) (mTB (mBin eqD (mCall 2 f__law_spin (mCons (mVar 0) (mCons (mC (.int 2)) (mNil)))) (mC (.int 0)))) (mVar 16)) (mNil)))
def q_8 : SM := sIf (mOrT (mTB (mBin neD (mCall 2 f_set_back (mCons (mVar 2) (mCons (mVar 7) (mNil)))) (mCall 1 f__law_plain (mCons (mCall 2 f__law_set_back (mCons (mVar 2) (mCons (mVar 7) (mNil)))) (mNil))))) (mTB (mBin neD (mCall 2 f_set_back (mCons (mCall 2 f_set_back (mCons (mVar 2) (mCons (mVar 7) (mNil)))) (mCons (mVar 7) (mNil)))) (mCall 2 f_set_back (mCons (mVar 2) (mCons (mVar 7) (mNil))))))) (sRet (mC (.bl false))) (sPass)
def q_9 : SM := sFor (mSrcA rng1 (mCons (mBin addD (mVar 1) (mC (.int 1))) (mNil))) (.nm 8) (sFor (mSrcA rng1 (mCons (mBin addD (mVar 1) (mC (.int 1))) (mNil))) (.nm 9) (sSeq (sAsg (.nm 10) (mCall 3 f_shown (mCons (mVar 2) (mCons (mVar 8) (mCons (mVar 9) (mNil)))))) (sSeq (sAsg (.nm 11) (mBin subD (mCall 2 f__law_shown (mCons (mVar 2) (mCons (mVar 8) (mNil)))) (mCall 2 f__law_shown (mCons (mVar 2) (mCons (mVar 9) (mNil)))))) (sSeq (sAsg (.nm 12) (mCall 1 f__law_shared (mCons (mTup (mCons (mBin ixD (mVar 2) (mC (.int 0))) (mCons (mB (on1 abs1) (mCons (mVar 11) (mNil))) (mNil)))) (mNil)))) (sSeq (sIf (mTB (mBin neD (mVar 10) (mTup (mCons (mBin fdivD (mVar 11) (mVar 12)) (mCons (mBin fdivD (mBin ixD (mVar 2) (mC (.int 0))) (mVar 12)) (mNil)))))) (sRet (mC (.bl false))) (sPass)) (sIf (mAndT (mTB (mBin neD (mCall 3 f_shown (mCons (mVar 5) (mCons (mVar 8) (mCons (mVar 9) (mNil))))) (mVar 10))) (mTB (mBin gtD (mBin mulD (mVar 8) (mVar 9)) (mC (.int 0))))) (sRet (mC (.bl false))) (sPass)))))))
def q_10 : SM := sAsg (.nm 13) (mTup (mCons (mBin mulD (mBin ixD (mVar 2) (mC (.int 0))) (mC (.int 3))) (mCons (mB (on1 toTup1) (mCons (mLc (mSeq (mBin ixD (mVar 2) (mC (.int 1)))) [17] (.nm 17) (mYes) (mBin mulD (mC (.int 3)) (mVar 17))) (mNil))) (mNil))))
def q_11 : SM := sAsg (.nm 14) (mTup (mCons (mBin ixD (mVar 2) (mC (.int 0))) (mCons (mB (on1 toTup1) (mCons (mLc (mSeq (mBin ixD (mVar 2) (mC (.int 1)))) [17] (.nm 17) (mYes) (mBin addD (mVar 17) (mC (.int 1)))) (mNil))) (mNil))))
def q_12 : SM := sIf (mOrT (mNotT (mTru (mCall 2 f_are_same (mCons (mVar 2) (mCons (mVar 13) (mNil)))))) (mTB (mBin neD (mCall 2 f_are_same (mCons (mVar 13) (mCons (mVar 14) (mNil)))) (mBin eqD (mVar 1) (mC (.int 0)))))) (sRet (mC (.bl false))) (sPass)
def q_13 : SM := sAsg (.nm 15) (mLst (mCons (mVar 2) (mCons (mVar 13) (mCons (mVar 14) (mCons (mB (on1 toLst1) (mCons (mVar 2) (mNil))) (mCons (mSl (mVar 2) (mNoPart) (mPart (mC (.int 1)))) (mCons (mBin addD (mVar 2) (mTup (mCons (mC (.int 0)) (mNil)))) (mCons (mTup (mCons (mC (.int 0)) (mCons (mBin ixD (mVar 2) (mC (.int 1))) (mNil)))) (mCons (mTup (mCons (mBin ixD (mVar 2) (mC (.int 0))) (mCons (mB (on1 toLst1) (mCons (mBin ixD (mVar 2) (mC (.int 1))) (mNil))) (mNil)))) (mCons (mC .non) (mCons (mC (.int 3)) (mCons (mC (.str "point")) (mCons (mC (.dct [] [])) (mNil))))))))))))))
def q_14 : SM := sAsg (.nm 15) (mBin addD (mVar 15) (mLst (mCons (mTup (mCons (mBin ixD (mVar 2) (mC (.int 0))) (mCons (mBin addD (mBin ixD (mVar 2) (mC (.int 1))) (mTup (mCons (mC (.int 0)) (mNil)))) (mNil)))) (mCons (mTup (mCons (mC (.bl true)) (mCons (mBin ixD (mVar 2) (mC (.int 1))) (mNil)))) (mCons (mTup (mCons (mBin ixD (mVar 2) (mC (.int 0))) (mCons (mSl (mBin ixD (mVar 2) (mC (.int 1))) (mPart (mC (.int 1))) (mNoPart)) (mNil)))) (mCons (mTup (mCons (mBin ixD (mVar 2) (mC (.int 0))) (mCons (mBin mulD4 (mTup (mCons (mBin subD (mC (.int 0)) (mC (.int 1))) (mNil))) (mVar 1)) (mNil)))) (mNil)))))))
def q_15 : SM := sAsg (.nm 15) (mBin addD (mVar 15) (mLst (mCons (mTup (mCons (mBin powD (mC (.int 10)) (mC (.int 60))) (mCons (mBin ixD (mVar 2) (mC (.int 1))) (mNil)))) (mCons (mTup (mCons (mC (.int 1)) (mCons (mBin mulD4 (mTup (mCons (mC (.bl true)) (mNil))) (mVar 1)) (mNil)))) (mCons (mTup (mCons (mC (.int 1)) (mCons (mBin mulD4 (mTup (mCons (mC (.str "0")) (mNil))) (mVar 1)) (mNil)))) (mCons (mTup (mCons (mUn negD (mC (.int 1))) (mCons (mBin ixD (mVar 2) (mC (.int 1))) (mNil)))) (mNil)))))))
def q_16 : SM := sRet (mBin eqD (mLc (mSeq (mVar 15)) [17] (.nm 17) (mTB (mBin neD (mB (on1 repr1) (mCons (mCall 2 f_is_point (mCons (mVar 1) (mCons (mVar 17) (mNil)))) (mNil))) (mB (on1 repr1) (mCons (mCall 2 f__law_is_point (mCons (mVar 1) (mCons (mVar 17) (mNil)))) (mNil))))) (mVar 17)) (mLst (mNil)))
theorem q_eq : b__law_right = sSeq q_1 (sSeq q_2 (sSeq q_3 (sSeq q_4 (sSeq q_5 (sSeq q_6 (sSeq q_7 (sSeq q_8 (sSeq q_9 (sSeq q_10 (sSeq q_11 (sSeq q_12 (sSeq q_13 (sSeq q_14 (sSeq q_15 (q_16))))))))))))))) := rfl
end W

set_option Elab.async false
set_option linter.all false
set_option maxRecDepth 100000
set_option maxHeartbeats 1000000
set_option exponentiation.threshold 5000
namespace W
open PySem PySem.Spec PyProof.Rows L2 DL
theorem is_wR_U {α : Type} {r : DL.R α} {E : XP} {Q : α → Hs → Prop} (h : wR r E Q) : wR r E Q := h
theorem is_wS_U {r : SR} {P : Po} (h : wS r P) : wS r P := h
theorem is_wO_U {α : Type} {o : Option α} {P : α → Prop} (h : wO o P) : wO o P := h
local macro_rules | `(tactic| wtm_at "g1") => `(tactic| (fail_if_success (with_reducible refine is_wR_U ?_); fail_if_success (with_reducible refine is_wS_U ?_); fail_if_success (with_reducible refine is_wO_U ?_)))
local macro_rules | `(tactic| wtm_at "v1") => `(tactic| first
  | ((with_reducible apply w_var); exact rfl)
  | with_reducible refine w_c ?_
  | with_reducible refine w_nil ?_
  | with_reducible refine w_cons ?_
  | with_reducible refine w_bin ?_
  | with_reducible refine w_call ?_
  | with_reducible refine w_b ?_
  | with_reducible refine w_tb ?_
  | with_reducible refine w_tru ?_
  | with_reducible refine w_un ?_
  | with_reducible refine w_tup ?_
  | with_reducible refine w_lst ?_
  | with_reducible refine w_new ?_
  | with_reducible refine w_star ?_
  | with_reducible refine w_notT ?_
  | with_reducible refine w_andT ?_
  | with_reducible refine w_orT ?_
  | with_reducible refine w_if ?_
  | with_reducible refine w_andV ?_
  | with_reducible refine w_orV ?_
  | with_reducible refine w_notV ?_
  | with_reducible refine w_chain ?_
  | with_reducible refine w_sl ?_
  | with_reducible refine w_noPart ?_
  | with_reducible refine w_part ?_
  | with_reducible refine w_rev ?_
  | with_reducible refine w_seq ?_
  | with_reducible refine w_srcA ?_
  | with_reducible refine w_srcR ?_
  | with_reducible refine w_yes ?_
  | with_reducible refine v_seq ?_
  | with_reducible refine v_asg ?_
  | with_reducible refine v_if ?_
  | with_reducible refine v_ret ?_
  | with_reducible refine v_pass ?_
  | with_reducible refine v_retN ?_
  | with_reducible refine v_par2 ?_
  | with_reducible refine v_par3 ?_
  | with_reducible refine v_drop ?_
  | with_reducible refine v_put ?_
  | with_reducible refine v_app ?_
  | with_reducible refine v_brk ?_
  | with_reducible refine v_cnt ?_)
local macro_rules | `(tactic| wtm_at "o1") => `(tactic| first
  | ((with_reducible refine o_asg1 ?_); simp only [List.set_cons_zero, List.set_cons_succ])
  | ((with_reducible apply o_asg2); exact rfl; simp only [List.set_cons_zero, List.set_cons_succ])
  | ((with_reducible apply o_asg3); exact rfl; simp only [List.set_cons_zero, List.set_cons_succ])
  | ((with_reducible apply o_asg4); exact rfl; simp only [List.set_cons_zero, List.set_cons_succ])
  | ((with_reducible apply o_isBl); exact rfl)
  | ((with_reducible apply o_truB); exact rfl)
  | ((with_reducible apply o_truI); exact rfl)
  | with_reducible refine o_bindBl ?_
  | ((with_reducible apply o_ix); exact rfl; exact rfl; exact rfl; exact rfl; exact rfl)
  | ((with_reducible apply o_addI); exact rfl; exact rfl)
  | ((with_reducible apply o_subI); exact rfl; exact rfl)
  | ((with_reducible apply o_ltI); exact rfl; exact rfl)
  | ((with_reducible apply o_leI); exact rfl; exact rfl)
  | ((with_reducible apply o_gtI); exact rfl; exact rfl)
  | ((with_reducible apply o_geI); exact rfl; exact rfl)
  | ((with_reducible apply o_eqI); exact rfl; exact rfl)
  | ((with_reducible apply o_neI); exact rfl; exact rfl)
  | ((with_reducible apply o_negI); exact rfl)
  | ((with_reducible apply o_modI); exact rfl; exact rfl; (first | decide | omega))
  | ((with_reducible apply o_mulI); exact rfl; exact rfl; (first | exact sm (by omega) (by omega) | assumption); (first | exact sm (by omega) (by omega) | assumption))
  | ((with_reducible apply o_fdivI); exact rfl; exact rfl; (first | decide | omega); (first | exact sm (by omega) (by omega) | assumption))
  | ((with_reducible apply o_isN); exact rfl)
  | ((with_reducible apply o_notN); exact rfl)
  | ((with_reducible apply o_lenT); exact rfl)
  | ((with_reducible apply o_lenL); exact rfl)
  | ((with_reducible apply o_lenF); exact rfl)
  | ((with_reducible apply o_abs); exact rfl)
  | ((with_reducible apply o_int); exact rfl)
  | ((with_reducible apply o_intB); exact rfl)
  | ((with_reducible apply o_max); exact rfl)
  | ((with_reducible apply o_min); exact rfl)
  | ((with_reducible apply o_gcd); exact rfl)
  | ((with_reducible apply o_tupL); exact rfl)
  | ((with_reducible apply o_tupT); exact rfl)
  | ((with_reducible apply o_lst); exact rfl; exact rfl)
  | ((with_reducible apply o_isi (b := true)); exact rfl; exact rfl; decide +kernel)
  | ((with_reducible apply o_isi (b := false)); exact rfl; exact rfl; decide +kernel)
  | ((with_reducible apply wO_some); assumption))
local macro_rules | `(tactic| wtm_at "s1") => `(tactic| first
  | (wtm_at "g1"; refine ⟨rfl, ?_⟩)
  | (wtm_at "g1"; refine ⟨_, _, rfl, ?_⟩)
  | (wtm_at "g1"; refine ⟨_, _, _, rfl, ?_⟩)
  | (wtm_at "g1"; refine ⟨_, rfl, ?_⟩)
  | (wtm_at "g1"; refine ⟨_, _, _, rfl, rfl, rfl, rfl, ?_⟩; simp only [List.set_cons_zero, List.set_cons_succ, Int.reduceToNat])
  | ((with_reducible refine ⟨⟨?_, ?_⟩, ?_⟩); (focus (simp only [List.length_cons, List.length_nil]; omega)); (focus (simp only [List.any_cons, List.any_nil, Bool.or_false, Bool.or_eq_false_iff]; repeat' (first | exact rfl | assumption | refine ⟨?_, ?_⟩))))
  | ((with_reducible refine ⟨fun hb => ?_, fun hb => ?_⟩) <;> (try simp only [decide_eq_true_eq, decide_eq_false_iff_not, Bool.not_eq_true', Bool.not_eq_false', List.length_cons, List.length_nil] at hb) <;> (try (first | (exfalso; omega) | exact absurd hb (by decide) | (cases hb; done))))
  | ((with_reducible apply wF_val); (first | exact rfl | assumption); (try simp only [List.length_cons, List.take_succ_cons, List.take_length])))
local macro_rules | `(tactic| wtm_at "vc") => `(tactic| repeat' (first | wtm_at "v1" | wtm_at "o1" | wtm_at "s1"))

local macro_rules | `(tactic| wtm_at "s1") => `(tactic| ((with_reducible refine spin_w (by assumption) (by omega) (by omega) (by omega) ?_); intro _ _ _ _ _))
local macro_rules | `(tactic| wtm_at "fn") => `(tactic| (refine v_fun rfl ?_; simp only [List.map_cons, List.map_nil, List.replicate, List.cons_append, List.nil_append]))
local macro_rules | `(tactic| wtm_at "s1") => `(tactic| ((with_reducible refine is_whole_w ?_ ?_); (first | rfl | assumption)))
local macro_rules | `(tactic| wtm_at "s1") => `(tactic| ((with_reducible refine is_integer_w ?_ ?_); (first | rfl | assumption)))
local macro_rules | `(tactic| wtm_at "o1") => `(tactic| first | ((with_reducible apply o_isiT); exact rfl; assumption; assumption) | ((with_reducible apply o_allG); exact rfl))
local macro_rules | `(tactic| wtm_at "s1") => `(tactic| ((with_reducible refine is_point_in_w ?_ ?_ ?_); (first | decide | omega); assumption))
local macro_rules | `(tactic| wtm_at "s1") => `(tactic| with_reducible refine is_within_w ?_)
local macro_rules | `(tactic| wtm_at "s1") => `(tactic| ((with_reducible refine require_within_w ?_ ?_ ?_); omega; omega))
local macro_rules | `(tactic| wtm_at "lc") => `(tactic| (refine o_asg1 ?_; simp only [wipeD, List.set_cons_zero, List.set_cons_succ]))
local macro_rules | `(tactic| wtm_at "s1") => `(tactic| ((with_reducible refine lowest_point_in_w ?_ ?_ ?_ ?_); omega; omega; (first | omega | (simp only [List.length_map, List.length_zipIdx]; omega))))
local macro_rules | `(tactic| wtm_at "o1") => `(tactic| ((with_reducible apply o_inI); exact rfl; exact rfl))
local macro_rules | `(tactic| wtm_at "o1") => `(tactic| ((with_reducible apply o_sl1); exact rfl; exact rfl; exact rfl))
local macro_rules | `(tactic| wtm_at "o1") => `(tactic| ((with_reducible apply o_addT); exact rfl; exact rfl; (focus (simp only [List.length_cons, List.length_nil, List.length_map]; omega)); (try simp only [List.cons_append, List.nil_append])))
local macro_rules | `(tactic| wtm_at "s1") => `(tactic| ((with_reducible refine law_shared_w ?_ ?_ ?_ ?_ ?_); omega; omega; (first | omega | (simp only [List.length_map, List.length_zipIdx]; omega)); (first | assumption | skip)))
local macro_rules | `(tactic| wtm_at "s1") => `(tactic| with_reducible refine is_fraction_in_w ?_)
local macro_rules | `(tactic| wtm_at "s1") => `(tactic| ((with_reducible refine require_point_w ?_ ?_); (focus assumption)))
local macro_rules | `(tactic| wtm_at "s1") => `(tactic| ((with_reducible refine require_pause_w ?_ ?_ ?_ ?_ ?_); (focus omega); (focus omega); (focus omega); (focus omega)))
local macro_rules | `(tactic| wtm_at "s1") => `(tactic| with_reducible refine clocks_in_w ?_)
local macro_rules | `(tactic| wtm_at "o1") => `(tactic| first | ((with_reducible apply wO_some); exact pow20) | ((with_reducible apply wO_some); exact pow22))
theorem Dr.pt {q : Int} {v : List Int} {n : Nat} (d : Dr q v n) (hn : n ≤ 4) : Pt q v := ⟨d.q1, Int.lt_of_le_of_lt d.q2 (by decide), by rw [d.len]; exact hn, fun x hx => ⟨(d.all x hx).1, Int.lt_trans (d.all x hx).2 (by decide)⟩⟩
abbrev fr (t b : Int) : D := .tup [.int t, .int b]
abbrev beh (q t b : Int) (v : List Int) : D := pt (lowQ (q * b) (latV q t b v)) (lowV (q * b) (latV q t b v))
abbrev bothF (t b t2 b2 : Int) : D := fr (t * b2 + t2 * b) (b * b2)
theorem lat_comm {q t b : Int} {v : List Int} : (v.map fun x => x * b + t * q) = latV q t b v := List.map_congr_left fun x _ => by rw [Int.mul_comm t q]
theorem lat_len {q t b : Int} {v : List Int} : (latV q t b v).length = v.length := by simp [latV]
theorem lat_bd {q t b : Int} {v : List Int} {n : Nat} (d : Dr q v n) (t0 : 0 ≤ t) (t1 : t ≤ 8000) (b0 : 1 ≤ b) (b1 : b ≤ 16) : 1 ≤ q * b ∧ q * b < 10 ^ 30 ∧ ∀ x ∈ latV q t b v, 0 ≤ x ∧ x < 10 ^ 30 := by
  have q1 := d.q1
  have q2 := d.q2
  have e1 : q * 1 ≤ q * b := Int.mul_le_mul_of_nonneg_left b0 (by omega)
  have e2 : q * b ≤ q * 16 := Int.mul_le_mul_of_nonneg_left b1 (by omega)
  refine ⟨by omega, by omega, fun x hx => ?_⟩
  obtain ⟨y, hy, rfl⟩ := List.mem_map.mp hx
  have y1 := (d.all y hy).1
  have y2 := (d.all y hy).2
  have e3 : 0 ≤ y * b := Int.mul_nonneg y1 (by omega)
  have e4 : y * b ≤ y * 16 := Int.mul_le_mul_of_nonneg_left b1 y1
  have e5 : 0 ≤ q * t := Int.mul_nonneg (by omega) t0
  have e6 : q * t ≤ q * 8000 := Int.mul_le_mul_of_nonneg_left t1 (by omega)
  constructor <;> omega
theorem low_pt {q : Int} {v : List Int} (h1 : 1 ≤ q) (h2 : q < 10 ^ 60) (hl : v.length ≤ 4) (hx : ∀ x ∈ v, 0 ≤ x ∧ x < 10 ^ 60) : Pt (lowQ q v) (lowV q v) := by
  have g := gL_pos v h1
  refine ⟨Int.le_ediv_of_mul_le (by omega) (by omega), Int.lt_of_le_of_lt (Int.ediv_le_self _ (by omega)) h2, by simpa [lowV] using hl, fun x h => ?_⟩
  obtain ⟨y, hy, rfl⟩ := List.mem_map.mp h
  exact ⟨Int.ediv_nonneg (hx y hy).1 (by omega), Int.lt_of_le_of_lt (Int.ediv_le_self _ (hx y hy).1) (hx y hy).2⟩
theorem small {x : Int} (h : x < 10 ^ 30) : x < 10 ^ 60 := Int.lt_trans h (by decide)
theorem beh_pt {q t b : Int} {v : List Int} {n : Nat} (d : Dr q v n) (hn : n ≤ 4) (t0 : 0 ≤ t) (t1 : t ≤ 8000) (b0 : 1 ≤ b) (b1 : b ≤ 16) : Pt (lowQ (q * b) (latV q t b v)) (lowV (q * b) (latV q t b v)) := by
  have h := lat_bd d t0 t1 b0 b1
  exact low_pt h.1 (small h.2.1) (by rw [lat_len, d.len]; exact hn) fun x hx => ⟨(h.2.2 x hx).1, small (h.2.2 x hx).2⟩
theorem pt_eq {q r : Int} {v u : List Int} (e : q = r ∧ v = u) : pt q v = pt r u := by rw [e.1, e.2]
/-- clocks that are drawn: ascending, of those that are there -/
structure Cl (c : List Int) (n : Nat) : Prop where
  asc : c.Pairwise (· < ·)
  few : c.length ≤ 4
  inn : ∀ x ∈ c, 1 ≤ x ∧ x ≤ (n : Int)
section
variable {q0 k t b t2 b2 : Int} {v c : List Int} {n : Nat} {h : Hs} {P : Po}
theorem r3 (hd : Dr q0 v n) (hn : n ≤ 4) (t0 : 0 ≤ t) (t1 : t < 1000) (b0 : 1 ≤ b) (b1 : b ≤ 4) (w : P.nx [some (.loc 0), some (.int k), some (W.pt q0 v), some (fr t b), some (fr t2 b2), some (beh q0 t b v), none, none, none, none, none, none, none, none, none, none, none, none] h) :
    wS (q_3 [some (.loc 0), some (.int k), some (W.pt q0 v), some (fr t b), some (fr t2 b2), none, none, none, none, none, none, none, none, none, none, none, none, none] h) P := by
  unfold q_3
  wtm_at "vc"
  refine later_w (hd.pt hn) t0 (by omega) b0 (by omega) ?_
  wtm_at "vc"
  exact w
theorem r4 (hd : Dr q0 v n) (hn : n ≤ 4) (t0 : 0 ≤ t) (t1 : t < 1000) (b0 : 1 ≤ b) (b1 : b ≤ 4) (w : P.nx [some (.loc 0), some (.int k), some (W.pt q0 v), some (fr t b), some (fr t2 b2), some (beh q0 t b v), none, none, none, none, none, none, none, none, none, none, none, none] h) :
    wS (q_4 [some (.loc 0), some (.int k), some (W.pt q0 v), some (fr t b), some (fr t2 b2), some (beh q0 t b v), none, none, none, none, none, none, none, none, none, none, none, none] h) P := by
  unfold q_4
  have z := lat_bd hd t0 (by omega) b0 (by omega)
  wtm_at "vc"
  refine law_later_w (hd.pt hn) t0 (by omega) b0 (by omega) ?_
  rw [lat_comm]
  wtm_at "vc"
  refine law_plain_w z.1 (Int.lt_trans z.2.1 (by decide +kernel)) (by rw [lat_len, hd.len]; omega) (fun x hx => ⟨(z.2.2 x hx).1, Int.lt_trans (z.2.2 x hx).2 (by decide +kernel)⟩) ?_
  refine o_neS rfl okE_pt ?_
  wtm_at "vc"
  exact w
theorem r5 (hd : Dr q0 v n) (hn : n ≤ 4) (t0 : 0 ≤ t) (t1 : t < 1000) (b0 : 1 ≤ b) (b1 : b ≤ 4) (t20 : 0 ≤ t2) (t21 : t2 < 1000) (b20 : 1 ≤ b2) (b21 : b2 ≤ 4) (w : P.nx [some (.loc 0), some (.int k), some (W.pt q0 v), some (fr t b), some (fr t2 b2), some (beh q0 t b v), some (bothF t b t2 b2), none, none, none, none, none, none, none, none, none, none, none] h) :
    wS (q_5 [some (.loc 0), some (.int k), some (W.pt q0 v), some (fr t b), some (fr t2 b2), some (beh q0 t b v), none, none, none, none, none, none, none, none, none, none, none, none] h) P := by
  unfold q_5
  wtm_at "vc"
  exact w
theorem r6 (hd : Dr q0 v n) (hn : n ≤ 4) (t0 : 0 ≤ t) (t1 : t < 1000) (b0 : 1 ≤ b) (b1 : b ≤ 4) (t20 : 0 ≤ t2) (t21 : t2 < 1000) (b20 : 1 ≤ b2) (b21 : b2 ≤ 4) (w : P.nx [some (.loc 0), some (.int k), some (W.pt q0 v), some (fr t b), some (fr t2 b2), some (beh q0 t b v), some (bothF t b t2 b2), none, none, none, none, none, none, none, none, none, none, none] h) :
    wS (q_6 [some (.loc 0), some (.int k), some (W.pt q0 v), some (fr t b), some (fr t2 b2), some (beh q0 t b v), some (bothF t b t2 b2), none, none, none, none, none, none, none, none, none, none, none] h) P := by
  unfold q_6
  have y1 : 1 ≤ b * b2 := by
    have := Int.mul_le_mul (a := 1) (b := 1) (c := b) (d := b2) b0 b20 (by omega) (by omega)
    omega
  have y2 : b * b2 ≤ 16 := by
    have := Int.mul_le_mul (a := b) (b := b2) (c := 4) (d := 4) b1 b21 (by omega) (by omega)
    omega
  have y3 : 0 ≤ t * b2 := Int.mul_nonneg t0 (by omega)
  have y4 : t * b2 ≤ t * 4 := Int.mul_le_mul_of_nonneg_left b21 t0
  have y5 : 0 ≤ t2 * b := Int.mul_nonneg t20 (by omega)
  have y6 : t2 * b ≤ t2 * 4 := Int.mul_le_mul_of_nonneg_left b1 t20
  have z := lat_bd hd t0 (by omega) b0 (by omega)
  have e := later_later (q := q0) (t := t) (b := b) (t2 := t2) (b2 := b2) (v := v) z.1
  have e7 := later_none (q := q0) (v := v)
  wtm_at "vc"
  refine later_w (beh_pt hd hn t0 (by omega) b0 (by omega)) t20 (by omega) b20 (by omega) ?_
  wtm_at "vc"
  refine later_w (hd.pt hn) (by omega) (by omega) y1 (by omega) ?_
  refine o_neS (pt_eq e) okE_pt ?_
  wtm_at "vc"
  refine later_w (hd.pt hn) (by omega) (by omega) (by omega) (by omega) ?_
  wtm_at "vc"
  refine law_plain_w hd.q1 (Int.lt_of_le_of_lt hd.q2 (by decide +kernel)) (by rw [hd.len]; omega) (fun x hx => ⟨(hd.all x hx).1, Int.lt_trans (hd.all x hx).2 (by decide +kernel)⟩) ?_
  refine o_neS (pt_eq e7) okE_pt ?_
  wtm_at "vc"
  exact w
theorem r8 (hd : Dr q0 v n) (hn : n ≤ 4) (hc : Cl c n)  (w : P.nx [some (.loc 0), some (.int k), some (W.pt q0 v), some (fr t b), some (fr t2 b2), some (beh q0 t b v), some (bothF t b t2 b2), some (D.tup (c.map .int)), none, none, none, none, none, none, none, none, none, none] h) :
    wS (q_8 [some (.loc 0), some (.int k), some (W.pt q0 v), some (fr t b), some (fr t2 b2), some (beh q0 t b v), some (bothF t b t2 b2), some (D.tup (c.map .int)), none, none, none, none, none, none, none, none, none, none] h) P := by
  unfold q_8
  have hv : ∀ {c : List Int}, ∀ x ∈ bakV c v, 0 ≤ x ∧ x < 10 ^ 22 := fun {c} x hx => by
    obtain ⟨p, hp, rfl⟩ := List.mem_map.mp hx
    have := hd.all p.1 (List.fst_mem_of_mem_zipIdx hp)
    split
    · exact ⟨by omega, by omega⟩
    · exact this
  have hq : q0 < 10 ^ 60 := Int.lt_of_le_of_lt hd.q2 (by decide)
  have e := back_back (q := q0) (c := c) (v := v) hd.q1
  have hp : Pt (lowQ q0 (bakV c v)) (lowV q0 (bakV c v)) := low_pt hd.q1 hq (by rw [bak_len, hd.len]; exact hn) fun x hx => ⟨(hv x hx).1, Int.lt_trans (hv x hx).2 (by decide)⟩
  have hl : (lowV q0 (bakV c v)).length = n := by rw [← hd.len]; simp [lowV, bak_len]
  wtm_at "vc"
  refine set_back_w (hd.pt hn) hc.asc (by have := hc.few; omega) (fun x hx => by rw [hd.len]; exact hc.inn x hx) ?_
  wtm_at "vc"
  refine law_set_back_w (hd.pt hn) ?_
  wtm_at "vc"
  refine law_plain_w hd.q1 (Int.lt_trans hq (by decide +kernel)) (by rw [bak_len, hd.len]; omega) (fun x hx => ⟨(hv x hx).1, Int.lt_trans (hv x hx).2 (by decide +kernel)⟩) ?_
  refine o_neS rfl okE_pt ?_
  wtm_at "vc"
  refine set_back_w (hd.pt hn) hc.asc (by have := hc.few; omega) (fun x hx => by rw [hd.len]; exact hc.inn x hx) ?_
  wtm_at "vc"
  refine set_back_w hp hc.asc (by have := hc.few; omega) (fun x hx => by rw [hl]; exact hc.inn x hx) ?_
  wtm_at "vc"
  refine set_back_w (hd.pt hn) hc.asc (by have := hc.few; omega) (fun x hx => by rw [hd.len]; exact hc.inn x hx) ?_
  refine o_neS (pt_eq e) okE_pt ?_
  wtm_at "vc"
  exact w
end
end W

set_option Elab.async false
set_option linter.all false
set_option maxRecDepth 100000
set_option maxHeartbeats 1000000
set_option exponentiation.threshold 5000
namespace W
open PySem PySem.Spec PyProof.Rows L2 DL
theorem is_wR_V {α : Type} {r : DL.R α} {E : XP} {Q : α → Hs → Prop} (h : wR r E Q) : wR r E Q := h
theorem is_wS_V {r : SR} {P : Po} (h : wS r P) : wS r P := h
theorem is_wO_V {α : Type} {o : Option α} {P : α → Prop} (h : wO o P) : wO o P := h
local macro_rules | `(tactic| wtm_at "g1") => `(tactic| (fail_if_success (with_reducible refine is_wR_V ?_); fail_if_success (with_reducible refine is_wS_V ?_); fail_if_success (with_reducible refine is_wO_V ?_)))
local macro_rules | `(tactic| wtm_at "v1") => `(tactic| first
  | ((with_reducible apply w_var); exact rfl)
  | with_reducible refine w_c ?_
  | with_reducible refine w_nil ?_
  | with_reducible refine w_cons ?_
  | with_reducible refine w_bin ?_
  | with_reducible refine w_call ?_
  | with_reducible refine w_b ?_
  | with_reducible refine w_tb ?_
  | with_reducible refine w_tru ?_
  | with_reducible refine w_un ?_
  | with_reducible refine w_tup ?_
  | with_reducible refine w_lst ?_
  | with_reducible refine w_new ?_
  | with_reducible refine w_star ?_
  | with_reducible refine w_notT ?_
  | with_reducible refine w_andT ?_
  | with_reducible refine w_orT ?_
  | with_reducible refine w_if ?_
  | with_reducible refine w_andV ?_
  | with_reducible refine w_orV ?_
  | with_reducible refine w_notV ?_
  | with_reducible refine w_chain ?_
  | with_reducible refine w_sl ?_
  | with_reducible refine w_noPart ?_
  | with_reducible refine w_part ?_
  | with_reducible refine w_rev ?_
  | with_reducible refine w_seq ?_
  | with_reducible refine w_srcA ?_
  | with_reducible refine w_srcR ?_
  | with_reducible refine w_yes ?_
  | with_reducible refine v_seq ?_
  | with_reducible refine v_asg ?_
  | with_reducible refine v_if ?_
  | with_reducible refine v_ret ?_
  | with_reducible refine v_pass ?_
  | with_reducible refine v_retN ?_
  | with_reducible refine v_par2 ?_
  | with_reducible refine v_par3 ?_
  | with_reducible refine v_drop ?_
  | with_reducible refine v_put ?_
  | with_reducible refine v_app ?_
  | with_reducible refine v_brk ?_
  | with_reducible refine v_cnt ?_)
local macro_rules | `(tactic| wtm_at "o1") => `(tactic| first
  | ((with_reducible refine o_asg1 ?_); simp only [List.set_cons_zero, List.set_cons_succ])
  | ((with_reducible apply o_asg2); exact rfl; simp only [List.set_cons_zero, List.set_cons_succ])
  | ((with_reducible apply o_asg3); exact rfl; simp only [List.set_cons_zero, List.set_cons_succ])
  | ((with_reducible apply o_asg4); exact rfl; simp only [List.set_cons_zero, List.set_cons_succ])
  | ((with_reducible apply o_isBl); exact rfl)
  | ((with_reducible apply o_truB); exact rfl)
  | ((with_reducible apply o_truI); exact rfl)
  | with_reducible refine o_bindBl ?_
  | ((with_reducible apply o_ix); exact rfl; exact rfl; exact rfl; exact rfl; exact rfl)
  | ((with_reducible apply o_addI); exact rfl; exact rfl)
  | ((with_reducible apply o_subI); exact rfl; exact rfl)
  | ((with_reducible apply o_ltI); exact rfl; exact rfl)
  | ((with_reducible apply o_leI); exact rfl; exact rfl)
  | ((with_reducible apply o_gtI); exact rfl; exact rfl)
  | ((with_reducible apply o_geI); exact rfl; exact rfl)
  | ((with_reducible apply o_eqI); exact rfl; exact rfl)
  | ((with_reducible apply o_neI); exact rfl; exact rfl)
  | ((with_reducible apply o_negI); exact rfl)
  | ((with_reducible apply o_modI); exact rfl; exact rfl; (first | decide | omega))
  | ((with_reducible apply o_mulI); exact rfl; exact rfl; (first | exact sm (by omega) (by omega) | assumption); (first | exact sm (by omega) (by omega) | assumption))
  | ((with_reducible apply o_fdivI); exact rfl; exact rfl; (first | decide | omega); (first | exact sm (by omega) (by omega) | assumption))
  | ((with_reducible apply o_isN); exact rfl)
  | ((with_reducible apply o_notN); exact rfl)
  | ((with_reducible apply o_lenT); exact rfl)
  | ((with_reducible apply o_lenL); exact rfl)
  | ((with_reducible apply o_lenF); exact rfl)
  | ((with_reducible apply o_abs); exact rfl)
  | ((with_reducible apply o_int); exact rfl)
  | ((with_reducible apply o_intB); exact rfl)
  | ((with_reducible apply o_max); exact rfl)
  | ((with_reducible apply o_min); exact rfl)
  | ((with_reducible apply o_gcd); exact rfl)
  | ((with_reducible apply o_tupL); exact rfl)
  | ((with_reducible apply o_tupT); exact rfl)
  | ((with_reducible apply o_lst); exact rfl; exact rfl)
  | ((with_reducible apply o_isi (b := true)); exact rfl; exact rfl; decide +kernel)
  | ((with_reducible apply o_isi (b := false)); exact rfl; exact rfl; decide +kernel)
  | ((with_reducible apply wO_some); assumption))
local macro_rules | `(tactic| wtm_at "s1") => `(tactic| first
  | (wtm_at "g1"; refine ⟨rfl, ?_⟩)
  | (wtm_at "g1"; refine ⟨_, _, rfl, ?_⟩)
  | (wtm_at "g1"; refine ⟨_, _, _, rfl, ?_⟩)
  | (wtm_at "g1"; refine ⟨_, rfl, ?_⟩)
  | (wtm_at "g1"; refine ⟨_, _, _, rfl, rfl, rfl, rfl, ?_⟩; simp only [List.set_cons_zero, List.set_cons_succ, Int.reduceToNat])
  | ((with_reducible refine ⟨⟨?_, ?_⟩, ?_⟩); (focus (simp only [List.length_cons, List.length_nil]; omega)); (focus (simp only [List.any_cons, List.any_nil, Bool.or_false, Bool.or_eq_false_iff]; repeat' (first | exact rfl | assumption | refine ⟨?_, ?_⟩))))
  | ((with_reducible refine ⟨fun hb => ?_, fun hb => ?_⟩) <;> (try simp only [decide_eq_true_eq, decide_eq_false_iff_not, Bool.not_eq_true', Bool.not_eq_false', List.length_cons, List.length_nil] at hb) <;> (try (first | (exfalso; omega) | exact absurd hb (by decide) | (cases hb; done))))
  | ((with_reducible apply wF_val); (first | exact rfl | assumption); (try simp only [List.length_cons, List.take_succ_cons, List.take_length])))
local macro_rules | `(tactic| wtm_at "vc") => `(tactic| repeat' (first | wtm_at "v1" | wtm_at "o1" | wtm_at "s1"))

local macro_rules | `(tactic| wtm_at "s1") => `(tactic| ((with_reducible refine spin_w (by assumption) (by omega) (by omega) (by omega) ?_); intro _ _ _ _ _))
local macro_rules | `(tactic| wtm_at "fn") => `(tactic| (refine v_fun rfl ?_; simp only [List.map_cons, List.map_nil, List.replicate, List.cons_append, List.nil_append]))
local macro_rules | `(tactic| wtm_at "s1") => `(tactic| ((with_reducible refine is_whole_w ?_ ?_); (first | rfl | assumption)))
local macro_rules | `(tactic| wtm_at "s1") => `(tactic| ((with_reducible refine is_integer_w ?_ ?_); (first | rfl | assumption)))
local macro_rules | `(tactic| wtm_at "o1") => `(tactic| first | ((with_reducible apply o_isiT); exact rfl; assumption; assumption) | ((with_reducible apply o_allG); exact rfl))
local macro_rules | `(tactic| wtm_at "s1") => `(tactic| ((with_reducible refine is_point_in_w ?_ ?_ ?_); (first | decide | omega); assumption))
local macro_rules | `(tactic| wtm_at "s1") => `(tactic| with_reducible refine is_within_w ?_)
local macro_rules | `(tactic| wtm_at "s1") => `(tactic| ((with_reducible refine require_within_w ?_ ?_ ?_); omega; omega))
local macro_rules | `(tactic| wtm_at "lc") => `(tactic| (refine o_asg1 ?_; simp only [wipeD, List.set_cons_zero, List.set_cons_succ]))
local macro_rules | `(tactic| wtm_at "s1") => `(tactic| ((with_reducible refine lowest_point_in_w ?_ ?_ ?_ ?_); omega; omega; (first | omega | (simp only [List.length_map, List.length_zipIdx]; omega))))
local macro_rules | `(tactic| wtm_at "o1") => `(tactic| ((with_reducible apply o_inI); exact rfl; exact rfl))
local macro_rules | `(tactic| wtm_at "o1") => `(tactic| ((with_reducible apply o_sl1); exact rfl; exact rfl; exact rfl))
local macro_rules | `(tactic| wtm_at "o1") => `(tactic| ((with_reducible apply o_addT); exact rfl; exact rfl; (focus (simp only [List.length_cons, List.length_nil, List.length_map]; omega)); (try simp only [List.cons_append, List.nil_append])))
local macro_rules | `(tactic| wtm_at "s1") => `(tactic| ((with_reducible refine law_shared_w ?_ ?_ ?_ ?_ ?_); omega; omega; (first | omega | (simp only [List.length_map, List.length_zipIdx]; omega)); (first | assumption | skip)))
local macro_rules | `(tactic| wtm_at "s1") => `(tactic| with_reducible refine is_fraction_in_w ?_)
local macro_rules | `(tactic| wtm_at "s1") => `(tactic| ((with_reducible refine require_point_w ?_ ?_); (focus assumption)))
local macro_rules | `(tactic| wtm_at "s1") => `(tactic| ((with_reducible refine require_pause_w ?_ ?_ ?_ ?_ ?_); (focus omega); (focus omega); (focus omega); (focus omega)))
local macro_rules | `(tactic| wtm_at "s1") => `(tactic| with_reducible refine clocks_in_w ?_)
section
variable {q0 k t b t2 b2 : Int} {v c : List Int} {n : Nat} {h : Hs} {P : Po}
def SomeI (m : Int) (i : Nat) (hh : Hs) : Prop := ∃ (s' : D) (c : List Int), hh = [s', .lst (c.map .int)] ∧ c.Pairwise (· < ·) ∧ c.length ≤ i ∧ (∀ x ∈ c, 1 ≤ x ∧ x ≤ (i : Int)) ∧ Sp (m + i) s'
theorem rng2_w {k : Int} {n : Nat} (hk : k = n) (h : n ≤ 5) : rng2 [.int 1, .int (k + 1)] = some (.its (rangeL 1 n)) := by
  have e : (k + 1 - 1).toNat = n := by omega
  rw [rng2, if_pos (by omega), e]
theorem rl1_len {n : Nat} {lo : Int} : (rangeL lo n).length = n := by simp [rangeL]
theorem rl_at {n i : Nat} {lo : Int} {x : D} (h : (rangeL lo n)[i]? = some x) : i < n ∧ x = .int (lo + (i : Nat)) := by
  have h1 := (List.getElem?_eq_some_iff.mp h)
  have h2 := h1.1
  rw [rl1_len] at h2
  refine ⟨h2, ?_⟩
  rw [← h1.2]
  simp [rangeL]
theorem r7 {m : Int} {s : D} (S : Sp m s) (hm : m < 2 ^ 58) (hk : k = n) (hn : n ≤ 4) (w : ∀ c s', Cl c n → Sp (m + 4) s' → P.nx [some (.loc 0), some (.int k), some (W.pt q0 v), some (fr t b), some (fr t2 b2), some (beh q0 t b v), some (bothF t b t2 b2), some (D.tup (c.map .int)), none, none, none, none, none, none, none, none, none, none] [s']) :
    wS (q_7 [some (.loc 0), some (.int k), some (W.pt q0 v), some (fr t b), some (fr t2 b2), some (beh q0 t b v), some (bothF t b t2 b2), none, none, none, none, none, none, none, none, none, none, none] [s]) P := by
  unfold q_7
  wtm_at "vc"
  refine w_lcI (rangeL 1 n) (SomeI m) ?_
  refine w_srcA (w_cons ?_)
  wtm_at "v1"
  refine w_cons ?_
  wtm_at "vc"
  refine wO_some (rng2_w hk (show n ≤ 5 by omega)) (And.intro rfl (And.intro ?_ (And.intro ?_ ?_)))
  · exact ⟨s, [], rfl, List.Pairwise.nil, Nat.le_refl _, fun x h => (nomatch h), S.mono (by omega)⟩
  · rintro i x hh hx ⟨s', c, rfl, h1, h2, h3, S'⟩
    have hx := rl_at hx
    have hi := hx.1
    have e := hx.2
    subst e
    have ej : ∃ j : Int, j = 1 + (i : Nat) := ⟨_, rfl⟩
    cases ej with | intro j ej => ?_
    rw [← ej]
    refine o_asg1 ?_
    simp only [wipeD, List.set_cons_zero, List.set_cons_succ]
    wtm_at "vc"
    · rename_i r s2 r0 r1 S2 hr
      refine ⟨⟨rfl, by rw [List.length_map]; omega⟩, s2, c ++ [j], by rw [List.map_append]; rfl, ?_, by rw [List.length_append]; exact Nat.succ_le_succ h2, fun x hx => ?_, S2.mono (by omega)⟩
      · refine List.pairwise_append.mpr ⟨h1, List.pairwise_singleton _ _, fun x hx y hy => ?_⟩
        rw [List.mem_singleton.mp hy]
        have := (h3 x hx).2
        omega
      · rcases List.mem_append.mp hx with h | h
        · have := h3 x h
          exact ⟨this.1, by omega⟩
        · rw [List.mem_singleton.mp h]
          exact ⟨by omega, by omega⟩
    · rename_i r s2 r0 r1 S2 hr
      exact ⟨h1, by omega, fun x hx => ⟨(h3 x hx).1, by have := (h3 x hx).2; omega⟩, S2.mono (by omega)⟩
  · rintro hh ⟨s', c, rfl, h1, h2, h3, S'⟩
    rw [rl1_len] at h2 h3 S'
    refine ⟨c.map .int, rfl, ?_⟩
    wtm_at "vc"
    exact w c s' ⟨h1, by omega, h3⟩ (S'.mono (by omega))
/-- the loops' state -/
def LoopI (e : Ev → Ev) (s : D) (ds : Ev) (hh : Hs) : Prop := hh = [s] ∧ ∃ a8 a9 a10 a11 a12 : Option D, ds = e [a8, a9, a10, a11, a12]
theorem gc_int {n0 : Nat} {a8 a9 a10 a11 a12 : Option D} : ∃ b8 b9 b10 b11 b12 : Option D, gcE n0 [a8, a9, a10, a11, a12] = [b8, b9, b10, b11, b12] := ⟨_, _, _, _, _, rfl⟩
end
end W

set_option Elab.async false
set_option linter.all false
set_option maxRecDepth 100000
set_option maxHeartbeats 1000000
set_option exponentiation.threshold 5000
namespace W
open PySem PySem.Spec PyProof.Rows L2 DL
theorem is_wR_X {α : Type} {r : DL.R α} {E : XP} {Q : α → Hs → Prop} (h : wR r E Q) : wR r E Q := h
theorem is_wS_X {r : SR} {P : Po} (h : wS r P) : wS r P := h
theorem is_wO_X {α : Type} {o : Option α} {P : α → Prop} (h : wO o P) : wO o P := h
local macro_rules | `(tactic| wtm_at "g1") => `(tactic| (fail_if_success (with_reducible refine is_wR_X ?_); fail_if_success (with_reducible refine is_wS_X ?_); fail_if_success (with_reducible refine is_wO_X ?_)))
local macro_rules | `(tactic| wtm_at "v1") => `(tactic| first
  | ((with_reducible apply w_var); exact rfl)
  | with_reducible refine w_c ?_
  | with_reducible refine w_nil ?_
  | with_reducible refine w_cons ?_
  | with_reducible refine w_bin ?_
  | with_reducible refine w_call ?_
  | with_reducible refine w_b ?_
  | with_reducible refine w_tb ?_
  | with_reducible refine w_tru ?_
  | with_reducible refine w_un ?_
  | with_reducible refine w_tup ?_
  | with_reducible refine w_lst ?_
  | with_reducible refine w_new ?_
  | with_reducible refine w_star ?_
  | with_reducible refine w_notT ?_
  | with_reducible refine w_andT ?_
  | with_reducible refine w_orT ?_
  | with_reducible refine w_if ?_
  | with_reducible refine w_andV ?_
  | with_reducible refine w_orV ?_
  | with_reducible refine w_notV ?_
  | with_reducible refine w_chain ?_
  | with_reducible refine w_sl ?_
  | with_reducible refine w_noPart ?_
  | with_reducible refine w_part ?_
  | with_reducible refine w_rev ?_
  | with_reducible refine w_seq ?_
  | with_reducible refine w_srcA ?_
  | with_reducible refine w_srcR ?_
  | with_reducible refine w_yes ?_
  | with_reducible refine v_seq ?_
  | with_reducible refine v_asg ?_
  | with_reducible refine v_if ?_
  | with_reducible refine v_ret ?_
  | with_reducible refine v_pass ?_
  | with_reducible refine v_retN ?_
  | with_reducible refine v_par2 ?_
  | with_reducible refine v_par3 ?_
  | with_reducible refine v_drop ?_
  | with_reducible refine v_put ?_
  | with_reducible refine v_app ?_
  | with_reducible refine v_brk ?_
  | with_reducible refine v_cnt ?_)
local macro_rules | `(tactic| wtm_at "o1") => `(tactic| first
  | ((with_reducible refine o_asg1 ?_); simp only [List.set_cons_zero, List.set_cons_succ])
  | ((with_reducible apply o_asg2); exact rfl; simp only [List.set_cons_zero, List.set_cons_succ])
  | ((with_reducible apply o_asg3); exact rfl; simp only [List.set_cons_zero, List.set_cons_succ])
  | ((with_reducible apply o_asg4); exact rfl; simp only [List.set_cons_zero, List.set_cons_succ])
  | ((with_reducible apply o_isBl); exact rfl)
  | ((with_reducible apply o_truB); exact rfl)
  | ((with_reducible apply o_truI); exact rfl)
  | with_reducible refine o_bindBl ?_
  | ((with_reducible apply o_ix); exact rfl; exact rfl; exact rfl; exact rfl; exact rfl)
  | ((with_reducible apply o_addI); exact rfl; exact rfl)
  | ((with_reducible apply o_subI); exact rfl; exact rfl)
  | ((with_reducible apply o_ltI); exact rfl; exact rfl)
  | ((with_reducible apply o_leI); exact rfl; exact rfl)
  | ((with_reducible apply o_gtI); exact rfl; exact rfl)
  | ((with_reducible apply o_geI); exact rfl; exact rfl)
  | ((with_reducible apply o_eqI); exact rfl; exact rfl)
  | ((with_reducible apply o_neI); exact rfl; exact rfl)
  | ((with_reducible apply o_negI); exact rfl)
  | ((with_reducible apply o_modI); exact rfl; exact rfl; (first | decide | omega))
  | ((with_reducible apply o_mulI); exact rfl; exact rfl; (first | exact sm (by omega) (by omega) | assumption); (first | exact sm (by omega) (by omega) | assumption))
  | ((with_reducible apply o_fdivI); exact rfl; exact rfl; (first | decide | omega); (first | exact sm (by omega) (by omega) | assumption))
  | ((with_reducible apply o_isN); exact rfl)
  | ((with_reducible apply o_notN); exact rfl)
  | ((with_reducible apply o_lenT); exact rfl)
  | ((with_reducible apply o_lenL); exact rfl)
  | ((with_reducible apply o_lenF); exact rfl)
  | ((with_reducible apply o_abs); exact rfl)
  | ((with_reducible apply o_int); exact rfl)
  | ((with_reducible apply o_intB); exact rfl)
  | ((with_reducible apply o_max); exact rfl)
  | ((with_reducible apply o_min); exact rfl)
  | ((with_reducible apply o_gcd); exact rfl)
  | ((with_reducible apply o_tupL); exact rfl)
  | ((with_reducible apply o_tupT); exact rfl)
  | ((with_reducible apply o_lst); exact rfl; exact rfl)
  | ((with_reducible apply o_isi (b := true)); exact rfl; exact rfl; decide +kernel)
  | ((with_reducible apply o_isi (b := false)); exact rfl; exact rfl; decide +kernel)
  | ((with_reducible apply wO_some); assumption))
local macro_rules | `(tactic| wtm_at "s1") => `(tactic| first
  | (wtm_at "g1"; refine ⟨rfl, ?_⟩)
  | (wtm_at "g1"; refine ⟨_, _, rfl, ?_⟩)
  | (wtm_at "g1"; refine ⟨_, _, _, rfl, ?_⟩)
  | (wtm_at "g1"; refine ⟨_, rfl, ?_⟩)
  | (wtm_at "g1"; refine ⟨_, _, _, rfl, rfl, rfl, rfl, ?_⟩; simp only [List.set_cons_zero, List.set_cons_succ, Int.reduceToNat])
  | ((with_reducible refine ⟨⟨?_, ?_⟩, ?_⟩); (focus (simp only [List.length_cons, List.length_nil]; omega)); (focus (simp only [List.any_cons, List.any_nil, Bool.or_false, Bool.or_eq_false_iff]; repeat' (first | exact rfl | assumption | refine ⟨?_, ?_⟩))))
  | ((with_reducible refine ⟨fun hb => ?_, fun hb => ?_⟩) <;> (try simp only [decide_eq_true_eq, decide_eq_false_iff_not, Bool.not_eq_true', Bool.not_eq_false', List.length_cons, List.length_nil] at hb) <;> (try (first | (exfalso; omega) | exact absurd hb (by decide) | (cases hb; done))))
  | ((with_reducible apply wF_val); (first | exact rfl | assumption); (try simp only [List.length_cons, List.take_succ_cons, List.take_length])))
local macro_rules | `(tactic| wtm_at "vc") => `(tactic| repeat' (first | wtm_at "v1" | wtm_at "o1" | wtm_at "s1"))

local macro_rules | `(tactic| wtm_at "s1") => `(tactic| ((with_reducible refine spin_w (by assumption) (by omega) (by omega) (by omega) ?_); intro _ _ _ _ _))
local macro_rules | `(tactic| wtm_at "fn") => `(tactic| (refine v_fun rfl ?_; simp only [List.map_cons, List.map_nil, List.replicate, List.cons_append, List.nil_append]))
local macro_rules | `(tactic| wtm_at "s1") => `(tactic| ((with_reducible refine is_whole_w ?_ ?_); (first | rfl | assumption)))
local macro_rules | `(tactic| wtm_at "s1") => `(tactic| ((with_reducible refine is_integer_w ?_ ?_); (first | rfl | assumption)))
local macro_rules | `(tactic| wtm_at "o1") => `(tactic| first | ((with_reducible apply o_isiT); exact rfl; assumption; assumption) | ((with_reducible apply o_allG); exact rfl))
local macro_rules | `(tactic| wtm_at "s1") => `(tactic| ((with_reducible refine is_point_in_w ?_ ?_ ?_); (first | decide | omega); assumption))
local macro_rules | `(tactic| wtm_at "s1") => `(tactic| with_reducible refine is_within_w ?_)
local macro_rules | `(tactic| wtm_at "s1") => `(tactic| ((with_reducible refine require_within_w ?_ ?_ ?_); omega; omega))
local macro_rules | `(tactic| wtm_at "lc") => `(tactic| (refine o_asg1 ?_; simp only [wipeD, List.set_cons_zero, List.set_cons_succ]))
local macro_rules | `(tactic| wtm_at "s1") => `(tactic| ((with_reducible refine lowest_point_in_w ?_ ?_ ?_ ?_); omega; omega; (first | omega | (simp only [List.length_map, List.length_zipIdx]; omega))))
local macro_rules | `(tactic| wtm_at "o1") => `(tactic| ((with_reducible apply o_inI); exact rfl; exact rfl))
local macro_rules | `(tactic| wtm_at "o1") => `(tactic| ((with_reducible apply o_sl1); exact rfl; exact rfl; exact rfl))
local macro_rules | `(tactic| wtm_at "o1") => `(tactic| ((with_reducible apply o_addT); exact rfl; exact rfl; (focus (simp only [List.length_cons, List.length_nil, List.length_map]; omega)); (try simp only [List.cons_append, List.nil_append])))
local macro_rules | `(tactic| wtm_at "s1") => `(tactic| ((with_reducible refine law_shared_w ?_ ?_ ?_ ?_ ?_); omega; omega; (first | omega | (simp only [List.length_map, List.length_zipIdx]; omega)); (first | assumption | skip)))
local macro_rules | `(tactic| wtm_at "s1") => `(tactic| with_reducible refine is_fraction_in_w ?_)
local macro_rules | `(tactic| wtm_at "s1") => `(tactic| ((with_reducible refine require_point_w ?_ ?_); (focus assumption)))
local macro_rules | `(tactic| wtm_at "s1") => `(tactic| ((with_reducible refine require_pause_w ?_ ?_ ?_ ?_ ?_); (focus omega); (focus omega); (focus omega); (focus omega)))
local macro_rules | `(tactic| wtm_at "s1") => `(tactic| with_reducible refine clocks_in_w ?_)
section
variable {q0 k t b t2 b2 : Int} {v c : List Int} {n : Nat} {h : Hs} {P : Po}
theorem sh_bd {q : Int} {v : List Int} {n i : Nat} (d : Dr q v n) : 0 ≤ shV v i ∧ shV v i < 10 ^ 22 := by
  unfold shV
  cases h : ((0 : Int) :: v)[i]? with
  | none => exact ⟨by decide, by decide⟩
  | some x =>
    have hm := List.mem_of_getElem? h
    rcases List.mem_cons.mp hm with e | e
    · rw [e]; exact ⟨by decide, by decide⟩
    · exact d.all x e
theorem gI_pos2 {q x : Int} (h : 1 ≤ q) : 1 ≤ gI x q ∧ gI x q ≤ q := by
  have e : gI x q = gI q x := by
    unfold gI
    rw [Nat.gcd_comm]
  rw [e]
  exact gI_pos h
theorem low_len {q : Int} {v : List Int} : (lowV q v).length = v.length := by simp [lowV]
theorem r9 (hd : Dr q0 v n) (hn : n ≤ 4) (t0 : 0 ≤ t) (t1 : t < 1000) (b0 : 1 ≤ b) (b1 : b ≤ 4) (hk : k = n) {s : D} (w : ∀ a8 a9 a10 a11 a12 : Option D, P.nx [some (.loc 0), some (.int k), some (W.pt q0 v), some (fr t b), some (fr t2 b2), some (beh q0 t b v), some (bothF t b t2 b2), some (D.tup (c.map .int)), a8, a9, a10, a11, a12, none, none, none, none, none] [s]) :
    wS (q_9 [some (.loc 0), some (.int k), some (W.pt q0 v), some (fr t b), some (fr t2 b2), some (beh q0 t b v), some (bothF t b t2 b2), some (D.tup (c.map .int)), none, none, none, none, none, none, none, none, none, none] [s]) P := by
  unfold q_9
  refine w_for (rangeL 0 (n + 1)) (fun _ ds hh => hh = [s] ∧ ∃ a8 a9 a10 a11 a12 : Option D, ds = [some (.loc 0), some (.int k), some (W.pt q0 v), some (fr t b), some (fr t2 b2), some (beh q0 t b v), some (bothF t b t2 b2), some (D.tup (c.map .int)), a8, a9, a10, a11, a12, none, none, none, none, none]) ?_
  refine w_srcA (w_cons ?_)
  wtm_at "vc"
  refine wO_some (rng1_w (k := k + 1) (n := n + 1) (by omega) (by omega)) (And.intro rfl (And.intro ?_ (And.intro ?_ ?_)))
  · exact ⟨rfl, none, none, none, none, none, rfl⟩
  · rintro i x ds hh hx ⟨rfl, a8, a9, a10, a11, a12, rfl⟩
    have hx := rl_at hx
    have hi := hx.1
    have e := hx.2
    rw [Int.zero_add] at e
    subst e
    refine o_asg1 ?_
    simp only [List.set_cons_zero, List.set_cons_succ]
    refine w_for (rangeL 0 (n + 1)) (fun _ ds hh => hh = [s] ∧ ∃ a9 a10 a11 a12 : Option D, ds = [some (.loc 0), some (.int k), some (W.pt q0 v), some (fr t b), some (fr t2 b2), some (beh q0 t b v), some (bothF t b t2 b2), some (D.tup (c.map .int)), some (.int (i : Nat)), a9, a10, a11, a12, none, none, none, none, none]) ?_
    refine w_srcA (w_cons ?_)
    wtm_at "vc"
    refine wO_some (rng1_w (k := k + 1) (n := n + 1) (by omega) (by omega)) (And.intro rfl (And.intro ?_ (And.intro ?_ ?_)))
    · exact ⟨rfl, a9, a10, a11, a12, rfl⟩
    · rintro j x ds hh hx ⟨rfl, a9, a10, a11, a12, rfl⟩
      have hx := rl_at hx
      have hj := hx.1
      have e := hx.2
      rw [Int.zero_add] at e
      subst e
      refine o_asg1 ?_
      simp only [List.set_cons_zero, List.set_cons_succ]
      wtm_at "vc"
      refine shown_w (hd.pt hn) (by rw [hd.len]; omega) (by rw [hd.len]; omega) ?_
      wtm_at "vc"
      refine law_shown_w (by rw [hd.len]; omega) ?_
      wtm_at "vc"
      refine law_shown_w (by rw [hd.len]; omega) ?_
      wtm_at "vc"
      have hLi := sh_bd (i := i) hd
      have hLj := sh_bd (i := j) hd
      have e2 : 0 < i → 0 < j → _ := fun h1 h2 => shown_later (q := q0) (t := t) (b := b) (v := v) (i := i) (j := j) hd.q1 b0 h1 (by rw [hd.len]; omega) h2 (by rw [hd.len]; omega)
      have g1 := gI_pos2 (x := shV v i - shV v j) hd.q1
      have hq2 := hd.q2
      refine law_shared_w (v := [if shV v i - shV v j < 0 then -(shV v i - shV v j) else shV v i - shV v j]) hd.q1 (Int.lt_of_le_of_lt hd.q2 (by decide +kernel)) (by simp) (fun x hx => by
        rw [List.mem_singleton.mp hx]
        split
        · exact ⟨by omega, Int.lt_trans (show _ < (10 : Int) ^ 23 by omega) (by decide +kernel)⟩
        · exact ⟨by omega, Int.lt_trans (show _ < (10 : Int) ^ 23 by omega) (by decide +kernel)⟩) ?_
      rw [gI_comm (by have := hd.q1; omega)]
      wtm_at "vc"
      refine o_neS rfl (by rfl) ?_
      wtm_at "vc"
      refine shown_w (beh_pt hd hn t0 (by omega) b0 (by omega)) (by rw [low_len, lat_len, hd.len]; omega) (by rw [low_len, lat_len, hd.len]; omega) ?_
      by_cases hij : 0 < i ∧ 0 < j
      · have e3 := e2 hij.1 hij.2
        rw [e3.1, e3.2]
        wtm_at "vc"
        refine o_neS rfl (by rfl) ?_
        wtm_at "vc"
        all_goals exact ⟨_, _, _, _, rfl⟩
      · have hz : (i : Int) * (j : Int) = 0 := by
          rcases Nat.eq_zero_or_pos i with h | h
          · rw [h]; simp
          · rcases Nat.eq_zero_or_pos j with h2 | h2
            · rw [h2]; simp
            · exact absurd ⟨h, h2⟩ hij
        wtm_at "vc"
        refine o_neG (by rfl) (by rfl) ?_
        wtm_at "vc"
        all_goals exact ⟨_, _, _, _, rfl⟩
    · rintro ds' h' ⟨rfl, a9, a10, a11, a12, rfl⟩
      exact ⟨rfl, _, _, _, _, _, rfl⟩
  · rintro ds' h' ⟨rfl, a8, a9, a10, a11, a12, rfl⟩
    exact w _ _ _ _ _
end
end W

set_option Elab.async false
set_option linter.all false
set_option maxRecDepth 100000
set_option maxHeartbeats 1000000
set_option exponentiation.threshold 5000
namespace W
open PySem PySem.Spec PyProof.Rows L2 DL
theorem is_wR_Y {α : Type} {r : DL.R α} {E : XP} {Q : α → Hs → Prop} (h : wR r E Q) : wR r E Q := h
theorem is_wS_Y {r : SR} {P : Po} (h : wS r P) : wS r P := h
theorem is_wO_Y {α : Type} {o : Option α} {P : α → Prop} (h : wO o P) : wO o P := h
local macro_rules | `(tactic| wtm_at "g1") => `(tactic| (fail_if_success (with_reducible refine is_wR_Y ?_); fail_if_success (with_reducible refine is_wS_Y ?_); fail_if_success (with_reducible refine is_wO_Y ?_)))
local macro_rules | `(tactic| wtm_at "v1") => `(tactic| first
  | ((with_reducible apply w_var); exact rfl)
  | with_reducible refine w_c ?_
  | with_reducible refine w_nil ?_
  | with_reducible refine w_cons ?_
  | with_reducible refine w_bin ?_
  | with_reducible refine w_call ?_
  | with_reducible refine w_b ?_
  | with_reducible refine w_tb ?_
  | with_reducible refine w_tru ?_
  | with_reducible refine w_un ?_
  | with_reducible refine w_tup ?_
  | with_reducible refine w_lst ?_
  | with_reducible refine w_new ?_
  | with_reducible refine w_star ?_
  | with_reducible refine w_notT ?_
  | with_reducible refine w_andT ?_
  | with_reducible refine w_orT ?_
  | with_reducible refine w_if ?_
  | with_reducible refine w_andV ?_
  | with_reducible refine w_orV ?_
  | with_reducible refine w_notV ?_
  | with_reducible refine w_chain ?_
  | with_reducible refine w_sl ?_
  | with_reducible refine w_noPart ?_
  | with_reducible refine w_part ?_
  | with_reducible refine w_rev ?_
  | with_reducible refine w_seq ?_
  | with_reducible refine w_srcA ?_
  | with_reducible refine w_srcR ?_
  | with_reducible refine w_yes ?_
  | with_reducible refine v_seq ?_
  | with_reducible refine v_asg ?_
  | with_reducible refine v_if ?_
  | with_reducible refine v_ret ?_
  | with_reducible refine v_pass ?_
  | with_reducible refine v_retN ?_
  | with_reducible refine v_par2 ?_
  | with_reducible refine v_par3 ?_
  | with_reducible refine v_drop ?_
  | with_reducible refine v_put ?_
  | with_reducible refine v_app ?_
  | with_reducible refine v_brk ?_
  | with_reducible refine v_cnt ?_)
local macro_rules | `(tactic| wtm_at "o1") => `(tactic| first
  | ((with_reducible refine o_asg1 ?_); simp only [List.set_cons_zero, List.set_cons_succ])
  | ((with_reducible apply o_asg2); exact rfl; simp only [List.set_cons_zero, List.set_cons_succ])
  | ((with_reducible apply o_asg3); exact rfl; simp only [List.set_cons_zero, List.set_cons_succ])
  | ((with_reducible apply o_asg4); exact rfl; simp only [List.set_cons_zero, List.set_cons_succ])
  | ((with_reducible apply o_isBl); exact rfl)
  | ((with_reducible apply o_truB); exact rfl)
  | ((with_reducible apply o_truI); exact rfl)
  | with_reducible refine o_bindBl ?_
  | ((with_reducible apply o_ix); exact rfl; exact rfl; exact rfl; exact rfl; exact rfl)
  | ((with_reducible apply o_addI); exact rfl; exact rfl)
  | ((with_reducible apply o_subI); exact rfl; exact rfl)
  | ((with_reducible apply o_ltI); exact rfl; exact rfl)
  | ((with_reducible apply o_leI); exact rfl; exact rfl)
  | ((with_reducible apply o_gtI); exact rfl; exact rfl)
  | ((with_reducible apply o_geI); exact rfl; exact rfl)
  | ((with_reducible apply o_eqI); exact rfl; exact rfl)
  | ((with_reducible apply o_neI); exact rfl; exact rfl)
  | ((with_reducible apply o_negI); exact rfl)
  | ((with_reducible apply o_modI); exact rfl; exact rfl; (first | decide | omega))
  | ((with_reducible apply o_mulI); exact rfl; exact rfl; (first | exact sm (by omega) (by omega) | assumption); (first | exact sm (by omega) (by omega) | assumption))
  | ((with_reducible apply o_fdivI); exact rfl; exact rfl; (first | decide | omega); (first | exact sm (by omega) (by omega) | assumption))
  | ((with_reducible apply o_isN); exact rfl)
  | ((with_reducible apply o_notN); exact rfl)
  | ((with_reducible apply o_lenT); exact rfl)
  | ((with_reducible apply o_lenL); exact rfl)
  | ((with_reducible apply o_lenF); exact rfl)
  | ((with_reducible apply o_abs); exact rfl)
  | ((with_reducible apply o_int); exact rfl)
  | ((with_reducible apply o_intB); exact rfl)
  | ((with_reducible apply o_max); exact rfl)
  | ((with_reducible apply o_min); exact rfl)
  | ((with_reducible apply o_gcd); exact rfl)
  | ((with_reducible apply o_tupL); exact rfl)
  | ((with_reducible apply o_tupT); exact rfl)
  | ((with_reducible apply o_lst); exact rfl; exact rfl)
  | ((with_reducible apply o_isi (b := true)); exact rfl; exact rfl; decide +kernel)
  | ((with_reducible apply o_isi (b := false)); exact rfl; exact rfl; decide +kernel)
  | ((with_reducible apply wO_some); assumption))
local macro_rules | `(tactic| wtm_at "s1") => `(tactic| first
  | (wtm_at "g1"; refine ⟨rfl, ?_⟩)
  | (wtm_at "g1"; refine ⟨_, _, rfl, ?_⟩)
  | (wtm_at "g1"; refine ⟨_, _, _, rfl, ?_⟩)
  | (wtm_at "g1"; refine ⟨_, rfl, ?_⟩)
  | (wtm_at "g1"; refine ⟨_, _, _, rfl, rfl, rfl, rfl, ?_⟩; simp only [List.set_cons_zero, List.set_cons_succ, Int.reduceToNat])
  | ((with_reducible refine ⟨⟨?_, ?_⟩, ?_⟩); (focus (simp only [List.length_cons, List.length_nil]; omega)); (focus (simp only [List.any_cons, List.any_nil, Bool.or_false, Bool.or_eq_false_iff]; repeat' (first | exact rfl | assumption | refine ⟨?_, ?_⟩))))
  | ((with_reducible refine ⟨fun hb => ?_, fun hb => ?_⟩) <;> (try simp only [decide_eq_true_eq, decide_eq_false_iff_not, Bool.not_eq_true', Bool.not_eq_false', List.length_cons, List.length_nil] at hb) <;> (try (first | (exfalso; omega) | exact absurd hb (by decide) | (cases hb; done))))
  | ((with_reducible apply wF_val); (first | exact rfl | assumption); (try simp only [List.length_cons, List.take_succ_cons, List.take_length])))
local macro_rules | `(tactic| wtm_at "vc") => `(tactic| repeat' (first | wtm_at "v1" | wtm_at "o1" | wtm_at "s1"))

local macro_rules | `(tactic| wtm_at "s1") => `(tactic| ((with_reducible refine spin_w (by assumption) (by omega) (by omega) (by omega) ?_); intro _ _ _ _ _))
local macro_rules | `(tactic| wtm_at "fn") => `(tactic| (refine v_fun rfl ?_; simp only [List.map_cons, List.map_nil, List.replicate, List.cons_append, List.nil_append]))
local macro_rules | `(tactic| wtm_at "s1") => `(tactic| ((with_reducible refine is_whole_w ?_ ?_); (first | rfl | assumption)))
local macro_rules | `(tactic| wtm_at "s1") => `(tactic| ((with_reducible refine is_integer_w ?_ ?_); (first | rfl | assumption)))
local macro_rules | `(tactic| wtm_at "o1") => `(tactic| first | ((with_reducible apply o_isiT); exact rfl; assumption; assumption) | ((with_reducible apply o_allG); exact rfl))
local macro_rules | `(tactic| wtm_at "s1") => `(tactic| ((with_reducible refine is_point_in_w ?_ ?_ ?_); (first | decide | omega); assumption))
local macro_rules | `(tactic| wtm_at "s1") => `(tactic| with_reducible refine is_within_w ?_)
local macro_rules | `(tactic| wtm_at "s1") => `(tactic| ((with_reducible refine require_within_w ?_ ?_ ?_); omega; omega))
local macro_rules | `(tactic| wtm_at "lc") => `(tactic| (refine o_asg1 ?_; simp only [wipeD, List.set_cons_zero, List.set_cons_succ]))
local macro_rules | `(tactic| wtm_at "s1") => `(tactic| ((with_reducible refine lowest_point_in_w ?_ ?_ ?_ ?_); omega; omega; (first | omega | (simp only [List.length_map, List.length_zipIdx]; omega))))
local macro_rules | `(tactic| wtm_at "o1") => `(tactic| ((with_reducible apply o_inI); exact rfl; exact rfl))
local macro_rules | `(tactic| wtm_at "o1") => `(tactic| ((with_reducible apply o_sl1); exact rfl; exact rfl; exact rfl))
local macro_rules | `(tactic| wtm_at "o1") => `(tactic| ((with_reducible apply o_addT); exact rfl; exact rfl; (focus (simp only [List.length_cons, List.length_nil, List.length_map]; omega)); (try simp only [List.cons_append, List.nil_append])))
local macro_rules | `(tactic| wtm_at "s1") => `(tactic| ((with_reducible refine law_shared_w ?_ ?_ ?_ ?_ ?_); omega; omega; (first | omega | (simp only [List.length_map, List.length_zipIdx]; omega)); (first | assumption | skip)))
local macro_rules | `(tactic| wtm_at "s1") => `(tactic| with_reducible refine is_fraction_in_w ?_)
local macro_rules | `(tactic| wtm_at "s1") => `(tactic| ((with_reducible refine require_point_w ?_ ?_); (focus assumption)))
local macro_rules | `(tactic| wtm_at "s1") => `(tactic| ((with_reducible refine require_pause_w ?_ ?_ ?_ ?_ ?_); (focus omega); (focus omega); (focus omega); (focus omega)))
local macro_rules | `(tactic| wtm_at "s1") => `(tactic| with_reducible refine clocks_in_w ?_)
abbrev widP (q : Int) (v : List Int) : D := pt (q * 3) (v.map (3 * ·))
abbrev farP (q : Int) (v : List Int) : D := pt q (v.map (· + 1))
theorem wid_pt {q : Int} {v : List Int} {n : Nat} (d : Dr q v n) (hn : n ≤ 4) : Pt (q * 3) (v.map (3 * ·)) := by
  have q1 := d.q1
  have q2 := d.q2
  refine ⟨by omega, by omega, by rw [List.length_map, d.len]; exact hn, fun x hx => ?_⟩
  obtain ⟨y, hy, rfl⟩ := List.mem_map.mp hx
  have := d.all y hy
  constructor <;> omega
theorem far_pt {q : Int} {v : List Int} {n : Nat} (d : Dr q v n) (hn : n ≤ 4) : Pt q (v.map (· + 1)) := by
  have q1 := d.q1
  have q2 := d.q2
  refine ⟨by omega, by omega, by rw [List.length_map, d.len]; exact hn, fun x hx => ?_⟩
  obtain ⟨y, hy, rfl⟩ := List.mem_map.mp hx
  have := d.all y hy
  constructor <;> omega
section
variable {q0 k t b t2 b2 : Int} {v c : List Int} {n : Nat} {h : Hs} {P : Po} {a8 a9 a10 a11 a12 : Option D}
theorem r10 (hd : Dr q0 v n) (hn : n ≤ 4)  (w : P.nx [some (.loc 0), some (.int k), some (W.pt q0 v), some (fr t b), some (fr t2 b2), some (beh q0 t b v), some (bothF t b t2 b2), some (D.tup (c.map .int)), a8, a9, a10, a11, a12, some (widP q0 v), none, none, none, none] h) :
    wS (q_10 [some (.loc 0), some (.int k), some (W.pt q0 v), some (fr t b), some (fr t2 b2), some (beh q0 t b v), some (bothF t b t2 b2), some (D.tup (c.map .int)), a8, a9, a10, a11, a12, none, none, none, none, none] h) P := by
  unfold q_10
  have q1 := hd.q1
  have q2 := hd.q2
  wtm_at "vc"
  refine w_mapI v (fun x => 3 * x) ?_
  wtm_at "vc"
  refine ⟨by rw [hd.len]; omega, fun x m => ?_, ?_⟩
  · wtm_at "lc"
    intro hh
    have := hd.all x m
    wtm_at "vc"
    exact rfl
  · wtm_at "vc"
    exact w
theorem r11 (hd : Dr q0 v n) (hn : n ≤ 4)  (w : P.nx [some (.loc 0), some (.int k), some (W.pt q0 v), some (fr t b), some (fr t2 b2), some (beh q0 t b v), some (bothF t b t2 b2), some (D.tup (c.map .int)), a8, a9, a10, a11, a12, some (widP q0 v), some (farP q0 v), none, none, none] h) :
    wS (q_11 [some (.loc 0), some (.int k), some (W.pt q0 v), some (fr t b), some (fr t2 b2), some (beh q0 t b v), some (bothF t b t2 b2), some (D.tup (c.map .int)), a8, a9, a10, a11, a12, some (widP q0 v), none, none, none, none] h) P := by
  unfold q_11
  have q1 := hd.q1
  have q2 := hd.q2
  wtm_at "vc"
  refine w_mapI v (fun x => x + 1) ?_
  wtm_at "vc"
  refine ⟨by rw [hd.len]; omega, fun x m => ?_, ?_⟩
  · wtm_at "lc"
    intro hh
    have := hd.all x m
    wtm_at "vc"
    exact rfl
  · wtm_at "vc"
    exact w
theorem r12 (hd : Dr q0 v n) (hn : n ≤ 4) (hk : k = n)  (w : P.nx [some (.loc 0), some (.int k), some (W.pt q0 v), some (fr t b), some (fr t2 b2), some (beh q0 t b v), some (bothF t b t2 b2), some (D.tup (c.map .int)), a8, a9, a10, a11, a12, some (widP q0 v), some (farP q0 v), none, none, none] h) :
    wS (q_12 [some (.loc 0), some (.int k), some (W.pt q0 v), some (fr t b), some (fr t2 b2), some (beh q0 t b v), some (bothF t b t2 b2), some (D.tup (c.map .int)), a8, a9, a10, a11, a12, some (widP q0 v), some (farP q0 v), none, none, none] h) P := by
  unfold q_12
  have e1 := wide_same (q := q0) (v := v)
  have e2 := far_not (q := q0) (v := v) hd.q1
  have d1 : decide (lowQ q0 v = lowQ (q0 * 3) (v.map (3 * ·)) ∧ lowV q0 v = lowV (q0 * 3) (v.map (3 * ·))) = true := decide_eq_true ⟨e1.1.symm, e1.2.symm⟩
  have d2 : decide (lowQ (q0 * 3) (v.map (3 * ·)) = lowQ q0 (v.map (· + 1)) ∧ lowV (q0 * 3) (v.map (3 * ·)) = lowV q0 (v.map (· + 1))) = decide (k = 0) := by
    rw [e1.1, e1.2]
    refine decide_eq_decide.mpr (e2.trans ?_)
    rw [hd.len]
    omega
  wtm_at "vc"
  refine are_same_w (hd.pt hn) (wid_pt hd hn) (by simp) ?_
  rw [d1]
  wtm_at "vc"
  refine are_same_w (wid_pt hd hn) (far_pt hd hn) (by simp) ?_
  rw [d2]
  wtm_at "vc"
  refine o_neS rfl (by rfl) ?_
  wtm_at "vc"
  exact w
/-- the values near by: all of a kind that both judges look at -/
def NearOk (l : List D) : Prop := l.length < 1000 ∧ ∀ x ∈ l, ni 2 x = true
theorem ni_ints {l : List Int} : (l.map D.int).all (ni 0) = true := by simp [ni, tyN]
theorem repr_bl (b : Bool) : on1 repr1 [.bl b] = some (.str (if b then "True" else "False")) := by cases b <;> rfl
theorem ni_tup {i : Int} {l : List D} (h : l.all (ni 0) = true) : ni 2 (.tup [.int i, .tup l]) = true := by
  show (true && (l.all (ni 0) && true)) = true
  rw [h]
  rfl
theorem cut_ni {l : List D} {lo hi : Option Int} (h : l.all (ni 0) = true) : (DL.cutD l lo hi).all (ni 0) = true := by
  refine List.all_eq_true.mpr fun x hx => List.all_eq_true.mp h x ?_
  exact List.mem_of_mem_drop (List.mem_of_mem_take hx)
theorem rep_ni {n : Nat} {d : D} (h : ni 0 d = true := by rfl) : (List.replicate n d).all (ni 0) = true := by
  refine List.all_eq_true.mpr fun x hx => ?_
  rw [List.eq_of_mem_replicate hx]
  exact h
theorem o_mul4 {x y d : D} {k : Int} {P : D → Prop} (ex : x = .tup [d]) (ey : y = .int k) (h0 : 0 ≤ k) (h1 : k ≤ 4) (q : P (.tup (List.replicate k.toNat d))) : wO (mulD4 x y) P := by
  subst ex ey
  exact wO_some (mul4_one h0 (by omega)) q
theorem pow60b : powD (.int 10) (.int 60) = some (.int 1000000000000000000000000000000000000000000000000000000000000) := (pow_ok (by decide +kernel)).trans (by rw [show ((10 : Int) ^ Int.toNat 60) = 1000000000000000000000000000000000000000000000000000000000000 by decide +kernel])
local macro_rules | `(tactic| wtm_at "o1") => `(tactic| first | ((with_reducible apply o_mul4); exact rfl; exact rfl; (focus assumption); (focus assumption)) | ((with_reducible apply wO_some); exact pow60b) | ((with_reducible apply o_addL); exact rfl; exact rfl; (focus (simp only [List.length_cons, List.length_nil]; omega))))
theorem r16 {s : D} (hk : k = n) (hn : n ≤ 4) {l : List D} (hl : NearOk l) {x13 x14 : Option D} (w : P.rt (.bl true) [s]) :
    wS (q_16 [some (.loc 0), some (.int k), some (W.pt q0 v), some (fr t b), some (fr t2 b2), some (beh q0 t b v), some (bothF t b t2 b2), some (D.tup (c.map .int)), a8, a9, a10, a11, a12, x13, x14, some (.lst l), none, none] [s]) P := by
  unfold q_16
  wtm_at "vc"
  refine w_lc l (fun _ => false) id ?_
  wtm_at "vc"
  refine ⟨by have := hl.1; omega, fun x hx => ?_, ?_⟩
  · refine o_asg1 ?_
    simp only [wipeD, List.set_cons_zero, List.set_cons_succ]
    intro hh
    wtm_at "vc"
    refine is_point_w (by omega) (by omega) (hl.2 x hx) ?_
    wtm_at "vc"
    refine wO_some (repr_bl _) ?_
    wtm_at "vc"
    refine law_is_point_w (by omega) (hl.2 x hx) ?_
    wtm_at "vc"
    refine wO_some (repr_bl _) ?_
    refine o_neS rfl ?_ ?_
    · show okE 60 (D.str (if ptB k x = true then ("True" : Str) else "False")) = true
      cases ptB k x <;> decide +kernel
    wtm_at "vc"
    exact fun z => nomatch z
  · have e : (l.filter fun _ => false).map id = ([] : List D) := by simp
    rw [e]
    wtm_at "vc"
    refine o_eqS rfl (by rfl) ?_
    exact w
theorem r13 {s : D} (hd : Dr q0 v n) (hn : n ≤ 4) (w : ∀ l, NearOk l → l.length ≤ 100 → P.nx [some (.loc 0), some (.int k), some (W.pt q0 v), some (fr t b), some (fr t2 b2), some (beh q0 t b v), some (bothF t b t2 b2), some (D.tup (c.map .int)), a8, a9, a10, a11, a12, some (widP q0 v), some (farP q0 v), some (.lst l), none, none] [s]) :
    wS (q_13 [some (.loc 0), some (.int k), some (W.pt q0 v), some (fr t b), some (fr t2 b2), some (beh q0 t b v), some (bothF t b t2 b2), some (D.tup (c.map .int)), a8, a9, a10, a11, a12, some (widP q0 v), some (farP q0 v), none, none, none] [s]) P := by
  unfold q_13
  wtm_at "vc"
  refine wO_some rfl (wO_some rfl ?_)
  wtm_at "vc"
  rw [show DL.cutD [D.int q0, D.tup (v.map D.int)] none (some 1) = [D.int q0] from rfl]
  refine w _ ⟨by simp, fun x hx => ?_⟩ (by simp)
  simp only [List.mem_cons, List.not_mem_nil, or_false] at hx
  rcases hx with e | e | e | e | e | e | e | e | e | e | e | e <;> rw [e] <;> simp [ni, tyN]
theorem r14 {s : D} (hd : Dr q0 v n) (hn : n ≤ 4) (hk : k = n) {l : List D} (hl : NearOk l) (hl2 : l.length ≤ 100) (w : ∀ l, NearOk l → l.length ≤ 200 → P.nx [some (.loc 0), some (.int k), some (W.pt q0 v), some (fr t b), some (fr t2 b2), some (beh q0 t b v), some (bothF t b t2 b2), some (D.tup (c.map .int)), a8, a9, a10, a11, a12, some (widP q0 v), some (farP q0 v), some (.lst l), none, none] [s]) :
    wS (q_14 [some (.loc 0), some (.int k), some (W.pt q0 v), some (fr t b), some (fr t2 b2), some (beh q0 t b v), some (bothF t b t2 b2), some (D.tup (c.map .int)), a8, a9, a10, a11, a12, some (widP q0 v), some (farP q0 v), some (.lst l), none, none] [s]) P := by
  unfold q_14
  have hvl := hd.len
  have k0 : 0 ≤ k := by omega
  have k4 : k ≤ 4 := by omega
  wtm_at "vc"
  refine wO_some rfl ?_
  wtm_at "vc"
  refine wO_some rfl ?_
  wtm_at "vc"
  refine w _ ⟨by simp; omega, fun x hx => ?_⟩ (by simp; omega)
  rcases List.mem_append.mp hx with h | h
  · exact hl.2 x h
  · simp only [List.mem_cons, List.not_mem_nil, or_false] at h
    rcases h with e | e | e | e <;> rw [e]
    · simp [ni, tyN]
    · simp [ni, tyN]
    · exact ni_tup (cut_ni ni_ints)
    · exact ni_tup rep_ni
theorem r15 {s : D} (hd : Dr q0 v n) (hn : n ≤ 4) (hk : k = n) {l : List D} (hl : NearOk l) (hl2 : l.length ≤ 200) (w : ∀ l, NearOk l → P.nx [some (.loc 0), some (.int k), some (W.pt q0 v), some (fr t b), some (fr t2 b2), some (beh q0 t b v), some (bothF t b t2 b2), some (D.tup (c.map .int)), a8, a9, a10, a11, a12, some (widP q0 v), some (farP q0 v), some (.lst l), none, none] [s]) :
    wS (q_15 [some (.loc 0), some (.int k), some (W.pt q0 v), some (fr t b), some (fr t2 b2), some (beh q0 t b v), some (bothF t b t2 b2), some (D.tup (c.map .int)), a8, a9, a10, a11, a12, some (widP q0 v), some (farP q0 v), some (.lst l), none, none] [s]) P := by
  unfold q_15
  have hvl := hd.len
  have k0 : 0 ≤ k := by omega
  have k4 : k ≤ 4 := by omega
  wtm_at "vc"
  refine w _ ⟨by simp; omega, fun x hx => ?_⟩
  rcases List.mem_append.mp hx with h | h
  · exact hl.2 x h
  · simp only [List.mem_cons, List.not_mem_nil, or_false] at h
    rcases h with e | e | e | e <;> rw [e]
    · simp [ni, tyN]
    · exact ni_tup rep_ni
    · exact ni_tup rep_ni
    · simp [ni, tyN]
end
end W

set_option Elab.async false
set_option linter.all false
set_option maxRecDepth 100000
set_option maxHeartbeats 1000000
set_option exponentiation.threshold 5000
namespace W
open PySem PySem.Spec PyProof.Rows L2 DL
theorem is_wR_Z {α : Type} {r : DL.R α} {E : XP} {Q : α → Hs → Prop} (h : wR r E Q) : wR r E Q := h
theorem is_wS_Z {r : SR} {P : Po} (h : wS r P) : wS r P := h
theorem is_wO_Z {α : Type} {o : Option α} {P : α → Prop} (h : wO o P) : wO o P := h
local macro_rules | `(tactic| wtm_at "g1") => `(tactic| (fail_if_success (with_reducible refine is_wR_Z ?_); fail_if_success (with_reducible refine is_wS_Z ?_); fail_if_success (with_reducible refine is_wO_Z ?_)))
local macro_rules | `(tactic| wtm_at "v1") => `(tactic| first
  | ((with_reducible apply w_var); exact rfl)
  | with_reducible refine w_c ?_
  | with_reducible refine w_nil ?_
  | with_reducible refine w_cons ?_
  | with_reducible refine w_bin ?_
  | with_reducible refine w_call ?_
  | with_reducible refine w_b ?_
  | with_reducible refine w_tb ?_
  | with_reducible refine w_tru ?_
  | with_reducible refine w_un ?_
  | with_reducible refine w_tup ?_
  | with_reducible refine w_lst ?_
  | with_reducible refine w_new ?_
  | with_reducible refine w_star ?_
  | with_reducible refine w_notT ?_
  | with_reducible refine w_andT ?_
  | with_reducible refine w_orT ?_
  | with_reducible refine w_if ?_
  | with_reducible refine w_andV ?_
  | with_reducible refine w_orV ?_
  | with_reducible refine w_notV ?_
  | with_reducible refine w_chain ?_
  | with_reducible refine w_sl ?_
  | with_reducible refine w_noPart ?_
  | with_reducible refine w_part ?_
  | with_reducible refine w_rev ?_
  | with_reducible refine w_seq ?_
  | with_reducible refine w_srcA ?_
  | with_reducible refine w_srcR ?_
  | with_reducible refine w_yes ?_
  | with_reducible refine v_seq ?_
  | with_reducible refine v_asg ?_
  | with_reducible refine v_if ?_
  | with_reducible refine v_ret ?_
  | with_reducible refine v_pass ?_
  | with_reducible refine v_retN ?_
  | with_reducible refine v_par2 ?_
  | with_reducible refine v_par3 ?_
  | with_reducible refine v_drop ?_
  | with_reducible refine v_put ?_
  | with_reducible refine v_app ?_
  | with_reducible refine v_brk ?_
  | with_reducible refine v_cnt ?_)
local macro_rules | `(tactic| wtm_at "o1") => `(tactic| first
  | ((with_reducible refine o_asg1 ?_); simp only [List.set_cons_zero, List.set_cons_succ])
  | ((with_reducible apply o_asg2); exact rfl; simp only [List.set_cons_zero, List.set_cons_succ])
  | ((with_reducible apply o_asg3); exact rfl; simp only [List.set_cons_zero, List.set_cons_succ])
  | ((with_reducible apply o_asg4); exact rfl; simp only [List.set_cons_zero, List.set_cons_succ])
  | ((with_reducible apply o_isBl); exact rfl)
  | ((with_reducible apply o_truB); exact rfl)
  | ((with_reducible apply o_truI); exact rfl)
  | with_reducible refine o_bindBl ?_
  | ((with_reducible apply o_ix); exact rfl; exact rfl; exact rfl; exact rfl; exact rfl)
  | ((with_reducible apply o_addI); exact rfl; exact rfl)
  | ((with_reducible apply o_subI); exact rfl; exact rfl)
  | ((with_reducible apply o_ltI); exact rfl; exact rfl)
  | ((with_reducible apply o_leI); exact rfl; exact rfl)
  | ((with_reducible apply o_gtI); exact rfl; exact rfl)
  | ((with_reducible apply o_geI); exact rfl; exact rfl)
  | ((with_reducible apply o_eqI); exact rfl; exact rfl)
  | ((with_reducible apply o_neI); exact rfl; exact rfl)
  | ((with_reducible apply o_negI); exact rfl)
  | ((with_reducible apply o_modI); exact rfl; exact rfl; (first | decide | omega))
  | ((with_reducible apply o_mulI); exact rfl; exact rfl; (first | exact sm (by omega) (by omega) | assumption); (first | exact sm (by omega) (by omega) | assumption))
  | ((with_reducible apply o_fdivI); exact rfl; exact rfl; (first | decide | omega); (first | exact sm (by omega) (by omega) | assumption))
  | ((with_reducible apply o_isN); exact rfl)
  | ((with_reducible apply o_notN); exact rfl)
  | ((with_reducible apply o_lenT); exact rfl)
  | ((with_reducible apply o_lenL); exact rfl)
  | ((with_reducible apply o_lenF); exact rfl)
  | ((with_reducible apply o_abs); exact rfl)
  | ((with_reducible apply o_int); exact rfl)
  | ((with_reducible apply o_intB); exact rfl)
  | ((with_reducible apply o_max); exact rfl)
  | ((with_reducible apply o_min); exact rfl)
  | ((with_reducible apply o_gcd); exact rfl)
  | ((with_reducible apply o_tupL); exact rfl)
  | ((with_reducible apply o_tupT); exact rfl)
  | ((with_reducible apply o_lst); exact rfl; exact rfl)
  | ((with_reducible apply o_isi (b := true)); exact rfl; exact rfl; decide +kernel)
  | ((with_reducible apply o_isi (b := false)); exact rfl; exact rfl; decide +kernel)
  | ((with_reducible apply wO_some); assumption))
local macro_rules | `(tactic| wtm_at "s1") => `(tactic| first
  | (wtm_at "g1"; refine ⟨rfl, ?_⟩)
  | (wtm_at "g1"; refine ⟨_, _, rfl, ?_⟩)
  | (wtm_at "g1"; refine ⟨_, _, _, rfl, ?_⟩)
  | (wtm_at "g1"; refine ⟨_, rfl, ?_⟩)
  | (wtm_at "g1"; refine ⟨_, _, _, rfl, rfl, rfl, rfl, ?_⟩; simp only [List.set_cons_zero, List.set_cons_succ, Int.reduceToNat])
  | ((with_reducible refine ⟨⟨?_, ?_⟩, ?_⟩); (focus (simp only [List.length_cons, List.length_nil]; omega)); (focus (simp only [List.any_cons, List.any_nil, Bool.or_false, Bool.or_eq_false_iff]; repeat' (first | exact rfl | assumption | refine ⟨?_, ?_⟩))))
  | ((with_reducible refine ⟨fun hb => ?_, fun hb => ?_⟩) <;> (try simp only [decide_eq_true_eq, decide_eq_false_iff_not, Bool.not_eq_true', Bool.not_eq_false', List.length_cons, List.length_nil] at hb) <;> (try (first | (exfalso; omega) | exact absurd hb (by decide) | (cases hb; done))))
  | ((with_reducible apply wF_val); (first | exact rfl | assumption); (try simp only [List.length_cons, List.take_succ_cons, List.take_length])))
local macro_rules | `(tactic| wtm_at "vc") => `(tactic| repeat' (first | wtm_at "v1" | wtm_at "o1" | wtm_at "s1"))

local macro_rules | `(tactic| wtm_at "s1") => `(tactic| ((with_reducible refine spin_w (by assumption) (by omega) (by omega) (by omega) ?_); intro _ _ _ _ _))
local macro_rules | `(tactic| wtm_at "fn") => `(tactic| (refine v_fun rfl ?_; simp only [List.map_cons, List.map_nil, List.replicate, List.cons_append, List.nil_append]))
local macro_rules | `(tactic| wtm_at "s1") => `(tactic| ((with_reducible refine is_whole_w ?_ ?_); (first | rfl | assumption)))
local macro_rules | `(tactic| wtm_at "s1") => `(tactic| ((with_reducible refine is_integer_w ?_ ?_); (first | rfl | assumption)))
local macro_rules | `(tactic| wtm_at "o1") => `(tactic| first | ((with_reducible apply o_isiT); exact rfl; assumption; assumption) | ((with_reducible apply o_allG); exact rfl))
local macro_rules | `(tactic| wtm_at "s1") => `(tactic| ((with_reducible refine is_point_in_w ?_ ?_ ?_); (first | decide | omega); assumption))
local macro_rules | `(tactic| wtm_at "s1") => `(tactic| with_reducible refine is_within_w ?_)
local macro_rules | `(tactic| wtm_at "s1") => `(tactic| ((with_reducible refine require_within_w ?_ ?_ ?_); omega; omega))
local macro_rules | `(tactic| wtm_at "lc") => `(tactic| (refine o_asg1 ?_; simp only [wipeD, List.set_cons_zero, List.set_cons_succ]))
local macro_rules | `(tactic| wtm_at "s1") => `(tactic| ((with_reducible refine lowest_point_in_w ?_ ?_ ?_ ?_); omega; omega; (first | omega | (simp only [List.length_map, List.length_zipIdx]; omega))))
local macro_rules | `(tactic| wtm_at "o1") => `(tactic| ((with_reducible apply o_inI); exact rfl; exact rfl))
local macro_rules | `(tactic| wtm_at "o1") => `(tactic| ((with_reducible apply o_sl1); exact rfl; exact rfl; exact rfl))
local macro_rules | `(tactic| wtm_at "o1") => `(tactic| ((with_reducible apply o_addT); exact rfl; exact rfl; (focus (simp only [List.length_cons, List.length_nil, List.length_map]; omega)); (try simp only [List.cons_append, List.nil_append])))
local macro_rules | `(tactic| wtm_at "s1") => `(tactic| ((with_reducible refine law_shared_w ?_ ?_ ?_ ?_ ?_); omega; omega; (first | omega | (simp only [List.length_map, List.length_zipIdx]; omega)); (first | assumption | skip)))
local macro_rules | `(tactic| wtm_at "s1") => `(tactic| with_reducible refine is_fraction_in_w ?_)
local macro_rules | `(tactic| wtm_at "s1") => `(tactic| ((with_reducible refine require_point_w ?_ ?_); (focus assumption)))
local macro_rules | `(tactic| wtm_at "s1") => `(tactic| ((with_reducible refine require_pause_w ?_ ?_ ?_ ?_ ?_); (focus omega); (focus omega); (focus omega); (focus omega)))
local macro_rules | `(tactic| wtm_at "s1") => `(tactic| with_reducible refine clocks_in_w ?_)
theorem right_w {m : Int} {s : D} {Q : D → Hs → Prop} (S : Sp m s) (hm : m < 2 ^ 57) (w : ∀ s', Sp (m + 60) s' → Q (.bl true) [s']) : wR (f__law_right [.loc 0] [s]) x0 Q := by
  wtm_at "fn"
  rw [q_eq]
  refine v_seq ?_
  unfold q_1
  wtm_at "vc"
  rename_i k s1 k0 k1 S1
  have hn : ∃ n : Nat, k = n ∧ n ≤ 4 := ⟨k.toNat, by omega, by omega⟩
  cases hn with | intro n hn => ?_
  have hk := hn.1
  have hn4 := hn.2
  clear hn
  unfold q_2
  wtm_at "vc"
  refine some_point_w S1 (by omega) hk hn4 fun q0 v s2 hd S2 => ?_
  wtm_at "vc"
  refine pause_drawn_w S2 (by omega) fun t b s3 t0 t1 b0 b1 S3 => ?_
  wtm_at "vc"
  refine pause_drawn_w S3 (by omega) fun t2 b2 s4 t20 t21 b20 b21 S4 => ?_
  wtm_at "vc"
  simp only [List.set_cons_zero, List.set_cons_succ]
  refine (r3 hd hn4 t0 t1 b0 b1 ?_)
  refine v_seq (r4 hd hn4 t0 t1 b0 b1 ?_)
  refine v_seq (r5 hd hn4 t0 t1 b0 b1 t20 t21 b20 b21 ?_)
  refine v_seq (r6 hd hn4 t0 t1 b0 b1 t20 t21 b20 b21 ?_)
  refine v_seq (r7 S4 (by omega) hk hn4 fun c s5 hc S5 => ?_)
  refine v_seq (r8 hd hn4 hc ?_)
  refine v_seq (r9 hd hn4 t0 t1 b0 b1 hk fun a8 a9 a10 a11 a12 => ?_)
  refine v_seq (r10 hd hn4 ?_)
  refine v_seq (r11 hd hn4 ?_)
  refine v_seq (r12 hd hn4 hk ?_)
  refine v_seq (r13 hd hn4 fun l hl hl2 => ?_)
  refine v_seq (r14 hd hn4 hk hl hl2 fun l2 hl3 hl4 => ?_)
  refine v_seq (r15 hd hn4 hk hl3 hl4 fun l3 hl5 => ?_)
  refine r16 hk hn4 hl5 ?_
  wtm_at "vc"
  exact w _ (S5.mono (by omega))
end W

set_option Elab.async false
set_option linter.all false
set_option maxRecDepth 100000
set_option maxHeartbeats 1000000
set_option exponentiation.threshold 5000
namespace W
open PySem PySem.Spec PyProof.Rows L2 DL
theorem is_wR_ZB {α : Type} {r : DL.R α} {E : XP} {Q : α → Hs → Prop} (h : wR r E Q) : wR r E Q := h
theorem is_wS_ZB {r : SR} {P : Po} (h : wS r P) : wS r P := h
theorem is_wO_ZB {α : Type} {o : Option α} {P : α → Prop} (h : wO o P) : wO o P := h
local macro_rules | `(tactic| wtm_at "g1") => `(tactic| (fail_if_success (with_reducible refine is_wR_ZB ?_); fail_if_success (with_reducible refine is_wS_ZB ?_); fail_if_success (with_reducible refine is_wO_ZB ?_)))
local macro_rules | `(tactic| wtm_at "v1") => `(tactic| first
  | ((with_reducible apply w_var); exact rfl)
  | with_reducible refine w_c ?_
  | with_reducible refine w_nil ?_
  | with_reducible refine w_cons ?_
  | with_reducible refine w_bin ?_
  | with_reducible refine w_call ?_
  | with_reducible refine w_b ?_
  | with_reducible refine w_tb ?_
  | with_reducible refine w_tru ?_
  | with_reducible refine w_un ?_
  | with_reducible refine w_tup ?_
  | with_reducible refine w_lst ?_
  | with_reducible refine w_new ?_
  | with_reducible refine w_star ?_
  | with_reducible refine w_notT ?_
  | with_reducible refine w_andT ?_
  | with_reducible refine w_orT ?_
  | with_reducible refine w_if ?_
  | with_reducible refine w_andV ?_
  | with_reducible refine w_orV ?_
  | with_reducible refine w_notV ?_
  | with_reducible refine w_chain ?_
  | with_reducible refine w_sl ?_
  | with_reducible refine w_noPart ?_
  | with_reducible refine w_part ?_
  | with_reducible refine w_rev ?_
  | with_reducible refine w_seq ?_
  | with_reducible refine w_srcA ?_
  | with_reducible refine w_srcR ?_
  | with_reducible refine w_yes ?_
  | with_reducible refine v_seq ?_
  | with_reducible refine v_asg ?_
  | with_reducible refine v_if ?_
  | with_reducible refine v_ret ?_
  | with_reducible refine v_pass ?_
  | with_reducible refine v_retN ?_
  | with_reducible refine v_par2 ?_
  | with_reducible refine v_par3 ?_
  | with_reducible refine v_drop ?_
  | with_reducible refine v_put ?_
  | with_reducible refine v_app ?_
  | with_reducible refine v_brk ?_
  | with_reducible refine v_cnt ?_)
local macro_rules | `(tactic| wtm_at "o1") => `(tactic| first
  | ((with_reducible refine o_asg1 ?_); simp only [List.set_cons_zero, List.set_cons_succ])
  | ((with_reducible apply o_asg2); exact rfl; simp only [List.set_cons_zero, List.set_cons_succ])
  | ((with_reducible apply o_asg3); exact rfl; simp only [List.set_cons_zero, List.set_cons_succ])
  | ((with_reducible apply o_asg4); exact rfl; simp only [List.set_cons_zero, List.set_cons_succ])
  | ((with_reducible apply o_isBl); exact rfl)
  | ((with_reducible apply o_truB); exact rfl)
  | ((with_reducible apply o_truI); exact rfl)
  | with_reducible refine o_bindBl ?_
  | ((with_reducible apply o_ix); exact rfl; exact rfl; exact rfl; exact rfl; exact rfl)
  | ((with_reducible apply o_addI); exact rfl; exact rfl)
  | ((with_reducible apply o_subI); exact rfl; exact rfl)
  | ((with_reducible apply o_ltI); exact rfl; exact rfl)
  | ((with_reducible apply o_leI); exact rfl; exact rfl)
  | ((with_reducible apply o_gtI); exact rfl; exact rfl)
  | ((with_reducible apply o_geI); exact rfl; exact rfl)
  | ((with_reducible apply o_eqI); exact rfl; exact rfl)
  | ((with_reducible apply o_neI); exact rfl; exact rfl)
  | ((with_reducible apply o_negI); exact rfl)
  | ((with_reducible apply o_modI); exact rfl; exact rfl; (first | decide | omega))
  | ((with_reducible apply o_mulI); exact rfl; exact rfl; (first | exact sm (by omega) (by omega) | assumption); (first | exact sm (by omega) (by omega) | assumption))
  | ((with_reducible apply o_fdivI); exact rfl; exact rfl; (first | decide | omega); (first | exact sm (by omega) (by omega) | assumption))
  | ((with_reducible apply o_isN); exact rfl)
  | ((with_reducible apply o_notN); exact rfl)
  | ((with_reducible apply o_lenT); exact rfl)
  | ((with_reducible apply o_lenL); exact rfl)
  | ((with_reducible apply o_lenF); exact rfl)
  | ((with_reducible apply o_abs); exact rfl)
  | ((with_reducible apply o_int); exact rfl)
  | ((with_reducible apply o_intB); exact rfl)
  | ((with_reducible apply o_max); exact rfl)
  | ((with_reducible apply o_min); exact rfl)
  | ((with_reducible apply o_gcd); exact rfl)
  | ((with_reducible apply o_tupL); exact rfl)
  | ((with_reducible apply o_tupT); exact rfl)
  | ((with_reducible apply o_lst); exact rfl; exact rfl)
  | ((with_reducible apply o_isi (b := true)); exact rfl; exact rfl; decide +kernel)
  | ((with_reducible apply o_isi (b := false)); exact rfl; exact rfl; decide +kernel)
  | ((with_reducible apply wO_some); assumption))
local macro_rules | `(tactic| wtm_at "s1") => `(tactic| first
  | (wtm_at "g1"; refine ⟨rfl, ?_⟩)
  | (wtm_at "g1"; refine ⟨_, _, rfl, ?_⟩)
  | (wtm_at "g1"; refine ⟨_, _, _, rfl, ?_⟩)
  | (wtm_at "g1"; refine ⟨_, rfl, ?_⟩)
  | (wtm_at "g1"; refine ⟨_, _, _, rfl, rfl, rfl, rfl, ?_⟩; simp only [List.set_cons_zero, List.set_cons_succ, Int.reduceToNat])
  | ((with_reducible refine ⟨⟨?_, ?_⟩, ?_⟩); (focus (simp only [List.length_cons, List.length_nil]; omega)); (focus (simp only [List.any_cons, List.any_nil, Bool.or_false, Bool.or_eq_false_iff]; repeat' (first | exact rfl | assumption | refine ⟨?_, ?_⟩))))
  | ((with_reducible refine ⟨fun hb => ?_, fun hb => ?_⟩) <;> (try simp only [decide_eq_true_eq, decide_eq_false_iff_not, Bool.not_eq_true', Bool.not_eq_false', List.length_cons, List.length_nil] at hb) <;> (try (first | (exfalso; omega) | exact absurd hb (by decide) | (cases hb; done))))
  | ((with_reducible apply wF_val); (first | exact rfl | assumption); (try simp only [List.length_cons, List.take_succ_cons, List.take_length])))
local macro_rules | `(tactic| wtm_at "vc") => `(tactic| repeat' (first | wtm_at "v1" | wtm_at "o1" | wtm_at "s1"))

local macro_rules | `(tactic| wtm_at "s1") => `(tactic| ((with_reducible refine spin_w (by assumption) (by omega) (by omega) (by omega) ?_); intro _ _ _ _ _))
local macro_rules | `(tactic| wtm_at "fn") => `(tactic| (refine v_fun rfl ?_; simp only [List.map_cons, List.map_nil, List.replicate, List.cons_append, List.nil_append]))
local macro_rules | `(tactic| wtm_at "s1") => `(tactic| ((with_reducible refine is_whole_w ?_ ?_); (first | rfl | assumption)))
local macro_rules | `(tactic| wtm_at "s1") => `(tactic| ((with_reducible refine is_integer_w ?_ ?_); (first | rfl | assumption)))
local macro_rules | `(tactic| wtm_at "o1") => `(tactic| first | ((with_reducible apply o_isiT); exact rfl; assumption; assumption) | ((with_reducible apply o_allG); exact rfl))
local macro_rules | `(tactic| wtm_at "s1") => `(tactic| ((with_reducible refine is_point_in_w ?_ ?_ ?_); (first | decide | omega); assumption))
local macro_rules | `(tactic| wtm_at "s1") => `(tactic| with_reducible refine is_within_w ?_)
local macro_rules | `(tactic| wtm_at "s1") => `(tactic| ((with_reducible refine require_within_w ?_ ?_ ?_); omega; omega))
local macro_rules | `(tactic| wtm_at "lc") => `(tactic| (refine o_asg1 ?_; simp only [wipeD, List.set_cons_zero, List.set_cons_succ]))
local macro_rules | `(tactic| wtm_at "s1") => `(tactic| ((with_reducible refine lowest_point_in_w ?_ ?_ ?_ ?_); omega; omega; (first | omega | (simp only [List.length_map, List.length_zipIdx]; omega))))
local macro_rules | `(tactic| wtm_at "o1") => `(tactic| ((with_reducible apply o_inI); exact rfl; exact rfl))
local macro_rules | `(tactic| wtm_at "o1") => `(tactic| ((with_reducible apply o_sl1); exact rfl; exact rfl; exact rfl))
local macro_rules | `(tactic| wtm_at "o1") => `(tactic| ((with_reducible apply o_addT); exact rfl; exact rfl; (focus (simp only [List.length_cons, List.length_nil, List.length_map]; omega)); (try simp only [List.cons_append, List.nil_append])))
local macro_rules | `(tactic| wtm_at "s1") => `(tactic| ((with_reducible refine law_shared_w ?_ ?_ ?_ ?_ ?_); omega; omega; (first | omega | (simp only [List.length_map, List.length_zipIdx]; omega)); (first | assumption | skip)))
local macro_rules | `(tactic| wtm_at "s1") => `(tactic| with_reducible refine is_fraction_in_w ?_)
local macro_rules | `(tactic| wtm_at "s1") => `(tactic| ((with_reducible refine require_point_w ?_ ?_); (focus assumption)))
local macro_rules | `(tactic| wtm_at "s1") => `(tactic| ((with_reducible refine require_pause_w ?_ ?_ ?_ ?_ ?_); (focus omega); (focus omega); (focus omega); (focus omega)))
local macro_rules | `(tactic| wtm_at "s1") => `(tactic| with_reducible refine clocks_in_w ?_)
def w_1 : SM := sFor (mSrcA rng1 (mCons (mB (on2 max2) (mCons (mC (.int 1)) (mCons (mB (on2 min2) (mCons (mC (.int 3)) (mCons (mB (on1 len1) (mCons (mVar 0) (mNil))) (mNil)))) (mNil)))) (mNil))) (.nm 1) (sSeq (sAsg (.nm 2) (mCall 2 f__law_spins (mCons (mVar 0) (mCons (mVar 1) (mNil))))) (sFor (mSrcA rng1 (mCons (mC (.int 6)) (mNil))) (.nm 3) (sIf (mNotT (mTru (mCall 1 f__law_right (mCons (mVar 2) (mNil))))) (sRet (mC (.bl false))) (sPass))))
def w_2 : SM := sAsg (.nm 4) (mLst (mCons (mCall 2 f_later (mCons (mTup (mCons (mC (.int 2)) (mCons (mTup (mCons (mC (.int 1)) (mCons (mC (.int 4)) (mNil)))) (mNil)))) (mCons (mTup (mCons (mC (.int 1)) (mCons (mC (.int 3)) (mNil)))) (mNil)))) (mCons (mCall 2 f_set_back (mCons (mTup (mCons (mC (.int 2)) (mCons (mTup (mCons (mC (.int 1)) (mCons (mC (.int 4)) (mNil)))) (mNil)))) (mCons (mTup (mCons (mC (.int 1)) (mNil))) (mNil)))) (mCons (mCall 2 f_set_back (mCons (mTup (mCons (mC (.int 2)) (mCons (mTup (mCons (mC (.int 1)) (mCons (mC (.int 4)) (mNil)))) (mNil)))) (mCons (mTup (mNil)) (mNil)))) (mCons (mCall 2 f_later (mCons (mTup (mCons (mC (.int 6)) (mCons (mTup (mNil)) (mNil)))) (mCons (mTup (mCons (mC (.int 1)) (mCons (mC (.int 4)) (mNil)))) (mNil)))) (mNil))))))
def w_3 : SM := sRet (mBin eqD (mVar 4) (mLst (mCons (mTup (mCons (mC (.int 6)) (mCons (mTup (mCons (mC (.int 5)) (mCons (mC (.int 14)) (mNil)))) (mNil)))) (mCons (mTup (mCons (mC (.int 1)) (mCons (mTup (mCons (mC (.int 0)) (mCons (mC (.int 2)) (mNil)))) (mNil)))) (mCons (mTup (mCons (mC (.int 2)) (mCons (mTup (mCons (mC (.int 1)) (mCons (mC (.int 4)) (mNil)))) (mNil)))) (mCons (mTup (mCons (mC (.int 1)) (mCons (mTup (mNil)) (mNil)))) (mNil)))))))
theorem w_eq : b_law = sSeq w_1 (sSeq w_2 (w_3)) := rfl
theorem tail_ok (ns : List Int) (a1 a2 a3 : Option D) : sSeq w_2 w_3 [some (.frz (ns.map .int)), a1, a2, a3, none] [] = .rt (.bl true) [] := by kernel_rfl
theorem src_ok (ns : List Int) : ∃ k : Nat, k ≤ 3 ∧ mSrcA rng1 (mCons (mB (on2 max2) (mCons (mC (.int 1)) (mCons (mB (on2 min2) (mCons (mC (.int 3)) (mCons (mB (on1 len1) (mCons (mVar 0) (mNil))) (mNil)))) (mNil)))) (mNil)) [some (.frz (ns.map .int)), none, none, none, none] [] = .ok (.its (rangeL 0 k)) [] := by
  obtain ⟨x, hx, x1, x3⟩ : ∃ x : Int, x = (if (if (ns.length : Int) < 3 then (ns.length : Int) else 3) > 1 then (if (ns.length : Int) < 3 then (ns.length : Int) else 3) else 1) ∧ 1 ≤ x ∧ x ≤ 3 := by
    refine ⟨_, rfl, ?_, ?_⟩ <;> split <;> (try split) <;> omega
  refine ⟨x.toNat, by omega, ?_⟩
  have c1 : max2 (.int 1) (.int (if (ns.length : Int) < 3 then (ns.length : Int) else 3)) = some (.int x) := by rw [hx]; rfl
  have c2 : min2 (.int 3) (.int (ns.length : Int)) = some (.int (if (ns.length : Int) < 3 then (ns.length : Int) else 3)) := rfl
  have c3 : rng1 [.int x] = some (.its (rangeL 0 x.toNat)) := by
    rw [rng1, if_pos (by omega)]
  simp only [mSrcA, mCons, mNil, mB, mC, mVar, R.bind, List.getElem?_cons_zero, List.map_cons, List.map_nil, rd, on1, on2, len1, List.length_map, c2, c1, c3]
theorem law_w (ns : List Int) : wR (f_law [.frz (ns.map .int)] []) x0 (fun d _ => d = .bl true) := by
  wtm_at "fn"
  rw [w_eq]
  refine v_seq ?_
  unfold w_1
  have hs := src_ok ns
  have hP : ∀ {ns : List Int} {spot : Int}, 0 ≤ spot → spot < 64 → ∃ s, f__law_spins [.frz (ns.map .int), .int spot] [] = .ok (.loc 0) [s] ∧ Sp 0 s := fun h0 h1 => spins_ok h0 h1
  have hR : ∀ {m : Int} {s : D} {Q : D → Hs → Prop}, Sp m s → m < 2 ^ 57 → (∀ s', Sp (m + 60) s' → Q (.bl true) [s']) → wR (f__law_right [.loc 0] [s]) x0 Q := fun S hm w => right_w S hm w
  have hT := fun a1 a2 a3 => tail_ok ns a1 a2 a3
  generalize f__law_spins = F1 at hP ⊢
  generalize f__law_right = F2 at hR ⊢
  generalize sSeq w_2 w_3 = G at hT ⊢
  cases hs with | intro K hs => ?_
  refine w_for (rangeL 0 K) (fun _ ds hh => hh = [] ∧ ∃ a1 a2 a3 : Option D, ds = [some (.frz (ns.map .int)), a1, a2, a3, none]) (wR_eq hs.2 ⟨rfl, ⟨rfl, none, none, none, rfl⟩, ?_, ?_⟩)
  · rintro i x ds hh hx ⟨rfl, a1, a2, a3, rfl⟩
    have hx := rl_at hx
    have hi := hx.1
    have e := hx.2
    subst e
    have ej : ∃ j : Int, j = 0 + (i : Nat) := ⟨_, rfl⟩
    cases ej with | intro j ej => ?_
    rw [← ej]
    refine o_asg1 ?_
    simp only [List.set_cons_zero, List.set_cons_succ]
    wtm_at "vc"
    have hp := hP (ns := ns) (spot := j) (by omega) (by omega)
    cases hp with | intro s hp => ?_
    refine wR_eq hp.1 ?_
    have S := hp.2
    wtm_at "vc"
    refine w_for (rangeL 0 6) (fun i ds hh => (∃ s : D, hh = [s] ∧ Sp (60 * (i : Nat)) s) ∧ ∃ a3 : Option D, ds = [some (.frz (ns.map .int)), some (.int j), some (.loc 0), a3, none]) ?_
    refine w_srcA (w_cons ?_)
    wtm_at "vc"
    refine And.intro ?_ (And.intro ?_ ?_)
    · exact ⟨⟨s, rfl, S.mono (by omega)⟩, _, rfl⟩
    · rintro i2 x ds hh hx ⟨⟨s, rfl, S⟩, a3, rfl⟩
      have hx := rl_at hx
      have hi2 := hx.1
      have e := hx.2
      subst e
      refine o_asg1 ?_
      simp only [List.set_cons_zero, List.set_cons_succ]
      wtm_at "vc"
      refine hR S (by omega) fun s' S' => ?_
      wtm_at "vc"
      exact ⟨⟨s', rfl, S'.mono (by omega)⟩, _, rfl⟩
    · rintro ds' h' ⟨⟨s, rfl, S⟩, a3, rfl⟩
      exact ⟨rfl, _, _, _, rfl⟩
  · rintro ds' h' ⟨rfl, a1, a2, a3, rfl⟩
    show wS (G [some (.frz (ns.map .int)), a1, a2, a3, none] []) _
    rw [hT]
    exact rfl
theorem answers : Answers := by
  intro ns _
  have h := wR_ok (law_w ns)
  cases h with | intro d h => ?_
  cases h with | intro h' h => ?_
  exact ⟨h', by rw [h.1, h.2]⟩
end W

theorem PySem.Challenge.cw_pauseplay_k03_whole_points_behind_pauses_holds : PySem.Challenge.rw_pauseplay_k03_whole_points_behind_pauses.Holds := by
  exact W.main W.answers

