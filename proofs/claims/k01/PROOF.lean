import PyProof.Rows.All
import Wide.All
import OpenK.AllK
import Wide.FinOn
import KE.KStateDown
import HandS.ForMost
import HandS.ForExc
import HandS.More
import HandS.Defaults
import HandS.Flow
import HandS.Zip
import HandS.Walk
import HandS.Wide
import HandS.Gcd
import HandS.IsInst
import HandS.CallSlots
import HandS.TupAny
import HandS.TupMul
import HandS.TupLe
import HandS.TryMany
import HandS.Head0
import HandS.Head1
import HandS.Head2
import HandS.HeadEnd
import HandS.HeadHook1
import HandS.HeadHook2
import HandS.WideBits
import HandS.RaiseMore
import HandS.Style
import HandS.HeadWalk
import PySem.Challenge.RW_pauseplay_k01_whole_bounds_and_what_they
set_option Elab.async false
set_option linter.all false
set_option maxRecDepth 100000
set_option maxHeartbeats 4000000
/-! DL: values as plain data, cells for what is changed; a deterministic reading of each construct over the hand layer. -/
namespace DL
open PySem PySem.Spec PyProof.Rows L2

/-! ### data -/
inductive D where
  | non | bl (b : Bool) | int (i : Int) | str (s : Str) | ty (n : String)
  | tup (l : List D) | lst (l : List D) | frz (l : List D)
  | dct (ks vs : List D)
  | loc (n : Nat)
  deriving Inhabited

abbrev Hs := List D
abbrev Ev := List (Option D)

def kD : Key → D
  | .inl i => .int i
  | .inr s => .str s

def FrzL (K : PySem.W.Frag) (H : Hp) (a : Addr) (xs : List V) : Prop := (∃ o, H a = some (.frz o (.lst xs))) ∨
  ∃ (o : Obj) (its : Array Value) (n : Nat), K.lookup a = some o ∧ o.cls = .type "list" ∧ o.dict = none ∧ o.data = .seq its n ∧ its.size ≤ sizeLine ∧ Vals xs its.toList
theorem FrzL.sq {K : PySem.W.Frag} {H : Hp} {a : Addr} {xs : List V} (h : FrzL K H a xs) : SqL K H a xs := by
  rcases h with h | h
  · exact .inl (.inr h)
  · exact .inr h

mutual
inductive RV (K : PySem.W.Frag) (H : Hp) (as : List Addr) : D → V → Prop
  | non : RV K H as .non .non
  | bl (b : Bool) : RV K H as (.bl b) (.bl b)
  | int (i : Int) : RV K H as (.int i) (.int i)
  | str (s : Str) : RV K H as (.str s) (.str s)
  | ty (n : String) : RV K H as (.ty n) (.ty n)
  | tup {a : Addr} {vs : List V} {ds : List D} : SqT K H a vs → RVs K H as ds vs → RV K H as (.tup ds) (.ref a)
  | lst {a : Addr} {vs : List V} {ds : List D} : H a = some (.lst vs) → a ∉ as → RVs K H as ds vs → RV K H as (.lst ds) (.ref a)
  | frz {a : Addr} {vs : List V} {ds : List D} : FrzL K H a vs → RVs K H as ds vs → RV K H as (.frz ds) (.ref a)
  | dct {a : Addr} {kvs : List (Key × V)} {ks ds : List D} : H a = some (.dK kvs) → a ∉ as → kvs.map (fun p => kD p.1) = ks → RVs K H as ds (kvs.map (fun p => p.2)) → RV K H as (.dct ks ds) (.ref a)
inductive RVs (K : PySem.W.Frag) (H : Hp) (as : List Addr) : List D → List V → Prop
  | nil : RVs K H as [] []
  | cons {d : D} {v : V} {ds : List D} {vs : List V} : RV K H as d v → RVs K H as ds vs → RVs K H as (d :: ds) (v :: vs)
end

inductive RD (K : PySem.W.Frag) (H : Hp) (as : List Addr) : D → V → Prop
  | val {d : D} {v : V} : RV K H as d v → RD K H as d v
  | loc {n : Nat} {a : Addr} : as[n]? = some a → RD K H as (.loc n) (.ref a)

abbrev RDs (K : PySem.W.Frag) (H : Hp) (as : List Addr) : List D → List V → Prop := Paired (RD K H as)

inductive CellR (K : PySem.W.Frag) (H : Hp) (as : List Addr) : D → Addr → Prop
  | lst {a : Addr} {vs : List V} {ds : List D} : H a = some (.lst vs) → RVs K H as ds vs → CellR K H as (.lst ds) a
  | dct {a : Addr} {kvs : List (Key × V)} {ks ds : List D} : H a = some (.dK kvs) → kvs.map (fun p => kD p.1) = ks → RVs K H as ds (kvs.map (fun p => p.2)) → CellR K H as (.dct ks ds) a

structure HeapR (K : PySem.W.Frag) (H : Hp) (as : List Addr) (h : Hs) : Prop where
  len : as.length = h.length
  nd : as.Nodup
  at_ : ∀ (n : Nat) (d : D) (a : Addr), h[n]? = some d → as[n]? = some a → CellR K H as d a

abbrev EvR (K : PySem.W.Frag) (H : Hp) (as : List Addr) : Ev → L2.St → Prop := Paired fun (od : Option D) (ov : Option V) => ∀ d, od = some d → ∃ v, ov = some v ∧ RD K H as d v

structure StR (K : PySem.W.Frag) (H : Hp) (as : List Addr) (ds : Ev) (h : Hs) (σ : L2.St) : Prop where
  env : EvR K H as ds σ
  heap : HeapR K H as h

/-! ### what stays -/
def isT : HO → Bool
  | .tup _ => true
  | .frz _ _ => true
  | _ => false
/-- all but the cells stays; so do tuples and frozen things -/
def Fr (as : List Addr) (H H' : Hp) : Prop := ∀ a o, H a = some o → (a ∈ as → isT o = true) → H' a = some o
theorem Fr.refl {as : List Addr} {H : Hp} : Fr as H H := fun _ _ h _ => h
theorem Fr.trans {as : List Addr} {H H1 H2 : Hp} (x : Fr as H H1) (y : Fr as H1 H2) : Fr as H H2 := fun a o h c => y a o (x a o h c) c
theorem Fr.of_same {as : List Addr} {H H' : Hp} (x : Same H H') : Fr as H H' := fun a o h _ => x a o h
theorem same_upd {H : Hp} {p : Addr} {o : HO} (h : H p = none) : Same H (upd H p o) := fun a u e => by rw [upd_ne (ne_of_none e h)]; exact e
/-- cells only come, at places that held nothing -/
structure Grow (as : List Addr) (H : Hp) (as' : List Addr) (H' : Hp) : Prop where
  pre : as <+: as'
  new : ∀ a ∈ as', a ∈ as ∨ H a = none
  fr : Fr as H H'
theorem Grow.refl {as : List Addr} {H : Hp} : Grow as H as H := ⟨List.prefix_refl _, fun _ h => .inl h, .refl⟩
theorem Grow.of_fr {as : List Addr} {H H' : Hp} (h : Fr as H H') : Grow as H as H' := ⟨List.prefix_refl _, fun _ h => .inl h, h⟩
theorem Grow.of_same {as : List Addr} {H H' : Hp} (h : Same H H') : Grow as H as H' := .of_fr (.of_same h)
theorem Grow.trans {as as1 as2 : List Addr} {H H1 H2 : Hp} (x : Grow as H as1 H1) (y : Grow as1 H1 as2 H2) : Grow as H as2 H2 := by
  refine ⟨x.pre.trans y.pre, fun a ha => ?_, fun a o h c => ?_⟩
  · rcases y.new a ha with z | z
    · exact x.new a z
    · by_cases hm : a ∈ as
      · exact .inl hm
      · refine .inr ?_
        cases e : H a with
        | none => rfl
        | some o =>
          have := x.fr a o e (fun q => absurd q hm)
          rw [this] at z; cases z
  · refine y.fr a o (x.fr a o h c) fun hm => ?_
    rcases x.new a hm with z | z
    · exact c z
    · rw [h] at z; cases z

section
variable {K : PySem.W.Frag} {H H' : Hp} {as as' : List Addr}
theorem sqT_fr (hf : Fr as H H') {a : Addr} {vs : List V} (h : SqT K H a vs) : SqT K H' a vs := by
  rcases h with (h | ⟨o, h⟩) | h
  · exact .inl (.inl (hf _ _ h fun _ => rfl))
  · exact .inl (.inr ⟨o, hf _ _ h fun _ => rfl⟩)
  · exact .inr h
theorem frzL_fr (hf : Fr as H H') {a : Addr} {vs : List V} (h : FrzL K H a vs) : FrzL K H' a vs := by
  rcases h with ⟨o, h⟩ | h
  · exact .inl ⟨o, hf _ _ h fun _ => rfl⟩
  · exact .inr h
mutual
theorem RV.grow (g : Grow as H as' H') : ∀ {d : D} {v : V}, RV K H as d v → RV K H' as' d v
  | _, _, .non => .non
  | _, _, .bl b => .bl b
  | _, _, .int i => .int i
  | _, _, .str s => .str s
  | _, _, .ty n => .ty n
  | _, _, .tup h r => .tup (sqT_fr g.fr h) (RVs.grow g r)
  | _, _, .lst h n r => .lst (g.fr _ _ h fun z => absurd z n) (fun z => by
      rcases g.new _ z with q | q
      · exact n q
      · rw [h] at q; cases q) (RVs.grow g r)
  | _, _, .frz h r => .frz (frzL_fr g.fr h) (RVs.grow g r)
  | _, _, .dct h n e r => .dct (g.fr _ _ h fun z => absurd z n) (fun z => by
      rcases g.new _ z with q | q
      · exact n q
      · rw [h] at q; cases q) e (RVs.grow g r)
theorem RVs.grow (g : Grow as H as' H') : ∀ {ds : List D} {vs : List V}, RVs K H as ds vs → RVs K H' as' ds vs
  | _, _, .nil => .nil
  | _, _, .cons h t => .cons (RV.grow g h) (RVs.grow g t)
end
theorem pre_get {α : Type} {l l' : List α} (h : l <+: l') {n : Nat} {x : α} (e : l[n]? = some x) : l'[n]? = some x := by
  obtain ⟨t, rfl⟩ := h
  rw [List.getElem?_append_left (List.getElem?_eq_some_iff.mp e).1]
  exact e
theorem RD.grow (g : Grow as H as' H') {d : D} {v : V} (r : RD K H as d v) : RD K H' as' d v := by
  cases r with
  | val r => exact .val (r.grow g)
  | loc e => exact .loc (pre_get g.pre e)
theorem RDs.grow (g : Grow as H as' H') : ∀ {ds : List D} {vs : List V}, RDs K H as ds vs → RDs K H' as' ds vs
  | _, _, .nil => .nil
  | _, _, .cons h t => .cons (RD.grow g h) (RDs.grow g t)
theorem EvR.grow (g : Grow as H as' H') : ∀ {ds : Ev} {σ : L2.St}, EvR K H as ds σ → EvR K H' as' ds σ
  | _, _, .nil => .nil
  | _, _, .cons h t => .cons (fun d e => let ⟨v, e1, r⟩ := h d e; ⟨v, e1, r.grow g⟩) (EvR.grow g t)
theorem RV.same (hs : Same H H') {d : D} {v : V} (r : RV K H as d v) : RV K H' as d v := r.grow (.of_same hs)
theorem RVs.same (hs : Same H H') {d : List D} {v : List V} (r : RVs K H as d v) : RVs K H' as d v := r.grow (.of_same hs)
theorem RV.fr (hf : Fr as H H') {d : D} {v : V} (r : RV K H as d v) : RV K H' as d v := r.grow (.of_fr hf)
theorem RVs.fr (hf : Fr as H H') {d : List D} {v : List V} (r : RVs K H as d v) : RVs K H' as d v := r.grow (.of_fr hf)
theorem RD.fr (hf : Fr as H H') {d : D} {v : V} (r : RD K H as d v) : RD K H' as d v := r.grow (.of_fr hf)
theorem RDs.fr (hf : Fr as H H') {d : List D} {v : List V} (r : RDs K H as d v) : RDs K H' as d v := r.grow (.of_fr hf)
theorem CellR.same (hs : Same H H') {d : D} {a : Addr} (r : CellR K H as d a) : CellR K H' as d a := by
  cases r with
  | lst h r => exact .lst (hs _ _ h) (r.fr (.of_same hs))
  | dct h e r => exact .dct (hs _ _ h) e (r.fr (.of_same hs))
theorem HeapR.same (hs : Same H H') {h : Hs} (r : HeapR K H as h) : HeapR K H' as h := ⟨r.len, r.nd, fun n d a e1 e2 => (r.at_ n d a e1 e2).same hs⟩
theorem CellR.there {d : D} {a : Addr} (r : CellR K H as d a) : ∃ o, H a = some o ∧ isT o = false := by
  cases r with
  | lst h r => exact ⟨_, h, rfl⟩
  | dct h e r => exact ⟨_, h, rfl⟩
theorem HeapR.get {h : Hs} (r : HeapR K H as h) {n : Nat} {a : Addr} (e : as[n]? = some a) : ∃ d, h[n]? = some d ∧ CellR K H as d a := by
  have hl : n < as.length := (List.getElem?_eq_some_iff.mp e).1
  have hl2 : n < h.length := by rw [← r.len]; exact hl
  exact ⟨h[n], List.getElem?_eq_getElem hl2, r.at_ n _ a (List.getElem?_eq_getElem hl2) e⟩
theorem HeapR.there {h : Hs} (r : HeapR K H as h) {a : Addr} (ha : a ∈ as) : ∃ o, H a = some o ∧ isT o = false := by
  obtain ⟨n, hn, e⟩ := List.getElem_of_mem ha
  obtain ⟨d, _, c⟩ := r.get (n := n) (a := a) (by rw [List.getElem?_eq_getElem hn, e])
  exact c.there
theorem HeapR.notin {h : Hs} (r : HeapR K H as h) {p : Addr} (hp : H p = none) : p ∉ as := fun z => by
  obtain ⟨o, e, _⟩ := r.there z
  rw [hp] at e; cases e
theorem StR.same {ds : Ev} {h : Hs} {σ : L2.St} (hs : Same H H') (s : StR K H as ds h σ) : StR K H' as ds h σ := ⟨s.env.grow (.of_fr (.of_same hs)), s.heap.same hs⟩
theorem RVs.length : ∀ {ds : List D} {vs : List V}, RVs K H as ds vs → ds.length = vs.length
  | _, _, .nil => rfl
  | _, _, .cons _ t => by simp [RVs.length t]
theorem RVs.get : ∀ {ds : List D} {vs : List V} {i : Nat} {d : D}, RVs K H as ds vs → ds[i]? = some d → ∃ v, vs[i]? = some v ∧ RV K H as d v
  | _, _, _, _, .nil, e => by simp at e
  | _, _, 0, _, .cons h _, e => by simp at e; subst e; exact ⟨_, rfl, h⟩
  | _, _, i + 1, d, .cons _ t, e => by
    obtain ⟨v, h1, h2⟩ := RVs.get (i := i) (d := d) t (by simpa using e)
    exact ⟨v, by simpa using h1, h2⟩
theorem RVs.get' : ∀ {ds : List D} {vs : List V} {i : Nat} {v : V}, RVs K H as ds vs → vs[i]? = some v → ∃ d, ds[i]? = some d ∧ RV K H as d v
  | _, _, _, _, .nil, e => by simp at e
  | _, _, 0, _, .cons h _, e => by simp at e; subst e; exact ⟨_, rfl, h⟩
  | _, _, i + 1, d, .cons _ t, e => by
    obtain ⟨v, h1, h2⟩ := RVs.get' (i := i) t (by simpa using e)
    exact ⟨v, by simpa using h1, h2⟩
theorem RVs.append : ∀ {ds es : List D} {vs us : List V}, RVs K H as ds vs → RVs K H as es us → RVs K H as (ds ++ es) (vs ++ us)
  | _, _, _, _, .nil, r => r
  | _, _, _, _, .cons h t, r => .cons h (RVs.append t r)
theorem RVs.take : ∀ {ds : List D} {vs : List V} (n : Nat), RVs K H as ds vs → RVs K H as (ds.take n) (vs.take n)
  | _, _, 0, _ => by simp; exact .nil
  | _, _, _ + 1, .nil => .nil
  | _, _, n + 1, .cons h t => .cons h (RVs.take n t)
theorem RVs.drop : ∀ {ds : List D} {vs : List V} (n : Nat), RVs K H as ds vs → RVs K H as (ds.drop n) (vs.drop n)
  | _, _, 0, r => r
  | _, _, _ + 1, .nil => .nil
  | _, _, n + 1, .cons h t => RVs.drop n t
theorem RVs.set {d : D} {v : V} (r : RV K H as d v) : ∀ {ds : List D} {vs : List V} (n : Nat), RVs K H as ds vs → RVs K H as (ds.set n d) (vs.set n v)
  | _, _, _, .nil => .nil
  | _, _, 0, .cons h t => .cons r t
  | _, _, n + 1, .cons h t => .cons h (RVs.set r n t)
end
end DL

set_option Elab.async false
set_option linter.all false
set_option maxRecDepth 100000
set_option maxHeartbeats 4000000
namespace DL
open PySem PySem.Spec PyProof.Rows L2

/-! ### results -/
inductive R (α : Type) where
  | ok (a : α) (h : Hs)
  | ex (c : Str) (p : Option D) (h : Hs)
  | no
def R.bind {α β : Type} (r : R α) (k : α → Hs → R β) : R β := match r with
  | .ok a h => k a h
  | .ex c p h => .ex c p h
  | .no => .no
abbrev M (α : Type) := Ev → Hs → R α
inductive SR where
  | nx (ds : Ev) (h : Hs)
  | rt (d : D) (h : Hs)
  | bk (ds : Ev) (h : Hs)
  | ct (ds : Ev) (h : Hs)
  | ex (c : Str) (p : Option D) (ds : Ev) (h : Hs)
  | no
abbrev SM := Ev → Hs → SR
/-- the field that an error's class keeps -/
def fieldOf (c : Str) : Str :=
  if c = "InvalidNumber" then "given" else if c = "UnknownName" then "asked" else if c = "ParseError" then "spot" else if c = "NothingToUndo" then "wanted" else if c = "TooMany" then "limit" else "reason"
def ExR (K : PySem.W.Frag) (mg : Str → Option Value) (H : Hp) (as : List Addr) (c : Str) (p : Option D) (cls : Value) (dx : Option Addr) : Prop :=
  mg c = some cls ∧ (match p with
    | none => True
    | some d => ∃ a v, dx = some a ∧ H a = some (.xd [(fieldOf c, v)]) ∧ RV K H as d v)

section
variable (K : PySem.W.Frag) (mg : Str → Option Value) (W : WX)
def PostE (as : List Addr) (σ : L2.St) (H : Hp) (r : R D) (Q : VK) : Prop := match r with
  | .ok d h => ∀ v H' as', Grow as H as' H' → RD K H' as' d v → HeapR K H' as' h → Q v H'
  | .ex c p h => ∀ cls dx H' as', Grow as H as' H' → HeapR K H' as' h → ExR K mg H' as' c p cls dx → W cls dx σ H'
  | .no => False
def PostA (as : List Addr) (σ : L2.St) (H : Hp) (r : R (List D)) (Q : List V → Hp → Prop) : Prop := match r with
  | .ok d h => ∀ v H' as', Grow as H as' H' → RDs K H' as' d v → HeapR K H' as' h → Q v H'
  | .ex c p h => ∀ cls dx H' as', Grow as H as' H' → HeapR K H' as' h → ExR K mg H' as' c p cls dx → W cls dx σ H'
  | .no => False
def PostT (as : List Addr) (σ : L2.St) (H : Hp) (r : R Bool) (Q : Bool → Hp → Prop) : Prop := match r with
  | .ok b h => ∀ H' as', Grow as H as' H' → HeapR K H' as' h → Q b H'
  | .ex c p h => ∀ cls dx H' as', Grow as H as' H' → HeapR K H' as' h → ExR K mg H' as' c p cls dx → W cls dx σ H'
  | .no => False
def teM (m : M D) : TE := fun σ H Q => ∃ as ds h, StR K H as ds h σ ∧ PostE K mg W as σ H (m ds h) Q
def taM (m : M (List D)) : TA := fun σ H Q => ∃ as ds h, StR K H as ds h σ ∧ PostA K mg W as σ H (m ds h) Q
def ttM (m : M Bool) : TT := fun σ H Q => ∃ as ds h, StR K H as ds h σ ∧ PostT K mg W as σ H (m ds h) Q
def PostS (as : List Addr) (H : Hp) (r : SR) (E : Ends) : Prop := match r with
  | .nx ds h => ∀ σ' H' as', Grow as H as' H' → StR K H' as' ds h σ' → E.nx σ' H'
  | .rt d h => ∀ v H' as', Grow as H as' H' → RD K H' as' d v → HeapR K H' as' h → E.rt v H'
  | .bk ds h => ∀ σ' H' as', Grow as H as' H' → StR K H' as' ds h σ' → E.bk σ' H'
  | .ct ds h => ∀ σ' H' as', Grow as H as' H' → StR K H' as' ds h σ' → E.ct σ' H'
  | .ex c p ds h => ∀ σ' cls dx H' as', Grow as H as' H' → StR K H' as' ds h σ' → ExR K mg H' as' c p cls dx → W cls dx σ' H'
  | .no => False
def tsM (m : SM) : TS := fun E σ H => ∃ as ds h, StR K H as ds h σ ∧ PostS K mg W as H (m ds h) E
end
section
variable {K : PySem.W.Frag} {mg : Str → Option Value} {W : WX} {as as' : List Addr} {σ : L2.St} {H H' : Hp}
theorem PostE.grow {r : R D} {Q : VK} (f : Grow as H as' H') (p : PostE K mg W as σ H r Q) : PostE K mg W as' σ H' r Q := by
  cases r with
  | ok d h => exact fun v H2 as2 f2 => p v H2 as2 (f.trans f2)
  | ex c q h => exact fun cls dx H2 as2 f2 => p cls dx H2 as2 (f.trans f2)
  | no => exact p
theorem PostA.grow {r : R (List D)} {Q : List V → Hp → Prop} (f : Grow as H as' H') (p : PostA K mg W as σ H r Q) : PostA K mg W as' σ H' r Q := by
  cases r with
  | ok d h => exact fun v H2 as2 f2 => p v H2 as2 (f.trans f2)
  | ex c q h => exact fun cls dx H2 as2 f2 => p cls dx H2 as2 (f.trans f2)
  | no => exact p
theorem PostT.grow {r : R Bool} {Q : Bool → Hp → Prop} (f : Grow as H as' H') (p : PostT K mg W as σ H r Q) : PostT K mg W as' σ H' r Q := by
  cases r with
  | ok d h => exact fun H2 as2 f2 => p H2 as2 (f.trans f2)
  | ex c q h => exact fun cls dx H2 as2 f2 => p cls dx H2 as2 (f.trans f2)
  | no => exact p
theorem PostS.grow {r : SR} {E : Ends} (g : Grow as H as' H') (p : PostS K mg W as H r E) : PostS K mg W as' H' r E := by
  cases r with
  | nx ds h => exact fun σ2 H2 as2 g2 => p σ2 H2 as2 (g.trans g2)
  | rt d h => exact fun σ2 H2 as2 g2 => p σ2 H2 as2 (g.trans g2)
  | bk ds h => exact fun σ2 H2 as2 g2 => p σ2 H2 as2 (g.trans g2)
  | ct ds h => exact fun σ2 H2 as2 g2 => p σ2 H2 as2 (g.trans g2)
  | ex c q ds h => exact fun σ2 cls dx H2 as2 g2 => p σ2 cls dx H2 as2 (g.trans g2)
  | no => exact p
/-- an expression first, then more: for an expression -/
theorem PostE.bindE {r : R D} {k : D → Hs → R D} {Q Q' : VK} (p : PostE K mg W as σ H (r.bind k) Q)
    (n : ∀ d h v H1 as1, Grow as H as1 H1 → RD K H1 as1 d v → HeapR K H1 as1 h → PostE K mg W as1 σ H1 (k d h) Q → Q' v H1) : PostE K mg W as σ H r Q' := by
  cases r with
  | ok d h => exact fun v H1 as1 f r1 hr => n d h v H1 as1 f r1 hr (PostE.grow f p)
  | ex c q h => exact p
  | no => exact p
theorem PostE.bindA {r : R (List D)} {k : List D → Hs → R D} {Q : VK} {Q' : List V → Hp → Prop} (p : PostE K mg W as σ H (r.bind k) Q)
    (n : ∀ d h v H1 as1, Grow as H as1 H1 → RDs K H1 as1 d v → HeapR K H1 as1 h → PostE K mg W as1 σ H1 (k d h) Q → Q' v H1) : PostA K mg W as σ H r Q' := by
  cases r with
  | ok d h => exact fun v H1 as1 f r1 hr => n d h v H1 as1 f r1 hr (PostE.grow f p)
  | ex c q h => exact p
  | no => exact p
theorem PostE.bindT {r : R Bool} {k : Bool → Hs → R D} {Q : VK} {Q' : Bool → Hp → Prop} (p : PostE K mg W as σ H (r.bind k) Q)
    (n : ∀ b h H1 as1, Grow as H as1 H1 → HeapR K H1 as1 h → PostE K mg W as1 σ H1 (k b h) Q → Q' b H1) : PostT K mg W as σ H r Q' := by
  cases r with
  | ok d h => exact fun H1 as1 f hr => n d h H1 as1 f hr (PostE.grow f p)
  | ex c q h => exact p
  | no => exact p
theorem PostT.bindE {r : R D} {k : D → Hs → R Bool} {Q : Bool → Hp → Prop} {Q' : VK} (p : PostT K mg W as σ H (r.bind k) Q)
    (n : ∀ d h v H1 as1, Grow as H as1 H1 → RD K H1 as1 d v → HeapR K H1 as1 h → PostT K mg W as1 σ H1 (k d h) Q → Q' v H1) : PostE K mg W as σ H r Q' := by
  cases r with
  | ok d h => exact fun v H1 as1 f r1 hr => n d h v H1 as1 f r1 hr (PostT.grow f p)
  | ex c q h => exact p
  | no => exact p
theorem PostT.bindT {r : R Bool} {k : Bool → Hs → R Bool} {Q Q' : Bool → Hp → Prop} (p : PostT K mg W as σ H (r.bind k) Q)
    (n : ∀ b h H1 as1, Grow as H as1 H1 → HeapR K H1 as1 h → PostT K mg W as1 σ H1 (k b h) Q → Q' b H1) : PostT K mg W as σ H r Q' := by
  cases r with
  | ok d h => exact fun H1 as1 f hr => n d h H1 as1 f hr (PostT.grow f p)
  | ex c q h => exact p
  | no => exact p
theorem PostA.bindE {r : R D} {k : D → Hs → R (List D)} {Q : List V → Hp → Prop} {Q' : VK} (p : PostA K mg W as σ H (r.bind k) Q)
    (n : ∀ d h v H1 as1, Grow as H as1 H1 → RD K H1 as1 d v → HeapR K H1 as1 h → PostA K mg W as1 σ H1 (k d h) Q → Q' v H1) : PostE K mg W as σ H r Q' := by
  cases r with
  | ok d h => exact fun v H1 as1 f r1 hr => n d h v H1 as1 f r1 hr (PostA.grow f p)
  | ex c q h => exact p
  | no => exact p
theorem PostA.bindA {r : R (List D)} {k : List D → Hs → R (List D)} {Q Q' : List V → Hp → Prop} (p : PostA K mg W as σ H (r.bind k) Q)
    (n : ∀ d h v H1 as1, Grow as H as1 H1 → RDs K H1 as1 d v → HeapR K H1 as1 h → PostA K mg W as1 σ H1 (k d h) Q → Q' v H1) : PostA K mg W as σ H r Q' := by
  cases r with
  | ok d h => exact fun v H1 as1 f r1 hr => n d h v H1 as1 f r1 hr (PostA.grow f p)
  | ex c q h => exact p
  | no => exact p
end

/-! ### the judgements -/
abbrev DE (X : Cx) (W : WX) (e : Expr) (m : M D) : Prop := PE X e (teM X.K X.mg W m)
abbrev DT (X : Cx) (W : WX) (e : Expr) (m : M Bool) : Prop := PT X e (ttM X.K X.mg W m)
abbrev DW (X : Cx) (W : WX) (e : Expr) (m : M Bool) : Prop := PW X e (ttM X.K X.mg W m)
abbrev DA (X : Cx) (W : WX) (es : List Expr) (m : M (List D)) : Prop := PA X es (taM X.K X.mg W m)
abbrev DS (X : Cx) (W : WX) (st : Stmt) (m : SM) : Prop := PS X st (tsM X.K X.mg W m)
abbrev DSs (X : Cx) (W : WX) (sts : List Stmt) (m : SM) : Prop := PSs X sts (tsM X.K X.mg W m)
section
variable {X : Cx} {W : WX} {e : Expr} {es : List Expr} {st : Stmt} {sts : List Stmt}
theorem PE.imp {t t' : TE} (p : PE X e t) (h : ∀ σ H Q, t' σ H Q → t σ H Q) : PE X e t' := ⟨fun pins s σ H Q I q => p.run pins s σ H Q I (h σ H Q q)⟩
theorem PT.imp {t t' : TT} (p : PT X e t) (h : ∀ σ H Q, t' σ H Q → t σ H Q) : PT X e t' := ⟨fun pins s σ H Q I q => p.run pins s σ H Q I (h σ H Q q)⟩
theorem PW.imp {t t' : TT} (p : PW X e t) (h : ∀ σ H Q, t' σ H Q → t σ H Q) : PW X e t' := ⟨fun wh pins s σ H Q I q => p.run wh pins s σ H Q I (h σ H Q q)⟩
theorem PA.imp {t t' : TA} (p : PA X es t) (h : ∀ σ H Q, t' σ H Q → t σ H Q) : PA X es t' := ⟨fun pos pins s σ H Q I q => p.run pos pins s σ H Q I (h σ H Q q)⟩
theorem PS.imp {t t' : TS} (p : PS X st t) (h : ∀ D σ H, t' D σ H → t D σ H) : PS X st t' := ⟨fun pins s σ H Q I q => p.run pins s σ H Q I (h Q σ H q)⟩
theorem PSs.imp {t t' : TS} (p : PSs X sts t) (h : ∀ D σ H, t' D σ H → t D σ H) : PSs X sts t' := ⟨fun pins s σ H Q I q => p.run pins s σ H Q I (h Q σ H q)⟩
end

/-! ### names, constants -/
def mVar (i : Nat) : M D := fun ds h => match ds[i]? with
  | some (some d) => .ok d h
  | _ => .no
def mC (d : D) : M D := fun _ h => .ok d h
section
variable {X : Cx} {W : WX} {pos : Pos} {a b c : Expr} {ma mb mc : M D}
theorem EvR.get {K : PySem.W.Frag} {H : Hp} {as : List Addr} : ∀ {ds : Ev} {σ : L2.St} {i : Nat} {d : D}, EvR K H as ds σ → ds[i]? = some (some d) → ∃ v, σ[i]? = some (some v) ∧ RD K H as d v
  | _, _, _, _, .nil, e => by simp at e
  | _, _, 0, d, .cons h _, e => by
    simp at e
    obtain ⟨v, e1, r⟩ := h d e
    exact ⟨v, by simp [e1], r⟩
  | _, _, i + 1, d, .cons _ t, e => by
    obtain ⟨v, h1, h2⟩ := EvR.get (i := i) (d := d) t (by simpa using e)
    exact ⟨v, by simpa using h1, h2⟩
theorem de_var (i : Nat) {x : Str} (hN : X.N[i]? = some x := by rfl) (hv : Vis X.env.scope x := by first | exact Or.inl rfl | exact Or.inr (Or.inl rfl) | exact Or.inr (Or.inr rfl)) (hd : (x == ("__debug__" : Str)) = false := by decide)
    (hcd : (x == ("__classdict__" : Str)) = false := by decide) : DE X W (.Name x pos) (mVar i) := by
  refine PE.imp (pe_var hN hv hd hcd) fun σ H Q ⟨as, ds, h, s, p⟩ => ?_
  unfold mVar at p
  split at p
  · rename_i d e
    obtain ⟨v, e1, r⟩ := s.env.get e
    exact ⟨v, e1, p v H as .refl r s.heap⟩
  · exact p.elim
theorem de_c {d : D} {v : V} (h : PE X e (tC v)) (r : ∀ K H as, RV K H as d v) : DE X W e (mC d) :=
  PE.imp h fun σ H Q ⟨as, ds, h, s, p⟩ => p v H as .refl (.val (r _ _ _)) s.heap
theorem de_int {i : Int} {j : Nat} : DE X W (.Constant (.int i) j pos) (mC (.int i)) := de_c pe_int fun _ _ _ => .int i
theorem de_bl {i : Bool} {j : Nat} : DE X W (.Constant (.bool i) j pos) (mC (.bl i)) := de_c pe_bl fun _ _ _ => .bl i
theorem de_non {j : Nat} : DE X W (.Constant .none j pos) (mC .non) := de_c pe_non fun _ _ _ => .non
theorem de_str {x : Str} {j : Nat} : DE X W (.Constant (.str x) j pos) (mC (.str x)) := de_c pe_str fun _ _ _ => .str x
/-- a number of the module -/
theorem de_gint {x : Str} {i : Int} (hm : ∃ t, X.mg x = some (.int i t)) (hg : Gl X x := by rfl) (hd : (x == ("__debug__" : Str)) = false := by decide) : DE X W (.Name x pos) (mC (.int i)) := by
  obtain ⟨t, hm⟩ := hm
  exact de_c (pe_glob hg hm (v := .int i) ⟨t, rfl⟩ hd) fun _ _ _ => .int i
/-- a tuple of the module -/
theorem de_gtup {x : Str} {a : Addr} {vs : List V} {ds : List D} (hm : X.mg x = some (.ref a)) (hk : ∀ H, SqT X.K H a vs) (hr : ∀ H as, RVs X.K H as ds vs) (hg : Gl X x := by rfl) (hd : (x == ("__debug__" : Str)) = false := by decide) : DE X W (.Name x pos) (mC (.tup ds)) :=
  PE.imp (pe_glob hg hm (v := .ref a) rfl hd) fun σ H Q ⟨as, ds, h, s, p⟩ => p (.ref a) H as .refl (.val (.tup (hk H) (hr H as))) s.heap
end

/-! ### reading a value: cells by what they hold -/
def rd (h : Hs) : D → D
  | .loc n => h.getD n .non
  | d => d
/-- a value as it is read -/
inductive RT (K : PySem.W.Frag) (H : Hp) (as : List Addr) : D → V → Prop
  | val {d : D} {v : V} : RV K H as d v → RT K H as d v
  | cell {d : D} {a : Addr} : CellR K H as d a → RT K H as d (.ref a)
theorem RD.rt {K : PySem.W.Frag} {H : Hp} {as : List Addr} {h : Hs} {d : D} {v : V} (r : RD K H as d v) (s : HeapR K H as h) : RT K H as (rd h d) v := by
  cases r with
  | val r =>
    cases r with
    | non => exact .val .non
    | bl b => exact .val (.bl b)
    | int i => exact .val (.int i)
    | str x => exact .val (.str x)
    | ty n => exact .val (.ty n)
    | tup a b => exact .val (.tup a b)
    | lst a b c => exact .val (.lst a b c)
    | frz a b => exact .val (.frz a b)
    | dct a b c d => exact .val (.dct a b c d)
  | @loc n a e =>
    obtain ⟨d, e1, c⟩ := s.get e
    have : rd h (.loc n) = d := by
      show h.getD n .non = d
      rw [List.getD_eq_getElem?_getD, e1]
      rfl
    rw [this]
    exact .cell c
/-- the items of a list or a tuple -/
theorem RT.seq {K : PySem.W.Frag} {H : Hp} {as : List Addr} {d : D} {v : V} (r : RT K H as d v) {ds : List D} (e : d = .lst ds ∨ d = .tup ds ∨ d = .frz ds) : ∃ a vs, v = .ref a ∧ RVs K H as ds vs ∧ (SqL K H a vs ∨ SqT K H a vs) := by
  cases r with
  | val r =>
    cases r with
    | tup h r => rcases e with e | e | e <;> cases e; exact ⟨_, _, rfl, r, .inr h⟩
    | lst h n r => rcases e with e | e | e <;> cases e; exact ⟨_, _, rfl, r, .inl (SqL.of h)⟩
    | frz h r => rcases e with e | e | e <;> cases e; exact ⟨_, _, rfl, r, .inl h.sq⟩
    | _ => rcases e with e | e | e <;> cases e
  | cell r =>
    cases r with
    | lst h r => rcases e with e | e | e <;> cases e; exact ⟨_, _, rfl, r, .inl (SqL.of h)⟩
    | dct _ _ _ => rcases e with e | e | e <;> cases e
theorem RT.lst {K : PySem.W.Frag} {H : Hp} {as : List Addr} {v : V} {ds : List D} (r : RT K H as (.lst ds) v) : ∃ a vs, v = .ref a ∧ RVs K H as ds vs ∧ H a = some (.lst vs) := by
  cases r with
  | val r => cases r with
    | lst h n r => exact ⟨_, _, rfl, r, h⟩
  | cell r => cases r with
    | lst h r => exact ⟨_, _, rfl, r, h⟩
theorem RT.frz {K : PySem.W.Frag} {H : Hp} {as : List Addr} {v : V} {ds : List D} (r : RT K H as (.frz ds) v) : ∃ a vs, v = .ref a ∧ RVs K H as ds vs ∧ SqL K H a vs := by
  cases r with
  | val r => cases r with
    | frz h r => exact ⟨_, _, rfl, r, h.sq⟩
  | cell r => cases r
theorem RT.tup {K : PySem.W.Frag} {H : Hp} {as : List Addr} {v : V} {ds : List D} (r : RT K H as (.tup ds) v) : ∃ a vs, v = .ref a ∧ RVs K H as ds vs ∧ SqT K H a vs := by
  cases r with
  | val r => cases r with
    | tup h r => exact ⟨_, _, rfl, r, h⟩
  | cell r => cases r
theorem RT.int {K : PySem.W.Frag} {H : Hp} {as : List Addr} {v : V} {i : Int} (r : RT K H as (.int i) v) : v = .int i := by
  cases r with
  | val r => cases r; rfl
  | cell r => cases r
theorem RT.bl {K : PySem.W.Frag} {H : Hp} {as : List Addr} {v : V} {i : Bool} (r : RT K H as (.bl i) v) : v = .bl i := by
  cases r with
  | val r => cases r; rfl
  | cell r => cases r
theorem RT.str {K : PySem.W.Frag} {H : Hp} {as : List Addr} {v : V} {i : Str} (r : RT K H as (.str i) v) : v = .str i := by
  cases r with
  | val r => cases r; rfl
  | cell r => cases r
theorem RT.non {K : PySem.W.Frag} {H : Hp} {as : List Addr} {v : V} (r : RT K H as .non v) : v = .non := by
  cases r with
  | val r => cases r; rfl
  | cell r => cases r
theorem RT.ty {K : PySem.W.Frag} {H : Hp} {as : List Addr} {v : V} {n : String} (r : RT K H as (.ty n) v) : v = .ty n := by
  cases r with
  | val r => cases r; rfl
  | cell r => cases r

/-! ### operators by values -/
/-- f tells what the reading r gives -/
def OpS (K : PySem.W.Frag) (f : D → D → Option D) (r : R2) : Prop := ∀ (as : List Addr) (H : Hp) (x y z : D) (v u : V) (Q : VK), (∀ p, H p = none → p ∉ as) → f x y = some z → RT K H as x v → RT K H as y u →
  (∀ w H', Same H H' → RV K H' as z w → Q w H') → r v u H Q
def mBin (f : D → D → Option D) (ma mb : M D) : M D := fun ds h => (ma ds h).bind fun x h1 => (mb ds h1).bind fun y h2 => match f (rd h2 x) (rd h2 y) with
  | some z => .ok z h2
  | none => .no
theorem OpS.or1 {K : PySem.W.Frag} {f : D → D → Option D} {r r' : R2} (h : OpS K f r) : OpS K f (fun x y H Q => r x y H Q ∨ r' x y H Q) := fun as H x y z v u Q n e r1 r2 k => .inl (h as H x y z v u Q n e r1 r2 k)
section
variable {X : Cx} {W : WX} {pos : Pos} {a b c : Expr} {ma mb mc : M D}
theorem op_of_post {f : D → D → Option D} {r : R2} (hs : OpS X.K f r) {σ : L2.St} {H : Hp} {Q : VK} (q : teM X.K X.mg W (mBin f ma mb) σ H Q) : tOp r (teM X.K X.mg W ma) (teM X.K X.mg W mb) σ H Q := by
  obtain ⟨as, ds, h, s, p⟩ := q
  refine ⟨as, ds, h, s, PostE.bindE p fun x h1 v H1 as1 f1 r1 hr1 p1 => ?_⟩
  refine ⟨as1, ds, h1, ⟨s.env.grow f1, hr1⟩, PostE.bindE p1 fun y h2 u H2 as2 f2 r2 hr2 p2 => ?_⟩
  cases e : f (rd h2 x) (rd h2 y) with
  | none => rw [e] at p2; exact p2.elim
  | some z =>
    rw [e] at p2
    exact hs as2 H2 _ _ z v u Q (fun p hp => hr2.notin hp) e ((r1.grow f2).rt hr2) (r2.rt hr2) fun w H' sm rw => p2 w H' as2 (.of_same sm) (.val rw) (hr2.same sm)
theorem de_bin {op : Operator} {f : D → D → Option D} {r : R2} (ho : OpR X (binaryOp op) r) (hs : OpS X.K f r) (ha : DE X W a ma) (hb : DE X W b mb) : DE X W (.BinOp a op b pos) (mBin f ma mb) :=
  PE.imp (pe_op ho ha hb) fun σ H Q q => op_of_post hs q
theorem de_cmp {op : CmpOp} {f : D → D → Option D} {r : R2} (ho : OpR X (compareOp op) r) (hs : OpS X.K f r) (hm : behindInMarks op b = false) (ha : DE X W a ma) (hb : DE X W b mb) : DE X W (.Compare a [op] [b] pos) (mBin f ma mb) :=
  PE.imp (pe_cmpR ho ha hb hm) fun σ H Q q => op_of_post hs q
end
end DL

set_option Elab.async false
set_option linter.all false
set_option maxRecDepth 100000
set_option maxHeartbeats 4000000
namespace DL
open PySem PySem.Spec PyProof.Rows L2

/-! ### truth -/
def truD : D → Option Bool
  | .non => some false
  | .bl b => some b
  | .int i => some (i != 0)
  | .str s => if s.length ≤ 16777216 then some ((s.length : Int) != 0) else none
  | .tup l => some (!l.isEmpty)
  | .lst l => some (!l.isEmpty)
  | .frz l => some (!l.isEmpty)
  | .dct ks _ => some (!ks.isEmpty)
  | _ => none
theorem RVs.isEmpty {K : PySem.W.Frag} {H : Hp} {as : List Addr} {ds : List D} {vs : List V} (r : RVs K H as ds vs) : ds.isEmpty = vs.isEmpty := by
  cases r <;> rfl
theorem truD_ok {K : PySem.W.Frag} {H : Hp} {as : List Addr} {d : D} {v : V} {b : Bool} (e : truD d = some b) (r : RT K H as d v) : TruV K v H b := by
  cases d with
  | non => cases r.non; cases e; exact rfl
  | bl b' => cases r.bl; cases e; exact rfl
  | int i => cases r.int; cases e; exact rfl
  | str s =>
    cases r.str
    by_cases hs : s.length ≤ 16777216
    · rw [truD, if_pos hs] at e; cases e
      exact ⟨by rw [sizeLine_eq]; exact hs, rfl⟩
    · rw [truD, if_neg hs] at e; cases e
  | ty n => cases e
  | tup l =>
    cases e
    obtain ⟨a, vs, rfl, r, h⟩ := r.tup
    exact .inr (.inl ⟨vs, h, by rw [r.isEmpty]⟩)
  | lst l =>
    cases e
    obtain ⟨a, vs, rfl, r, h⟩ := r.lst
    exact .inl ⟨vs, SqL.of h, by rw [r.isEmpty]⟩
  | frz l =>
    cases e
    obtain ⟨a, vs, rfl, r, h⟩ := r.frz
    exact .inl ⟨vs, h, by rw [r.isEmpty]⟩
  | dct ks ds =>
    cases e
    cases r with
    | val r => cases r with
      | dct h n e r => exact .inr (.inr ⟨_, h, by rw [← e]; simp⟩)
    | cell r => cases r with
      | dct h e r => exact .inr (.inr ⟨_, h, by rw [← e]; simp⟩)
  | loc n => cases e
def mTru (ma : M D) : M Bool := fun ds h => (ma ds h).bind fun x h1 => match truD (rd h1 x) with
  | some b => .ok b h1
  | none => .no
def mNotT (ma : M Bool) : M Bool := fun ds h => (ma ds h).bind fun b h1 => .ok (!b) h1
def mAndT (ma mb : M Bool) : M Bool := fun ds h => (ma ds h).bind fun b h1 => if b then mb ds h1 else .ok false h1
def mOrT (ma mb : M Bool) : M Bool := fun ds h => (ma ds h).bind fun b h1 => if b then .ok true h1 else mb ds h1
/-- a test as a value: where all that stands in it is a bool -/
def mOfT (ma : M Bool) : M D := fun ds h => (ma ds h).bind fun b h1 => .ok (.bl b) h1
def mIf (mc : M Bool) (ma mb : M D) : M D := fun ds h => (mc ds h).bind fun b h1 => if b then ma ds h1 else mb ds h1
def isBl : D → Option Bool
  | .bl b => some b
  | _ => none
/-- a value that is a bool, as a test -/
def mTB (ma : M D) : M Bool := fun ds h => (ma ds h).bind fun x h1 => match isBl x with
  | some b => .ok b h1
  | none => .no
def mAndV (ma mb : M D) : M D := fun ds h => (ma ds h).bind fun x h1 => match truD (rd h1 x) with
  | some b => if b then mb ds h1 else .ok x h1
  | none => .no
def mOrV (ma mb : M D) : M D := fun ds h => (ma ds h).bind fun x h1 => match truD (rd h1 x) with
  | some b => if b then .ok x h1 else mb ds h1
  | none => .no
def mNotV (ma : M D) : M D := fun ds h => (ma ds h).bind fun x h1 => match truD (rd h1 x) with
  | some b => .ok (.bl (!b)) h1
  | none => .no
section
variable {X : Cx} {W : WX} {pos : Pos} {a b c : Expr} {rest : List Expr} {ma mb mc : M D} {ta tb tc : M Bool}
theorem isBl_ok {K : PySem.W.Frag} {H : Hp} {as : List Addr} {d : D} {v : V} {b : Bool} (e : isBl d = some b) (r : RD K H as d v) : v = .bl b := by
  cases r with
  | val r => cases r <;> cases e; rfl
  | loc _ => cases e
theorem dt_cmp {op : CmpOp} {f : D → D → Option D} {r : R2} (ho : OpR X (compareOp op) r) (hs : OpS X.K f r) (hm : behindInMarks op b = false) (ha : DE X W a ma) (hb : DE X W b mb) : DT X W (.Compare a [op] [b] pos) (mTB (mBin f ma mb)) := by
  refine PT.imp (pt_cmpR ho ha hb hm) fun σ H Q ⟨as, ds, h, s, p⟩ => ?_
  show tOp r (teM X.K X.mg W ma) (teM X.K X.mg W mb) σ H _
  refine op_of_post hs ⟨as, ds, h, s, PostT.bindE p fun x h1 v H1 as1 f1 r1 hr1 p1 => ?_⟩
  cases e : isBl x with
  | none => rw [e] at p1; exact p1.elim
  | some k =>
    rw [e] at p1
    exact ⟨k, isBl_ok e r1, p1 H1 as1 .refl hr1⟩
/-- any value's truth, as a test -/
theorem dt_tru (ha : DE X W a ma) (he : ∀ whole, isTrue a X.env whole = (do let v ← whole; standAt a.pos; holding [v] (truthy v)) := by intro _; rfl) : DT X W a (mTru ma) := by
  refine PT.imp (pt_truth ha he) fun σ H Q ⟨as, ds, h, s, p⟩ => ?_
  refine ⟨as, ds, h, s, PostT.bindE p fun x h1 v H1 as1 f1 r1 hr1 p1 => ?_⟩
  cases e : truD (rd h1 x) with
  | none => rw [e] at p1; exact p1.elim
  | some k =>
    rw [e] at p1
    exact ⟨k, truD_ok e (r1.rt hr1), p1 H1 as1 .refl hr1⟩
theorem dt_not (ha : DT X W a ta) : DT X W (.UnaryOp .Not a pos) (mNotT ta) :=
  PT.imp (pt_not ha) fun σ H Q ⟨as, ds, h, s, p⟩ => ⟨as, ds, h, s, PostT.bindT p fun b h1 H1 as1 f1 hr1 p1 => p1 H1 as1 .refl hr1⟩
theorem dw_and1 (ha : DT X W a ta) : DW X W (.BoolOp .And [a] pos) ta := pw_and1 ha
theorem dw_or1 (ha : DT X W a ta) : DW X W (.BoolOp .Or [a] pos) ta := pw_or1 ha
theorem dw_and (ha : DT X W a ta) (hb : DW X W (.BoolOp .And (b :: rest) pos) tb) : DW X W (.BoolOp .And (a :: b :: rest) pos) (mAndT ta tb) :=
  PW.imp (pw_and ha hb) fun σ H Q ⟨as, ds, h, s, p⟩ => ⟨as, ds, h, s, PostT.bindT p fun b h1 H1 as1 f1 hr1 p1 => by
    cases b with
    | true => exact ⟨as1, ds, h1, ⟨s.env.grow f1, hr1⟩, p1⟩
    | false => exact p1 H1 as1 .refl hr1⟩
theorem dw_or (ha : DT X W a ta) (hb : DW X W (.BoolOp .Or (b :: rest) pos) tb) : DW X W (.BoolOp .Or (a :: b :: rest) pos) (mOrT ta tb) :=
  PW.imp (pw_or ha hb) fun σ H Q ⟨as, ds, h, s, p⟩ => ⟨as, ds, h, s, PostT.bindT p fun b h1 H1 as1 f1 hr1 p1 => by
    cases b with
    | true => exact p1 H1 as1 .refl hr1
    | false => exact ⟨as1, ds, h1, ⟨s.env.grow f1, hr1⟩, p1⟩⟩
theorem dt_w (h : DW X W a ta) : DT X W a ta := h.pt
theorem de_if (hc : DT X W c tc) (ha : DE X W a ma) (hb : DE X W b mb) : DE X W (.IfExp c a b pos) (mIf tc ma mb) :=
  PE.imp (pe_ifExp hc ha hb) fun σ H Q ⟨as, ds, h, s, p⟩ => ⟨as, ds, h, s, PostE.bindT p fun b h1 H1 as1 f1 hr1 p1 => by
    cases b with
    | true => exact ⟨as1, ds, h1, ⟨s.env.grow f1, hr1⟩, p1⟩
    | false => exact ⟨as1, ds, h1, ⟨s.env.grow f1, hr1⟩, p1⟩⟩
theorem de_one {op : BoolOp} (ha : DE X W a ma) : DE X W (.BoolOp op [a] pos) ma := pe_one ha
theorem de_and (ha : DE X W a ma) (hb : DE X W (.BoolOp .And (b :: rest) pos) mb) : DE X W (.BoolOp .And (a :: b :: rest) pos) (mAndV ma mb) :=
  PE.imp (pe_andT ha hb) fun σ H Q ⟨as, ds, h, s, p⟩ => ⟨as, ds, h, s, PostE.bindE p fun x h1 v H1 as1 f1 r1 hr1 p1 => by
    cases e : truD (rd h1 x) with
    | none => rw [e] at p1; exact p1.elim
    | some k =>
      rw [e] at p1
      refine ⟨k, truD_ok e (r1.rt hr1), ?_⟩
      cases k with
      | true => exact ⟨as1, ds, h1, ⟨s.env.grow f1, hr1⟩, p1⟩
      | false => exact p1 v H1 as1 .refl r1 hr1⟩
theorem de_or (ha : DE X W a ma) (hb : DE X W (.BoolOp .Or (b :: rest) pos) mb) : DE X W (.BoolOp .Or (a :: b :: rest) pos) (mOrV ma mb) :=
  PE.imp (pe_orT ha hb) fun σ H Q ⟨as, ds, h, s, p⟩ => ⟨as, ds, h, s, PostE.bindE p fun x h1 v H1 as1 f1 r1 hr1 p1 => by
    cases e : truD (rd h1 x) with
    | none => rw [e] at p1; exact p1.elim
    | some k =>
      rw [e] at p1
      refine ⟨k, truD_ok e (r1.rt hr1), ?_⟩
      cases k with
      | true => exact p1 v H1 as1 .refl r1 hr1
      | false => exact ⟨as1, ds, h1, ⟨s.env.grow f1, hr1⟩, p1⟩⟩
theorem de_not (ha : DE X W a ma) : DE X W (.UnaryOp .Not a pos) (mNotV ma) :=
  PE.imp (pe_notT ha) fun σ H Q ⟨as, ds, h, s, p⟩ => ⟨as, ds, h, s, PostE.bindE p fun x h1 v H1 as1 f1 r1 hr1 p1 => by
    cases e : truD (rd h1 x) with
    | none => rw [e] at p1; exact p1.elim
    | some k =>
      rw [e] at p1
      exact ⟨k, truD_ok e (r1.rt hr1), p1 (.bl (!k)) H1 as1 .refl (.val (.bl _)) hr1⟩⟩
end

/-! ### arguments, tuples, lists -/
def mNil : M (List D) := fun _ h => .ok [] h
def mCons (ma : M D) (mr : M (List D)) : M (List D) := fun ds h => (ma ds h).bind fun x h1 => (mr ds h1).bind fun xs h2 => .ok (x :: xs) h2
def isLoc : D → Bool
  | .loc _ => true
  | _ => false
def mTup (ma : M (List D)) : M D := fun ds h => (ma ds h).bind fun xs h1 => if xs.length ≤ 16777216 ∧ xs.any isLoc = false then .ok (.tup xs) h1 else .no
def mLst (ma : M (List D)) : M D := fun ds h => (ma ds h).bind fun xs h1 => if xs.length ≤ 16777216 ∧ xs.any isLoc = false then .ok (.lst xs) h1 else .no
theorem RD.rv {K : PySem.W.Frag} {H : Hp} {as : List Addr} {d : D} {v : V} (r : RD K H as d v) (n : isLoc d = false) : RV K H as d v := by
  cases r with
  | val r => exact r
  | loc _ => cases n
theorem RDs.rvs {K : PySem.W.Frag} {H : Hp} {as : List Addr} : ∀ {ds : List D} {vs : List V}, RDs K H as ds vs → ds.any isLoc = false → RVs K H as ds vs
  | _, _, .nil, _ => .nil
  | _, _, .cons h t, n => by
    simp only [List.any_cons, Bool.or_eq_false_iff] at n
    exact .cons (h.rv n.1) (RDs.rvs t n.2)
theorem RDs.length {K : PySem.W.Frag} {H : Hp} {as : List Addr} {ds : List D} {vs : List V} (r : RDs K H as ds vs) : ds.length = vs.length := Paired.length r
theorem RVs.rds {K : PySem.W.Frag} {H : Hp} {as : List Addr} : ∀ {ds : List D} {vs : List V}, RVs K H as ds vs → RDs K H as ds vs
  | _, _, .nil => .nil
  | _, _, .cons h t => .cons (.val h) (RVs.rds t)
section
variable {X : Cx} {W : WX} {pos : Pos} {a b c e : Expr} {es : List Expr} {ma mb mc : M D} {me : M (List D)}
theorem da_nil : DA X W [] mNil := PA.imp pa_nil fun σ H Q ⟨as, ds, h, s, p⟩ => p [] H as .refl .nil s.heap
theorem da_cons (ha : DE X W e ma) (hr : DA X W es me) (hs : starEach (e :: es) X.env = (false, eval e X.env) :: starEach es X.env := by rfl) : DA X W (e :: es) (mCons ma me) :=
  PA.imp (pa_cons ha hr hs) fun σ H Q ⟨as, ds, h, s, p⟩ => ⟨as, ds, h, s, PostA.bindE p fun x h1 v H1 as1 f1 r1 hr1 p1 =>
    ⟨as1, ds, h1, ⟨s.env.grow f1, hr1⟩, PostA.bindA p1 fun xs h2 vs H2 as2 f2 r2 hr2 p2 => p2 (v :: vs) H2 as2 .refl (.cons (r1.grow f2) r2) hr2⟩⟩
theorem de_tup {x1 : Nat} (h : DA X W es me) : DE X W (.Tuple es x1 pos) (mTup me) :=
  PE.imp (pe_tup h) fun σ H Q ⟨as, ds, h, s, p⟩ => ⟨as, ds, h, s, PostE.bindA p fun xs h1 vs H1 as1 f1 r1 hr1 p1 => by
    by_cases hc : xs.length ≤ 16777216 ∧ xs.any isLoc = false
    · rw [if_pos hc] at p1
      refine ⟨by rw [sizeLine_eq, ← r1.length]; exact hc.1, fun q hq => ?_⟩
      have sm := same_upd (o := .tup vs) hq
      exact p1 (.ref q) _ as1 (.of_same sm) (.val (.tup (SqT.of upd_same) ((r1.rvs hc.2).same sm))) (hr1.same sm)
    · rw [if_neg hc] at p1; exact p1.elim⟩
theorem de_lst (h : DA X W es me) : DE X W (.List es pos) (mLst me) :=
  PE.imp (pe_lst h) fun σ H Q ⟨as, ds, h, s, p⟩ => ⟨as, ds, h, s, PostE.bindA p fun xs h1 vs H1 as1 f1 r1 hr1 p1 => by
    by_cases hc : xs.length ≤ 16777216 ∧ xs.any isLoc = false
    · rw [if_pos hc] at p1
      refine ⟨by rw [sizeLine_eq, ← r1.length]; exact hc.1, fun q hq => ?_⟩
      have sm := same_upd (o := .lst vs) hq
      exact p1 (.ref q) _ as1 (.of_same sm) (.val (.lst upd_same (hr1.notin hq) ((r1.rvs hc.2).same sm))) (hr1.same sm)
    · rw [if_neg hc] at p1; exact p1.elim⟩
/-- {} -/
theorem de_dnil : DE X W (.Dict [] [] pos) (mC (.dct [] [])) :=
  PE.imp pe_dnewK fun σ H Q ⟨as, ds, h, s, p⟩ => fun q hq => by
    have sm := same_upd (o := .dK []) hq
    exact p (.ref q) _ as (.of_same sm) (.val (.dct upd_same (s.heap.notin hq) rfl .nil)) (s.heap.same sm)
end

/-! ### subscripts, slices -/
def seqD : D → Option (List D)
  | .tup l => some l
  | .lst l => some l
  | .frz l => some l
  | _ => none
theorem seqD_ok {d : D} {l : List D} (h : seqD d = some l) : d = .lst l ∨ d = .tup l ∨ d = .frz l := by
  cases d <;> cases h <;> simp
def ixD : D → D → Option D
  | .tup l, .int i => atI l i
  | .lst l, .int i => atI l i
  | .frz l, .int i => atI l i
  | .str z, .int i => if z.length ≤ 16777216 then (atI z.cps.toList i).map fun c => .str ⟨#[c]⟩ else none
  | _, _ => none
theorem RVs.atI {K : PySem.W.Frag} {H : Hp} {as : List Addr} {ds : List D} {vs : List V} (r : RVs K H as ds vs) {i : Int} {d : D} (h : L2.atI ds i = some d) : ∃ v, L2.atI vs i = some v ∧ RV K H as d v := by
  unfold L2.atI at h ⊢
  rw [← r.length]
  cases e : ixN ds.length i with
  | none => rw [e] at h; cases h
  | some j =>
    rw [e] at h
    exact r.get h
theorem ix_s {K : PySem.W.Frag} : OpS K ixD (rIx K) := by
  intro as H x y z v u Q n e r1 r2 k
  cases y with
  | int i =>
    cases r2.int
    cases x with
    | tup l =>
      obtain ⟨a, vs, rfl, r, h⟩ := r1.tup
      obtain ⟨w, hw, rw⟩ := r.atI e
      exact .inr (.inl ⟨a, vs, i, w, rfl, rfl, h, hw, k w H (Same.refl H) rw⟩)
    | lst l =>
      obtain ⟨a, vs, rfl, r, h⟩ := r1.lst
      obtain ⟨w, hw, rw⟩ := r.atI e
      exact .inl ⟨a, vs, i, w, rfl, rfl, SqL.of h, hw, k w H (Same.refl H) rw⟩
    | frz l =>
      obtain ⟨a, vs, rfl, r, h⟩ := r1.frz
      obtain ⟨w, hw, rw⟩ := r.atI e
      exact .inl ⟨a, vs, i, w, rfl, rfl, h, hw, k w H (Same.refl H) rw⟩
    | str s =>
      cases r1.str
      by_cases hs : s.length ≤ 16777216
      · rw [ixD, if_pos hs] at e
        cases e2 : L2.atI s.cps.toList i with
        | none => rw [e2] at e; cases e
        | some c =>
          rw [e2] at e; cases e
          exact .inr (.inr ⟨s, i, c, rfl, rfl, by rw [sizeLine_eq]; exact hs, e2, k _ H (Same.refl H) (.str _)⟩)
      · rw [ixD, if_neg hs] at e; cases e
    | _ => cases e
  | _ => cases x <;> cases e
section
variable {X : Cx} {W : WX} {pos : Pos} {a b c e : Expr} {ma mb mc : M D}
theorem de_ix (hs : PlainIx b) (ha : DE X W a ma) (hb : DE X W b mb) : DE X W (.Subscript a b pos) (mBin ixD ma mb) :=
  PE.imp (pe_ix ix_seq ha hb hs) fun σ H Q q => op_of_post ix_s q
end
def intO : D → Option Int
  | .int i => some i
  | _ => none
abbrev MO := M (Option Int)
def mNoPart : MO := fun _ h => .ok none h
def mPart (ma : M D) : MO := fun ds h => (ma ds h).bind fun x h1 => match intO x with
  | some i => .ok (some i) h1
  | none => .no
def cutD (xs : List D) (lo hi : Option Int) : List D := (xs.drop (HT.sIx xs.length 0 lo)).take (HT.sIx xs.length xs.length hi - HT.sIx xs.length 0 lo)
def slD (x : D) (lo hi : Option Int) : Option D := match x with
  | .lst l => some (.lst (cutD l lo hi))
  | .tup l => some (.tup (cutD l lo hi))
  | _ => none
def mSl (ma : M D) (ml mh : MO) : M D := fun ds h => (ma ds h).bind fun x h1 => (ml ds h1).bind fun lo h2 => (mh ds h2).bind fun hi h3 => match slD (rd h3 x) lo hi with
  | some z => .ok z h3
  | none => .no
def PostO (K : PySem.W.Frag) (mg : Str → Option Value) (W : WX) (as : List Addr) (σ : L2.St) (H : Hp) (r : R (Option Int)) (Q : Option Int → Hp → Prop) : Prop := match r with
  | .ok b h => ∀ H' as', Grow as H as' H' → HeapR K H' as' h → Q b H'
  | .ex c p h => ∀ cls dx H' as', Grow as H as' H' → HeapR K H' as' h → ExR K mg H' as' c p cls dx → W cls dx σ H'
  | .no => False
def toM (K : PySem.W.Frag) (mg : Str → Option Value) (W : WX) (m : MO) : TO := fun σ H Q => ∃ as ds h, StR K H as ds h σ ∧ PostO K mg W as σ H (m ds h) Q
theorem PO.imp {X : Cx} {e : Option Expr} {t t' : TO} (p : PO X e t) (h : ∀ σ H Q, t' σ H Q → t σ H Q) : PO X e t' := ⟨fun pins s σ H Q I q => p.run pins s σ H Q I (h σ H Q q)⟩
abbrev DO (X : Cx) (W : WX) (e : Option Expr) (m : MO) : Prop := PO X e (toM X.K X.mg W m)
theorem intO_ok {K : PySem.W.Frag} {H : Hp} {as : List Addr} {d : D} {v : V} {i : Int} (e : intO d = some i) (r : RD K H as d v) : v = .int i := by
  cases r with
  | val r => cases r <;> cases e; rfl
  | loc _ => cases e
theorem RVs.cut {K : PySem.W.Frag} {H : Hp} {as : List Addr} {ds : List D} {vs : List V} (r : RVs K H as ds vs) (lo hi : Option Int) : RVs K H as (cutD ds lo hi) (cutV vs lo hi) := by
  unfold cutD cutV
  rw [← r.length]
  exact (r.drop _).take _
section
variable {X : Cx} {W : WX} {pos p2 : Pos} {a b c e : Expr} {ma mb mc : M D} {lo hi : Option Expr} {ml mh : MO}
theorem do_none : DO X W none mNoPart := PO.imp po_none fun σ H Q ⟨as, ds, h, s, p⟩ => p H as .refl s.heap
theorem do_some (ha : DE X W a ma) : DO X W (some a) (mPart ma) := PO.imp (po_some ha) fun σ H Q ⟨as, ds, h, s, p⟩ => by
  refine ⟨as, ds, h, s, ?_⟩
  unfold mPart at p
  cases hm : ma ds h with
  | ok x h1 =>
    rw [hm] at p
    have p : PostO X.K X.mg W as σ H (match intO x with | some i => .ok (some i) h1 | none => .no) Q := p
    cases e : intO x with
    | none => rw [e] at p; exact p.elim
    | some i =>
      rw [e] at p
      exact fun v H1 as1 f1 r1 hr1 => ⟨i, intO_ok e r1, p H1 as1 f1 hr1⟩
  | ex c q h1 => rw [hm] at p; exact p
  | no => rw [hm] at p; exact p
theorem PostE.bindO {K : PySem.W.Frag} {mg : Str → Option Value} {as : List Addr} {σ : L2.St} {H : Hp} {r : R (Option Int)} {k : Option Int → Hs → R D} {Q : VK} {Q' : Option Int → Hp → Prop} (p : PostE K mg W as σ H (r.bind k) Q)
    (n : ∀ b h H1 as1, Grow as H as1 H1 → HeapR K H1 as1 h → PostE K mg W as1 σ H1 (k b h) Q → Q' b H1) : PostO K mg W as σ H r Q' := by
  cases r with
  | ok d h => exact fun H1 as1 f hr => n d h H1 as1 f hr (PostE.grow f p)
  | ex c q h => exact p
  | no => exact p
theorem sl_any : SlR X (fun x lo hi H Q => rSlL X.K x lo hi H Q ∨ rSlA X.K x lo hi H Q) := sl_list.or sl_tupA
theorem de_sl (ha : DE X W a ma) (hl : DO X W lo ml) (hh : DO X W hi mh) : DE X W (.Subscript a (.Slice lo hi none p2) pos) (mSl ma ml mh) :=
  PE.imp (pe_slice sl_any ha hl hh) fun σ H Q ⟨as, ds, h, s, p⟩ => ⟨as, ds, h, s, PostE.bindE p fun x h1 v H1 as1 f1 r1 hr1 p1 =>
    ⟨as1, ds, h1, ⟨s.env.grow f1, hr1⟩, PostE.bindO p1 fun lo h2 H2 as2 f2 hr2 p2 =>
    ⟨as2, ds, h2, ⟨s.env.grow (f1.trans f2), hr2⟩, PostE.bindO p2 fun hi h3 H3 as3 f3 hr3 p3 => by
      have r3 := ((r1.grow (f2.trans f3)).rt hr3)
      revert r3 p3
      generalize rd h3 x = y
      intro p3 r3
      cases y with
      | lst l =>
        obtain ⟨q, vs, rfl, r, hq⟩ := r3.lst
        refine .inl ⟨q, vs, rfl, SqL.of hq, fun q2 hq2 => ?_⟩
        have sm := same_upd (o := .lst (cutV vs lo hi)) hq2
        exact p3 (.ref q2) _ as3 (.of_same sm) (.val (.lst upd_same (hr3.notin hq2) ((r.cut lo hi).fr (.of_same sm)))) (hr3.same sm)
      | tup l =>
        obtain ⟨q, vs, rfl, r, hq⟩ := r3.tup
        refine .inr ⟨q, vs, rfl, hq, fun hw => ?_, fun hw q2 hq2 => ?_⟩
        · have e : cutV vs lo hi = vs := by unfold cutV; rw [hw.1, hw.2]; simp
          have r' := r.cut lo hi
          rw [e] at r'
          exact p3 (.ref q) H3 as3 .refl (.val (.tup hq r')) hr3
        · have sm := same_upd (o := .tup (cutV vs lo hi)) hq2
          exact p3 (.ref q2) _ as3 (.of_same sm) (.val (.tup (SqT.of upd_same) ((r.cut lo hi).fr (.of_same sm)))) (hr3.same sm)
      | _ => exact p3.elim⟩⟩⟩
end
end DL

set_option Elab.async false
set_option linter.all false
set_option maxRecDepth 100000
set_option maxHeartbeats 4000000
namespace DL
open PySem PySem.Spec PyProof.Rows L2

/-! ### equality of data -/
mutual
def eqv : D → D → Bool
  | .non, .non => true
  | .bl a, .bl b => a == b
  | .bl a, .int j => (if a then 1 else 0) == j
  | .int i, .bl b => i == (if b then 1 else 0)
  | .int i, .int j => i == j
  | .str x, .str y => x == y
  | .lst xs, .lst ys => eqvs xs ys
  | .tup xs, .tup ys => eqvs xs ys
  | _, _ => false
def eqvs : List D → List D → Bool
  | [], [] => true
  | x :: xs, y :: ys => eqv x y && eqvs xs ys
  | _, _ => false
end
mutual
def toPy : D → PyData
  | .bl b => .bool b
  | .int i => .int i
  | .str s => .str s
  | .tup l => .tuple (toPys l)
  | .lst l => .list (toPys l)
  | _ => .none
def toPys : List D → List PyData
  | [] => []
  | d :: l => toPy d :: toPys l
end
/-- plain data of so great a depth -/
def okE : Nat → D → Bool
  | _, .non => true
  | _, .bl _ => true
  | _, .int _ => true
  | _, .str s => PyData.strOk s
  | n + 1, .tup l => l.all (okE n)
  | n + 1, .lst l => l.all (okE n)
  | _, _ => false
section
variable {K : PySem.W.Frag} {H : Hp} {as : List Addr}
theorem depthAll_le {n : Nat} : ∀ {l : List PyData}, (∀ d ∈ l, d.depth ≤ n) → PyData.depthAll l ≤ n
  | [], _ => by simp [PyData.depthAll]
  | d :: l, h => by
    have h1 := h d (by simp)
    have h2 := depthAll_le (l := l) fun e he => h e (by simp [he])
    simp only [PyData.depthAll]
    omega
theorem toPys_mem : ∀ {l : List D} {p : PyData}, p ∈ toPys l → ∃ d ∈ l, p = toPy d
  | [], _, h => by simp [toPys] at h
  | d :: l, p, h => by
    simp only [toPys, List.mem_cons] at h
    rcases h with rfl | h
    · exact ⟨d, by simp, rfl⟩
    · obtain ⟨e, he, q⟩ := toPys_mem h
      exact ⟨e, by simp [he], q⟩
theorem canLayAll_of : ∀ {l : List PyData}, (∀ d ∈ l, d.canLay0 = true) → PyData.canLayAll0 l = true
  | [], _ => by simp [PyData.canLayAll0]
  | d :: l, h => by
    simp only [PyData.canLayAll0, Bool.and_eq_true]
    exact ⟨h d (by simp), canLayAll_of fun e he => h e (by simp [he])⟩
theorem okE_lay : ∀ {n : Nat} {d : D}, okE n d = true → (toPy d).canLay0 = true ∧ (toPy d).depth ≤ n := by
  intro n
  induction n with
  | zero =>
    intro d h
    cases d with
    | non => simp [toPy, PyData.canLay0, PyData.depth]
    | bl b => simp [toPy, PyData.canLay0, PyData.depth]
    | int i => simp [toPy, PyData.canLay0, PyData.depth]
    | str s => exact ⟨by simpa [toPy, PyData.canLay0, okE] using h, by simp [toPy, PyData.depth]⟩
    | _ => simp [okE] at h
  | succ n ih =>
    intro d h
    have key : ∀ l : List D, l.all (okE n) = true → PyData.canLayAll0 (toPys l) = true ∧ PyData.depthAll (toPys l) ≤ n := by
      intro l hl
      refine ⟨canLayAll_of fun p hp => ?_, depthAll_le fun p hp => ?_⟩
      · obtain ⟨d, hd, rfl⟩ := toPys_mem hp
        exact (ih (List.all_eq_true.mp hl d hd)).1
      · obtain ⟨d, hd, rfl⟩ := toPys_mem hp
        exact (ih (List.all_eq_true.mp hl d hd)).2
    cases d with
    | non => simp [toPy, PyData.canLay0, PyData.depth]
    | bl b => simp [toPy, PyData.canLay0, PyData.depth]
    | int i => simp [toPy, PyData.canLay0, PyData.depth]
    | str s => exact ⟨by simpa [toPy, PyData.canLay0, okE] using h, by simp [toPy, PyData.depth]⟩
    | tup l =>
      obtain ⟨k1, k2⟩ := key l (by simpa [okE] using h)
      exact ⟨by simpa [toPy, PyData.canLay0] using k1, by simp only [toPy, PyData.depth]; omega⟩
    | lst l =>
      obtain ⟨k1, k2⟩ := key l (by simpa [okE] using h)
      exact ⟨by simpa [toPy, PyData.canLay0] using k1, by simp only [toPy, PyData.depth]; omega⟩
    | _ => simp [okE] at h
theorem okE_dp : ∀ {n : Nat} {d : D} {v : V}, okE n d = true → RV K H as d v → Dp K H v (toPy d) := by
  intro n
  induction n with
  | zero =>
    intro d v h r
    cases r with
    | non => exact .non
    | bl b => exact .bl b
    | int i => exact .int i
    | str s => exact .str s
    | _ => simp [okE] at h
  | succ n ih =>
    intro d v h r
    have key : ∀ (l : List D) (vs : List V), l.all (okE n) = true → RVs K H as l vs → DpAll K H vs (toPys l) := by
      intro l
      induction l with
      | nil => intro vs _ r; cases r; exact .nil
      | cons d l ihl =>
        intro vs hl r
        cases r with
        | cons r1 r2 =>
          simp only [List.all_cons, Bool.and_eq_true] at hl
          exact .cons (ih hl.1 r1) (ihl _ hl.2 r2)
    cases r with
    | non => exact .non
    | bl b => exact .bl b
    | int i => exact .int i
    | str s => exact .str s
    | tup hs rs => exact .tup hs (key _ _ (by simpa [okE] using h) rs)
    | lst hs n rs => exact .lst (SqL.of hs) (key _ _ (by simpa [okE] using h) rs)
    | _ => simp [okE] at h
theorem okE_rt {n : Nat} {d : D} {v : V} (h : okE n d = true) (r : RT K H as d v) : Dp K H v (toPy d) := by
  cases r with
  | val r => exact okE_dp h r
  | cell r =>
    cases r with
    | lst hs rs =>
      cases n with
      | zero => simp [okE] at h
      | succ n =>
        have key : ∀ (l : List D) (vs : List V), l.all (okE n) = true → RVs K H as l vs → DpAll K H vs (toPys l) := by
          intro l
          induction l with
          | nil => intro vs _ r; cases r; exact .nil
          | cons d l ihl =>
            intro vs hl r
            cases r with
            | cons r1 r2 =>
              simp only [List.all_cons, Bool.and_eq_true] at hl
              exact .cons (okE_dp hl.1 r1) (ihl _ hl.2 r2)
        exact .lst (SqL.of hs) (key _ _ (by simpa [okE] using h) rs)
    | dct _ _ _ => cases n <;> simp [okE] at h
theorem eqv_py : ∀ {n : Nat} {d e : D}, okE n d = true → ∀ {m : Nat}, okE m e = true → eqv d e = PyData.eqv (toPy d) (toPy e) := by
  intro n
  induction n with
  | zero =>
    intro d e h m h2
    cases d <;> first | (simp [okE] at h; done) | (cases e <;> first | (cases m <;> simp [okE] at h2; done) | simp [eqv, toPy, PyData.eqv])
  | succ n ih =>
    intro d e h m h2
    have key : ∀ (l k : List D), l.all (okE n) = true → ∀ m, k.all (okE m) = true → eqvs l k = PyData.eqvAll (toPys l) (toPys k) := by
      intro l
      induction l with
      | nil => intro k _ m hk; cases k <;> simp [eqvs, toPys, PyData.eqvAll]
      | cons d l ihl =>
        intro k hl m hk
        cases k with
        | nil => simp [eqvs, toPys, PyData.eqvAll]
        | cons e k =>
          simp only [List.all_cons, Bool.and_eq_true] at hl hk
          simp only [eqvs, toPys, PyData.eqvAll]
          rw [ih hl.1 hk.1, ihl k hl.2 m hk.2]
    cases d with
    | tup l =>
      cases e with
      | tup k =>
        cases m with
        | zero => simp [okE] at h2
        | succ m => simp only [eqv, toPy, PyData.eqv]; exact key l k (by simpa [okE] using h) m (by simpa [okE] using h2)
      | _ => first | (cases m <;> simp [okE] at h2; done) | simp [eqv, toPy, PyData.eqv]
    | lst l =>
      cases e with
      | lst k =>
        cases m with
        | zero => simp [okE] at h2
        | succ m => simp only [eqv, toPy, PyData.eqv]; exact key l k (by simpa [okE] using h) m (by simpa [okE] using h2)
      | _ => first | (cases m <;> simp [okE] at h2; done) | simp [eqv, toPy, PyData.eqv]
    | _ => first | (simp [okE] at h; done) | (cases e <;> first | (cases m <;> simp [okE] at h2; done) | simp [eqv, toPy, PyData.eqv])
end
def eqD (x y : D) : Option D := if okE 60 x = true ∧ okE 60 y = true then some (.bl (eqv x y)) else none
def neD (x y : D) : Option D := if okE 60 x = true ∧ okE 60 y = true then some (.bl (!eqv x y)) else none
def rEqG (K : PySem.W.Frag) (neg : Bool) : R2 := fun x y H Q => ∃ d e, Dp K H x d ∧ Dp K H y e ∧ d.canLay0 = true ∧ e.canLay0 = true ∧ d.depth ≤ 60 ∧ Q (.bl (if neg then !PyData.eqv d e else PyData.eqv d e)) H
section
variable {X : Cx}
theorem op_eqG (hu : X.A.units + 64 < cLine) : OpR X (compareOp .Eq) (rEqG X.K false) := by
  intro pins s σ H x y v u Q I rx ry h
  obtain ⟨d, e, hd, he, sd, se, dd, q⟩ := h
  obtain ⟨as, r1⟩ := Dp.reads I d x v hd rx
  obtain ⟨bs, r2⟩ := Dp.reads I e y u he ry
  have z : min d.depth e.depth ≤ d.depth := Nat.min_le_left _ _
  exact SeqAt.compareEq_reads r1 r2 sd se (by omega) ⟨.bl _, H, I, rfl, q⟩
theorem op_neG (hu : X.A.units + 64 < cLine) : OpR X (compareOp .NotEq) (rEqG X.K true) := by
  intro pins s σ H x y v u Q I rx ry h
  obtain ⟨d, e, hd, he, sd, se, dd, q⟩ := h
  obtain ⟨as, r1⟩ := Dp.reads I d x v hd rx
  obtain ⟨bs, r2⟩ := Dp.reads I e y u he ry
  have z : min d.depth e.depth ≤ d.depth := Nat.min_le_left _ _
  exact SeqAt.compareNe_reads r1 r2 sd se (by omega) ⟨.bl _, H, I, rfl, q⟩
theorem eq_s : OpS X.K eqD (rEqG X.K false) := by
  intro as H x y z v u Q n e r1 r2 k
  unfold eqD at e
  by_cases hc : okE 60 x = true ∧ okE 60 y = true
  · rw [if_pos hc] at e; cases e
    refine ⟨_, _, okE_rt hc.1 r1, okE_rt hc.2 r2, (okE_lay hc.1).1, (okE_lay hc.2).1, (okE_lay hc.1).2, ?_⟩
    rw [← eqv_py hc.1 hc.2]
    exact k _ H (Same.refl H) (.bl _)
  · rw [if_neg hc] at e; cases e
theorem ne_s : OpS X.K neD (rEqG X.K true) := by
  intro as H x y z v u Q n e r1 r2 k
  unfold neD at e
  by_cases hc : okE 60 x = true ∧ okE 60 y = true
  · rw [if_pos hc] at e; cases e
    refine ⟨_, _, okE_rt hc.1 r1, okE_rt hc.2 r2, (okE_lay hc.1).1, (okE_lay hc.2).1, (okE_lay hc.1).2, ?_⟩
    rw [← eqv_py hc.1 hc.2]
    exact k _ H (Same.refl H) (.bl _)
  · rw [if_neg hc] at e; cases e
/-! ### in -/
def rInG (K : PySem.W.Frag) (neg : Bool) : R2 := fun x y H Q => (∃ d ds, Dp K H x d ∧ (Dp K H y (.list ds) ∨ Dp K H y (.tuple ds)) ∧ d.canLay0 = true ∧ PyData.canLayAll0 ds = true ∧ d.depth ≤ 60 ∧ Q (.bl (if neg then !(ds.any fun z => PyData.eqv z d) else ds.any fun z => PyData.eqv z d)) H) ∨
  ∃ (c : Nat) (z : Str), x = .str ⟨#[c]⟩ ∧ y = .str z ∧ Q (.bl (if neg then !decide (c ∈ z.cps.toList) else decide (c ∈ z.cps.toList))) H
theorem op_inG (hu : X.A.units + 64 < cLine) : OpR X (compareOp .In) (rInG X.K false) := by
  intro pins s σ H x y v u Q I rx ry h
  rcases h with ⟨d, ds, hd, he, sd, se, dd, q⟩ | ⟨c, z, rfl, rfl, q⟩
  · obtain ⟨as, r1⟩ := Dp.reads I d x v hd rx
    have z : min (PyData.depthAll ds) d.depth ≤ d.depth := Nat.min_le_right _ _
    rcases he with he | he
    · obtain ⟨bs, r2⟩ := Dp.reads I _ y u he ry
      exact SeqAt.in_list_reads r2 r1 se sd (by omega) ⟨.bl _, H, I, rfl, q⟩
    · obtain ⟨bs, r2⟩ := Dp.reads I _ y u he ry
      exact SeqAt.in_tuple_reads r2 r1 se sd (by omega) ⟨.bl _, H, I, rfl, q⟩
  · exact op_in_sign pins s σ H _ _ v u Q I rx ry ⟨c, z, rfl, rfl, q⟩
theorem op_notInG (hu : X.A.units + 64 < cLine) : OpR X (compareOp .NotIn) (rInG X.K true) := by
  intro pins s σ H x y v u Q I rx ry h
  rcases h with ⟨d, ds, hd, he, sd, se, dd, q⟩ | ⟨c, z, rfl, rfl, q⟩
  · obtain ⟨as, r1⟩ := Dp.reads I d x v hd rx
    have z : min (PyData.depthAll ds) d.depth ≤ d.depth := Nat.min_le_right _ _
    rcases he with he | he
    · obtain ⟨bs, r2⟩ := Dp.reads I _ y u he ry
      exact SeqAt.notIn_list_reads r2 r1 se sd (by omega) ⟨.bl _, H, I, rfl, q⟩
    · obtain ⟨bs, r2⟩ := Dp.reads I _ y u he ry
      exact SeqAt.notIn_tuple_reads r2 r1 se sd (by omega) ⟨.bl _, H, I, rfl, q⟩
  · exact op_notIn_sign pins s σ H _ _ v u Q I rx ry ⟨c, z, rfl, rfl, q⟩
def oneS (s : Str) : Option Nat := match s.cps.toList with
  | [c] => some c
  | _ => none
def inB (x y : D) : Option Bool := match y with
  | .lst l => if okE 60 x = true ∧ l.all (okE 60) = true then some (l.any fun z => eqv z x) else none
  | .tup l => if okE 60 x = true ∧ l.all (okE 60) = true then some (l.any fun z => eqv z x) else none
  | .str z => (match x with
    | .str c => (match oneS c with
      | some c => some (decide (c ∈ z.cps.toList))
      | none => none)
    | _ => none)
  | _ => none
def inD (x y : D) : Option D := (inB x y).map .bl
def notInD (x y : D) : Option D := (inB x y).map fun b => .bl (!b)
theorem any_py {x : D} (hx : okE 60 x = true) : ∀ {l : List D}, l.all (okE 60) = true → (toPys l).any (fun z => PyData.eqv z (toPy x)) = l.any fun z => eqv z x
  | [], _ => rfl
  | d :: l, h => by
    simp only [List.all_cons, Bool.and_eq_true] at h
    simp only [toPys, List.any_cons]
    rw [any_py hx h.2, eqv_py h.1 hx]
theorem oneS_ok {s : Str} {c : Nat} (h : oneS s = some c) : s = ⟨#[c]⟩ := by
  unfold oneS at h
  split at h
  · rename_i e
    cases h
    obtain ⟨a⟩ := s
    have : a = #[c] := by
      have := congrArg List.toArray e
      simpa using this
    rw [this]
  · cases h
theorem in_core {as : List Addr} {H : Hp} {x y : D} {v u : V} {Q : VK} {b : Bool} (neg : Bool) (e : inB x y = some b) (r1 : RT X.K H as x v) (r2 : RT X.K H as y u) (q : Q (.bl (if neg then !b else b)) H) : rInG X.K neg v u H Q := by
  cases y with
  | lst l =>
    by_cases hc : okE 60 x = true ∧ l.all (okE 60) = true
    · rw [inB, if_pos hc] at e; cases e
      refine .inl ⟨_, _, okE_rt hc.1 r1, .inl (by have := okE_rt (n := 61) (d := .lst l) (by simpa [okE] using hc.2) r2; simpa [toPy] using this), (okE_lay hc.1).1, canLayAll_of fun p hp => ?_, (okE_lay hc.1).2, ?_⟩
      · obtain ⟨d, hd, rfl⟩ := toPys_mem hp
        exact (okE_lay (List.all_eq_true.mp hc.2 d hd)).1
      · rw [any_py hc.1 hc.2]; exact q
    · rw [inB, if_neg hc] at e; cases e
  | tup l =>
    by_cases hc : okE 60 x = true ∧ l.all (okE 60) = true
    · rw [inB, if_pos hc] at e; cases e
      refine .inl ⟨_, _, okE_rt hc.1 r1, .inr (by have := okE_rt (n := 61) (d := .tup l) (by simpa [okE] using hc.2) r2; simpa [toPy] using this), (okE_lay hc.1).1, canLayAll_of fun p hp => ?_, (okE_lay hc.1).2, ?_⟩
      · obtain ⟨d, hd, rfl⟩ := toPys_mem hp
        exact (okE_lay (List.all_eq_true.mp hc.2 d hd)).1
      · rw [any_py hc.1 hc.2]; exact q
    · rw [inB, if_neg hc] at e; cases e
  | str z =>
    cases x with
    | str c =>
      cases e2 : oneS c with
      | none => simp [inB, e2] at e
      | some c' =>
        simp [inB, e2] at e
        subst e
        cases r1.str
        cases r2.str
        exact .inr ⟨c', z, by rw [oneS_ok e2], rfl, by simpa using q⟩
    | _ => cases e
  | _ => cases e
theorem in_s : OpS X.K inD (rInG X.K false) := by
  intro as H x y z v u Q n e r1 r2 k
  unfold inD at e
  cases e2 : inB x y with
  | none => rw [e2] at e; cases e
  | some b =>
    rw [e2] at e; cases e
    exact in_core false e2 r1 r2 (k _ H (Same.refl H) (.bl _))
theorem notIn_s : OpS X.K notInD (rInG X.K true) := by
  intro as H x y z v u Q n e r1 r2 k
  unfold notInD at e
  cases e2 : inB x y with
  | none => rw [e2] at e; cases e
  | some b =>
    rw [e2] at e; cases e
    exact in_core true e2 r1 r2 (k _ H (Same.refl H) (.bl _))
/-! ### is None -/
def isNon : D → Bool
  | .non => true
  | _ => false
def isND (x y : D) : Option D := match y with
  | .non => some (.bl (isNon x))
  | _ => none
def notND (x y : D) : Option D := match y with
  | .non => some (.bl (!isNon x))
  | _ => none
theorem RT.isnon {K : PySem.W.Frag} {H : Hp} {as : List Addr} {d : D} {v : V} (r : RT K H as d v) : isNon d = decide (v = .non) := by
  cases r with
  | val r => cases r <;> simp [isNon]
  | cell r => cases r <;> simp [isNon]
theorem is_s : OpS X.K isND (fun x y H Q => y = .non ∧ Q (.bl (decide (x = .non))) H) := by
  intro as H x y z v u Q n e r1 r2 k
  cases y with
  | non =>
    cases e
    exact ⟨r2.non, by rw [← r1.isnon]; exact k _ H (Same.refl H) (.bl _)⟩
  | _ => cases e
theorem isnot_s : OpS X.K notND (fun x y H Q => y = .non ∧ Q (.bl (!decide (x = .non))) H) := by
  intro as H x y z v u Q n e r1 r2 k
  cases y with
  | non =>
    cases e
    exact ⟨r2.non, by rw [← r1.isnon]; exact k _ H (Same.refl H) (.bl _)⟩
  | _ => cases e
end
end DL

set_option Elab.async false
set_option linter.all false
set_option maxRecDepth 100000
set_option maxHeartbeats 4000000
namespace DL
open PySem PySem.Spec PyProof.Rows L2

/-! ### numbers -/
def addD : D → D → Option D
  | .int i, .int j => some (.int (i + j))
  | .str a, .str b => if a.length + b.length ≤ 16777216 then some (.str (a ++ b)) else none
  | .lst a, .lst b => if a.length + b.length ≤ 16777216 then some (.lst (a ++ b)) else none
  | .tup a, .tup b => if a.length + b.length ≤ 16777216 then some (.tup (a ++ b)) else none
  | _, _ => none
def subD : D → D → Option D
  | .int i, .int j => some (.int (i - j))
  | _, _ => none
def mulD : D → D → Option D
  | .int i, .int j => if i.natAbs.log2 + j.natAbs.log2 < 1000000 then some (.int (i * j)) else none
  | .lst l, .int k => if 0 ≤ k ∧ k ≤ 1000000 ∧ l.length * k.toNat ≤ 16777216 then some (.lst (List.replicate k.toNat l).flatten) else none
  | .tup l, .int k => if l.isEmpty = false ∧ 2 ≤ k ∧ k ≤ 1000 ∧ l.length ≤ 1000 then some (.tup (List.replicate k.toNat l).flatten) else none
  | _, _ => none
def fdivD : D → D → Option D
  | .int i, .int j => if 0 < j ∧ j.natAbs.log2 < 9000 then some (.int (i / j)) else none
  | _, _ => none
def modD : D → D → Option D
  | .int i, .int j => if 0 < j then some (.int (i % j)) else none
  | _, _ => none
def powD : D → D → Option D
  | .int i, .int j => if 0 ≤ j ∧ (Builtin.Int.intBits i : Int) * j ≤ 2 ^ 27 then some (.int (i ^ j.toNat)) else none
  | _, _ => none
section
variable {X : Cx}
abbrev rAddAll (K : PySem.W.Frag) : R2 := fun x y H Q => (∃ i j, x = .int i ∧ y = .int j ∧ Q (.int (i + j)) H) ∨ (∃ i j, x = .str i ∧ y = .str j ∧ i.length + j.length ≤ sizeLine ∧ Q (.str (i ++ j)) H) ∨ rCat x y H Q ∨ rCatA K x y H Q
theorem op_addAll : OpR X (binaryOp .Add) (rAddAll X.K) := op_add.or (op_add_str.or (op_cat.or op_catA))
theorem add_s : OpS X.K addD (rAddAll X.K) := by
  intro as H x y z v u Q n e r1 r2 k
  cases x with
  | int i =>
    cases y with
    | int j => cases e; cases r1.int; cases r2.int; exact .inl ⟨i, j, rfl, rfl, k _ H (Same.refl H) (.int _)⟩
    | _ => cases e
  | str a =>
    cases y with
    | str b =>
      by_cases hc : a.length + b.length ≤ 16777216
      · rw [addD, if_pos hc] at e; cases e; cases r1.str; cases r2.str
        exact .inr (.inl ⟨a, b, rfl, rfl, by rw [sizeLine_eq]; exact hc, k _ H (Same.refl H) (.str _)⟩)
      · rw [addD, if_neg hc] at e; cases e
    | _ => cases e
  | lst a =>
    cases y with
    | lst b =>
      by_cases hc : a.length + b.length ≤ 16777216
      · rw [addD, if_pos hc] at e; cases e
        obtain ⟨p, vs, rfl, rr, hp⟩ := r1.lst
        obtain ⟨q, us, rfl, ss, hq⟩ := r2.lst
        refine .inr (.inr (.inl ⟨p, q, vs, us, rfl, rfl, hp, hq, by rw [sizeLine_eq, ← rr.length, ← ss.length]; exact hc, fun p hp => ?_⟩))
        have sm := same_upd (o := .lst (vs ++ us)) hp
        exact k _ _ sm (.lst upd_same (n p hp) ((rr.append ss).fr (.of_same sm)))
      · rw [addD, if_neg hc] at e; cases e
    | _ => cases e
  | tup a =>
    cases y with
    | tup b =>
      by_cases hc : a.length + b.length ≤ 16777216
      · rw [addD, if_pos hc] at e; cases e
        obtain ⟨p, vs, rfl, rr, hp⟩ := r1.tup
        obtain ⟨q, us, rfl, ss, hq⟩ := r2.tup
        refine .inr (.inr (.inr ⟨p, q, vs, us, rfl, rfl, hp, hq, by rw [sizeLine_eq, ← rr.length, ← ss.length]; exact hc, fun e => ?_, fun e1 e => ?_, fun e1 e2 p hp => ?_⟩))
        · subst e
          have := rr.append ss
          exact k _ H (Same.refl H) (.tup hq this)
        · subst e
          have := rr.append ss
          rw [List.append_nil] at this
          exact k _ H (Same.refl H) (.tup hp this)
        · have sm := same_upd (o := .tup (vs ++ us)) hp
          exact k _ _ sm (.tup (SqT.of upd_same) ((rr.append ss).fr (.of_same sm)))
      · rw [addD, if_neg hc] at e; cases e
    | _ => cases e
  | _ => cases e
theorem sub_s : OpS X.K subD (rI0 fun i j => .int (i - j)) := by
  intro as H x y z v u Q n e r1 r2 k
  cases x with
  | int i =>
    cases y with
    | int j => cases e; cases r1.int; cases r2.int; exact ⟨i, j, rfl, rfl, k _ H (Same.refl H) (.int _)⟩
    | _ => cases e
  | _ => cases e
abbrev rMulAll (K : PySem.W.Frag) : R2 := fun x y H Q => (rI CMulW fun i j => .int (i * j)) x y H Q ∨ rRep x y H Q ∨ rRepT K x y H Q
theorem op_mulAll : OpR X (binaryOp .Mult) (rMulAll X.K) := op_mulW.or (op_rep.or op_repT)
theorem RVs.rep {K : PySem.W.Frag} {H : Hp} {as : List Addr} {ds : List D} {vs : List V} (r : RVs K H as ds vs) : ∀ k : Nat, RVs K H as (List.replicate k ds).flatten (List.replicate k vs).flatten
  | 0 => .nil
  | k + 1 => by
    rw [List.replicate_succ, List.replicate_succ, List.flatten_cons, List.flatten_cons]
    exact r.append (RVs.rep r k)
theorem mul_s : OpS X.K mulD (rMulAll X.K) := by
  intro as H x y z v u Q n e r1 r2 k
  cases x with
  | int i =>
    cases y with
    | int j =>
      by_cases hc : i.natAbs.log2 + j.natAbs.log2 < 1000000
      · rw [mulD, if_pos hc] at e; cases e; cases r1.int; cases r2.int
        exact .inl ⟨i, j, rfl, rfl, hc, k _ H (Same.refl H) (.int _)⟩
      · rw [mulD, if_neg hc] at e; cases e
    | _ => cases e
  | lst l =>
    cases y with
    | int j =>
      by_cases hc : 0 ≤ j ∧ j ≤ 1000000 ∧ l.length * j.toNat ≤ 16777216
      · rw [mulD, if_pos hc] at e; cases e; cases r2.int
        obtain ⟨p, vs, rfl, rr, hp⟩ := r1.lst
        refine .inr (.inl ⟨p, j, vs, rfl, rfl, hp, by omega, by omega, by rw [sizeLine_eq, ← rr.length]; exact hc.2.2, fun q hq => ?_⟩)
        have sm := same_upd (o := .lst (List.replicate j.toNat vs).flatten) hq
        exact k _ _ sm (.lst upd_same (n q hq) ((rr.rep _).fr (.of_same sm)))
      · rw [mulD, if_neg hc] at e; cases e
    | _ => cases e
  | tup l =>
    cases y with
    | int j =>
      by_cases hc : l.isEmpty = false ∧ 2 ≤ j ∧ j ≤ 1000 ∧ l.length ≤ 1000
      · rw [mulD, if_pos hc] at e; cases e; cases r2.int
        obtain ⟨p, vs, rfl, rr, hp⟩ := r1.tup
        refine .inr (.inr ⟨p, j, vs, rfl, rfl, hp, fun z => ?_, hc.2.1, hc.2.2.1, by rw [← rr.length]; exact hc.2.2.2, fun q hq => ?_⟩)
        · subst z; cases rr; simp at hc
        · have sm := same_upd (o := .tup (List.replicate j.toNat vs).flatten) hq
          exact k _ _ sm (.tup (SqT.of upd_same) ((rr.rep _).fr (.of_same sm)))
      · rw [mulD, if_neg hc] at e; cases e
    | _ => cases e
  | _ => cases e
theorem fdiv_s : OpS X.K fdivD (rI CDivW fun i j => .int (i / j)) := by
  intro as H x y z v u Q n e r1 r2 k
  cases x with
  | int i =>
    cases y with
    | int j =>
      by_cases hc : 0 < j ∧ j.natAbs.log2 < 9000
      · rw [fdivD, if_pos hc] at e; cases e; cases r1.int; cases r2.int
        exact ⟨i, j, rfl, rfl, hc, k _ H (Same.refl H) (.int _)⟩
      · rw [fdivD, if_neg hc] at e; cases e
    | _ => cases e
  | _ => cases e
theorem mod_s : OpS X.K modD (rI (fun _ j => 0 < j) fun i j => .int (i % j)) := by
  intro as H x y z v u Q n e r1 r2 k
  cases x with
  | int i =>
    cases y with
    | int j =>
      by_cases hc : 0 < j
      · rw [modD, if_pos hc] at e; cases e; cases r1.int; cases r2.int
        exact ⟨i, j, rfl, rfl, hc, k _ H (Same.refl H) (.int _)⟩
      · rw [modD, if_neg hc] at e; cases e
    | _ => cases e
  | _ => cases e
theorem op_powB : OpR X (binaryOp .Pow) (rI (fun i j => 0 ≤ j ∧ (Builtin.Int.intBits i : Int) * j ≤ 2 ^ 27) fun i j => .int (i ^ j.toNat)) := opI fun _ _ _ _ _ _ _ hc q => pow_int hc.1 hc.2 q
theorem pow_s : OpS X.K powD (rI (fun i j => 0 ≤ j ∧ (Builtin.Int.intBits i : Int) * j ≤ 2 ^ 27) fun i j => .int (i ^ j.toNat)) := by
  intro as H x y z v u Q n e r1 r2 k
  cases x with
  | int i =>
    cases y with
    | int j =>
      by_cases hc : 0 ≤ j ∧ (Builtin.Int.intBits i : Int) * j ≤ 2 ^ 27
      · rw [powD, if_pos hc] at e; cases e; cases r1.int; cases r2.int
        exact ⟨i, j, rfl, rfl, hc, k _ H (Same.refl H) (.int _)⟩
      · rw [powD, if_neg hc] at e; cases e
    | _ => cases e
  | _ => cases e
end
/-! ### comparisons of order -/
def cmpI (p : Int → Int → Bool) : D → D → Option D
  | .int i, .int j => some (.bl (p i j))
  | _, _ => none
/-- tuples of ints -/
def intsD : List D → Option (List Int)
  | [] => some []
  | .int i :: r => (intsD r).map (i :: ·)
  | _ :: _ => none
def ltD : D → D → Option D
  | .int i, .int j => some (.bl (decide (i < j)))
  | .tup a, .tup b => (match intsD a, intsD b with
    | some x, some y => some (.bl (HT.lexLt x y))
    | _, _ => none)
  | .str a, .str b => some (.bl (decide (a.cps.toList < b.cps.toList)))
  | _, _ => none
def leD : D → D → Option D := cmpI fun i j => decide (i ≤ j)
def gtD : D → D → Option D := cmpI fun i j => decide (j < i)
def geD : D → D → Option D := cmpI fun i j => decide (j ≤ i)
theorem intsD_ok {K : PySem.W.Frag} {H : Hp} {as : List Addr} : ∀ {ds : List D} {vs : List V} {ns : List Int}, intsD ds = some ns → RVs K H as ds vs → vs = ns.map V.int
  | [], _, _, e, r => by cases e; cases r; rfl
  | d :: ds, _, ns, e, r => by
    cases d with
    | int i =>
      cases e2 : intsD ds with
      | none => simp [intsD, e2] at e
      | some ms =>
        simp [intsD, e2] at e
        subst e
        cases r with
        | cons r1 r2 =>
          cases r1
          rw [intsD_ok e2 r2]; rfl
    | _ => cases e
section
variable {X : Cx}
theorem cmpI_s {p : Int → Int → Bool} : OpS X.K (cmpI p) (rI0 fun i j => .bl (p i j)) := by
  intro as H x y z v u Q n e r1 r2 k
  cases x with
  | int i =>
    cases y with
    | int j => cases e; cases r1.int; cases r2.int; exact ⟨i, j, rfl, rfl, k _ H (Same.refl H) (.bl _)⟩
    | _ => cases e
  | _ => cases e
abbrev rLtAll (K : PySem.W.Frag) : R2 := fun x y H Q => (rI0 fun i j => .bl (decide (i < j))) x y H Q ∨ rLtT K x y H Q ∨ ∃ i j, x = .str i ∧ y = .str j ∧ Q (.bl (decide (i.cps.toList < j.cps.toList))) H
theorem op_ltAll (hu : X.A.units < cLine) : OpR X (compareOp .Lt) (rLtAll X.K) := op_lt.or ((op_ltT hu).or op_lt_str)
theorem lt_s : OpS X.K ltD (rLtAll X.K) := by
  intro as H x y z v u Q n e r1 r2 k
  cases x with
  | int i =>
    cases y with
    | int j => cases e; cases r1.int; cases r2.int; exact .inl ⟨i, j, rfl, rfl, k _ H (Same.refl H) (.bl _)⟩
    | _ => cases e
  | tup a =>
    cases y with
    | tup b =>
      cases e1 : intsD a with
      | none => simp [ltD, e1] at e
      | some ns =>
        cases e2 : intsD b with
        | none => simp [ltD, e1, e2] at e
        | some ms =>
          simp [ltD, e1, e2] at e
          subst e
          obtain ⟨p, vs, rfl, rr, hp⟩ := r1.tup
          obtain ⟨q, us, rfl, ss, hq⟩ := r2.tup
          cases intsD_ok e1 rr
          cases intsD_ok e2 ss
          exact .inr (.inl ⟨p, q, ns, ms, rfl, rfl, hp, hq, k _ H (Same.refl H) (.bl _)⟩)
    | _ => cases e
  | str a =>
    cases y with
    | str b => cases e; cases r1.str; cases r2.str; exact .inr (.inr ⟨a, b, rfl, rfl, k _ H (Same.refl H) (.bl _)⟩)
    | _ => cases e
  | _ => cases e
end
/-! ### one operand -/
def UnS (K : PySem.W.Frag) (f : D → Option D) (r : V → Hp → VK → Prop) : Prop := ∀ (as : List Addr) (H : Hp) (x z : D) (v : V) (Q : VK), (∀ p, H p = none → p ∉ as) → f x = some z → RT K H as x v →
  (∀ w H', Same H H' → RV K H' as z w → Q w H') → r v H Q
def mUn (f : D → Option D) (ma : M D) : M D := fun ds h => (ma ds h).bind fun x h1 => match f (rd h1 x) with
  | some z => .ok z h1
  | none => .no
def negD : D → Option D
  | .int i => some (.int (-i))
  | _ => none
section
variable {X : Cx} {W : WX} {pos : Pos} {a b c e : Expr} {ma mb mc : M D}
theorem de_un {op : UnaryOp} {f : D → Option D} {r : V → Hp → VK → Prop} (ho : UnR X (unaryOp op) r) (hs : UnS X.K f r) (ha : DE X W a ma) : DE X W (.UnaryOp op a pos) (mUn f ma) :=
  PE.imp (pe_un ho ha) fun σ H Q ⟨as, ds, h, s, p⟩ => ⟨as, ds, h, s, PostE.bindE p fun x h1 v H1 as1 f1 r1 hr1 p1 => by
    cases e : f (rd h1 x) with
    | none => rw [e] at p1; exact p1.elim
    | some z =>
      rw [e] at p1
      exact hs as1 H1 _ z v Q (fun p hp => hr1.notin hp) e (r1.rt hr1) fun w H' sm rw => p1 w H' as1 (.of_same sm) (.val rw) (hr1.same sm)⟩
theorem neg_s : UnS X.K negD (rU fun i => .int (-i)) := by
  intro as H x z v Q n e r k
  cases x with
  | int i => cases e; cases r.int; exact ⟨i, rfl, k _ H (Same.refl H) (.int _)⟩
  | _ => cases e
theorem de_neg (ha : DE X W a ma) : DE X W (.UnaryOp .USub a pos) (mUn negD ma) := de_un un_neg neg_s ha
theorem de_add (ha : DE X W a ma) (hb : DE X W b mb) : DE X W (.BinOp a .Add b pos) (mBin addD ma mb) := de_bin op_addAll add_s ha hb
theorem de_sub (ha : DE X W a ma) (hb : DE X W b mb) : DE X W (.BinOp a .Sub b pos) (mBin subD ma mb) := de_bin op_sub sub_s ha hb
theorem de_mul (ha : DE X W a ma) (hb : DE X W b mb) : DE X W (.BinOp a .Mult b pos) (mBin mulD ma mb) := de_bin op_mulAll mul_s ha hb
theorem de_fdiv (ha : DE X W a ma) (hb : DE X W b mb) : DE X W (.BinOp a .FloorDiv b pos) (mBin fdivD ma mb) := de_bin op_fdivW fdiv_s ha hb
theorem de_mod (ha : DE X W a ma) (hb : DE X W b mb) : DE X W (.BinOp a .Mod b pos) (mBin modD ma mb) := de_bin op_mod mod_s ha hb
theorem de_pow (ha : DE X W a ma) (hb : DE X W b mb) : DE X W (.BinOp a .Pow b pos) (mBin powD ma mb) := de_bin op_powB pow_s ha hb
/-! comparisons by their operator: the rule for a value and for a test -/
structure CmpK (X : Cx) (op : CmpOp) (f : D → D → Option D) : Prop where
  ex : ∃ r, OpR X (compareOp op) r ∧ OpS X.K f r
theorem ck_lt {k : Nat} (hr : Room k X.A) : CmpK X .Lt ltD := ⟨_, op_ltAll hr.units0, lt_s⟩
theorem ck_le : CmpK X .LtE leD := ⟨_, op_le, cmpI_s⟩
theorem ck_gt : CmpK X .Gt gtD := ⟨_, op_gt, cmpI_s⟩
theorem ck_ge : CmpK X .GtE geD := ⟨_, op_ge, cmpI_s⟩
theorem ck_eq {k : Nat} (hr : Room k X.A) : CmpK X .Eq eqD := ⟨_, op_eqG hr.units, eq_s⟩
theorem ck_ne {k : Nat} (hr : Room k X.A) : CmpK X .NotEq neD := ⟨_, op_neG hr.units, ne_s⟩
theorem ck_in {k : Nat} (hr : Room k X.A) : CmpK X .In inD := ⟨_, op_inG hr.units, in_s⟩
theorem ck_notIn {k : Nat} (hr : Room k X.A) : CmpK X .NotIn notInD := ⟨_, op_notInG hr.units, notIn_s⟩
theorem ck_is : CmpK X .Is isND := ⟨_, op_isN, is_s⟩
theorem ck_isNot : CmpK X .IsNot notND := ⟨_, op_notN, isnot_s⟩
theorem de_cm {op : CmpOp} {f : D → D → Option D} (c : CmpK X op f) (ha : DE X W a ma) (hb : DE X W b mb) (hm : behindInMarks op b = false := by first | rfl | exact nomark _ (by decide) (by decide)) : DE X W (.Compare a [op] [b] pos) (mBin f ma mb) := by
  obtain ⟨r, h1, h2⟩ := c.ex
  exact de_cmp h1 h2 hm ha hb
theorem dt_cm {op : CmpOp} {f : D → D → Option D} (c : CmpK X op f) (ha : DE X W a ma) (hb : DE X W b mb) (hm : behindInMarks op b = false := by first | rfl | exact nomark _ (by decide) (by decide)) : DT X W (.Compare a [op] [b] pos) (mTB (mBin f ma mb)) := by
  obtain ⟨r, h1, h2⟩ := c.ex
  exact dt_cmp h1 h2 hm ha hb
/-- a < b < c -/
def mChain (f g : D → D → Option D) (ma mb mc : M D) : M D := fun ds h => (ma ds h).bind fun x h1 => (mb ds h1).bind fun y h2 => match (f (rd h2 x) (rd h2 y)).bind isBl with
  | some true => (mc ds h2).bind fun z h3 => (match (g (rd h3 y) (rd h3 z)).bind isBl with
    | some k => .ok (.bl k) h3
    | none => .no)
  | some false => .ok (.bl false) h2
  | none => .no
theorem isBl_eq {d : D} {b : Bool} (h : isBl d = some b) : d = .bl b := by
  cases d <;> cases h; rfl
end
end DL

set_option Elab.async false
set_option linter.all false
set_option maxRecDepth 100000
set_option maxHeartbeats 4000000
namespace DL
open PySem PySem.Spec PyProof.Rows L2

/-! ### a < b < c -/
section
variable {X : Cx} {W : WX} {pos : Pos} {a b c e : Expr} {es : List Expr} {ma mb mc : M D} {me : M (List D)}
theorem chain_core {f g : D → D → Option D} {r r' : R2} (hs : OpS X.K f r) (hs' : OpS X.K g r') {σ : L2.St} {H : Hp} {Q : VK} (q : teM X.K X.mg W (mChain f g ma mb mc) σ H Q) : tChain r r' (teM X.K X.mg W ma) (teM X.K X.mg W mb) (teM X.K X.mg W mc) σ H Q := by
  obtain ⟨as, ds, h, s, p⟩ := q
  refine ⟨as, ds, h, s, PostE.bindE p fun x h1 v H1 as1 f1 r1 hr1 p1 => ?_⟩
  refine ⟨as1, ds, h1, ⟨s.env.grow f1, hr1⟩, PostE.bindE p1 fun y h2 u H2 as2 f2 r2 hr2 p2 => ?_⟩
  cases e : f (rd h2 x) (rd h2 y) with
  | none => simp only [e, Option.bind_none] at p2; exact p2.elim
  | some z =>
    cases ez : isBl z with
    | none => simp only [e, Option.bind_some, ez] at p2; exact p2.elim
    | some k =>
      have ez' := isBl_eq ez
      subst ez'
      refine hs as2 H2 _ _ _ v u _ (fun p hp => hr2.notin hp) e ((r1.grow f2).rt hr2) (r2.rt hr2) fun w H3 sm rw => ?_
      cases rw
      refine ⟨k, rfl, ?_⟩
      cases k with
      | false =>
        simp only [e, Option.bind_some, ez] at p2
        exact p2 (.bl false) H3 as2 (.of_same sm) (.val (.bl _)) (hr2.same sm)
      | true =>
        simp only [e, Option.bind_some, ez] at p2
        have gs : Grow as2 H2 as2 H3 := .of_same sm
        refine ⟨as2, ds, h2, ⟨s.env.grow (f1.trans (f2.trans gs)), hr2.same sm⟩, PostE.bindE (PostE.grow gs p2) fun z3 h3 w3 H4 as4 f4 r4 hr4 p4 => ?_⟩
        cases e4 : g (rd h3 y) (rd h3 z3) with
        | none => simp only [e4, Option.bind_none] at p4; exact p4.elim
        | some z4 =>
          cases ez4 : isBl z4 with
          | none => simp only [e4, Option.bind_some, ez4] at p4; exact p4.elim
          | some k4 =>
            simp only [e4, Option.bind_some, ez4] at p4
            have e5 := isBl_eq ez4
            subst e5
            exact hs' as4 H4 _ _ _ u w3 Q (fun p hp => hr4.notin hp) e4 ((r2.grow (gs.trans f4)).rt hr4) (r4.rt hr4) fun w H' sm rw => p4 w H' as4 (.of_same sm) (.val rw) (hr4.same sm)
theorem de_chain {op op' : CmpOp} {f g : D → D → Option D} (k : CmpK X op f) (k' : CmpK X op' g) (ha : DE X W a ma) (hb : DE X W b mb) (hc : DE X W c mc) (hm : lastMarks [op, op'] [b, c] = false := by with_unfolding_all rfl) :
    DE X W (.Compare a [op, op'] [b, c] pos) (mChain f g ma mb mc) := by
  obtain ⟨r, h1, h2⟩ := k.ex
  obtain ⟨r', h1', h2'⟩ := k'.ex
  exact PE.imp (pe_chain h1 h1' ha hb hc hm) fun σ H Q q => chain_core h2 h2' q
theorem dt_chain {op op' : CmpOp} {f g : D → D → Option D} (k : CmpK X op f) (k' : CmpK X op' g) (ha : DE X W a ma) (hb : DE X W b mb) (hc : DE X W c mc) (hm : lastMarks [op, op'] [b, c] = false := by with_unfolding_all rfl) :
    DT X W (.Compare a [op, op'] [b, c] pos) (mTB (mChain f g ma mb mc)) := by
  obtain ⟨r, h1, h2⟩ := k.ex
  obtain ⟨r', h1', h2'⟩ := k'.ex
  refine PT.imp (pt_chain h1 h1' ha hb hc hm) fun σ H Q ⟨as, ds, h, s, p⟩ => ?_
  refine chain_core (W := W) h2 h2' ⟨as, ds, h, s, PostT.bindE p fun x h1 v H1 as1 f1 r1 hr1 p1 => ?_⟩
  cases e : isBl x with
  | none => rw [e] at p1; exact p1.elim
  | some k =>
    rw [e] at p1
    exact ⟨k, isBl_ok e r1, p1 H1 as1 .refl hr1⟩
/-! ### a list that is changed later: a cell -/
def mNew (ma : M (List D)) : M D := fun ds h => (ma ds h).bind fun xs h1 => if xs.length ≤ 16777216 ∧ xs.any isLoc = false then .ok (.loc h1.length) (h1 ++ [.lst xs]) else .no
theorem get_snoc {α : Type} {l : List α} {x y : α} {n : Nat} (e : (l ++ [x])[n]? = some y) : (n < l.length ∧ l[n]? = some y) ∨ (n = l.length ∧ x = y) := by
  by_cases hn : n < l.length
  · rw [List.getElem?_append_left hn] at e
    exact .inl ⟨hn, e⟩
  · rw [List.getElem?_append_right (by omega)] at e
    by_cases hz : n - l.length = 0
    · rw [hz] at e
      simp at e
      exact .inr ⟨by omega, e⟩
    · rw [List.getElem?_eq_none (by simp; omega)] at e; cases e
theorem CellR.grow {K : PySem.W.Frag} {H H' : Hp} {as as' : List Addr} (g : Grow as H as' H') {d : D} {a : Addr} (hH : H' a = H a) (r : CellR K H as d a) : CellR K H' as' d a := by
  cases r with
  | lst h r => exact .lst (hH.trans h) (r.grow g)
  | dct h e r => exact .dct (hH.trans h) e (r.grow g)
/-- a new cell -/
theorem HeapR.push {K : PySem.W.Frag} {H : Hp} {as : List Addr} {h : Hs} (r : HeapR K H as h) {q : Addr} (hq : H q = none) {vs : List V} {ds : List D} (rv : RVs K H as ds vs) :
    Grow as H (as ++ [q]) (upd H q (.lst vs)) ∧ HeapR K (upd H q (.lst vs)) (as ++ [q]) (h ++ [.lst ds]) := by
  have g : Grow as H (as ++ [q]) (upd H q (.lst vs)) := ⟨List.prefix_append _ _, fun a ha => by
    rcases List.mem_append.mp ha with z | z
    · exact .inl z
    · rw [List.mem_singleton.mp z]; exact .inr hq, .of_same (same_upd hq)⟩
  have nq := r.notin hq
  refine ⟨g, ⟨by simp [r.len], ?_, fun n d a e1 e2 => ?_⟩⟩
  · rw [List.nodup_append]
    exact ⟨r.nd, by simp, fun a ha b hb e => nq (by rw [List.mem_singleton.mp hb] at e; rw [← e]; exact ha)⟩
  · rcases get_snoc e1 with ⟨l1, q1⟩ | ⟨l1, q1⟩
    · rcases get_snoc e2 with ⟨l2, q2⟩ | ⟨l2, q2⟩
      · exact (r.at_ n d a q1 q2).grow g (upd_ne fun z => nq (by rw [← z]; exact List.mem_of_getElem? q2))
      · exact absurd l1 (by rw [l2, r.len]; omega)
    · rcases get_snoc e2 with ⟨l2, q2⟩ | ⟨l2, q2⟩
      · exact absurd l2 (by rw [l1, r.len]; omega)
      · subst q1 q2
        exact .lst upd_same (rv.grow g)
theorem de_new (h : DA X W es me) : DE X W (.List es pos) (mNew me) :=
  PE.imp (pe_lst h) fun σ H Q ⟨as, ds, h, s, p⟩ => ⟨as, ds, h, s, PostE.bindA p fun xs h1 vs H1 as1 f1 r1 hr1 p1 => by
    by_cases hc : xs.length ≤ 16777216 ∧ xs.any isLoc = false
    · rw [if_pos hc] at p1
      refine ⟨by rw [sizeLine_eq, ← r1.length]; exact hc.1, fun q hq => ?_⟩
      obtain ⟨g, hp⟩ := hr1.push hq (r1.rvs hc.2)
      exact p1 (.ref q) _ _ g (.loc (by rw [← hr1.len]; simp)) hp
    · rw [if_neg hc] at p1; exact p1.elim⟩
theorem nodup_at {α : Type} {l : List α} (hN : l.Nodup) {i j : Nat} {x : α} (a : l[i]? = some x) (b : l[j]? = some x) : i = j := by
  obtain ⟨h1, e1⟩ := List.getElem?_eq_some_iff.mp a
  obtain ⟨h2, e2⟩ := List.getElem?_eq_some_iff.mp b
  exact (List.getElem_inj hN).mp (e1.trans e2.symm)
/-- a cell's list is another one now -/
theorem HeapR.write {K : PySem.W.Frag} {H : Hp} {as : List Addr} {h : Hs} (r : HeapR K H as h) {n : Nat} {q : Addr} (e : as[n]? = some q) {vs : List V} {ds : List D} (rv : RVs K H as ds vs) :
    Grow as H as (upd H q (.lst vs)) ∧ HeapR K (upd H q (.lst vs)) as (h.set n (.lst ds)) := by
  have hq : q ∈ as := List.mem_of_getElem? e
  have g : Grow as H as (upd H q (.lst vs)) := .of_fr fun b o hb hc => by
    have nb : b ≠ q := fun z => by
      subst z
      obtain ⟨o', h1, h2⟩ := r.there hq
      rw [hb] at h1; cases h1
      rw [hc hq] at h2; cases h2
    rw [upd_ne nb]; exact hb
  refine ⟨g, ⟨by simp [r.len], r.nd, fun m d a e1 e2 => ?_⟩⟩
  by_cases hm : n = m
  · subst hm
    rw [e] at e2; cases e2
    have hl : n < h.length := by rw [← r.len]; exact (List.getElem?_eq_some_iff.mp e).1
    rw [List.getElem?_set_self hl] at e1
    cases e1
    exact .lst upd_same (rv.grow g)
  · rw [List.getElem?_set_ne hm] at e1
    refine (r.at_ m d a e1 e2).grow g (upd_ne fun z => hm ?_)
    subst z
    exact nodup_at r.nd e e2
/-! ### cells forgotten -/
theorem RV.shrink {K : PySem.W.Frag} {H : Hp} {as as' : List Addr} (h : ∀ a ∈ as, a ∈ as') : ∀ {d : D} {v : V}, RV K H as' d v → RV K H as d v := fun {d v} r => by
  refine RV.rec (motive_1 := fun d v _ => RV K H as d v) (motive_2 := fun ds vs _ => RVs K H as ds vs) .non .bl .int .str .ty (fun a _ r => .tup a r) (fun a n _ r => .lst a (fun z => n (h _ z)) r) (fun a _ r => .frz a r) (fun a n e _ r => .dct a (fun z => n (h _ z)) e r) .nil (fun _ _ r1 r2 => .cons r1 r2) r
theorem RVs.shrink {K : PySem.W.Frag} {H : Hp} {as as' : List Addr} (h : ∀ a ∈ as, a ∈ as') : ∀ {d : List D} {v : List V}, RVs K H as' d v → RVs K H as d v
  | _, _, .nil => .nil
  | _, _, .cons a b => .cons (a.shrink h) (RVs.shrink h b)
theorem HeapR.take {K : PySem.W.Frag} {H : Hp} {as : List Addr} {h : Hs} (r : HeapR K H as h) (n : Nat) : HeapR K H (as.take n) (h.take n) := by
  refine ⟨by simp [r.len], r.nd.sublist (List.take_sublist _ _), fun m d a e1 e2 => ?_⟩
  have hm : m < n := by
    have := (List.getElem?_eq_some_iff.mp e1).1
    rw [List.length_take] at this
    omega
  rw [List.getElem?_take, if_pos hm] at e1 e2
  have sub : ∀ b ∈ as.take n, b ∈ as := fun b hb => List.mem_of_mem_take hb
  cases r.at_ m d a e1 e2 with
  | lst h q => exact .lst h (q.shrink sub)
  | dct h e q => exact .dct h e (q.shrink sub)
theorem pre_take {α : Type} {l l' : List α} (h : l <+: l') : l'.take l.length = l := by
  obtain ⟨t, rfl⟩ := h
  simp
theorem HeapR.back {K : PySem.W.Frag} {H H' : Hp} {as as' : List Addr} {h : Hs} (g : Grow as H as' H') (r : HeapR K H' as' h) : HeapR K H' as (h.take as.length) := by
  have := r.take as.length
  rw [pre_take g.pre] at this
  exact this
theorem Grow.sub {as as' : List Addr} {H H' : Hp} (g : Grow as H as' H') : ∀ a ∈ as, a ∈ as' := fun a ha => by
  obtain ⟨t, rfl⟩ := g.pre
  exact List.mem_append_left _ ha
theorem Grow.back {as as' : List Addr} {H H' : Hp} (g : Grow as H as' H') : Grow as H as H' := .of_fr g.fr
end

/-! ### defs -/
section
variable (K : PySem.W.Frag) (mg : Str → Option Value)
def PostC (as : List Addr) (H : Hp) (r : R D) (Q : VK) (E : XK) : Prop := match r with
  | .ok d h => ∀ v H' as', Grow as H as' H' → RD K H' as' d v → HeapR K H' as' h → Q v H'
  | .ex c p h => ∀ cls dx H' as', Grow as H as' H' → HeapR K H' as' h → ExR K mg H' as' c p cls dx → E cls dx H'
  | .no => False
def spD (np : Nat) (F : List D → Hs → R D) : Sp := fun vs H Q E => vs.length = np ∧ ∃ as ds h, RDs K H as ds vs ∧ HeapR K H as h ∧ PostC K mg as H (F ds h) Q E
end
structure FD (P : Program) (w : World) (K : PySem.W.Frag) (mg : Str → Option Value) (base : Heap) (k : Nat) (x : Str) (np : Nat) (F : List D → Hs → R D) : Prop where
  ex : ∃ f fd ps, mg x = some (.ref f) ∧ PySem.W.keepIn K (.ref f) = true ∧ Binds K fd ps [] ∧ FnOk P w K mg base (L2.CX P w) k f fd ps (spD K mg np F)
def mCall (np : Nat) (F : List D → Hs → R D) (me : M (List D)) : M D := fun ds h => (me ds h).bind fun xs h1 => if xs.length = np then F xs h1 else .no
section
variable {X : Cx} {W : WX} {pos p : Pos} {a b c e : Expr} {es : List Expr} {ma mb mc : M D} {me : M (List D)}
theorem PostC.ofE {K : PySem.W.Frag} {mg : Str → Option Value} {as : List Addr} {σ : L2.St} {H : Hp} {r : R D} {Q : VK} (p : PostE K mg W as σ H r Q) : PostC K mg as H r Q (WE W σ) := by
  cases r with
  | ok d h => exact p
  | ex c q h => exact fun cls dx H' as' g hr x => p cls dx H' as' g hr x
  | no => exact p
theorem de_call {k np : Nat} {x : Str} {F : List D → Hs → R D} (G : FD X.prog X.w X.K X.mg X.base k x np F) (hr : Room k X.A) (tk : Takes X W) (ha : DA X W (e :: es) me) (hg : Gl X x := by rfl) (hdb : (x == ("__debug__" : Str)) = false := by decide)
    (he : starEach (e :: es) X.env = (false, eval e X.env) :: starEach es X.env := by rfl) (hpl : (backTo pos (starEach es X.env)).any (·.1) = false := by rfl) : DE X W (.Call (.Name x p) (e :: es) [] pos) (mCall np F me) := by
  obtain ⟨f, fd, ps, hm, hk, hb, ok⟩ := G.ex
  refine PE.imp (pe_callSD (dvs := []) (E := WE W) ok hr hg hm hk hb .nil (fun σ => passAt tk σ) ha hdb he hpl) fun σ H Q ⟨as, ds, h, s, q⟩ => ?_
  refine ⟨as, ds, h, s, PostE.bindA q fun xs h1 vs H1 as1 f1 r1 hr1 p1 => ?_⟩
  by_cases hn : xs.length = np
  · rw [if_pos hn] at p1
    rw [List.append_nil]
    exact ⟨by rw [← r1.length]; exact hn, as1, xs, h1, r1, hr1, PostC.ofE p1⟩
  · rw [if_neg hn] at p1; exact p1.elim
end

/-! ### built-ins -/
def CallS (K : PySem.W.Frag) (f : List D → Option D) (r : List V → Hp → VK → Prop) : Prop := ∀ (as : List Addr) (H : Hp) (xs : List D) (z : D) (vs : List V) (Q : VK), (∀ p, H p = none → p ∉ as) → f xs = some z → Paired (RT K H as) xs vs →
  (∀ w H', Same H H' → RV K H' as z w → Q w H') → r vs H Q
def mB (f : List D → Option D) (me : M (List D)) : M D := fun ds h => (me ds h).bind fun xs h1 => match f (xs.map (rd h1)) with
  | some z => .ok z h1
  | none => .no
theorem RDs.rts {K : PySem.W.Frag} {H : Hp} {as : List Addr} {h : Hs} (s : HeapR K H as h) : ∀ {ds : List D} {vs : List V}, RDs K H as ds vs → Paired (RT K H as) (ds.map (rd h)) vs
  | _, _, .nil => .nil
  | _, _, .cons r t => .cons (r.rt s) (RDs.rts s t)
theorem rts1 {K : PySem.W.Frag} {H : Hp} {as : List Addr} {x : D} {vs : List V} (r : Paired (RT K H as) [x] vs) : ∃ v, vs = [v] ∧ RT K H as x v := by
  cases r with
  | cons r t => cases t; exact ⟨_, rfl, r⟩
theorem rts2 {K : PySem.W.Frag} {H : Hp} {as : List Addr} {x y : D} {vs : List V} (r : Paired (RT K H as) [x, y] vs) : ∃ v u, vs = [v, u] ∧ RT K H as x v ∧ RT K H as y u := by
  cases r with
  | cons r t => cases t with
    | cons r2 t => cases t; exact ⟨_, _, rfl, r, r2⟩
section
variable {X : Cx} {W : WX} {pos p : Pos} {e : Expr} {es : List Expr} {me : M (List D)} {x : Str} {id : String}
theorem de_callB {f : List D → Option D} {r : List V → Hp → VK → Prop} (hc : CallR X (.builtin id) r) (hs : CallS X.K f r) (hm : X.mg x = none) (hv : bootBuiltins x = some (.builtin id)) (ha : DA X W (e :: es) me) (hg : Gl X x := by rfl) (hn : x ≠ "__name__" := by decide) (hdb : (x == ("__debug__" : Str)) = false := by decide)
    (he : starEach (e :: es) X.env = (false, eval e X.env) :: starEach es X.env := by rfl) (hpl : (backTo pos (starEach es X.env)).any (·.1) = false := by rfl) : DE X W (.Call (.Name x p) (e :: es) [] pos) (mB f me) :=
  PE.imp (pe_callB hc hg hm hv ha hn hdb he hpl) fun σ H Q ⟨as, ds, h, s, q⟩ => ⟨as, ds, h, s, PostE.bindA q fun xs h1 vs H1 as1 f1 r1 hr1 p1 => by
    cases e : f (xs.map (rd h1)) with
    | none => rw [e] at p1; exact p1.elim
    | some z =>
      rw [e] at p1
      exact hs as1 H1 _ z vs Q (fun p hp => hr1.notin hp) e (r1.rts hr1) fun w H' sm rw => p1 w H' as1 (.of_same sm) (.val rw) (hr1.same sm)⟩
theorem de_callT {f : List D → Option D} {r : List V → Hp → VK → Prop} (hc : CallR X (.type id) r) (hs : CallS X.K f r) (hm : X.mg x = none) (hv : bootBuiltins x = some (.type id)) (ha : DA X W (e :: es) me) (hg : Gl X x := by rfl) (hn : x ≠ "__name__" := by decide) (hdb : (x == ("__debug__" : Str)) = false := by decide)
    (he : starEach (e :: es) X.env = (false, eval e X.env) :: starEach es X.env := by rfl) (hpl : (backTo pos (starEach es X.env)).any (·.1) = false := by rfl) : DE X W (.Call (.Name x p) (e :: es) [] pos) (mB f me) :=
  PE.imp (pe_callTy hc hg hm hv ha hn hdb he hpl) fun σ H Q ⟨as, ds, h, s, q⟩ => ⟨as, ds, h, s, PostE.bindA q fun xs h1 vs H1 as1 f1 r1 hr1 p1 => by
    cases e : f (xs.map (rd h1)) with
    | none => rw [e] at p1; exact p1.elim
    | some z =>
      rw [e] at p1
      exact hs as1 H1 _ z vs Q (fun p hp => hr1.notin hp) e (r1.rts hr1) fun w H' sm rw => p1 w H' as1 (.of_same sm) (.val rw) (hr1.same sm)⟩
/-- a built-in class as a value -/
theorem de_ty {n : String} (hm : X.mg x = none) (hv : bootBuiltins x = some (.type n)) (hg : Gl X x := by rfl) (hn : x ≠ "__name__" := by decide) (hdb : (x == ("__debug__" : Str)) = false := by decide) : DE X W (.Name x pos) (mC (.ty n)) :=
  de_c (pe_bltn hg hm hv (v := .ty n) rfl hn hdb) fun _ _ _ => .ty n
end
end DL

set_option Elab.async false
set_option linter.all false
set_option maxRecDepth 100000
set_option maxHeartbeats 4000000
namespace DL
open PySem PySem.Spec PyProof.Rows L2
def on1 (f : D → Option D) : List D → Option D
  | [x] => f x
  | _ => none
def on2 (f : D → D → Option D) : List D → Option D
  | [x, y] => f x y
  | _ => none
def len1 : D → Option D
  | .tup l => some (.int l.length)
  | .lst l => some (.int l.length)
  | .frz l => some (.int l.length)
  | .str s => if s.length ≤ 16777216 then some (.int s.length) else none
  | .dct ks _ => some (.int ks.length)
  | _ => none
def abs1 : D → Option D
  | .int i => some (.int (if i < 0 then -i else i))
  | _ => none
def max2 : D → D → Option D
  | .int i, .int j => some (.int (if j > i then j else i))
  | _, _ => none
def min2 : D → D → Option D
  | .int i, .int j => some (.int (if j < i then j else i))
  | _, _ => none
def toInt1 : D → Option D
  | .int i => some (.int i)
  | .bl b => some (.int (if b then 1 else 0))
  | _ => none
def blsD : List D → Option (List Bool)
  | [] => some []
  | .bl b :: r => (blsD r).map (b :: ·)
  | _ :: _ => none
def all1 : D → Option D
  | .lst l => (blsD l).map fun bs => .bl (bs.all id)
  | _ => none
def any1 : D → Option D
  | .lst l => (blsD l).map fun bs => .bl (bs.any id)
  | _ => none
def sum1 : D → Option D
  | .lst l => (intsD l).map fun ns => .int ns.sum
  | _ => none
def toTup1 : D → Option D
  | .lst l => some (.tup l)
  | .tup l => some (.tup l)
  | _ => none
def toLst1 : D → Option D
  | .lst l => some (.lst l)
  | .frz l => some (.lst l)
  | .tup l => some (.lst l)
  | _ => none
def tyN : D → Option String
  | .non => some "NoneType"
  | .bl _ => some "bool"
  | .int _ => some "int"
  | .str _ => some "str"
  | .tup _ => some "tuple"
  | .lst _ => some "list"
  | .frz _ => some "list"
  | .dct _ _ => some "dict"
  | _ => none
def isT2 (t c : String) : Option Bool :=
  if (["int", "bool", "str", "tuple", "list", "dict"] : List String).contains c then some (t == c || (t == "bool" && c == "int")) else none
def isi2 : D → D → Option D
  | x, .ty c => (match tyN x with
    | some t => (isT2 t c).map .bl
    | none => none)
  | _, _ => none
def repr1 : D → Option D
  | .bl b => some (.str (if b then "True" else "False"))
  | .non => some (.str "None")
  | .int i => if i.natAbs.log2 < 1920 then some (.str (toString i)) else none
  | .str s => if (reprText s).length ≤ 16777216 then some (.str (reprText s)) else none
  | _ => none
def divmod2 : D → D → Option D
  | .int i, .int j => if 0 < j ∧ Builtin.Int.intBits i ≤ Builtin.Int.intBits j + 4000 then some (.tup [.int (i / j), .int (i % j)]) else none
  | _, _ => none
def gcd2 : D → D → Option D
  | .int i, .int j => some (.int ((Nat.gcd i.natAbs j.natAbs : Nat) : Int))
  | _, _ => none
theorem blsD_ok {K : PySem.W.Frag} {H : Hp} {as : List Addr} : ∀ {ds : List D} {vs : List V} {ns : List Bool}, blsD ds = some ns → RVs K H as ds vs → vs = ns.map V.bl
  | [], _, _, e, r => by cases e; cases r; rfl
  | d :: ds, _, ns, e, r => by
    cases d with
    | bl i =>
      cases e2 : blsD ds with
      | none => simp [blsD, e2] at e
      | some ms =>
        simp [blsD, e2] at e
        subst e
        cases r with
        | cons r1 r2 =>
          cases r1
          rw [blsD_ok e2 r2]; rfl
    | _ => cases e
theorem RT.tyx {K : PySem.W.Frag} {H : Hp} {as : List Addr} {d : D} {v : V} {t : String} (e : tyN d = some t) (r : RT K H as d v) : TyX K H v (.type t) := by
  cases r with
  | val r =>
    cases r with
    | non => cases e; exact .base .non
    | bl b => cases e; exact .base (.bl b)
    | int i => cases e; exact .base (.int i)
    | str s => cases e; exact .base (.str s)
    | ty n => cases e
    | tup h r =>
      cases e
      rcases h with (h | ⟨o, h⟩) | ⟨o, its, n, h1, h2, _⟩
      · exact .base (.tup h)
      · exact .fTuple h
      · exact .kTuple h1 h2
    | lst h n r => cases e; exact .base (.lst h)
    | frz h r =>
      cases e
      rcases h with ⟨o, h⟩ | ⟨o, its, n, h1, h2, _⟩
      · exact .base (.frz h)
      · exact .kList h1 h2
    | dct h n _ _ => cases e; exact .base (.dK h)
  | cell r =>
    cases r with
    | lst h r => cases e; exact .base (.lst h)
    | dct h _ _ => cases e; exact .base (.dK h)
/-- the table of isinstance -/
theorem isT2_ok {t c : String} {b : Bool} {K : PySem.W.Frag} (ht : t ∈ (["NoneType", "bool", "int", "str", "tuple", "list", "dict"] : List String)) (h : isT2 t c = some b) : PySem.W.kitOne K (.type t) (.type c) = some b := by
  unfold isT2 at h
  by_cases hc : (["int", "bool", "str", "tuple", "list", "dict"] : List String).contains c = true
  · rw [if_pos hc] at h
    have key : ∀ t ∈ (["NoneType", "bool", "int", "str", "tuple", "list", "dict"] : List String), ∀ c ∈ (["int", "bool", "str", "tuple", "list", "dict"] : List String), kitB t c = some (t == c || (t == "bool" && c == "int")) := by decide +kernel
    cases h
    exact kit_ty (key t ht c (by simpa using hc))
  · rw [if_neg hc] at h; cases h
theorem tyN_mem {d : D} {t : String} (e : tyN d = some t) : t ∈ (["NoneType", "bool", "int", "str", "tuple", "list", "dict"] : List String) := by
  cases d <;> first | (cases e; done) | (cases e; decide)
abbrev RC := List V → Hp → VK → Prop
def C1 (K : PySem.W.Frag) (f : D → Option D) (r : RC) : Prop := ∀ (as : List Addr) (H : Hp) (x z : D) (v : V) (Q : VK), (∀ p, H p = none → p ∉ as) → f x = some z → RT K H as x v → (∀ w H', Same H H' → RV K H' as z w → Q w H') → r [v] H Q
def C2 (K : PySem.W.Frag) (f : D → D → Option D) (r : RC) : Prop := ∀ (as : List Addr) (H : Hp) (x y z : D) (v u : V) (Q : VK), (∀ p, H p = none → p ∉ as) → f x y = some z → RT K H as x v → RT K H as y u → (∀ w H', Same H H' → RV K H' as z w → Q w H') → r [v, u] H Q
theorem C1.s {K : PySem.W.Frag} {f : D → Option D} {r : RC} (c : C1 K f r) : CallS K (on1 f) r := by
  intro as H xs z vs Q n e hr k
  cases hr with
  | nil => cases e
  | cons r1 t =>
    cases t with
    | nil => exact c as H _ z _ Q n e r1 k
    | cons _ _ => cases e
theorem C2.s {K : PySem.W.Frag} {f : D → D → Option D} {r : RC} (c : C2 K f r) : CallS K (on2 f) r := by
  intro as H xs z vs Q n e hr k
  cases hr with
  | nil => cases e
  | cons r1 t =>
    cases t with
    | nil => cases e
    | cons r2 t =>
      cases t with
      | nil => exact c as H _ _ z _ _ Q n e r1 r2 k
      | cons _ _ => cases e
section
variable {K : PySem.W.Frag} {X : Cx}
abbrev rLenAll (K : PySem.W.Frag) : RC := fun xs H Q => (∃ p ys, xs = [.ref p] ∧ (SqL K H p ys ∨ SqT K H p ys) ∧ Q (.int ys.length) H) ∨ (∃ z, xs = [.str z] ∧ z.length ≤ sizeLine ∧ Q (.int z.length) H) ∨ ∃ (d : Addr) (kvs : List (Key × V)), xs = [.ref d] ∧ H d = some (.dK kvs) ∧ Q (.int kvs.length) H
theorem c_len : C1 K len1 (rLenAll K) := by
  intro as H x z v Q n e r k
  have seq : ∀ l, (x = .lst l ∨ x = .tup l ∨ x = .frz l) → z = .int l.length → rLenAll K [v] H Q := fun l hl hz => by
    obtain ⟨a, vs, rfl, rr, h⟩ := r.seq hl
    subst hz
    exact .inl ⟨a, vs, rfl, h, by rw [← rr.length]; exact k _ H (Same.refl H) (.int _)⟩
  cases x with
  | tup l => cases e; exact seq l (by simp) rfl
  | lst l => cases e; exact seq l (by simp) rfl
  | frz l => cases e; exact seq l (by simp) rfl
  | str s =>
    cases r.str
    by_cases hs : s.length ≤ 16777216
    · rw [len1, if_pos hs] at e; cases e
      exact .inr (.inl ⟨s, rfl, by rw [sizeLine_eq]; exact hs, k _ H (Same.refl H) (.int _)⟩)
    · rw [len1, if_neg hs] at e; cases e
  | dct ks ds =>
    cases e
    have fin : ∀ (a : Addr) (kvs : List (Key × V)), v = .ref a → H a = some (.dK kvs) → kvs.map (fun p => kD p.1) = ks → rLenAll K [v] H Q := fun a kvs e1 e2 e3 => by
      subst e1 e3
      have := k _ H (Same.refl H) (.int _)
      rw [List.length_map] at this
      exact .inr (.inr ⟨a, kvs, rfl, e2, this⟩)
    cases r with
    | val r => cases r with
      | dct h _ e _ => exact fin _ _ rfl h e
    | cell r => cases r with
      | dct h e _ => exact fin _ _ rfl h e
  | _ => cases e
theorem c_abs : C1 K abs1 (fun xs H Q => ∃ i, xs = [.int i] ∧ Q (.int (if i < 0 then -i else i)) H) := by
  intro as H x z v Q n e r k
  cases x with
  | int i => cases e; cases r.int; exact ⟨i, rfl, k _ H (Same.refl H) (.int _)⟩
  | _ => cases e
theorem c_max : C2 K max2 (fun xs H Q => ∃ i j, xs = [.int i, .int j] ∧ Q (.int (if j > i then j else i)) H) := by
  intro as H x y z v u Q n e r1 r2 k
  cases x with
  | int i => cases y with
    | int j => cases e; cases r1.int; cases r2.int; exact ⟨i, j, rfl, k _ H (Same.refl H) (.int _)⟩
    | _ => cases e
  | _ => cases e
theorem c_min : C2 K min2 (fun xs H Q => ∃ i j, xs = [.int i, .int j] ∧ Q (.int (if j < i then j else i)) H) := by
  intro as H x y z v u Q n e r1 r2 k
  cases x with
  | int i => cases y with
    | int j => cases e; cases r1.int; cases r2.int; exact ⟨i, j, rfl, k _ H (Same.refl H) (.int _)⟩
    | _ => cases e
  | _ => cases e
theorem c_int : C1 K toInt1 (fun xs H Q => (∃ i, xs = [.int i] ∧ Q (.int i) H) ∨ ∃ k, xs = [.bl k] ∧ Q (.int (if k then 1 else 0)) H) := by
  intro as H x z v Q n e r k
  cases x with
  | int i => cases e; cases r.int; exact .inl ⟨i, rfl, k _ H (Same.refl H) (.int _)⟩
  | bl b => cases e; cases r.bl; exact .inr ⟨b, rfl, k _ H (Same.refl H) (.int _)⟩
  | _ => cases e
theorem c_all : C1 K all1 (rAll K) := by
  intro as H x z v Q n e r k
  cases x with
  | lst l =>
    cases e2 : blsD l with
    | none => simp [all1, e2] at e
    | some bs =>
      simp [all1, e2] at e
      subst e
      obtain ⟨a, vs, rfl, rr, h⟩ := r.lst
      cases blsD_ok e2 rr
      exact ⟨a, bs, rfl, SqL.of h, by have := k _ H (Same.refl H) (.bl _); simpa using this⟩
  | _ => cases e
theorem c_any : C1 K any1 (rAny K) := by
  intro as H x z v Q n e r k
  cases x with
  | lst l =>
    cases e2 : blsD l with
    | none => simp [any1, e2] at e
    | some bs =>
      simp [any1, e2] at e
      subst e
      obtain ⟨a, vs, rfl, rr, h⟩ := r.lst
      cases blsD_ok e2 rr
      exact ⟨a, bs, rfl, SqL.of h, by have := k _ H (Same.refl H) (.bl _); simpa using this⟩
  | _ => cases e
theorem c_sum : C1 K sum1 (rSum K) := by
  intro as H x z v Q n e r k
  cases x with
  | lst l =>
    cases e2 : intsD l with
    | none => simp [sum1, e2] at e
    | some bs =>
      simp [sum1, e2] at e
      subst e
      obtain ⟨a, vs, rfl, rr, h⟩ := r.lst
      cases intsD_ok e2 rr
      exact ⟨a, bs, rfl, SqL.of h, by have := k _ H (Same.refl H) (.int _); simpa using this⟩
  | _ => cases e
theorem c_tup : C1 K toTup1 (fun xs H Q => ∃ p ys, xs = [.ref p] ∧ ((SqL K H p ys ∧ ∀ l, H l = none → Q (.ref l) (upd H l (.tup ys))) ∨ (SqT K H p ys ∧ Q (.ref p) H))) := by
  intro as H x z v Q n e r k
  cases x with
  | lst l =>
    cases e
    obtain ⟨a, vs, rfl, rr, h⟩ := r.lst
    refine ⟨a, vs, rfl, .inl ⟨SqL.of h, fun q hq => ?_⟩⟩
    have sm := same_upd (o := .tup vs) hq
    exact k _ _ sm (.tup (SqT.of upd_same) (rr.same sm))
  | tup l =>
    cases e
    obtain ⟨a, vs, rfl, rr, h⟩ := r.tup
    exact ⟨a, vs, rfl, .inr ⟨h, k _ H (Same.refl H) (.tup h rr)⟩⟩
  | _ => cases e
theorem c_lst : C1 K toLst1 (fun xs H Q => ∃ p ys, xs = [.ref p] ∧ (SqL K H p ys ∨ SqT K H p ys) ∧ ∀ l, H l = none → Q (.ref l) (upd H l (.lst ys))) := by
  intro as H x z v Q n e r k
  have seq : ∀ l, (x = .lst l ∨ x = .tup l ∨ x = .frz l) → z = .lst l → ∃ p ys, [v] = [V.ref p] ∧ (SqL K H p ys ∨ SqT K H p ys) ∧ ∀ l, H l = none → Q (.ref l) (upd H l (.lst ys)) := fun l hl hz => by
    obtain ⟨a, vs, rfl, rr, h⟩ := r.seq hl
    subst hz
    refine ⟨a, vs, rfl, h, fun q hq => ?_⟩
    have sm := same_upd (o := .lst vs) hq
    exact k _ _ sm (.lst upd_same (n q hq) (rr.same sm))
  cases x with
  | tup l => cases e; exact seq l (by simp) rfl
  | lst l => cases e; exact seq l (by simp) rfl
  | frz l => cases e; exact seq l (by simp) rfl
  | _ => cases e
theorem c_isi : C2 K isi2 (rIsi K) := by
  intro as H x y z v u Q n e r1 r2 k
  cases y with
  | ty c =>
    cases r2.ty
    cases e1 : tyN x with
    | none => simp [isi2, e1] at e
    | some t =>
      cases e2 : isT2 t c with
      | none => simp [isi2, e1, e2] at e
      | some b =>
        simp [isi2, e1, e2] at e
        subst e
        exact ⟨v, .ty c, .type t, .type c, b, rfl, .ty c, r1.tyx e1, isT2_ok (tyN_mem e1) e2, k _ H (Same.refl H) (.bl _)⟩
  | _ => cases e
theorem c_divmod : C2 K divmod2 (fun xs H Q => ∃ i j, xs = [.int i, .int j] ∧ CDivP i j ∧ ∀ p, H p = none → Q (.ref p) (upd H p (.tup [.int (i / j), .int (i % j)]))) := by
  intro as H x y z v u Q n e r1 r2 k
  cases x with
  | int i => cases y with
    | int j =>
      by_cases hc : 0 < j ∧ Builtin.Int.intBits i ≤ Builtin.Int.intBits j + 4000
      · rw [divmod2, if_pos hc] at e; cases e; cases r1.int; cases r2.int
        refine ⟨i, j, rfl, divp_ok hc.1 hc.2, fun q hq => ?_⟩
        have sm := same_upd (o := .tup [.int (i / j), .int (i % j)]) hq
        exact k _ _ sm (.tup (SqT.of upd_same) (.cons (.int _) (.cons (.int _) .nil)))
      · rw [divmod2, if_neg hc] at e; cases e
    | _ => cases e
  | _ => cases e
theorem c_gcd : C2 K gcd2 rGcd := by
  intro as H x y z v u Q n e r1 r2 k
  cases x with
  | int i => cases y with
    | int j => cases e; cases r1.int; cases r2.int; exact ⟨i, j, rfl, k _ H (Same.refl H) (.int _)⟩
    | _ => cases e
  | _ => cases e
abbrev rRepr1 : RC := fun xs H Q => (∃ b, xs = [.bl b] ∧ Q (.str (if b then "True" else "False")) H) ∨ (xs = [.non] ∧ Q (.str "None") H) ∨ (∃ i, xs = [.int i] ∧ i.natAbs.log2 < 1920 ∧ Q (.str (toString i)) H) ∨ ∃ s, xs = [.str s] ∧ (reprText s).length ≤ sizeLine ∧ Q (.str (reprText s)) H
theorem call_repr1 : CallR X (.builtin "repr") rRepr1 := by
  intro pins s σ H xs us Q I r h
  rcases h with ⟨b, rfl, q⟩ | ⟨rfl, q⟩ | ⟨i, rfl, hz, q⟩ | ⟨x, rfl, hz, q⟩
  · obtain ⟨u, rfl, hu⟩ := vals1 r
    cases hu
    exact PySem.P.repr_of_bool ⟨.str _, H, I.tok _, ⟨_, rfl⟩, q⟩
  · obtain ⟨u, rfl, hu⟩ := vals1 r
    cases hu
    exact PySem.P.repr_of_none ⟨.str _, H, I.tok _, ⟨_, rfl⟩, q⟩
  · obtain ⟨u, rfl, t, rfl⟩ := vals1 r
    exact PySem.P.repr_of_int hz ⟨.str _, H, I.tok _, ⟨_, rfl⟩, q⟩
  · obtain ⟨u, rfl, t, rfl⟩ := vals1 r
    exact PySem.P.repr_of_str ⟨.str _, H, I.tok _, ⟨_, rfl⟩, q⟩ hz
theorem c_repr : C1 K repr1 rRepr1 := by
  intro as H x z v Q n e r k
  cases x with
  | bl b => cases e; cases r.bl; exact .inl ⟨b, rfl, k _ H (Same.refl H) (.str _)⟩
  | non => cases e; cases r.non; exact .inr (.inl ⟨rfl, k _ H (Same.refl H) (.str _)⟩)
  | int i =>
    by_cases hc : i.natAbs.log2 < 1920
    · rw [repr1, if_pos hc] at e; cases e; cases r.int; exact .inr (.inr (.inl ⟨i, rfl, hc, k _ H (Same.refl H) (.str _)⟩))
    · rw [repr1, if_neg hc] at e; cases e
  | str s =>
    by_cases hc : (reprText s).length ≤ 16777216
    · rw [repr1, if_pos hc] at e; cases e; cases r.str; exact .inr (.inr (.inr ⟨s, rfl, by rw [sizeLine_eq]; exact hc, k _ H (Same.refl H) (.str _)⟩))
    · rw [repr1, if_neg hc] at e; cases e
  | _ => cases e
end
/-! ### the calls as they are written -/
section
variable {X : Cx} {W : WX} {pos p : Pos} {e : Expr} {es : List Expr} {me : M (List D)} {x : Str}
/-- a built-in by its name: what is asked of the module: the name is free -/
structure Bi (X : Cx) (x : Str) (f : List D → Option D) : Prop where
  ex : (∃ id r, CallR X (.builtin id) r ∧ CallS X.K f r ∧ X.mg x = none ∧ bootBuiltins x = some (.builtin id)) ∨ (∃ id r, CallR X (.type id) r ∧ CallS X.K f r ∧ X.mg x = none ∧ bootBuiltins x = some (.type id)) ∨
    ∃ id r, CallR X (.builtin id) r ∧ CallS X.K f r ∧ X.mg x = some (.builtin id)
theorem de_bi {f : List D → Option D} (B : Bi X x f) (ha : DA X W (e :: es) me) (hg : Gl X x := by rfl) (hn : x ≠ "__name__" := by decide) (hdb : (x == ("__debug__" : Str)) = false := by decide)
    (he : starEach (e :: es) X.env = (false, eval e X.env) :: starEach es X.env := by rfl) (hpl : (backTo pos (starEach es X.env)).any (·.1) = false := by rfl) : DE X W (.Call (.Name x p) (e :: es) [] pos) (mB f me) := by
  rcases B.ex with ⟨id, r, h1, h2, h3, h4⟩ | ⟨id, r, h1, h2, h3, h4⟩ | ⟨id, r, h1, h2, h3⟩
  · exact de_callB h1 h2 h3 h4 ha hg hn hdb he hpl
  · exact de_callT h1 h2 h3 h4 ha hg hn hdb he hpl
  · refine PE.imp (pe_callBfun h1 hg h3 ha hdb he hpl) fun σ H Q ⟨as, ds, h, s, q⟩ => ⟨as, ds, h, s, PostE.bindA q fun xs h1 vs H1 as1 f1 r1 hr1 p1 => ?_⟩
    cases e : f (xs.map (rd h1)) with
    | none => rw [e] at p1; exact p1.elim
    | some z =>
      rw [e] at p1
      exact h2 as1 H1 _ z vs Q (fun p hp => hr1.notin hp) e (r1.rts hr1) fun w H' sm rw => p1 w H' as1 (.of_same sm) (.val rw) (hr1.same sm)
variable (m : X.mg x = none)
theorem b_len (h : X.mg "len" = none) : Bi X "len" (on1 len1) := ⟨.inl ⟨_, _, call_len_seq.or (call_len_str.or call_lenD), c_len.s, h, by decide +kernel⟩⟩
theorem b_abs (h : X.mg "abs" = none) : Bi X "abs" (on1 abs1) := ⟨.inl ⟨_, _, call_abs, c_abs.s, h, by decide +kernel⟩⟩
theorem b_max (h : X.mg "max" = none) (hc : X.calm = true := by rfl) : Bi X "max" (on2 max2) := ⟨.inl ⟨_, _, call_max2 hc, c_max.s, h, by decide +kernel⟩⟩
theorem b_min (h : X.mg "min" = none) (hc : X.calm = true := by rfl) : Bi X "min" (on2 min2) := ⟨.inl ⟨_, _, call_min2 hc, c_min.s, h, by decide +kernel⟩⟩
theorem b_int (h : X.mg "int" = none) : Bi X "int" (on1 toInt1) := ⟨.inr (.inl ⟨_, _, call_int1, c_int.s, h, by decide +kernel⟩)⟩
theorem b_all (h : X.mg "all" = none) (hc : X.calm = true := by rfl) : Bi X "all" (on1 all1) := ⟨.inl ⟨_, _, cr_all hc, c_all.s, h, by decide +kernel⟩⟩
theorem b_any (h : X.mg "any" = none) (hc : X.calm = true := by rfl) : Bi X "any" (on1 any1) := ⟨.inl ⟨_, _, cr_any hc, c_any.s, h, by decide +kernel⟩⟩
theorem b_sum (h : X.mg "sum" = none) (hc : X.calm = true := by rfl) : Bi X "sum" (on1 sum1) := ⟨.inl ⟨_, _, cr_sum hc, c_sum.s, h, by decide +kernel⟩⟩
theorem b_tuple (h : X.mg "tuple" = none) : Bi X "tuple" (on1 toTup1) := ⟨.inr (.inl ⟨_, _, call_tuple_of, c_tup.s, h, by decide +kernel⟩)⟩
theorem b_list (h : X.mg "list" = none) : Bi X "list" (on1 toLst1) := ⟨.inr (.inl ⟨_, _, call_list_of, c_lst.s, h, by decide +kernel⟩)⟩
theorem b_isinstance (h : X.mg "isinstance" = none) : Bi X "isinstance" (on2 isi2) := ⟨.inl ⟨_, _, call_isi, c_isi.s, h, by decide +kernel⟩⟩
theorem b_repr (h : X.mg "repr" = none) : Bi X "repr" (on1 repr1) := ⟨.inl ⟨_, _, call_repr1, c_repr.s, h, by decide +kernel⟩⟩
theorem b_divmod (h : X.mg "divmod" = none) : Bi X "divmod" (on2 divmod2) := ⟨.inl ⟨_, _, call_divmodW, c_divmod.s, h, by decide +kernel⟩⟩
theorem b_gcd (h : X.mg "gcd" = some (.builtin "math.gcd")) : Bi X "gcd" (on2 gcd2) := ⟨.inr (.inr ⟨_, _, cr_gcd, c_gcd.s, h⟩)⟩
end
end DL

set_option Elab.async false
set_option linter.all false
set_option maxRecDepth 100000
set_option maxHeartbeats 4000000
namespace DL
open PySem PySem.Spec PyProof.Rows L2

/-! ### targets -/
mutual
inductive Tg where
  | nm (i : Nat)
  | tp (l : Tgs)
inductive Tgs where
  | nil
  | cons (t : Tg) (l : Tgs)
end
def Tgs.len : Tgs → Nat
  | .nil => 0
  | .cons _ l => l.len + 1
mutual
def gOf (K : PySem.W.Frag) : Tg → TG
  | .nm i => gName i
  | .tp l => gTup K l.len (gsOf K l)
def gsOf (K : PySem.W.Frag) : Tgs → TGs
  | .nil => gNil
  | .cons t l => gCons (gOf K t) (gsOf K l)
end
mutual
def asgT : Tg → D → Ev → Option Ev
  | .nm i, d, ds => some (ds.set i (some d))
  | .tp l, .tup es, ds => asgTs l es ds
  | .tp _, _, _ => none
def asgTs : Tgs → List D → Ev → Option Ev
  | .nil, [], ds => some ds
  | .cons t l, e :: es, ds => (asgT t e ds).bind (asgTs l es)
  | _, _, _ => none
end
mutual
def Tg.ns : Tg → List Nat
  | .nm i => [i]
  | .tp l => l.ns
def Tgs.ns : Tgs → List Nat
  | .nil => []
  | .cons t l => t.ns ++ l.ns
end
abbrev DG (X : Cx) (tg : Expr) (t : Tg) : Prop := PG X tg (gOf X.K t)
abbrev DGs (X : Cx) (tg : List Expr) (t : Tgs) : Prop := PGs X tg (gsOf X.K t)
section
variable {K : PySem.W.Frag} {H : Hp} {as : List Addr}
theorem EvR.length {ds : Ev} {σ : L2.St} (r : EvR K H as ds σ) : ds.length = σ.length := Paired.length r
theorem EvR.set {d : D} {v : V} (r : RD K H as d v) : ∀ {ds : Ev} {σ : L2.St} (i : Nat), EvR K H as ds σ → EvR K H as (ds.set i (some d)) (σ.set i (some v))
  | _, _, _, .nil => .nil
  | _, _, 0, .cons h t => .cons (fun e he => by cases he; exact ⟨v, rfl, r⟩) t
  | _, _, i + 1, .cons h t => .cons h (EvR.set r i t)
theorem EvR.forget : ∀ {ds : Ev} {σ : L2.St} (i : Nat), EvR K H as ds σ → EvR K H as (ds.set i none) (σ.set i none)
  | _, _, _, .nil => .nil
  | _, _, 0, .cons h t => .cons (fun e he => nomatch he) t
  | _, _, i + 1, .cons h t => .cons h (EvR.forget i t)
def wipeD (ds : Ev) : List Nat → Ev
  | [] => ds
  | v :: vs => (wipeD ds vs).set v none
theorem EvR.wipe {ds : Ev} {σ : L2.St} (r : EvR K H as ds σ) : ∀ vs : List Nat, EvR K H as (wipeD ds vs) (L2.wipe σ vs)
  | [] => r
  | v :: vs => (EvR.wipe r vs).forget v
theorem wipe_set {σ : L2.St} {i : Nat} {x : Option V} : ∀ {vs : List Nat}, i ∈ vs → L2.wipe (σ.set i x) vs = L2.wipe σ vs
  | v :: vs, h => by
    by_cases hm : i ∈ vs
    · show (L2.wipe (σ.set i x) vs).set v none = (L2.wipe σ vs).set v none
      rw [wipe_set hm]
    · have e : i = v := by
        rcases List.mem_cons.mp h with z | z
        · exact z
        · exact absurd z hm
      subst e
      have key : ∀ (vs : List Nat), i ∉ vs → L2.wipe (σ.set i x) vs = (L2.wipe σ vs).set i x := by
        intro vs
        induction vs with
        | nil => intro _; rfl
        | cons w ws ih =>
          intro hn
          simp only [List.mem_cons, not_or] at hn
          show (L2.wipe (σ.set i x) ws).set w none = ((L2.wipe σ ws).set w none).set i x
          rw [ih hn.2, List.set_comm _ _ hn.1]
      show (L2.wipe (σ.set i x) vs).set i none = (L2.wipe σ vs).set i none
      rw [key vs hm, List.set_set]
theorem wipe_idem {σ : L2.St} : ∀ {us vs : List Nat}, (∀ i ∈ us, i ∈ vs) → L2.wipe (L2.wipe σ us) vs = L2.wipe σ vs
  | [], _, _ => rfl
  | u :: us, vs, h => by
    show L2.wipe ((L2.wipe σ us).set u none) vs = _
    rw [wipe_set (h u (by simp)), wipe_idem fun i hi => h i (by simp [hi])]
mutual
theorem asg_ok : ∀ (t : Tg) {ds ds' : Ev} {σ : L2.St} {d : D} {v : V} {Q : L2.St → Hp → Prop}, EvR K H as ds σ → RD K H as d v → asgT t d ds = some ds' →
    (∀ σ', EvR K H as ds' σ' → (∀ vs, (∀ i ∈ t.ns, i ∈ vs) → L2.wipe σ' vs = L2.wipe σ vs) → Q σ' H) → gOf K t v σ H Q
  | .nm i, ds, ds', σ, d, v, Q, s, r, e, k => by
    simp only [asgT, Option.some.injEq] at e
    subst e
    simp only [gOf]
    exact k _ (s.set r i) fun vs h => wipe_set (h i (by simp [Tg.ns]))
  | .tp l, ds, ds', σ, d, v, Q, s, r, e, k => by
    cases d with
    | tup es =>
      simp only [asgT] at e
      cases r with
      | val r => cases r with
        | tup h rs =>
          simp only [gOf]
          refine ⟨_, _, rfl, h, ?_, asgs_ok l s rs e k⟩
          rw [← rs.length]
          exact asgs_len l e
    | _ => simp only [asgT] at e; cases e
theorem asgs_ok : ∀ (t : Tgs) {ds ds' : Ev} {σ : L2.St} {es : List D} {vs : List V} {Q : L2.St → Hp → Prop}, EvR K H as ds σ → RVs K H as es vs → asgTs t es ds = some ds' →
    (∀ σ', EvR K H as ds' σ' → (∀ vs, (∀ i ∈ t.ns, i ∈ vs) → L2.wipe σ' vs = L2.wipe σ vs) → Q σ' H) → gsOf K t vs σ H Q
  | .nil, ds, ds', σ, es, vs, Q, s, r, e, k => by
    cases es with
    | nil =>
      cases r
      simp only [asgTs, Option.some.injEq] at e
      subst e
      simp only [gsOf]
      exact ⟨rfl, k _ s fun _ _ => rfl⟩
    | cons _ _ => simp only [asgTs] at e; cases e
  | .cons t l, ds, ds', σ, es, vs, Q, s, r, e, k => by
    cases es with
    | nil => simp only [asgTs] at e; cases e
    | cons d es =>
      cases r with
      | cons r1 r2 =>
        simp only [asgTs] at e
        cases e1 : asgT t d ds with
        | none => rw [e1] at e; cases e
        | some ds1 =>
          rw [e1] at e
          simp only [gsOf]
          exact ⟨_, _, rfl, asg_ok t s (.val r1) e1 fun σ1 s1 w1 => asgs_ok l s1 r2 e fun σ2 s2 w2 => k σ2 s2 fun vs h => (w2 vs fun i hi => h i (by simp [Tgs.ns, hi])).trans (w1 vs fun i hi => h i (by simp [Tgs.ns, hi]))⟩
theorem asgs_len : ∀ (t : Tgs) {ds ds' : Ev} {es : List D}, asgTs t es ds = some ds' → es.length = t.len
  | .nil, ds, ds', es, e => by
    cases es with
    | nil => rfl
    | cons _ _ => simp only [asgTs] at e; cases e
  | .cons t l, ds, ds', es, e => by
    cases es with
    | nil => simp only [asgTs] at e; cases e
    | cons d es =>
      simp only [asgTs] at e
      cases e1 : asgT t d ds with
      | none => rw [e1] at e; cases e
      | some ds1 =>
        rw [e1] at e
        simp only [Tgs.len, List.length_cons]
        rw [asgs_len l e]
end
end
section
variable {X : Cx} {pos : Pos}
theorem dg_nm {i : Nat} {x : Str} (hN : X.N.Nodup) (hi : X.N[i]? = some x) (hx : Loc X.env.scope x) (hf : X.fn x = true ∨ X.env.scope.names.lookup x = some .local := by first | exact .inl rfl | exact .inr rfl | assumption) : DG X (.Name x pos) (.nm i) := by
  show PG X _ (gOf X.K (.nm i))
  rw [gOf]
  exact pg_name hN hi hx hf
theorem dgs_nil : DGs X [] .nil := by
  show PGs X _ (gsOf X.K .nil)
  rw [gsOf]
  exact pgs_nil
theorem dgs_cons {e : Expr} {es : List Expr} {t : Tg} {l : Tgs} (h1 : DG X e t) (h2 : DGs X es l) (hs : (assignEach (e :: es) X.env).map (·.2) = assign e X.env :: (assignEach es X.env).map (·.2) := by rfl) : DGs X (e :: es) (.cons t l) := by
  show PGs X _ (gsOf X.K (.cons t l))
  rw [gsOf]
  exact pgs_cons h1 h2 hs
theorem dg_tp {es : List Expr} {k : Nat} {l : Tgs} (h : DGs X es l) (hc : X.calm = true := by rfl) (hn : (assignEach es X.env).length = l.len := by rfl) (hst : (assignEach es X.env).findIdx? (·.1) = none := by rfl) : DG X (.Tuple es k pos) (.tp l) := by
  show PG X _ (gOf X.K (.tp l))
  rw [gOf]
  exact pg_tup hc h hn hst
end

/-! ### what is walked -/
inductive Src where
  | its (l : List D)
  | cell (n len : Nat)
def srcAt : Src → Hs → Nat → Option D
  | .its l, _, i => l[i]?
  | .cell n len, h, i => match h[n]? with
    | some (.lst l) => if l.length = len then l[i]? else none
    | _ => none
def srcEnd : Src → Hs → Bool
  | .its _, _ => true
  | .cell n len, h => match h[n]? with
    | some (.lst l) => l.length == len
    | _ => false
def Src.len : Src → Nat
  | .its l => l.length
  | .cell _ n => n
structure WalkD (K : PySem.W.Frag) (as : List Addr) (H : Hp) (J : It) (s : Src) : Prop where
  go : ∀ i h H1 as1 d, Grow as H as1 H1 → HeapR K H1 as1 h → srcAt s h i = some d → J.go i H1 ∧ ∀ x H2, J.yld i H1 x H2 → Same H1 H2 ∧ RV K H2 as1 d x
  stop : ∀ h H1 as1, Grow as H as1 H1 → HeapR K H1 as1 h → srcEnd s h = true → J.stop s.len H1
def PostI (K : PySem.W.Frag) (mg : Str → Option Value) (W : WX) (as : List Addr) (σ : L2.St) (H : Hp) (r : R Src) (Q : It → Hp → Prop) : Prop := match r with
  | .ok s h => ∀ J H' as', Grow as H as' H' → HeapR K H' as' h → WalkD K as' H' J s → Q J H'
  | .ex c p h => ∀ cls dx H' as', Grow as H as' H' → HeapR K H' as' h → ExR K mg H' as' c p cls dx → W cls dx σ H'
  | .no => False
def tiM (K : PySem.W.Frag) (mg : Str → Option Value) (W : WX) (m : M Src) : TI := fun σ H Q => ∃ as ds h, StR K H as ds h σ ∧ PostI K mg W as σ H (m ds h) Q
abbrev DI (X : Cx) (W : WX) (tg iter : Expr) (m : M Src) : Prop := PI X tg iter (tiM X.K X.mg W m)
theorem PI.imp {X : Cx} {tg iter : Expr} {t t' : TI} (p : PI X tg iter t) (h : ∀ σ H Q, t' σ H Q → t σ H Q) : PI X tg iter t' := ⟨fun pins s σ H Q I q => p.run pins s σ H Q I (h σ H Q q)⟩
theorem PI.or {X : Cx} {tg iter : Expr} {t t' : TI} (p : PI X tg iter t) (q : PI X tg iter t') : PI X tg iter (fun σ H Q => t σ H Q ∨ t' σ H Q) := ⟨fun pins s σ H Q I w => w.elim (p.run pins s σ H Q I) (q.run pins s σ H Q I)⟩
theorem PostI.grow {K : PySem.W.Frag} {mg : Str → Option Value} {W : WX} {as as' : List Addr} {σ : L2.St} {H H' : Hp} {r : R Src} {Q : It → Hp → Prop} (f : Grow as H as' H') (p : PostI K mg W as σ H r Q) : PostI K mg W as' σ H' r Q := by
  cases r with
  | ok d h => exact fun v H2 as2 f2 => p v H2 as2 (f.trans f2)
  | ex c q h => exact fun cls dx H2 as2 f2 => p cls dx H2 as2 (f.trans f2)
  | no => exact p
theorem PostI.bindE {K : PySem.W.Frag} {mg : Str → Option Value} {W : WX} {as : List Addr} {σ : L2.St} {H : Hp} {r : R D} {k : D → Hs → R Src} {Q : It → Hp → Prop} {Q' : VK} (p : PostI K mg W as σ H (r.bind k) Q)
    (n : ∀ d h v H1 as1, Grow as H as1 H1 → RD K H1 as1 d v → HeapR K H1 as1 h → PostI K mg W as1 σ H1 (k d h) Q → Q' v H1) : PostE K mg W as σ H r Q' := by
  cases r with
  | ok d h => exact fun v H1 as1 f r1 hr => n d h v H1 as1 f r1 hr (PostI.grow f p)
  | ex c q h => exact p
  | no => exact p
theorem PostI.bindA {K : PySem.W.Frag} {mg : Str → Option Value} {W : WX} {as : List Addr} {σ : L2.St} {H : Hp} {r : R (List D)} {k : List D → Hs → R Src} {Q : It → Hp → Prop} {Q' : List V → Hp → Prop} (p : PostI K mg W as σ H (r.bind k) Q)
    (n : ∀ d h v H1 as1, Grow as H as1 H1 → RDs K H1 as1 d v → HeapR K H1 as1 h → PostI K mg W as1 σ H1 (k d h) Q → Q' v H1) : PostA K mg W as σ H r Q' := by
  cases r with
  | ok d h => exact fun v H1 as1 f r1 hr => n d h v H1 as1 f r1 hr (PostI.grow f p)
  | ex c q h => exact p
  | no => exact p
def srcOf (x : D) (h : Hs) : Option Src := match x with
  | .tup l => some (.its l)
  | .lst l => some (.its l)
  | .frz l => some (.its l)
  | .loc n => (match h[n]? with
    | some (.lst l) => some (.cell n l.length)
    | _ => none)
  | _ => none
def mSeq (ma : M D) : M Src := fun ds h => (ma ds h).bind fun x h1 => match srcOf x h1 with
  | some s => .ok s h1
  | none => .no
def rangeL (lo : Int) (n : Nat) : List D := (List.range n).map fun i => .int (lo + (i : Nat))
def rng1 : List D → Option Src
  | [.int j] => if j < 2 ^ 62 ∧ -(2 ^ 62) ≤ j then some (.its (rangeL 0 j.toNat)) else none
  | _ => none
def rng2 : List D → Option Src
  | [.int i, .int j] => if -(2 ^ 62) ≤ i ∧ i < 2 ^ 62 ∧ -(2 ^ 62) ≤ j ∧ j < 2 ^ 62 then some (.its (rangeL i (j - i).toNat)) else none
  | _ => none
def mSrcA (f : List D → Option Src) (me : M (List D)) : M Src := fun ds h => (me ds h).bind fun xs h1 => match f (xs.map (rd h1)) with
  | some s => .ok s h1
  | none => .no
section
variable {K : PySem.W.Frag}
theorem walkD_range {as : List Addr} {H : Hp} {lo : Int} {n : Nat} : WalkD K as H (Itr lo n) (.its (rangeL lo n)) := by
  refine ⟨fun i h H1 as1 d g hr e => ?_, fun h H1 as1 g hr e => ?_⟩
  · simp only [srcAt, rangeL, List.getElem?_map] at e
    by_cases hi : i < n
    · rw [List.getElem?_range hi] at e
      simp only [Option.map_some, Option.some.injEq] at e
      subst e
      exact ⟨hi, fun x H2 ⟨e1, e2⟩ => by subst e1 e2; exact ⟨Same.refl _, .int _⟩⟩
    · rw [List.getElem?_eq_none (by simpa using hi)] at e; cases e
  · show n ≤ (rangeL lo n).length
    simp [rangeL]
theorem walkD_lst {as : List Addr} {H : Hp} {a : Addr} {vs : List V} {ds : List D} (hs : ∀ as1 H1, Grow as H as1 H1 → SqL K H1 a vs) (r : RVs K H as ds vs) : WalkD K as H (Itl K a) (.its ds) := by
  refine ⟨fun i h H1 as1 d g hr e => ?_, fun h H1 as1 g hr e => ⟨vs, hs as1 H1 g, by rw [← r.length]; exact Nat.le_refl _⟩⟩
  obtain ⟨v, e1, r1⟩ := r.get (show ds[i]? = some d from e)
  exact ⟨⟨vs, v, hs as1 H1 g, e1⟩, fun x H2 ⟨e2, e3⟩ => by
    subst e2
    have := e3 vs (hs as1 _ g)
    rw [e1] at this; cases this
    exact ⟨Same.refl _, r1.grow g⟩⟩
theorem walkD_tup {as : List Addr} {H : Hp} {a : Addr} {vs : List V} {ds : List D} (hs : SqT K H a vs) (r : RVs K H as ds vs) : WalkD K as H (Itt K a) (.its ds) := by
  refine ⟨fun i h H1 as1 d g hr e => ?_, fun h H1 as1 g hr e => ⟨vs, sqT_fr g.fr hs, by rw [← r.length]; exact Nat.le_refl _⟩⟩
  obtain ⟨v, e1, r1⟩ := r.get (show ds[i]? = some d from e)
  exact ⟨⟨vs, v, sqT_fr g.fr hs, e1⟩, fun x H2 ⟨e2, e3⟩ => by
    subst e2
    have := e3 vs (sqT_fr g.fr hs)
    rw [e1] at this; cases this
    exact ⟨Same.refl _, r1.grow g⟩⟩
theorem walkD_cell {as : List Addr} {H : Hp} {a : Addr} {n len : Nat} (ha : as[n]? = some a) : WalkD K as H (Itl K a) (.cell n len) := by
  refine ⟨fun i h H1 as1 d g hr e => ?_, fun h H1 as1 g hr e => ?_⟩
  · obtain ⟨c, e1, cr⟩ := hr.get (pre_get g.pre ha)
    simp only [srcAt, e1] at e
    cases cr with
    | lst h r =>
      simp only at e
      split at e
      · obtain ⟨v, e2, r1⟩ := r.get e
        exact ⟨⟨_, v, SqL.of h, e2⟩, fun x H2 ⟨e3, e4⟩ => by
          subst e3
          have := e4 _ (SqL.of h)
          rw [e2] at this; cases this
          exact ⟨Same.refl _, r1⟩⟩
      · cases e
    | dct _ _ _ => cases e
  · obtain ⟨c, e1, cr⟩ := hr.get (pre_get g.pre ha)
    simp only [srcEnd, e1] at e
    cases cr with
    | lst h r => exact ⟨_, SqL.of h, by rw [← r.length]; simp at e; rw [e]; exact Nat.le_refl _⟩
    | dct _ _ _ => cases e
end
section
variable {X : Cx} {W : WX} {tg a b : Expr} {ma mb : M D} {me : M (List D)} {p pos : Pos}
theorem di_seq (ha : DE X W a ma) : DI X W tg a (mSeq ma) := by
  refine PI.imp (PI.or (pi_list ha) (pi_tup ha)) fun σ H Q ⟨as, ds, h, s, q⟩ => ?_
  unfold mSeq at q
  cases e : ma ds h with
  | ex c p h1 => rw [e] at q; exact .inl ⟨as, ds, h, s, by rw [e]; exact q⟩
  | no => rw [e] at q; exact q.elim
  | ok x h1 =>
    rw [e] at q
    cases x with
    | tup l =>
      have q : PostI X.K X.mg W as σ H (.ok (.its l) h1) Q := q
      refine .inr ⟨as, ds, h, s, ?_⟩
      rw [e]
      intro v H1 as1 g r hr
      cases r with
      | val r => cases r with
        | tup h rs => exact ⟨_, rfl, ⟨_, h⟩, q _ H1 as1 g hr (walkD_tup h rs)⟩
    | lst l =>
      have q : PostI X.K X.mg W as σ H (.ok (.its l) h1) Q := q
      refine .inl ⟨as, ds, h, s, ?_⟩
      rw [e]
      intro v H1 as1 g r hr
      cases r with
      | val r => cases r with
        | lst h n rs => exact ⟨_, rfl, ⟨_, SqL.of h⟩, q _ H1 as1 g hr (walkD_lst (fun as2 H2 g2 => SqL.of (g2.fr _ _ h fun z => absurd z n)) rs)⟩
    | frz l =>
      have q : PostI X.K X.mg W as σ H (.ok (.its l) h1) Q := q
      refine .inl ⟨as, ds, h, s, ?_⟩
      rw [e]
      intro v H1 as1 g r hr
      cases r with
      | val r => cases r with
        | frz h rs => exact ⟨_, rfl, ⟨_, h.sq⟩, q _ H1 as1 g hr (walkD_lst (fun as2 H2 g2 => (frzL_fr g2.fr h).sq) rs)⟩
    | loc n =>
      refine .inl ⟨as, ds, h, s, ?_⟩
      rw [e]
      intro v H1 as1 g r hr
      cases r with
      | val r => cases r
      | loc ha =>
        obtain ⟨c, e1, cr⟩ := hr.get ha
        cases cr with
        | @lst a vs l hh rs =>
          have q : PostI X.K X.mg W as σ H (match srcOf (.loc n) h1 with | some s => .ok s h1 | none => .no) Q := q
          have es : srcOf (.loc n) h1 = some (.cell n l.length) := by simp only [srcOf, e1]
          rw [es] at q
          exact ⟨_, rfl, ⟨_, SqL.of hh⟩, q _ H1 as1 g hr (walkD_cell ha)⟩
        | dct hh _ _ =>
          have q : PostI X.K X.mg W as σ H (match srcOf (.loc n) h1 with | some s => .ok s h1 | none => .no) Q := q
          simp only [srcOf, e1] at q
          exact q.elim
    | _ => exact q.elim
theorem di_range1 (ha : DA X W [a] me) (hm : X.mg "range" = none) (hg : Gl X "range" := by rfl) (hs : starEach [a] X.env = [(false, eval a X.env)] := by rfl) : DI X W tg (.Call (.Name "range" p) [a] [] pos) (mSrcA rng1 me) := by
  refine PI.imp (pi_range1 hg hm ha hs) fun σ H Q ⟨as, ds, h, s, q⟩ => ⟨as, ds, h, s, PostI.bindA q fun xs h1 vs H1 as1 f1 r1 hr1 p1 => ?_⟩
  have rt := r1.rts hr1
  revert p1 rt
  generalize xs.map (rd h1) = ys
  intro p1 rt
  cases rt with
  | nil => exact p1.elim
  | cons r t =>
    cases t with
    | cons _ _ => rename_i x _ _ _ _ _ _ _; cases x <;> exact p1.elim
    | nil =>
      rename_i x v
      cases x with
      | int j =>
        cases r.int
        by_cases hc : j < 2 ^ 62 ∧ -(2 ^ 62) ≤ j
        · simp only [rng1, if_pos hc] at p1
          exact ⟨j, rfl, hc.2, hc.1, p1 _ H1 as1 .refl hr1 walkD_range⟩
        · simp only [rng1, if_neg hc] at p1; exact p1.elim
      | _ => exact p1.elim
theorem di_range2 (ha : DA X W [a, b] me) (hm : X.mg "range" = none) (hg : Gl X "range" := by rfl) (hs : starEach [a, b] X.env = [(false, eval a X.env), (false, eval b X.env)] := by rfl) (hs2 : starEach [b] X.env = [(false, eval b X.env)] := by rfl) : DI X W tg (.Call (.Name "range" p) [a, b] [] pos) (mSrcA rng2 me) := by
  refine PI.imp (pi_range2 hg hm ha hs hs2) fun σ H Q ⟨as, ds, h, s, q⟩ => ⟨as, ds, h, s, PostI.bindA q fun xs h1 vs H1 as1 f1 r1 hr1 p1 => ?_⟩
  have rt := r1.rts hr1
  revert p1 rt
  generalize xs.map (rd h1) = ys
  intro p1 rt
  match ys, vs, rt with
  | [], _, _ => exact p1.elim
  | [x], _, _ => cases x <;> exact p1.elim
  | x :: y :: z :: l, _, _ => cases x <;> first | exact p1.elim | (cases y <;> exact p1.elim)
  | [x, y], [v, u], .cons r (.cons r2 .nil) =>
    cases x with
    | int i =>
      cases y with
      | int j =>
        cases r.int
        cases r2.int
        by_cases hc : -(2 ^ 62) ≤ i ∧ i < 2 ^ 62 ∧ -(2 ^ 62) ≤ j ∧ j < 2 ^ 62
        · simp only [rng2, if_pos hc] at p1
          exact ⟨i, j, rfl, hc, p1 _ H1 as1 .refl hr1 walkD_range⟩
        · simp only [rng2, if_neg hc] at p1; exact p1.elim
      | _ => exact p1.elim
    | _ => exact p1.elim
end
end DL

set_option Elab.async false
set_option linter.all false
set_option maxRecDepth 100000
set_option maxHeartbeats 4000000
namespace DL
open PySem PySem.Spec PyProof.Rows L2

/-! ### comprehensions -/
def R.noex {α : Type} : R α → R α
  | .ok a h => .ok a h
  | _ => .no
/-- n: the place of the new list's cell -/
def lcGo (n : Nat) (ds0 : Ev) (s : Src) (t : Tg) (tt : M Bool) (te : M D) : Nat → Nat → Hs → R D
  | 0, _, hh => if srcEnd s hh then (match hh[n]? with
    | some (.lst acc) => .ok (.lst acc) (hh.take n)
    | _ => .no) else .no
  | k + 1, i, hh => match (srcAt s hh i).bind fun x => asgT t x ds0 with
    | none => .no
    | some ds => (tt ds hh).noex.bind fun b h2 => if b then (te ds h2).noex.bind fun y h3 => (match h3[n]? with
        | some (.lst acc) => if isLoc y = false ∧ acc.length < 16777216 then lcGo n ds0 s t tt te k (i + 1) ((h3.take (n + 1)).set n (.lst (acc ++ [y]))) else .no
        | _ => .no) else lcGo n ds0 s t tt te k (i + 1) (h2.take (n + 1))
def mLc (src : M Src) (vs : List Nat) (t : Tg) (tt : M Bool) (te : M D) : M D := fun ds h => (src ds h).bind fun s h1 => lcGo h1.length (wipeD ds vs) s t tt te s.len 0 (h1 ++ [.lst []])
abbrev W0 : WX := fun _ _ _ _ => False
def mYes : M Bool := fun _ h => .ok true h
abbrev DTs (X : Cx) (ifs : List Expr) (m : M Bool) : Prop := PTs X ifs (ttM X.K X.mg W0 m)
section
variable {X : Cx} {W : WX} {pos p : Pos} {a b c e : Expr} {es : List Expr} {ma mb mc : M D} {me : M (List D)}
theorem PTs.imp {ifs : List Expr} {t t' : TT} (p : PTs X ifs t) (h : ∀ σ H Q, t' σ H Q → t σ H Q) : PTs X ifs t' := ⟨fun pins s σ H Q I q => p.run pins s σ H Q I (h σ H Q q)⟩
theorem dts_nil : DTs X [] mYes := PTs.imp pts_nil fun σ H Q ⟨as, ds, h, s, p⟩ => p H as .refl s.heap
theorem dts_one {tc : M Bool} (h : DT X W0 c tc) : DTs X [c] tc := pts_one h
theorem PostT.noex {K : PySem.W.Frag} {mg : Str → Option Value} {as : List Addr} {σ : L2.St} {H : Hp} {r : R Bool} {k : Bool → Hs → R D} {Q : VK} {Q' : Bool → Hp → Prop} (p : PostE K mg W as σ H (r.noex.bind k) Q)
    (n : ∀ b h H1 as1, Grow as H as1 H1 → HeapR K H1 as1 h → PostE K mg W as1 σ H1 (k b h) Q → Q' b H1) {σ' : L2.St} : PostT K mg W0 as σ' H r Q' := by
  cases r with
  | ok d h => exact fun H1 as1 f hr => n d h H1 as1 f hr (PostE.grow f p)
  | ex c q h => exact p.elim
  | no => exact p
theorem PostE.noex {K : PySem.W.Frag} {mg : Str → Option Value} {as : List Addr} {σ : L2.St} {H : Hp} {r : R D} {k : D → Hs → R D} {Q Q' : VK} (p : PostE K mg W as σ H (r.noex.bind k) Q)
    (n : ∀ d h v H1 as1, Grow as H as1 H1 → RD K H1 as1 d v → HeapR K H1 as1 h → PostE K mg W as1 σ H1 (k d h) Q → Q' v H1) {σ' : L2.St} : PostE K mg W0 as σ' H r Q' := by
  cases r with
  | ok d h => exact fun v H1 as1 f r1 hr => n d h v H1 as1 f r1 hr (PostE.grow f p)
  | ex c q h => exact p.elim
  | no => exact p
theorem HeapR.get2 {K : PySem.W.Frag} {H : Hp} {as : List Addr} {h : Hs} (r : HeapR K H as h) {n : Nat} {d : D} (e : h[n]? = some d) : ∃ a, as[n]? = some a ∧ CellR K H as d a := by
  have hl : n < h.length := (List.getElem?_eq_some_iff.mp e).1
  have hl2 : n < as.length := by rw [r.len]; exact hl
  exact ⟨as[n], List.getElem?_eq_getElem hl2, r.at_ n d _ e (List.getElem?_eq_getElem hl2)⟩
/-- to the first places again -/
theorem back1 {K : PySem.W.Frag} {H H' : Hp} {as as' : List Addr} {h : Hs} {ds : Ev} {σ : L2.St} (g : Grow as H as' H') (r : HeapR K H' as' h) (s : EvR K H as ds σ) {m : Nat} (hm : as.length = m) : StR K H' as ds (h.take m) σ := by
  subst hm
  exact ⟨s.grow g.back, r.back g⟩
theorem lc_post {ms : M Src} {t : Tg} {mt : M Bool} {vs : List Nat} (hsub : ∀ i ∈ t.ns, i ∈ vs) {σ : L2.St} {H0 : Hp} {Q : VK} (q : teM X.K X.mg W (mLc ms vs t mt ma) σ H0 Q) :
    tLc (tiM X.K X.mg W ms) (gOf X.K t) (ttM X.K X.mg W0 mt) (teM X.K X.mg W0 ma) vs σ H0 Q := by
  obtain ⟨as, ds, h, s, q⟩ := q
  refine ⟨as, ds, h, s, ?_⟩
  unfold mLc at q
  cases es : ms ds h with
  | ex c p h1 => rw [es] at q; exact q
  | no => rw [es] at q; exact q
  | ok sr h1 =>
    rw [es] at q
    intro J H as1 g hr wk D hD
    have q : PostE X.K X.mg W as σ H0 (lcGo h1.length (wipeD ds vs) sr t mt ma sr.len 0 (h1 ++ [.lst []])) Q := q
    have q := PostE.grow g q
    obtain ⟨g2, hr2⟩ := hr.push hD (vs := []) (ds := []) .nil
    have len : as1.length = h1.length := hr.len
    generalize hn : h1.length = n at q len
    have hD1 : ∀ as' : List Addr, as1 ++ [D] <+: as' → as'[n]? = some D := fun as' hp => pre_get hp (by rw [← len]; simp)
    have len1 : (as1 ++ [D]).length = n + 1 := by simp [len]
    refine ⟨fun i m H' => m + i = sr.len ∧ ∃ hh, Grow as1 H (as1 ++ [D]) H' ∧ StR X.K H' (as1 ++ [D]) (wipeD ds vs) hh (L2.wipe σ vs) ∧ PostE X.K X.mg W as1 σ H (lcGo n (wipeD ds vs) sr t mt ma m i hh) Q, ⟨sr.len, rfl, _, g2, ⟨((s.env.grow g).grow g2).wipe vs, hr2⟩, q⟩, ?_⟩
    rintro i m H' ⟨hmi, hh, g3, s3, q3⟩
    cases m with
    | zero =>
      refine .inl ?_
      cases ee : srcEnd sr hh with
      | false => simp only [lcGo, ee] at q3; exact q3.elim
      | true =>
        have hi' : i = sr.len := by omega
        subst hi'
        refine ⟨wk.stop hh H' _ g3 s3.heap ee, ?_⟩
        simp only [lcGo, ee, if_true] at q3
        cases ea : hh[n]? with
        | none => rw [ea] at q3; exact q3.elim
        | some c =>
          rw [ea] at q3
          obtain ⟨a, e1, cr⟩ := s3.heap.get2 ea
          have e2 := hD1 _ (List.prefix_refl _)
          rw [e1] at e2; cases e2
          cases cr with
          | dct _ _ _ => exact q3.elim
          | lst hh' rs =>
            have sub : ∀ b ∈ as1, b ∈ as1 ++ [D] := fun b hb => List.mem_append_left _ hb
            refine q3 (.ref D) H' as1 g3.back (.val (.lst hh' (hr.notin hD) (rs.shrink sub))) ?_
            have := s3.heap.back g3
            rw [len] at this
            exact this
    | succ m =>
      refine .inr ?_
      cases eb : (srcAt sr hh i).bind fun x => asgT t x (wipeD ds vs) with
      | none => simp only [lcGo, eb] at q3; exact q3.elim
      | some ds1 =>
        obtain ⟨x, ex, e2⟩ := Option.bind_eq_some_iff.mp eb
        obtain ⟨go, yl⟩ := wk.go i hh H' _ x g3 s3.heap ex
        refine ⟨go, _, fun H'' w => ⟨m, Nat.lt_succ_self m, w⟩, fun v H2 y => ?_⟩
        obtain ⟨sm, rv⟩ := yl v H2 y
        refine asg_ok t (s3.env.grow (.of_same sm)) (.val rv) e2 fun σ2 s4 wp => ⟨(wp vs hsub).trans (wipe_idem fun _ h => h), ?_⟩
        refine ⟨as1 ++ [D], ds1, hh, ⟨s4, s3.heap.same sm⟩, ?_⟩
        simp only [lcGo, eb] at q3
        cases ett : mt ds1 hh with
        | ex c p h2 => rw [ett] at q3; exact q3.elim
        | no => rw [ett] at q3; exact q3.elim
        | ok b h2 =>
          rw [ett] at q3
          simp only [R.noex, R.bind] at q3
          intro H3 as3 g4 hr3
          have gA : Grow (as1 ++ [D]) H' as3 H3 := (Grow.of_same sm).trans g4
          cases b with
          | false =>
            simp only [Bool.false_eq_true, if_false] at q3 ⊢
            exact ⟨by omega, _, g3.trans gA.back, back1 gA hr3 s3.env len1, q3⟩
          | true =>
            simp only [if_true] at q3 ⊢
            refine ⟨as3, ds1, h2, ⟨s4.grow g4, hr3⟩, ?_⟩
            cases ete : ma ds1 h2 with
            | ex c p h3 => rw [ete] at q3; exact q3.elim
            | no => rw [ete] at q3; exact q3.elim
            | ok y h3 =>
              rw [ete] at q3
              simp only [R.noex, R.bind] at q3
              intro v4 H4 as4 g5 r4 hr4
              have gB : Grow (as1 ++ [D]) H' as4 H4 := gA.trans g5
              cases ea : h3[n]? with
              | none => rw [ea] at q3; exact q3.elim
              | some c =>
                rw [ea] at q3
                obtain ⟨a, e1, cr⟩ := hr4.get2 ea
                have e3 := hD1 _ gB.pre
                rw [e1] at e3; cases e3
                cases cr with
                | dct _ _ _ => exact q3.elim
                | @lst _ accV acc hh' rs =>
                  simp only at q3
                  by_cases hcnd : isLoc y = false ∧ acc.length < 16777216
                  · rw [if_pos hcnd] at q3
                    have sub : ∀ b ∈ as1 ++ [D], b ∈ as4 := gB.sub
                    have st := back1 gB hr4 s3.env len1
                    obtain ⟨g6, hr6⟩ := st.heap.write (n := n) (q := D) (hD1 _ (List.prefix_refl _)) ((rs.shrink sub).append (.cons ((r4.rv hcnd.1).shrink sub) .nil))
                    exact ⟨accV, hh', by rw [sizeLine_eq, ← rs.length]; exact hcnd.2, by omega, _, (g3.trans gB.back).trans g6, ⟨st.env.grow g6, hr6⟩, q3⟩
                  · rw [if_neg hcnd] at q3; exact q3.elim
theorem de_lc {elt tg iter : Expr} {ifs : List Expr} {scope : Scope} {own : List (Str × Nat)} {ms : M Src} {t : Tg} {mt : M Bool} (hN : X.N.Nodup) (hi : DI X W tg iter ms) (ok : BlkOk X.N X.env.scope scope own)
    (hg : ∀ (s : Shared) (H : Hp) (C : Addr) (cl : List (Str × Addr)) (fp : List Addr), DG (X.blk s H scope (compEnvC scope cl C X.env) fp) tg t) (ht : ∀ (s : Shared) (H : Hp) (C : Addr) (cl : List (Str × Addr)) (fp : List Addr), DTs (X.blk s H scope (compEnvC scope cl C X.env) fp) ifs mt)
    (he : ∀ (s : Shared) (H : Hp) (C : Addr) (cl : List (Str × Addr)) (fp : List Addr), DE (X.blk s H scope (compEnvC scope cl C X.env) fp) W0 elt ma) (hsub : ∀ i ∈ t.ns, i ∈ own.map (·.2) := by decide) (hc : X.calm = true := by rfl) (hs : ∀ x, foldedSetIterable iter X.env x = pure x := by intro _; rfl) :
    DE X W (.ListComp elt [⟨tg, iter, ifs, 0⟩] scope pos) (mLc ms (own.map (·.2)) t mt ma) :=
  PE.imp (pe_lc (wi := tiM X.K X.mg W ms) (g := gOf X.K t) (tt := ttM X.K X.mg W0 mt) (te := teM X.K X.mg W0 ma) hc hN hi ok hg ht he hs) fun σ H0 Q q => lc_post hsub q
end
end DL

set_option Elab.async false
set_option linter.all false
set_option maxRecDepth 100000
set_option maxHeartbeats 4000000
namespace DL
open PySem PySem.Spec PyProof.Rows L2

/-! ### statements -/
def sRet (ma : M D) : SM := fun ds h => match ma ds h with
  | .ok d h1 => .rt d h1
  | .ex c p h1 => .ex c p ds h1
  | .no => .no
def sRetN : SM := fun _ h => .rt .non h
def sPass : SM := fun ds h => .nx ds h
def sBrk : SM := fun ds h => .bk ds h
def sCnt : SM := fun ds h => .ct ds h
def sNo : SM := fun _ _ => .no
def sDrop (ma : M D) : SM := fun ds h => match ma ds h with
  | .ok _ h1 => .nx ds h1
  | .ex c p h1 => .ex c p ds h1
  | .no => .no
def sAsg (t : Tg) (ma : M D) : SM := fun ds h => match ma ds h with
  | .ok d h1 => (match asgT t d ds with
    | some ds' => .nx ds' h1
    | none => .no)
  | .ex c p h1 => .ex c p ds h1
  | .no => .no
def sSeq (m1 m2 : SM) : SM := fun ds h => match m1 ds h with
  | .nx ds' h' => m2 ds' h'
  | r => r
def sIf (mc : M Bool) (m1 m2 : SM) : SM := fun ds h => match mc ds h with
  | .ok b h1 => if b then m1 ds h1 else m2 ds h1
  | .ex c p h1 => .ex c p ds h1
  | .no => .no
def sPar (is : List Nat) (me : M (List D)) : SM := fun ds h => match me ds h with
  | .ok xs h1 => if xs.length = is.length then .nx ((is.zip xs).foldl (fun ds p => ds.set p.1 (some p.2)) ds) h1 else .no
  | .ex c p h1 => .ex c p ds h1
  | .no => .no
def isLstAt (h : Hs) (n : Nat) : Bool := match h[n]? with
  | some (.lst _) => true
  | _ => false
/-- x.append(e), x a cell -/
def sApp (mo ma : M D) : SM := fun ds h => match mo ds h with
  | .ok (.loc n) h1 => if isLstAt h1 n = false then .no else (match ma ds h1 with
    | .ok y h2 => (match h2[n]? with
      | some (.lst l) => if isLoc y = false ∧ l.length < 16777216 then .nx ds (h2.set n (.lst (l ++ [y]))) else .no
      | _ => .no)
    | .ex c p h2 => .ex c p ds h2
    | .no => .no)
  | _ => .no
/-- x[i] = e, x a cell: the value first -/
def sPut (mo mi mv : M D) : SM := fun ds h => match mv ds h with
  | .ok y h1 => (match mo ds h1 with
    | .ok (.loc n) h2 => (match mi ds h2 with
      | .ok (.int i) h3 => (match h3[n]? with
        | some (.lst l) => (match ixN l.length i with
          | some j => if isLoc y = false then .nx ds (h3.set n (.lst (l.set j y))) else .no
          | none => .no)
        | _ => .no)
      | _ => .no)
    | _ => .no)
  | .ex c p h1 => .ex c p ds h1
  | .no => .no
section
variable {X : Cx} {W : WX} {pos p : Pos} {a b c e o i : Expr} {es : List Expr} {ma mb mc mo mi mv : M D} {me : M (List D)} {st : Stmt} {sts xs ys : List Stmt} {m1 m2 : SM} {tc : M Bool}
theorem ds_ret (ha : DE X W e ma) : DS X W (.Return (some e) pos) (sRet ma) := PS.imp (ps_ret ha) fun Dn σ H ⟨as, ds, h, s, p⟩ => ⟨as, ds, h, s, by
  unfold sRet at p
  cases e : ma ds h with
  | ok d h1 => rw [e] at p; exact p
  | ex c q h1 => rw [e] at p; exact fun cls dx H' as' g hr x => p σ cls dx H' as' g ⟨s.env.grow g, hr⟩ x
  | no => rw [e] at p; exact p⟩
theorem ds_retN : DS X W (.Return none pos) sRetN := PS.imp ps_retN fun Dn σ H ⟨as, ds, h, s, p⟩ => p .non H as .refl (.val .non) s.heap
theorem ds_pass : DS X W (.Pass pos) sPass := PS.imp ps_pass fun Dn σ H ⟨as, ds, h, s, p⟩ => p σ H as .refl s
theorem ds_brk : DS X W (.Break pos) sBrk := PS.imp ps_break fun Dn σ H ⟨as, ds, h, s, p⟩ => p σ H as .refl s
theorem ds_cnt : DS X W (.Continue pos) sCnt := PS.imp ps_continue fun Dn σ H ⟨as, ds, h, s, p⟩ => p σ H as .refl s
theorem ds_doc {x : Str} {j : Nat} {pos' : Pos} : DS X W (.Expr (.Constant (.str x) j pos) pos') sPass := PS.imp ps_doc fun Dn σ H ⟨as, ds, h, s, p⟩ => p σ H as .refl s
theorem ds_no : DS X W st sNo := PS.imp ps_never fun Dn σ H ⟨as, ds, h, s, p⟩ => p
theorem dss_no : DSs X W sts sNo := PSs.imp pss_never fun Dn σ H ⟨as, ds, h, s, p⟩ => p
theorem ds_expr (ha : DE X W e ma) (hs : swapsWith e none pos.line X.env = pure false := by rfl) : DS X W (.Expr e pos) (sDrop ma) := PS.imp (ps_expr ha hs) fun Dn σ H ⟨as, ds, h, s, p⟩ => ⟨as, ds, h, s, by
  unfold sDrop at p
  cases e : ma ds h with
  | ok d h1 => rw [e] at p; exact fun v H' as' g r hr => p σ H' as' g ⟨s.env.grow g, hr⟩
  | ex c q h1 => rw [e] at p; exact fun cls dx H' as' g hr x => p σ cls dx H' as' g ⟨s.env.grow g, hr⟩ x
  | no => rw [e] at p; exact p⟩
theorem asg_core {t : Tg} {Dn : Ends} {σ : L2.St} {H : Hp} (q : tsM X.K X.mg W (sAsg t ma) Dn σ H) : teM X.K X.mg W ma σ H fun x H1 => gOf X.K t x σ H1 Dn.nx := by
  obtain ⟨as, ds, h, s, p⟩ := q
  refine ⟨as, ds, h, s, ?_⟩
  unfold sAsg at p
  cases e : ma ds h with
  | ok d h1 =>
    rw [e] at p
    simp only at p
    cases e2 : asgT t d ds with
    | none => rw [e2] at p; exact p.elim
    | some ds' =>
      rw [e2] at p
      exact fun v H' as' g r hr => asg_ok t (s.env.grow g) r e2 fun σ' s' _ => p σ' H' as' g ⟨s', hr⟩
  | ex c q h1 => rw [e] at p; exact fun cls dx H' as' g hr x => p σ cls dx H' as' g ⟨s.env.grow g, hr⟩ x
  | no => rw [e] at p; exact p
theorem ds_set {i : Nat} {x : Str} {pos' : Pos} (hN : X.N.Nodup) (hi : X.N[i]? = some x) (hx : Loc X.env.scope x) (ha : DE X W e ma) (hs : swapsWith e (some (.Name x pos')) pos.line X.env = pure false := by rfl) (hf : X.fn x = true ∨ X.env.scope.names.lookup x = some .local := by first | exact .inl rfl | exact .inr rfl | assumption) :
    DS X W (.Assign [.Name x pos'] e pos) (sAsg (.nm i) ma) := PS.imp (ps_set hN hi hx ha hs hf) fun Dn σ H q => by
  have := asg_core q
  simp only [gOf] at this
  exact this
theorem ds_asg {tg : Expr} {t : Tg} (ha : DE X W e ma) (hg : DG X tg t) (hs : swapsWithSole [tg] e pos.line X.env = pure false := by rfl) (hw : swappedStores [tg] e X.env = pure none := by rfl) (h1 : (assignEach [tg] X.env).map (·.2) = [assign tg X.env] := by rfl) :
    DS X W (.Assign [tg] e pos) (sAsg t ma) := PS.imp (ps_asg ha hg hs hw h1) fun Dn σ H q => asg_core q
theorem ds_par2 {i j : Nat} {x y : Str} {px py pt : Pos} {kt k2 pt2} (hN : X.N.Nodup) (hi : X.N[i]? = some x) (hj : X.N[j]? = some y) (hx : X.env.scope.names.lookup x = some .local) (hy : X.env.scope.names.lookup y = some .local) (ha : DA X W [a, b] me)
    (hij : i ≠ j := by decide) (hc : X.calm = true := by rfl) (hw : swappedStores [.Tuple [.Name x px, .Name y py] kt pt] (.Tuple [a, b] k2 pt2) X.env = pure (some [x, y]) := by rfl) (hs : swapsWithSole [.Tuple [.Name x px, .Name y py] kt pt] (.Tuple [a, b] k2 pt2) pos.line X.env = pure false := by rfl) :
    DS X W (.Assign [.Tuple [.Name x px, .Name y py] kt pt] (.Tuple [a, b] k2 pt2) pos) (sPar [i, j] me) :=
  PS.imp (ps_par hc hN hi hj hij hx hy ha hw hs) fun Dn σ H ⟨as, ds, h, s, p⟩ => ⟨as, ds, h, s, by
    unfold sPar at p
    cases e : me ds h with
    | ok xs h1 =>
      rw [e] at p
      simp only at p
      intro vs H' as' g r hr
      match xs, vs, r with
      | [], _, _ => exact p.elim
      | [_], _, _ => exact p.elim
      | _ :: _ :: _ :: _, _, _ => exact (by simp at p; exact p.elim)
      | [d, d'], [v, v'], .cons r1 (.cons r2 .nil) => exact ⟨v, v', rfl, p _ H' as' g ⟨(((s.env.grow g).set r1 i).set r2 j), hr⟩⟩
    | ex c q h1 => rw [e] at p; exact fun cls dx H' as' g hr x => p σ cls dx H' as' g ⟨s.env.grow g, hr⟩ x
    | no => rw [e] at p; exact p⟩
theorem ds_lc {i : Nat} {y : Str} {py : Pos} {elt tg iter : Expr} {ifs : List Expr} {scope : Scope} {own : List (Str × Nat)} {spos : Pos} {ms : M Src} {t : Tg} {mt : M Bool} (hN : X.N.Nodup) (hy : X.N[i]? = some y) (hyl : X.env.scope.names.lookup y = some .local)
    (hsw : swapsWith (.ListComp elt [⟨tg, iter, ifs, 0⟩] scope pos) (some (.Name y py)) spos.line X.env = pure true) (hi : DI X W tg iter ms) (ok : BlkOk X.N X.env.scope scope own)
    (hg : ∀ (s : Shared) (H : Hp) (C : Addr) (cl : List (Str × Addr)) (fp : List Addr), DG (X.blk s H scope (compEnvC scope cl C X.env) fp) tg t) (ht : ∀ (s : Shared) (H : Hp) (C : Addr) (cl : List (Str × Addr)) (fp : List Addr), DTs (X.blk s H scope (compEnvC scope cl C X.env) fp) ifs mt)
    (he : ∀ (s : Shared) (H : Hp) (C : Addr) (cl : List (Str × Addr)) (fp : List Addr), DE (X.blk s H scope (compEnvC scope cl C X.env) fp) W0 elt ma) (hsub : ∀ i ∈ t.ns, i ∈ own.map (·.2) := by decide) (hc : X.calm = true := by rfl) (hs : ∀ x, foldedSetIterable iter X.env x = pure x := by intro _; rfl) :
    DS X W (.Assign [.Name y py] (.ListComp elt [⟨tg, iter, ifs, 0⟩] scope pos) spos) (sAsg (.nm i) (mLc ms (own.map (·.2)) t mt ma)) :=
  PS.imp (ps_setLc (wi := tiM X.K X.mg W ms) (g := gOf X.K t) (tt := ttM X.K X.mg W0 mt) (te := teM X.K X.mg W0 ma) hc hN hy hyl hsw hi ok hg ht he hs) fun Dn σ H q => by
    have := asg_core q
    simp only [gOf] at this
    exact lc_post hsub this
theorem dss_nil : DSs X W [] sPass := PSs.imp pss_nil fun Dn σ H ⟨as, ds, h, s, p⟩ => p σ H as .refl s
theorem dss_cons (h1 : DS X W st m1) (h2 : DSs X W sts m2) : DSs X W (st :: sts) (sSeq m1 m2) := PSs.imp (pss_cons h1 h2) fun Dn σ H ⟨as, ds, h, s, p⟩ => ⟨as, ds, h, s, by
  unfold sSeq at p
  cases e : m1 ds h with
  | nx ds' h' => rw [e] at p; exact fun σ' H' as' g s' => ⟨as', ds', h', s', PostS.grow g p⟩
  | rt d h' => rw [e] at p; exact p
  | bk ds' h' => rw [e] at p; exact p
  | ct ds' h' => rw [e] at p; exact p
  | ex c q ds' h' => rw [e] at p; exact p
  | no => rw [e] at p; exact p⟩
theorem dss_one (h1 : DS X W st m1) : DSs X W [st] m1 := pss_one h1
theorem ds_if (hc : DT X W c tc) (h1 : DSs X W xs m1) (h2 : DSs X W ys m2) : DS X W (.If c xs ys pos) (sIf tc m1 m2) := PS.imp (ps_if hc h1 h2) fun Dn σ H ⟨as, ds, h, s, p⟩ => ⟨as, ds, h, s, by
  unfold sIf at p
  cases e : tc ds h with
  | ok b h1 =>
    rw [e] at p
    intro H' as' g hr
    cases b with
    | true => exact ⟨as', ds, h1, ⟨s.env.grow g, hr⟩, PostS.grow g p⟩
    | false => exact ⟨as', ds, h1, ⟨s.env.grow g, hr⟩, PostS.grow g p⟩
  | ex c q h1 => rw [e] at p; exact fun cls dx H' as' g hr x => p σ cls dx H' as' g ⟨s.env.grow g, hr⟩ x
  | no => rw [e] at p; exact p⟩
end
end DL

set_option Elab.async false
set_option linter.all false
set_option maxRecDepth 100000
set_option maxHeartbeats 4000000
namespace DL
open PySem PySem.Spec PyProof.Rows L2

/-- loops: what was made within a turn is forgotten behind it -/
def gcE (n0 : Nat) (ds : Ev) : Ev := ds.map fun o => match o with
  | some (.loc n) => if n < n0 then o else none
  | o => o
def forGo (n0 : Nat) (s : Src) (t : Tg) (body : SM) : Nat → Nat → Ev → Hs → SR
  | 0, _, ds, h => if srcEnd s h then .nx ds h else .no
  | k + 1, i, ds, h => match (srcAt s h i).bind fun x => asgT t x ds with
    | none => .no
    | some ds1 => match body ds1 h with
      | .nx ds2 h2 => forGo n0 s t body k (i + 1) (gcE n0 ds2) (h2.take n0)
      | .ct ds2 h2 => forGo n0 s t body k (i + 1) (gcE n0 ds2) (h2.take n0)
      | .bk ds2 h2 => .nx ds2 h2
      | r => r
def sFor (ms : M Src) (t : Tg) (body : SM) : SM := fun ds h => match ms ds h with
  | .ok s h1 => forGo h1.length s t body s.len 0 ds h1
  | .ex c p h1 => .ex c p ds h1
  | .no => .no
def whileGo (n0 : Nat) (c : M Bool) (body : SM) : Nat → Ev → Hs → SR
  | 0, _, _ => .no
  | k + 1, ds, h => match c ds h with
    | .ok b h1 => if b then (match body ds h1 with
        | .nx ds2 h2 => whileGo n0 c body k (gcE n0 ds2) (h2.take n0)
        | .ct ds2 h2 => whileGo n0 c body k (gcE n0 ds2) (h2.take n0)
        | .bk ds2 h2 => .nx ds2 h2
        | r => r) else .nx ds h1
    | .ex e p h1 => .ex e p ds h1
    | .no => .no
def sWhile (fuel : Nat) (c : M Bool) (body : SM) : SM := fun ds h => whileGo h.length c body fuel ds h
theorem RD.shrink {K : PySem.W.Frag} {H H' : Hp} {as as' : List Addr} (g : Grow as H as' H') {d : D} {v : V} (r : RD K H' as' d v) (h : ∀ n, d = .loc n → n < as.length) : RD K H' as d v := by
  cases r with
  | val r => exact .val (r.shrink g.sub)
  | @loc n a e =>
    obtain ⟨t, rfl⟩ := g.pre
    rw [List.getElem?_append_left (h n rfl)] at e
    exact .loc e
theorem EvR.gc {K : PySem.W.Frag} {H H' : Hp} {as as' : List Addr} (g : Grow as H as' H') : ∀ {ds : Ev} {σ : L2.St}, EvR K H' as' ds σ → EvR K H' as (gcE as.length ds) σ
  | _, _, .nil => .nil
  | _, _, .cons (a := od) h t => by
    refine .cons (fun d e => ?_) (EvR.gc g t)
    cases od with
    | none => cases e
    | some d0 =>
      cases d0 with
      | loc n =>
        simp only at e
        split at e
        · rename_i hl
          cases e
          obtain ⟨v, e1, r⟩ := h _ rfl
          exact ⟨v, e1, r.shrink g fun m hm => by cases hm; exact hl⟩
        · cases e
      | _ =>
        cases e
        obtain ⟨v, e1, r⟩ := h _ rfl
        exact ⟨v, e1, r.shrink g fun m hm => nomatch hm⟩
theorem StR.gc {K : PySem.W.Frag} {H H' : Hp} {as as' : List Addr} {ds : Ev} {h : Hs} {σ : L2.St} (g : Grow as H as' H') (s : StR K H' as' ds h σ) : StR K H' as (gcE as.length ds) (h.take as.length) σ := ⟨s.env.gc g, s.heap.back g⟩
section
variable {X : Cx} {W : WX} {pos p : Pos} {a b c e o i : Expr} {es : List Expr} {ma mb mc mo mi mv : M D} {me : M (List D)} {st : Stmt} {sts xs ys : List Stmt} {m1 m2 mbd : SM} {tc : M Bool}
theorem app_post {Dn : Ends} {σ : L2.St} {H : Hp} (q : tsM X.K X.mg W (sApp mo ma) Dn σ H) : tDrop (tBM X.K "list" rAppend (teM X.K X.mg W mo) (taM X.K X.mg W (mCons ma mNil))) Dn σ H := by
  obtain ⟨as, ds, h, s, q⟩ := q
  refine ⟨as, ds, h, s, ?_⟩
  unfold sApp at q
  cases eo : mo ds h with
  | ex c p h1 => rw [eo] at q; exact q.elim
  | no => rw [eo] at q; exact q.elim
  | ok x h1 =>
    rw [eo] at q
    cases x with
    | loc n =>
      simp only at q
      intro v H1 as1 g1 r1 hr1
      cases r1 with
      | val r => cases r
      | @loc _ ad hat =>
        obtain ⟨c0, ec0, cr0⟩ := hr1.get hat
        cases cr0 with
        | dct hd _ _ => simp only [isLstAt, ec0] at q; exact q.elim
        | lst hl0 _ =>
          have ei : isLstAt h1 n = true := by simp only [isLstAt, ec0]
          rw [ei] at q
          simp only [Bool.true_eq_false, if_false] at q
          refine ⟨Or.inl ⟨rfl, _, Or.inl (Or.inl hl0)⟩, as1, ds, h1, ⟨s.env.grow g1, hr1⟩, ?_⟩
          unfold mCons mNil
          cases ea : ma ds h1 with
          | ex c p h2 => rw [ea] at q; exact fun cls dx H' as' g hr x => q σ cls dx H' as' (g1.trans g) ⟨s.env.grow (g1.trans g), hr⟩ x
          | no => rw [ea] at q; exact q.elim
          | ok y h2 =>
            rw [ea] at q
            simp only at q
            intro vs H2 as2 g2 r2 hr2
            cases r2 with
            | cons ry t =>
              cases t
              cases en : h2[n]? with
              | none => rw [en] at q; exact q.elim
              | some c =>
                rw [en] at q
                obtain ⟨a', e1, cr⟩ := hr2.get2 en
                have e2 := pre_get g2.pre hat
                rw [e1] at e2; cases e2
                cases cr with
                | dct _ _ _ => exact q.elim
                | @lst _ accV l hh rs =>
                  simp only at q
                  by_cases hc : isLoc y = false ∧ l.length < 16777216
                  · rw [if_pos hc] at q
                    obtain ⟨g3, hr3⟩ := hr2.write e1 (rs.append (.cons (ry.rv hc.1) .nil))
                    exact ⟨ad, accV, _, rfl, rfl, hh, by rw [sizeLine_eq, ← rs.length]; exact hc.2, q σ _ as2 ((g1.trans g2).trans g3) ⟨(s.env.grow (g1.trans g2)).grow g3, hr3⟩⟩
                  · rw [if_neg hc] at q; exact q.elim
    | _ => exact q.elim
theorem ds_app {apos : Pos} (ho : DE X W o mo) (ha : DA X W [e] (mCons ma mNil)) (hc : ∀ {to : TE} {t : TA}, PE X o to → PA X [e] t → PE X (.Call (.Attribute o "append" apos) [e] [] pos) (tBM X.K "list" rAppend to t) := by intro _ _ h1 h2; exact pe_bm PySem.F.plainAttrs_list PySem.F.slot_list_append PySem.F.type_list_append mt_append h1 h2)
    (hs : swapsWith (.Call (.Attribute o "append" apos) [e] [] pos) none p.line X.env = pure false := by rfl) : DS X W (.Expr (.Call (.Attribute o "append" apos) [e] [] pos) p) (sApp mo ma) :=
  PS.imp (ps_expr (hc ho ha) hs) fun Dn σ H q => app_post q
theorem put_post {Dn : Ends} {σ : L2.St} {H : Hp} (q : tsM X.K X.mg W (sPut mo mi mv) Dn σ H) : tAsg (teM X.K X.mg W mv) (gSub (teM X.K X.mg W mo) (teM X.K X.mg W mi) rSetL) Dn σ H := by
  obtain ⟨as, ds, h, s, q⟩ := q
  refine ⟨as, ds, h, s, ?_⟩
  unfold sPut at q
  cases ev : mv ds h with
  | ex c p h1 => rw [ev] at q; exact fun cls dx H' as' g hr x => q σ cls dx H' as' g ⟨s.env.grow g, hr⟩ x
  | no => rw [ev] at q; exact q.elim
  | ok y h1 =>
    rw [ev] at q
    intro v H1 as1 g1 r1 hr1
    refine ⟨as1, ds, h1, ⟨s.env.grow g1, hr1⟩, ?_⟩
    simp only at q
    cases eo : mo ds h1 with
    | ex c p h2 => rw [eo] at q; exact q.elim
    | no => rw [eo] at q; exact q.elim
    | ok x h2 =>
      rw [eo] at q
      intro vo H2 as2 g2 r2 hr2
      have s2 : StR X.K H2 as2 ds h2 σ := ⟨s.env.grow (g1.trans g2), hr2⟩
      refine ⟨as2, ds, h2, s2, ?_⟩
      cases x with
      | loc n =>
        simp only at q
        cases ei : mi ds h2 with
        | ex c p h3 => rw [ei] at q; exact q.elim
        | no => rw [ei] at q; exact q.elim
        | ok z h3 =>
          rw [ei] at q
          intro vi H3 as3 g3 r3 hr3
          cases z with
          | int i =>
            simp only at q
            cases en : h3[n]? with
            | none => rw [en] at q; exact q.elim
            | some c =>
              rw [en] at q
              obtain ⟨ad, e1, cr⟩ := hr3.get2 en
              cases cr with
              | dct _ _ _ => exact q.elim
              | @lst _ accV l hh rs =>
                simp only at q
                cases ej : ixN l.length i with
                | none => rw [ej] at q; exact q.elim
                | some j =>
                  rw [ej] at q
                  simp only at q
                  by_cases hl : isLoc y = false
                  · rw [if_pos hl] at q
                    cases r2 with
                    | val r => cases r
                    | @loc _ ad2 hat =>
                      have e2 := pre_get g3.pre hat
                      rw [e1] at e2; cases e2
                      cases r3 with
                      | val r3 =>
                        cases r3
                        obtain ⟨g4, hr4⟩ := hr3.write e1 (rs.set ((r1.grow (g2.trans g3)).rv hl) j)
                        exact ⟨ad, accV, i, j, rfl, rfl, hh, by rw [← rs.length]; exact ej, q σ _ as3 (((g1.trans g2).trans g3).trans g4) ⟨(s2.env.grow g3).grow g4, hr4⟩⟩
                  · rw [if_neg hl] at q; exact q.elim
          | _ => exact q.elim
      | _ => exact q.elim
theorem ds_put {tp : Pos} (ho : DE X W o mo) (hi : DE X W i mi) (hv : DE X W e mv)
    (ha : ∀ v, assign (.Subscript o i tp) X.env v = (do
      let ov ← holding [v] (eval o X.env)
      let iv ← holding [v, ov] (eval i X.env)
      standAt tp
      holding [v, ov, iv] (setItem ov iv v)
      release [v, ov, iv] []) := by intro _; rfl) (hs : swapsWithSole [.Subscript o i tp] e pos.line X.env = pure false := by rfl) (hw : swappedStores [.Subscript o i tp] e X.env = pure none := by rfl)
    (h1 : (assignEach [.Subscript o i tp] X.env).map (·.2) = [assign (.Subscript o i tp) X.env] := by rfl) : DS X W (.Assign [.Subscript o i tp] e pos) (sPut mo mi mv) :=
  PS.imp (ps_asg hv (pg_sub ho hi set_list ha) hs hw h1) fun Dn σ H q => put_post q
theorem for_post {ms : M Src} {t : Tg} {Dn : Ends} {σ : L2.St} {H : Hp} (q : tsM X.K X.mg W (sFor ms t mbd) Dn σ H) : tFor (tiM X.K X.mg W ms) (gOf X.K t) (tsM X.K X.mg W mbd) Dn σ H := by
  obtain ⟨as, ds, h, s, q⟩ := q
  refine ⟨as, ds, h, s, ?_⟩
  unfold sFor at q
  cases es : ms ds h with
  | ex c p h1 => rw [es] at q; exact fun cls dx H' as' g hr x => q σ cls dx H' as' g ⟨s.env.grow g, hr⟩ x
  | no => rw [es] at q; exact q.elim
  | ok sr h1 =>
    rw [es] at q
    intro J H1 as1 g hr wk
    have q : PostS X.K X.mg W as H (forGo h1.length sr t mbd sr.len 0 ds h1) Dn := q
    have q := PostS.grow g q
    have len : as1.length = h1.length := hr.len
    generalize hn : h1.length = n at q len
    refine ⟨fun i m σ' H' => m + i = sr.len ∧ ∃ ds' hh, Grow as1 H1 as1 H' ∧ StR X.K H' as1 ds' hh σ' ∧ PostS X.K X.mg W as1 H1 (forGo n sr t mbd m i ds' hh) Dn, ⟨sr.len, rfl, ds, h1, .refl, ⟨s.env.grow g, hr⟩, q⟩, ?_⟩
    rintro i m σ' H' ⟨hmi, ds', hh, g3, s3, q3⟩
    cases m with
    | zero =>
      refine .inl ?_
      cases ee : srcEnd sr hh with
      | false => simp only [forGo, ee] at q3; exact q3.elim
      | true =>
        have hi' : i = sr.len := by omega
        subst hi'
        simp only [forGo, ee, if_true] at q3
        exact ⟨wk.stop hh H' _ g3 s3.heap ee, q3 σ' H' as1 g3 s3⟩
    | succ m =>
      refine .inr ?_
      cases eb : (srcAt sr hh i).bind fun x => asgT t x ds' with
      | none => simp only [forGo, eb] at q3; exact q3.elim
      | some ds1 =>
        obtain ⟨x, ex, e2⟩ := Option.bind_eq_some_iff.mp eb
        obtain ⟨go, yl⟩ := wk.go i hh H' _ x g3 s3.heap ex
        refine ⟨go, _, fun σ'' H'' w => ⟨m, Nat.lt_succ_self m, w⟩, fun v H2 y => ?_⟩
        obtain ⟨sm, rv⟩ := yl v H2 y
        have gs : Grow as1 H' as1 H2 := .of_same sm
        refine asg_ok t (s3.env.grow gs) (.val rv) e2 fun σ2 s4 wp => ⟨as1, ds1, hh, ⟨s4, s3.heap.same sm⟩, ?_⟩
        simp only [forGo, eb] at q3
        cases ebd : mbd ds1 hh with
        | nx ds2 h2 =>
          rw [ebd] at q3
          intro σ5 H5 as5 g5 s5
          have := s5.gc g5
          rw [len] at this
          exact ⟨by omega, _, _, (g3.trans gs).trans g5.back, this, q3⟩
        | ct ds2 h2 =>
          rw [ebd] at q3
          intro σ5 H5 as5 g5 s5
          have := s5.gc g5
          rw [len] at this
          exact ⟨by omega, _, _, (g3.trans gs).trans g5.back, this, q3⟩
        | bk ds2 h2 => rw [ebd] at q3; exact fun σ5 H5 as5 g5 s5 => q3 σ5 H5 as5 ((g3.trans gs).trans g5) s5
        | rt d h2 => rw [ebd] at q3; exact fun v H5 as5 g5 => q3 v H5 as5 ((g3.trans gs).trans g5)
        | ex c p ds2 h2 => rw [ebd] at q3; exact fun σ5 cls dx H5 as5 g5 => q3 σ5 cls dx H5 as5 ((g3.trans gs).trans g5)
        | no => rw [ebd] at q3; exact q3.elim
theorem ds_for {tg iter : Expr} {body : List Stmt} {ms : M Src} {t : Tg} (hp : PassesOwn (model X.prog X.w) X.A X.env X.xe) (hi : DI X W tg iter ms) (hg : DG X tg t) (hb : DSs X W body mbd) (hc : X.calm = true := by rfl) (hs : ∀ x, foldedSetIterable iter X.env x = pure x := by intro _; rfl) :
    DS X W (.For tg iter body [] pos) (sFor ms t mbd) := PS.imp (ps_for hp hc hi hg hb hs) fun Dn σ H q => for_post q
theorem while_post {fuel : Nat} {Dn : Ends} {σ : L2.St} {H : Hp} (q : tsM X.K X.mg W (sWhile fuel tc mbd) Dn σ H) : tWhile (ttM X.K X.mg W tc) (tsM X.K X.mg W mbd) Dn σ H := by
  obtain ⟨as, ds, h, s, q⟩ := q
  unfold sWhile at q
  have len : as.length = h.length := s.heap.len
  generalize hn : h.length = n at q len
  refine ⟨fun m σ' H' => ∃ ds' hh, Grow as H as H' ∧ StR X.K H' as ds' hh σ' ∧ PostS X.K X.mg W as H (whileGo n tc mbd m ds' hh) Dn, ⟨fuel, ds, h, .refl, s, q⟩, ?_⟩
  rintro m σ' H' ⟨ds', hh, g3, s3, q3⟩
  cases m with
  | zero => exact q3.elim
  | succ m =>
    refine ⟨as, ds', hh, s3, ?_⟩
    simp only [whileGo] at q3
    cases ec : tc ds' hh with
    | ex c p h2 => rw [ec] at q3; exact fun cls dx H2 as2 g hr x => q3 σ' cls dx H2 as2 (g3.trans g) ⟨s3.env.grow g, hr⟩ x
    | no => rw [ec] at q3; exact q3.elim
    | ok b h1 =>
      rw [ec] at q3
      intro H2 as2 g2 hr2
      have s4 : StR X.K H2 as2 ds' h1 σ' := ⟨s3.env.grow g2, hr2⟩
      cases b with
      | false =>
        simp only [Bool.false_eq_true, if_false] at q3 ⊢
        exact q3 σ' H2 as2 (g3.trans g2) s4
      | true =>
        simp only [if_true] at q3 ⊢
        refine ⟨_, fun σ'' H'' w => ⟨m, Nat.lt_succ_self m, w⟩, as2, ds', h1, s4, ?_⟩
        cases ebd : mbd ds' h1 with
        | nx ds2 h2 =>
          rw [ebd] at q3
          intro σ5 H5 as5 g5 s5
          have := s5.gc (g2.trans g5)
          rw [len] at this
          exact ⟨_, _, g3.trans (g2.trans g5).back, this, q3⟩
        | ct ds2 h2 =>
          rw [ebd] at q3
          intro σ5 H5 as5 g5 s5
          have := s5.gc (g2.trans g5)
          rw [len] at this
          exact ⟨_, _, g3.trans (g2.trans g5).back, this, q3⟩
        | bk ds2 h2 => rw [ebd] at q3; exact fun σ5 H5 as5 g5 s5 => q3 σ5 H5 as5 ((g3.trans g2).trans g5) s5
        | rt d h2 => rw [ebd] at q3; exact fun v H5 as5 g5 => q3 v H5 as5 ((g3.trans g2).trans g5)
        | ex c p ds2 h2 => rw [ebd] at q3; exact fun σ5 cls dx H5 as5 g5 => q3 σ5 cls dx H5 as5 ((g3.trans g2).trans g5)
        | no => rw [ebd] at q3; exact q3.elim
theorem ds_while {body : List Stmt} {fuel : Nat} (hp : PassesOwn (model X.prog X.w) X.A X.env X.xe) (hc : DT X W c tc) (hb : DSs X W body mbd) : DS X W (.While c body [] pos) (sWhile fuel tc mbd) := PS.imp (ps_while hp hc hb) fun Dn σ H q => while_post q
end
end DL

set_option Elab.async false
set_option linter.all false
set_option maxRecDepth 100000
set_option maxHeartbeats 4000000
namespace DL
open PySem PySem.Spec PyProof.Rows L2

/-! ### a def by its body -/
/-- what is handed back: a list of its own as a value -/
def finV (n0 : Nat) : SR → R D
  | .nx _ h => .ok .non (h.take n0)
  | .rt (.loc n) h => if n < n0 then .ok (.loc n) (h.take n0) else (match h[n]? with
    | some (.lst l) => .ok (.lst l) (h.take n0)
    | _ => .no)
  | .rt d h => .ok d (h.take n0)
  | .ex c p _ h => .ex c p (h.take n0)
  | _ => .no
/-- .. as a cell, for the caller to change -/
def finC (n0 : Nat) : SR → R D
  | .rt (.loc n) h => if n < n0 then .no else (match h[n]? with
    | some (.lst l) => .ok (.loc n0) (h.take n0 ++ [.lst l])
    | _ => .no)
  | _ => .no
def mkF (np nl : Nat) (fin : Nat → SR → R D) (body : SM) : List D → Hs → R D := fun args h => if args.length = np then fin h.length (body (args.map some ++ List.replicate nl none) h) else .no
section
variable {K : PySem.W.Frag} {mg : Str → Option Value} {as : List Addr} {H : Hp}
theorem EvR.start : ∀ {ds : List D} {vs : List V}, RDs K H as ds vs → EvR K H as (ds.map some) (vs.map some)
  | _, _, .nil => .nil
  | _, _, .cons r t => .cons (fun d e => by cases e; exact ⟨_, rfl, r⟩) (EvR.start t)
theorem EvR.nones : ∀ n : Nat, EvR K H as (List.replicate n none) (List.replicate n none)
  | 0 => .nil
  | n + 1 => .cons (fun d e => nomatch e) (EvR.nones n)
theorem EvR.append : ∀ {ds es : Ev} {vs us : L2.St}, EvR K H as ds vs → EvR K H as es us → EvR K H as (ds ++ es) (vs ++ us)
  | _, _, _, _, .nil, r => r
  | _, _, _, _, .cons h t, r => .cons h (EvR.append t r)
theorem CellR.shrink {as' : List Addr} (h : ∀ a ∈ as, a ∈ as') {d : D} {a : Addr} (r : CellR K H as' d a) : CellR K H as d a := by
  cases r with
  | lst hh r => exact .lst hh (r.shrink h)
  | dct hh e r => exact .dct hh e (r.shrink h)
/-- how a body's end and a def's end fit -/
def FinOk (fin : Nat → SR → R D) : Prop := ∀ (K : PySem.W.Frag) (mg : Str → Option Value) (as : List Addr) (H : Hp) (r : SR) (Q : VK) (E : XK) , PostC K mg as H (fin as.length r) Q E → PostS K mg (fun cls d _ H => E cls d H) as H r { nx := fun _ H' => Q .non H', rt := Q }
theorem finV_ok : FinOk finV := by
  intro K mg as H r Q E p
  cases r with
  | nx ds h => exact fun σ H' as' g s => p .non H' as g.back (.val .non) (s.heap.back g)
  | rt d h =>
    intro v H' as' g r hr
    cases d with
    | loc n =>
      by_cases hn : n < as.length
      · simp only [finV, if_pos hn] at p
        exact p v H' as g.back (r.shrink g fun m hm => by cases hm; exact hn) (hr.back g)
      · simp only [finV, if_neg hn] at p
        cases r with
        | val r => cases r
        | @loc _ a e =>
          obtain ⟨c, ec, cr⟩ := hr.get e
          rw [ec] at p
          cases cr with
          | dct _ _ _ => exact p.elim
          | lst hh rs =>
            have na : a ∉ as := fun z => by
              obtain ⟨m, hm, em⟩ := List.getElem_of_mem z
              have e2 : as'[m]? = some a := pre_get g.pre (by rw [List.getElem?_eq_getElem hm, em])
              have := nodup_at hr.nd e e2
              omega
            exact p (.ref a) H' as g.back (.val (.lst hh na (rs.shrink g.sub))) (hr.back g)
    | _ => exact p v H' as g.back (r.shrink g fun m hm => nomatch hm) (hr.back g)
  | bk ds h => exact p.elim
  | ct ds h => exact p.elim
  | ex c q ds h => exact fun σ cls dx H' as' g s x => p cls dx H' as g.back (s.heap.back g) ⟨x.1, by
      have := x.2
      cases q with
      | none => trivial
      | some d =>
        obtain ⟨a, v, e1, e2, r⟩ := this
        exact ⟨a, v, e1, e2, r.shrink g.sub⟩⟩
  | no => exact p
theorem finC_ok : FinOk finC := by
  intro K mg as H r Q E p
  cases r with
  | rt d h =>
    intro v H' as' g r hr
    cases d with
    | loc n =>
      by_cases hn : n < as.length
      · simp only [finC, if_pos hn] at p; exact p.elim
      · simp only [finC, if_neg hn] at p
        cases r with
        | val r => cases r
        | @loc _ a e =>
          obtain ⟨c, ec, cr⟩ := hr.get e
          rw [ec] at p
          cases cr with
          | dct _ _ _ => exact p.elim
          | @lst _ vs l hh rs =>
            have na : a ∉ as := fun z => by
              obtain ⟨m, hm, em⟩ := List.getElem_of_mem z
              have e2 : as'[m]? = some a := pre_get g.pre (by rw [List.getElem?_eq_getElem hm, em])
              have := nodup_at hr.nd e e2
              omega
            have ha : a ∈ as' := List.mem_of_getElem? e
            have sub : ∀ b ∈ as ++ [a], b ∈ as' := fun b hb => by
              rcases List.mem_append.mp hb with z | z
              · exact g.sub b z
              · rw [List.mem_singleton.mp z]; exact ha
            refine p (.ref a) H' (as ++ [a]) ⟨List.prefix_append _ _, fun b hb => g.new b (sub b hb), g.fr⟩ (.loc (by simp)) ?_
            have hb := hr.back g
            refine ⟨by simp [hb.len.symm], ?_, fun m d b e1 e2 => ?_⟩
            · rw [List.nodup_append]
              exact ⟨hb.nd, by simp, fun x hx y hy e => na (by rw [List.mem_singleton.mp hy] at e; rw [← e]; exact hx)⟩
            · have hl : as.length = (h.take as.length).length := hb.len
              rcases get_snoc e1 with ⟨l1, q1⟩ | ⟨l1, q1⟩
              · rcases get_snoc e2 with ⟨l2, q2⟩ | ⟨l2, q2⟩
                · obtain ⟨k1, k2⟩ := List.getElem?_eq_some_iff.mp q2
                  have q3 : as'[m]? = some b := pre_get g.pre q2
                  have q4 : h[m]? = some d := by
                    rw [List.getElem?_take, if_pos (show m < as.length from k1)] at q1
                    exact q1
                  exact (hr.at_ m d b q4 q3).shrink sub
                · omega
              · rcases get_snoc e2 with ⟨l2, q2⟩ | ⟨l2, q2⟩
                · omega
                · subst q1 q2
                  exact .lst hh (rs.shrink sub)
    | _ => exact p.elim
  | _ => exact p.elim
end
section
variable {P : Program} {w : World} {K : PySem.W.Frag} {mg : Str → Option Value} {base : Heap}
theorem fn_mk {d : He.DefD} {N ps : List Str} {k : Nat} {f : Addr} {fd : FuncData} {m : SM} {fin : Nat → SR → R D} (F : FunD K d.name d.qual d.params d.body d.scope (d.dvs K) (d.kws K) f fd) (hf : FinOk fin) (S : FnScope N ps d.scope)
    (hbody : ∀ (cdv : Value) (A : Around) (outer : List Env) (s : Shared) (H : Hp) (E : XK), Room k (A.deeper (envOfC d.qual d.scope s.heap.objs.size f cdv)) →
      DSs (cxOf (L2.CX P w) P w K mg base N d.qual d.scope f cdv A outer s H E) (fun cls d _ H => E cls d H) d.body m) : FnOk P w K mg base (L2.CX P w) (k + 1) f fd ps (spD K mg ps.length (mkF ps.length (N.length - ps.length) fin m)) := by
  refine F.ok S (fun vs H Q E h => h.1) fun cdv A outer s H vs Q E hr h => ⟨_, hbody cdv A outer s H E hr, ?_⟩
  obtain ⟨hl, as, ds, hh, r, hr2, p⟩ := h
  have e1 : ds.length = ps.length := by rw [r.length]; exact hl
  unfold mkF at p
  rw [if_pos e1] at p
  refine ⟨as, ds.map some ++ List.replicate (N.length - ps.length) none, hh, ⟨?_, hr2⟩, ?_⟩
  · unfold L2.start
    rw [hl]
    exact (EvR.start r).append (EvR.nones _)
  · rw [← hr2.len] at p
    exact hf K mg as H _ Q E p
theorem fd_mk (d : He.DefD) (N ps : List Str) (k np nl : Nat) {x : Str} {f : Addr} {fd : FuncData} {m : SM} {fin : Nat → SR → R D} (hnp : ps.length = np) (hnl : N.length - ps.length = nl) (F : FunD K d.name d.qual d.params d.body d.scope (d.dvs K) (d.kws K) f fd) (hm : mg x = some (.ref f)) (hf : FinOk fin) (S : FnScope N ps d.scope)
    (hb : Binds K fd ps [])
    (hbody : ∀ (cdv : Value) (A : Around) (outer : List Env) (s : Shared) (H : Hp) (E : XK), Room k (A.deeper (envOfC d.qual d.scope s.heap.objs.size f cdv)) →
      DSs (cxOf (L2.CX P w) P w K mg base N d.qual d.scope f cdv A outer s H E) (fun cls d _ H => E cls d H) d.body m) : FD P w K mg base (k + 1) x np (mkF np nl fin m) := by
  subst hnp hnl
  exact ⟨f, fd, ps, hm, F.kp, hb, fn_mk F hf S hbody⟩
theorem fn_mk' (d : He.DefD) (N ps : List Str) (k np nl : Nat) {f : Addr} {fd : FuncData} {m : SM} {fin : Nat → SR → R D} (hnp : ps.length = np) (hnl : N.length - ps.length = nl) (F : FunD K d.name d.qual d.params d.body d.scope (d.dvs K) (d.kws K) f fd) (hf : FinOk fin) (S : FnScope N ps d.scope)
    (hbody : ∀ (cdv : Value) (A : Around) (outer : List Env) (s : Shared) (H : Hp) (E : XK), Room k (A.deeper (envOfC d.qual d.scope s.heap.objs.size f cdv)) →
      DSs (cxOf (L2.CX P w) P w K mg base N d.qual d.scope f cdv A outer s H E) (fun cls d _ H => E cls d H) d.body m) : FnOk P w K mg base (L2.CX P w) (k + 1) f fd ps (spD K mg np (mkF np nl fin m)) := by
  subst hnp hnl
  exact fn_mk F hf S hbody
/-- the law's own def lets nothing out -/
theorem fn_quiet {f : Addr} {fd : FuncData} {ps : List Str} {k : Nat} {sp : Sp} (F : FnOk P w K mg base (L2.CX P w) k f fd ps sp) : FnOk P w K mg base CX0 k f fd ps (fun vs H Q _ => sp vs H Q E0) := by
  refine ⟨fun vs H Q E h => F.len vs H Q E0 h, fun A outer s H args us vs Q E hr e0 hb hv hs => codeAny_mono (F.run A outer s H args us vs Q E0 hr e0 hb hv hs) fun r s' q => ?_⟩
  cases r with
  | error e =>
    obtain ⟨_, _, _, _, _, _, _, _, _, _, _, _, z⟩ := (show L2.CX P w outer H s E0 e s' from q)
    exact z.elim
  | ok fl => cases fl <;> exact q
end
end DL

set_option Elab.async false
set_option linter.all false
set_option maxRecDepth 100000
set_option maxHeartbeats 1000000
namespace W
open PySem PySem.Spec PyProof.Rows L2 DL
def top (i : Nat) : Stmt := PySem.Challenge.pw_pauseplay_k01_whole_bounds_and_what_they.main.body.getD i (.Pass ⟨0, 0, 0, 0⟩)
abbrev s_is_whole : Stmt := top 7
def d_is_whole : He.DefD := ⟨("is_whole", none), "is_whole", "is_whole", defArgs s_is_whole, defBody s_is_whole, defScope s_is_whole, [], []⟩
abbrev s_is_integer : Stmt := top 8
def d_is_integer : He.DefD := ⟨("is_integer", none), "is_integer", "is_integer", defArgs s_is_integer, defBody s_is_integer, defScope s_is_integer, [], []⟩
abbrev s_is_within : Stmt := top 9
def d_is_within : He.DefD := ⟨("is_within", none), "is_within", "is_within", defArgs s_is_within, defBody s_is_within, defScope s_is_within, [], []⟩
abbrev s_is_fraction_in : Stmt := top 12
def d_is_fraction_in : He.DefD := ⟨("is_fraction_in", none), "is_fraction_in", "is_fraction_in", defArgs s_is_fraction_in, defBody s_is_fraction_in, defScope s_is_fraction_in, [], []⟩
abbrev s_require_fraction : Stmt := top 13
def d_require_fraction : He.DefD := ⟨("require_fraction", none), "require_fraction", "require_fraction", defArgs s_require_fraction, defBody s_require_fraction, defScope s_require_fraction, [], []⟩
abbrev s_is_bound_in : Stmt := top 16
def d_is_bound_in : He.DefD := ⟨("is_bound_in", none), "is_bound_in", "is_bound_in", defArgs s_is_bound_in, defBody s_is_bound_in, defScope s_is_bound_in, [], []⟩
abbrev s_sum_in : Stmt := top 17
def d_sum_in : He.DefD := ⟨("sum_in", none), "sum_in", "sum_in", defArgs s_sum_in, defBody s_sum_in, defScope s_sum_in, [], []⟩
abbrev s_is_tighter_in : Stmt := top 18
def d_is_tighter_in : He.DefD := ⟨("is_tighter_in", none), "is_tighter_in", "is_tighter_in", defArgs s_is_tighter_in, defBody s_is_tighter_in, defScope s_is_tighter_in, [], []⟩
abbrev s_turned_in : Stmt := top 19
def d_turned_in : He.DefD := ⟨("turned_in", none), "turned_in", "turned_in", defArgs s_turned_in, defBody s_turned_in, defScope s_turned_in, [], []⟩
abbrev s_keeps_in : Stmt := top 20
def d_keeps_in : He.DefD := ⟨("keeps_in", none), "keeps_in", "keeps_in", defArgs s_keeps_in, defBody s_keeps_in, defScope s_keeps_in, [], []⟩
abbrev s_require_bound : Stmt := top 21
def d_require_bound : He.DefD := ⟨("require_bound", none), "require_bound", "require_bound", defArgs s_require_bound, defBody s_require_bound, defScope s_require_bound, [], []⟩
abbrev s_require_bounds : Stmt := top 22
def d_require_bounds : He.DefD := ⟨("require_bounds", none), "require_bounds", "require_bounds", defArgs s_require_bounds, defBody s_require_bounds, defScope s_require_bounds, [], []⟩
abbrev s_is_bound : Stmt := top 23
def d_is_bound : He.DefD := ⟨("is_bound", none), "is_bound", "is_bound", defArgs s_is_bound, defBody s_is_bound, defScope s_is_bound, [], []⟩
abbrev s_bound_sum : Stmt := top 24
def d_bound_sum : He.DefD := ⟨("bound_sum", none), "bound_sum", "bound_sum", defArgs s_bound_sum, defBody s_bound_sum, defScope s_bound_sum, [], []⟩
abbrev s_is_tighter : Stmt := top 25
def d_is_tighter : He.DefD := ⟨("is_tighter", none), "is_tighter", "is_tighter", defArgs s_is_tighter, defBody s_is_tighter, defScope s_is_tighter, [], []⟩
abbrev s_turned : Stmt := top 26
def d_turned : He.DefD := ⟨("turned", none), "turned", "turned", defArgs s_turned, defBody s_turned, defScope s_turned, [], []⟩
abbrev s_does_keep : Stmt := top 27
def d_does_keep : He.DefD := ⟨("does_keep", none), "does_keep", "does_keep", defArgs s_does_keep, defBody s_does_keep, defScope s_does_keep, [], []⟩
abbrev s__law_spins : Stmt := top 29
def d__law_spins : He.DefD := ⟨("_law_spins", none), "_law_spins", "_law_spins", defArgs s__law_spins, defBody s__law_spins, defScope s__law_spins, [], []⟩
abbrev s__law_spin : Stmt := top 30
def d__law_spin : He.DefD := ⟨("_law_spin", none), "_law_spin", "_law_spin", defArgs s__law_spin, defBody s__law_spin, defScope s__law_spin, [], []⟩
abbrev s__law_among : Stmt := top 31
def d__law_among : He.DefD := ⟨("_law_among", none), "_law_among", "_law_among", defArgs s__law_among, defBody s__law_among, defScope s__law_among, [], []⟩
abbrev s__law_sum : Stmt := top 32
def d__law_sum : He.DefD := ⟨("_law_sum", none), "_law_sum", "_law_sum", defArgs s__law_sum, defBody s__law_sum, defScope s__law_sum, [], []⟩
abbrev s__law_is_less : Stmt := top 33
def d__law_is_less : He.DefD := ⟨("_law_is_less", none), "_law_is_less", "_law_is_less", defArgs s__law_is_less, defBody s__law_is_less, defScope s__law_is_less, [], []⟩
abbrev s__law_keeps : Stmt := top 34
def d__law_keeps : He.DefD := ⟨("_law_keeps", none), "_law_keeps", "_law_keeps", defArgs s__law_keeps, defBody s__law_keeps, defScope s__law_keeps, [], []⟩
abbrev s__law_number_drawn : Stmt := top 35
def d__law_number_drawn : He.DefD := ⟨("_law_number_drawn", none), "_law_number_drawn", "_law_number_drawn", defArgs s__law_number_drawn, defBody s__law_number_drawn, defScope s__law_number_drawn, [], []⟩
abbrev s__law_bound_drawn : Stmt := top 36
def d__law_bound_drawn : He.DefD := ⟨("_law_bound_drawn", none), "_law_bound_drawn", "_law_bound_drawn", defArgs s__law_bound_drawn, defBody s__law_bound_drawn, defScope s__law_bound_drawn, [], []⟩
abbrev s__law_fractions_near : Stmt := top 37
def d__law_fractions_near : He.DefD := ⟨("_law_fractions_near", none), "_law_fractions_near", "_law_fractions_near", defArgs s__law_fractions_near, defBody s__law_fractions_near, defScope s__law_fractions_near, [], []⟩
abbrev s__law_is_bound : Stmt := top 38
def d__law_is_bound : He.DefD := ⟨("_law_is_bound", none), "_law_is_bound", "_law_is_bound", defArgs s__law_is_bound, defBody s__law_is_bound, defScope s__law_is_bound, [], []⟩
abbrev s__law_pair_right : Stmt := top 39
def d__law_pair_right : He.DefD := ⟨("_law_pair_right", none), "_law_pair_right", "_law_pair_right", defArgs s__law_pair_right, defBody s__law_pair_right, defScope s__law_pair_right, [], []⟩
abbrev s__law_right : Stmt := top 40
def d__law_right : He.DefD := ⟨("_law_right", none), "_law_right", "_law_right", defArgs s__law_right, defBody s__law_right, defScope s__law_right, [], []⟩
abbrev s_law : Stmt := top 41
def d_law : He.DefD := ⟨("law", none), "law", "law", defArgs s_law, defBody s_law, defScope s_law, [], []⟩
def fn : List He.DefD := ([d_is_whole, d_is_integer, d_is_within, d_is_fraction_in, d_require_fraction, d_is_bound_in, d_sum_in, d_is_tighter_in, d_turned_in, d_keeps_in, d_require_bound, d_require_bounds, d_is_bound, d_bound_sum, d_is_tighter, d_turned, d_does_keep, d__law_spins, d__law_spin, d__law_among, d__law_sum, d__law_is_less, d__law_keeps, d__law_number_drawn, d__law_bound_drawn, d__law_fractions_near, d__law_is_bound, d__law_pair_right, d__law_right, d_law] : List He.DefD)
def fa : List He.Fa := ([.glo "is_whole", .glo "is_integer", .glo "is_within", .glo "is_fraction_in", .glo "require_fraction", .glo "is_bound_in", .glo "sum_in", .glo "is_tighter_in", .glo "turned_in", .glo "keeps_in", .glo "require_bound", .glo "require_bounds", .glo "is_bound", .glo "bound_sum", .glo "is_tighter", .glo "turned", .glo "does_keep", .glo "_law_spins", .glo "_law_spin", .glo "_law_among", .glo "_law_sum", .glo "_law_is_less", .glo "_law_keeps", .glo "_law_number_drawn", .glo "_law_bound_drawn", .glo "_law_fractions_near", .glo "_law_is_bound", .glo "_law_pair_right", .glo "_law_right", .glo "law"] : List He.Fa) ++ ([.free "int", .free "isinstance", .free "bool", .int "SIXTY" 1000000000000000000000000000000000000000000000000000000000000, .free "tuple", .free "len", .int "PAIR_points" 2, .free "all", .int "PAIR_bounds" 2, .free "abs", .free "max", .free "repr", .free "min", .free "range"] : List He.Fa)
structure Zx (K : PySem.W.Frag) (mg : Str → Option Value) (h : Heap) : Prop where
  X : K.In h
  G : h.Ns mainGlobals mg
  c : He.SaysD fa fn K
section
variable {P : Program} {w : World} {K : PySem.W.Frag} {mg : Str → Option Value} {h base : Heap}
def b_is_whole : SM := sRet (mAndV (mB (on2 isi2) (mCons (mVar 0) (mCons (mC (.ty "int")) (mNil)))) (mNotV (mB (on2 isi2) (mCons (mVar 0) (mCons (mC (.ty "bool")) (mNil))))))
def f_is_whole : List D → Hs → R D := mkF 1 0 finV b_is_whole
def b_is_integer : SM := sRet (mAndV (mCall 1 f_is_whole (mCons (mVar 0) (mNil))) (mChain ltD ltD (mUn negD (mC (.int 1000000000000000000000000000000000000000000000000000000000000))) (mVar 0) (mC (.int 1000000000000000000000000000000000000000000000000000000000000))))
def f_is_integer : List D → Hs → R D := mkF 1 0 finV b_is_integer
def b_is_within : SM := sRet (mAndV (mCall 1 f_is_whole (mCons (mVar 0) (mNil))) (mChain leD leD (mVar 1) (mVar 0) (mVar 2)))
def f_is_within : List D → Hs → R D := mkF 3 0 finV b_is_within
def b_is_fraction_in : SM := sSeq (sIf (mOrT (mNotT (mTru (mB (on2 isi2) (mCons (mVar 0) (mCons (mC (.ty "tuple")) (mNil)))))) (mOrT (mTB (mBin neD (mB (on1 len1) (mCons (mVar 0) (mNil))) (mC (.int 2)))) (mNotT (mTru (mB (on1 all1) (mCons (mLc (mSeq (mVar 0)) [1] (.nm 1) (mYes) (mCall 1 f_is_integer (mCons (mVar 1) (mNil)))) (mNil))))))) (sRet (mC (.bl false))) (sPass)) (sRet (mBin geD (mBin ixD (mVar 0) (mC (.int 1))) (mC (.int 1))))
def f_is_fraction_in : List D → Hs → R D := mkF 1 1 finV b_is_fraction_in
def b_require_fraction : SM := sIf (mNotT (mTru (mCall 1 f_is_fraction_in (mCons (mVar 0) (mNil))))) (sNo) (sPass)
def f_require_fraction : List D → Hs → R D := mkF 1 0 finV b_require_fraction
def b_is_bound_in : SM := sSeq (sIf (mTB (mBin isND (mVar 0) (mC .non))) (sRet (mC (.bl true))) (sPass)) (sRet (mAndV (mB (on2 isi2) (mCons (mVar 0) (mCons (mC (.ty "tuple")) (mNil)))) (mAndV (mBin eqD (mB (on1 len1) (mCons (mVar 0) (mNil))) (mC (.int 2))) (mAndV (mCall 1 f_is_integer (mCons (mBin ixD (mVar 0) (mC (.int 0))) (mNil))) (mCall 3 f_is_within (mCons (mBin ixD (mVar 0) (mC (.int 1))) (mCons (mC (.int 0)) (mCons (mC (.int 1)) (mNil)))))))))
def f_is_bound_in : List D → Hs → R D := mkF 1 0 finV b_is_bound_in
def b_sum_in : SM := sSeq (sIf (mOrT (mTB (mBin isND (mVar 0) (mC .non))) (mTB (mBin isND (mVar 1) (mC .non)))) (sRet (mC .non)) (sPass)) (sRet (mTup (mCons (mBin addD (mBin ixD (mVar 0) (mC (.int 0))) (mBin ixD (mVar 1) (mC (.int 0)))) (mCons (mBin mulD (mBin ixD (mVar 0) (mC (.int 1))) (mBin ixD (mVar 1) (mC (.int 1)))) (mNil)))))
def f_sum_in : List D → Hs → R D := mkF 2 0 finV b_sum_in
def b_is_tighter_in : SM := sSeq (sIf (mTB (mBin isND (mVar 0) (mC .non))) (sRet (mC (.bl false))) (sPass)) (sRet (mOrV (mBin isND (mVar 1) (mC .non)) (mBin ltD (mVar 0) (mVar 1))))
def f_is_tighter_in : List D → Hs → R D := mkF 2 0 finV b_is_tighter_in
def b_turned_in : SM := sRet (mTup (mCons (mUn negD (mBin ixD (mVar 0) (mC (.int 0)))) (mCons (mBin subD (mC (.int 1)) (mBin ixD (mVar 0) (mC (.int 1)))) (mNil))))
def f_turned_in : List D → Hs → R D := mkF 1 0 finV b_turned_in
def b_keeps_in : SM := sSeq (sIf (mTB (mBin isND (mVar 0) (mC .non))) (sRet (mC (.bl true))) (sPass)) (sSeq (sAsg (.tp (.cons (.nm 2) (.cons (.nm 3) (.nil)))) (mVar 1)) (sRet (mOrV (mBin ltD (mVar 2) (mBin mulD (mBin ixD (mVar 0) (mC (.int 0))) (mVar 3))) (mAndV (mBin eqD (mBin ixD (mVar 0) (mC (.int 1))) (mC (.int 1))) (mBin eqD (mVar 2) (mBin mulD (mBin ixD (mVar 0) (mC (.int 0))) (mVar 3)))))))
def f_keeps_in : List D → Hs → R D := mkF 2 2 finV b_keeps_in
def b_require_bound : SM := sIf (mNotT (mTru (mCall 1 f_is_bound_in (mCons (mVar 0) (mNil))))) (sNo) (sPass)
def f_require_bound : List D → Hs → R D := mkF 1 0 finV b_require_bound
def b_require_bounds : SM := sSeq (sDrop (mCall 1 f_require_bound (mCons (mVar 0) (mNil)))) (sDrop (mCall 1 f_require_bound (mCons (mVar 1) (mNil))))
def f_require_bounds : List D → Hs → R D := mkF 2 0 finV b_require_bounds
def b_is_bound : SM := sRet (mCall 1 f_is_bound_in (mCons (mVar 0) (mNil)))
def f_is_bound : List D → Hs → R D := mkF 1 0 finV b_is_bound
def b_bound_sum : SM := sSeq (sDrop (mCall 2 f_require_bounds (mCons (mVar 0) (mCons (mVar 1) (mNil))))) (sRet (mCall 2 f_sum_in (mCons (mVar 0) (mCons (mVar 1) (mNil)))))
def f_bound_sum : List D → Hs → R D := mkF 2 0 finV b_bound_sum
def b_is_tighter : SM := sSeq (sDrop (mCall 2 f_require_bounds (mCons (mVar 0) (mCons (mVar 1) (mNil))))) (sRet (mCall 2 f_is_tighter_in (mCons (mVar 0) (mCons (mVar 1) (mNil)))))
def f_is_tighter : List D → Hs → R D := mkF 2 0 finV b_is_tighter
def b_turned : SM := sSeq (sDrop (mCall 1 f_require_bound (mCons (mVar 0) (mNil)))) (sSeq (sIf (mTB (mBin isND (mVar 0) (mC .non))) (sNo) (sPass)) (sRet (mCall 1 f_turned_in (mCons (mVar 0) (mNil)))))
def f_turned : List D → Hs → R D := mkF 1 0 finV b_turned
def b_does_keep : SM := sSeq (sDrop (mCall 1 f_require_bound (mCons (mVar 0) (mNil)))) (sSeq (sDrop (mCall 1 f_require_fraction (mCons (mVar 1) (mNil)))) (sRet (mCall 2 f_keeps_in (mCons (mVar 0) (mCons (mVar 1) (mNil))))))
def f_does_keep : List D → Hs → R D := mkF 2 0 finV b_does_keep
def b__law_spins : SM := sSeq (sAsg (.nm 2) (mIf (mTB (mBin ltD (mVar 1) (mB (on1 len1) (mCons (mVar 0) (mNil))))) (mB (on1 toInt1) (mCons (mBin ixD (mVar 0) (mVar 1)) (mNil))) (mBin addD (mBin mulD (mC (.int 311)) (mVar 1)) (mC (.int 97))))) (sSeq (sAsg (.nm 3) (mBin modD (mB (on1 toInt1) (mCons (mB (on1 abs1) (mCons (mVar 2) (mNil))) (mNil))) (mBin powD (mBin powD (mC (.int 10)) (mC (.int 54))) (mC (.int 6))))) (sRet (mNew (mCons (mB (on2 max2) (mCons (mC (.int 0)) (mCons (mBin subD (mVar 3) (mBin powD (mC (.int 10)) (mC (.int 16)))) (mNil)))) (mCons (mBin addD (mBin addD (mBin addD (mBin mulD (mBin modD (mB (on1 toInt1) (mCons (mVar 3) (mNil))) (mC (.int 2305843009213693921))) (mC (.int 73))) (mBin mulD (mC (.int 967)) (mVar 1))) (mBin mulD (mC (.int 43)) (mB (on1 toInt1) (mCons (mBin ltD (mVar 2) (mC (.int 0))) (mNil))))) (mC (.int 23))) (mCons (mC (.int 0)) (mNil)))))))
def f__law_spins : List D → Hs → R D := mkF 2 2 finC b__law_spins
def b__law_spin : SM := sSeq (sIf (mTB (mBin gtD (mBin ixD (mVar 0) (mC (.int 0))) (mC (.int 0)))) (sSeq (sAsg (.nm 2) (mBin modD (mB (on1 toInt1) (mCons (mBin ixD (mVar 0) (mC (.int 0))) (mNil))) (mVar 1))) (sSeq (sPut (mVar 0) (mC (.int 0)) (mBin fdivD (mBin ixD (mVar 0) (mC (.int 0))) (mVar 1))) (sRet (mVar 2)))) (sPass)) (sSeq (sPut (mVar 0) (mC (.int 2)) (mBin addD (mBin ixD (mVar 0) (mC (.int 2))) (mC (.int 1)))) (sSeq (sAsg (.nm 3) (mBin modD (mB (on1 toInt1) (mCons (mBin addD (mBin ixD (mVar 0) (mC (.int 1))) (mBin mulD (mC (.int 32452867)) (mBin ixD (mVar 0) (mC (.int 2))))) (mNil))) (mC (.int 2305843009213693951)))) (sSeq (sAsg (.nm 4) (mBin addD (mBin mulD (mBin modD (mB (on1 toInt1) (mCons (mBin addD (mBin mulD (mVar 3) (mVar 3)) (mBin mulD (mC (.int 131)) (mBin ixD (mVar 0) (mC (.int 2))))) (mNil))) (mC (.int 2305843009213693907))) (mC (.int 49979687))) (mVar 3))) (sRet (mBin modD (mB (on1 toInt1) (mCons (mBin fdivD (mVar 4) (mC (.int 65579))) (mNil))) (mVar 1))))))
def f__law_spin : List D → Hs → R D := mkF 2 3 finV b__law_spin
def b__law_among : SM := sRet (mBin ixD (mVar 1) (mCall 2 f__law_spin (mCons (mVar 0) (mCons (mB (on1 len1) (mCons (mVar 1) (mNil))) (mNil)))))
def f__law_among : List D → Hs → R D := mkF 2 0 finV b__law_among
def b__law_sum : SM := sRet (mIf (mOrT (mTB (mBin isND (mVar 0) (mC .non))) (mTB (mBin isND (mVar 1) (mC .non)))) (mC .non) (mTup (mCons (mBin addD (mBin ixD (mVar 0) (mC (.int 0))) (mBin ixD (mVar 1) (mC (.int 0)))) (mCons (mBin mulD (mBin ixD (mVar 0) (mC (.int 1))) (mBin ixD (mVar 1) (mC (.int 1)))) (mNil)))))
def f__law_sum : List D → Hs → R D := mkF 2 0 finV b__law_sum
def b__law_is_less : SM := sSeq (sIf (mOrT (mTB (mBin isND (mVar 0) (mC .non))) (mTB (mBin isND (mVar 1) (mC .non)))) (sRet (mAndV (mBin notND (mVar 0) (mC .non)) (mBin isND (mVar 1) (mC .non)))) (sPass)) (sRet (mBin ltD (mVar 0) (mVar 1)))
def f__law_is_less : List D → Hs → R D := mkF 2 0 finV b__law_is_less
def b__law_keeps : SM := sSeq (sIf (mTB (mBin isND (mVar 0) (mC .non))) (sRet (mC (.bl true))) (sPass)) (sRet (mOrV (mBin ltD (mVar 1) (mBin mulD (mBin ixD (mVar 0) (mC (.int 0))) (mVar 2))) (mAndV (mBin eqD (mVar 1) (mBin mulD (mBin ixD (mVar 0) (mC (.int 0))) (mVar 2))) (mBin eqD (mBin ixD (mVar 0) (mC (.int 1))) (mC (.int 1))))))
def f__law_keeps : List D → Hs → R D := mkF 3 0 finV b__law_keeps
def b__law_number_drawn : SM := sRet (mBin mulD (mCall 2 f__law_among (mCons (mVar 0) (mCons (mLst (mCons (mC (.int 1)) (mCons (mUn negD (mC (.int 1))) (mNil)))) (mNil)))) (mCall 2 f__law_among (mCons (mVar 0) (mCons (mLst (mCons (mCall 2 f__law_spin (mCons (mVar 0) (mCons (mC (.int 4)) (mNil)))) (mCons (mCall 2 f__law_spin (mCons (mVar 0) (mCons (mC (.int 50)) (mNil)))) (mCons (mCall 2 f__law_spin (mCons (mVar 0) (mCons (mBin powD (mC (.int 10)) (mC (.int 30))) (mNil)))) (mNil))))) (mNil)))))
def f__law_number_drawn : List D → Hs → R D := mkF 1 0 finV b__law_number_drawn
def b__law_bound_drawn : SM := sRet (mIf (mTB (mBin eqD (mCall 2 f__law_spin (mCons (mVar 0) (mCons (mC (.int 8)) (mNil)))) (mC (.int 0)))) (mC .non) (mTup (mCons (mCall 1 f__law_number_drawn (mCons (mVar 0) (mNil))) (mCons (mCall 2 f__law_spin (mCons (mVar 0) (mCons (mC (.int 2)) (mNil)))) (mNil)))))
def f__law_bound_drawn : List D → Hs → R D := mkF 1 0 finV b__law_bound_drawn
def b__law_fractions_near : SM := sSeq (sAsg (.nm 2) (mCall 2 f__law_among (mCons (mVar 0) (mCons (mLst (mCons (mC (.int 1)) (mCons (mC (.int 2)) (mCons (mC (.int 7)) (mCons (mBin powD (mC (.int 10)) (mC (.int 20))) (mNil)))))) (mNil))))) (sSeq (sAsg (.nm 3) (mLc (mSeq (mTup (mCons (mC (.int 0)) (mCons (mC (.int 1)) (mCons (mUn negD (mC (.int 1))) (mCons (mVar 2) (mCons (mBin subD (mC (.int 0)) (mVar 2)) (mNil)))))))) [4] (.nm 4) (mYes) (mTup (mCons (mBin addD (mBin mulD (mVar 1) (mVar 2)) (mVar 4)) (mCons (mVar 2) (mNil)))))) (sRet (mBin addD (mVar 3) (mLst (mCons (mTup (mCons (mCall 1 f__law_number_drawn (mCons (mVar 0) (mNil))) (mCons (mBin addD (mC (.int 1)) (mCall 2 f__law_spin (mCons (mVar 0) (mCons (mC (.int 9)) (mNil))))) (mNil)))) (mNil))))))
def f__law_fractions_near : List D → Hs → R D := mkF 2 3 finV b__law_fractions_near
def b__law_is_bound : SM := sSeq (sIf (mTB (mBin isND (mVar 0) (mC .non))) (sRet (mC (.bl true))) (sPass)) (sSeq (sIf (mOrT (mNotT (mTru (mB (on2 isi2) (mCons (mVar 0) (mCons (mC (.ty "tuple")) (mNil)))))) (mTB (mBin neD (mB (on1 len1) (mCons (mVar 0) (mNil))) (mC (.int 2))))) (sRet (mC (.bl false))) (sPass)) (sSeq (sIf (mTB (mBin neD (mLc (mSeq (mVar 0)) [1] (.nm 1) (mOrT (mTru (mB (on2 isi2) (mCons (mVar 1) (mCons (mC (.ty "bool")) (mNil))))) (mNotT (mTru (mB (on2 isi2) (mCons (mVar 1) (mCons (mC (.ty "int")) (mNil))))))) (mVar 1)) (mLst (mNil)))) (sRet (mC (.bl false))) (sPass)) (sRet (mAndV (mBin ltD (mB (on1 abs1) (mCons (mBin ixD (mVar 0) (mC (.int 0))) (mNil))) (mBin powD (mC (.int 10)) (mC (.int 60)))) (mBin inD (mBin ixD (mVar 0) (mC (.int 1))) (mTup (mCons (mC (.int 0)) (mCons (mC (.int 1)) (mNil)))))))))
def f__law_is_bound : List D → Hs → R D := mkF 1 1 finV b__law_is_bound
def b__law_pair_right : SM := sSeq (sAsg (.nm 3) (mCall 2 f_bound_sum (mCons (mVar 1) (mCons (mVar 2) (mNil))))) (sSeq (sIf (mOrT (mTB (mBin neD (mVar 3) (mCall 2 f__law_sum (mCons (mVar 1) (mCons (mVar 2) (mNil)))))) (mTB (mBin neD (mCall 2 f_is_tighter (mCons (mVar 1) (mCons (mVar 2) (mNil)))) (mCall 2 f__law_is_less (mCons (mVar 1) (mCons (mVar 2) (mNil))))))) (sRet (mC (.bl false))) (sPass)) (sSeq (sIf (mOrT (mTB (mBin isND (mVar 1) (mC .non))) (mTB (mBin isND (mVar 2) (mC .non)))) (sRet (mBin isND (mVar 3) (mC .non))) (sPass)) (sSeq (sFor (mSeq (mCall 2 f__law_fractions_near (mCons (mVar 0) (mCons (mBin addD (mBin ixD (mVar 1) (mC (.int 0))) (mBin ixD (mVar 2) (mC (.int 0)))) (mNil))))) (.tp (.cons (.nm 4) (.cons (.nm 5) (.nil)))) (sSeq (sAsg (.nm 6) (mCall 2 f__law_among (mCons (mVar 0) (mCons (mLst (mCons (mC (.int 0)) (mCons (mC (.int 0)) (mCons (mC (.int 1)) (mCons (mC (.int 5)) (mNil)))))) (mNil))))) (sSeq (sAsg (.nm 7) (mTup (mCons (mBin subD (mBin subD (mBin mulD (mBin mulD (mBin ixD (mVar 1) (mC (.int 0))) (mC (.int 3))) (mVar 5)) (mIf (mTB (mBin eqD (mBin ixD (mVar 1) (mC (.int 1))) (mC (.int 0)))) (mC (.int 1)) (mC (.int 0)))) (mVar 6)) (mCons (mBin mulD (mC (.int 3)) (mVar 5)) (mNil))))) (sSeq (sAsg (.nm 8) (mTup (mCons (mBin subD (mBin mulD (mVar 4) (mC (.int 3))) (mBin ixD (mVar 7) (mC (.int 0)))) (mCons (mBin mulD (mC (.int 3)) (mVar 5)) (mNil))))) (sSeq (sAsg (.nm 9) (mAndV (mCall 3 f__law_keeps (mCons (mVar 1) (mCons (mBin ixD (mVar 7) (mC (.int 0))) (mCons (mBin ixD (mVar 7) (mC (.int 1))) (mNil))))) (mCall 3 f__law_keeps (mCons (mVar 2) (mCons (mBin ixD (mVar 8) (mC (.int 0))) (mCons (mBin ixD (mVar 8) (mC (.int 1))) (mNil))))))) (sSeq (sIf (mAndT (mTru (mVar 9)) (mNotT (mTru (mCall 2 f_does_keep (mCons (mVar 3) (mCons (mTup (mCons (mVar 4) (mCons (mVar 5) (mNil)))) (mNil))))))) (sRet (mC (.bl false))) (sPass)) (sIf (mAndT (mTB (mBin eqD (mVar 6) (mC (.int 0)))) (mAndT (mTB (mBin eqD (mBin ixD (mVar 1) (mC (.int 1))) (mC (.int 1)))) (mTB (mBin neD (mCall 2 f_does_keep (mCons (mVar 3) (mCons (mTup (mCons (mVar 4) (mCons (mVar 5) (mNil)))) (mNil)))) (mVar 9))))) (sRet (mC (.bl false))) (sPass)))))))) (sRet (mC (.bl true))))))
def f__law_pair_right : List D → Hs → R D := mkF 3 7 finV b__law_pair_right
def b__law_right : SM := sSeq (sPar [1, 2] (mCons (mCall 1 f__law_bound_drawn (mCons (mVar 0) (mNil))) (mCons (mCall 1 f__law_bound_drawn (mCons (mVar 0) (mNil))) (mNil)))) (sSeq (sIf (mOrT (mNotT (mTru (mCall 3 f__law_pair_right (mCons (mVar 0) (mCons (mVar 1) (mCons (mVar 2) (mNil))))))) (mNotT (mTru (mCall 3 f__law_pair_right (mCons (mVar 0) (mCons (mVar 2) (mCons (mVar 1) (mNil)))))))) (sRet (mC (.bl false))) (sPass)) (sSeq (sIf (mOrT (mTru (mCall 2 f_is_tighter (mCons (mVar 1) (mCons (mVar 1) (mNil))))) (mTB (mBin neD (mCall 2 f_bound_sum (mCons (mVar 1) (mCons (mTup (mCons (mC (.int 0)) (mCons (mC (.int 1)) (mNil)))) (mNil)))) (mVar 1)))) (sRet (mC (.bl false))) (sPass)) (sSeq (sFor (mSeq (mCall 2 f__law_fractions_near (mCons (mVar 0) (mCons (mIf (mTB (mBin isND (mVar 1) (mC .non))) (mCall 2 f__law_spin (mCons (mVar 0) (mCons (mC (.int 9)) (mNil)))) (mBin ixD (mVar 1) (mC (.int 0)))) (mNil))))) (.tp (.cons (.nm 3) (.cons (.nm 4) (.nil)))) (sSeq (sIf (mTB (mBin neD (mCall 2 f_does_keep (mCons (mVar 1) (mCons (mTup (mCons (mVar 3) (mCons (mVar 4) (mNil)))) (mNil)))) (mCall 3 f__law_keeps (mCons (mVar 1) (mCons (mVar 3) (mCons (mVar 4) (mNil))))))) (sRet (mC (.bl false))) (sPass)) (sIf (mAndT (mTB (mBin notND (mVar 1) (mC .non))) (mTB (mBin eqD (mCall 2 f_does_keep (mCons (mCall 1 f_turned (mCons (mVar 1) (mNil))) (mCons (mTup (mCons (mBin subD (mC (.int 0)) (mVar 3)) (mCons (mVar 4) (mNil)))) (mNil)))) (mCall 2 f_does_keep (mCons (mVar 1) (mCons (mTup (mCons (mVar 3) (mCons (mVar 4) (mNil)))) (mNil))))))) (sRet (mC (.bl false))) (sPass)))) (sSeq (sIf (mAndT (mTB (mBin notND (mVar 1) (mC .non))) (mTB (mBin neD (mCall 1 f_turned (mCons (mCall 1 f_turned (mCons (mVar 1) (mNil))) (mNil))) (mVar 1)))) (sRet (mC (.bl false))) (sPass)) (sSeq (sAsg (.nm 5) (mLst (mCons (mVar 1) (mCons (mVar 2) (mCons (mTup (mNil)) (mCons (mTup (mCons (mC (.int 1)) (mNil))) (mCons (mTup (mCons (mC (.int 1)) (mCons (mC (.int 2)) (mNil)))) (mCons (mTup (mCons (mC (.int 1)) (mCons (mUn negD (mC (.int 1))) (mNil)))) (mCons (mTup (mCons (mC (.int 1)) (mCons (mC (.bl true)) (mNil)))) (mCons (mTup (mCons (mC (.bl true)) (mCons (mC (.int 1)) (mNil)))) (mCons (mLst (mCons (mC (.int 1)) (mCons (mC (.int 1)) (mNil)))) (mCons (mTup (mCons (mC (.int 1)) (mCons (mC (.int 1)) (mCons (mC (.int 1)) (mNil))))) (mCons (mC (.str "bound")) (mCons (mC (.int 5)) (mCons (mTup (mCons (mBin powD (mC (.int 10)) (mC (.int 60))) (mCons (mC (.int 1)) (mNil)))) (mCons (mC (.dct [] [])) (mNil))))))))))))))))) (sRet (mBin eqD (mLc (mSeq (mVar 5)) [6] (.nm 6) (mTB (mBin neD (mB (on1 repr1) (mCons (mCall 1 f_is_bound (mCons (mVar 6) (mNil))) (mNil))) (mB (on1 repr1) (mCons (mCall 1 f__law_is_bound (mCons (mVar 6) (mNil))) (mNil))))) (mVar 6)) (mLst (mNil)))))))))
def f__law_right : List D → Hs → R D := mkF 1 6 finV b__law_right
def b_law : SM := sSeq (sFor (mSrcA rng1 (mCons (mB (on2 max2) (mCons (mC (.int 1)) (mCons (mB (on2 min2) (mCons (mC (.int 3)) (mCons (mB (on1 len1) (mCons (mVar 0) (mNil))) (mNil)))) (mNil)))) (mNil))) (.nm 1) (sSeq (sAsg (.nm 2) (mCall 2 f__law_spins (mCons (mVar 0) (mCons (mVar 1) (mNil))))) (sFor (mSrcA rng1 (mCons (mC (.int 6)) (mNil))) (.nm 3) (sIf (mNotT (mTru (mCall 1 f__law_right (mCons (mVar 2) (mNil))))) (sRet (mC (.bl false))) (sPass))))) (sSeq (sAsg (.nm 4) (mLst (mCons (mCall 2 f_bound_sum (mCons (mTup (mCons (mC (.int 3)) (mCons (mC (.int 1)) (mNil)))) (mCons (mTup (mCons (mC (.int 2)) (mCons (mC (.int 0)) (mNil)))) (mNil)))) (mCons (mCall 2 f_bound_sum (mCons (mTup (mCons (mC (.int 0)) (mCons (mC (.int 0)) (mNil)))) (mCons (mTup (mCons (mC (.int 0)) (mCons (mC (.int 0)) (mNil)))) (mNil)))) (mCons (mCall 2 f_bound_sum (mCons (mC .non) (mCons (mTup (mCons (mC (.int 1)) (mCons (mC (.int 1)) (mNil)))) (mNil)))) (mCons (mCall 1 f_turned (mCons (mTup (mCons (mC (.int 0)) (mCons (mC (.int 1)) (mNil)))) (mNil))) (mCons (mCall 1 f_turned (mCons (mTup (mCons (mUn negD (mC (.int 2))) (mCons (mC (.int 0)) (mNil)))) (mNil))) (mNil)))))))) (sSeq (sIf (mTB (mBin neD (mVar 4) (mLst (mCons (mTup (mCons (mC (.int 5)) (mCons (mC (.int 0)) (mNil)))) (mCons (mTup (mCons (mC (.int 0)) (mCons (mC (.int 0)) (mNil)))) (mCons (mC .non) (mCons (mTup (mCons (mC (.int 0)) (mCons (mC (.int 0)) (mNil)))) (mCons (mTup (mCons (mC (.int 2)) (mCons (mC (.int 1)) (mNil)))) (mNil))))))))) (sRet (mC (.bl false))) (sPass)) (sRet (mBin eqD (mLst (mCons (mCall 2 f_is_tighter (mCons (mTup (mCons (mC (.int 3)) (mCons (mC (.int 0)) (mNil)))) (mCons (mTup (mCons (mC (.int 3)) (mCons (mC (.int 1)) (mNil)))) (mNil)))) (mCons (mCall 2 f_is_tighter (mCons (mTup (mCons (mC (.int 3)) (mCons (mC (.int 1)) (mNil)))) (mCons (mTup (mCons (mC (.int 4)) (mCons (mC (.int 0)) (mNil)))) (mNil)))) (mCons (mCall 2 f_is_tighter (mCons (mC .non) (mCons (mC .non) (mNil)))) (mCons (mCall 2 f_is_tighter (mCons (mTup (mCons (mC (.int 9)) (mCons (mC (.int 1)) (mNil)))) (mCons (mC .non) (mNil)))) (mNil)))))) (mLst (mCons (mC (.bl true)) (mCons (mC (.bl true)) (mCons (mC (.bl false)) (mCons (mC (.bl true)) (mNil))))))))))
def f_law : List D → Hs → R D := mkF 1 4 finV b_law
theorem sc_is_whole : FnScope ["value"] ["value"] (defScope s_is_whole) := ⟨rfl, rfl, rfl, by decide +kernel, rfl, by decide +kernel, by decide +kernel⟩
theorem ok_is_whole (Z : Zx K mg h) : FD P w K mg base 1 "is_whole" 1 f_is_whole := by
  obtain ⟨fd, F⟩ := Z.c.def_ 0 (d := d_is_whole) rfl
  have nd := sc_is_whole.nd
  exact fd_mk d_is_whole ["value"] ["value"] 0 1 0 rfl rfl F (He.glo_ok Z.X Z.G (Z.c.fact 0 rfl)) finV_ok sc_is_whole (FunD.bindsN F fun _ _ _ _ _ _ us hl => match us, hl with | [_], _ => rfl) fun cdv A outer s H E hr =>
    (dss_one (ds_ret (de_and (de_bi (b_isinstance (He.free_ok Z.X Z.G (Z.c.fact 31 rfl))) (da_cons (de_var 0) (da_cons (de_ty (He.free_ok Z.X Z.G (Z.c.fact 30 rfl)) (by decide +kernel)) (da_nil)))) (de_one (de_not (de_bi (b_isinstance (He.free_ok Z.X Z.G (Z.c.fact 31 rfl))) (da_cons (de_var 0) (da_cons (de_ty (He.free_ok Z.X Z.G (Z.c.fact 32 rfl)) (by decide +kernel)) (da_nil)))))))))
theorem sc_is_integer : FnScope ["value"] ["value"] (defScope s_is_integer) := ⟨rfl, rfl, rfl, by decide +kernel, rfl, by decide +kernel, by decide +kernel⟩
theorem ok_is_integer (Z : Zx K mg h) : FD P w K mg base 2 "is_integer" 1 f_is_integer := by
  obtain ⟨fd, F⟩ := Z.c.def_ 1 (d := d_is_integer) rfl
  have nd := sc_is_integer.nd
  exact fd_mk d_is_integer ["value"] ["value"] 1 1 0 rfl rfl F (He.glo_ok Z.X Z.G (Z.c.fact 1 rfl)) finV_ok sc_is_integer (FunD.bindsN F fun _ _ _ _ _ _ us hl => match us, hl with | [_], _ => rfl) fun cdv A outer s H E hr =>
    (dss_one (ds_ret (de_and (de_call (ok_is_whole Z) (hr.mono (by decide)) (takes_of rfl rfl rfl rfl) (da_cons (de_var 0) (da_nil))) (de_one (de_chain (ck_lt hr) (ck_lt hr) (de_neg (de_gint (He.int_ok Z.X Z.G (Z.c.fact 33 rfl)))) (de_var 0) (de_gint (He.int_ok Z.X Z.G (Z.c.fact 33 rfl))))))))
theorem sc_is_within : FnScope ["value", "least", "most"] ["value", "least", "most"] (defScope s_is_within) := ⟨rfl, rfl, rfl, by decide +kernel, rfl, by decide +kernel, by decide +kernel⟩
theorem ok_is_within (Z : Zx K mg h) : FD P w K mg base 2 "is_within" 3 f_is_within := by
  obtain ⟨fd, F⟩ := Z.c.def_ 2 (d := d_is_within) rfl
  have nd := sc_is_within.nd
  exact fd_mk d_is_within ["value", "least", "most"] ["value", "least", "most"] 1 3 0 rfl rfl F (He.glo_ok Z.X Z.G (Z.c.fact 2 rfl)) finV_ok sc_is_within (FunD.bindsN F fun _ _ _ _ _ _ us hl => match us, hl with | [_, _, _], _ => rfl) fun cdv A outer s H E hr =>
    (dss_one (ds_ret (de_and (de_call (ok_is_whole Z) (hr.mono (by decide)) (takes_of rfl rfl rfl rfl) (da_cons (de_var 0) (da_nil))) (de_one (de_chain ck_le ck_le (de_var 1) (de_var 0) (de_var 2))))))
theorem sc_is_fraction_in : FnScope ["value", "one"] ["value"] (defScope s_is_fraction_in) := ⟨rfl, rfl, rfl, by decide +kernel, rfl, by decide +kernel, by decide +kernel⟩
theorem ok_is_fraction_in (Z : Zx K mg h) : FD P w K mg base 3 "is_fraction_in" 1 f_is_fraction_in := by
  obtain ⟨fd, F⟩ := Z.c.def_ 3 (d := d_is_fraction_in) rfl
  have nd := sc_is_fraction_in.nd
  exact fd_mk d_is_fraction_in ["value", "one"] ["value"] 2 1 1 rfl rfl F (He.glo_ok Z.X Z.G (Z.c.fact 3 rfl)) finV_ok sc_is_fraction_in (FunD.bindsN F fun _ _ _ _ _ _ us hl => match us, hl with | [_], _ => rfl) fun cdv A outer s H E hr =>
    (dss_cons (ds_if (dt_w (dw_or (dt_not (dt_tru (de_bi (b_isinstance (He.free_ok Z.X Z.G (Z.c.fact 31 rfl))) (da_cons (de_var 0) (da_cons (de_ty (He.free_ok Z.X Z.G (Z.c.fact 34 rfl)) (by decide +kernel)) (da_nil)))))) (dw_or (dt_cm (ck_ne hr) (de_bi (b_len (He.free_ok Z.X Z.G (Z.c.fact 35 rfl))) (da_cons (de_var 0) (da_nil))) (de_gint (He.int_ok Z.X Z.G (Z.c.fact 36 rfl)))) (dw_or1 (dt_not (dt_tru (de_bi (b_all (He.free_ok Z.X Z.G (Z.c.fact 37 rfl))) (da_cons (de_lc (own := [("one", 1)]) nd (di_seq (de_var 0)) (blkOk_by (N := ["value", "one"]) (sc := defScope s_is_fraction_in) (by decide +kernel)) (fun _ _ _ _ _ => dg_nm nd rfl (by first | exact Or.inl rfl | exact Or.inr rfl)) (fun _ _ _ _ _ => dts_nil) (fun _ _ _ _ _ => de_call (ok_is_integer Z) (hr.mono (by decide)) takes0 (da_cons (de_var 1) (da_nil)))) (da_nil))))))))) (dss_one (ds_ret (de_bl))) (dss_nil)) (dss_one (ds_ret (de_cm ck_ge (de_ix (fun _ _ => rfl) (de_var 0) (de_int)) (de_int)))))
theorem sc_require_fraction : FnScope ["value"] ["value"] (defScope s_require_fraction) := ⟨rfl, rfl, rfl, by decide +kernel, rfl, by decide +kernel, by decide +kernel⟩
theorem ok_require_fraction (Z : Zx K mg h) : FD P w K mg base 4 "require_fraction" 1 f_require_fraction := by
  obtain ⟨fd, F⟩ := Z.c.def_ 4 (d := d_require_fraction) rfl
  have nd := sc_require_fraction.nd
  exact fd_mk d_require_fraction ["value"] ["value"] 3 1 0 rfl rfl F (He.glo_ok Z.X Z.G (Z.c.fact 4 rfl)) finV_ok sc_require_fraction (FunD.bindsN F fun _ _ _ _ _ _ us hl => match us, hl with | [_], _ => rfl) fun cdv A outer s H E hr =>
    (dss_one (ds_if (dt_not (dt_tru (de_call (ok_is_fraction_in Z) (hr.mono (by decide)) (takes_of rfl rfl rfl rfl) (da_cons (de_var 0) (da_nil))))) (dss_one (ds_no)) (dss_nil)))
theorem sc_is_bound_in : FnScope ["value"] ["value"] (defScope s_is_bound_in) := ⟨rfl, rfl, rfl, by decide +kernel, rfl, by decide +kernel, by decide +kernel⟩
theorem ok_is_bound_in (Z : Zx K mg h) : FD P w K mg base 3 "is_bound_in" 1 f_is_bound_in := by
  obtain ⟨fd, F⟩ := Z.c.def_ 5 (d := d_is_bound_in) rfl
  have nd := sc_is_bound_in.nd
  exact fd_mk d_is_bound_in ["value"] ["value"] 2 1 0 rfl rfl F (He.glo_ok Z.X Z.G (Z.c.fact 5 rfl)) finV_ok sc_is_bound_in (FunD.bindsN F fun _ _ _ _ _ _ us hl => match us, hl with | [_], _ => rfl) fun cdv A outer s H E hr =>
    (dss_cons (ds_if (dt_cm ck_is (de_var 0) (de_non)) (dss_one (ds_ret (de_bl))) (dss_nil)) (dss_one (ds_ret (de_and (de_bi (b_isinstance (He.free_ok Z.X Z.G (Z.c.fact 31 rfl))) (da_cons (de_var 0) (da_cons (de_ty (He.free_ok Z.X Z.G (Z.c.fact 34 rfl)) (by decide +kernel)) (da_nil)))) (de_and (de_cm (ck_eq hr) (de_bi (b_len (He.free_ok Z.X Z.G (Z.c.fact 35 rfl))) (da_cons (de_var 0) (da_nil))) (de_gint (He.int_ok Z.X Z.G (Z.c.fact 38 rfl)))) (de_and (de_call (ok_is_integer Z) (hr.mono (by decide)) (takes_of rfl rfl rfl rfl) (da_cons (de_ix (fun _ _ => rfl) (de_var 0) (de_int)) (da_nil))) (de_one (de_call (ok_is_within Z) (hr.mono (by decide)) (takes_of rfl rfl rfl rfl) (da_cons (de_ix (fun _ _ => rfl) (de_var 0) (de_int)) (da_cons (de_int) (da_cons (de_int) (da_nil))))))))))))
theorem sc_sum_in : FnScope ["one", "other"] ["one", "other"] (defScope s_sum_in) := ⟨rfl, rfl, rfl, by decide +kernel, rfl, by decide +kernel, by decide +kernel⟩
theorem ok_sum_in (Z : Zx K mg h) : FD P w K mg base 1 "sum_in" 2 f_sum_in := by
  obtain ⟨fd, F⟩ := Z.c.def_ 6 (d := d_sum_in) rfl
  have nd := sc_sum_in.nd
  exact fd_mk d_sum_in ["one", "other"] ["one", "other"] 0 2 0 rfl rfl F (He.glo_ok Z.X Z.G (Z.c.fact 6 rfl)) finV_ok sc_sum_in (FunD.bindsN F fun _ _ _ _ _ _ us hl => match us, hl with | [_, _], _ => rfl) fun cdv A outer s H E hr =>
    (dss_cons (ds_if (dt_w (dw_or (dt_cm ck_is (de_var 0) (de_non)) (dw_or1 (dt_cm ck_is (de_var 1) (de_non))))) (dss_one (ds_ret (de_non))) (dss_nil)) (dss_one (ds_ret (de_tup (da_cons (de_add (de_ix (fun _ _ => rfl) (de_var 0) (de_int)) (de_ix (fun _ _ => rfl) (de_var 1) (de_int))) (da_cons (de_mul (de_ix (fun _ _ => rfl) (de_var 0) (de_int)) (de_ix (fun _ _ => rfl) (de_var 1) (de_int))) (da_nil)))))))
theorem sc_is_tighter_in : FnScope ["one", "other"] ["one", "other"] (defScope s_is_tighter_in) := ⟨rfl, rfl, rfl, by decide +kernel, rfl, by decide +kernel, by decide +kernel⟩
theorem ok_is_tighter_in (Z : Zx K mg h) : FD P w K mg base 1 "is_tighter_in" 2 f_is_tighter_in := by
  obtain ⟨fd, F⟩ := Z.c.def_ 7 (d := d_is_tighter_in) rfl
  have nd := sc_is_tighter_in.nd
  exact fd_mk d_is_tighter_in ["one", "other"] ["one", "other"] 0 2 0 rfl rfl F (He.glo_ok Z.X Z.G (Z.c.fact 7 rfl)) finV_ok sc_is_tighter_in (FunD.bindsN F fun _ _ _ _ _ _ us hl => match us, hl with | [_, _], _ => rfl) fun cdv A outer s H E hr =>
    (dss_cons (ds_if (dt_cm ck_is (de_var 0) (de_non)) (dss_one (ds_ret (de_bl))) (dss_nil)) (dss_one (ds_ret (de_or (de_cm ck_is (de_var 1) (de_non)) (de_one (de_cm (ck_lt hr) (de_var 0) (de_var 1)))))))
theorem sc_turned_in : FnScope ["bound"] ["bound"] (defScope s_turned_in) := ⟨rfl, rfl, rfl, by decide +kernel, rfl, by decide +kernel, by decide +kernel⟩
theorem ok_turned_in (Z : Zx K mg h) : FD P w K mg base 1 "turned_in" 1 f_turned_in := by
  obtain ⟨fd, F⟩ := Z.c.def_ 8 (d := d_turned_in) rfl
  have nd := sc_turned_in.nd
  exact fd_mk d_turned_in ["bound"] ["bound"] 0 1 0 rfl rfl F (He.glo_ok Z.X Z.G (Z.c.fact 8 rfl)) finV_ok sc_turned_in (FunD.bindsN F fun _ _ _ _ _ _ us hl => match us, hl with | [_], _ => rfl) fun cdv A outer s H E hr =>
    (dss_one (ds_ret (de_tup (da_cons (de_neg (de_ix (fun _ _ => rfl) (de_var 0) (de_int))) (da_cons (de_sub (de_int) (de_ix (fun _ _ => rfl) (de_var 0) (de_int))) (da_nil))))))
theorem sc_keeps_in : FnScope ["bound", "fraction", "top", "bottom"] ["bound", "fraction"] (defScope s_keeps_in) := ⟨rfl, rfl, rfl, by decide +kernel, rfl, by decide +kernel, by decide +kernel⟩
theorem ok_keeps_in (Z : Zx K mg h) : FD P w K mg base 1 "keeps_in" 2 f_keeps_in := by
  obtain ⟨fd, F⟩ := Z.c.def_ 9 (d := d_keeps_in) rfl
  have nd := sc_keeps_in.nd
  exact fd_mk d_keeps_in ["bound", "fraction", "top", "bottom"] ["bound", "fraction"] 0 2 2 rfl rfl F (He.glo_ok Z.X Z.G (Z.c.fact 9 rfl)) finV_ok sc_keeps_in (FunD.bindsN F fun _ _ _ _ _ _ us hl => match us, hl with | [_, _], _ => rfl) fun cdv A outer s H E hr =>
    (dss_cons (ds_if (dt_cm ck_is (de_var 0) (de_non)) (dss_one (ds_ret (de_bl))) (dss_nil)) (dss_cons (ds_asg (de_var 1) (dg_tp (dgs_cons (dg_nm nd rfl (by first | exact Or.inl rfl | exact Or.inr rfl)) (dgs_cons (dg_nm nd rfl (by first | exact Or.inl rfl | exact Or.inr rfl)) (dgs_nil))))) (dss_one (ds_ret (de_or (de_cm (ck_lt hr) (de_var 2) (de_mul (de_ix (fun _ _ => rfl) (de_var 0) (de_int)) (de_var 3))) (de_one (de_and (de_cm (ck_eq hr) (de_ix (fun _ _ => rfl) (de_var 0) (de_int)) (de_int)) (de_one (de_cm (ck_eq hr) (de_var 2) (de_mul (de_ix (fun _ _ => rfl) (de_var 0) (de_int)) (de_var 3)))))))))))
theorem sc_require_bound : FnScope ["value"] ["value"] (defScope s_require_bound) := ⟨rfl, rfl, rfl, by decide +kernel, rfl, by decide +kernel, by decide +kernel⟩
theorem ok_require_bound (Z : Zx K mg h) : FD P w K mg base 4 "require_bound" 1 f_require_bound := by
  obtain ⟨fd, F⟩ := Z.c.def_ 10 (d := d_require_bound) rfl
  have nd := sc_require_bound.nd
  exact fd_mk d_require_bound ["value"] ["value"] 3 1 0 rfl rfl F (He.glo_ok Z.X Z.G (Z.c.fact 10 rfl)) finV_ok sc_require_bound (FunD.bindsN F fun _ _ _ _ _ _ us hl => match us, hl with | [_], _ => rfl) fun cdv A outer s H E hr =>
    (dss_one (ds_if (dt_not (dt_tru (de_call (ok_is_bound_in Z) (hr.mono (by decide)) (takes_of rfl rfl rfl rfl) (da_cons (de_var 0) (da_nil))))) (dss_one (ds_no)) (dss_nil)))
theorem sc_require_bounds : FnScope ["one", "other"] ["one", "other"] (defScope s_require_bounds) := ⟨rfl, rfl, rfl, by decide +kernel, rfl, by decide +kernel, by decide +kernel⟩
theorem ok_require_bounds (Z : Zx K mg h) : FD P w K mg base 5 "require_bounds" 2 f_require_bounds := by
  obtain ⟨fd, F⟩ := Z.c.def_ 11 (d := d_require_bounds) rfl
  have nd := sc_require_bounds.nd
  exact fd_mk d_require_bounds ["one", "other"] ["one", "other"] 4 2 0 rfl rfl F (He.glo_ok Z.X Z.G (Z.c.fact 11 rfl)) finV_ok sc_require_bounds (FunD.bindsN F fun _ _ _ _ _ _ us hl => match us, hl with | [_, _], _ => rfl) fun cdv A outer s H E hr =>
    (dss_cons (ds_expr (de_call (ok_require_bound Z) (hr.mono (by decide)) (takes_of rfl rfl rfl rfl) (da_cons (de_var 0) (da_nil)))) (dss_one (ds_expr (de_call (ok_require_bound Z) (hr.mono (by decide)) (takes_of rfl rfl rfl rfl) (da_cons (de_var 1) (da_nil))))))
theorem sc_is_bound : FnScope ["value"] ["value"] (defScope s_is_bound) := ⟨rfl, rfl, rfl, by decide +kernel, rfl, by decide +kernel, by decide +kernel⟩
theorem ok_is_bound (Z : Zx K mg h) : FD P w K mg base 4 "is_bound" 1 f_is_bound := by
  obtain ⟨fd, F⟩ := Z.c.def_ 12 (d := d_is_bound) rfl
  have nd := sc_is_bound.nd
  exact fd_mk d_is_bound ["value"] ["value"] 3 1 0 rfl rfl F (He.glo_ok Z.X Z.G (Z.c.fact 12 rfl)) finV_ok sc_is_bound (FunD.bindsN F fun _ _ _ _ _ _ us hl => match us, hl with | [_], _ => rfl) fun cdv A outer s H E hr =>
    (dss_one (ds_ret (de_call (ok_is_bound_in Z) (hr.mono (by decide)) (takes_of rfl rfl rfl rfl) (da_cons (de_var 0) (da_nil)))))
theorem sc_bound_sum : FnScope ["one", "other"] ["one", "other"] (defScope s_bound_sum) := ⟨rfl, rfl, rfl, by decide +kernel, rfl, by decide +kernel, by decide +kernel⟩
theorem ok_bound_sum (Z : Zx K mg h) : FD P w K mg base 6 "bound_sum" 2 f_bound_sum := by
  obtain ⟨fd, F⟩ := Z.c.def_ 13 (d := d_bound_sum) rfl
  have nd := sc_bound_sum.nd
  exact fd_mk d_bound_sum ["one", "other"] ["one", "other"] 5 2 0 rfl rfl F (He.glo_ok Z.X Z.G (Z.c.fact 13 rfl)) finV_ok sc_bound_sum (FunD.bindsN F fun _ _ _ _ _ _ us hl => match us, hl with | [_, _], _ => rfl) fun cdv A outer s H E hr =>
    (dss_cons (ds_expr (de_call (ok_require_bounds Z) (hr.mono (by decide)) (takes_of rfl rfl rfl rfl) (da_cons (de_var 0) (da_cons (de_var 1) (da_nil))))) (dss_one (ds_ret (de_call (ok_sum_in Z) (hr.mono (by decide)) (takes_of rfl rfl rfl rfl) (da_cons (de_var 0) (da_cons (de_var 1) (da_nil)))))))
theorem sc_is_tighter : FnScope ["one", "other"] ["one", "other"] (defScope s_is_tighter) := ⟨rfl, rfl, rfl, by decide +kernel, rfl, by decide +kernel, by decide +kernel⟩
theorem ok_is_tighter (Z : Zx K mg h) : FD P w K mg base 6 "is_tighter" 2 f_is_tighter := by
  obtain ⟨fd, F⟩ := Z.c.def_ 14 (d := d_is_tighter) rfl
  have nd := sc_is_tighter.nd
  exact fd_mk d_is_tighter ["one", "other"] ["one", "other"] 5 2 0 rfl rfl F (He.glo_ok Z.X Z.G (Z.c.fact 14 rfl)) finV_ok sc_is_tighter (FunD.bindsN F fun _ _ _ _ _ _ us hl => match us, hl with | [_, _], _ => rfl) fun cdv A outer s H E hr =>
    (dss_cons (ds_expr (de_call (ok_require_bounds Z) (hr.mono (by decide)) (takes_of rfl rfl rfl rfl) (da_cons (de_var 0) (da_cons (de_var 1) (da_nil))))) (dss_one (ds_ret (de_call (ok_is_tighter_in Z) (hr.mono (by decide)) (takes_of rfl rfl rfl rfl) (da_cons (de_var 0) (da_cons (de_var 1) (da_nil)))))))
theorem sc_turned : FnScope ["bound"] ["bound"] (defScope s_turned) := ⟨rfl, rfl, rfl, by decide +kernel, rfl, by decide +kernel, by decide +kernel⟩
theorem ok_turned (Z : Zx K mg h) : FD P w K mg base 5 "turned" 1 f_turned := by
  obtain ⟨fd, F⟩ := Z.c.def_ 15 (d := d_turned) rfl
  have nd := sc_turned.nd
  exact fd_mk d_turned ["bound"] ["bound"] 4 1 0 rfl rfl F (He.glo_ok Z.X Z.G (Z.c.fact 15 rfl)) finV_ok sc_turned (FunD.bindsN F fun _ _ _ _ _ _ us hl => match us, hl with | [_], _ => rfl) fun cdv A outer s H E hr =>
    (dss_cons (ds_expr (de_call (ok_require_bound Z) (hr.mono (by decide)) (takes_of rfl rfl rfl rfl) (da_cons (de_var 0) (da_nil)))) (dss_cons (ds_if (dt_cm ck_is (de_var 0) (de_non)) (dss_one (ds_no)) (dss_nil)) (dss_one (ds_ret (de_call (ok_turned_in Z) (hr.mono (by decide)) (takes_of rfl rfl rfl rfl) (da_cons (de_var 0) (da_nil)))))))
theorem sc_does_keep : FnScope ["bound", "fraction"] ["bound", "fraction"] (defScope s_does_keep) := ⟨rfl, rfl, rfl, by decide +kernel, rfl, by decide +kernel, by decide +kernel⟩
theorem ok_does_keep (Z : Zx K mg h) : FD P w K mg base 5 "does_keep" 2 f_does_keep := by
  obtain ⟨fd, F⟩ := Z.c.def_ 16 (d := d_does_keep) rfl
  have nd := sc_does_keep.nd
  exact fd_mk d_does_keep ["bound", "fraction"] ["bound", "fraction"] 4 2 0 rfl rfl F (He.glo_ok Z.X Z.G (Z.c.fact 16 rfl)) finV_ok sc_does_keep (FunD.bindsN F fun _ _ _ _ _ _ us hl => match us, hl with | [_, _], _ => rfl) fun cdv A outer s H E hr =>
    (dss_cons (ds_expr (de_call (ok_require_bound Z) (hr.mono (by decide)) (takes_of rfl rfl rfl rfl) (da_cons (de_var 0) (da_nil)))) (dss_cons (ds_expr (de_call (ok_require_fraction Z) (hr.mono (by decide)) (takes_of rfl rfl rfl rfl) (da_cons (de_var 1) (da_nil)))) (dss_one (ds_ret (de_call (ok_keeps_in Z) (hr.mono (by decide)) (takes_of rfl rfl rfl rfl) (da_cons (de_var 0) (da_cons (de_var 1) (da_nil))))))))
theorem sc__law_spins : FnScope ["script", "spot", "cell", "great"] ["script", "spot"] (defScope s__law_spins) := ⟨rfl, rfl, rfl, by decide +kernel, rfl, by decide +kernel, by decide +kernel⟩
theorem ok__law_spins (Z : Zx K mg h) : FD P w K mg base 1 "_law_spins" 2 f__law_spins := by
  obtain ⟨fd, F⟩ := Z.c.def_ 17 (d := d__law_spins) rfl
  have nd := sc__law_spins.nd
  exact fd_mk d__law_spins ["script", "spot", "cell", "great"] ["script", "spot"] 0 2 2 rfl rfl F (He.glo_ok Z.X Z.G (Z.c.fact 17 rfl)) finC_ok sc__law_spins (FunD.bindsN F fun _ _ _ _ _ _ us hl => match us, hl with | [_, _], _ => rfl) fun cdv A outer s H E hr =>
    (dss_cons (ds_set nd rfl (by first | exact Or.inl rfl | exact Or.inr rfl) (de_if (dt_cm (ck_lt hr) (de_var 1) (de_bi (b_len (He.free_ok Z.X Z.G (Z.c.fact 35 rfl))) (da_cons (de_var 0) (da_nil)))) (de_bi (b_int (He.free_ok Z.X Z.G (Z.c.fact 30 rfl))) (da_cons (de_ix (fun _ _ => rfl) (de_var 0) (de_var 1)) (da_nil))) (de_add (de_mul (de_int) (de_var 1)) (de_int)))) (dss_cons (ds_set nd rfl (by first | exact Or.inl rfl | exact Or.inr rfl) (de_mod (de_bi (b_int (He.free_ok Z.X Z.G (Z.c.fact 30 rfl))) (da_cons (de_bi (b_abs (He.free_ok Z.X Z.G (Z.c.fact 39 rfl))) (da_cons (de_var 2) (da_nil))) (da_nil))) (de_pow (de_pow (de_int) (de_int)) (de_int)))) (dss_one (ds_ret (de_new (da_cons (de_bi (b_max (He.free_ok Z.X Z.G (Z.c.fact 40 rfl))) (da_cons (de_int) (da_cons (de_sub (de_var 3) (de_pow (de_int) (de_int))) (da_nil)))) (da_cons (de_add (de_add (de_add (de_mul (de_mod (de_bi (b_int (He.free_ok Z.X Z.G (Z.c.fact 30 rfl))) (da_cons (de_var 3) (da_nil))) (de_int)) (de_int)) (de_mul (de_int) (de_var 1))) (de_mul (de_int) (de_bi (b_int (He.free_ok Z.X Z.G (Z.c.fact 30 rfl))) (da_cons (de_cm (ck_lt hr) (de_var 2) (de_int)) (da_nil))))) (de_int)) (da_cons (de_int) (da_nil)))))))))
theorem sc__law_spin : FnScope ["spins", "total", "found", "one", "two"] ["spins", "total"] (defScope s__law_spin) := ⟨rfl, rfl, rfl, by decide +kernel, rfl, by decide +kernel, by decide +kernel⟩
theorem ok__law_spin (Z : Zx K mg h) : FD P w K mg base 1 "_law_spin" 2 f__law_spin := by
  obtain ⟨fd, F⟩ := Z.c.def_ 18 (d := d__law_spin) rfl
  have nd := sc__law_spin.nd
  exact fd_mk d__law_spin ["spins", "total", "found", "one", "two"] ["spins", "total"] 0 2 3 rfl rfl F (He.glo_ok Z.X Z.G (Z.c.fact 18 rfl)) finV_ok sc__law_spin (FunD.bindsN F fun _ _ _ _ _ _ us hl => match us, hl with | [_, _], _ => rfl) fun cdv A outer s H E hr =>
    (dss_cons (ds_if (dt_cm ck_gt (de_ix (fun _ _ => rfl) (de_var 0) (de_int)) (de_int)) (dss_cons (ds_set nd rfl (by first | exact Or.inl rfl | exact Or.inr rfl) (de_mod (de_bi (b_int (He.free_ok Z.X Z.G (Z.c.fact 30 rfl))) (da_cons (de_ix (fun _ _ => rfl) (de_var 0) (de_int)) (da_nil))) (de_var 1))) (dss_cons (ds_put (de_var 0) (de_int) (de_fdiv (de_ix (fun _ _ => rfl) (de_var 0) (de_int)) (de_var 1))) (dss_one (ds_ret (de_var 2))))) (dss_nil)) (dss_cons (ds_put (de_var 0) (de_int) (de_add (de_ix (fun _ _ => rfl) (de_var 0) (de_int)) (de_int))) (dss_cons (ds_set nd rfl (by first | exact Or.inl rfl | exact Or.inr rfl) (de_mod (de_bi (b_int (He.free_ok Z.X Z.G (Z.c.fact 30 rfl))) (da_cons (de_add (de_ix (fun _ _ => rfl) (de_var 0) (de_int)) (de_mul (de_int) (de_ix (fun _ _ => rfl) (de_var 0) (de_int)))) (da_nil))) (de_int))) (dss_cons (ds_set nd rfl (by first | exact Or.inl rfl | exact Or.inr rfl) (de_add (de_mul (de_mod (de_bi (b_int (He.free_ok Z.X Z.G (Z.c.fact 30 rfl))) (da_cons (de_add (de_mul (de_var 3) (de_var 3)) (de_mul (de_int) (de_ix (fun _ _ => rfl) (de_var 0) (de_int)))) (da_nil))) (de_int)) (de_int)) (de_var 3))) (dss_one (ds_ret (de_mod (de_bi (b_int (He.free_ok Z.X Z.G (Z.c.fact 30 rfl))) (da_cons (de_fdiv (de_var 4) (de_int)) (da_nil))) (de_var 1))))))))
theorem sc__law_among : FnScope ["spins", "items"] ["spins", "items"] (defScope s__law_among) := ⟨rfl, rfl, rfl, by decide +kernel, rfl, by decide +kernel, by decide +kernel⟩
theorem ok__law_among (Z : Zx K mg h) : FD P w K mg base 2 "_law_among" 2 f__law_among := by
  obtain ⟨fd, F⟩ := Z.c.def_ 19 (d := d__law_among) rfl
  have nd := sc__law_among.nd
  exact fd_mk d__law_among ["spins", "items"] ["spins", "items"] 1 2 0 rfl rfl F (He.glo_ok Z.X Z.G (Z.c.fact 19 rfl)) finV_ok sc__law_among (FunD.bindsN F fun _ _ _ _ _ _ us hl => match us, hl with | [_, _], _ => rfl) fun cdv A outer s H E hr =>
    (dss_one (ds_ret (de_ix (fun _ _ => rfl) (de_var 1) (de_call (ok__law_spin Z) (hr.mono (by decide)) (takes_of rfl rfl rfl rfl) (da_cons (de_var 0) (da_cons (de_bi (b_len (He.free_ok Z.X Z.G (Z.c.fact 35 rfl))) (da_cons (de_var 1) (da_nil))) (da_nil)))))))
theorem sc__law_sum : FnScope ["one", "other"] ["one", "other"] (defScope s__law_sum) := ⟨rfl, rfl, rfl, by decide +kernel, rfl, by decide +kernel, by decide +kernel⟩
theorem ok__law_sum (Z : Zx K mg h) : FD P w K mg base 1 "_law_sum" 2 f__law_sum := by
  obtain ⟨fd, F⟩ := Z.c.def_ 20 (d := d__law_sum) rfl
  have nd := sc__law_sum.nd
  exact fd_mk d__law_sum ["one", "other"] ["one", "other"] 0 2 0 rfl rfl F (He.glo_ok Z.X Z.G (Z.c.fact 20 rfl)) finV_ok sc__law_sum (FunD.bindsN F fun _ _ _ _ _ _ us hl => match us, hl with | [_, _], _ => rfl) fun cdv A outer s H E hr =>
    (dss_one (ds_ret (de_if (dt_w (dw_or (dt_cm ck_is (de_var 0) (de_non)) (dw_or1 (dt_cm ck_is (de_var 1) (de_non))))) (de_non) (de_tup (da_cons (de_add (de_ix (fun _ _ => rfl) (de_var 0) (de_int)) (de_ix (fun _ _ => rfl) (de_var 1) (de_int))) (da_cons (de_mul (de_ix (fun _ _ => rfl) (de_var 0) (de_int)) (de_ix (fun _ _ => rfl) (de_var 1) (de_int))) (da_nil)))))))
theorem sc__law_is_less : FnScope ["one", "other"] ["one", "other"] (defScope s__law_is_less) := ⟨rfl, rfl, rfl, by decide +kernel, rfl, by decide +kernel, by decide +kernel⟩
theorem ok__law_is_less (Z : Zx K mg h) : FD P w K mg base 1 "_law_is_less" 2 f__law_is_less := by
  obtain ⟨fd, F⟩ := Z.c.def_ 21 (d := d__law_is_less) rfl
  have nd := sc__law_is_less.nd
  exact fd_mk d__law_is_less ["one", "other"] ["one", "other"] 0 2 0 rfl rfl F (He.glo_ok Z.X Z.G (Z.c.fact 21 rfl)) finV_ok sc__law_is_less (FunD.bindsN F fun _ _ _ _ _ _ us hl => match us, hl with | [_, _], _ => rfl) fun cdv A outer s H E hr =>
    (dss_cons (ds_if (dt_w (dw_or (dt_cm ck_is (de_var 0) (de_non)) (dw_or1 (dt_cm ck_is (de_var 1) (de_non))))) (dss_one (ds_ret (de_and (de_cm ck_isNot (de_var 0) (de_non)) (de_one (de_cm ck_is (de_var 1) (de_non)))))) (dss_nil)) (dss_one (ds_ret (de_cm (ck_lt hr) (de_var 0) (de_var 1)))))
theorem sc__law_keeps : FnScope ["bound", "top", "bottom"] ["bound", "top", "bottom"] (defScope s__law_keeps) := ⟨rfl, rfl, rfl, by decide +kernel, rfl, by decide +kernel, by decide +kernel⟩
theorem ok__law_keeps (Z : Zx K mg h) : FD P w K mg base 1 "_law_keeps" 3 f__law_keeps := by
  obtain ⟨fd, F⟩ := Z.c.def_ 22 (d := d__law_keeps) rfl
  have nd := sc__law_keeps.nd
  exact fd_mk d__law_keeps ["bound", "top", "bottom"] ["bound", "top", "bottom"] 0 3 0 rfl rfl F (He.glo_ok Z.X Z.G (Z.c.fact 22 rfl)) finV_ok sc__law_keeps (FunD.bindsN F fun _ _ _ _ _ _ us hl => match us, hl with | [_, _, _], _ => rfl) fun cdv A outer s H E hr =>
    (dss_cons (ds_if (dt_cm ck_is (de_var 0) (de_non)) (dss_one (ds_ret (de_bl))) (dss_nil)) (dss_one (ds_ret (de_or (de_cm (ck_lt hr) (de_var 1) (de_mul (de_ix (fun _ _ => rfl) (de_var 0) (de_int)) (de_var 2))) (de_one (de_and (de_cm (ck_eq hr) (de_var 1) (de_mul (de_ix (fun _ _ => rfl) (de_var 0) (de_int)) (de_var 2))) (de_one (de_cm (ck_eq hr) (de_ix (fun _ _ => rfl) (de_var 0) (de_int)) (de_int)))))))))
theorem sc__law_number_drawn : FnScope ["spins"] ["spins"] (defScope s__law_number_drawn) := ⟨rfl, rfl, rfl, by decide +kernel, rfl, by decide +kernel, by decide +kernel⟩
theorem ok__law_number_drawn (Z : Zx K mg h) : FD P w K mg base 3 "_law_number_drawn" 1 f__law_number_drawn := by
  obtain ⟨fd, F⟩ := Z.c.def_ 23 (d := d__law_number_drawn) rfl
  have nd := sc__law_number_drawn.nd
  exact fd_mk d__law_number_drawn ["spins"] ["spins"] 2 1 0 rfl rfl F (He.glo_ok Z.X Z.G (Z.c.fact 23 rfl)) finV_ok sc__law_number_drawn (FunD.bindsN F fun _ _ _ _ _ _ us hl => match us, hl with | [_], _ => rfl) fun cdv A outer s H E hr =>
    (dss_one (ds_ret (de_mul (de_call (ok__law_among Z) (hr.mono (by decide)) (takes_of rfl rfl rfl rfl) (da_cons (de_var 0) (da_cons (de_lst (da_cons (de_int) (da_cons (de_neg (de_int)) (da_nil)))) (da_nil)))) (de_call (ok__law_among Z) (hr.mono (by decide)) (takes_of rfl rfl rfl rfl) (da_cons (de_var 0) (da_cons (de_lst (da_cons (de_call (ok__law_spin Z) (hr.mono (by decide)) (takes_of rfl rfl rfl rfl) (da_cons (de_var 0) (da_cons (de_int) (da_nil)))) (da_cons (de_call (ok__law_spin Z) (hr.mono (by decide)) (takes_of rfl rfl rfl rfl) (da_cons (de_var 0) (da_cons (de_int) (da_nil)))) (da_cons (de_call (ok__law_spin Z) (hr.mono (by decide)) (takes_of rfl rfl rfl rfl) (da_cons (de_var 0) (da_cons (de_pow (de_int) (de_int)) (da_nil)))) (da_nil))))) (da_nil)))))))
theorem sc__law_bound_drawn : FnScope ["spins"] ["spins"] (defScope s__law_bound_drawn) := ⟨rfl, rfl, rfl, by decide +kernel, rfl, by decide +kernel, by decide +kernel⟩
theorem ok__law_bound_drawn (Z : Zx K mg h) : FD P w K mg base 4 "_law_bound_drawn" 1 f__law_bound_drawn := by
  obtain ⟨fd, F⟩ := Z.c.def_ 24 (d := d__law_bound_drawn) rfl
  have nd := sc__law_bound_drawn.nd
  exact fd_mk d__law_bound_drawn ["spins"] ["spins"] 3 1 0 rfl rfl F (He.glo_ok Z.X Z.G (Z.c.fact 24 rfl)) finV_ok sc__law_bound_drawn (FunD.bindsN F fun _ _ _ _ _ _ us hl => match us, hl with | [_], _ => rfl) fun cdv A outer s H E hr =>
    (dss_one (ds_ret (de_if (dt_cm (ck_eq hr) (de_call (ok__law_spin Z) (hr.mono (by decide)) (takes_of rfl rfl rfl rfl) (da_cons (de_var 0) (da_cons (de_int) (da_nil)))) (de_int)) (de_non) (de_tup (da_cons (de_call (ok__law_number_drawn Z) (hr.mono (by decide)) (takes_of rfl rfl rfl rfl) (da_cons (de_var 0) (da_nil))) (da_cons (de_call (ok__law_spin Z) (hr.mono (by decide)) (takes_of rfl rfl rfl rfl) (da_cons (de_var 0) (da_cons (de_int) (da_nil)))) (da_nil)))))))
theorem sc__law_fractions_near : FnScope ["spins", "number", "q", "found", "more"] ["spins", "number"] (defScope s__law_fractions_near) := ⟨rfl, rfl, rfl, by decide +kernel, rfl, by decide +kernel, by decide +kernel⟩
theorem ok__law_fractions_near (Z : Zx K mg h) : FD P w K mg base 4 "_law_fractions_near" 2 f__law_fractions_near := by
  obtain ⟨fd, F⟩ := Z.c.def_ 25 (d := d__law_fractions_near) rfl
  have nd := sc__law_fractions_near.nd
  exact fd_mk d__law_fractions_near ["spins", "number", "q", "found", "more"] ["spins", "number"] 3 2 3 rfl rfl F (He.glo_ok Z.X Z.G (Z.c.fact 25 rfl)) finV_ok sc__law_fractions_near (FunD.bindsN F fun _ _ _ _ _ _ us hl => match us, hl with | [_, _], _ => rfl) fun cdv A outer s H E hr =>
    (dss_cons (ds_set nd rfl (by first | exact Or.inl rfl | exact Or.inr rfl) (de_call (ok__law_among Z) (hr.mono (by decide)) (takes_of rfl rfl rfl rfl) (da_cons (de_var 0) (da_cons (de_lst (da_cons (de_int) (da_cons (de_int) (da_cons (de_int) (da_cons (de_pow (de_int) (de_int)) (da_nil)))))) (da_nil))))) (dss_cons (ds_lc (own := [("more", 4)]) nd rfl rfl (sw_true rfl rfl rfl (by decide +kernel)) (di_seq (de_tup (da_cons (de_int) (da_cons (de_int) (da_cons (de_neg (de_int)) (da_cons (de_var 2) (da_cons (de_sub (de_int) (de_var 2)) (da_nil)))))))) (blkOk_by (N := ["spins", "number", "q", "found", "more"]) (sc := defScope s__law_fractions_near) (by decide +kernel)) (fun _ _ _ _ _ => dg_nm nd rfl (by first | exact Or.inl rfl | exact Or.inr rfl)) (fun _ _ _ _ _ => dts_nil) (fun _ _ _ _ _ => de_tup (da_cons (de_add (de_mul (de_var 1) (de_var 2)) (de_var 4)) (da_cons (de_var 2) (da_nil))))) (dss_one (ds_ret (de_add (de_var 3) (de_lst (da_cons (de_tup (da_cons (de_call (ok__law_number_drawn Z) (hr.mono (by decide)) (takes_of rfl rfl rfl rfl) (da_cons (de_var 0) (da_nil))) (da_cons (de_add (de_int) (de_call (ok__law_spin Z) (hr.mono (by decide)) (takes_of rfl rfl rfl rfl) (da_cons (de_var 0) (da_cons (de_int) (da_nil))))) (da_nil)))) (da_nil))))))))
theorem sc__law_is_bound : FnScope ["value", "one"] ["value"] (defScope s__law_is_bound) := ⟨rfl, rfl, rfl, by decide +kernel, rfl, by decide +kernel, by decide +kernel⟩
theorem ok__law_is_bound (Z : Zx K mg h) : FD P w K mg base 1 "_law_is_bound" 1 f__law_is_bound := by
  obtain ⟨fd, F⟩ := Z.c.def_ 26 (d := d__law_is_bound) rfl
  have nd := sc__law_is_bound.nd
  exact fd_mk d__law_is_bound ["value", "one"] ["value"] 0 1 1 rfl rfl F (He.glo_ok Z.X Z.G (Z.c.fact 26 rfl)) finV_ok sc__law_is_bound (FunD.bindsN F fun _ _ _ _ _ _ us hl => match us, hl with | [_], _ => rfl) fun cdv A outer s H E hr =>
    (dss_cons (ds_if (dt_cm ck_is (de_var 0) (de_non)) (dss_one (ds_ret (de_bl))) (dss_nil)) (dss_cons (ds_if (dt_w (dw_or (dt_not (dt_tru (de_bi (b_isinstance (He.free_ok Z.X Z.G (Z.c.fact 31 rfl))) (da_cons (de_var 0) (da_cons (de_ty (He.free_ok Z.X Z.G (Z.c.fact 34 rfl)) (by decide +kernel)) (da_nil)))))) (dw_or1 (dt_cm (ck_ne hr) (de_bi (b_len (He.free_ok Z.X Z.G (Z.c.fact 35 rfl))) (da_cons (de_var 0) (da_nil))) (de_int))))) (dss_one (ds_ret (de_bl))) (dss_nil)) (dss_cons (ds_if (dt_cm (ck_ne hr) (de_lc (own := [("one", 1)]) nd (di_seq (de_var 0)) (blkOk_by (N := ["value", "one"]) (sc := defScope s__law_is_bound) (by decide +kernel)) (fun _ _ _ _ _ => dg_nm nd rfl (by first | exact Or.inl rfl | exact Or.inr rfl)) (fun _ _ _ _ _ => dts_one (dt_w (dw_or (dt_tru (de_bi (b_isinstance (He.free_ok Z.X Z.G (Z.c.fact 31 rfl))) (da_cons (de_var 1) (da_cons (de_ty (He.free_ok Z.X Z.G (Z.c.fact 32 rfl)) (by decide +kernel)) (da_nil))))) (dw_or1 (dt_not (dt_tru (de_bi (b_isinstance (He.free_ok Z.X Z.G (Z.c.fact 31 rfl))) (da_cons (de_var 1) (da_cons (de_ty (He.free_ok Z.X Z.G (Z.c.fact 30 rfl)) (by decide +kernel)) (da_nil)))))))))) (fun _ _ _ _ _ => de_var 1)) (de_lst (da_nil))) (dss_one (ds_ret (de_bl))) (dss_nil)) (dss_one (ds_ret (de_and (de_cm (ck_lt hr) (de_bi (b_abs (He.free_ok Z.X Z.G (Z.c.fact 39 rfl))) (da_cons (de_ix (fun _ _ => rfl) (de_var 0) (de_int)) (da_nil))) (de_pow (de_int) (de_int))) (de_one (de_cm (ck_in hr) (de_ix (fun _ _ => rfl) (de_var 0) (de_int)) (de_tup (da_cons (de_int) (da_cons (de_int) (da_nil))))))))))))
theorem sc__law_pair_right : FnScope ["spins", "one", "other", "told", "top", "q", "rest", "step", "left", "is_split"] ["spins", "one", "other"] (defScope s__law_pair_right) := ⟨rfl, rfl, rfl, by decide +kernel, rfl, by decide +kernel, by decide +kernel⟩
theorem ok__law_pair_right (Z : Zx K mg h) : FD P w K mg base 7 "_law_pair_right" 3 f__law_pair_right := by
  obtain ⟨fd, F⟩ := Z.c.def_ 27 (d := d__law_pair_right) rfl
  have nd := sc__law_pair_right.nd
  exact fd_mk d__law_pair_right ["spins", "one", "other", "told", "top", "q", "rest", "step", "left", "is_split"] ["spins", "one", "other"] 6 3 7 rfl rfl F (He.glo_ok Z.X Z.G (Z.c.fact 27 rfl)) finV_ok sc__law_pair_right (FunD.bindsN F fun _ _ _ _ _ _ us hl => match us, hl with | [_, _, _], _ => rfl) fun cdv A outer s H E hr =>
    (dss_cons (ds_set nd rfl (by first | exact Or.inl rfl | exact Or.inr rfl) (de_call (ok_bound_sum Z) (hr.mono (by decide)) (takes_of rfl rfl rfl rfl) (da_cons (de_var 1) (da_cons (de_var 2) (da_nil))))) (dss_cons (ds_if (dt_w (dw_or (dt_cm (ck_ne hr) (de_var 3) (de_call (ok__law_sum Z) (hr.mono (by decide)) (takes_of rfl rfl rfl rfl) (da_cons (de_var 1) (da_cons (de_var 2) (da_nil))))) (dw_or1 (dt_cm (ck_ne hr) (de_call (ok_is_tighter Z) (hr.mono (by decide)) (takes_of rfl rfl rfl rfl) (da_cons (de_var 1) (da_cons (de_var 2) (da_nil)))) (de_call (ok__law_is_less Z) (hr.mono (by decide)) (takes_of rfl rfl rfl rfl) (da_cons (de_var 1) (da_cons (de_var 2) (da_nil)))))))) (dss_one (ds_ret (de_bl))) (dss_nil)) (dss_cons (ds_if (dt_w (dw_or (dt_cm ck_is (de_var 1) (de_non)) (dw_or1 (dt_cm ck_is (de_var 2) (de_non))))) (dss_one (ds_ret (de_cm ck_is (de_var 3) (de_non)))) (dss_nil)) (dss_cons (ds_for (passes_of rfl) (di_seq (de_call (ok__law_fractions_near Z) (hr.mono (by decide)) (takes_of rfl rfl rfl rfl) (da_cons (de_var 0) (da_cons (de_add (de_ix (fun _ _ => rfl) (de_var 1) (de_int)) (de_ix (fun _ _ => rfl) (de_var 2) (de_int))) (da_nil))))) (dg_tp (dgs_cons (dg_nm nd rfl (by first | exact Or.inl rfl | exact Or.inr rfl)) (dgs_cons (dg_nm nd rfl (by first | exact Or.inl rfl | exact Or.inr rfl)) (dgs_nil)))) (dss_cons (ds_set nd rfl (by first | exact Or.inl rfl | exact Or.inr rfl) (de_call (ok__law_among Z) (hr.mono (by decide)) (takes_of rfl rfl rfl rfl) (da_cons (de_var 0) (da_cons (de_lst (da_cons (de_int) (da_cons (de_int) (da_cons (de_int) (da_cons (de_int) (da_nil)))))) (da_nil))))) (dss_cons (ds_set nd rfl (by first | exact Or.inl rfl | exact Or.inr rfl) (de_tup (da_cons (de_sub (de_sub (de_mul (de_mul (de_ix (fun _ _ => rfl) (de_var 1) (de_int)) (de_int)) (de_var 5)) (de_if (dt_cm (ck_eq hr) (de_ix (fun _ _ => rfl) (de_var 1) (de_int)) (de_int)) (de_int) (de_int))) (de_var 6)) (da_cons (de_mul (de_int) (de_var 5)) (da_nil))))) (dss_cons (ds_set nd rfl (by first | exact Or.inl rfl | exact Or.inr rfl) (de_tup (da_cons (de_sub (de_mul (de_var 4) (de_int)) (de_ix (fun _ _ => rfl) (de_var 7) (de_int))) (da_cons (de_mul (de_int) (de_var 5)) (da_nil))))) (dss_cons (ds_set nd rfl (by first | exact Or.inl rfl | exact Or.inr rfl) (de_and (de_call (ok__law_keeps Z) (hr.mono (by decide)) (takes_of rfl rfl rfl rfl) (da_cons (de_var 1) (da_cons (de_ix (fun _ _ => rfl) (de_var 7) (de_int)) (da_cons (de_ix (fun _ _ => rfl) (de_var 7) (de_int)) (da_nil))))) (de_one (de_call (ok__law_keeps Z) (hr.mono (by decide)) (takes_of rfl rfl rfl rfl) (da_cons (de_var 2) (da_cons (de_ix (fun _ _ => rfl) (de_var 8) (de_int)) (da_cons (de_ix (fun _ _ => rfl) (de_var 8) (de_int)) (da_nil)))))))) (dss_cons (ds_if (dt_w (dw_and (dt_tru (de_var 9)) (dw_and1 (dt_not (dt_tru (de_call (ok_does_keep Z) (hr.mono (by decide)) (takes_of rfl rfl rfl rfl) (da_cons (de_var 3) (da_cons (de_tup (da_cons (de_var 4) (da_cons (de_var 5) (da_nil)))) (da_nil))))))))) (dss_one (ds_ret (de_bl))) (dss_nil)) (dss_one (ds_if (dt_w (dw_and (dt_cm (ck_eq hr) (de_var 6) (de_int)) (dw_and (dt_cm (ck_eq hr) (de_ix (fun _ _ => rfl) (de_var 1) (de_int)) (de_int)) (dw_and1 (dt_cm (ck_ne hr) (de_call (ok_does_keep Z) (hr.mono (by decide)) (takes_of rfl rfl rfl rfl) (da_cons (de_var 3) (da_cons (de_tup (da_cons (de_var 4) (da_cons (de_var 5) (da_nil)))) (da_nil)))) (de_var 9)))))) (dss_one (ds_ret (de_bl))) (dss_nil))))))))) (dss_one (ds_ret (de_bl)))))))
theorem sc__law_right : FnScope ["spins", "one", "other", "top", "q", "some", "value"] ["spins"] (defScope s__law_right) := ⟨rfl, rfl, rfl, by decide +kernel, rfl, by decide +kernel, by decide +kernel⟩
theorem ok__law_right (Z : Zx K mg h) : FD P w K mg base 8 "_law_right" 1 f__law_right := by
  obtain ⟨fd, F⟩ := Z.c.def_ 28 (d := d__law_right) rfl
  have nd := sc__law_right.nd
  exact fd_mk d__law_right ["spins", "one", "other", "top", "q", "some", "value"] ["spins"] 7 1 6 rfl rfl F (He.glo_ok Z.X Z.G (Z.c.fact 28 rfl)) finV_ok sc__law_right (FunD.bindsN F fun _ _ _ _ _ _ us hl => match us, hl with | [_], _ => rfl) fun cdv A outer s H E hr =>
    (dss_cons (ds_par2 nd rfl rfl rfl rfl (da_cons (de_call (ok__law_bound_drawn Z) (hr.mono (by decide)) (takes_of rfl rfl rfl rfl) (da_cons (de_var 0) (da_nil))) (da_cons (de_call (ok__law_bound_drawn Z) (hr.mono (by decide)) (takes_of rfl rfl rfl rfl) (da_cons (de_var 0) (da_nil))) (da_nil)))) (dss_cons (ds_if (dt_w (dw_or (dt_not (dt_tru (de_call (ok__law_pair_right Z) (hr.mono (by decide)) (takes_of rfl rfl rfl rfl) (da_cons (de_var 0) (da_cons (de_var 1) (da_cons (de_var 2) (da_nil))))))) (dw_or1 (dt_not (dt_tru (de_call (ok__law_pair_right Z) (hr.mono (by decide)) (takes_of rfl rfl rfl rfl) (da_cons (de_var 0) (da_cons (de_var 2) (da_cons (de_var 1) (da_nil)))))))))) (dss_one (ds_ret (de_bl))) (dss_nil)) (dss_cons (ds_if (dt_w (dw_or (dt_tru (de_call (ok_is_tighter Z) (hr.mono (by decide)) (takes_of rfl rfl rfl rfl) (da_cons (de_var 1) (da_cons (de_var 1) (da_nil))))) (dw_or1 (dt_cm (ck_ne hr) (de_call (ok_bound_sum Z) (hr.mono (by decide)) (takes_of rfl rfl rfl rfl) (da_cons (de_var 1) (da_cons (de_tup (da_cons (de_int) (da_cons (de_int) (da_nil)))) (da_nil)))) (de_var 1))))) (dss_one (ds_ret (de_bl))) (dss_nil)) (dss_cons (ds_for (passes_of rfl) (di_seq (de_call (ok__law_fractions_near Z) (hr.mono (by decide)) (takes_of rfl rfl rfl rfl) (da_cons (de_var 0) (da_cons (de_if (dt_cm ck_is (de_var 1) (de_non)) (de_call (ok__law_spin Z) (hr.mono (by decide)) (takes_of rfl rfl rfl rfl) (da_cons (de_var 0) (da_cons (de_int) (da_nil)))) (de_ix (fun _ _ => rfl) (de_var 1) (de_int))) (da_nil))))) (dg_tp (dgs_cons (dg_nm nd rfl (by first | exact Or.inl rfl | exact Or.inr rfl)) (dgs_cons (dg_nm nd rfl (by first | exact Or.inl rfl | exact Or.inr rfl)) (dgs_nil)))) (dss_cons (ds_if (dt_cm (ck_ne hr) (de_call (ok_does_keep Z) (hr.mono (by decide)) (takes_of rfl rfl rfl rfl) (da_cons (de_var 1) (da_cons (de_tup (da_cons (de_var 3) (da_cons (de_var 4) (da_nil)))) (da_nil)))) (de_call (ok__law_keeps Z) (hr.mono (by decide)) (takes_of rfl rfl rfl rfl) (da_cons (de_var 1) (da_cons (de_var 3) (da_cons (de_var 4) (da_nil)))))) (dss_one (ds_ret (de_bl))) (dss_nil)) (dss_one (ds_if (dt_w (dw_and (dt_cm ck_isNot (de_var 1) (de_non)) (dw_and1 (dt_cm (ck_eq hr) (de_call (ok_does_keep Z) (hr.mono (by decide)) (takes_of rfl rfl rfl rfl) (da_cons (de_call (ok_turned Z) (hr.mono (by decide)) (takes_of rfl rfl rfl rfl) (da_cons (de_var 1) (da_nil))) (da_cons (de_tup (da_cons (de_sub (de_int) (de_var 3)) (da_cons (de_var 4) (da_nil)))) (da_nil)))) (de_call (ok_does_keep Z) (hr.mono (by decide)) (takes_of rfl rfl rfl rfl) (da_cons (de_var 1) (da_cons (de_tup (da_cons (de_var 3) (da_cons (de_var 4) (da_nil)))) (da_nil)))))))) (dss_one (ds_ret (de_bl))) (dss_nil))))) (dss_cons (ds_if (dt_w (dw_and (dt_cm ck_isNot (de_var 1) (de_non)) (dw_and1 (dt_cm (ck_ne hr) (de_call (ok_turned Z) (hr.mono (by decide)) (takes_of rfl rfl rfl rfl) (da_cons (de_call (ok_turned Z) (hr.mono (by decide)) (takes_of rfl rfl rfl rfl) (da_cons (de_var 1) (da_nil))) (da_nil))) (de_var 1))))) (dss_one (ds_ret (de_bl))) (dss_nil)) (dss_cons (ds_set nd rfl (by first | exact Or.inl rfl | exact Or.inr rfl) (de_lst (da_cons (de_var 1) (da_cons (de_var 2) (da_cons (de_tup (da_nil)) (da_cons (de_tup (da_cons (de_int) (da_nil))) (da_cons (de_tup (da_cons (de_int) (da_cons (de_int) (da_nil)))) (da_cons (de_tup (da_cons (de_int) (da_cons (de_neg (de_int)) (da_nil)))) (da_cons (de_tup (da_cons (de_int) (da_cons (de_bl) (da_nil)))) (da_cons (de_tup (da_cons (de_bl) (da_cons (de_int) (da_nil)))) (da_cons (de_lst (da_cons (de_int) (da_cons (de_int) (da_nil)))) (da_cons (de_tup (da_cons (de_int) (da_cons (de_int) (da_cons (de_int) (da_nil))))) (da_cons (de_str) (da_cons (de_int) (da_cons (de_tup (da_cons (de_pow (de_int) (de_int)) (da_cons (de_int) (da_nil)))) (da_cons (de_dnil) (da_nil))))))))))))))))) (dss_one (ds_ret (de_cm (ck_eq hr) (de_lc (own := [("value", 6)]) nd (di_seq (de_var 5)) (blkOk_by (N := ["spins", "one", "other", "top", "q", "some", "value"]) (sc := defScope s__law_right) (by decide +kernel)) (fun _ _ _ _ _ => dg_nm nd rfl (by first | exact Or.inl rfl | exact Or.inr rfl)) (fun _ _ _ _ _ => dts_one (dt_cm (ck_ne hr) (de_bi (b_repr (He.free_ok Z.X Z.G (Z.c.fact 41 rfl))) (da_cons (de_call (ok_is_bound Z) (hr.mono (by decide)) takes0 (da_cons (de_var 6) (da_nil))) (da_nil))) (de_bi (b_repr (He.free_ok Z.X Z.G (Z.c.fact 41 rfl))) (da_cons (de_call (ok__law_is_bound Z) (hr.mono (by decide)) takes0 (da_cons (de_var 6) (da_nil))) (da_nil))))) (fun _ _ _ _ _ => de_var 6)) (de_lst (da_nil)))))))))))
theorem sc_law : FnScope ["script", "spot", "spins", "turn", "told"] ["script"] (defScope s_law) := ⟨rfl, rfl, rfl, by decide +kernel, rfl, by decide +kernel, by decide +kernel⟩
theorem ok_law {f : Addr} {fd : FuncData} (Z : Zx K mg h) (F : FunD K d_law.name d_law.qual d_law.params d_law.body d_law.scope (d_law.dvs K) (d_law.kws K) f fd) : FnOk P w K mg base (L2.CX P w) 9 f fd ["script"] (spD K mg 1 f_law) := by
  have nd := sc_law.nd
  exact fn_mk' d_law ["script", "spot", "spins", "turn", "told"] ["script"] 8 1 4 rfl rfl F finV_ok sc_law fun cdv A outer s H E hr =>
    (dss_cons (ds_for (passes_of rfl) (di_range1 (da_cons (de_bi (b_max (He.free_ok Z.X Z.G (Z.c.fact 40 rfl))) (da_cons (de_int) (da_cons (de_bi (b_min (He.free_ok Z.X Z.G (Z.c.fact 42 rfl))) (da_cons (de_int) (da_cons (de_bi (b_len (He.free_ok Z.X Z.G (Z.c.fact 35 rfl))) (da_cons (de_var 0) (da_nil))) (da_nil)))) (da_nil)))) (da_nil)) (He.free_ok Z.X Z.G (Z.c.fact 43 rfl))) (dg_nm nd rfl (by first | exact Or.inl rfl | exact Or.inr rfl)) (dss_cons (ds_set nd rfl (by first | exact Or.inl rfl | exact Or.inr rfl) (de_call (ok__law_spins Z) (hr.mono (by decide)) (takes_of rfl rfl rfl rfl) (da_cons (de_var 0) (da_cons (de_var 1) (da_nil))))) (dss_one (ds_for (passes_of rfl) (di_range1 (da_cons (de_int) (da_nil)) (He.free_ok Z.X Z.G (Z.c.fact 43 rfl))) (dg_nm nd rfl (by first | exact Or.inl rfl | exact Or.inr rfl)) (dss_one (ds_if (dt_not (dt_tru (de_call (ok__law_right Z) (hr.mono (by decide)) (takes_of rfl rfl rfl rfl) (da_cons (de_var 2) (da_nil))))) (dss_one (ds_ret (de_bl))) (dss_nil))))))) (dss_cons (ds_set nd rfl (by first | exact Or.inl rfl | exact Or.inr rfl) (de_lst (da_cons (de_call (ok_bound_sum Z) (hr.mono (by decide)) (takes_of rfl rfl rfl rfl) (da_cons (de_tup (da_cons (de_int) (da_cons (de_int) (da_nil)))) (da_cons (de_tup (da_cons (de_int) (da_cons (de_int) (da_nil)))) (da_nil)))) (da_cons (de_call (ok_bound_sum Z) (hr.mono (by decide)) (takes_of rfl rfl rfl rfl) (da_cons (de_tup (da_cons (de_int) (da_cons (de_int) (da_nil)))) (da_cons (de_tup (da_cons (de_int) (da_cons (de_int) (da_nil)))) (da_nil)))) (da_cons (de_call (ok_bound_sum Z) (hr.mono (by decide)) (takes_of rfl rfl rfl rfl) (da_cons (de_non) (da_cons (de_tup (da_cons (de_int) (da_cons (de_int) (da_nil)))) (da_nil)))) (da_cons (de_call (ok_turned Z) (hr.mono (by decide)) (takes_of rfl rfl rfl rfl) (da_cons (de_tup (da_cons (de_int) (da_cons (de_int) (da_nil)))) (da_nil))) (da_cons (de_call (ok_turned Z) (hr.mono (by decide)) (takes_of rfl rfl rfl rfl) (da_cons (de_tup (da_cons (de_neg (de_int)) (da_cons (de_int) (da_nil)))) (da_nil))) (da_nil)))))))) (dss_cons (ds_if (dt_cm (ck_ne hr) (de_var 4) (de_lst (da_cons (de_tup (da_cons (de_int) (da_cons (de_int) (da_nil)))) (da_cons (de_tup (da_cons (de_int) (da_cons (de_int) (da_nil)))) (da_cons (de_non) (da_cons (de_tup (da_cons (de_int) (da_cons (de_int) (da_nil)))) (da_cons (de_tup (da_cons (de_int) (da_cons (de_int) (da_nil)))) (da_nil)))))))) (dss_one (ds_ret (de_bl))) (dss_nil)) (dss_one (ds_ret (de_cm (ck_eq hr) (de_lst (da_cons (de_call (ok_is_tighter Z) (hr.mono (by decide)) (takes_of rfl rfl rfl rfl) (da_cons (de_tup (da_cons (de_int) (da_cons (de_int) (da_nil)))) (da_cons (de_tup (da_cons (de_int) (da_cons (de_int) (da_nil)))) (da_nil)))) (da_cons (de_call (ok_is_tighter Z) (hr.mono (by decide)) (takes_of rfl rfl rfl rfl) (da_cons (de_tup (da_cons (de_int) (da_cons (de_int) (da_nil)))) (da_cons (de_tup (da_cons (de_int) (da_cons (de_int) (da_nil)))) (da_nil)))) (da_cons (de_call (ok_is_tighter Z) (hr.mono (by decide)) (takes_of rfl rfl rfl rfl) (da_cons (de_non) (da_cons (de_non) (da_nil)))) (da_cons (de_call (ok_is_tighter Z) (hr.mono (by decide)) (takes_of rfl rfl rfl rfl) (da_cons (de_tup (da_cons (de_int) (da_cons (de_int) (da_nil)))) (da_cons (de_non) (da_nil)))) (da_nil)))))) (de_lst (da_cons (de_bl) (da_cons (de_bl) (da_cons (de_bl) (da_cons (de_bl) (da_nil))))))))))))
end
abbrev R : PySem.W.OpenRow := PySem.W.OpenLaw.row PySem.Challenge.rw_pauseplay_k01_whole_bounds_and_what_they
abbrev hk : PySem.W.Hook := He.hookD 4 fa fn
def ob (s : PySem.W.SharedT) : He.AlD := He.obsDG 4 fa fn (HandSHeadRun.getT s)
theorem ob_eq (s : PySem.W.SharedT) : ob s = hk.obs s.abs := He.obsDG_eq (HandSHeadRun.getT_eq s)
def loose : List Str := (["PlayError", "InvalidBound", "InvalidPoint", "InvalidOperation", "SIXTY", "is_whole", "is_integer", "is_within", "PAIR_points", "is_fraction_in", "require_fraction", "PAIR_bounds", "is_bound_in", "sum_in", "is_tighter_in", "turned_in", "keeps_in", "require_bound", "require_bounds", "is_bound", "bound_sum", "is_tighter", "turned", "does_keep", "_law_spins", "_law_spin", "_law_among", "_law_sum", "_law_is_less", "_law_keeps"] : List Str) ++ (["_law_number_drawn", "_law_bound_drawn", "_law_fractions_near", "_law_is_bound", "_law_pair_right", "_law_right"] : List Str)
theorem run (w : World) : HandSHeadRun.RunEq R (PySem.W.view R.prog [41]) hk ob 4000 loose w := by
  intro os
  kernel_rfl
/-- the law's answer at every list of ints -/
def Answers : Prop := ∀ ns : List Int, ns.length ≤ 63 → ∃ h', f_law [.frz (ns.map .int)] [] = .ok (.bl true) h'
theorem frz_ints {K : PySem.W.Frag} {H : Hp} {as : List Addr} : ∀ ns : List Int, RVs K H as (ns.map .int) (ns.map V.int)
  | [] => .nil
  | n :: ns => .cons (.int n) (frz_ints ns)
theorem sp_law (an : Answers) {K : PySem.W.Frag} {mg : Str → Option Value} {H : Hp} {a : Addr} {ns : List Int} (hl : ns.length ≤ 63) (hO : Only H) (hS : SqL K H a (ns.map V.int)) : spD K mg 1 f_law [.ref a] H (fun v _ => v = .bl true) fun _ _ _ => False := by
  refine ⟨rfl, [], [.frz (ns.map .int)], [], .cons (.val (.frz ?_ (frz_ints ns))) .nil, ⟨rfl, .nil, fun n d b e _ => nomatch e⟩, ?_⟩
  · rcases hS with (h | ⟨o, h⟩) | h
    · rcases hO a with z | ⟨o, xs, z⟩
      · rw [h] at z; cases z
      · rw [h] at z; cases z
    · exact .inl ⟨o, h⟩
    · exact .inr h
  · obtain ⟨h', e⟩ := an ns hl
    rw [e]
    intro v H' as' _ r _
    cases r with
    | val r => cases r; rfl
theorem facts {P : Program} {w : World} {K : PySem.W.Frag} {h : Heap} {mg : Str → Option Value} {f : Addr} (Z : Zx K mg h) (hfa : mg ("law" : Str) = some (.ref f)) :
    ∃ fd : FuncData, (∀ (s : Shared) (v : Value), BindsTo s fd ⟨[v], []⟩ [("script", v)]) ∧ ∀ base : Heap, K.In base → base.Ns mainGlobals mg → FnOk P w K mg base CX0 9 f fd ["script"] (fun vs H Q _ => spD K mg 1 f_law vs H Q E0) := by
  obtain ⟨fd, F⟩ := Z.c.def_ 29 (d := d_law) rfl
  have e := hfa.symm.trans (He.glo_ok Z.X Z.G (Z.c.fact 29 (f := .glo "law") rfl))
  cases e
  have b := FunD.bindsA (ps := ["script"]) F fun _ _ _ _ _ _ us hl => match us, hl with | [_], _ => rfl
  refine ⟨fd, fun s v => b s [v] rfl, fun base _ _ => ?_⟩
  exact fn_quiet (ok_law (P := P) (w := w) (base := base) Z F)
end W
open PySem PySem.W PySem.Calls PyProof.Rows
theorem W.main (an : W.Answers) : PySem.Challenge.rw_pauseplay_k01_whole_bounds_and_what_they.Holds := by
  w_on; o_law
  refine HandSHeadRun.head_any (r := OpenLaw.row PySem.Challenge.rw_pauseplay_k01_whole_bounds_and_what_they) (q := view (OpenLaw.row PySem.Challenge.rw_pauseplay_k01_whole_bounds_and_what_they).prog [41]) (H := W.hk) (ob := W.ob) (M := 4000) (loose := W.loose) (d := HandSHeadRun.topDef (OpenLaw.row PySem.Challenge.rw_pauseplay_k01_whole_bounds_and_what_they).prog 41) (kwd := []) W.ob_eq
    (by kernel_rfl) (fun s => by kernel_rfl) W.run (by kernel_rfl) (by kernel_rfl) (by kernel_rfl) (by rfl) (by first | assumption | decide +kernel) (by decide +kernel) ⟨rfl, rfl, rfl, rfl, rfl, by decide +kernel⟩ ?hw ?hc
  case hw => w_witness2
  case hc =>
    refine L2.walk_ofE (l := PySem.Challenge.rw_pauseplay_k01_whole_bounds_and_what_they) (n := 63) (k := 9) (x := "script") (CX := L2.CX0) rfl (by decide) (by kernel_rfl) ⟨rfl, by decide, by decide⟩ ?F (fun _ _ _ _ z => z)
    intro w mg fa h Y G hmg0
    obtain ⟨K, KX, c⟩ := Y
    have hmg : mg ("law" : PySem.Str) = some (.ref fa) := by
      have e : (HandSHeadRun.topDef (OpenLaw.row PySem.Challenge.rw_pauseplay_k01_whole_bounds_and_what_they).prog 41).name = ("law" : PySem.Str) := by kernel_rfl
      rw [← e]
      exact hmg0
    obtain ⟨fd, hb, hF⟩ := W.facts (P := (PySem.Challenge.rw_pauseplay_k01_whole_bounds_and_what_they).prog) (w := w) ⟨KX, G, c⟩ hmg
    exact ⟨K, fd, fun vs H Q _ => DL.spD K mg 1 W.f_law vs H Q L2.E0, KX, hb, fun H a ns hl hO hS => W.sp_law an hl hO hS, hF⟩

set_option Elab.async false
set_option linter.all false
set_option maxRecDepth 100000
set_option maxHeartbeats 1000000
set_option exponentiation.threshold 5000
namespace W
open PySem PySem.Spec PyProof.Rows L2 DL
/-! ### the draws -/
theorem log2_small {x : Int} {n : Nat} (h : x.natAbs < 2 ^ n) (h0 : 0 < n) : x.natAbs.log2 < n := PySem.Flt.log2_lt_of h0 h
theorem mul_ok {i j : Int} (hi : i.natAbs < 2 ^ 4000) (hj : j.natAbs < 2 ^ 4000) : mulD (.int i) (.int j) = some (.int (i * j)) := by
  have h1 := log2_small hi (by decide)
  have h2 := log2_small hj (by decide)
  rw [mulD, if_pos (by omega)]
theorem fdiv_ok {i j : Int} (h0 : 0 < j) (hj : j.natAbs < 2 ^ 4000) : fdivD (.int i) (.int j) = some (.int (i / j)) := by
  have h2 := log2_small hj (by decide)
  rw [fdivD, if_pos ⟨h0, by omega⟩]
theorem mod_ok {i j : Int} (h0 : 0 < j) : modD (.int i) (.int j) = some (.int (i % j)) := by rw [modD, if_pos h0]
theorem pow_ok {i j : Int} (h : 0 ≤ j ∧ (Builtin.Int.intBits i : Int) * j ≤ 2 ^ 27) : powD (.int i) (.int j) = some (.int (i ^ j.toNat)) := by rw [powD, if_pos h]
theorem p4000 : (2 : Nat) ^ 1000 ≤ 2 ^ 4000 := Nat.pow_le_pow_right (by decide) (by decide)
theorem sm {x : Int} (h1 : -(2 ^ 1000) < x) (h2 : x < 2 ^ 1000) : x.natAbs < 2 ^ 4000 := Nat.lt_of_lt_of_le (by omega) p4000
theorem finV_val {n : Nat} {d : D} {h : Hs} (hd : isLoc d = false) : finV n (.rt d h) = .ok d (h.take n) := by
  cases d <;> first | rfl | cases hd
/-- the spins' cell -/
def SP (m : Int) (h : Hs) : Prop := ∃ a b c : Int, h = [.lst [.int a, .int b, .int c]] ∧ 0 ≤ a ∧ 0 ≤ b ∧ b < 2 ^ 80 ∧ 0 ≤ c ∧ c ≤ m
theorem SP.mono {m n : Int} {h : Hs} (s : SP m h) (e : m ≤ n) : SP n h := by
  obtain ⟨a, b, c, h1, h2, h3, h4, h5, h6⟩ := s
  exact ⟨a, b, c, h1, h2, h3, h4, h5, by omega⟩
theorem SP.len {m : Int} {h : Hs} (s : SP m h) : h.length = 1 := by
  obtain ⟨a, b, c, rfl, _⟩ := s
  rfl
theorem SP.take {m : Int} {h : Hs} (s : SP m h) : h.take 1 = h := by
  obtain ⟨a, b, c, rfl, _⟩ := s
  rfl
theorem spin_ok {m t : Int} {h : Hs} (s : SP m h) (hm : m < 2 ^ 60) (h0 : 0 < t) (ht : t < 2 ^ 1000) : ∃ r h', f__law_spin [.loc 0, .int t] h = .ok (.int r) h' ∧ 0 ≤ r ∧ r < t ∧ SP (m + 1) h' := by
  obtain ⟨a, b, c, rfl, ha, hb, hb2, hc, hcm⟩ := s
  by_cases hp : 0 < a
  · refine ⟨a % t, [.lst [.int (a / t), .int b, .int c]], ?_, Int.emod_nonneg _ (by omega), Int.emod_lt_of_pos _ h0, a / t, b, c, rfl, Int.ediv_nonneg ha (by omega), hb, hb2, hc, by omega⟩
    simp [f__law_spin, b__law_spin, mkF, sSeq, sIf, mTB, mBin, mVar, mC, R.bind, rd, ixD, L2.atI, ixN, gtD, cmpI, isBl, hp, sAsg, mB, on1, toInt1, mCons, mNil, mod_ok h0, asgT, sPut, fdiv_ok h0 (sm (by omega) ht), isLoc, sRet, finV]
  · let one := (b + 32452867 * (c + 1)) % 2305843009213693951
    have o1 : 0 ≤ one := Int.emod_nonneg _ (by decide)
    have o2 : one < 2305843009213693951 := Int.emod_lt_of_pos _ (by decide)
    let two := (one * one + 131 * (c + 1)) % 2305843009213693907
    have t1 : 0 ≤ two := Int.emod_nonneg _ (by decide)
    have t2 : two < 2305843009213693907 := Int.emod_lt_of_pos _ (by decide)
    refine ⟨(two * 49979687 + one) / 65579 % t, [.lst [.int a, .int b, .int (c + 1)]], ?_, Int.emod_nonneg _ (by omega), Int.emod_lt_of_pos _ h0, a, b, c + 1, rfl, ha, hb, hb2, by omega, by omega⟩
    have e1 : mulD (.int 32452867) (.int (c + 1)) = some (.int (32452867 * (c + 1))) := mul_ok (sm (by decide) (by decide)) (sm (by omega) (by omega))
    have e2 : mulD (.int one) (.int one) = some (.int (one * one)) := mul_ok (sm (by omega) (by omega)) (sm (by omega) (by omega))
    have e3 : mulD (.int 131) (.int (c + 1)) = some (.int (131 * (c + 1))) := mul_ok (sm (by decide) (by decide)) (sm (by omega) (by omega))
    have e4 : mulD (.int two) (.int 49979687) = some (.int (two * 49979687)) := mul_ok (sm (by omega) (by omega)) (sm (by decide) (by decide))
    have e5 : fdivD (.int (two * 49979687 + one)) (.int 65579) = some (.int ((two * 49979687 + one) / 65579)) := fdiv_ok (by decide) (sm (by decide) (by decide))
    have e6 : modD (.int (b + 32452867 * (c + 1))) (.int 2305843009213693951) = some (.int one) := mod_ok (by decide)
    have e7 : modD (.int (one * one + 131 * (c + 1))) (.int 2305843009213693907) = some (.int two) := mod_ok (by decide)
    simp [f__law_spin, b__law_spin, mkF, sSeq, sIf, mTB, mBin, mVar, mC, R.bind, rd, ixD, L2.atI, ixN, gtD, cmpI, isBl, hp, sAsg, mB, on1, toInt1, mCons, mNil, mod_ok h0, asgT, sPut, isLoc, sRet, finV, sPass, addD, e1, e2, e3, e4, e5, e6, e7]
/-- one of some items -/
theorem among_ok {m : Int} {h : Hs} {l : List D} (s : SP m h) (hm : m < 2 ^ 60) (h0 : l ≠ []) (hl : l.length < 1000) (hv : ∀ d ∈ l, isLoc d = false) : ∃ d h', f__law_among [.loc 0, .lst l] h = .ok d h' ∧ d ∈ l ∧ SP (m + 1) h' := by
  have l0 : 0 < l.length := List.length_pos_iff.mpr h0
  obtain ⟨r, h', e, r0, r1, s'⟩ := spin_ok (t := (l.length : Int)) s hm (by omega) (by omega)
  have hr : r.toNat < l.length := by omega
  refine ⟨l[r.toNat], h', ?_, List.getElem_mem _, s'⟩
  have hz := hv _ (List.getElem_mem hr)
  simp [f__law_among, b__law_among, mkF, mBin, mVar, mC, R.bind, rd, ixD, L2.atI, ixN, mCall, mB, on1, len1, mCons, mNil, e, r0, r1, hr, sRet]
  rw [finV_val hz, s.len, s'.take]
theorem pow54 : ((10 : Int) ^ 54) ^ 6 = 10 ^ 324 := by decide
/-- the spins as they are made -/
theorem spins_ok {ns : List Int} {spot : Int} (h0 : 0 ≤ spot) (h1 : spot < 64) : ∃ h', f__law_spins [.frz (ns.map .int), .int spot] [] = .ok (.loc 0) h' ∧ SP 0 h' := by
  obtain ⟨cell, hc⟩ : ∃ cell : Int, ∀ (ds : Ev), (mIf (mTB (mBin ltD (mVar 1) (mB (on1 len1) (mCons (mVar 0) (mNil))))) (mB (on1 toInt1) (mCons (mBin ixD (mVar 0) (mVar 1)) (mNil))) (mBin addD (mBin mulD (mC (.int 311)) (mVar 1)) (mC (.int 97)))) [some (.frz (ns.map .int)), some (.int spot), none, none] [] = .ok (.int cell) [] := by
    by_cases hs : spot < (ns.length : Int)
    · have hn : spot.toNat < ns.length := by omega
      refine ⟨ns[spot.toNat], fun _ => ?_⟩
      simp [mIf, mTB, mBin, mVar, mB, mCons, mNil, R.bind, rd, on1, len1, ltD, isBl, hs, ixD, L2.atI, ixN, h0, toInt1, hn]
    · refine ⟨311 * spot + 97, fun _ => ?_⟩
      simp [mIf, mTB, mBin, mVar, mB, mCons, mNil, R.bind, rd, on1, len1, ltD, isBl, hs, mC, mul_ok (i := 311) (j := spot) (sm (by decide) (by decide)) (sm (by omega) (by omega)), addD]
  obtain ⟨P54, h54⟩ : ∃ x : Int, x = 10 ^ 54 := ⟨_, rfl⟩
  obtain ⟨P324, h324⟩ : ∃ x : Int, x = 10 ^ 324 := ⟨_, rfl⟩
  obtain ⟨P16, h16⟩ : ∃ x : Int, x = 10 ^ 16 := ⟨_, rfl⟩
  have p1 : powD (.int 10) (.int 54) = some (.int P54) := by rw [h54]; exact pow_ok (by decide +kernel)
  have p2 : powD (.int P54) (.int 6) = some (.int P324) := by rw [h54, h324, ← pow54]; exact pow_ok (by decide +kernel)
  have p3 : powD (.int 10) (.int 16) = some (.int P16) := by rw [h16]; exact pow_ok (by decide +kernel)
  obtain ⟨great, hgr⟩ : ∃ x : Int, x = (if cell < 0 then -cell else cell) % P324 := ⟨_, rfl⟩
  obtain ⟨one, hone⟩ : ∃ x : Int, x = great % 2305843009213693921 := ⟨_, rfl⟩
  have o1 : 0 ≤ one := by rw [hone]; exact Int.emod_nonneg _ (by decide)
  have o2 : one < 2305843009213693921 := by rw [hone]; exact Int.emod_lt_of_pos _ (by decide)
  obtain ⟨neg, hneg⟩ : ∃ x : Int, x = if cell < 0 then 1 else 0 := ⟨_, rfl⟩
  have n1 : 0 ≤ neg ∧ neg ≤ 1 := by rw [hneg]; split <;> omega
  refine ⟨[.lst [.int (if great - P16 > 0 then great - P16 else 0), .int (one * 73 + 967 * spot + 43 * neg + 23), .int 0]], ?_, _, _, _, rfl, ?_, by omega, by omega, by omega, by omega⟩
  · have e1 : mulD (.int one) (.int 73) = some (.int (one * 73)) := mul_ok (sm (by omega) (by omega)) (sm (by decide) (by decide))
    have e2 : mulD (.int 967) (.int spot) = some (.int (967 * spot)) := mul_ok (sm (by decide) (by decide)) (sm (by omega) (by omega))
    have e3 : mulD (.int 43) (.int neg) = some (.int (43 * neg)) := mul_ok (sm (by decide) (by decide)) (sm (by omega) (by omega))
    have m1 : modD (.int (if cell < 0 then -cell else cell)) (.int P324) = some (.int great) := by rw [hgr]; exact mod_ok (by rw [h324]; decide)
    have m2 : modD (.int great) (.int 2305843009213693921) = some (.int one) := by rw [hone]; exact mod_ok (by decide)
    have hc := hc []
    have hn : toInt1 (.bl (decide (cell < 0))) = some (.int neg) := by
      rw [hneg]
      show some (D.int (if decide (cell < 0) = true then 1 else 0)) = _
      simp
    have ha : abs1 (.int cell) = some (.int (if cell < 0 then -cell else cell)) := rfl
    generalize (if cell < 0 then -cell else cell) = acell at ha m1
    have hi : toInt1 (.int acell) = some (.int acell) := rfl
    have hg : toInt1 (.int great) = some (.int great) := rfl
    simp [f__law_spins, b__law_spins, mkF, sSeq, sAsg, hc, asgT, mBin, mB, on1, on2, mCons, mNil, mVar, mC, R.bind, rd, ha, hi, hg, p1, p2, p3, m1, m2, sRet, mNew, max2, subD, addD, e1, e2, e3, ltD, hn, isLoc, finC]
  · split <;> omega
/-! ### comprehensions and loops over given items -/
theorem snoc_get {h : Hs} {x : D} : (h ++ [x])[h.length]? = some x := by simp
theorem snoc_take1 {h : Hs} {x : D} : (h ++ [x]).take (h.length + 1) = h ++ [x] := List.take_of_length_le (by simp)
theorem snoc_take {h : Hs} {x : D} : (h ++ [x]).take h.length = h := by simp
theorem snoc_set {h : Hs} {x y : D} : (h ++ [x]).set h.length y = h ++ [y] := by simp [List.set_append]
/-- a comprehension whose test and element change nothing -/
theorem lc_pure {l : List D} {ds0 : Ev} {t : Tg} {tt : M Bool} {te : M D} {p : D → Bool} {g : D → D} {h : Hs}
    (hx : ∀ x ∈ l, ∃ ds, asgT t x ds0 = some ds ∧ (∀ hh, tt ds hh = .ok (p x) hh) ∧ (p x = true → (∀ hh, te ds hh = .ok (g x) hh) ∧ isLoc (g x) = false)) (hl : l.length < 16777216) :
    lcGo h.length ds0 (.its l) t tt te l.length 0 (h ++ [.lst []]) = .ok (.lst ((l.filter p).map g)) h := by
  have key : ∀ (rest pre : List D) (acc : List D), l = pre ++ rest → acc.length ≤ pre.length → lcGo h.length ds0 (.its l) t tt te rest.length pre.length (h ++ [.lst acc]) = .ok (.lst (acc ++ (rest.filter p).map g)) h := by
    intro rest
    induction rest with
    | nil =>
      intro pre acc e ha
      simp only [List.length_nil, lcGo, srcEnd, if_true, snoc_get, snoc_take, List.filter_nil, List.map_nil, List.append_nil]
    | cons x rest ih =>
      intro pre acc e ha
      obtain ⟨ds, e1, e2, e3⟩ := hx x (by rw [e]; simp)
      have e4 : l[pre.length]? = some x := by rw [e]; simp
      have e5 : l = (pre ++ [x]) ++ rest := by rw [e]; simp
      have hlen : (pre ++ [x]).length = pre.length + 1 := by simp
      have hll : pre.length < l.length := by rw [e]; simp
      simp only [List.length_cons, lcGo, srcAt, e4, Option.bind_some, e1, e2, R.noex, R.bind]
      cases hp : p x with
      | false =>
        simp only [Bool.false_eq_true, if_false, snoc_take1]
        rw [← hlen, ih (pre ++ [x]) acc e5 (by simp; omega), List.filter_cons, hp]
        simp
      | true =>
        obtain ⟨e6, e7⟩ := e3 hp
        simp only [if_true, e6, snoc_get]
        rw [if_pos ⟨e7, by omega⟩, snoc_take1, snoc_set, ← hlen, ih (pre ++ [x]) (acc ++ [g x]) e5 (by simp; omega), List.filter_cons, hp]
        simp
  have := key l [] [] (by simp) (Nat.le_refl _)
  simpa using this
theorem mLc_pure {l : List D} {ms : M Src} {vs : List Nat} {ds : Ev} {t : Tg} {tt : M Bool} {te : M D} {p : D → Bool} {g : D → D} {h : Hs} (hs : ms ds h = .ok (.its l) h)
    (hx : ∀ x ∈ l, ∃ ds', asgT t x (wipeD ds vs) = some ds' ∧ (∀ hh, tt ds' hh = .ok (p x) hh) ∧ (p x = true → (∀ hh, te ds' hh = .ok (g x) hh) ∧ isLoc (g x) = false)) (hl : l.length < 16777216) :
    mLc ms vs t tt te ds h = .ok (.lst ((l.filter p).map g)) h := by
  unfold mLc
  rw [hs]
  exact lc_pure hx hl
/-- a for loop over given items by an invariant, where each turn goes on -/
theorem for_inv {l : List D} {t : Tg} {body : SM} {n0 : Nat} {ds : Ev} {h : Hs} (I : Nat → Ev → Hs → Prop) (h0 : I 0 ds h)
    (step : ∀ i x ds h, l[i]? = some x → I i ds h → ∃ ds1, asgT t x ds = some ds1 ∧ ∃ ds2 h2, body ds1 h = .nx ds2 h2 ∧ I (i + 1) (gcE n0 ds2) (h2.take n0)) :
    ∃ ds' h', forGo n0 (.its l) t body l.length 0 ds h = .nx ds' h' ∧ I l.length ds' h' := by
  have key : ∀ (k i : Nat) (ds : Ev) (h : Hs), k + i = l.length → I i ds h → ∃ ds' h', forGo n0 (.its l) t body k i ds h = .nx ds' h' ∧ I l.length ds' h' := by
    intro k
    induction k with
    | zero =>
      intro i ds h e hi
      have : i = l.length := by omega
      subst this
      exact ⟨ds, h, by simp only [forGo, srcEnd, if_true], hi⟩
    | succ k ih =>
      intro i ds h e hi
      have hil : i < l.length := by omega
      obtain ⟨ds1, e1, ds2, h2, e2, hn⟩ := step i l[i] ds h (List.getElem?_eq_getElem hil) hi
      obtain ⟨ds', h', e3, hf⟩ := ih (i + 1) _ _ (by omega) hn
      exact ⟨ds', h', by simp only [forGo, srcAt, List.getElem?_eq_getElem hil, Option.bind_some, e1, e2]; exact e3, hf⟩
  exact key l.length 0 ds h (by omega) h0
/-! ### bounds -/
abbrev Bd := Option (Int × Int)
def eB : Bd → D
  | none => .non
  | some (k, e) => .tup [.int k, .int e]
/-- a right bound, not too great -/
def okB : Bd → Prop
  | none => True
  | some (k, e) => -(10 ^ 60) < k ∧ k < 10 ^ 60 ∧ (e = 0 ∨ e = 1)
def sumB : Bd → Bd → Bd
  | some (a, d), some (b, e) => some (a + b, d * e)
  | _, _ => none
def lessB : Bd → Bd → Bool
  | none, _ => false
  | some _, none => true
  | some (a, d), some (b, e) => if a = b then decide (d < e) else decide (a < b)
def keepsB : Bd → Int → Int → Bool
  | none, _, _ => true
  | some (k, e), t, q => decide (t < k * q) || (e == 1 && t == k * q)
def turnB : Bd → Bd
  | none => none
  | some (k, e) => some (-k, 1 - e)
theorem eB_loc (b : Bd) : isLoc (eB b) = false := by cases b <;> rfl
theorem takeLen {h : Hs} : h.take h.length = h := List.take_length
theorem is_whole_int (i : Int) (h : Hs) : f_is_whole [.int i] h = .ok (.bl true) h := by
  simp [f_is_whole, b_is_whole, mkF, sRet, mAndV, mB, mCons, mNil, mVar, mC, R.bind, rd, on2, isi2, tyN, isT2, truD, mNotV, finV]
theorem is_integer_int (i : Int) (h : Hs) (h1 : -(10 ^ 60) < i) (h2 : i < 10 ^ 60) : f_is_integer [.int i] h = .ok (.bl true) h := by
  obtain ⟨P, hP⟩ : ∃ x : Int, x = 10 ^ 60 := ⟨_, rfl⟩
  rw [← hP] at h1 h2
  have : (1000000000000000000000000000000000000000000000000000000000000 : Int) = P := by rw [hP]; decide
  simp [f_is_integer, b_is_integer, mkF, sRet, mAndV, mCall, is_whole_int, mCons, mNil, mVar, mC, R.bind, rd, truD, mChain, mUn, negD, ltD, isBl, finV]
  rw [this]
  simp [h1, h2, finV]
theorem is_within_int (i lo hi : Int) (h : Hs) : f_is_within [.int i, .int lo, .int hi] h = .ok (.bl (decide (lo ≤ i) && decide (i ≤ hi))) h := by
  by_cases h1 : lo ≤ i <;> simp [f_is_within, b_is_within, mkF, sRet, mAndV, mCall, is_whole_int, mCons, mNil, mVar, mC, R.bind, rd, truD, mChain, leD, cmpI, isBl, finV, h1]
theorem is_bound_in_ok {b : Bd} (o : okB b) (h : Hs) : f_is_bound_in [eB b] h = .ok (.bl true) h := by
  cases b with
  | none => simp [f_is_bound_in, b_is_bound_in, mkF, sSeq, sIf, mTB, mBin, mVar, mC, R.bind, rd, isND, DL.isNon, eB, isBl, sRet, finV]
  | some p =>
    obtain ⟨k, e⟩ := p
    obtain ⟨h1, h2, h3⟩ := o
    have e1 := is_integer_int k h h1 h2
    have e2 : (decide (0 ≤ e) && decide (e ≤ 1)) = true := by rcases h3 with rfl | rfl <;> rfl
    simp [f_is_bound_in, b_is_bound_in, mkF, sSeq, sIf, mTB, mBin, mVar, mC, R.bind, rd, isND, DL.isNon, eB, isBl, sRet, sPass, mAndV, mB, mCons, mNil, on2, isi2, tyN, isT2, truD, on1, len1, eqD, okE, eqv, mCall, ixD, L2.atI, ixN, e1, is_within_int, finV]
    simpa using e2
theorem require_bound_ok {b : Bd} (o : okB b) (h : Hs) : f_require_bound [eB b] h = .ok .non h := by
  simp [f_require_bound, b_require_bound, mkF, sIf, mNotT, mTru, mCall, mCons, mNil, mVar, R.bind, is_bound_in_ok o, rd, truD, sPass, finV]
theorem require_bounds_ok {a b : Bd} (oa : okB a) (ob : okB b) (h : Hs) : f_require_bounds [eB a, eB b] h = .ok .non h := by
  simp [f_require_bounds, b_require_bounds, mkF, sSeq, sDrop, mCall, mCons, mNil, mVar, R.bind, require_bound_ok oa, require_bound_ok ob, finV]
theorem okB_mul {d e : Int} (hd : d = 0 ∨ d = 1) (he : e = 0 ∨ e = 1) : mulD (.int d) (.int e) = some (.int (d * e)) := by
  apply mul_ok <;> apply sm <;> omega
theorem sum_in_ok {a b : Bd} (oa : okB a) (ob : okB b) (h : Hs) : f_sum_in [eB a, eB b] h = .ok (eB (sumB a b)) h := by
  cases a with
  | none => simp [f_sum_in, b_sum_in, mkF, sSeq, sIf, mTB, mOrT, mBin, mVar, mC, R.bind, rd, isND, DL.isNon, eB, isBl, sRet, finV, sumB]
  | some p =>
    cases b with
    | none => simp [f_sum_in, b_sum_in, mkF, sSeq, sIf, mTB, mOrT, mBin, mVar, mC, R.bind, rd, isND, DL.isNon, eB, isBl, sRet, finV, sumB]
    | some q =>
      obtain ⟨k, d⟩ := p
      obtain ⟨j, e⟩ := q
      have e1 := okB_mul oa.2.2 ob.2.2
      simp [f_sum_in, b_sum_in, mkF, sSeq, sIf, mTB, mOrT, mBin, mVar, mC, R.bind, rd, isND, DL.isNon, eB, isBl, sRet, finV, sumB, sPass, mTup, mCons, mNil, ixD, L2.atI, ixN, addD, e1, isLoc]
theorem bound_sum_ok {a b : Bd} (oa : okB a) (ob : okB b) (h : Hs) : f_bound_sum [eB a, eB b] h = .ok (eB (sumB a b)) h := by
  simp [f_bound_sum, b_bound_sum, mkF, sSeq, sDrop, mCall, mCons, mNil, mVar, R.bind, require_bounds_ok oa ob, sum_in_ok oa ob, sRet]
  rw [finV_val (eB_loc _), takeLen]
theorem is_tighter_in_ok {a b : Bd} (h : Hs) : f_is_tighter_in [eB a, eB b] h = .ok (.bl (lessB a b)) h := by
  cases a with
  | none => simp [f_is_tighter_in, b_is_tighter_in, mkF, sSeq, sIf, mTB, mBin, mVar, mC, R.bind, rd, isND, DL.isNon, eB, isBl, sRet, finV, lessB]
  | some p =>
    cases b with
    | none => simp [f_is_tighter_in, b_is_tighter_in, mkF, sSeq, sIf, mTB, mBin, mVar, mC, R.bind, rd, isND, DL.isNon, eB, isBl, sRet, sPass, mOrV, truD, finV, lessB]
    | some q =>
      obtain ⟨k, d⟩ := p
      obtain ⟨j, e⟩ := q
      simp [f_is_tighter_in, b_is_tighter_in, mkF, sSeq, sIf, mTB, mBin, mVar, mC, R.bind, rd, isND, DL.isNon, eB, isBl, sRet, sPass, mOrV, truD, finV, lessB, ltD, intsD, HT.lexLt]
      by_cases hk : k = j <;> by_cases hd : d = e <;> simp [hk, hd]
theorem is_tighter_ok {a b : Bd} (oa : okB a) (ob : okB b) (h : Hs) : f_is_tighter [eB a, eB b] h = .ok (.bl (lessB a b)) h := by
  simp [f_is_tighter, b_is_tighter, mkF, sSeq, sDrop, mCall, mCons, mNil, mVar, R.bind, require_bounds_ok oa ob, is_tighter_in_ok, sRet, finV]
theorem turned_in_ok {k e : Int} (h : Hs) : f_turned_in [eB (some (k, e))] h = .ok (eB (turnB (some (k, e)))) h := by
  simp [f_turned_in, b_turned_in, mkF, sRet, mTup, mCons, mNil, mUn, mBin, mVar, mC, R.bind, rd, eB, ixD, L2.atI, ixN, negD, subD, isLoc, finV, turnB]
theorem turned_ok {k e : Int} (o : okB (some (k, e))) (h : Hs) : f_turned [eB (some (k, e))] h = .ok (eB (turnB (some (k, e)))) h := by
  have r := require_bound_ok o h
  have t := turned_in_ok (k := k) (e := e) h
  simp only [eB, turnB] at r t ⊢
  simp [f_turned, b_turned, mkF, sSeq, sDrop, mCall, mCons, mNil, mVar, R.bind, r, sIf, mTB, mBin, mC, rd, isND, DL.isNon, isBl, sPass, t, sRet, finV]
/-- a fraction as it is -/
def eQ (t q : Int) : D := .tup [.int t, .int q]
def okQ (t q : Int) : Prop := -(10 ^ 60) < t ∧ t < 10 ^ 60 ∧ 1 ≤ q ∧ q < 10 ^ 60
theorem is_fraction_in_ok {t q : Int} (o : okQ t q) (h : Hs) : f_is_fraction_in [eQ t q] h = .ok (.bl true) h := by
  obtain ⟨h1, h2, h3, h4⟩ := o
  have lc := mLc_pure (l := [.int t, .int q]) (ms := mSeq (mVar 0)) (vs := [1]) (ds := [some (eQ t q), none]) (t := .nm 1) (tt := mYes) (te := mCall 1 f_is_integer (mCons (mVar 1) mNil)) (p := fun _ => true) (g := fun _ => .bl true) (h := h) (by rfl) (fun x hx => by
    refine ⟨_, rfl, fun _ => rfl, fun _ => ⟨fun hh => ?_, rfl⟩⟩
    rcases List.mem_cons.mp hx with rfl | hx
    · simp [mCall, mCons, mNil, mVar, R.bind, wipeD, eQ, is_integer_int t hh h1 h2]
    · rw [List.mem_singleton.mp hx]
      simp [mCall, mCons, mNil, mVar, R.bind, wipeD, eQ, is_integer_int q hh (by omega) h4]) (by simp)
  simp only [eQ] at lc ⊢
  simp [f_is_fraction_in, b_is_fraction_in, mkF, sSeq, sIf, mOrT, mNotT, mTru, mTB, mBin, mB, mCons, mNil, mVar, mC, R.bind, rd, on2, isi2, tyN, isT2, truD, on1, len1, neD, okE, eqv, isBl, lc, DL.all1, blsD, sPass, sRet, ixD, L2.atI, ixN, geD, cmpI, finV, h3]
theorem require_fraction_ok {t q : Int} (o : okQ t q) (h : Hs) : f_require_fraction [eQ t q] h = .ok .non h := by
  simp [f_require_fraction, b_require_fraction, mkF, sIf, mNotT, mTru, mCall, mCons, mNil, mVar, R.bind, is_fraction_in_ok o, rd, truD, sPass, finV]
theorem keeps_in_ok {b : Bd} {t q : Int} (o : okB b) (oq : okQ t q) (h : Hs) : f_keeps_in [eB b, eQ t q] h = .ok (.bl (keepsB b t q)) h := by
  cases b with
  | none => simp [f_keeps_in, b_keeps_in, mkF, sSeq, sIf, mTB, mBin, mVar, mC, R.bind, rd, isND, DL.isNon, eB, isBl, sRet, finV, keepsB]
  | some p =>
    obtain ⟨k, e⟩ := p
    obtain ⟨h1, h2, h3, h4⟩ := oq
    obtain ⟨h5, h6, h7⟩ := o
    have e1 : mulD (.int k) (.int q) = some (.int (k * q)) := mul_ok (sm (by omega) (by omega)) (sm (by omega) (by omega))
    simp [f_keeps_in, b_keeps_in, mkF, sSeq, sIf, mTB, mBin, mVar, mC, R.bind, rd, isND, DL.isNon, eB, eQ, isBl, sRet, sPass, sAsg, asgT, asgTs, ixD, L2.atI, ixN, e1, mOrV, mAndV, ltD, eqD, okE, eqv, truD, finV, keepsB]
    by_cases c1 : t < k * q <;> by_cases c2 : e = 1 <;> simp [c1, c2, finV]

theorem does_keep_ok {b : Bd} {t q : Int} (o : okB b) (oq : okQ t q) (h : Hs) : f_does_keep [eB b, eQ t q] h = .ok (.bl (keepsB b t q)) h := by
  simp [f_does_keep, b_does_keep, mkF, sSeq, sDrop, mCall, mCons, mNil, mVar, R.bind, require_bound_ok o, require_fraction_ok oq, keeps_in_ok o oq, sRet, finV]
/-! the law's own -/
theorem law_sum_ok {a b : Bd} (oa : okB a) (ob : okB b) (h : Hs) : f__law_sum [eB a, eB b] h = .ok (eB (sumB a b)) h := by
  cases a with
  | none => simp [f__law_sum, b__law_sum, mkF, mIf, mTB, mOrT, mBin, mVar, mC, R.bind, rd, isND, DL.isNon, eB, isBl, sRet, finV, sumB]
  | some p =>
    cases b with
    | none => simp [f__law_sum, b__law_sum, mkF, mIf, mTB, mOrT, mBin, mVar, mC, R.bind, rd, isND, DL.isNon, eB, isBl, sRet, finV, sumB]
    | some q =>
      obtain ⟨k, d⟩ := p
      obtain ⟨j, e⟩ := q
      have e1 := okB_mul oa.2.2 ob.2.2
      simp [f__law_sum, b__law_sum, mkF, mIf, mTB, mOrT, mBin, mVar, mC, R.bind, rd, isND, DL.isNon, eB, isBl, sRet, finV, sumB, mTup, mCons, mNil, ixD, L2.atI, ixN, addD, e1, isLoc]
theorem law_is_less_ok {a b : Bd} (h : Hs) : f__law_is_less [eB a, eB b] h = .ok (.bl (lessB a b)) h := by
  cases a with
  | none => cases b <;> simp [f__law_is_less, b__law_is_less, mkF, sSeq, sIf, mTB, mOrT, mBin, mVar, mC, R.bind, rd, isND, notND, DL.isNon, eB, isBl, sRet, mAndV, truD, finV, lessB]
  | some p =>
    cases b with
    | none => simp [f__law_is_less, b__law_is_less, mkF, sSeq, sIf, mTB, mOrT, mBin, mVar, mC, R.bind, rd, isND, notND, DL.isNon, eB, isBl, sRet, mAndV, truD, finV, lessB]
    | some q =>
      obtain ⟨k, d⟩ := p
      obtain ⟨j, e⟩ := q
      simp [f__law_is_less, b__law_is_less, mkF, sSeq, sIf, mTB, mOrT, mBin, mVar, mC, R.bind, rd, isND, DL.isNon, eB, isBl, sRet, sPass, truD, finV, lessB, ltD, intsD, HT.lexLt]
      by_cases hk : k = j <;> by_cases hd : d = e <;> simp [hk, hd]
theorem law_keeps_ok {b : Bd} {t q : Int} (hm : b.isSome = true → mulD (.int (b.getD (0, 0)).1) (.int q) = some (.int ((b.getD (0, 0)).1 * q))) (h : Hs) : f__law_keeps [eB b, .int t, .int q] h = .ok (.bl (keepsB b t q)) h := by
  cases b with
  | none => simp [f__law_keeps, b__law_keeps, mkF, sSeq, sIf, mTB, mBin, mVar, mC, R.bind, rd, isND, DL.isNon, eB, isBl, sRet, finV, keepsB]
  | some p =>
    obtain ⟨k, e⟩ := p
    have e1 := hm rfl
    simp only [Option.getD_some] at e1
    simp [f__law_keeps, b__law_keeps, mkF, sSeq, sIf, mTB, mBin, mVar, mC, R.bind, rd, isND, DL.isNon, eB, isBl, sRet, sPass, ixD, L2.atI, ixN, e1, mOrV, mAndV, ltD, eqD, okE, eqv, truD, finV, keepsB]
    by_cases c1 : t < k * q <;> by_cases c2 : e = 1 <;> by_cases c3 : t = k * q <;> simp [c1, c2, c3, finV]
end W

set_option Elab.async false
set_option linter.all false
set_option maxRecDepth 100000
set_option maxHeartbeats 1000000
set_option exponentiation.threshold 5000
namespace W
open PySem PySem.Spec PyProof.Rows L2 DL
theorem pow30 : powD (.int 10) (.int 30) = some (.int (10 ^ 30)) := pow_ok (by decide +kernel)
theorem pow20 : powD (.int 10) (.int 20) = some (.int (10 ^ 20)) := pow_ok (by decide +kernel)
theorem pow60 : powD (.int 10) (.int 60) = some (.int (10 ^ 60)) := pow_ok (by decide +kernel)
theorem number_ok {m : Int} {h : Hs} (s : SP m h) (hm : m < 2 ^ 59) : ∃ i h', f__law_number_drawn [.loc 0] h = .ok (.int i) h' ∧ -(10 ^ 30) < i ∧ i < 10 ^ 30 ∧ SP (m + 5) h' := by
  obtain ⟨P, hP⟩ : ∃ x : Int, x = 10 ^ 30 := ⟨_, rfl⟩
  have p30 : powD (.int 10) (.int 30) = some (.int P) := by rw [hP]; exact pow30
  obtain ⟨d1, h1, e1, m1, s1⟩ := among_ok (l := [.int 1, .int (-1)]) s (by omega) (by simp) (by simp) (by simp [isLoc])
  obtain ⟨r1, h2, e2, a1, b1, s2⟩ := spin_ok (t := 4) s1 (by omega) (by decide) (by decide)
  obtain ⟨r2, h3, e3, a2, b2, s3⟩ := spin_ok (t := 50) s2 (by omega) (by decide) (by decide)
  obtain ⟨r3, h4, e4, a3, b3, s4⟩ := spin_ok (t := P) s3 (by omega) (by rw [hP]; decide) (by rw [hP]; decide)
  obtain ⟨d2, h5, e5, m2, s5⟩ := among_ok (l := [.int r1, .int r2, .int r3]) s4 (by omega) (by simp) (by simp) (by simp [isLoc])
  obtain ⟨i1, rfl, hi1⟩ : ∃ i1, d1 = .int i1 ∧ (i1 = 1 ∨ i1 = -1) := by
    simp at m1
    rcases m1 with rfl | rfl
    · exact ⟨1, rfl, .inl rfl⟩
    · exact ⟨-1, rfl, .inr rfl⟩
  obtain ⟨i2, rfl, hi2, hi3⟩ : ∃ i2, d2 = .int i2 ∧ 0 ≤ i2 ∧ i2 < P := by
    simp at m2
    rcases m2 with rfl | rfl | rfl
    · exact ⟨_, rfl, by omega, by omega⟩
    · exact ⟨_, rfl, by omega, by omega⟩
    · exact ⟨_, rfl, by omega, by omega⟩
  have e6 : mulD (.int i1) (.int i2) = some (.int (i1 * i2)) := mul_ok (sm (by omega) (by omega)) (sm (by omega) (by omega))
  refine ⟨i1 * i2, h5, ?_, ?_, ?_, s5.mono (by omega)⟩
  · simp [f__law_number_drawn, b__law_number_drawn, mkF, sRet, mBin, mCall, mCons, mNil, mVar, mC, mLst, mUn, negD, R.bind, rd, isLoc, e1, e2, e3, e4, e5, e6, p30, finV, s.len, s5.take]
  · rcases hi1 with rfl | rfl <;> omega
  · rcases hi1 with rfl | rfl <;> omega
/-- a drawn bound -/
def okD : Bd → Prop
  | none => True
  | some (k, e) => -(10 ^ 30) < k ∧ k < 10 ^ 30 ∧ (e = 0 ∨ e = 1)
theorem okD.okB {b : Bd} (o : okD b) : W.okB b := by
  cases b with
  | none => trivial
  | some p => exact ⟨by have := o.1; omega, by have := o.2.1; omega, o.2.2⟩
theorem bound_drawn_ok {m : Int} {h : Hs} (s : SP m h) (hm : m < 2 ^ 58) : ∃ b h', f__law_bound_drawn [.loc 0] h = .ok (eB b) h' ∧ okD b ∧ SP (m + 7) h' := by
  obtain ⟨r, h1, e1, a1, b1, s1⟩ := spin_ok (t := 8) s (by omega) (by decide) (by decide)
  by_cases hr : r = 0
  · subst hr
    exact ⟨none, h1, by simp [f__law_bound_drawn, b__law_bound_drawn, mkF, sRet, mIf, mTB, mBin, mCall, mCons, mNil, mVar, mC, R.bind, rd, e1, eqD, okE, eqv, isBl, finV, eB, s.len, s1.take], trivial, s1.mono (by omega)⟩
  · obtain ⟨i, h2, e2, l1, l2, s2⟩ := number_ok s1 (by omega)
    obtain ⟨e, h3, e3, a3, b3, s3⟩ := spin_ok (t := 2) s2 (by omega) (by decide) (by decide)
    exact ⟨some (i, e), h3, by simp [f__law_bound_drawn, b__law_bound_drawn, mkF, sRet, mIf, mTB, mBin, mCall, mCons, mNil, mVar, mC, R.bind, rd, e1, eqD, okE, eqv, isBl, hr, mTup, e2, e3, isLoc, finV, eB, s.len, s3.take], ⟨l1, l2, by omega⟩, s3.mono (by omega)⟩
/-- fractions near a number -/
theorem fractions_ok {m n : Int} {h : Hs} (s : SP m h) (hm : m < 2 ^ 58) (hn : -(10 ^ 31) < n) (hn2 : n < 10 ^ 31) :
    ∃ l h', f__law_fractions_near [.loc 0, .int n] h = .ok (.lst l) h' ∧ (∀ x ∈ l, ∃ t q, x = eQ t q ∧ -(10 ^ 52) < t ∧ t < 10 ^ 52 ∧ 1 ≤ q ∧ q ≤ 10 ^ 20) ∧ l.length = 6 ∧ SP (m + 8) h' := by
  obtain ⟨P, hP⟩ : ∃ x : Int, x = 10 ^ 20 := ⟨_, rfl⟩
  have p20 : powD (.int 10) (.int 20) = some (.int P) := by rw [hP]; exact pow20
  obtain ⟨d1, h1, e1, m1, s1⟩ := among_ok (l := [.int 1, .int 2, .int 7, .int P]) s (by omega) (by simp) (by simp) (by simp [isLoc])
  obtain ⟨q, rfl, q1, q2⟩ : ∃ q, d1 = .int q ∧ 1 ≤ q ∧ q ≤ P := by
    simp at m1
    rcases m1 with rfl | rfl | rfl | rfl
    · exact ⟨_, rfl, by omega, by omega⟩
    · exact ⟨_, rfl, by omega, by omega⟩
    · exact ⟨_, rfl, by omega, by omega⟩
    · exact ⟨_, rfl, by omega, by omega⟩
  obtain ⟨i, h2, e2, l1, l2, s2⟩ := number_ok s1 (by omega)
  obtain ⟨r, h3, e3, a3, b3, s3⟩ := spin_ok (t := 9) s2 (by omega) (by decide) (by decide)
  have em : mulD (.int n) (.int q) = some (.int (n * q)) := mul_ok (sm (by omega) (by omega)) (sm (by omega) (by omega))
  have nq1 : -(10 ^ 51) < n * q ∧ n * q < 10 ^ 51 := by
    have h1 : n * q ≤ (10 ^ 31 - 1) * q := Int.mul_le_mul_of_nonneg_right (by omega) (by omega)
    have h2 : (-(10 ^ 31) + 1) * q ≤ n * q := Int.mul_le_mul_of_nonneg_right (by omega) (by omega)
    constructor <;> omega
  have lc := mLc_pure (l := [.int 0, .int 1, .int (-1), .int q, .int (0 - q)]) (ms := mSeq (mTup (mCons (mC (.int 0)) (mCons (mC (.int 1)) (mCons (mUn negD (mC (.int 1))) (mCons (mVar 2) (mCons (mBin subD (mC (.int 0)) (mVar 2)) (mNil)))))))) (vs := [4])
    (ds := [some (.loc 0), some (.int n), some (.int q), none, none]) (t := .nm 4) (tt := mYes) (te := mTup (mCons (mBin addD (mBin mulD (mVar 1) (mVar 2)) (mVar 4)) (mCons (mVar 2) (mNil)))) (p := fun _ => true)
    (g := fun d => match d with | .int k => eQ (n * q + k) q | _ => .non) (h := h1)
    (by simp [mSeq, mTup, mCons, mNil, mC, mUn, negD, mVar, mBin, subD, R.bind, rd, isLoc, srcOf]) (fun x hx => by
      refine ⟨_, rfl, fun _ => rfl, fun _ => ?_⟩
      obtain ⟨k, rfl⟩ : ∃ k, x = .int k := by
        simp at hx
        rcases hx with rfl | rfl | rfl | rfl | rfl <;> exact ⟨_, rfl⟩
      exact ⟨fun hh => by simp [mTup, mCons, mNil, mBin, mVar, R.bind, rd, wipeD, em, addD, isLoc, eQ], rfl⟩) (by simp)
  refine ⟨[eQ (n * q + 0) q, eQ (n * q + 1) q, eQ (n * q + -1) q, eQ (n * q + q) q, eQ (n * q + (0 - q)) q, eQ i (1 + r)], h3, ?_, ?_, rfl, s3.mono (by omega)⟩
  · have lc' : mLc (mSeq (mTup (mCons (mC (.int 0)) (mCons (mC (.int 1)) (mCons (mUn negD (mC (.int 1))) (mCons (mVar 2) (mCons (mBin subD (mC (.int 0)) (mVar 2)) (mNil)))))))) [4] (.nm 4) (mYes) (mTup (mCons (mBin addD (mBin mulD (mVar 1) (mVar 2)) (mVar 4)) (mCons (mVar 2) (mNil))))
      [some (.loc 0), some (.int n), some (.int q), none, none] h1 = .ok (.lst [eQ (n * q + 0) q, eQ (n * q + 1) q, eQ (n * q + -1) q, eQ (n * q + q) q, eQ (n * q + (0 - q)) q]) h1 := lc
    simp [f__law_fractions_near, b__law_fractions_near, mkF, sSeq, sAsg, mCall, mCons, mNil, mVar, mC, mLst, mBin, R.bind, rd, isLoc, p20, e1, asgT] at lc' ⊢
    simp [lc', sRet, mBin, mVar, mLst, mTup, mCons, mNil, mCall, mC, R.bind, rd, e2, e3, addD, isLoc, finV, s.len, s3.take, eQ]
  · intro x hx
    simp only [List.mem_cons, List.not_mem_nil, or_false] at hx
    rcases hx with rfl | rfl | rfl | rfl | rfl | rfl
    all_goals exact ⟨_, _, rfl, by omega, by omega, by omega, by omega⟩
end W

set_option Elab.async false
set_option linter.all false
set_option maxRecDepth 100000
set_option maxHeartbeats 1000000
set_option exponentiation.threshold 5000
namespace W
open PySem PySem.Spec PyProof.Rows L2 DL
theorem keeps_split {k j d e t q r st : Int} (hq : 1 ≤ q) (hr : 0 ≤ r) (hd : d = 0 ∨ d = 1) (he : e = 0 ∨ e = 1) (hst : st = k * 3 * q - (if d = 0 then 1 else 0) - r) :
    ((keepsB (some (k, d)) st (3 * q) && keepsB (some (j, e)) (t * 3 - st) (3 * q)) = true → keepsB (some (k + j, d * e)) t q = true) ∧
    (r = 0 → d = 1 → keepsB (some (k + j, d * e)) t q = (keepsB (some (k, d)) st (3 * q) && keepsB (some (j, e)) (t * 3 - st) (3 * q))) := by
  have e1 : k * (3 * q) = 3 * (k * q) := by rw [Int.mul_left_comm]
  have e2 : j * (3 * q) = 3 * (j * q) := by rw [Int.mul_left_comm]
  have e3 : k * 3 * q = 3 * (k * q) := by rw [Int.mul_assoc, e1]
  have e4 : (k + j) * q = k * q + j * q := Int.add_mul ..
  rw [e3] at hst
  simp only [keepsB, e1, e2, e4]
  generalize k * q = X at *
  generalize j * q = Y at *
  rcases hd with rfl | rfl <;> rcases he with rfl | rfl <;> simp at hst ⊢ <;> (try subst hst)
  · omega
  · omega
  all_goals
    refine ⟨by omega, fun h0 => ?_⟩
    rw [Bool.eq_iff_iff]
    simp
    omega
theorem bMul {k q : Int} (h1 : -(10 ^ 60) < k) (h2 : k < 10 ^ 60) (h3 : 1 ≤ q) (h4 : q < 10 ^ 60) : mulD (.int k) (.int q) = some (.int (k * q)) := mul_ok (sm (by omega) (by omega)) (sm (by omega) (by omega))
theorem among4 {m : Int} {h : Hs} (s : SP m h) (hm : m < 2 ^ 60) : ∃ r h', f__law_among [.loc 0, .lst [.int 0, .int 0, .int 1, .int 5]] h = .ok (.int r) h' ∧ 0 ≤ r ∧ r ≤ 5 ∧ SP (m + 1) h' := by
  obtain ⟨d, h', e, hd, s'⟩ := among_ok (l := [.int 0, .int 0, .int 1, .int 5]) s hm (by simp) (by simp) (by simp [isLoc])
  simp at hd
  rcases hd with rfl | rfl | rfl
  · exact ⟨0, h', e, by omega, by omega, s'⟩
  · exact ⟨1, h', e, by omega, by omega, s'⟩
  · exact ⟨5, h', e, by omega, by omega, s'⟩
theorem okB_sum {a b : Bd} (oa : okD a) (ob : okD b) : okB (sumB a b) := by
  cases a with
  | none => trivial
  | some p => cases b with
    | none => trivial
    | some q =>
      obtain ⟨k, d⟩ := p
      obtain ⟨j, e⟩ := q
      obtain ⟨a1, a2, a3⟩ := oa
      obtain ⟨b1, b2, b3⟩ := ob
      refine ⟨by omega, by omega, ?_⟩
      rcases a3 with rfl | rfl <;> rcases b3 with rfl | rfl <;> decide
def bodyPR : SM := (sSeq (sAsg (.nm 6) (mCall 2 f__law_among (mCons (mVar 0) (mCons (mLst (mCons (mC (.int 0)) (mCons (mC (.int 0)) (mCons (mC (.int 1)) (mCons (mC (.int 5)) (mNil)))))) (mNil))))) (sSeq (sAsg (.nm 7) (mTup (mCons (mBin subD (mBin subD (mBin mulD (mBin mulD (mBin ixD (mVar 1) (mC (.int 0))) (mC (.int 3))) (mVar 5)) (mIf (mTB (mBin eqD (mBin ixD (mVar 1) (mC (.int 1))) (mC (.int 0)))) (mC (.int 1)) (mC (.int 0)))) (mVar 6)) (mCons (mBin mulD (mC (.int 3)) (mVar 5)) (mNil))))) (sSeq (sAsg (.nm 8) (mTup (mCons (mBin subD (mBin mulD (mVar 4) (mC (.int 3))) (mBin ixD (mVar 7) (mC (.int 0)))) (mCons (mBin mulD (mC (.int 3)) (mVar 5)) (mNil))))) (sSeq (sAsg (.nm 9) (mAndV (mCall 3 f__law_keeps (mCons (mVar 1) (mCons (mBin ixD (mVar 7) (mC (.int 0))) (mCons (mBin ixD (mVar 7) (mC (.int 1))) (mNil))))) (mCall 3 f__law_keeps (mCons (mVar 2) (mCons (mBin ixD (mVar 8) (mC (.int 0))) (mCons (mBin ixD (mVar 8) (mC (.int 1))) (mNil))))))) (sSeq (sIf (mAndT (mTru (mVar 9)) (mNotT (mTru (mCall 2 f_does_keep (mCons (mVar 3) (mCons (mTup (mCons (mVar 4) (mCons (mVar 5) (mNil)))) (mNil))))))) (sRet (mC (.bl false))) (sPass)) (sIf (mAndT (mTB (mBin eqD (mVar 6) (mC (.int 0)))) (mAndT (mTB (mBin eqD (mBin ixD (mVar 1) (mC (.int 1))) (mC (.int 1)))) (mTB (mBin neD (mCall 2 f_does_keep (mCons (mVar 3) (mCons (mTup (mCons (mVar 4) (mCons (mVar 5) (mNil)))) (mNil)))) (mVar 9))))) (sRet (mC (.bl false))) (sPass)))))))
/-- one turn over the fractions -/
theorem turnPR {m k j d e t q : Int} {h : Hs} {x6 x7 x8 x9 : Option D} (s : SP m h) (hm : m < 2 ^ 60) (oa : okD (some (k, d))) (ob : okD (some (j, e))) (t1 : -(10 ^ 52) < t) (t2 : t < 10 ^ 52) (q1 : 1 ≤ q) (q2 : q ≤ 10 ^ 20) :
    ∃ y6 y7 y8 y9 h', bodyPR [some (.loc 0), some (eB (some (k, d))), some (eB (some (j, e))), some (eB (sumB (some (k, d)) (some (j, e)))), some (.int t), some (.int q), x6, x7, x8, x9] h =
      .nx [some (.loc 0), some (eB (some (k, d))), some (eB (some (j, e))), some (eB (sumB (some (k, d)) (some (j, e)))), some (.int t), some (.int q), some (.int y6), some (.tup y7), some (.tup y8), some (.bl y9)] h' ∧ SP (m + 1) h' := by
  obtain ⟨r, h1, e1, r0, r5, s1⟩ := among4 s hm
  obtain ⟨o1, o2, o3⟩ := oa
  obtain ⟨u1, u2, u3⟩ := ob
  obtain ⟨st, hst⟩ : ∃ st, st = k * 3 * q - (if d = 0 then 1 else 0) - r := ⟨_, rfl⟩
  obtain ⟨M1, M2⟩ := keeps_split (j := j) (e := e) (t := t) q1 r0 o3 u3 hst
  have m1 : mulD (.int k) (.int 3) = some (.int (k * 3)) := bMul (by omega) (by omega) (by omega) (by decide)
  have m2 : mulD (.int (k * 3)) (.int q) = some (.int (k * 3 * q)) := bMul (by omega) (by omega) (by omega) (by omega)
  have m3 : mulD (.int 3) (.int q) = some (.int (3 * q)) := bMul (by decide) (by decide) (by omega) (by omega)
  have m4 : mulD (.int t) (.int 3) = some (.int (t * 3)) := bMul (by omega) (by omega) (by omega) (by decide)
  have A1 : ∀ hh, f__law_keeps [eB (some (k, d)), .int st, .int (3 * q)] hh = .ok (.bl (keepsB (some (k, d)) st (3 * q))) hh := fun hh => law_keeps_ok (fun _ => bMul (by show _ < k; omega) (by show k < _; omega) (by omega) (by omega)) hh
  have A2 : ∀ hh, f__law_keeps [eB (some (j, e)), .int (t * 3 - st), .int (3 * q)] hh = .ok (.bl (keepsB (some (j, e)) (t * 3 - st) (3 * q))) hh := fun hh => law_keeps_ok (fun _ => bMul (by show _ < j; omega) (by show j < _; omega) (by omega) (by omega)) hh
  have A3 : ∀ hh, f_does_keep [eB (sumB (some (k, d)) (some (j, e))), eQ t q] hh = .ok (.bl (keepsB (sumB (some (k, d)) (some (j, e))) t q)) hh := fun hh => does_keep_ok (okB_sum (a := some (k, d)) (b := some (j, e)) ⟨o1, o2, o3⟩ ⟨u1, u2, u3⟩) ⟨by omega, by omega, q1, by omega⟩ hh
  simp only [sumB] at A3 ⊢
  generalize keepsB (some (k, d)) st (3 * q) = x1 at *
  generalize keepsB (some (j, e)) (t * 3 - st) (3 * q) = x2 at *
  generalize keepsB (some (k + j, d * e)) t q = x3 at *
  generalize d * e = f at *
  refine ⟨r, [.int st, .int (3 * q)], [.int (t * 3 - st), .int (3 * q)], x1 && x2, h1, ?_, s1⟩
  simp only [eB, eQ] at A1 A2 A3 ⊢
  rcases o3 with rfl | rfl
  · simp only [if_true] at hst
    by_cases hr0 : r = 0
    · subst hr0
      have hst : st = k * 3 * q - 1 := by omega
      subst hst
      cases x1 <;> cases x2 <;> cases x3 <;> simp only [Bool.and_true, Bool.and_false, Bool.true_and, Bool.false_and] at M1 ⊢ <;> first | (exact absurd (M1 trivial) (by decide)) | (simp [bodyPR, sSeq, sAsg, asgT, mCall, mCons, mNil, mLst, mTup, mC, mVar, mBin, mIf, mTB, R.bind, rd, isLoc, e1, ixD, L2.atI, ixN, m1, m2, m3, m4, subD, eqD, okE, eqv, isBl, A1, A2, A3, mAndV, truD, sIf, mAndT, mTru, mNotT, neD, sPass, sRet]; done)
    · subst hst
      cases x1 <;> cases x2 <;> cases x3 <;> simp only [Bool.and_true, Bool.and_false, Bool.true_and, Bool.false_and] at M1 ⊢ <;> first | (exact absurd (M1 trivial) (by decide)) | (simp [bodyPR, sSeq, sAsg, asgT, mCall, mCons, mNil, mLst, mTup, mC, mVar, mBin, mIf, mTB, R.bind, rd, isLoc, e1, ixD, L2.atI, ixN, m1, m2, m3, m4, subD, eqD, okE, eqv, isBl, A1, A2, A3, mAndV, truD, sIf, mAndT, mTru, mNotT, neD, sPass, sRet, hr0]; done)
  · simp only [show ¬ (1 : Int) = 0 by decide, if_false] at hst
    by_cases hr0 : r = 0
    · have M2 := M2 hr0 rfl
      subst M2
      subst hr0
      have hst : st = k * 3 * q := by omega
      subst hst
      cases x1 <;> cases x2 <;> simp [bodyPR, sSeq, sAsg, asgT, mCall, mCons, mNil, mLst, mTup, mC, mVar, mBin, mIf, mTB, R.bind, rd, isLoc, e1, ixD, L2.atI, ixN, m1, m2, m3, m4, subD, eqD, okE, eqv, isBl, A1, A2, A3, mAndV, truD, sIf, mAndT, mTru, mNotT, neD, sPass, sRet]
    · have hst : st = k * 3 * q - r := by omega
      subst hst
      cases x1 <;> cases x2 <;> cases x3 <;> simp only [Bool.and_true, Bool.and_false, Bool.true_and, Bool.false_and] at M1 ⊢ <;> first | (exact absurd (M1 trivial) (by decide)) | (simp [bodyPR, sSeq, sAsg, asgT, mCall, mCons, mNil, mLst, mTup, mC, mVar, mBin, mIf, mTB, R.bind, rd, isLoc, e1, ixD, L2.atI, ixN, m1, m2, m3, m4, subD, eqD, okE, eqv, isBl, A1, A2, A3, mAndV, truD, sIf, mAndT, mTru, mNotT, neD, sPass, sRet, hr0]; done)
end W

set_option Elab.async false
set_option linter.all false
set_option maxRecDepth 100000
set_option maxHeartbeats 1000000
set_option exponentiation.threshold 5000
namespace W
open PySem PySem.Spec PyProof.Rows L2 DL
theorem okE_eB (b : Bd) (n : Nat) : okE (n + 1) (eB b) = true := by
  cases b with
  | none => rfl
  | some p => obtain ⟨k, e⟩ := p; cases n <;> simp [eB, okE]
theorem okE_eB60 (b : Bd) : okE 60 (eB b) = true := okE_eB b 59
theorem eqv_eB (b : Bd) : eqv (eB b) (eB b) = true := by
  cases b with
  | none => rfl
  | some p => obtain ⟨k, e⟩ := p; simp [eB, eqv, eqvs]
theorem eqv_non (b : Bd) : eqv (eB b) .non = b.isNone := by
  cases b with
  | none => rfl
  | some p => obtain ⟨k, e⟩ := p; rfl
theorem ne_eB (b : Bd) : neD (eB b) (eB b) = some (.bl false) := by
  rw [neD, if_pos ⟨okE_eB60 b, okE_eB60 b⟩, eqv_eB]; rfl
theorem rd_eB (h : Hs) (b : Bd) : rd h (eB b) = eB b := by
  cases b with
  | none => rfl
  | some p => rfl
theorem rd_bl (h : Hs) (x : Bool) : rd h (.bl x) = .bl x := rfl
theorem pair_right_ok {m : Int} {h : Hs} {a b : Bd} (s : SP m h) (hm : m < 2 ^ 57) (oa : okD a) (ob : okD b) : ∃ h', f__law_pair_right [.loc 0, eB a, eB b] h = .ok (.bl true) h' ∧ SP (m + 16) h' := by
  have F1 := fun hh => bound_sum_ok oa.okB ob.okB hh
  have F2 := fun hh => law_sum_ok oa.okB ob.okB hh
  have F3 := fun hh => is_tighter_ok oa.okB ob.okB hh
  have F4 := fun hh => law_is_less_ok (a := a) (b := b) hh
  have N1 : ∀ x : Bool, neD (.bl x) (.bl x) = some (.bl false) := fun x => by simp [neD, okE, eqv]
  have E1 : sAsg (.nm 3) (mCall 2 f_bound_sum (mCons (mVar 1) (mCons (mVar 2) (mNil)))) [some (.loc 0), some (eB a), some (eB b), none, none, none, none, none, none, none] h = .nx [some (.loc 0), some (eB a), some (eB b), some (eB (sumB a b)), none, none, none, none, none, none] h := by
    simp [sAsg, mCall, mCons, mNil, mVar, R.bind, F1, asgT]
  have E2 : sIf (mOrT (mTB (mBin neD (mVar 3) (mCall 2 f__law_sum (mCons (mVar 1) (mCons (mVar 2) (mNil)))))) (mTB (mBin neD (mCall 2 f_is_tighter (mCons (mVar 1) (mCons (mVar 2) (mNil)))) (mCall 2 f__law_is_less (mCons (mVar 1) (mCons (mVar 2) (mNil))))))) (sRet (mC (.bl false))) (sPass)
      [some (.loc 0), some (eB a), some (eB b), some (eB (sumB a b)), none, none, none, none, none, none] h = .nx [some (.loc 0), some (eB a), some (eB b), some (eB (sumB a b)), none, none, none, none, none, none] h := by
    simp only [sIf, mOrT, mTB, mBin, mCall, mCons, mNil, mVar, R.bind, List.getElem?_cons_zero, List.getElem?_cons_succ, F2, F3, F4, rd_eB, ne_eB, isBl, List.length_cons, List.length_nil, if_true, Bool.false_eq_true, if_false, rd_bl, N1, sPass]
  cases a with
  | none =>
    refine ⟨h, ?_, s.mono (by omega)⟩
    have E : b__law_pair_right [some (.loc 0), some (eB none), some (eB b), none, none, none, none, none, none, none] h = .rt (.bl true) h := by
      unfold b__law_pair_right
      simp only [sSeq, E1, E2]
      simp [sIf, mOrT, mTB, mBin, mVar, mC, R.bind, rd, eB, isND, DL.isNon, isBl, sRet, sumB]
    simp [f__law_pair_right, mkF, E, finV]
  | some p =>
    cases b with
    | none =>
      refine ⟨h, ?_, s.mono (by omega)⟩
      obtain ⟨k, d⟩ := p
      have E : b__law_pair_right [some (.loc 0), some (eB (some (k, d))), some (eB none), none, none, none, none, none, none, none] h = .rt (.bl true) h := by
        unfold b__law_pair_right
        simp only [sSeq, E1, E2]
        simp [sIf, mOrT, mTB, mBin, mVar, mC, R.bind, rd, eB, isND, DL.isNon, isBl, sRet, sumB]
      simp [f__law_pair_right, mkF, E, finV]
    | some r =>
      obtain ⟨k, d⟩ := p
      obtain ⟨j, e⟩ := r
      obtain ⟨l, h1, e1, hl, hlen, s1⟩ := fractions_ok (n := k + j) s (by omega) (by have := oa.1; have := ob.1; omega) (by have := oa.2.1; have := ob.2.1; omega)
      have E3 : sIf (mOrT (mTB (mBin isND (mVar 1) (mC .non))) (mTB (mBin isND (mVar 2) (mC .non)))) (sRet (mBin isND (mVar 3) (mC .non))) (sPass)
          [some (.loc 0), some (eB (some (k, d))), some (eB (some (j, e))), some (eB (sumB (some (k, d)) (some (j, e)))), none, none, none, none, none, none] h = .nx [some (.loc 0), some (eB (some (k, d))), some (eB (some (j, e))), some (eB (sumB (some (k, d)) (some (j, e)))), none, none, none, none, none, none] h := by
        simp [sIf, mOrT, mTB, mBin, mVar, mC, R.bind, rd, eB, isND, DL.isNon, isBl, sPass]
      obtain ⟨ds', h2, e2, x4, x5, x6, x7, x8, x9, hds, s2⟩ := for_inv (l := l) (t := .tp (.cons (.nm 4) (.cons (.nm 5) (.nil)))) (body := bodyPR) (n0 := 1) (ds := [some (.loc 0), some (eB (some (k, d))), some (eB (some (j, e))), some (eB (sumB (some (k, d)) (some (j, e)))), none, none, none, none, none, none]) (h := h1)
        (fun i ds hh => ∃ x4 x5 x6 x7 x8 x9 : Option D, ds = [some (.loc 0), some (eB (some (k, d))), some (eB (some (j, e))), some (eB (sumB (some (k, d)) (some (j, e)))), x4, x5, x6, x7, x8, x9] ∧ SP (m + 8 + (i : Nat)) hh)
        ⟨none, none, none, none, none, none, rfl, by simpa using s1⟩ (by
          rintro i x ds hh hx ⟨x4, x5, x6, x7, x8, x9, rfl, si⟩
          obtain ⟨t, q, rfl, t1, t2, q1, q2⟩ := hl x (List.mem_of_getElem? hx)
          have hi : i < l.length := (List.getElem?_eq_some_iff.mp hx).1
          obtain ⟨y6, y7, y8, y9, h', e3, s3⟩ := turnPR (x6 := x6) (x7 := x7) (x8 := x8) (x9 := x9) si (by omega) oa ob t1 t2 q1 q2
          refine ⟨_, by simp [asgT, asgTs, eQ], _, _, e3, some (.int t), some (.int q), some (.int y6), some (.tup y7), some (.tup y8), some (.bl y9), by simp [gcE, eB, sumB], ?_⟩
          rw [s3.take]
          have : m + 8 + ((i + 1 : Nat) : Int) = m + 8 + (i : Int) + 1 := by omega
          rw [this]
          exact s3)
      have E4 : sFor (mSeq (mCall 2 f__law_fractions_near (mCons (mVar 0) (mCons (mBin addD (mBin ixD (mVar 1) (mC (.int 0))) (mBin ixD (mVar 2) (mC (.int 0)))) (mNil))))) (.tp (.cons (.nm 4) (.cons (.nm 5) (.nil)))) bodyPR
          [some (.loc 0), some (eB (some (k, d))), some (eB (some (j, e))), some (eB (sumB (some (k, d)) (some (j, e)))), none, none, none, none, none, none] h = .nx ds' h2 := by
        have ms : mSeq (mCall 2 f__law_fractions_near (mCons (mVar 0) (mCons (mBin addD (mBin ixD (mVar 1) (mC (.int 0))) (mBin ixD (mVar 2) (mC (.int 0)))) (mNil)))) [some (.loc 0), some (eB (some (k, d))), some (eB (some (j, e))), some (eB (sumB (some (k, d)) (some (j, e)))), none, none, none, none, none, none] h = .ok (.its l) h1 := by
          simp [mSeq, mCall, mCons, mNil, mVar, mBin, mC, R.bind, rd, eB, ixD, L2.atI, ixN, addD, e1, srcOf]
        unfold sFor
        rw [ms]
        simp only [s1.len]
        exact e2
      refine ⟨h2, ?_, s2.mono (by omega)⟩
      have E : b__law_pair_right [some (.loc 0), some (eB (some (k, d))), some (eB (some (j, e))), none, none, none, none, none, none, none] h = .rt (.bl true) h2 := by
        simp only [bodyPR] at E4
        unfold b__law_pair_right
        simp only [sSeq, E1, E2, E3, E4]
        rfl
      simp [f__law_pair_right, mkF, E, finV, s.len, s2.take]
end W

set_option Elab.async false
set_option linter.all false
set_option maxRecDepth 100000
set_option maxHeartbeats 1000000
set_option exponentiation.threshold 5000
namespace W
open PySem PySem.Spec PyProof.Rows L2 DL
def notInt : D → Bool
  | .int _ => false
  | _ => true
theorem lcp {x y : D} (hx : (∃ i, x = .int i) ∨ ∃ b, x = .bl b) (hy : (∃ i, y = .int i) ∨ ∃ b, y = .bl b) (hh : Hs) : mLc (mSeq (mVar 0)) [1] (.nm 1) (mOrT (mTru (mB (on2 isi2) (mCons (mVar 1) (mCons (mC (.ty "bool")) (mNil))))) (mNotT (mTru (mB (on2 isi2) (mCons (mVar 1) (mCons (mC (.ty "int")) (mNil))))))) (mVar 1)
    [some (.tup [x, y]), none] hh = .ok (.lst ([x, y].filter notInt)) hh := by
  have := mLc_pure (l := [x, y]) (ms := mSeq (mVar 0)) (vs := [1]) (ds := [some (.tup [x, y]), none]) (t := .nm 1) (tt := mOrT (mTru (mB (on2 isi2) (mCons (mVar 1) (mCons (mC (.ty "bool")) (mNil))))) (mNotT (mTru (mB (on2 isi2) (mCons (mVar 1) (mCons (mC (.ty "int")) (mNil))))))) (te := mVar 1) (p := notInt) (g := id) (h := hh) (by rfl) (fun z hz => by
    refine ⟨_, rfl, fun h2 => ?_, fun _ => ⟨fun h2 => ?_, ?_⟩⟩
    · have : (∃ i, z = .int i) ∨ ∃ b, z = .bl b := by
        rcases List.mem_cons.mp hz with rfl | hz
        · exact hx
        · rw [List.mem_singleton.mp hz]; exact hy
      rcases this with ⟨i, rfl⟩ | ⟨b, rfl⟩ <;> simp [mOrT, mNotT, mTru, mB, mCons, mNil, mVar, mC, R.bind, wipeD, rd, on2, isi2, tyN, isT2, truD, notInt]
    · simp [mVar, wipeD]
    · rcases List.mem_cons.mp hz with rfl | hz
      · rcases hx with ⟨i, rfl⟩ | ⟨b, rfl⟩ <;> rfl
      · rw [List.mem_singleton.mp hz]; rcases hy with ⟨i, rfl⟩ | ⟨b, rfl⟩ <;> rfl) (by simp)
  simpa using this
/-- both judge a value alike -/
def Alike (x : D) : Prop := ∃ v : Bool, (∀ hh, f_is_bound [x] hh = .ok (.bl v) hh) ∧ ∀ hh, f__law_is_bound [x] hh = .ok (.bl v) hh
theorem is_bound_ok {x : D} {v : Bool} {hh : Hs} (h : f_is_bound_in [x] hh = .ok (.bl v) hh) : f_is_bound [x] hh = .ok (.bl v) hh := by
  simp [f_is_bound, b_is_bound, mkF, sRet, mCall, mCons, mNil, mVar, R.bind, h, finV]
theorem inD01 (i : Int) : inD (.int i) (.tup [.int 0, .int 1]) = some (.bl (i == 0 || i == 1)) := by
  have e1 : (0 == i) = (i == 0) := by rw [Bool.eq_iff_iff]; simp; omega
  have e2 : (1 == i) = (i == 1) := by rw [Bool.eq_iff_iff]; simp; omega
  simp [inD, inB, okE, eqv, e1, e2]
theorem alike_eB {b : Bd} (o : okD b) : Alike (eB b) := by
  refine ⟨true, fun hh => is_bound_ok (is_bound_in_ok o.okB hh), fun hh => ?_⟩
  cases b with
  | none => simp [f__law_is_bound, b__law_is_bound, mkF, sSeq, sIf, mTB, mBin, mVar, mC, R.bind, rd, isND, DL.isNon, eB, isBl, sRet, finV]
  | some p =>
    obtain ⟨k, e⟩ := p
    obtain ⟨o1, o2, o3⟩ := o
    obtain ⟨P, hP⟩ : ∃ x : Int, x = 10 ^ 60 := ⟨_, rfl⟩
    have p60 : powD (.int 10) (.int 60) = some (.int P) := by rw [hP]; exact pow60
    have l := lcp (x := .int k) (y := .int e) (.inl ⟨k, rfl⟩) (.inl ⟨e, rfl⟩) hh
    have ha : abs1 (.int k) = some (.int (if k < 0 then -k else k)) := rfl
    have hlt : (if k < 0 then -k else k) < P := by split <;> omega
    generalize (if k < 0 then -k else k) = ak at ha hlt
    have he : (e == 0 || e == 1) = true := by rcases o3 with rfl | rfl <;> rfl
    have l : mLc (mSeq (mVar 0)) [1] (.nm 1) (mOrT (mTru (mB (on2 isi2) (mCons (mVar 1) (mCons (mC (.ty "bool")) (mNil))))) (mNotT (mTru (mB (on2 isi2) (mCons (mVar 1) (mCons (mC (.ty "int")) (mNil))))))) (mVar 1) [some (.tup [.int k, .int e]), none] hh = .ok (.lst []) hh := l
    simp only [f__law_is_bound, b__law_is_bound, mkF, sSeq, sIf, eB]
    simp [mTB, mBin, l, mVar, mC, mLst, mNil, mCons, R.bind, rd, isND, DL.isNon, isBl, sPass, mOrT, mNotT, mTru, mB, on1, on2, isi2, tyN, isT2, truD, len1, neD, okE, eqv, eqvs, sRet, mAndV, ixD, L2.atI, ixN, ha, p60, ltD, hlt, mTup, isLoc, inD01, he, finV]
theorem alike_flat {x : D} (h : (∃ i, x = .int i) ∨ (∃ s, x = .str s) ∨ (∃ l, x = .lst l) ∨ ∃ k v, x = .dct k v) : Alike x := by
  refine ⟨false, fun hh => is_bound_ok ?_, fun hh => ?_⟩
  · rcases h with ⟨i, rfl⟩ | ⟨i, rfl⟩ | ⟨i, rfl⟩ | ⟨k, v, rfl⟩ <;> simp [f_is_bound_in, b_is_bound_in, mkF, sSeq, sIf, mTB, mBin, mVar, mC, R.bind, rd, isND, DL.isNon, isBl, sRet, sPass, mAndV, mB, mCons, mNil, on2, isi2, tyN, isT2, truD, finV]
  · rcases h with ⟨i, rfl⟩ | ⟨i, rfl⟩ | ⟨i, rfl⟩ | ⟨k, v, rfl⟩ <;> simp [f__law_is_bound, b__law_is_bound, mkF, sSeq, sIf, mTB, mBin, mVar, mC, R.bind, rd, isND, DL.isNon, isBl, sRet, sPass, mOrT, mNotT, mTru, mB, mCons, mNil, on2, isi2, tyN, isT2, truD, finV]
theorem alike_len {l : List D} (h : l.length ≠ 2) : Alike (.tup l) := by
  have h' : ¬ (l.length : Int) = 2 := by omega
  refine ⟨false, fun hh => is_bound_ok ?_, fun hh => ?_⟩
  · simp [f_is_bound_in, b_is_bound_in, mkF, sSeq, sIf, mTB, mBin, mVar, mC, R.bind, rd, isND, DL.isNon, isBl, sRet, sPass, mAndV, mB, mCons, mNil, on1, on2, isi2, tyN, isT2, truD, len1, eqD, okE, eqv, h', finV]
  · simp [f__law_is_bound, b__law_is_bound, mkF, sSeq, sIf, mTB, mBin, mVar, mC, R.bind, rd, isND, DL.isNon, isBl, sRet, sPass, mOrT, mNotT, mTru, mB, mCons, mNil, on1, on2, isi2, tyN, isT2, truD, len1, neD, okE, eqv, h', finV]
theorem is_whole_bl (b : Bool) (h : Hs) : f_is_whole [.bl b] h = .ok (.bl false) h := by
  simp [f_is_whole, b_is_whole, mkF, sRet, mAndV, mB, mCons, mNil, mVar, mC, R.bind, rd, on2, isi2, tyN, isT2, truD, mNotV, finV]
theorem is_integer_bl (b : Bool) (h : Hs) : f_is_integer [.bl b] h = .ok (.bl false) h := by
  simp [f_is_integer, b_is_integer, mkF, sRet, mAndV, mCall, is_whole_bl, mCons, mNil, mVar, R.bind, rd, truD, finV]
theorem is_within_bl (b : Bool) (lo hi : D) (h : Hs) : f_is_within [.bl b, lo, hi] h = .ok (.bl false) h := by
  simp [f_is_within, b_is_within, mkF, sRet, mAndV, mCall, is_whole_bl, mCons, mNil, mVar, R.bind, rd, truD, finV]
theorem is_integer_big (h : Hs) {P : Int} (hP : P = 10 ^ 60) : f_is_integer [.int P] h = .ok (.bl false) h := by
  have : (1000000000000000000000000000000000000000000000000000000000000 : Int) = P := by rw [hP]; decide
  simp [f_is_integer, b_is_integer, mkF, sRet, mAndV, mCall, is_whole_int, mCons, mNil, mVar, mC, R.bind, rd, truD, mChain, mUn, negD, ltD, isBl, finV]
  rw [this]
  have h1 : -P < P := by rw [hP]; decide
  simp [h1, finV]
theorem alike_int {i : Int} (hi : ¬ (i = 0 ∨ i = 1)) : Alike (.tup [.int 1, .int i]) := by
  refine ⟨false, fun hh => is_bound_ok ?_, fun hh => ?_⟩
  · have e1 := is_integer_int 1 hh (by decide) (by decide)
    have e2 : (decide (0 ≤ i) && decide (i ≤ 1)) = false := by
      rw [Bool.eq_false_iff]; simp; omega
    have e3 := is_within_int i 0 1 hh
    rw [e2] at e3
    simp [f_is_bound_in, b_is_bound_in, mkF, sSeq, sIf, mTB, mBin, mVar, mC, R.bind, rd, isND, DL.isNon, isBl, sRet, sPass, mAndV, mB, mCons, mNil, on2, isi2, tyN, isT2, truD, on1, len1, eqD, okE, eqv, mCall, ixD, L2.atI, ixN, e1, e3, finV]
  · obtain ⟨P, hP⟩ : ∃ x : Int, x = 10 ^ 60 := ⟨_, rfl⟩
    have p60 : powD (.int 10) (.int 60) = some (.int P) := by rw [hP]; exact pow60
    have l : mLc (mSeq (mVar 0)) [1] (.nm 1) (mOrT (mTru (mB (on2 isi2) (mCons (mVar 1) (mCons (mC (.ty "bool")) (mNil))))) (mNotT (mTru (mB (on2 isi2) (mCons (mVar 1) (mCons (mC (.ty "int")) (mNil))))))) (mVar 1) [some (.tup [.int 1, .int i]), none] hh = .ok (.lst []) hh := lcp (.inl ⟨1, rfl⟩) (.inl ⟨i, rfl⟩) hh
    have h1 : (1 : Int) < P := by rw [hP]; decide
    have he : (i == 0 || i == 1) = false := by rw [Bool.eq_false_iff]; simp; omega
    have ha : abs1 (.int 1) = some (.int 1) := rfl
    simp only [f__law_is_bound, b__law_is_bound, mkF, sSeq, sIf]
    simp [mTB, mBin, l, mVar, mC, mLst, mNil, mCons, R.bind, rd, isND, DL.isNon, isBl, sPass, mOrT, mNotT, mTru, mB, on1, on2, isi2, tyN, isT2, truD, len1, neD, okE, eqv, eqvs, sRet, mAndV, ixD, L2.atI, ixN, ha, p60, ltD, h1, mTup, isLoc, inD01, he, finV]
theorem alike_big : ∃ P : Int, P = 10 ^ 60 ∧ Alike (.tup [.int P, .int 1]) := by
  obtain ⟨P, hP⟩ : ∃ x : Int, x = 10 ^ 60 := ⟨_, rfl⟩
  refine ⟨P, hP, false, fun hh => is_bound_ok ?_, fun hh => ?_⟩
  · simp [f_is_bound_in, b_is_bound_in, mkF, sSeq, sIf, mTB, mBin, mVar, mC, R.bind, rd, isND, DL.isNon, isBl, sRet, sPass, mAndV, mB, mCons, mNil, on2, isi2, tyN, isT2, truD, on1, len1, eqD, okE, eqv, mCall, ixD, L2.atI, ixN, is_integer_big hh hP, finV]
  · have p60 : powD (.int 10) (.int 60) = some (.int P) := by rw [hP]; exact pow60
    have l : mLc (mSeq (mVar 0)) [1] (.nm 1) (mOrT (mTru (mB (on2 isi2) (mCons (mVar 1) (mCons (mC (.ty "bool")) (mNil))))) (mNotT (mTru (mB (on2 isi2) (mCons (mVar 1) (mCons (mC (.ty "int")) (mNil))))))) (mVar 1) [some (.tup [.int P, .int 1]), none] hh = .ok (.lst []) hh := lcp (.inl ⟨P, rfl⟩) (.inl ⟨1, rfl⟩) hh
    have ha : abs1 (.int P) = some (.int P) := by show some (D.int _) = _; rw [if_neg (by rw [hP]; decide)]
    simp only [f__law_is_bound, b__law_is_bound, mkF, sSeq, sIf]
    simp [mTB, mBin, l, mVar, mC, mLst, mNil, mCons, R.bind, rd, isND, DL.isNon, isBl, sPass, mOrT, mNotT, mTru, mB, on1, on2, isi2, tyN, isT2, truD, len1, neD, okE, eqv, eqvs, sRet, mAndV, ixD, L2.atI, ixN, ha, p60, ltD, finV]
theorem alike_bl {x y : D} (h : (∃ b, x = .bl b ∧ ∃ i, y = .int i) ∨ (x = .int 1 ∧ ∃ b, y = .bl b)) : Alike (.tup [x, y]) := by
  refine ⟨false, fun hh => is_bound_ok ?_, fun hh => ?_⟩
  · have e1 := is_integer_int 1 hh (by decide) (by decide)
    rcases h with ⟨b, rfl, i, rfl⟩ | ⟨rfl, b, rfl⟩ <;> simp [f_is_bound_in, b_is_bound_in, mkF, sSeq, sIf, mTB, mBin, mVar, mC, R.bind, rd, isND, DL.isNon, isBl, sRet, sPass, mAndV, mB, mCons, mNil, on2, isi2, tyN, isT2, truD, on1, len1, eqD, okE, eqv, mCall, ixD, L2.atI, ixN, e1, is_integer_bl, is_within_bl, finV]
  · simp only [f__law_is_bound, b__law_is_bound, mkF, sSeq, sIf]
    rcases h with ⟨b, rfl, i, rfl⟩ | ⟨rfl, b, rfl⟩
    · have l : mLc (mSeq (mVar 0)) [1] (.nm 1) (mOrT (mTru (mB (on2 isi2) (mCons (mVar 1) (mCons (mC (.ty "bool")) (mNil))))) (mNotT (mTru (mB (on2 isi2) (mCons (mVar 1) (mCons (mC (.ty "int")) (mNil))))))) (mVar 1) [some (.tup [.bl b, .int i]), none] hh = .ok (.lst [.bl b]) hh := lcp (.inr ⟨b, rfl⟩) (.inl ⟨i, rfl⟩) hh
      simp [mTB, mBin, l, mVar, mC, mLst, mNil, mCons, R.bind, rd, isND, DL.isNon, isBl, sPass, mOrT, mNotT, mTru, mB, on1, on2, isi2, tyN, isT2, truD, len1, neD, okE, eqv, eqvs, sRet, finV]
    · have l : mLc (mSeq (mVar 0)) [1] (.nm 1) (mOrT (mTru (mB (on2 isi2) (mCons (mVar 1) (mCons (mC (.ty "bool")) (mNil))))) (mNotT (mTru (mB (on2 isi2) (mCons (mVar 1) (mCons (mC (.ty "int")) (mNil))))))) (mVar 1) [some (.tup [.int 1, .bl b]), none] hh = .ok (.lst [.bl b]) hh := lcp (.inl ⟨1, rfl⟩) (.inr ⟨b, rfl⟩) hh
      simp [mTB, mBin, l, mVar, mC, mLst, mNil, mCons, R.bind, rd, isND, DL.isNon, isBl, sPass, mOrT, mNotT, mTru, mB, on1, on2, isi2, tyN, isT2, truD, len1, neD, okE, eqv, eqvs, sRet, finV]
end W

set_option Elab.async false
set_option linter.all false
set_option maxRecDepth 100000
set_option maxHeartbeats 1000000
set_option exponentiation.threshold 5000
namespace W
open PySem PySem.Spec PyProof.Rows L2 DL
theorem less_self (b : Bd) : lessB b b = false := by
  cases b with
  | none => rfl
  | some p => obtain ⟨k, e⟩ := p; simp [lessB]
theorem sum_unit (b : Bd) : sumB b (some (0, 1)) = b := by
  cases b with
  | none => rfl
  | some p => obtain ⟨k, e⟩ := p; simp [sumB]
theorem turn_keeps {k e t q : Int} (he : e = 0 ∨ e = 1) (hq : 1 ≤ q) : keepsB (turnB (some (k, e))) (0 - t) q = !keepsB (some (k, e)) t q := by
  have h1 : -k * q = -(k * q) := Int.neg_mul k q
  simp only [turnB, keepsB, h1]
  generalize k * q = X
  rcases he with rfl | rfl <;> rw [Bool.eq_iff_iff] <;> simp <;> omega
def bodyLR : SM := (sSeq (sIf (mTB (mBin neD (mCall 2 f_does_keep (mCons (mVar 1) (mCons (mTup (mCons (mVar 3) (mCons (mVar 4) (mNil)))) (mNil)))) (mCall 3 f__law_keeps (mCons (mVar 1) (mCons (mVar 3) (mCons (mVar 4) (mNil))))))) (sRet (mC (.bl false))) (sPass)) (sIf (mAndT (mTB (mBin notND (mVar 1) (mC .non))) (mTB (mBin eqD (mCall 2 f_does_keep (mCons (mCall 1 f_turned (mCons (mVar 1) (mNil))) (mCons (mTup (mCons (mBin subD (mC (.int 0)) (mVar 3)) (mCons (mVar 4) (mNil)))) (mNil)))) (mCall 2 f_does_keep (mCons (mVar 1) (mCons (mTup (mCons (mVar 3) (mCons (mVar 4) (mNil)))) (mNil))))))) (sRet (mC (.bl false))) (sPass)))
theorem turnLR {b c : Bd} {t q : Int} {h : Hs} {x5 x6 : Option D} (o : okD b) (t1 : -(10 ^ 52) < t) (t2 : t < 10 ^ 52) (q1 : 1 ≤ q) (q2 : q ≤ 10 ^ 20) :
    bodyLR [some (.loc 0), some (eB b), some (eB c), some (.int t), some (.int q), x5, x6] h = .nx [some (.loc 0), some (eB b), some (eB c), some (.int t), some (.int q), x5, x6] h := by
  have A1 := does_keep_ok o.okB (t := t) (q := q) ⟨by omega, by omega, q1, by omega⟩ h
  have A2 : f__law_keeps [eB b, .int t, .int q] h = .ok (.bl (keepsB b t q)) h := law_keeps_ok (fun hs => by
    cases b with
    | none => cases hs
    | some p => obtain ⟨k, e⟩ := p; exact bMul (by have := o.1; show _ < k; omega) (by have := o.2.1; show k < _; omega) (by omega) (by omega)) h
  cases b with
  | none =>
    simp only [eB, eQ] at A1 A2 ⊢
    simp [bodyLR, sSeq, sIf, mTB, mBin, mCall, mCons, mNil, mTup, mVar, mC, R.bind, rd, isLoc, A1, A2, neD, okE, eqv, isBl, sPass, mAndT, notND, DL.isNon]
  | some p =>
    obtain ⟨k, e⟩ := p
    have A3 := turned_ok o.okB h
    have ot : okB (turnB (some (k, e))) := ⟨by have := o.2.1; omega, by have := o.1; omega, by rcases o.2.2 with h | h <;> omega⟩
    have A4 := does_keep_ok ot (t := 0 - t) (q := q) ⟨by omega, by omega, q1, by omega⟩ h
    rw [turn_keeps o.2.2 q1] at A4
    generalize keepsB (some (k, e)) t q = x at *
    simp only [eB, eQ, turnB] at A1 A2 A3 A4 ⊢
    have z : (0 : Int) - t = -t := by omega
    rw [z] at A4
    cases x <;> simp [bodyLR, sSeq, sIf, mTB, mBin, mCall, mCons, mNil, mTup, mVar, mC, R.bind, rd, isLoc, A1, A2, A3, A4, neD, eqD, okE, eqv, isBl, sPass, mAndT, notND, DL.isNon, subD] at A4 ⊢
theorem il1 (l : List D) : isLoc (.tup l) = false := rfl
theorem il2 (l : List D) : isLoc (.lst l) = false := rfl
theorem il3 (i : Int) : isLoc (.int i) = false := rfl
theorem il4 (s : Str) : isLoc (.str s) = false := rfl
theorem il5 (k v : List D) : isLoc (.dct k v) = false := rfl
theorem il6 (b : Bool) : isLoc (.bl b) = false := rfl
theorem okTrue : PyData.strOk "True" = true := by decide +kernel
theorem okFalse : PyData.strOk "False" = true := by decide +kernel
theorem law_right_ok {m : Int} {h : Hs} (s : SP m h) (hm : m < 2 ^ 56) : ∃ h', f__law_right [.loc 0] h = .ok (.bl true) h' ∧ SP (m + 60) h' := by
  obtain ⟨a, h1, e1, oa, s1⟩ := bound_drawn_ok s (by omega)
  obtain ⟨b, h2, e2, ob, s2⟩ := bound_drawn_ok s1 (by omega)
  obtain ⟨h3, e3, s3⟩ := pair_right_ok s2 (by omega) oa ob
  obtain ⟨h4, e4, s4⟩ := pair_right_ok s3 (by omega) ob oa
  have ou : okB (some (0, 1)) := ⟨by decide, by decide, .inr rfl⟩
  have e5 := is_tighter_ok oa.okB oa.okB h4
  rw [less_self] at e5
  have e6 := bound_sum_ok oa.okB ou h4
  rw [sum_unit] at e6
  -- the number that the fractions are near
  obtain ⟨n, h5, e7, n1, n2, s5⟩ : ∃ n h5, (mIf (mTB (mBin isND (mVar 1) (mC .non))) (mCall 2 f__law_spin (mCons (mVar 0) (mCons (mC (.int 9)) (mNil)))) (mBin ixD (mVar 1) (mC (.int 0)))) [some (.loc 0), some (eB a), some (eB b), none, none, none, none] h4 = .ok (.int n) h5 ∧ -(10 ^ 31) < n ∧ n < 10 ^ 31 ∧ SP (m + 47) h5 := by
    cases a with
    | none =>
      obtain ⟨r, h5, e, a1, a2, s5⟩ := spin_ok (t := 9) s4 (by omega) (by decide) (by decide)
      exact ⟨r, h5, by simp [mIf, mTB, mBin, mVar, mC, R.bind, rd, isND, DL.isNon, eB, isBl, mCall, mCons, mNil, e], by omega, by omega, s5.mono (by omega)⟩
    | some p =>
      obtain ⟨k, e⟩ := p
      exact ⟨k, h4, by simp [mIf, mTB, mBin, mVar, mC, R.bind, rd, isND, DL.isNon, eB, isBl, ixD, L2.atI, ixN], by have := oa.1; omega, by have := oa.2.1; omega, s4.mono (by omega)⟩
  obtain ⟨l, h6, e8, hl, hlen, s6⟩ := fractions_ok s5 (by omega) n1 n2
  have E1 : sPar [1, 2] (mCons (mCall 1 f__law_bound_drawn (mCons (mVar 0) (mNil))) (mCons (mCall 1 f__law_bound_drawn (mCons (mVar 0) (mNil))) (mNil))) [some (.loc 0), none, none, none, none, none, none] h = .nx [some (.loc 0), some (eB a), some (eB b), none, none, none, none] h2 := by
    simp [sPar, mCons, mNil, mCall, mVar, R.bind, e1, e2]
  have E2 : sIf (mOrT (mNotT (mTru (mCall 3 f__law_pair_right (mCons (mVar 0) (mCons (mVar 1) (mCons (mVar 2) (mNil))))))) (mNotT (mTru (mCall 3 f__law_pair_right (mCons (mVar 0) (mCons (mVar 2) (mCons (mVar 1) (mNil)))))))) (sRet (mC (.bl false))) (sPass) [some (.loc 0), some (eB a), some (eB b), none, none, none, none] h2 = .nx [some (.loc 0), some (eB a), some (eB b), none, none, none, none] h4 := by
    simp [sIf, mOrT, mNotT, mTru, mCall, mCons, mNil, mVar, R.bind, e3, e4, rd, truD, sPass]
  have E3 : sIf (mOrT (mTru (mCall 2 f_is_tighter (mCons (mVar 1) (mCons (mVar 1) (mNil))))) (mTB (mBin neD (mCall 2 f_bound_sum (mCons (mVar 1) (mCons (mTup (mCons (mC (.int 0)) (mCons (mC (.int 1)) (mNil)))) (mNil)))) (mVar 1)))) (sRet (mC (.bl false))) (sPass) [some (.loc 0), some (eB a), some (eB b), none, none, none, none] h4 = .nx [some (.loc 0), some (eB a), some (eB b), none, none, none, none] h4 := by
    have e6' : f_bound_sum [eB a, .tup [.int 0, .int 1]] h4 = .ok (eB a) h4 := e6
    simp only [sIf, mOrT, mTru, mTB, mBin, mCall, mCons, mNil, mVar, mC, mTup, R.bind, List.getElem?_cons_zero, List.getElem?_cons_succ, e5, e6', rd_eB, ne_eB, isBl, List.length_cons, List.length_nil, if_true, Bool.false_eq_true, if_false, rd_bl, truD, sPass]
    simp [isLoc, e6', rd_eB, ne_eB, isBl]
  have MS : mSeq (mCall 2 f__law_fractions_near (mCons (mVar 0) (mCons (mIf (mTB (mBin isND (mVar 1) (mC .non))) (mCall 2 f__law_spin (mCons (mVar 0) (mCons (mC (.int 9)) (mNil)))) (mBin ixD (mVar 1) (mC (.int 0)))) (mNil)))) [some (.loc 0), some (eB a), some (eB b), none, none, none, none] h4 = .ok (.its l) h6 := by
    generalize (mIf (mTB (mBin isND (mVar 1) (mC .non))) (mCall 2 f__law_spin (mCons (mVar 0) (mCons (mC (.int 9)) (mNil)))) (mBin ixD (mVar 1) (mC (.int 0)))) = mm at e7
    simp [mSeq, mCall, mCons, mNil, mVar, R.bind, e7, e8, srcOf]
  obtain ⟨ds', h7, e9, x3, x4, hds, hh7⟩ := for_inv (l := l) (t := .tp (.cons (.nm 3) (.cons (.nm 4) (.nil)))) (body := bodyLR) (n0 := 1) (ds := [some (.loc 0), some (eB a), some (eB b), none, none, none, none]) (h := h6)
    (fun i ds hh => ∃ x3 x4 : Option D, ds = [some (.loc 0), some (eB a), some (eB b), x3, x4, none, none] ∧ hh = h6) ⟨none, none, rfl, rfl⟩ (by
      rintro i x ds hh hx ⟨x3, x4, rfl, rfl⟩
      obtain ⟨t, q, rfl, t1, t2, q1, q2⟩ := hl x (List.mem_of_getElem? hx)
      refine ⟨_, by simp [asgT, asgTs, eQ], _, _, turnLR (b := a) (c := b) (x5 := none) (x6 := none) oa t1 t2 q1 q2, some (.int t), some (.int q), ?_, s6.take⟩
      cases a <;> cases b <;> simp [gcE, eB])
  subst hds hh7
  have E4 : sFor (mSeq (mCall 2 f__law_fractions_near (mCons (mVar 0) (mCons (mIf (mTB (mBin isND (mVar 1) (mC .non))) (mCall 2 f__law_spin (mCons (mVar 0) (mCons (mC (.int 9)) (mNil)))) (mBin ixD (mVar 1) (mC (.int 0)))) (mNil))))) (.tp (.cons (.nm 3) (.cons (.nm 4) (.nil)))) bodyLR [some (.loc 0), some (eB a), some (eB b), none, none, none, none] h4 = .nx [some (.loc 0), some (eB a), some (eB b), x3, x4, none, none] h7 := by
    unfold sFor
    rw [MS]
    simp only [s6.len]
    exact e9
  have E5 : sIf (mAndT (mTB (mBin notND (mVar 1) (mC .non))) (mTB (mBin neD (mCall 1 f_turned (mCons (mCall 1 f_turned (mCons (mVar 1) (mNil))) (mNil))) (mVar 1)))) (sRet (mC (.bl false))) (sPass) [some (.loc 0), some (eB a), some (eB b), x3, x4, none, none] h7 = .nx [some (.loc 0), some (eB a), some (eB b), x3, x4, none, none] h7 := by
    cases a with
    | none => simp [sIf, mAndT, mTB, mBin, mVar, mC, R.bind, rd, notND, DL.isNon, eB, isBl, sPass]
    | some p =>
      obtain ⟨k, e⟩ := p
      have A3 := turned_ok oa.okB h7
      have ot : okB (some (-k, 1 - e)) := ⟨by have := oa.2.1; omega, by have := oa.1; omega, by rcases oa.2.2 with h | h <;> omega⟩
      have A4 := turned_ok ot h7
      have z : 1 - (1 - e) = e := by omega
      simp only [eB, turnB, Int.neg_neg, z] at A3 A4 ⊢
      simp [sIf, mAndT, mTB, mBin, mVar, mC, R.bind, rd, notND, DL.isNon, isBl, sPass, mCall, mCons, mNil, A3, A4, neD, okE, eqv, eqvs]
  obtain ⟨P, hP, aP⟩ := alike_big
  have p60 : powD (.int 10) (.int 60) = some (.int P) := by rw [hP]; exact pow60
  obtain ⟨SL, hSL⟩ : ∃ SL : List D, SL = [eB a, eB b, .tup [], .tup [.int 1], .tup [.int 1, .int 2], .tup [.int 1, .int (-1)], .tup [.int 1, .bl true], .tup [.bl true, .int 1], .lst [.int 1, .int 1], .tup [.int 1, .int 1, .int 1], .str "bound", .int 5, .tup [.int P, .int 1], .dct [] []] := ⟨_, rfl⟩
  have E6 : sAsg (.nm 5) (mLst (mCons (mVar 1) (mCons (mVar 2) (mCons (mTup (mNil)) (mCons (mTup (mCons (mC (.int 1)) (mNil))) (mCons (mTup (mCons (mC (.int 1)) (mCons (mC (.int 2)) (mNil)))) (mCons (mTup (mCons (mC (.int 1)) (mCons (mUn negD (mC (.int 1))) (mNil)))) (mCons (mTup (mCons (mC (.int 1)) (mCons (mC (.bl true)) (mNil)))) (mCons (mTup (mCons (mC (.bl true)) (mCons (mC (.int 1)) (mNil)))) (mCons (mLst (mCons (mC (.int 1)) (mCons (mC (.int 1)) (mNil)))) (mCons (mTup (mCons (mC (.int 1)) (mCons (mC (.int 1)) (mCons (mC (.int 1)) (mNil))))) (mCons (mC (.str "bound")) (mCons (mC (.int 5)) (mCons (mTup (mCons (mBin powD (mC (.int 10)) (mC (.int 60))) (mCons (mC (.int 1)) (mNil)))) (mCons (mC (.dct [] [])) (mNil))))))))))))))))
      [some (.loc 0), some (eB a), some (eB b), x3, x4, none, none] h7 = .nx [some (.loc 0), some (eB a), some (eB b), x3, x4, some (.lst SL), none] h7 := by
    simp [sAsg, mLst, mTup, mCons, mNil, mC, mUn, negD, mBin, mVar, R.bind, rd, p60, il1, il2, il3, il4, il5, il6, eB_loc, asgT, hSL]
  have AL : ∀ x ∈ SL, Alike x := by
    intro x hx
    rw [hSL] at hx
    simp only [List.mem_cons, List.not_mem_nil, or_false] at hx
    rcases hx with rfl | rfl | rfl | rfl | rfl | rfl | rfl | rfl | rfl | rfl | rfl | rfl | rfl | rfl
    · exact alike_eB oa
    · exact alike_eB ob
    · exact alike_len (by simp)
    · exact alike_len (by simp)
    · exact alike_int (by decide)
    · exact alike_int (by decide)
    · exact alike_bl (.inr ⟨rfl, _, rfl⟩)
    · exact alike_bl (.inl ⟨_, rfl, _, rfl⟩)
    · exact alike_flat (.inr (.inr (.inl ⟨_, rfl⟩)))
    · exact alike_len (by simp)
    · exact alike_flat (.inr (.inl ⟨_, rfl⟩))
    · exact alike_flat (.inl ⟨_, rfl⟩)
    · exact aP
    · exact alike_flat (.inr (.inr (.inr ⟨_, _, rfl⟩)))
  have SLl : SL.length < 16777216 := by rw [hSL]; simp
  have SLn : ∀ x ∈ SL, isLoc x = false := by
    intro x hx
    rw [hSL] at hx
    simp only [List.mem_cons, List.not_mem_nil, or_false] at hx
    rcases hx with rfl | rfl | rfl | rfl | rfl | rfl | rfl | rfl | rfl | rfl | rfl | rfl | rfl | rfl <;> first | exact eB_loc _ | rfl
  have LC : mLc (mSeq (mVar 5)) [6] (.nm 6) (mTB (mBin neD (mB (on1 repr1) (mCons (mCall 1 f_is_bound (mCons (mVar 6) (mNil))) (mNil))) (mB (on1 repr1) (mCons (mCall 1 f__law_is_bound (mCons (mVar 6) (mNil))) (mNil))))) (mVar 6)
      [some (.loc 0), some (eB a), some (eB b), x3, x4, some (.lst SL), none] h7 = .ok (.lst []) h7 := by
    have := mLc_pure (l := SL) (ms := mSeq (mVar 5)) (vs := [6]) (ds := [some (.loc 0), some (eB a), some (eB b), x3, x4, some (.lst SL), none]) (t := .nm 6) (tt := mTB (mBin neD (mB (on1 repr1) (mCons (mCall 1 f_is_bound (mCons (mVar 6) (mNil))) (mNil))) (mB (on1 repr1) (mCons (mCall 1 f__law_is_bound (mCons (mVar 6) (mNil))) (mNil))))) (te := mVar 6) (p := fun _ => false) (g := id) (h := h7) (by rfl) (fun x hx => by
      obtain ⟨v, v1, v2⟩ := AL x hx
      refine ⟨_, rfl, fun hh => ?_, fun hf => nomatch hf⟩
      cases v <;> simp [mTB, mBin, mB, mCall, mCons, mNil, mVar, R.bind, wipeD, v1, v2, rd, on1, repr1, neD, okE, eqv, isBl, okTrue, okFalse]) SLl
    rw [show SL.filter (fun _ => false) = [] from by simp [List.filter_eq_nil_iff]] at this
    exact this
  refine ⟨h7, ?_, s6.mono (by omega)⟩
  have E : b__law_right [some (.loc 0), none, none, none, none, none, none] h = .rt (.bl true) h7 := by
    simp only [bodyLR] at E4
    unfold b__law_right
    simp only [sSeq, E1, E2, E3, E4, E5, E6]
    simp [sRet, mBin, LC, mLst, mNil, R.bind, rd, eqD, okE, eqv, eqvs]
  simp [f__law_right, mkF, E, finV, s.len, s6.take]
theorem range_its (ds : Ev) (h : Hs) : mSrcA rng1 (mCons (mC (.int 6)) mNil) ds h = .ok (.its (rangeL 0 6)) h := by
  simp [mSrcA, mCons, mNil, mC, R.bind, rd, rng1]
def bodyLaw : SM := (sSeq (sAsg (.nm 2) (mCall 2 f__law_spins (mCons (mVar 0) (mCons (mVar 1) (mNil))))) (sFor (mSrcA rng1 (mCons (mC (.int 6)) (mNil))) (.nm 3) (sIf (mNotT (mTru (mCall 1 f__law_right (mCons (mVar 2) (mNil))))) (sRet (mC (.bl false))) (sPass))))
theorem turnLaw {ns : List Int} {i : Int} {x2 x3 : Option D} (h0 : 0 ≤ i) (h1 : i < 64) :
    ∃ y3 h', bodyLaw [some (.frz (ns.map .int)), some (.int i), x2, x3, none] [] = .nx [some (.frz (ns.map .int)), some (.int i), some (.loc 0), y3, none] h' := by
  obtain ⟨h1', e1, s1⟩ := spins_ok (ns := ns) h0 h1
  obtain ⟨ds', h2, e2, y3, hds, s2⟩ := for_inv (l := rangeL 0 6) (t := .nm 3) (body := sIf (mNotT (mTru (mCall 1 f__law_right (mCons (mVar 2) (mNil))))) (sRet (mC (.bl false))) (sPass)) (n0 := 1) (ds := [some (.frz (ns.map .int)), some (.int i), some (.loc 0), x3, none]) (h := h1')
    (fun j ds hh => ∃ y3 : Option D, ds = [some (.frz (ns.map .int)), some (.int i), some (.loc 0), y3, none] ∧ SP (60 * (j : Nat)) hh) ⟨x3, rfl, by simpa using s1⟩ (by
      rintro j x ds hh hx ⟨y3, rfl, sj⟩
      have hj : j < 6 := by
        have := (List.getElem?_eq_some_iff.mp hx).1
        simpa [rangeL] using this
      obtain ⟨h', e3, s3⟩ := law_right_ok sj (by omega)
      have : ∃ z, x = .int z := by
        have := List.mem_of_getElem? hx
        simp only [rangeL, List.mem_map] at this
        obtain ⟨z, _, rfl⟩ := this
        exact ⟨_, rfl⟩
      obtain ⟨z, rfl⟩ := this
      refine ⟨_, rfl, [some (.frz (ns.map .int)), some (.int i), some (.loc 0), some (.int z), none], h', ?_, some (.int z), ?_, ?_⟩
      · simp [sIf, mNotT, mTru, mCall, mCons, mNil, mVar, R.bind, e3, rd, truD, sPass]
      · simp [gcE]
      · rw [s3.take]
        exact s3.mono (by omega))
  subst hds
  refine ⟨y3, h2, ?_⟩
  have A : sAsg (.nm 2) (mCall 2 f__law_spins (mCons (mVar 0) (mCons (mVar 1) (mNil)))) [some (.frz (ns.map .int)), some (.int i), x2, x3, none] [] = .nx [some (.frz (ns.map .int)), some (.int i), some (.loc 0), x3, none] h1' := by
    simp [sAsg, mCall, mCons, mNil, mVar, R.bind, e1, asgT]
  unfold bodyLaw
  simp only [sSeq, A]
  unfold sFor
  rw [range_its]
  simp only [s1.len]
  exact e2
theorem answers : Answers := by
  intro ns hl
  obtain ⟨k, hk0, hk⟩ : ∃ k : Nat, k ≤ 3 ∧ mSrcA rng1 (mCons (mB (on2 max2) (mCons (mC (.int 1)) (mCons (mB (on2 min2) (mCons (mC (.int 3)) (mCons (mB (on1 len1) (mCons (mVar 0) (mNil))) (mNil)))) (mNil)))) (mNil)) [some (.frz (ns.map .int)), none, none, none, none] [] = .ok (.its (rangeL 0 k)) [] := by
    obtain ⟨x, hx, x1, x3⟩ : ∃ x : Int, x = (if (if (ns.length : Int) < 3 then (ns.length : Int) else 3) > 1 then (if (ns.length : Int) < 3 then (ns.length : Int) else 3) else 1) ∧ 1 ≤ x ∧ x ≤ 3 := by
      refine ⟨_, rfl, ?_, ?_⟩ <;> split <;> (try split) <;> omega
    refine ⟨x.toNat, by omega, ?_⟩
    have c1 : max2 (.int 1) (.int (if (ns.length : Int) < 3 then (ns.length : Int) else 3)) = some (.int x) := by rw [hx]; rfl
    have c2 : min2 (.int 3) (.int (ns.length : Int)) = some (.int (if (ns.length : Int) < 3 then (ns.length : Int) else 3)) := rfl
    have c3 : rng1 [.int x] = some (.its (rangeL 0 x.toNat)) := by
      rw [rng1, if_pos (by omega)]
    simp only [mSrcA, mCons, mNil, mB, mC, mVar, R.bind, List.getElem?_cons_zero, List.map_cons, List.map_nil, rd, on1, on2, len1, List.length_map, c2, c1, c3]
  obtain ⟨ds', h2, e2, x1, x3, hds, hh2⟩ := for_inv (l := rangeL 0 k) (t := .nm 1) (body := bodyLaw) (n0 := 0) (ds := [some (.frz (ns.map .int)), none, none, none, none]) (h := [])
    (fun j ds hh => ∃ x1 x3 : Option D, ds = [some (.frz (ns.map .int)), x1, none, x3, none] ∧ hh = []) ⟨none, none, rfl, rfl⟩ (by
      rintro j x ds hh hx ⟨x1, x3, rfl, rfl⟩
      obtain ⟨i, rfl, i0, i1⟩ : ∃ i : Int, x = .int i ∧ 0 ≤ i ∧ i < 64 := by
        have := List.mem_of_getElem? hx
        simp only [rangeL, List.mem_map, List.mem_range] at this
        obtain ⟨z, hz, rfl⟩ := this
        exact ⟨_, rfl, by omega, by omega⟩
      obtain ⟨y3, h', e3⟩ := turnLaw (ns := ns) (x2 := none) (x3 := x3) i0 i1
      refine ⟨_, rfl, _, h', e3, some (.int i), (gcE 0 [y3]).headD none, ?_, by simp⟩
      simp [gcE])
  subst hds hh2
  have E1 : sFor (mSrcA rng1 (mCons (mB (on2 max2) (mCons (mC (.int 1)) (mCons (mB (on2 min2) (mCons (mC (.int 3)) (mCons (mB (on1 len1) (mCons (mVar 0) (mNil))) (mNil)))) (mNil)))) (mNil))) (.nm 1) bodyLaw [some (.frz (ns.map .int)), none, none, none, none] [] = .nx [some (.frz (ns.map .int)), x1, none, x3, none] [] := by
    unfold sFor
    rw [hk]
    exact e2
  have o (a b : Int) (h : -100 < a ∧ a < 100 ∧ (b = 0 ∨ b = 1)) : okB (some (a, b)) := ⟨by omega, by omega, h.2.2⟩
  have c1 : f_bound_sum [.tup [.int 3, .int 1], .tup [.int 2, .int 0]] [] = .ok (.tup [.int 5, .int 0]) [] := bound_sum_ok (a := some (3, 1)) (b := some (2, 0)) (o _ _ (by decide)) (o _ _ (by decide)) []
  have c2 : f_bound_sum [.tup [.int 0, .int 0], .tup [.int 0, .int 0]] [] = .ok (.tup [.int 0, .int 0]) [] := bound_sum_ok (a := some (0, 0)) (b := some (0, 0)) (o _ _ (by decide)) (o _ _ (by decide)) []
  have c3 : f_bound_sum [.non, .tup [.int 1, .int 1]] [] = .ok .non [] := bound_sum_ok (a := none) (b := some (1, 1)) trivial (o _ _ (by decide)) []
  have c4 : f_turned [.tup [.int 0, .int 1]] [] = .ok (.tup [.int 0, .int 0]) [] := turned_ok (k := 0) (e := 1) (o _ _ (by decide)) []
  have c5 : f_turned [.tup [.int (-2), .int 0]] [] = .ok (.tup [.int 2, .int 1]) [] := turned_ok (k := -2) (e := 0) (o _ _ (by decide)) []
  have d1 : f_is_tighter [.tup [.int 3, .int 0], .tup [.int 3, .int 1]] [] = .ok (.bl true) [] := is_tighter_ok (a := some (3, 0)) (b := some (3, 1)) (o _ _ (by decide)) (o _ _ (by decide)) []
  have d2 : f_is_tighter [.tup [.int 3, .int 1], .tup [.int 4, .int 0]] [] = .ok (.bl true) [] := is_tighter_ok (a := some (3, 1)) (b := some (4, 0)) (o _ _ (by decide)) (o _ _ (by decide)) []
  have d3 : f_is_tighter [.non, .non] [] = .ok (.bl false) [] := is_tighter_ok (a := none) (b := none) trivial trivial []
  have d4 : f_is_tighter [.tup [.int 9, .int 1], .non] [] = .ok (.bl true) [] := is_tighter_ok (a := some (9, 1)) (b := none) (o _ _ (by decide)) trivial []
  have E : b_law [some (.frz (ns.map .int)), none, none, none, none] [] = .rt (.bl true) [] := by
    simp only [bodyLaw] at E1
    unfold b_law
    simp only [sSeq, E1]
    simp [sAsg, asgT, mLst, mTup, mCons, mNil, mC, mUn, negD, mCall, mVar, mBin, mTB, R.bind, rd, isLoc, c1, c2, c3, c4, c5, d1, d2, d3, d4, sIf, neD, eqD, okE, eqv, eqvs, isBl, sPass, sRet]
  exact ⟨[], by simp [f_law, mkF, E, finV]⟩
end W
theorem PySem.Challenge.cw_pauseplay_k01_whole_bounds_and_what_they_holds : PySem.Challenge.rw_pauseplay_k01_whole_bounds_and_what_they.Holds := by
  exact W.main W.answers

