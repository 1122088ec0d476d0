import PyProof.Rows.All
import HandS.Head3
import HandS.Words
import Wide.All
import OpenK.AllK
import Wide.FinOn
import KE.KStateDown
import HandS.ForMost
import HandS.ForExc
import HandS.More
import HandS.Defaults
import HandS.Flow
import HandS.Zip
import HandS.Walk
import HandS.Wide
import HandS.Gcd
import HandS.IsInst
import HandS.CallSlots
import HandS.TupAny
import HandS.TupMul
import HandS.TupLe
import HandS.TryMany
import HandS.Head0
import HandS.Head1
import HandS.Head2
import HandS.HeadEnd
import HandS.HeadHook1
import HandS.HeadHook2
import HandS.HeadHook3
import HandS.HeadHook4
import HandS.Lambda
import HandS.SlotsVar
import HandS.EndTab
import HandS.HeadWalk
import HandS.WideBits
import HandS.RaiseMore
import HandS.Style
import HandS.Star
import HandS.Iter
import KE.GoesEnum
import KE.GoesMore
import HandS.ExcOwn
import HandS.CallLocal
import KE.GoesEnumKw
import HandS.DictComp
import HandS.SlotsOwn
import KE.KExcSuper
import HandS.ExcInit
import HandS.ExcField
import KE.DataMinMax
import HandS.SortKw
import PyProof.TupleOfSeq
import PyProof.Rows.SortShellAny
import HandS.ExcValue
import HandS.Conv
import HandS.TupLen
import KE.LtData
import PyProof.AutoSeq1
import KE.DataCmp
import KE.KDictIter
import HandS.NoneIn
import HandS.List
import KE.SortKeyHeap
import HandS.ExcIs
import KE.KExcPX
import PyProof.Rows.FactsExc_KeyError
import KE.KExcInit
import PySem.Challenge.RW_pauseplay_k00_whole_errors_and_what_they
set_option Elab.async false
set_option linter.all false
set_option maxRecDepth 100000
namespace DL
open PySem
/-! ### the lambdas with parameters of the law's question, in their sequence; the defs with generator expressions -/
def genFns : List Str := []
def lamIn : Expr → List (Arguments × Expr × Scope)
  | .Tuple es _ _ => es.filterMap fun e => match e with
    | .Lambda p b s _ => some (p, b, s)
    | _ => none
  | _ => []
def lamFor : Stmt → List (Arguments × Expr × Scope)
  | .For _ it _ _ _ => lamIn it
  | .Assign _ (.Lambda p b s _) _ => [(p, b, s)]
  | _ => []
/-- the lambda that tells a min's key -/
def keyLam : Stmt → List (Arguments × Expr × Scope)
  | .Return (some (.Call _ _ ks _)) _ => ks.filterMap fun k => match k with
    | ⟨_, .Lambda p b s _, _⟩ => some (p, b, s)
    | _ => none
  | _ => []
def lamAll : List (Arguments × Expr × Scope) := (L2.defBody (PySem.Challenge.pw_pauseplay_k00_whole_errors_and_what_they.main.body.getD 28 (.Pass ⟨0, 0, 0, 0⟩))).flatMap lamFor ++ ([] : List Nat).flatMap fun i => (L2.defBody (PySem.Challenge.pw_pauseplay_k00_whole_errors_and_what_they.main.body.getD i (.Pass ⟨0, 0, 0, 0⟩))).flatMap keyLam
def lamTab (n : Nat) : Option (Arguments × Expr × Scope) := lamAll[n]?
end DL

set_option Elab.async false
set_option linter.all false
set_option maxRecDepth 100000
set_option maxHeartbeats 4000000
/-! DL: values as plain data, cells for what is changed; a deterministic reading of each construct over the hand layer. -/
namespace DL
open PySem PySem.Spec PyProof.Rows L2

/-! ### data -/
/-- a lambda with parameters, without names captured: the n-th of the text's -/
def LamF (a : Addr) (n : Nat) (q : Str) (c' : Addr) : HO := .ext fun h => ∃ (par : Arguments) (bd : Expr) (sc : Scope) (pm ctv : Value), lamTab n = some (par, bd, sc) ∧ h.get? a = some (PySem.W.kla_obj "<lambda>" q par bd sc [] pm c' ctv)
inductive D where
  | non | bl (b : Bool) | int (i : Int) | str (s : Str) | ty (n : String)
  | tup (l : List D) | lst (l : List D) | frz (l : List D)
  | dct (ks vs : List D)
  | loc (n : Nat)
  | gl (x : Str)
  | lam (f c : Nat) (q : Str)
  | tbl (x : Str)
  | obj (C : Str) (fs : List D)
  | dcf (ks vs : List D)
  | uns
  deriving Inhabited

abbrev Hs := List D
/-- what is told of a is told of an error's instance, of the own class at C -/
def ExS (φ : Heap → Prop) (C : Addr) (d : Option Addr) (a : Addr) : Prop := ∀ h, φ h → ∃ (oe : Obj) (vs : Array Value), h.get? a = some oe ∧ Zc (.ref C) d oe ∧ oe.data = .fields vs
abbrev Ev := List (Option D)

def kD : Key → D
  | .inl i => .int i
  | .inr s => .str s

/-- a list that is read alone: the script, a list of the module -/
def FrzL (K : PySem.W.Frag) (H : Hp) (as : List Addr) (a : Addr) (xs : List V) : Prop := (Rd H a (.lst xs) ∧ a ∉ as) ∨
  ∃ (o : Obj) (its : Array Value) (n : Nat), K.lookup a = some o ∧ o.cls = .type "list" ∧ o.dict = none ∧ o.data = .seq its n ∧ its.size ≤ sizeLine ∧ Vals xs its.toList
theorem FrzL.sq {K : PySem.W.Frag} {H : Hp} {as : List Addr} {a : Addr} {xs : List V} (h : FrzL K H as a xs) : SqL K H a xs := h.elim (fun z => .inl z.1) .inr
theorem FrzL.of {K : PySem.W.Frag} {H : Hp} {as : List Addr} {a : Addr} {xs : List V} (h : SqL K H a xs) (n : a ∉ as) : FrzL K H as a xs := h.elim (fun z => .inl ⟨z, n⟩) .inr

/-- the name of the code that a def makes: a lambda's, or (the defs of genFns) a generator expression's -/
def lamQ (x : Str) : Str := x ++ ".<locals>." ++ (if genFns.contains x then ("<genexpr>" : Str) else "<lambda>")
mutual
inductive RV (K : PySem.W.Frag) (H : Hp) (as : List Addr) : D → V → Prop
  | non : RV K H as .non .non
  | bl (b : Bool) : RV K H as (.bl b) (.bl b)
  | int (i : Int) : RV K H as (.int i) (.int i)
  | str (s : Str) : RV K H as (.str s) (.str s)
  | ty (n : String) : RV K H as (.ty n) (.ty n)
  | gl (x : Str) : RV K H as (.gl x) (.ref (He.ga K x))
  | lam {a c' : Addr} {n k : Nat} {q : Str} : H a = some (LamF a n q c') → H c' = some (LamX.CodeO c' q) → a ∉ as → c' ∉ as → RV K H as (.lam n k q) (.ref a)
  | loc {n : Nat} {a : Addr} : as[n]? = some a → RV K H as (.loc n) (.ref a)
  | exi {a : Addr} {x : Str} {φ : Heap → Prop} {d : Option Addr} : H a = some (.ext φ) → ExS φ (He.ga K x) d a → a ∉ as → (∀ dx, d = some dx → dx ∉ as ∧ ∃ fs, H dx = some (.xd fs)) → RV K H as (.tbl x) (.ref a)
  | tup {a : Addr} {vs : List V} {ds : List D} : SqT K H a vs → RVs K H as ds vs → RV K H as (.tup ds) (.ref a)
  | lst {a : Addr} {vs : List V} {ds : List D} : H a = some (.lst vs) → a ∉ as → RVs K H as ds vs → RV K H as (.lst ds) (.ref a)
  | frz {a : Addr} {vs : List V} {ds : List D} : FrzL K H as a vs → RVs K H as ds vs → RV K H as (.frz ds) (.ref a)
  | dct {a : Addr} {kvs : List (Key × V)} {ks ds : List D} : H a = some (.dK kvs) → a ∉ as → kvs.map (fun p => kD p.1) = ks → RVs K H as ds (kvs.map (fun p => p.2)) → RV K H as (.dct ks ds) (.ref a)
inductive RVs (K : PySem.W.Frag) (H : Hp) (as : List Addr) : List D → List V → Prop
  | nil : RVs K H as [] []
  | cons {d : D} {v : V} {ds : List D} {vs : List V} : RV K H as d v → RVs K H as ds vs → RVs K H as (d :: ds) (v :: vs)
end

abbrev RD (K : PySem.W.Frag) (H : Hp) (as : List Addr) : D → V → Prop := RV K H as
theorem RV.val {K : PySem.W.Frag} {H : Hp} {as : List Addr} {d : D} {v : V} (r : RV K H as d v) : RD K H as d v := r

abbrev RDs (K : PySem.W.Frag) (H : Hp) (as : List Addr) : List D → List V → Prop := Paired (RD K H as)

/-- the variables of an instance: told, or not yet there -/
abbrev RFs (K : PySem.W.Frag) (H : Hp) (as : List Addr) : List D → List (Option V) → Prop := Paired fun d ov => d = .uns ∨ ∃ v, ov = some v ∧ RV K H as d v
/-- what stands in a cell -/
inductive CellR (K : PySem.W.Frag) (H : Hp) (as : List Addr) : D → Addr → Prop
  | lst {a : Addr} {vs : List V} {ds : List D} : H a = some (.lst vs) → RVs K H as ds vs → CellR K H as (.lst ds) a
  | dct {a : Addr} {kvs : List (Key × V)} {ks ds : List D} : H a = some (.dK kvs) → kvs.map (fun p => kD p.1) = ks → RVs K H as ds (kvs.map (fun p => p.2)) → CellR K H as (.dct ks ds) a
  | dcf {a : Addr} {o : Obj} {kvs : List (Key × V)} {ks ds : List D} : H a = some (.frz o (.dK kvs)) → kvs.map (fun p => kD p.1) = ks → RVs K H as ds (kvs.map (fun p => p.2)) → CellR K H as (.dcf ks ds) a
  | tbl {a : Addr} {x : Str} {ps : Array Value} : a = (He.cT K (x, none)).2 → H a = some (.tbl ps) → TriplesOk ps.toList → (∀ (pos : Pos) (cv : Value), codeAmong pos ps.toList = some cv → ∃ c, cv = .ref c ∧ H c = some (LamX.CodeO c (lamQ x)) ∧ c ∉ as) → CellR K H as (.tbl x) a
  | fnc {a : Addr} {o : Obj} {φ : Heap → Prop} {n : Nat} {q : Str} : H a = some (.frz o (.ext φ)) → CellR K H as (.lam n 1 q) a
  | rng {a : Addr} {o : Obj} {n : Nat} {q : Str} : H a = some (.frz o (.rng 0 (n : Nat))) → CellR K H as (.lam n 2 q) a
  | obj {a dx : Addr} {C : Str} {vs : List (Option V)} {ds : List D} : SlAt H a (He.ga K C) dx vs → dx ∉ as → RFs K H as ds vs → CellR K H as (.obj C ds) a

structure HeapR (K : PySem.W.Frag) (H : Hp) (as : List Addr) (h : Hs) : Prop where
  len : as.length = h.length
  nd : as.Nodup
  at_ : ∀ (n : Nat) (d : D) (a : Addr), h[n]? = some d → as[n]? = some a → CellR K H as d a

abbrev EvR (K : PySem.W.Frag) (H : Hp) (as : List Addr) : Ev → L2.St → Prop := Paired fun (od : Option D) (ov : Option V) => ∀ d, od = some d → ∃ v, ov = some v ∧ RD K H as d v

structure StR (K : PySem.W.Frag) (H : Hp) (as : List Addr) (ds : Ev) (h : Hs) (σ : L2.St) : Prop where
  env : EvR K H as ds σ
  heap : HeapR K H as h

/-! ### what stays -/
def isT : HO → Bool
  | .tup _ => true
  | .frz _ _ => true
  | _ => false
def isTb : HO → Bool
  | .tbl _ => true
  | _ => false
/-- all but the cells stays; so do tuples and frozen things (of tables nothing is said) -/
def Fr (as : List Addr) (H H' : Hp) : Prop := ∀ a o, H a = some o → isTb o = false → (a ∈ as → isT o = true) → H' a = some o
theorem Fr.refl {as : List Addr} {H : Hp} : Fr as H H := fun _ _ h _ _ => h
theorem Fr.trans {as : List Addr} {H H1 H2 : Hp} (x : Fr as H H1) (y : Fr as H1 H2) : Fr as H H2 := fun a o h b c => y a o (x a o h b c) b c
theorem Fr.of_same {as : List Addr} {H H' : Hp} (x : Same H H') : Fr as H H' := fun a o h _ _ => x a o h
theorem same_upd {H : Hp} {p : Addr} {o : HO} (h : H p = none) : Same H (upd H p o) := fun a u e => by rw [upd_ne (ne_of_none e h)]; exact e
/-- cells only come, at places that held nothing -/
structure Grow (as : List Addr) (H : Hp) (as' : List Addr) (H' : Hp) : Prop where
  pre : as <+: as'
  new : ∀ a ∈ as', a ∈ as ∨ ∀ o, H a = some o → isTb o = true
  fr : Fr as H H'
theorem Grow.refl {as : List Addr} {H : Hp} : Grow as H as H := ⟨List.prefix_refl _, fun _ h => .inl h, .refl⟩
theorem Grow.of_fr {as : List Addr} {H H' : Hp} (h : Fr as H H') : Grow as H as H' := ⟨List.prefix_refl _, fun _ h => .inl h, h⟩
theorem Grow.of_same {as : List Addr} {H H' : Hp} (h : Same H H') : Grow as H as H' := .of_fr (.of_same h)
theorem Grow.trans {as as1 as2 : List Addr} {H H1 H2 : Hp} (x : Grow as H as1 H1) (y : Grow as1 H1 as2 H2) : Grow as H as2 H2 := by
  refine ⟨x.pre.trans y.pre, fun a ha => ?_, fun a o h b c => ?_⟩
  · rcases y.new a ha with z | z
    · exact x.new a z
    · by_cases hm : a ∈ as
      · exact .inl hm
      · refine .inr fun o e => ?_
        cases hb : isTb o with
        | true => rfl
        | false =>
          have := z o (x.fr a o e hb fun q => absurd q hm)
          rw [hb] at this; cases this
  · refine y.fr a o (x.fr a o h b c) b fun hm => ?_
    rcases x.new a hm with z | z
    · exact c z
    · have := z o h
      rw [b] at this; cases this

section
variable {K : PySem.W.Frag} {H H' : Hp} {as as' : List Addr}
theorem sqT_fr (hf : Fr as H H') {a : Addr} {vs : List V} (h : SqT K H a vs) : SqT K H' a vs := by
  rcases h with (h | ⟨o, h⟩) | h
  · exact .inl (.inl (hf _ _ h rfl fun _ => rfl))
  · exact .inl (.inr ⟨o, hf _ _ h rfl fun _ => rfl⟩)
  · exact .inr h
theorem pre_get {α : Type} {l l' : List α} (h : l <+: l') {n : Nat} {x : α} (e : l[n]? = some x) : l'[n]? = some x := by
  obtain ⟨t, rfl⟩ := h
  rw [List.getElem?_append_left (List.getElem?_eq_some_iff.mp e).1]
  exact e
theorem Grow.notin (g : Grow as H as' H') {a : Addr} {o : HO} (h : H a = some o) (t : isTb o = false) (n : a ∉ as) : a ∉ as' := fun z => by
  rcases g.new _ z with q | q
  · exact n q
  · have := q o h
    rw [t] at this; cases this
theorem frzL_gr (g : Grow as H as' H') {a : Addr} {vs : List V} (h : FrzL K H as a vs) : FrzL K H' as' a vs := by
  rcases h with ⟨h | ⟨o, h⟩, n⟩ | h
  · exact .inl ⟨.inl (g.fr _ _ h rfl fun z => absurd z n), g.notin h rfl n⟩
  · exact .inl ⟨.inr ⟨o, g.fr _ _ h rfl fun _ => rfl⟩, g.notin h rfl n⟩
  · exact .inr h
mutual
theorem RV.grow (g : Grow as H as' H') : ∀ {d : D} {v : V}, RV K H as d v → RV K H' as' d v
  | _, _, .non => .non
  | _, _, .bl b => .bl b
  | _, _, .int i => .int i
  | _, _, .str s => .str s
  | _, _, .ty n => .ty n
  | _, _, .gl n => .gl n
  | _, _, .lam h h2 n n2 => .lam (g.fr _ _ h rfl fun z => absurd z n) (g.fr _ _ h2 rfl fun z => absurd z n2) (g.notin h rfl n) (g.notin h2 rfl n2)
  | _, _, .loc e => .loc (pre_get g.pre e)
  | _, _, .exi h x n y => .exi (g.fr _ _ h rfl fun z => absurd z n) x (g.notin h rfl n) fun dx e => let ⟨m, fs, q⟩ := y dx e; ⟨g.notin q rfl m, fs, g.fr _ _ q rfl fun z => absurd z m⟩
  | _, _, .tup h r => .tup (sqT_fr g.fr h) (RVs.grow g r)
  | _, _, .lst h n r => .lst (g.fr _ _ h rfl fun z => absurd z n) (g.notin h rfl n) (RVs.grow g r)
  | _, _, .frz h r => .frz (frzL_gr g h) (RVs.grow g r)
  | _, _, .dct h n e r => .dct (g.fr _ _ h rfl fun z => absurd z n) (g.notin h rfl n) e (RVs.grow g r)
theorem RVs.grow (g : Grow as H as' H') : ∀ {ds : List D} {vs : List V}, RVs K H as ds vs → RVs K H' as' ds vs
  | _, _, .nil => .nil
  | _, _, .cons h t => .cons (RV.grow g h) (RVs.grow g t)
end
theorem RDs.grow (g : Grow as H as' H') : ∀ {ds : List D} {vs : List V}, RDs K H as ds vs → RDs K H' as' ds vs
  | _, _, .nil => .nil
  | _, _, .cons h t => .cons (RV.grow g h) (RDs.grow g t)
theorem RFs.grow (g : Grow as H as' H') : ∀ {ds : List D} {vs : List (Option V)}, RFs K H as ds vs → RFs K H' as' ds vs
  | _, _, .nil => .nil
  | _, _, .cons h t => .cons (h.elim .inl fun ⟨v, e, r⟩ => .inr ⟨v, e, r.grow g⟩) (RFs.grow g t)
theorem EvR.grow (g : Grow as H as' H') : ∀ {ds : Ev} {σ : L2.St}, EvR K H as ds σ → EvR K H' as' ds σ
  | _, _, .nil => .nil
  | _, _, .cons h t => .cons (fun d e => let ⟨v, e1, r⟩ := h d e; ⟨v, e1, r.grow g⟩) (EvR.grow g t)
theorem RV.same (hs : Same H H') {d : D} {v : V} (r : RV K H as d v) : RV K H' as d v := r.grow (.of_same hs)
theorem RVs.same (hs : Same H H') {d : List D} {v : List V} (r : RVs K H as d v) : RVs K H' as d v := r.grow (.of_same hs)
theorem RV.fr (hf : Fr as H H') {d : D} {v : V} (r : RV K H as d v) : RV K H' as d v := r.grow (.of_fr hf)
theorem RVs.fr (hf : Fr as H H') {d : List D} {v : List V} (r : RVs K H as d v) : RVs K H' as d v := r.grow (.of_fr hf)
theorem RDs.fr (hf : Fr as H H') {d : List D} {v : List V} (r : RDs K H as d v) : RDs K H' as d v := r.grow (.of_fr hf)
/-- a cell's own object stays: so does what is told of it -/
theorem CellR.keep (g : Grow as H as' H') {d : D} {a : Addr} (hH : H' a = H a) (r : CellR K H as d a) : CellR K H' as' d a := by
  cases r with
  | lst h r => exact .lst (hH.trans h) (r.grow g)
  | dct h e r => exact .dct (hH.trans h) e (r.grow g)
  | dcf h e r => exact .dcf (hH.trans h) e (r.grow g)
  | fnc h => exact .fnc (hH.trans h)
  | rng h => exact .rng (hH.trans h)
  | tbl ea h t c => exact .tbl ea (hH.trans h) t fun pos cv e => let ⟨c, e1, e2, e3⟩ := c pos cv e; ⟨c, e1, g.fr _ _ e2 rfl fun z => absurd z e3, g.notin e2 rfl e3⟩
  | @obj a dx C vs ds h n r =>
    refine .obj (dx := dx) ⟨g.fr _ _ h.1 rfl fun z => absurd z n, h.2.1, h.2.2.elim (fun z => .inl (hH.trans z)) fun z => .inr ⟨z.1, hH.trans z.2⟩⟩ (g.notin h.1 rfl n) (r.grow g)
theorem CellR.there {d : D} {a : Addr} (r : CellR K H as d a) : ∃ o, H a = some o ∧ isTb o = (match d with | .tbl _ => true | _ => false) ∧ isT o = (match d with | .dcf _ _ => true | .lam _ _ _ => true | _ => false) := by
  cases r with
  | lst h r => exact ⟨_, h, rfl, rfl⟩
  | dct h e r => exact ⟨_, h, rfl, rfl⟩
  | dcf h e r => exact ⟨_, h, rfl, rfl⟩
  | tbl ea h t c => exact ⟨_, h, rfl, rfl⟩
  | fnc h => exact ⟨_, h, rfl, rfl⟩
  | rng h => exact ⟨_, h, rfl, rfl⟩
  | obj h n r => rcases h.2.2 with z | z; exact ⟨_, z, rfl, rfl⟩; exact ⟨_, z.2, rfl, rfl⟩
theorem CellR.same (hs : Same H H') {d : D} {a : Addr} (r : CellR K H as d a) : CellR K H' as d a := by
  obtain ⟨o, e, _⟩ := r.there
  exact r.keep (.of_same hs) ((hs _ _ e).trans e.symm)
theorem HeapR.same (hs : Same H H') {h : Hs} (r : HeapR K H as h) : HeapR K H' as h := ⟨r.len, r.nd, fun n d a e1 e2 => (r.at_ n d a e1 e2).same hs⟩
theorem HeapR.get {h : Hs} (r : HeapR K H as h) {n : Nat} {a : Addr} (e : as[n]? = some a) : ∃ d, h[n]? = some d ∧ CellR K H as d a := by
  have hl : n < as.length := (List.getElem?_eq_some_iff.mp e).1
  have hl2 : n < h.length := by rw [← r.len]; exact hl
  exact ⟨h[n], List.getElem?_eq_getElem hl2, r.at_ n _ a (List.getElem?_eq_getElem hl2) e⟩
theorem HeapR.there {h : Hs} (r : HeapR K H as h) {a : Addr} (ha : a ∈ as) : ∃ o, H a = some o := by
  obtain ⟨n, hn, e⟩ := List.getElem_of_mem ha
  obtain ⟨d, _, c⟩ := r.get (n := n) (a := a) (by rw [List.getElem?_eq_getElem hn, e])
  exact ⟨_, c.there.choose_spec.1⟩
theorem HeapR.notin {h : Hs} (r : HeapR K H as h) {p : Addr} (hp : H p = none) : p ∉ as := fun z => by
  obtain ⟨o, e⟩ := r.there z
  rw [hp] at e; cases e
theorem StR.same {ds : Ev} {h : Hs} {σ : L2.St} (hs : Same H H') (s : StR K H as ds h σ) : StR K H' as ds h σ := ⟨s.env.grow (.of_fr (.of_same hs)), s.heap.same hs⟩
theorem RVs.length : ∀ {ds : List D} {vs : List V}, RVs K H as ds vs → ds.length = vs.length
  | _, _, .nil => rfl
  | _, _, .cons _ t => by simp [RVs.length t]
theorem RVs.get : ∀ {ds : List D} {vs : List V} {i : Nat} {d : D}, RVs K H as ds vs → ds[i]? = some d → ∃ v, vs[i]? = some v ∧ RV K H as d v
  | _, _, _, _, .nil, e => by simp at e
  | _, _, 0, _, .cons h _, e => by simp at e; subst e; exact ⟨_, rfl, h⟩
  | _, _, i + 1, d, .cons _ t, e => by
    obtain ⟨v, h1, h2⟩ := RVs.get (i := i) (d := d) t (by simpa using e)
    exact ⟨v, by simpa using h1, h2⟩
theorem RVs.get' : ∀ {ds : List D} {vs : List V} {i : Nat} {v : V}, RVs K H as ds vs → vs[i]? = some v → ∃ d, ds[i]? = some d ∧ RV K H as d v
  | _, _, _, _, .nil, e => by simp at e
  | _, _, 0, _, .cons h _, e => by simp at e; subst e; exact ⟨_, rfl, h⟩
  | _, _, i + 1, d, .cons _ t, e => by
    obtain ⟨v, h1, h2⟩ := RVs.get' (i := i) t (by simpa using e)
    exact ⟨v, by simpa using h1, h2⟩
theorem RVs.append : ∀ {ds es : List D} {vs us : List V}, RVs K H as ds vs → RVs K H as es us → RVs K H as (ds ++ es) (vs ++ us)
  | _, _, _, _, .nil, r => r
  | _, _, _, _, .cons h t, r => .cons h (RVs.append t r)
theorem RVs.take : ∀ {ds : List D} {vs : List V} (n : Nat), RVs K H as ds vs → RVs K H as (ds.take n) (vs.take n)
  | _, _, 0, _ => by simp; exact .nil
  | _, _, _ + 1, .nil => .nil
  | _, _, n + 1, .cons h t => .cons h (RVs.take n t)
theorem RVs.drop : ∀ {ds : List D} {vs : List V} (n : Nat), RVs K H as ds vs → RVs K H as (ds.drop n) (vs.drop n)
  | _, _, 0, r => r
  | _, _, _ + 1, .nil => .nil
  | _, _, n + 1, .cons h t => RVs.drop n t
theorem RVs.set {d : D} {v : V} (r : RV K H as d v) : ∀ {ds : List D} {vs : List V} (n : Nat), RVs K H as ds vs → RVs K H as (ds.set n d) (vs.set n v)
  | _, _, _, .nil => .nil
  | _, _, 0, .cons h t => .cons r t
  | _, _, n + 1, .cons h t => .cons h (RVs.set r n t)
end
end DL

set_option Elab.async false
set_option linter.all false
set_option maxRecDepth 100000
set_option maxHeartbeats 4000000
namespace DL
open PySem PySem.Spec PyProof.Rows L2

/-! ### results -/
inductive R (α : Type) where
  | ok (a : α) (h : Hs)
  | ex (c : Str) (p : Option D) (h : Hs)
  | no
def R.bind {α β : Type} (r : R α) (k : α → Hs → R β) : R β := match r with
  | .ok a h => k a h
  | .ex c p h => .ex c p h
  | .no => .no
abbrev M (α : Type) := Ev → Hs → R α
inductive SR where
  | nx (ds : Ev) (h : Hs)
  | rt (d : D) (h : Hs)
  | bk (ds : Ev) (h : Hs)
  | ct (ds : Ev) (h : Hs)
  | ex (c : Str) (p : Option D) (ds : Ev) (h : Hs)
  | no
abbrev SM := Ev → Hs → SR
/-- the field that an error's class keeps -/
def fieldOf (c : Str) : Str :=
  if c = "InvalidNumber" then "given" else if c = "UnknownName" then "asked" else if c = "ParseError" then "spot" else if c = "NothingToUndo" then "wanted" else if c = "TooMany" then "limit" else "reason"
def ExR (K : PySem.W.Frag) (mg : Str → Option Value) (H : Hp) (as : List Addr) (c : Str) (p : Option D) (cls : Value) (dx : Option Addr) : Prop :=
  mg c = some cls ∧ (match p with
    | none => True
    | some d => ∃ a v, dx = some a ∧ H a = some (.xd [(fieldOf c, v)]) ∧ RV K H as d v)

section
variable (K : PySem.W.Frag) (mg : Str → Option Value) (W : WX)
def PostE (as : List Addr) (σ : L2.St) (H : Hp) (r : R D) (Q : VK) : Prop := match r with
  | .ok d h => ∀ v H' as', Grow as H as' H' → RD K H' as' d v → HeapR K H' as' h → Q v H'
  | .ex c p h => ∀ cls dx H' as', Grow as H as' H' → HeapR K H' as' h → ExR K mg H' as' c p cls dx → W cls dx σ H'
  | .no => False
def PostA (as : List Addr) (σ : L2.St) (H : Hp) (r : R (List D)) (Q : List V → Hp → Prop) : Prop := match r with
  | .ok d h => ∀ v H' as', Grow as H as' H' → RDs K H' as' d v → HeapR K H' as' h → Q v H'
  | .ex c p h => ∀ cls dx H' as', Grow as H as' H' → HeapR K H' as' h → ExR K mg H' as' c p cls dx → W cls dx σ H'
  | .no => False
def PostT (as : List Addr) (σ : L2.St) (H : Hp) (r : R Bool) (Q : Bool → Hp → Prop) : Prop := match r with
  | .ok b h => ∀ H' as', Grow as H as' H' → HeapR K H' as' h → Q b H'
  | .ex c p h => ∀ cls dx H' as', Grow as H as' H' → HeapR K H' as' h → ExR K mg H' as' c p cls dx → W cls dx σ H'
  | .no => False
def teM (m : M D) : TE := fun σ H Q => ∃ as ds h, StR K H as ds h σ ∧ PostE K mg W as σ H (m ds h) Q
def taM (m : M (List D)) : TA := fun σ H Q => ∃ as ds h, StR K H as ds h σ ∧ PostA K mg W as σ H (m ds h) Q
def ttM (m : M Bool) : TT := fun σ H Q => ∃ as ds h, StR K H as ds h σ ∧ PostT K mg W as σ H (m ds h) Q
def PostS (as : List Addr) (H : Hp) (r : SR) (E : Ends) : Prop := match r with
  | .nx ds h => ∀ σ' H' as', Grow as H as' H' → StR K H' as' ds h σ' → E.nx σ' H'
  | .rt d h => ∀ v H' as', Grow as H as' H' → RD K H' as' d v → HeapR K H' as' h → E.rt v H'
  | .bk ds h => ∀ σ' H' as', Grow as H as' H' → StR K H' as' ds h σ' → E.bk σ' H'
  | .ct ds h => ∀ σ' H' as', Grow as H as' H' → StR K H' as' ds h σ' → E.ct σ' H'
  | .ex c p ds h => ∀ σ' cls dx H' as', Grow as H as' H' → StR K H' as' ds h σ' → ExR K mg H' as' c p cls dx → W cls dx σ' H'
  | .no => False
def tsM (m : SM) : TS := fun E σ H => ∃ as ds h, StR K H as ds h σ ∧ PostS K mg W as H (m ds h) E
end
section
variable {K : PySem.W.Frag} {mg : Str → Option Value} {W : WX} {as as' : List Addr} {σ : L2.St} {H H' : Hp}
theorem PostE.grow {r : R D} {Q : VK} (f : Grow as H as' H') (p : PostE K mg W as σ H r Q) : PostE K mg W as' σ H' r Q := by
  cases r with
  | ok d h => exact fun v H2 as2 f2 => p v H2 as2 (f.trans f2)
  | ex c q h => exact fun cls dx H2 as2 f2 => p cls dx H2 as2 (f.trans f2)
  | no => exact p
theorem PostA.grow {r : R (List D)} {Q : List V → Hp → Prop} (f : Grow as H as' H') (p : PostA K mg W as σ H r Q) : PostA K mg W as' σ H' r Q := by
  cases r with
  | ok d h => exact fun v H2 as2 f2 => p v H2 as2 (f.trans f2)
  | ex c q h => exact fun cls dx H2 as2 f2 => p cls dx H2 as2 (f.trans f2)
  | no => exact p
theorem PostT.grow {r : R Bool} {Q : Bool → Hp → Prop} (f : Grow as H as' H') (p : PostT K mg W as σ H r Q) : PostT K mg W as' σ H' r Q := by
  cases r with
  | ok d h => exact fun H2 as2 f2 => p H2 as2 (f.trans f2)
  | ex c q h => exact fun cls dx H2 as2 f2 => p cls dx H2 as2 (f.trans f2)
  | no => exact p
theorem PostS.grow {r : SR} {E : Ends} (g : Grow as H as' H') (p : PostS K mg W as H r E) : PostS K mg W as' H' r E := by
  cases r with
  | nx ds h => exact fun σ2 H2 as2 g2 => p σ2 H2 as2 (g.trans g2)
  | rt d h => exact fun σ2 H2 as2 g2 => p σ2 H2 as2 (g.trans g2)
  | bk ds h => exact fun σ2 H2 as2 g2 => p σ2 H2 as2 (g.trans g2)
  | ct ds h => exact fun σ2 H2 as2 g2 => p σ2 H2 as2 (g.trans g2)
  | ex c q ds h => exact fun σ2 cls dx H2 as2 g2 => p σ2 cls dx H2 as2 (g.trans g2)
  | no => exact p
/-- an expression first, then more: for an expression -/
theorem PostE.bindE {r : R D} {k : D → Hs → R D} {Q Q' : VK} (p : PostE K mg W as σ H (r.bind k) Q)
    (n : ∀ d h v H1 as1, Grow as H as1 H1 → RD K H1 as1 d v → HeapR K H1 as1 h → PostE K mg W as1 σ H1 (k d h) Q → Q' v H1) : PostE K mg W as σ H r Q' := by
  cases r with
  | ok d h => exact fun v H1 as1 f r1 hr => n d h v H1 as1 f r1 hr (PostE.grow f p)
  | ex c q h => exact p
  | no => exact p
theorem PostE.bindA {r : R (List D)} {k : List D → Hs → R D} {Q : VK} {Q' : List V → Hp → Prop} (p : PostE K mg W as σ H (r.bind k) Q)
    (n : ∀ d h v H1 as1, Grow as H as1 H1 → RDs K H1 as1 d v → HeapR K H1 as1 h → PostE K mg W as1 σ H1 (k d h) Q → Q' v H1) : PostA K mg W as σ H r Q' := by
  cases r with
  | ok d h => exact fun v H1 as1 f r1 hr => n d h v H1 as1 f r1 hr (PostE.grow f p)
  | ex c q h => exact p
  | no => exact p
theorem PostE.bindT {r : R Bool} {k : Bool → Hs → R D} {Q : VK} {Q' : Bool → Hp → Prop} (p : PostE K mg W as σ H (r.bind k) Q)
    (n : ∀ b h H1 as1, Grow as H as1 H1 → HeapR K H1 as1 h → PostE K mg W as1 σ H1 (k b h) Q → Q' b H1) : PostT K mg W as σ H r Q' := by
  cases r with
  | ok d h => exact fun H1 as1 f hr => n d h H1 as1 f hr (PostE.grow f p)
  | ex c q h => exact p
  | no => exact p
theorem PostT.bindE {r : R D} {k : D → Hs → R Bool} {Q : Bool → Hp → Prop} {Q' : VK} (p : PostT K mg W as σ H (r.bind k) Q)
    (n : ∀ d h v H1 as1, Grow as H as1 H1 → RD K H1 as1 d v → HeapR K H1 as1 h → PostT K mg W as1 σ H1 (k d h) Q → Q' v H1) : PostE K mg W as σ H r Q' := by
  cases r with
  | ok d h => exact fun v H1 as1 f r1 hr => n d h v H1 as1 f r1 hr (PostT.grow f p)
  | ex c q h => exact p
  | no => exact p
theorem PostT.bindT {r : R Bool} {k : Bool → Hs → R Bool} {Q Q' : Bool → Hp → Prop} (p : PostT K mg W as σ H (r.bind k) Q)
    (n : ∀ b h H1 as1, Grow as H as1 H1 → HeapR K H1 as1 h → PostT K mg W as1 σ H1 (k b h) Q → Q' b H1) : PostT K mg W as σ H r Q' := by
  cases r with
  | ok d h => exact fun H1 as1 f hr => n d h H1 as1 f hr (PostT.grow f p)
  | ex c q h => exact p
  | no => exact p
theorem PostA.bindE {r : R D} {k : D → Hs → R (List D)} {Q : List V → Hp → Prop} {Q' : VK} (p : PostA K mg W as σ H (r.bind k) Q)
    (n : ∀ d h v H1 as1, Grow as H as1 H1 → RD K H1 as1 d v → HeapR K H1 as1 h → PostA K mg W as1 σ H1 (k d h) Q → Q' v H1) : PostE K mg W as σ H r Q' := by
  cases r with
  | ok d h => exact fun v H1 as1 f r1 hr => n d h v H1 as1 f r1 hr (PostA.grow f p)
  | ex c q h => exact p
  | no => exact p
theorem PostA.bindA {r : R (List D)} {k : List D → Hs → R (List D)} {Q Q' : List V → Hp → Prop} (p : PostA K mg W as σ H (r.bind k) Q)
    (n : ∀ d h v H1 as1, Grow as H as1 H1 → RDs K H1 as1 d v → HeapR K H1 as1 h → PostA K mg W as1 σ H1 (k d h) Q → Q' v H1) : PostA K mg W as σ H r Q' := by
  cases r with
  | ok d h => exact fun v H1 as1 f r1 hr => n d h v H1 as1 f r1 hr (PostA.grow f p)
  | ex c q h => exact p
  | no => exact p
end

/-! ### the judgements -/
abbrev DE (X : Cx) (W : WX) (e : Expr) (m : M D) : Prop := PE X e (teM X.K X.mg W m)
abbrev DT (X : Cx) (W : WX) (e : Expr) (m : M Bool) : Prop := PT X e (ttM X.K X.mg W m)
abbrev DW (X : Cx) (W : WX) (e : Expr) (m : M Bool) : Prop := PW X e (ttM X.K X.mg W m)
abbrev DA (X : Cx) (W : WX) (es : List Expr) (m : M (List D)) : Prop := PA X es (taM X.K X.mg W m)
abbrev DS (X : Cx) (W : WX) (st : Stmt) (m : SM) : Prop := PS X st (tsM X.K X.mg W m)
abbrev DSs (X : Cx) (W : WX) (sts : List Stmt) (m : SM) : Prop := PSs X sts (tsM X.K X.mg W m)
section
variable {X : Cx} {W : WX} {e : Expr} {es : List Expr} {st : Stmt} {sts : List Stmt}
theorem PE.imp {t t' : TE} (p : PE X e t) (h : ∀ σ H Q, t' σ H Q → t σ H Q) : PE X e t' := ⟨fun pins s σ H Q I q => p.run pins s σ H Q I (h σ H Q q)⟩
theorem PT.imp {t t' : TT} (p : PT X e t) (h : ∀ σ H Q, t' σ H Q → t σ H Q) : PT X e t' := ⟨fun pins s σ H Q I q => p.run pins s σ H Q I (h σ H Q q)⟩
theorem PW.imp {t t' : TT} (p : PW X e t) (h : ∀ σ H Q, t' σ H Q → t σ H Q) : PW X e t' := ⟨fun wh pins s σ H Q I q => p.run wh pins s σ H Q I (h σ H Q q)⟩
theorem PA.imp {t t' : TA} (p : PA X es t) (h : ∀ σ H Q, t' σ H Q → t σ H Q) : PA X es t' := ⟨fun pos pins s σ H Q I q => p.run pos pins s σ H Q I (h σ H Q q)⟩
theorem PS.imp {t t' : TS} (p : PS X st t) (h : ∀ D σ H, t' D σ H → t D σ H) : PS X st t' := ⟨fun pins s σ H Q I q => p.run pins s σ H Q I (h Q σ H q)⟩
theorem PSs.imp {t t' : TS} (p : PSs X sts t) (h : ∀ D σ H, t' D σ H → t D σ H) : PSs X sts t' := ⟨fun pins s σ H Q I q => p.run pins s σ H Q I (h Q σ H q)⟩
end

/-! ### names, constants -/
def mVar (i : Nat) : M D := fun ds h => match ds[i]? with
  | some (some d) => .ok d h
  | _ => .no
def mC (d : D) : M D := fun _ h => .ok d h
section
variable {X : Cx} {W : WX} {pos : Pos} {a b c : Expr} {ma mb mc : M D}
theorem EvR.get {K : PySem.W.Frag} {H : Hp} {as : List Addr} : ∀ {ds : Ev} {σ : L2.St} {i : Nat} {d : D}, EvR K H as ds σ → ds[i]? = some (some d) → ∃ v, σ[i]? = some (some v) ∧ RD K H as d v
  | _, _, _, _, .nil, e => by simp at e
  | _, _, 0, d, .cons h _, e => by
    simp at e
    obtain ⟨v, e1, r⟩ := h d e
    exact ⟨v, by simp [e1], r⟩
  | _, _, i + 1, d, .cons _ t, e => by
    obtain ⟨v, h1, h2⟩ := EvR.get (i := i) (d := d) t (by simpa using e)
    exact ⟨v, by simpa using h1, h2⟩
theorem de_var (i : Nat) {x : Str} (hN : X.N[i]? = some x := by rfl) (hv : Vis X.env.scope x := by first | exact Or.inl rfl | exact Or.inr (Or.inl rfl) | exact Or.inr (Or.inr rfl)) (hd : (x == ("__debug__" : Str)) = false := by decide)
    (hcd : (x == ("__classdict__" : Str)) = false := by decide) : DE X W (.Name x pos) (mVar i) := by
  refine PE.imp (pe_var hN hv hd hcd) fun σ H Q ⟨as, ds, h, s, p⟩ => ?_
  unfold mVar at p
  split at p
  · rename_i d e
    obtain ⟨v, e1, r⟩ := s.env.get e
    exact ⟨v, e1, p v H as .refl r s.heap⟩
  · exact p.elim
theorem de_c {d : D} {v : V} (h : PE X e (tC v)) (r : ∀ K H as, RV K H as d v) : DE X W e (mC d) :=
  PE.imp h fun σ H Q ⟨as, ds, h, s, p⟩ => p v H as .refl (.val (r _ _ _)) s.heap
theorem de_int {i : Int} {j : Nat} : DE X W (.Constant (.int i) j pos) (mC (.int i)) := de_c pe_int fun _ _ _ => .int i
theorem de_bl {i : Bool} {j : Nat} : DE X W (.Constant (.bool i) j pos) (mC (.bl i)) := de_c pe_bl fun _ _ _ => .bl i
theorem de_non {j : Nat} : DE X W (.Constant .none j pos) (mC .non) := de_c pe_non fun _ _ _ => .non
theorem de_str {x : Str} {j : Nat} : DE X W (.Constant (.str x) j pos) (mC (.str x)) := de_c pe_str fun _ _ _ => .str x
/-- a number of the module -/
theorem de_gint {x : Str} {i : Int} (hm : ∃ t, X.mg x = some (.int i t)) (hg : Gl X x := by rfl) (hd : (x == ("__debug__" : Str)) = false := by decide) : DE X W (.Name x pos) (mC (.int i)) := by
  obtain ⟨t, hm⟩ := hm
  exact de_c (pe_glob hg hm (v := .int i) ⟨t, rfl⟩ hd) fun _ _ _ => .int i
/-- a tuple of the module -/
theorem de_gtup {x : Str} {a : Addr} {vs : List V} {ds : List D} (hm : X.mg x = some (.ref a)) (hk : ∀ H, SqT X.K H a vs) (hr : ∀ H as, RVs X.K H as ds vs) (hg : Gl X x := by rfl) (hd : (x == ("__debug__" : Str)) = false := by decide) : DE X W (.Name x pos) (mC (.tup ds)) :=
  PE.imp (pe_glob hg hm (v := .ref a) rfl hd) fun σ H Q ⟨as, ds, h, s, p⟩ => p (.ref a) H as .refl (.val (.tup (hk H) (hr H as))) s.heap
end

/-! ### reading a value: cells by what they hold -/
def rd (h : Hs) : D → D
  | .loc n => h.getD n .non
  | d => d
/-- a value as it is read -/
inductive RT (K : PySem.W.Frag) (H : Hp) (as : List Addr) : D → V → Prop
  | val {d : D} {v : V} : RV K H as d v → RT K H as d v
  | cell {d : D} {a : Addr} : CellR K H as d a → RT K H as d (.ref a)
theorem RV.rt {K : PySem.W.Frag} {H : Hp} {as : List Addr} {h : Hs} {d : D} {v : V} (r : RD K H as d v) (s : HeapR K H as h) : RT K H as (rd h d) v := by
  cases r with
  | non => exact .val .non
  | bl b => exact .val (.bl b)
  | int i => exact .val (.int i)
  | str x => exact .val (.str x)
  | ty n => exact .val (.ty n)
  | gl n => exact .val (.gl n)
  | lam a b c d => exact .val (.lam a b c d)
  | exi a b c d => exact .val (.exi a b c d)
  | tup a b => exact .val (.tup a b)
  | lst a b c => exact .val (.lst a b c)
  | frz a b => exact .val (.frz a b)
  | dct a b c d => exact .val (.dct a b c d)
  | @loc n a e =>
    obtain ⟨d, e1, c⟩ := s.get e
    have : rd h (.loc n) = d := by
      show h.getD n .non = d
      rw [List.getD_eq_getElem?_getD, e1]
      rfl
    rw [this]
    exact .cell c
/-- the items of a list or a tuple -/
theorem RT.seq {K : PySem.W.Frag} {H : Hp} {as : List Addr} {d : D} {v : V} (r : RT K H as d v) {ds : List D} (e : d = .lst ds ∨ d = .tup ds ∨ d = .frz ds) : ∃ a vs, v = .ref a ∧ RVs K H as ds vs ∧ (SqL K H a vs ∨ SqT K H a vs) := by
  cases r with
  | val r =>
    cases r with
    | tup h r => rcases e with e | e | e <;> cases e; exact ⟨_, _, rfl, r, .inr h⟩
    | lst h n r => rcases e with e | e | e <;> cases e; exact ⟨_, _, rfl, r, .inl (SqL.of h)⟩
    | frz h r => rcases e with e | e | e <;> cases e; exact ⟨_, _, rfl, r, .inl h.sq⟩
    | _ => rcases e with e | e | e <;> cases e
  | cell r =>
    cases r with
    | lst h r => rcases e with e | e | e <;> cases e; exact ⟨_, _, rfl, r, .inl (SqL.of h)⟩
    | _ => rcases e with e | e | e <;> cases e
theorem RT.lst {K : PySem.W.Frag} {H : Hp} {as : List Addr} {v : V} {ds : List D} (r : RT K H as (.lst ds) v) : ∃ a vs, v = .ref a ∧ RVs K H as ds vs ∧ H a = some (.lst vs) := by
  cases r with
  | val r => cases r with
    | lst h n r => exact ⟨_, _, rfl, r, h⟩
  | cell r => cases r with
    | lst h r => exact ⟨_, _, rfl, r, h⟩
theorem RT.frz {K : PySem.W.Frag} {H : Hp} {as : List Addr} {v : V} {ds : List D} (r : RT K H as (.frz ds) v) : ∃ a vs, v = .ref a ∧ RVs K H as ds vs ∧ SqL K H a vs := by
  cases r with
  | val r => cases r with
    | frz h r => exact ⟨_, _, rfl, r, h.sq⟩
  | cell r => cases r
theorem RT.tup {K : PySem.W.Frag} {H : Hp} {as : List Addr} {v : V} {ds : List D} (r : RT K H as (.tup ds) v) : ∃ a vs, v = .ref a ∧ RVs K H as ds vs ∧ SqT K H a vs := by
  cases r with
  | val r => cases r with
    | tup h r => exact ⟨_, _, rfl, r, h⟩
  | cell r => cases r
theorem RT.int {K : PySem.W.Frag} {H : Hp} {as : List Addr} {v : V} {i : Int} (r : RT K H as (.int i) v) : v = .int i := by
  cases r with
  | val r => cases r; rfl
  | cell r => cases r
theorem RT.bl {K : PySem.W.Frag} {H : Hp} {as : List Addr} {v : V} {i : Bool} (r : RT K H as (.bl i) v) : v = .bl i := by
  cases r with
  | val r => cases r; rfl
  | cell r => cases r
theorem RT.str {K : PySem.W.Frag} {H : Hp} {as : List Addr} {v : V} {i : Str} (r : RT K H as (.str i) v) : v = .str i := by
  cases r with
  | val r => cases r; rfl
  | cell r => cases r
theorem RT.non {K : PySem.W.Frag} {H : Hp} {as : List Addr} {v : V} (r : RT K H as .non v) : v = .non := by
  cases r with
  | val r => cases r; rfl
  | cell r => cases r
theorem RT.ty {K : PySem.W.Frag} {H : Hp} {as : List Addr} {v : V} {n : String} (r : RT K H as (.ty n) v) : v = .ty n := by
  cases r with
  | val r => cases r; rfl
  | cell r => cases r

/-! ### operators by values -/
/-- f tells what the reading r gives -/
def OpS (K : PySem.W.Frag) (f : D → D → Option D) (r : R2) : Prop := ∀ (as : List Addr) (H : Hp) (x y z : D) (v u : V) (Q : VK), (∀ p, H p = none → p ∉ as) → f x y = some z → RT K H as x v → RT K H as y u →
  (∀ w H', Same H H' → RV K H' as z w → Q w H') → r v u H Q
def mBin (f : D → D → Option D) (ma mb : M D) : M D := fun ds h => (ma ds h).bind fun x h1 => (mb ds h1).bind fun y h2 => match f (rd h2 x) (rd h2 y) with
  | some z => .ok z h2
  | none => .no
theorem OpS.or1 {K : PySem.W.Frag} {f : D → D → Option D} {r r' : R2} (h : OpS K f r) : OpS K f (fun x y H Q => r x y H Q ∨ r' x y H Q) := fun as H x y z v u Q n e r1 r2 k => .inl (h as H x y z v u Q n e r1 r2 k)
section
variable {X : Cx} {W : WX} {pos : Pos} {a b c : Expr} {ma mb mc : M D}
theorem op_of_post {f : D → D → Option D} {r : R2} (hs : OpS X.K f r) {σ : L2.St} {H : Hp} {Q : VK} (q : teM X.K X.mg W (mBin f ma mb) σ H Q) : tOp r (teM X.K X.mg W ma) (teM X.K X.mg W mb) σ H Q := by
  obtain ⟨as, ds, h, s, p⟩ := q
  refine ⟨as, ds, h, s, PostE.bindE p fun x h1 v H1 as1 f1 r1 hr1 p1 => ?_⟩
  refine ⟨as1, ds, h1, ⟨s.env.grow f1, hr1⟩, PostE.bindE p1 fun y h2 u H2 as2 f2 r2 hr2 p2 => ?_⟩
  cases e : f (rd h2 x) (rd h2 y) with
  | none => rw [e] at p2; exact p2.elim
  | some z =>
    rw [e] at p2
    exact hs as2 H2 _ _ z v u Q (fun p hp => hr2.notin hp) e ((r1.grow f2).rt hr2) (r2.rt hr2) fun w H' sm rw => p2 w H' as2 (.of_same sm) (.val rw) (hr2.same sm)
theorem de_bin {op : Operator} {f : D → D → Option D} {r : R2} (ho : OpR X (binaryOp op) r) (hs : OpS X.K f r) (ha : DE X W a ma) (hb : DE X W b mb) : DE X W (.BinOp a op b pos) (mBin f ma mb) :=
  PE.imp (pe_op ho ha hb) fun σ H Q q => op_of_post hs q
theorem de_cmp {op : CmpOp} {f : D → D → Option D} {r : R2} (ho : OpR X (compareOp op) r) (hs : OpS X.K f r) (hm : behindInMarks op b = false) (ha : DE X W a ma) (hb : DE X W b mb) : DE X W (.Compare a [op] [b] pos) (mBin f ma mb) :=
  PE.imp (pe_cmpR ho ha hb hm) fun σ H Q q => op_of_post hs q
end
end DL

set_option Elab.async false
set_option linter.all false
set_option maxRecDepth 100000
set_option maxHeartbeats 4000000
namespace DL
open PySem PySem.Spec PyProof.Rows L2

/-! ### truth -/
def truD : D → Option Bool
  | .non => some false
  | .bl b => some b
  | .int i => some (i != 0)
  | .str s => if s.length ≤ 16777216 then some ((s.length : Int) != 0) else none
  | .tup l => some (!l.isEmpty)
  | .lst l => some (!l.isEmpty)
  | .frz l => some (!l.isEmpty)
  | .dct ks _ => some (!ks.isEmpty)
  | _ => none
theorem RVs.isEmpty {K : PySem.W.Frag} {H : Hp} {as : List Addr} {ds : List D} {vs : List V} (r : RVs K H as ds vs) : ds.isEmpty = vs.isEmpty := by
  cases r <;> rfl
theorem truD_ok {K : PySem.W.Frag} {H : Hp} {as : List Addr} {d : D} {v : V} {b : Bool} (e : truD d = some b) (r : RT K H as d v) : TruV K v H b := by
  cases d with
  | non => cases r.non; cases e; exact rfl
  | bl b' => cases r.bl; cases e; exact rfl
  | int i => cases r.int; cases e; exact rfl
  | str s =>
    cases r.str
    by_cases hs : s.length ≤ 16777216
    · rw [truD, if_pos hs] at e; cases e
      exact ⟨by rw [sizeLine_eq]; exact hs, rfl⟩
    · rw [truD, if_neg hs] at e; cases e
  | ty n => cases e
  | tup l =>
    cases e
    obtain ⟨a, vs, rfl, r, h⟩ := r.tup
    exact .inr (.inl ⟨vs, h, by rw [r.isEmpty]⟩)
  | lst l =>
    cases e
    obtain ⟨a, vs, rfl, r, h⟩ := r.lst
    exact .inl ⟨vs, SqL.of h, by rw [r.isEmpty]⟩
  | frz l =>
    cases e
    obtain ⟨a, vs, rfl, r, h⟩ := r.frz
    exact .inl ⟨vs, h, by rw [r.isEmpty]⟩
  | dct ks ds =>
    cases e
    cases r with
    | val r => cases r with
      | dct h n e r => exact .inr (.inr ⟨_, h, by rw [← e]; simp⟩)
    | cell r => cases r with
      | dct h e r => exact .inr (.inr ⟨_, h, by rw [← e]; simp⟩)
  | _ => cases e
def mTru (ma : M D) : M Bool := fun ds h => (ma ds h).bind fun x h1 => match truD (rd h1 x) with
  | some b => .ok b h1
  | none => .no
def mNotT (ma : M Bool) : M Bool := fun ds h => (ma ds h).bind fun b h1 => .ok (!b) h1
def mAndT (ma mb : M Bool) : M Bool := fun ds h => (ma ds h).bind fun b h1 => if b then mb ds h1 else .ok false h1
def mOrT (ma mb : M Bool) : M Bool := fun ds h => (ma ds h).bind fun b h1 => if b then .ok true h1 else mb ds h1
/-- a test as a value: where all that stands in it is a bool -/
def mOfT (ma : M Bool) : M D := fun ds h => (ma ds h).bind fun b h1 => .ok (.bl b) h1
def mIf (mc : M Bool) (ma mb : M D) : M D := fun ds h => (mc ds h).bind fun b h1 => if b then ma ds h1 else mb ds h1
def isBl : D → Option Bool
  | .bl b => some b
  | _ => none
/-- a value that is a bool, as a test -/
def mTB (ma : M D) : M Bool := fun ds h => (ma ds h).bind fun x h1 => match isBl x with
  | some b => .ok b h1
  | none => .no
def mAndV (ma mb : M D) : M D := fun ds h => (ma ds h).bind fun x h1 => match truD (rd h1 x) with
  | some b => if b then mb ds h1 else .ok x h1
  | none => .no
def mOrV (ma mb : M D) : M D := fun ds h => (ma ds h).bind fun x h1 => match truD (rd h1 x) with
  | some b => if b then .ok x h1 else mb ds h1
  | none => .no
def mNotV (ma : M D) : M D := fun ds h => (ma ds h).bind fun x h1 => match truD (rd h1 x) with
  | some b => .ok (.bl (!b)) h1
  | none => .no
section
variable {X : Cx} {W : WX} {pos : Pos} {a b c : Expr} {rest : List Expr} {ma mb mc : M D} {ta tb tc : M Bool}
theorem isBl_ok {K : PySem.W.Frag} {H : Hp} {as : List Addr} {d : D} {v : V} {b : Bool} (e : isBl d = some b) (r : RD K H as d v) : v = .bl b := by
  cases r <;> cases e; rfl
theorem dt_cmp {op : CmpOp} {f : D → D → Option D} {r : R2} (ho : OpR X (compareOp op) r) (hs : OpS X.K f r) (hm : behindInMarks op b = false) (ha : DE X W a ma) (hb : DE X W b mb) : DT X W (.Compare a [op] [b] pos) (mTB (mBin f ma mb)) := by
  refine PT.imp (pt_cmpR ho ha hb hm) fun σ H Q ⟨as, ds, h, s, p⟩ => ?_
  show tOp r (teM X.K X.mg W ma) (teM X.K X.mg W mb) σ H _
  refine op_of_post hs ⟨as, ds, h, s, PostT.bindE p fun x h1 v H1 as1 f1 r1 hr1 p1 => ?_⟩
  cases e : isBl x with
  | none => rw [e] at p1; exact p1.elim
  | some k =>
    rw [e] at p1
    exact ⟨k, isBl_ok e r1, p1 H1 as1 .refl hr1⟩
/-- any value's truth, as a test -/
theorem dt_tru (ha : DE X W a ma) (he : ∀ whole, isTrue a X.env whole = (do let v ← whole; standAt a.pos; holding [v] (truthy v)) := by intro _; rfl) : DT X W a (mTru ma) := by
  refine PT.imp (pt_truth ha he) fun σ H Q ⟨as, ds, h, s, p⟩ => ?_
  refine ⟨as, ds, h, s, PostT.bindE p fun x h1 v H1 as1 f1 r1 hr1 p1 => ?_⟩
  cases e : truD (rd h1 x) with
  | none => rw [e] at p1; exact p1.elim
  | some k =>
    rw [e] at p1
    exact ⟨k, truD_ok e (r1.rt hr1), p1 H1 as1 .refl hr1⟩
theorem dt_not (ha : DT X W a ta) : DT X W (.UnaryOp .Not a pos) (mNotT ta) :=
  PT.imp (pt_not ha) fun σ H Q ⟨as, ds, h, s, p⟩ => ⟨as, ds, h, s, PostT.bindT p fun b h1 H1 as1 f1 hr1 p1 => p1 H1 as1 .refl hr1⟩
theorem dw_and1 (ha : DT X W a ta) : DW X W (.BoolOp .And [a] pos) ta := pw_and1 ha
theorem dw_or1 (ha : DT X W a ta) : DW X W (.BoolOp .Or [a] pos) ta := pw_or1 ha
theorem dw_and (ha : DT X W a ta) (hb : DW X W (.BoolOp .And (b :: rest) pos) tb) : DW X W (.BoolOp .And (a :: b :: rest) pos) (mAndT ta tb) :=
  PW.imp (pw_and ha hb) fun σ H Q ⟨as, ds, h, s, p⟩ => ⟨as, ds, h, s, PostT.bindT p fun b h1 H1 as1 f1 hr1 p1 => by
    cases b with
    | true => exact ⟨as1, ds, h1, ⟨s.env.grow f1, hr1⟩, p1⟩
    | false => exact p1 H1 as1 .refl hr1⟩
theorem dw_or (ha : DT X W a ta) (hb : DW X W (.BoolOp .Or (b :: rest) pos) tb) : DW X W (.BoolOp .Or (a :: b :: rest) pos) (mOrT ta tb) :=
  PW.imp (pw_or ha hb) fun σ H Q ⟨as, ds, h, s, p⟩ => ⟨as, ds, h, s, PostT.bindT p fun b h1 H1 as1 f1 hr1 p1 => by
    cases b with
    | true => exact p1 H1 as1 .refl hr1
    | false => exact ⟨as1, ds, h1, ⟨s.env.grow f1, hr1⟩, p1⟩⟩
theorem dt_w (h : DW X W a ta) : DT X W a ta := h.pt
theorem de_if (hc : DT X W c tc) (ha : DE X W a ma) (hb : DE X W b mb) : DE X W (.IfExp c a b pos) (mIf tc ma mb) :=
  PE.imp (pe_ifExp hc ha hb) fun σ H Q ⟨as, ds, h, s, p⟩ => ⟨as, ds, h, s, PostE.bindT p fun b h1 H1 as1 f1 hr1 p1 => by
    cases b with
    | true => exact ⟨as1, ds, h1, ⟨s.env.grow f1, hr1⟩, p1⟩
    | false => exact ⟨as1, ds, h1, ⟨s.env.grow f1, hr1⟩, p1⟩⟩
theorem de_one {op : BoolOp} (ha : DE X W a ma) : DE X W (.BoolOp op [a] pos) ma := pe_one ha
theorem de_and (ha : DE X W a ma) (hb : DE X W (.BoolOp .And (b :: rest) pos) mb) : DE X W (.BoolOp .And (a :: b :: rest) pos) (mAndV ma mb) :=
  PE.imp (pe_andT ha hb) fun σ H Q ⟨as, ds, h, s, p⟩ => ⟨as, ds, h, s, PostE.bindE p fun x h1 v H1 as1 f1 r1 hr1 p1 => by
    cases e : truD (rd h1 x) with
    | none => rw [e] at p1; exact p1.elim
    | some k =>
      rw [e] at p1
      refine ⟨k, truD_ok e (r1.rt hr1), ?_⟩
      cases k with
      | true => exact ⟨as1, ds, h1, ⟨s.env.grow f1, hr1⟩, p1⟩
      | false => exact p1 v H1 as1 .refl r1 hr1⟩
theorem de_or (ha : DE X W a ma) (hb : DE X W (.BoolOp .Or (b :: rest) pos) mb) : DE X W (.BoolOp .Or (a :: b :: rest) pos) (mOrV ma mb) :=
  PE.imp (pe_orT ha hb) fun σ H Q ⟨as, ds, h, s, p⟩ => ⟨as, ds, h, s, PostE.bindE p fun x h1 v H1 as1 f1 r1 hr1 p1 => by
    cases e : truD (rd h1 x) with
    | none => rw [e] at p1; exact p1.elim
    | some k =>
      rw [e] at p1
      refine ⟨k, truD_ok e (r1.rt hr1), ?_⟩
      cases k with
      | true => exact p1 v H1 as1 .refl r1 hr1
      | false => exact ⟨as1, ds, h1, ⟨s.env.grow f1, hr1⟩, p1⟩⟩
theorem de_not (ha : DE X W a ma) : DE X W (.UnaryOp .Not a pos) (mNotV ma) :=
  PE.imp (pe_notT ha) fun σ H Q ⟨as, ds, h, s, p⟩ => ⟨as, ds, h, s, PostE.bindE p fun x h1 v H1 as1 f1 r1 hr1 p1 => by
    cases e : truD (rd h1 x) with
    | none => rw [e] at p1; exact p1.elim
    | some k =>
      rw [e] at p1
      exact ⟨k, truD_ok e (r1.rt hr1), p1 (.bl (!k)) H1 as1 .refl (.val (.bl _)) hr1⟩⟩
end

/-! ### arguments, tuples, lists -/
def mNil : M (List D) := fun _ h => .ok [] h
def mCons (ma : M D) (mr : M (List D)) : M (List D) := fun ds h => (ma ds h).bind fun x h1 => (mr ds h1).bind fun xs h2 => .ok (x :: xs) h2
def mTup (ma : M (List D)) : M D := fun ds h => (ma ds h).bind fun xs h1 => if xs.length ≤ 16777216 then .ok (.tup xs) h1 else .no
def mLst (ma : M (List D)) : M D := fun ds h => (ma ds h).bind fun xs h1 => if xs.length ≤ 16777216 then .ok (.lst xs) h1 else .no
theorem RDs.rvs {K : PySem.W.Frag} {H : Hp} {as : List Addr} : ∀ {ds : List D} {vs : List V}, RDs K H as ds vs → RVs K H as ds vs
  | _, _, .nil => .nil
  | _, _, .cons h t => .cons h (RDs.rvs t)
theorem RDs.length {K : PySem.W.Frag} {H : Hp} {as : List Addr} {ds : List D} {vs : List V} (r : RDs K H as ds vs) : ds.length = vs.length := Paired.length r
theorem RVs.rds {K : PySem.W.Frag} {H : Hp} {as : List Addr} : ∀ {ds : List D} {vs : List V}, RVs K H as ds vs → RDs K H as ds vs
  | _, _, .nil => .nil
  | _, _, .cons h t => .cons (.val h) (RVs.rds t)
section
variable {X : Cx} {W : WX} {pos : Pos} {a b c e : Expr} {es : List Expr} {ma mb mc : M D} {me : M (List D)}
theorem da_nil : DA X W [] mNil := PA.imp pa_nil fun σ H Q ⟨as, ds, h, s, p⟩ => p [] H as .refl .nil s.heap
theorem da_cons (ha : DE X W e ma) (hr : DA X W es me) (hs : starEach (e :: es) X.env = (false, eval e X.env) :: starEach es X.env := by rfl) : DA X W (e :: es) (mCons ma me) :=
  PA.imp (pa_cons ha hr hs) fun σ H Q ⟨as, ds, h, s, p⟩ => ⟨as, ds, h, s, PostA.bindE p fun x h1 v H1 as1 f1 r1 hr1 p1 =>
    ⟨as1, ds, h1, ⟨s.env.grow f1, hr1⟩, PostA.bindA p1 fun xs h2 vs H2 as2 f2 r2 hr2 p2 => p2 (v :: vs) H2 as2 .refl (.cons (r1.grow f2) r2) hr2⟩⟩
theorem de_tup {x1 : Nat} (h : DA X W es me) : DE X W (.Tuple es x1 pos) (mTup me) :=
  PE.imp (pe_tup h) fun σ H Q ⟨as, ds, h, s, p⟩ => ⟨as, ds, h, s, PostE.bindA p fun xs h1 vs H1 as1 f1 r1 hr1 p1 => by
    by_cases hc : xs.length ≤ 16777216
    · rw [if_pos hc] at p1
      refine ⟨by rw [sizeLine_eq, ← r1.length]; exact hc, fun q hq => ?_⟩
      have sm := same_upd (o := .tup vs) hq
      exact p1 (.ref q) _ as1 (.of_same sm) (.val (.tup (SqT.of upd_same) ((r1.rvs).same sm))) (hr1.same sm)
    · rw [if_neg hc] at p1; exact p1.elim⟩
theorem de_lst (h : DA X W es me) : DE X W (.List es pos) (mLst me) :=
  PE.imp (pe_lst h) fun σ H Q ⟨as, ds, h, s, p⟩ => ⟨as, ds, h, s, PostE.bindA p fun xs h1 vs H1 as1 f1 r1 hr1 p1 => by
    by_cases hc : xs.length ≤ 16777216
    · rw [if_pos hc] at p1
      refine ⟨by rw [sizeLine_eq, ← r1.length]; exact hc, fun q hq => ?_⟩
      have sm := same_upd (o := .lst vs) hq
      exact p1 (.ref q) _ as1 (.of_same sm) (.val (.lst upd_same (hr1.notin hq) ((r1.rvs).same sm))) (hr1.same sm)
    · rw [if_neg hc] at p1; exact p1.elim⟩
/-- {} -/
theorem de_dnil : DE X W (.Dict [] [] pos) (mC (.dct [] [])) :=
  PE.imp pe_dnewK fun σ H Q ⟨as, ds, h, s, p⟩ => fun q hq => by
    have sm := same_upd (o := .dK []) hq
    exact p (.ref q) _ as (.of_same sm) (.val (.dct upd_same (s.heap.notin hq) rfl .nil)) (s.heap.same sm)
end

/-! ### subscripts, slices -/
def seqD : D → Option (List D)
  | .tup l => some l
  | .lst l => some l
  | .frz l => some l
  | _ => none
theorem seqD_ok {d : D} {l : List D} (h : seqD d = some l) : d = .lst l ∨ d = .tup l ∨ d = .frz l := by
  cases d <;> cases h <;> simp
def ixD : D → D → Option D
  | .tup l, .int i => atI l i
  | .lst l, .int i => atI l i
  | .frz l, .int i => atI l i
  | .str z, .int i => if z.length ≤ 16777216 then (atI z.cps.toList i).map fun c => .str ⟨#[c]⟩ else none
  | _, _ => none
theorem RVs.atI {K : PySem.W.Frag} {H : Hp} {as : List Addr} {ds : List D} {vs : List V} (r : RVs K H as ds vs) {i : Int} {d : D} (h : L2.atI ds i = some d) : ∃ v, L2.atI vs i = some v ∧ RV K H as d v := by
  unfold L2.atI at h ⊢
  rw [← r.length]
  cases e : ixN ds.length i with
  | none => rw [e] at h; cases h
  | some j =>
    rw [e] at h
    exact r.get h
theorem ix_s {K : PySem.W.Frag} : OpS K ixD (rIx K) := by
  intro as H x y z v u Q n e r1 r2 k
  cases y with
  | int i =>
    cases r2.int
    cases x with
    | tup l =>
      obtain ⟨a, vs, rfl, r, h⟩ := r1.tup
      obtain ⟨w, hw, rw⟩ := r.atI e
      exact .inr (.inl ⟨a, vs, i, w, rfl, rfl, h, hw, k w H (Same.refl H) rw⟩)
    | lst l =>
      obtain ⟨a, vs, rfl, r, h⟩ := r1.lst
      obtain ⟨w, hw, rw⟩ := r.atI e
      exact .inl ⟨a, vs, i, w, rfl, rfl, SqL.of h, hw, k w H (Same.refl H) rw⟩
    | frz l =>
      obtain ⟨a, vs, rfl, r, h⟩ := r1.frz
      obtain ⟨w, hw, rw⟩ := r.atI e
      exact .inl ⟨a, vs, i, w, rfl, rfl, h, hw, k w H (Same.refl H) rw⟩
    | str s =>
      cases r1.str
      by_cases hs : s.length ≤ 16777216
      · rw [ixD, if_pos hs] at e
        cases e2 : L2.atI s.cps.toList i with
        | none => rw [e2] at e; cases e
        | some c =>
          rw [e2] at e; cases e
          exact .inr (.inr ⟨s, i, c, rfl, rfl, by rw [sizeLine_eq]; exact hs, e2, k _ H (Same.refl H) (.str _)⟩)
      · rw [ixD, if_neg hs] at e; cases e
    | _ => cases e
  | _ => cases x <;> cases e
section
variable {X : Cx} {W : WX} {pos : Pos} {a b c e : Expr} {ma mb mc : M D}
theorem de_ix (hs : PlainIx b) (ha : DE X W a ma) (hb : DE X W b mb) : DE X W (.Subscript a b pos) (mBin ixD ma mb) :=
  PE.imp (pe_ix ix_seq ha hb hs) fun σ H Q q => op_of_post ix_s q
end
def intO : D → Option Int
  | .int i => some i
  | _ => none
abbrev MO := M (Option Int)
def mNoPart : MO := fun _ h => .ok none h
def mPart (ma : M D) : MO := fun ds h => (ma ds h).bind fun x h1 => match intO x with
  | some i => .ok (some i) h1
  | none => .no
def cutD (xs : List D) (lo hi : Option Int) : List D := (xs.drop (HT.sIx xs.length 0 lo)).take (HT.sIx xs.length xs.length hi - HT.sIx xs.length 0 lo)
def slD (x : D) (lo hi : Option Int) : Option D := match x with
  | .lst l => some (.lst (cutD l lo hi))
  | .tup l => some (.tup (cutD l lo hi))
  | _ => none
def mSl (ma : M D) (ml mh : MO) : M D := fun ds h => (ma ds h).bind fun x h1 => (ml ds h1).bind fun lo h2 => (mh ds h2).bind fun hi h3 => match slD (rd h3 x) lo hi with
  | some z => .ok z h3
  | none => .no
def PostO (K : PySem.W.Frag) (mg : Str → Option Value) (W : WX) (as : List Addr) (σ : L2.St) (H : Hp) (r : R (Option Int)) (Q : Option Int → Hp → Prop) : Prop := match r with
  | .ok b h => ∀ H' as', Grow as H as' H' → HeapR K H' as' h → Q b H'
  | .ex c p h => ∀ cls dx H' as', Grow as H as' H' → HeapR K H' as' h → ExR K mg H' as' c p cls dx → W cls dx σ H'
  | .no => False
def toM (K : PySem.W.Frag) (mg : Str → Option Value) (W : WX) (m : MO) : TO := fun σ H Q => ∃ as ds h, StR K H as ds h σ ∧ PostO K mg W as σ H (m ds h) Q
theorem PO.imp {X : Cx} {e : Option Expr} {t t' : TO} (p : PO X e t) (h : ∀ σ H Q, t' σ H Q → t σ H Q) : PO X e t' := ⟨fun pins s σ H Q I q => p.run pins s σ H Q I (h σ H Q q)⟩
abbrev DO (X : Cx) (W : WX) (e : Option Expr) (m : MO) : Prop := PO X e (toM X.K X.mg W m)
theorem intO_ok {K : PySem.W.Frag} {H : Hp} {as : List Addr} {d : D} {v : V} {i : Int} (e : intO d = some i) (r : RD K H as d v) : v = .int i := by
  cases r <;> cases e; rfl
theorem RVs.cut {K : PySem.W.Frag} {H : Hp} {as : List Addr} {ds : List D} {vs : List V} (r : RVs K H as ds vs) (lo hi : Option Int) : RVs K H as (cutD ds lo hi) (cutV vs lo hi) := by
  unfold cutD cutV
  rw [← r.length]
  exact (r.drop _).take _
section
variable {X : Cx} {W : WX} {pos p2 : Pos} {a b c e : Expr} {ma mb mc : M D} {lo hi : Option Expr} {ml mh : MO}
theorem do_none : DO X W none mNoPart := PO.imp po_none fun σ H Q ⟨as, ds, h, s, p⟩ => p H as .refl s.heap
theorem do_some (ha : DE X W a ma) : DO X W (some a) (mPart ma) := PO.imp (po_some ha) fun σ H Q ⟨as, ds, h, s, p⟩ => by
  refine ⟨as, ds, h, s, ?_⟩
  unfold mPart at p
  cases hm : ma ds h with
  | ok x h1 =>
    rw [hm] at p
    have p : PostO X.K X.mg W as σ H (match intO x with | some i => .ok (some i) h1 | none => .no) Q := p
    cases e : intO x with
    | none => rw [e] at p; exact p.elim
    | some i =>
      rw [e] at p
      exact fun v H1 as1 f1 r1 hr1 => ⟨i, intO_ok e r1, p H1 as1 f1 hr1⟩
  | ex c q h1 => rw [hm] at p; exact p
  | no => rw [hm] at p; exact p
theorem PostE.bindO {K : PySem.W.Frag} {mg : Str → Option Value} {as : List Addr} {σ : L2.St} {H : Hp} {r : R (Option Int)} {k : Option Int → Hs → R D} {Q : VK} {Q' : Option Int → Hp → Prop} (p : PostE K mg W as σ H (r.bind k) Q)
    (n : ∀ b h H1 as1, Grow as H as1 H1 → HeapR K H1 as1 h → PostE K mg W as1 σ H1 (k b h) Q → Q' b H1) : PostO K mg W as σ H r Q' := by
  cases r with
  | ok d h => exact fun H1 as1 f hr => n d h H1 as1 f hr (PostE.grow f p)
  | ex c q h => exact p
  | no => exact p
theorem sl_any : SlR X (fun x lo hi H Q => rSlL X.K x lo hi H Q ∨ rSlA X.K x lo hi H Q) := sl_list.or sl_tupA
theorem de_sl (ha : DE X W a ma) (hl : DO X W lo ml) (hh : DO X W hi mh) : DE X W (.Subscript a (.Slice lo hi none p2) pos) (mSl ma ml mh) :=
  PE.imp (pe_slice sl_any ha hl hh) fun σ H Q ⟨as, ds, h, s, p⟩ => ⟨as, ds, h, s, PostE.bindE p fun x h1 v H1 as1 f1 r1 hr1 p1 =>
    ⟨as1, ds, h1, ⟨s.env.grow f1, hr1⟩, PostE.bindO p1 fun lo h2 H2 as2 f2 hr2 p2 =>
    ⟨as2, ds, h2, ⟨s.env.grow (f1.trans f2), hr2⟩, PostE.bindO p2 fun hi h3 H3 as3 f3 hr3 p3 => by
      have r3 := ((r1.grow (f2.trans f3)).rt hr3)
      revert r3 p3
      generalize rd h3 x = y
      intro p3 r3
      cases y with
      | lst l =>
        obtain ⟨q, vs, rfl, r, hq⟩ := r3.lst
        refine .inl ⟨q, vs, rfl, SqL.of hq, fun q2 hq2 => ?_⟩
        have sm := same_upd (o := .lst (cutV vs lo hi)) hq2
        exact p3 (.ref q2) _ as3 (.of_same sm) (.val (.lst upd_same (hr3.notin hq2) ((r.cut lo hi).fr (.of_same sm)))) (hr3.same sm)
      | tup l =>
        obtain ⟨q, vs, rfl, r, hq⟩ := r3.tup
        refine .inr ⟨q, vs, rfl, hq, fun hw => ?_, fun hw q2 hq2 => ?_⟩
        · have e : cutV vs lo hi = vs := by unfold cutV; rw [hw.1, hw.2]; simp
          have r' := r.cut lo hi
          rw [e] at r'
          exact p3 (.ref q) H3 as3 .refl (.val (.tup hq r')) hr3
        · have sm := same_upd (o := .tup (cutV vs lo hi)) hq2
          exact p3 (.ref q2) _ as3 (.of_same sm) (.val (.tup (SqT.of upd_same) ((r.cut lo hi).fr (.of_same sm)))) (hr3.same sm)
      | _ => exact p3.elim⟩⟩⟩
end
end DL

set_option Elab.async false
set_option linter.all false
set_option maxRecDepth 100000
set_option maxHeartbeats 4000000
namespace DL
open PySem PySem.Spec PyProof.Rows L2

/-! ### equality of data -/
mutual
def eqv : D → D → Bool
  | .non, .non => true
  | .bl a, .bl b => a == b
  | .bl a, .int j => (if a then 1 else 0) == j
  | .int i, .bl b => i == (if b then 1 else 0)
  | .int i, .int j => i == j
  | .str x, .str y => x == y
  | .lst xs, .lst ys => eqvs xs ys
  | .tup xs, .tup ys => eqvs xs ys
  | _, _ => false
def eqvs : List D → List D → Bool
  | [], [] => true
  | x :: xs, y :: ys => eqv x y && eqvs xs ys
  | _, _ => false
end
mutual
def toPy : D → PyData
  | .bl b => .bool b
  | .int i => .int i
  | .str s => .str s
  | .tup l => .tuple (toPys l)
  | .lst l => .list (toPys l)
  | _ => .none
def toPys : List D → List PyData
  | [] => []
  | d :: l => toPy d :: toPys l
end
/-- plain data of so great a depth -/
def okE : Nat → D → Bool
  | _, .non => true
  | _, .bl _ => true
  | _, .int _ => true
  | _, .str s => PyData.strOk s
  | n + 1, .tup l => l.all (okE n)
  | n + 1, .lst l => l.all (okE n)
  | _, _ => false
section
variable {K : PySem.W.Frag} {H : Hp} {as : List Addr}
theorem depthAll_le {n : Nat} : ∀ {l : List PyData}, (∀ d ∈ l, d.depth ≤ n) → PyData.depthAll l ≤ n
  | [], _ => by simp [PyData.depthAll]
  | d :: l, h => by
    have h1 := h d (by simp)
    have h2 := depthAll_le (l := l) fun e he => h e (by simp [he])
    simp only [PyData.depthAll]
    omega
theorem toPys_mem : ∀ {l : List D} {p : PyData}, p ∈ toPys l → ∃ d ∈ l, p = toPy d
  | [], _, h => by simp [toPys] at h
  | d :: l, p, h => by
    simp only [toPys, List.mem_cons] at h
    rcases h with rfl | h
    · exact ⟨d, by simp, rfl⟩
    · obtain ⟨e, he, q⟩ := toPys_mem h
      exact ⟨e, by simp [he], q⟩
theorem canLayAll_of : ∀ {l : List PyData}, (∀ d ∈ l, d.canLay0 = true) → PyData.canLayAll0 l = true
  | [], _ => by simp [PyData.canLayAll0]
  | d :: l, h => by
    simp only [PyData.canLayAll0, Bool.and_eq_true]
    exact ⟨h d (by simp), canLayAll_of fun e he => h e (by simp [he])⟩
theorem okE_lay : ∀ {n : Nat} {d : D}, okE n d = true → (toPy d).canLay0 = true ∧ (toPy d).depth ≤ n := by
  intro n
  induction n with
  | zero =>
    intro d h
    cases d with
    | non => simp [toPy, PyData.canLay0, PyData.depth]
    | bl b => simp [toPy, PyData.canLay0, PyData.depth]
    | int i => simp [toPy, PyData.canLay0, PyData.depth]
    | str s => exact ⟨by simpa [toPy, PyData.canLay0, okE] using h, by simp [toPy, PyData.depth]⟩
    | _ => simp [okE] at h
  | succ n ih =>
    intro d h
    have key : ∀ l : List D, l.all (okE n) = true → PyData.canLayAll0 (toPys l) = true ∧ PyData.depthAll (toPys l) ≤ n := by
      intro l hl
      refine ⟨canLayAll_of fun p hp => ?_, depthAll_le fun p hp => ?_⟩
      · obtain ⟨d, hd, rfl⟩ := toPys_mem hp
        exact (ih (List.all_eq_true.mp hl d hd)).1
      · obtain ⟨d, hd, rfl⟩ := toPys_mem hp
        exact (ih (List.all_eq_true.mp hl d hd)).2
    cases d with
    | non => simp [toPy, PyData.canLay0, PyData.depth]
    | bl b => simp [toPy, PyData.canLay0, PyData.depth]
    | int i => simp [toPy, PyData.canLay0, PyData.depth]
    | str s => exact ⟨by simpa [toPy, PyData.canLay0, okE] using h, by simp [toPy, PyData.depth]⟩
    | tup l =>
      obtain ⟨k1, k2⟩ := key l (by simpa [okE] using h)
      exact ⟨by simpa [toPy, PyData.canLay0] using k1, by simp only [toPy, PyData.depth]; omega⟩
    | lst l =>
      obtain ⟨k1, k2⟩ := key l (by simpa [okE] using h)
      exact ⟨by simpa [toPy, PyData.canLay0] using k1, by simp only [toPy, PyData.depth]; omega⟩
    | _ => simp [okE] at h
theorem okE_dp : ∀ {n : Nat} {d : D} {v : V}, okE n d = true → RV K H as d v → Dp K H v (toPy d) := by
  intro n
  induction n with
  | zero =>
    intro d v h r
    cases r with
    | non => exact .non
    | bl b => exact .bl b
    | int i => exact .int i
    | str s => exact .str s
    | _ => simp [okE] at h
  | succ n ih =>
    intro d v h r
    have key : ∀ (l : List D) (vs : List V), l.all (okE n) = true → RVs K H as l vs → DpAll K H vs (toPys l) := by
      intro l
      induction l with
      | nil => intro vs _ r; cases r; exact .nil
      | cons d l ihl =>
        intro vs hl r
        cases r with
        | cons r1 r2 =>
          simp only [List.all_cons, Bool.and_eq_true] at hl
          exact .cons (ih hl.1 r1) (ihl _ hl.2 r2)
    cases r with
    | non => exact .non
    | bl b => exact .bl b
    | int i => exact .int i
    | str s => exact .str s
    | tup hs rs => exact .tup hs (key _ _ (by simpa [okE] using h) rs)
    | lst hs n rs => exact .lst (SqL.of hs) (key _ _ (by simpa [okE] using h) rs)
    | _ => simp [okE] at h
theorem okE_rt {n : Nat} {d : D} {v : V} (h : okE n d = true) (r : RT K H as d v) : Dp K H v (toPy d) := by
  cases r with
  | val r => exact okE_dp h r
  | cell r =>
    cases r with
    | lst hs rs =>
      cases n with
      | zero => simp [okE] at h
      | succ n =>
        have key : ∀ (l : List D) (vs : List V), l.all (okE n) = true → RVs K H as l vs → DpAll K H vs (toPys l) := by
          intro l
          induction l with
          | nil => intro vs _ r; cases r; exact .nil
          | cons d l ihl =>
            intro vs hl r
            cases r with
            | cons r1 r2 =>
              simp only [List.all_cons, Bool.and_eq_true] at hl
              exact .cons (okE_dp hl.1 r1) (ihl _ hl.2 r2)
        exact .lst (SqL.of hs) (key _ _ (by simpa [okE] using h) rs)
    | _ => cases n <;> simp [okE] at h
theorem eqv_py : ∀ {n : Nat} {d e : D}, okE n d = true → ∀ {m : Nat}, okE m e = true → eqv d e = PyData.eqv (toPy d) (toPy e) := by
  intro n
  induction n with
  | zero =>
    intro d e h m h2
    cases d <;> first | (simp [okE] at h; done) | (cases e <;> first | (cases m <;> simp [okE] at h2; done) | simp [eqv, toPy, PyData.eqv])
  | succ n ih =>
    intro d e h m h2
    have key : ∀ (l k : List D), l.all (okE n) = true → ∀ m, k.all (okE m) = true → eqvs l k = PyData.eqvAll (toPys l) (toPys k) := by
      intro l
      induction l with
      | nil => intro k _ m hk; cases k <;> simp [eqvs, toPys, PyData.eqvAll]
      | cons d l ihl =>
        intro k hl m hk
        cases k with
        | nil => simp [eqvs, toPys, PyData.eqvAll]
        | cons e k =>
          simp only [List.all_cons, Bool.and_eq_true] at hl hk
          simp only [eqvs, toPys, PyData.eqvAll]
          rw [ih hl.1 hk.1, ihl k hl.2 m hk.2]
    cases d with
    | tup l =>
      cases e with
      | tup k =>
        cases m with
        | zero => simp [okE] at h2
        | succ m => simp only [eqv, toPy, PyData.eqv]; exact key l k (by simpa [okE] using h) m (by simpa [okE] using h2)
      | _ => first | (cases m <;> simp [okE] at h2; done) | simp [eqv, toPy, PyData.eqv]
    | lst l =>
      cases e with
      | lst k =>
        cases m with
        | zero => simp [okE] at h2
        | succ m => simp only [eqv, toPy, PyData.eqv]; exact key l k (by simpa [okE] using h) m (by simpa [okE] using h2)
      | _ => first | (cases m <;> simp [okE] at h2; done) | simp [eqv, toPy, PyData.eqv]
    | _ => first | (simp [okE] at h; done) | (cases e <;> first | (cases m <;> simp [okE] at h2; done) | simp [eqv, toPy, PyData.eqv])
end
def eqD (x y : D) : Option D := if okE 60 x = true ∧ okE 60 y = true then some (.bl (eqv x y)) else none
def neD (x y : D) : Option D := if okE 60 x = true ∧ okE 60 y = true then some (.bl (!eqv x y)) else none
def rEqG (K : PySem.W.Frag) (neg : Bool) : R2 := fun x y H Q => ∃ d e, Dp K H x d ∧ Dp K H y e ∧ d.canLay0 = true ∧ e.canLay0 = true ∧ d.depth ≤ 60 ∧ Q (.bl (if neg then !PyData.eqv d e else PyData.eqv d e)) H
section
variable {X : Cx}
theorem op_eqG (hu : X.A.units + 64 < cLine) : OpR X (compareOp .Eq) (rEqG X.K false) := by
  intro pins s σ H x y v u Q I rx ry h
  obtain ⟨d, e, hd, he, sd, se, dd, q⟩ := h
  obtain ⟨as, r1⟩ := Dp.reads I d x v hd rx
  obtain ⟨bs, r2⟩ := Dp.reads I e y u he ry
  have z : min d.depth e.depth ≤ d.depth := Nat.min_le_left _ _
  exact SeqAt.compareEq_reads r1 r2 sd se (by omega) ⟨.bl _, H, I, rfl, q⟩
theorem op_neG (hu : X.A.units + 64 < cLine) : OpR X (compareOp .NotEq) (rEqG X.K true) := by
  intro pins s σ H x y v u Q I rx ry h
  obtain ⟨d, e, hd, he, sd, se, dd, q⟩ := h
  obtain ⟨as, r1⟩ := Dp.reads I d x v hd rx
  obtain ⟨bs, r2⟩ := Dp.reads I e y u he ry
  have z : min d.depth e.depth ≤ d.depth := Nat.min_le_left _ _
  exact SeqAt.compareNe_reads r1 r2 sd se (by omega) ⟨.bl _, H, I, rfl, q⟩
theorem eq_s : OpS X.K eqD (rEqG X.K false) := by
  intro as H x y z v u Q n e r1 r2 k
  unfold eqD at e
  by_cases hc : okE 60 x = true ∧ okE 60 y = true
  · rw [if_pos hc] at e; cases e
    refine ⟨_, _, okE_rt hc.1 r1, okE_rt hc.2 r2, (okE_lay hc.1).1, (okE_lay hc.2).1, (okE_lay hc.1).2, ?_⟩
    rw [← eqv_py hc.1 hc.2]
    exact k _ H (Same.refl H) (.bl _)
  · rw [if_neg hc] at e; cases e
theorem ne_s : OpS X.K neD (rEqG X.K true) := by
  intro as H x y z v u Q n e r1 r2 k
  unfold neD at e
  by_cases hc : okE 60 x = true ∧ okE 60 y = true
  · rw [if_pos hc] at e; cases e
    refine ⟨_, _, okE_rt hc.1 r1, okE_rt hc.2 r2, (okE_lay hc.1).1, (okE_lay hc.2).1, (okE_lay hc.1).2, ?_⟩
    rw [← eqv_py hc.1 hc.2]
    exact k _ H (Same.refl H) (.bl _)
  · rw [if_neg hc] at e; cases e
/-! ### in -/
def rInG (K : PySem.W.Frag) (neg : Bool) : R2 := fun x y H Q => (∃ d ds, Dp K H x d ∧ (Dp K H y (.list ds) ∨ Dp K H y (.tuple ds)) ∧ d.canLay0 = true ∧ PyData.canLayAll0 ds = true ∧ d.depth ≤ 60 ∧ Q (.bl (if neg then !(ds.any fun z => PyData.eqv z d) else ds.any fun z => PyData.eqv z d)) H) ∨
  ∃ (c : Nat) (z : Str), x = .str ⟨#[c]⟩ ∧ y = .str z ∧ Q (.bl (if neg then !decide (c ∈ z.cps.toList) else decide (c ∈ z.cps.toList))) H
theorem op_inG (hu : X.A.units + 64 < cLine) : OpR X (compareOp .In) (rInG X.K false) := by
  intro pins s σ H x y v u Q I rx ry h
  rcases h with ⟨d, ds, hd, he, sd, se, dd, q⟩ | ⟨c, z, rfl, rfl, q⟩
  · obtain ⟨as, r1⟩ := Dp.reads I d x v hd rx
    have z : min (PyData.depthAll ds) d.depth ≤ d.depth := Nat.min_le_right _ _
    rcases he with he | he
    · obtain ⟨bs, r2⟩ := Dp.reads I _ y u he ry
      exact SeqAt.in_list_reads r2 r1 se sd (by omega) ⟨.bl _, H, I, rfl, q⟩
    · obtain ⟨bs, r2⟩ := Dp.reads I _ y u he ry
      exact SeqAt.in_tuple_reads r2 r1 se sd (by omega) ⟨.bl _, H, I, rfl, q⟩
  · exact op_in_sign pins s σ H _ _ v u Q I rx ry ⟨c, z, rfl, rfl, q⟩
theorem op_notInG (hu : X.A.units + 64 < cLine) : OpR X (compareOp .NotIn) (rInG X.K true) := by
  intro pins s σ H x y v u Q I rx ry h
  rcases h with ⟨d, ds, hd, he, sd, se, dd, q⟩ | ⟨c, z, rfl, rfl, q⟩
  · obtain ⟨as, r1⟩ := Dp.reads I d x v hd rx
    have z : min (PyData.depthAll ds) d.depth ≤ d.depth := Nat.min_le_right _ _
    rcases he with he | he
    · obtain ⟨bs, r2⟩ := Dp.reads I _ y u he ry
      exact SeqAt.notIn_list_reads r2 r1 se sd (by omega) ⟨.bl _, H, I, rfl, q⟩
    · obtain ⟨bs, r2⟩ := Dp.reads I _ y u he ry
      exact SeqAt.notIn_tuple_reads r2 r1 se sd (by omega) ⟨.bl _, H, I, rfl, q⟩
  · exact op_notIn_sign pins s σ H _ _ v u Q I rx ry ⟨c, z, rfl, rfl, q⟩
def oneS (s : Str) : Option Nat := match s.cps.toList with
  | [c] => some c
  | _ => none
def inB (x y : D) : Option Bool := match y with
  | .lst l => if okE 60 x = true ∧ l.all (okE 60) = true then some (l.any fun z => eqv z x) else none
  | .tup l => if okE 60 x = true ∧ l.all (okE 60) = true then some (l.any fun z => eqv z x) else none
  | .str z => (match x with
    | .str c => (match oneS c with
      | some c => some (decide (c ∈ z.cps.toList))
      | none => none)
    | _ => none)
  | _ => none
def inD (x y : D) : Option D := (inB x y).map .bl
def notInD (x y : D) : Option D := (inB x y).map fun b => .bl (!b)
theorem any_py {x : D} (hx : okE 60 x = true) : ∀ {l : List D}, l.all (okE 60) = true → (toPys l).any (fun z => PyData.eqv z (toPy x)) = l.any fun z => eqv z x
  | [], _ => rfl
  | d :: l, h => by
    simp only [List.all_cons, Bool.and_eq_true] at h
    simp only [toPys, List.any_cons]
    rw [any_py hx h.2, eqv_py h.1 hx]
theorem oneS_ok {s : Str} {c : Nat} (h : oneS s = some c) : s = ⟨#[c]⟩ := by
  unfold oneS at h
  split at h
  · rename_i e
    cases h
    obtain ⟨a⟩ := s
    have : a = #[c] := by
      have := congrArg List.toArray e
      simpa using this
    rw [this]
  · cases h
theorem in_core {as : List Addr} {H : Hp} {x y : D} {v u : V} {Q : VK} {b : Bool} (neg : Bool) (e : inB x y = some b) (r1 : RT X.K H as x v) (r2 : RT X.K H as y u) (q : Q (.bl (if neg then !b else b)) H) : rInG X.K neg v u H Q := by
  cases y with
  | lst l =>
    by_cases hc : okE 60 x = true ∧ l.all (okE 60) = true
    · rw [inB, if_pos hc] at e; cases e
      refine .inl ⟨_, _, okE_rt hc.1 r1, .inl (by have := okE_rt (n := 61) (d := .lst l) (by simpa [okE] using hc.2) r2; simpa [toPy] using this), (okE_lay hc.1).1, canLayAll_of fun p hp => ?_, (okE_lay hc.1).2, ?_⟩
      · obtain ⟨d, hd, rfl⟩ := toPys_mem hp
        exact (okE_lay (List.all_eq_true.mp hc.2 d hd)).1
      · rw [any_py hc.1 hc.2]; exact q
    · rw [inB, if_neg hc] at e; cases e
  | tup l =>
    by_cases hc : okE 60 x = true ∧ l.all (okE 60) = true
    · rw [inB, if_pos hc] at e; cases e
      refine .inl ⟨_, _, okE_rt hc.1 r1, .inr (by have := okE_rt (n := 61) (d := .tup l) (by simpa [okE] using hc.2) r2; simpa [toPy] using this), (okE_lay hc.1).1, canLayAll_of fun p hp => ?_, (okE_lay hc.1).2, ?_⟩
      · obtain ⟨d, hd, rfl⟩ := toPys_mem hp
        exact (okE_lay (List.all_eq_true.mp hc.2 d hd)).1
      · rw [any_py hc.1 hc.2]; exact q
    · rw [inB, if_neg hc] at e; cases e
  | str z =>
    cases x with
    | str c =>
      cases e2 : oneS c with
      | none => simp [inB, e2] at e
      | some c' =>
        simp [inB, e2] at e
        subst e
        cases r1.str
        cases r2.str
        exact .inr ⟨c', z, by rw [oneS_ok e2], rfl, by simpa using q⟩
    | _ => cases e
  | _ => cases e
theorem in_s : OpS X.K inD (rInG X.K false) := by
  intro as H x y z v u Q n e r1 r2 k
  unfold inD at e
  cases e2 : inB x y with
  | none => rw [e2] at e; cases e
  | some b =>
    rw [e2] at e; cases e
    exact in_core false e2 r1 r2 (k _ H (Same.refl H) (.bl _))
theorem notIn_s : OpS X.K notInD (rInG X.K true) := by
  intro as H x y z v u Q n e r1 r2 k
  unfold notInD at e
  cases e2 : inB x y with
  | none => rw [e2] at e; cases e
  | some b =>
    rw [e2] at e; cases e
    exact in_core true e2 r1 r2 (k _ H (Same.refl H) (.bl _))
/-! ### is None -/
def isNon : D → Bool
  | .non => true
  | _ => false
def isND (x y : D) : Option D := match y with
  | .non => some (.bl (isNon x))
  | _ => none
def notND (x y : D) : Option D := match y with
  | .non => some (.bl (!isNon x))
  | _ => none
theorem RT.isnon {K : PySem.W.Frag} {H : Hp} {as : List Addr} {d : D} {v : V} (r : RT K H as d v) : isNon d = decide (v = .non) := by
  cases r with
  | val r => cases r <;> simp [isNon]
  | cell r => cases r <;> simp [isNon]
theorem is_s : OpS X.K isND (fun x y H Q => y = .non ∧ Q (.bl (decide (x = .non))) H) := by
  intro as H x y z v u Q n e r1 r2 k
  cases y with
  | non =>
    cases e
    exact ⟨r2.non, by rw [← r1.isnon]; exact k _ H (Same.refl H) (.bl _)⟩
  | _ => cases e
theorem isnot_s : OpS X.K notND (fun x y H Q => y = .non ∧ Q (.bl (!decide (x = .non))) H) := by
  intro as H x y z v u Q n e r1 r2 k
  cases y with
  | non =>
    cases e
    exact ⟨r2.non, by rw [← r1.isnon]; exact k _ H (Same.refl H) (.bl _)⟩
  | _ => cases e
end
example : eqv (.tup [.int 1, .lst [.bl true, .str "ab"]]) (.tup [.int 1, .lst [.bl true, .str "ab"]]) = true := by decide +kernel
end DL

set_option Elab.async false
set_option linter.all false
set_option maxRecDepth 100000
set_option maxHeartbeats 4000000
namespace DL
open PySem PySem.Spec PyProof.Rows L2

/-! ### numbers -/
def addD : D → D → Option D
  | .int i, .int j => some (.int (i + j))
  | .str a, .str b => if a.length + b.length ≤ 16777216 then some (.str (a ++ b)) else none
  | .lst a, .lst b => if a.length + b.length ≤ 16777216 then some (.lst (a ++ b)) else none
  | .tup a, .tup b => if a.length + b.length ≤ 16777216 then some (.tup (a ++ b)) else none
  | _, _ => none
def subD : D → D → Option D
  | .int i, .int j => some (.int (i - j))
  | _, _ => none
def mulD : D → D → Option D
  | .int i, .int j => if i.natAbs.log2 + j.natAbs.log2 < 1000000 then some (.int (i * j)) else none
  | .lst l, .int k => if 0 ≤ k ∧ k ≤ 1000000 ∧ l.length * k.toNat ≤ 16777216 then some (.lst (List.replicate k.toNat l).flatten) else none
  | .tup l, .int k => if l.isEmpty = false ∧ 2 ≤ k ∧ k ≤ 1000 ∧ l.length ≤ 1000 then some (.tup (List.replicate k.toNat l).flatten) else none
  | _, _ => none
def fdivD : D → D → Option D
  | .int i, .int j => if 0 < j ∧ j.natAbs.log2 < 9000 then some (.int (i / j)) else none
  | _, _ => none
def modD : D → D → Option D
  | .int i, .int j => if 0 < j then some (.int (i % j)) else none
  | _, _ => none
def powD : D → D → Option D
  | .int i, .int j => if 0 ≤ j ∧ (Builtin.Int.intBits i : Int) * j ≤ 2 ^ 27 then some (.int (i ^ j.toNat)) else none
  | _, _ => none
section
variable {X : Cx}
abbrev rAddAll (K : PySem.W.Frag) : R2 := fun x y H Q => (∃ i j, x = .int i ∧ y = .int j ∧ Q (.int (i + j)) H) ∨ (∃ i j, x = .str i ∧ y = .str j ∧ i.length + j.length ≤ sizeLine ∧ Q (.str (i ++ j)) H) ∨ rCat x y H Q ∨ rCatA K x y H Q
theorem op_addAll : OpR X (binaryOp .Add) (rAddAll X.K) := op_add.or (op_add_str.or (op_cat.or op_catA))
theorem add_s : OpS X.K addD (rAddAll X.K) := by
  intro as H x y z v u Q n e r1 r2 k
  cases x with
  | int i =>
    cases y with
    | int j => cases e; cases r1.int; cases r2.int; exact .inl ⟨i, j, rfl, rfl, k _ H (Same.refl H) (.int _)⟩
    | _ => cases e
  | str a =>
    cases y with
    | str b =>
      by_cases hc : a.length + b.length ≤ 16777216
      · rw [addD, if_pos hc] at e; cases e; cases r1.str; cases r2.str
        exact .inr (.inl ⟨a, b, rfl, rfl, by rw [sizeLine_eq]; exact hc, k _ H (Same.refl H) (.str _)⟩)
      · rw [addD, if_neg hc] at e; cases e
    | _ => cases e
  | lst a =>
    cases y with
    | lst b =>
      by_cases hc : a.length + b.length ≤ 16777216
      · rw [addD, if_pos hc] at e; cases e
        obtain ⟨p, vs, rfl, rr, hp⟩ := r1.lst
        obtain ⟨q, us, rfl, ss, hq⟩ := r2.lst
        refine .inr (.inr (.inl ⟨p, q, vs, us, rfl, rfl, hp, hq, by rw [sizeLine_eq, ← rr.length, ← ss.length]; exact hc, fun p hp => ?_⟩))
        have sm := same_upd (o := .lst (vs ++ us)) hp
        exact k _ _ sm (.lst upd_same (n p hp) ((rr.append ss).fr (.of_same sm)))
      · rw [addD, if_neg hc] at e; cases e
    | _ => cases e
  | tup a =>
    cases y with
    | tup b =>
      by_cases hc : a.length + b.length ≤ 16777216
      · rw [addD, if_pos hc] at e; cases e
        obtain ⟨p, vs, rfl, rr, hp⟩ := r1.tup
        obtain ⟨q, us, rfl, ss, hq⟩ := r2.tup
        refine .inr (.inr (.inr ⟨p, q, vs, us, rfl, rfl, hp, hq, by rw [sizeLine_eq, ← rr.length, ← ss.length]; exact hc, fun e => ?_, fun e1 e => ?_, fun e1 e2 p hp => ?_⟩))
        · subst e
          have := rr.append ss
          exact k _ H (Same.refl H) (.tup hq this)
        · subst e
          have := rr.append ss
          rw [List.append_nil] at this
          exact k _ H (Same.refl H) (.tup hp this)
        · have sm := same_upd (o := .tup (vs ++ us)) hp
          exact k _ _ sm (.tup (SqT.of upd_same) ((rr.append ss).fr (.of_same sm)))
      · rw [addD, if_neg hc] at e; cases e
    | _ => cases e
  | _ => cases e
theorem sub_s : OpS X.K subD (rI0 fun i j => .int (i - j)) := by
  intro as H x y z v u Q n e r1 r2 k
  cases x with
  | int i =>
    cases y with
    | int j => cases e; cases r1.int; cases r2.int; exact ⟨i, j, rfl, rfl, k _ H (Same.refl H) (.int _)⟩
    | _ => cases e
  | _ => cases e
abbrev rMulAll (K : PySem.W.Frag) : R2 := fun x y H Q => (rI CMulW fun i j => .int (i * j)) x y H Q ∨ rRep x y H Q ∨ rRepT K x y H Q
theorem op_mulAll : OpR X (binaryOp .Mult) (rMulAll X.K) := op_mulW.or (op_rep.or op_repT)
theorem RVs.rep {K : PySem.W.Frag} {H : Hp} {as : List Addr} {ds : List D} {vs : List V} (r : RVs K H as ds vs) : ∀ k : Nat, RVs K H as (List.replicate k ds).flatten (List.replicate k vs).flatten
  | 0 => .nil
  | k + 1 => by
    rw [List.replicate_succ, List.replicate_succ, List.flatten_cons, List.flatten_cons]
    exact r.append (RVs.rep r k)
theorem mul_s : OpS X.K mulD (rMulAll X.K) := by
  intro as H x y z v u Q n e r1 r2 k
  cases x with
  | int i =>
    cases y with
    | int j =>
      by_cases hc : i.natAbs.log2 + j.natAbs.log2 < 1000000
      · rw [mulD, if_pos hc] at e; cases e; cases r1.int; cases r2.int
        exact .inl ⟨i, j, rfl, rfl, hc, k _ H (Same.refl H) (.int _)⟩
      · rw [mulD, if_neg hc] at e; cases e
    | _ => cases e
  | lst l =>
    cases y with
    | int j =>
      by_cases hc : 0 ≤ j ∧ j ≤ 1000000 ∧ l.length * j.toNat ≤ 16777216
      · rw [mulD, if_pos hc] at e; cases e; cases r2.int
        obtain ⟨p, vs, rfl, rr, hp⟩ := r1.lst
        refine .inr (.inl ⟨p, j, vs, rfl, rfl, hp, by omega, by omega, by rw [sizeLine_eq, ← rr.length]; exact hc.2.2, fun q hq => ?_⟩)
        have sm := same_upd (o := .lst (List.replicate j.toNat vs).flatten) hq
        exact k _ _ sm (.lst upd_same (n q hq) ((rr.rep _).fr (.of_same sm)))
      · rw [mulD, if_neg hc] at e; cases e
    | _ => cases e
  | tup l =>
    cases y with
    | int j =>
      by_cases hc : l.isEmpty = false ∧ 2 ≤ j ∧ j ≤ 1000 ∧ l.length ≤ 1000
      · rw [mulD, if_pos hc] at e; cases e; cases r2.int
        obtain ⟨p, vs, rfl, rr, hp⟩ := r1.tup
        refine .inr (.inr ⟨p, j, vs, rfl, rfl, hp, fun z => ?_, hc.2.1, hc.2.2.1, by rw [← rr.length]; exact hc.2.2.2, fun q hq => ?_⟩)
        · subst z; cases rr; simp at hc
        · have sm := same_upd (o := .tup (List.replicate j.toNat vs).flatten) hq
          exact k _ _ sm (.tup (SqT.of upd_same) ((rr.rep _).fr (.of_same sm)))
      · rw [mulD, if_neg hc] at e; cases e
    | _ => cases e
  | _ => cases e
theorem fdiv_s : OpS X.K fdivD (rI CDivW fun i j => .int (i / j)) := by
  intro as H x y z v u Q n e r1 r2 k
  cases x with
  | int i =>
    cases y with
    | int j =>
      by_cases hc : 0 < j ∧ j.natAbs.log2 < 9000
      · rw [fdivD, if_pos hc] at e; cases e; cases r1.int; cases r2.int
        exact ⟨i, j, rfl, rfl, hc, k _ H (Same.refl H) (.int _)⟩
      · rw [fdivD, if_neg hc] at e; cases e
    | _ => cases e
  | _ => cases e
theorem mod_s : OpS X.K modD (rI (fun _ j => 0 < j) fun i j => .int (i % j)) := by
  intro as H x y z v u Q n e r1 r2 k
  cases x with
  | int i =>
    cases y with
    | int j =>
      by_cases hc : 0 < j
      · rw [modD, if_pos hc] at e; cases e; cases r1.int; cases r2.int
        exact ⟨i, j, rfl, rfl, hc, k _ H (Same.refl H) (.int _)⟩
      · rw [modD, if_neg hc] at e; cases e
    | _ => cases e
  | _ => cases e
theorem op_powB : OpR X (binaryOp .Pow) (rI (fun i j => 0 ≤ j ∧ (Builtin.Int.intBits i : Int) * j ≤ 2 ^ 27) fun i j => .int (i ^ j.toNat)) := opI fun _ _ _ _ _ _ _ hc q => pow_int hc.1 hc.2 q
theorem pow_s : OpS X.K powD (rI (fun i j => 0 ≤ j ∧ (Builtin.Int.intBits i : Int) * j ≤ 2 ^ 27) fun i j => .int (i ^ j.toNat)) := by
  intro as H x y z v u Q n e r1 r2 k
  cases x with
  | int i =>
    cases y with
    | int j =>
      by_cases hc : 0 ≤ j ∧ (Builtin.Int.intBits i : Int) * j ≤ 2 ^ 27
      · rw [powD, if_pos hc] at e; cases e; cases r1.int; cases r2.int
        exact ⟨i, j, rfl, rfl, hc, k _ H (Same.refl H) (.int _)⟩
      · rw [powD, if_neg hc] at e; cases e
    | _ => cases e
  | _ => cases e
end
/-! ### comparisons of order -/
def cmpI (p : Int → Int → Bool) : D → D → Option D
  | .int i, .int j => some (.bl (p i j))
  | _, _ => none
/-- tuples of ints -/
def intsD : List D → Option (List Int)
  | [] => some []
  | .int i :: r => (intsD r).map (i :: ·)
  | _ :: _ => none
def ltD : D → D → Option D
  | .int i, .int j => some (.bl (decide (i < j)))
  | .tup a, .tup b => (match intsD a, intsD b with
    | some x, some y => some (.bl (HT.lexLt x y))
    | _, _ => none)
  | .str a, .str b => some (.bl (decide (a.cps.toList < b.cps.toList)))
  | _, _ => none
def leD : D → D → Option D := cmpI fun i j => decide (i ≤ j)
def gtD : D → D → Option D := cmpI fun i j => decide (j < i)
def geD : D → D → Option D := cmpI fun i j => decide (j ≤ i)
theorem intsD_ok {K : PySem.W.Frag} {H : Hp} {as : List Addr} : ∀ {ds : List D} {vs : List V} {ns : List Int}, intsD ds = some ns → RVs K H as ds vs → vs = ns.map V.int
  | [], _, _, e, r => by cases e; cases r; rfl
  | d :: ds, _, ns, e, r => by
    cases d with
    | int i =>
      cases e2 : intsD ds with
      | none => simp [intsD, e2] at e
      | some ms =>
        simp [intsD, e2] at e
        subst e
        cases r with
        | cons r1 r2 =>
          cases r1
          rw [intsD_ok e2 r2]; rfl
    | _ => cases e
section
variable {X : Cx}
theorem cmpI_s {p : Int → Int → Bool} : OpS X.K (cmpI p) (rI0 fun i j => .bl (p i j)) := by
  intro as H x y z v u Q n e r1 r2 k
  cases x with
  | int i =>
    cases y with
    | int j => cases e; cases r1.int; cases r2.int; exact ⟨i, j, rfl, rfl, k _ H (Same.refl H) (.bl _)⟩
    | _ => cases e
  | _ => cases e
abbrev rLtAll (K : PySem.W.Frag) : R2 := fun x y H Q => (rI0 fun i j => .bl (decide (i < j))) x y H Q ∨ rLtT K x y H Q ∨ ∃ i j, x = .str i ∧ y = .str j ∧ Q (.bl (decide (i.cps.toList < j.cps.toList))) H
theorem op_ltAll (hu : X.A.units < cLine) : OpR X (compareOp .Lt) (rLtAll X.K) := op_lt.or ((op_ltT hu).or op_lt_str)
theorem lt_s : OpS X.K ltD (rLtAll X.K) := by
  intro as H x y z v u Q n e r1 r2 k
  cases x with
  | int i =>
    cases y with
    | int j => cases e; cases r1.int; cases r2.int; exact .inl ⟨i, j, rfl, rfl, k _ H (Same.refl H) (.bl _)⟩
    | _ => cases e
  | tup a =>
    cases y with
    | tup b =>
      cases e1 : intsD a with
      | none => simp [ltD, e1] at e
      | some ns =>
        cases e2 : intsD b with
        | none => simp [ltD, e1, e2] at e
        | some ms =>
          simp [ltD, e1, e2] at e
          subst e
          obtain ⟨p, vs, rfl, rr, hp⟩ := r1.tup
          obtain ⟨q, us, rfl, ss, hq⟩ := r2.tup
          cases intsD_ok e1 rr
          cases intsD_ok e2 ss
          exact .inr (.inl ⟨p, q, ns, ms, rfl, rfl, hp, hq, k _ H (Same.refl H) (.bl _)⟩)
    | _ => cases e
  | str a =>
    cases y with
    | str b => cases e; cases r1.str; cases r2.str; exact .inr (.inr ⟨a, b, rfl, rfl, k _ H (Same.refl H) (.bl _)⟩)
    | _ => cases e
  | _ => cases e
end
/-! ### one operand -/
def UnS (K : PySem.W.Frag) (f : D → Option D) (r : V → Hp → VK → Prop) : Prop := ∀ (as : List Addr) (H : Hp) (x z : D) (v : V) (Q : VK), (∀ p, H p = none → p ∉ as) → f x = some z → RT K H as x v →
  (∀ w H', Same H H' → RV K H' as z w → Q w H') → r v H Q
def mUn (f : D → Option D) (ma : M D) : M D := fun ds h => (ma ds h).bind fun x h1 => match f (rd h1 x) with
  | some z => .ok z h1
  | none => .no
def negD : D → Option D
  | .int i => some (.int (-i))
  | _ => none
section
variable {X : Cx} {W : WX} {pos : Pos} {a b c e : Expr} {ma mb mc : M D}
theorem de_un {op : UnaryOp} {f : D → Option D} {r : V → Hp → VK → Prop} (ho : UnR X (unaryOp op) r) (hs : UnS X.K f r) (ha : DE X W a ma) : DE X W (.UnaryOp op a pos) (mUn f ma) :=
  PE.imp (pe_un ho ha) fun σ H Q ⟨as, ds, h, s, p⟩ => ⟨as, ds, h, s, PostE.bindE p fun x h1 v H1 as1 f1 r1 hr1 p1 => by
    cases e : f (rd h1 x) with
    | none => rw [e] at p1; exact p1.elim
    | some z =>
      rw [e] at p1
      exact hs as1 H1 _ z v Q (fun p hp => hr1.notin hp) e (r1.rt hr1) fun w H' sm rw => p1 w H' as1 (.of_same sm) (.val rw) (hr1.same sm)⟩
theorem neg_s : UnS X.K negD (rU fun i => .int (-i)) := by
  intro as H x z v Q n e r k
  cases x with
  | int i => cases e; cases r.int; exact ⟨i, rfl, k _ H (Same.refl H) (.int _)⟩
  | _ => cases e
theorem de_neg (ha : DE X W a ma) : DE X W (.UnaryOp .USub a pos) (mUn negD ma) := de_un un_neg neg_s ha
theorem de_add (ha : DE X W a ma) (hb : DE X W b mb) : DE X W (.BinOp a .Add b pos) (mBin addD ma mb) := de_bin op_addAll add_s ha hb
theorem de_sub (ha : DE X W a ma) (hb : DE X W b mb) : DE X W (.BinOp a .Sub b pos) (mBin subD ma mb) := de_bin op_sub sub_s ha hb
theorem de_mul (ha : DE X W a ma) (hb : DE X W b mb) : DE X W (.BinOp a .Mult b pos) (mBin mulD ma mb) := de_bin op_mulAll mul_s ha hb
theorem de_fdiv (ha : DE X W a ma) (hb : DE X W b mb) : DE X W (.BinOp a .FloorDiv b pos) (mBin fdivD ma mb) := de_bin op_fdivW fdiv_s ha hb
theorem de_mod (ha : DE X W a ma) (hb : DE X W b mb) : DE X W (.BinOp a .Mod b pos) (mBin modD ma mb) := de_bin op_mod mod_s ha hb
theorem de_pow (ha : DE X W a ma) (hb : DE X W b mb) : DE X W (.BinOp a .Pow b pos) (mBin powD ma mb) := de_bin op_powB pow_s ha hb
/-! comparisons by their operator: the rule for a value and for a test -/
structure CmpK (X : Cx) (op : CmpOp) (f : D → D → Option D) : Prop where
  ex : ∃ r, OpR X (compareOp op) r ∧ OpS X.K f r
theorem ck_lt {k : Nat} (hr : Room k X.A) : CmpK X .Lt ltD := ⟨_, op_ltAll hr.units0, lt_s⟩
theorem ck_le : CmpK X .LtE leD := ⟨_, op_le, cmpI_s⟩
theorem ck_gt : CmpK X .Gt gtD := ⟨_, op_gt, cmpI_s⟩
theorem ck_ge : CmpK X .GtE geD := ⟨_, op_ge, cmpI_s⟩
theorem ck_eq {k : Nat} (hr : Room k X.A) : CmpK X .Eq eqD := ⟨_, op_eqG hr.units, eq_s⟩
theorem ck_ne {k : Nat} (hr : Room k X.A) : CmpK X .NotEq neD := ⟨_, op_neG hr.units, ne_s⟩
theorem ck_in {k : Nat} (hr : Room k X.A) : CmpK X .In inD := ⟨_, op_inG hr.units, in_s⟩
theorem ck_notIn {k : Nat} (hr : Room k X.A) : CmpK X .NotIn notInD := ⟨_, op_notInG hr.units, notIn_s⟩
theorem ck_is : CmpK X .Is isND := ⟨_, op_isN, is_s⟩
theorem ck_isNot : CmpK X .IsNot notND := ⟨_, op_notN, isnot_s⟩
theorem de_cm {op : CmpOp} {f : D → D → Option D} (c : CmpK X op f) (ha : DE X W a ma) (hb : DE X W b mb) (hm : behindInMarks op b = false := by first | rfl | exact nomark _ (by decide) (by decide)) : DE X W (.Compare a [op] [b] pos) (mBin f ma mb) := by
  obtain ⟨r, h1, h2⟩ := c.ex
  exact de_cmp h1 h2 hm ha hb
theorem dt_cm {op : CmpOp} {f : D → D → Option D} (c : CmpK X op f) (ha : DE X W a ma) (hb : DE X W b mb) (hm : behindInMarks op b = false := by first | rfl | exact nomark _ (by decide) (by decide)) : DT X W (.Compare a [op] [b] pos) (mTB (mBin f ma mb)) := by
  obtain ⟨r, h1, h2⟩ := c.ex
  exact dt_cmp h1 h2 hm ha hb
/-- a < b < c -/
def mChain (f g : D → D → Option D) (ma mb mc : M D) : M D := fun ds h => (ma ds h).bind fun x h1 => (mb ds h1).bind fun y h2 => match (f (rd h2 x) (rd h2 y)).bind isBl with
  | some true => (mc ds h2).bind fun z h3 => (match (g (rd h3 y) (rd h3 z)).bind isBl with
    | some k => .ok (.bl k) h3
    | none => .no)
  | some false => .ok (.bl false) h2
  | none => .no
theorem isBl_eq {d : D} {b : Bool} (h : isBl d = some b) : d = .bl b := by
  cases d <;> cases h; rfl
end
end DL

set_option Elab.async false
set_option linter.all false
set_option maxRecDepth 100000
set_option maxHeartbeats 4000000
namespace DL
open PySem PySem.Spec PyProof.Rows L2

/-! ### a < b < c -/
section
variable {X : Cx} {W : WX} {pos : Pos} {a b c e : Expr} {es : List Expr} {ma mb mc : M D} {me : M (List D)}
theorem chain_core {f g : D → D → Option D} {r r' : R2} (hs : OpS X.K f r) (hs' : OpS X.K g r') {σ : L2.St} {H : Hp} {Q : VK} (q : teM X.K X.mg W (mChain f g ma mb mc) σ H Q) : tChain r r' (teM X.K X.mg W ma) (teM X.K X.mg W mb) (teM X.K X.mg W mc) σ H Q := by
  obtain ⟨as, ds, h, s, p⟩ := q
  refine ⟨as, ds, h, s, PostE.bindE p fun x h1 v H1 as1 f1 r1 hr1 p1 => ?_⟩
  refine ⟨as1, ds, h1, ⟨s.env.grow f1, hr1⟩, PostE.bindE p1 fun y h2 u H2 as2 f2 r2 hr2 p2 => ?_⟩
  cases e : f (rd h2 x) (rd h2 y) with
  | none => simp only [e, Option.bind_none] at p2; exact p2.elim
  | some z =>
    cases ez : isBl z with
    | none => simp only [e, Option.bind_some, ez] at p2; exact p2.elim
    | some k =>
      have ez' := isBl_eq ez
      subst ez'
      refine hs as2 H2 _ _ _ v u _ (fun p hp => hr2.notin hp) e ((r1.grow f2).rt hr2) (r2.rt hr2) fun w H3 sm rw => ?_
      cases rw
      refine ⟨k, rfl, ?_⟩
      cases k with
      | false =>
        simp only [e, Option.bind_some, ez] at p2
        exact p2 (.bl false) H3 as2 (.of_same sm) (.val (.bl _)) (hr2.same sm)
      | true =>
        simp only [e, Option.bind_some, ez] at p2
        have gs : Grow as2 H2 as2 H3 := .of_same sm
        refine ⟨as2, ds, h2, ⟨s.env.grow (f1.trans (f2.trans gs)), hr2.same sm⟩, PostE.bindE (PostE.grow gs p2) fun z3 h3 w3 H4 as4 f4 r4 hr4 p4 => ?_⟩
        cases e4 : g (rd h3 y) (rd h3 z3) with
        | none => simp only [e4, Option.bind_none] at p4; exact p4.elim
        | some z4 =>
          cases ez4 : isBl z4 with
          | none => simp only [e4, Option.bind_some, ez4] at p4; exact p4.elim
          | some k4 =>
            simp only [e4, Option.bind_some, ez4] at p4
            have e5 := isBl_eq ez4
            subst e5
            exact hs' as4 H4 _ _ _ u w3 Q (fun p hp => hr4.notin hp) e4 ((r2.grow (gs.trans f4)).rt hr4) (r4.rt hr4) fun w H' sm rw => p4 w H' as4 (.of_same sm) (.val rw) (hr4.same sm)
theorem de_chain {op op' : CmpOp} {f g : D → D → Option D} (k : CmpK X op f) (k' : CmpK X op' g) (ha : DE X W a ma) (hb : DE X W b mb) (hc : DE X W c mc) (hm : lastMarks [op, op'] [b, c] = false := by with_unfolding_all rfl) :
    DE X W (.Compare a [op, op'] [b, c] pos) (mChain f g ma mb mc) := by
  obtain ⟨r, h1, h2⟩ := k.ex
  obtain ⟨r', h1', h2'⟩ := k'.ex
  exact PE.imp (pe_chain h1 h1' ha hb hc hm) fun σ H Q q => chain_core h2 h2' q
theorem dt_chain {op op' : CmpOp} {f g : D → D → Option D} (k : CmpK X op f) (k' : CmpK X op' g) (ha : DE X W a ma) (hb : DE X W b mb) (hc : DE X W c mc) (hm : lastMarks [op, op'] [b, c] = false := by with_unfolding_all rfl) :
    DT X W (.Compare a [op, op'] [b, c] pos) (mTB (mChain f g ma mb mc)) := by
  obtain ⟨r, h1, h2⟩ := k.ex
  obtain ⟨r', h1', h2'⟩ := k'.ex
  refine PT.imp (pt_chain h1 h1' ha hb hc hm) fun σ H Q ⟨as, ds, h, s, p⟩ => ?_
  refine chain_core (W := W) h2 h2' ⟨as, ds, h, s, PostT.bindE p fun x h1 v H1 as1 f1 r1 hr1 p1 => ?_⟩
  cases e : isBl x with
  | none => rw [e] at p1; exact p1.elim
  | some k =>
    rw [e] at p1
    exact ⟨k, isBl_ok e r1, p1 H1 as1 .refl hr1⟩
/-! ### a list that is changed later: a cell -/
def mNew (ma : M (List D)) : M D := fun ds h => (ma ds h).bind fun xs h1 => if xs.length ≤ 16777216 then .ok (.loc h1.length) (h1 ++ [.lst xs]) else .no
theorem get_snoc {α : Type} {l : List α} {x y : α} {n : Nat} (e : (l ++ [x])[n]? = some y) : (n < l.length ∧ l[n]? = some y) ∨ (n = l.length ∧ x = y) := by
  by_cases hn : n < l.length
  · rw [List.getElem?_append_left hn] at e
    exact .inl ⟨hn, e⟩
  · rw [List.getElem?_append_right (by omega)] at e
    by_cases hz : n - l.length = 0
    · rw [hz] at e
      simp at e
      exact .inr ⟨by omega, e⟩
    · rw [List.getElem?_eq_none (by simp; omega)] at e; cases e
/-- a new cell -/
theorem HeapR.pushG {K : PySem.W.Frag} {H : Hp} {as : List Addr} {h : Hs} (r : HeapR K H as h) {q : Addr} (hq : H q = none) {o : HO} {d : D} (rc : Grow as H (as ++ [q]) (upd H q o) → CellR K (upd H q o) (as ++ [q]) d q) :
    Grow as H (as ++ [q]) (upd H q o) ∧ HeapR K (upd H q o) (as ++ [q]) (h ++ [d]) := by
  have g : Grow as H (as ++ [q]) (upd H q o) := ⟨List.prefix_append _ _, fun a ha => by
    rcases List.mem_append.mp ha with z | z
    · exact .inl z
    · rw [List.mem_singleton.mp z]; exact .inr (fun o e => by rw [hq] at e; cases e), .of_same (same_upd hq)⟩
  have nq := r.notin hq
  refine ⟨g, ⟨by simp [r.len], ?_, fun n d' a e1 e2 => ?_⟩⟩
  · rw [List.nodup_append]
    exact ⟨r.nd, by simp, fun a ha b hb e => nq (by rw [List.mem_singleton.mp hb] at e; rw [← e]; exact ha)⟩
  · rcases get_snoc e1 with ⟨l1, q1⟩ | ⟨l1, q1⟩
    · rcases get_snoc e2 with ⟨l2, q2⟩ | ⟨l2, q2⟩
      · exact (r.at_ n d' a q1 q2).keep g (upd_ne fun z => nq (by rw [← z]; exact List.mem_of_getElem? q2))
      · exact absurd l1 (by rw [l2, r.len]; omega)
    · rcases get_snoc e2 with ⟨l2, q2⟩ | ⟨l2, q2⟩
      · exact absurd l2 (by rw [l1, r.len]; omega)
      · subst q1 q2
        exact rc g
theorem HeapR.push {K : PySem.W.Frag} {H : Hp} {as : List Addr} {h : Hs} (r : HeapR K H as h) {q : Addr} (hq : H q = none) {vs : List V} {ds : List D} (rv : RVs K H as ds vs) :
    Grow as H (as ++ [q]) (upd H q (.lst vs)) ∧ HeapR K (upd H q (.lst vs)) (as ++ [q]) (h ++ [.lst ds]) :=
  r.pushG hq fun g => .lst upd_same (rv.grow g)
theorem de_new (h : DA X W es me) : DE X W (.List es pos) (mNew me) :=
  PE.imp (pe_lst h) fun σ H Q ⟨as, ds, h, s, p⟩ => ⟨as, ds, h, s, PostE.bindA p fun xs h1 vs H1 as1 f1 r1 hr1 p1 => by
    by_cases hc : xs.length ≤ 16777216
    · rw [if_pos hc] at p1
      refine ⟨by rw [sizeLine_eq, ← r1.length]; exact hc, fun q hq => ?_⟩
      obtain ⟨g, hp⟩ := hr1.push hq (r1.rvs)
      exact p1 (.ref q) _ _ g (.loc (by rw [← hr1.len]; simp)) hp
    · rw [if_neg hc] at p1; exact p1.elim⟩
theorem nodup_at {α : Type} {l : List α} (hN : l.Nodup) {i j : Nat} {x : α} (a : l[i]? = some x) (b : l[j]? = some x) : i = j := by
  obtain ⟨h1, e1⟩ := List.getElem?_eq_some_iff.mp a
  obtain ⟨h2, e2⟩ := List.getElem?_eq_some_iff.mp b
  exact (List.getElem_inj hN).mp (e1.trans e2.symm)
/-- a cell holds another thing now -/
theorem HeapR.writeG {K : PySem.W.Frag} {H : Hp} {as : List Addr} {h : Hs} (r : HeapR K H as h) {n : Nat} {q : Addr} (e : as[n]? = some q) {o : HO} {d : D} (hT : ∀ o, H q = some o → isT o = false) (rc : Grow as H as (upd H q o) → CellR K (upd H q o) as d q) :
    Grow as H as (upd H q o) ∧ HeapR K (upd H q o) as (h.set n d) := by
  have hq : q ∈ as := List.mem_of_getElem? e
  have g : Grow as H as (upd H q o) := .of_fr fun b o hb _ hc => by
    have nb : b ≠ q := fun z => by
      subst z
      have h2 := hT o hb
      rw [hc hq] at h2; cases h2
    rw [upd_ne nb]; exact hb
  refine ⟨g, ⟨by simp [r.len], r.nd, fun m d' a e1 e2 => ?_⟩⟩
  by_cases hm : n = m
  · subst hm
    rw [e] at e2; cases e2
    have hl : n < h.length := by rw [← r.len]; exact (List.getElem?_eq_some_iff.mp e).1
    rw [List.getElem?_set_self hl] at e1
    cases e1
    exact rc g
  · rw [List.getElem?_set_ne hm] at e1
    refine (r.at_ m d' a e1 e2).keep g (upd_ne fun z => hm ?_)
    subst z
    exact nodup_at r.nd e e2
theorem HeapR.write {K : PySem.W.Frag} {H : Hp} {as : List Addr} {h : Hs} (r : HeapR K H as h) {n : Nat} {q : Addr} (e : as[n]? = some q) {us vs : List V} {ds : List D} (hl : H q = some (.lst us)) (rv : RVs K H as ds vs) :
    Grow as H as (upd H q (.lst vs)) ∧ HeapR K (upd H q (.lst vs)) as (h.set n (.lst ds)) :=
  r.writeG e (fun o z => by rw [hl] at z; cases z; rfl) fun g => .lst upd_same (rv.grow g)
/-! ### cells forgotten -/
mutual
/-- all cells that are told stand below n -/
def bel (n : Nat) : D → Bool
  | .loc m => Nat.blt m n
  | .tup l => bels n l
  | .lst l => bels n l
  | .frz l => bels n l
  | .dct _ l => bels n l
  | .obj _ l => bels n l
  | .dcf _ l => bels n l
  | _ => true
def bels (n : Nat) : List D → Bool
  | [] => true
  | d :: l => bel n d && bels n l
end
theorem pre_take {α : Type} {l l' : List α} (h : l <+: l') : l'.take l.length = l := by
  obtain ⟨t, rfl⟩ := h
  simp
theorem pre_at {α : Type} {l l' : List α} (h : l <+: l') {n : Nat} {x : α} (e : l'[n]? = some x) (hn : n < l.length) : l[n]? = some x := by
  obtain ⟨t, rfl⟩ := h
  rw [List.getElem?_append_left hn] at e
  exact e
theorem pre_sub {α : Type} {l l' : List α} (h : l <+: l') : ∀ a ∈ l, a ∈ l' := fun a ha => by
  obtain ⟨t, rfl⟩ := h
  exact List.mem_append_left _ ha
section
variable {K : PySem.W.Frag} {H : Hp} {as as' : List Addr}
mutual
theorem RV.shrink (h : as <+: as') : ∀ {d : D} {v : V}, bel as.length d = true → RV K H as' d v → RV K H as d v
  | _, _, _, .non => .non
  | _, _, _, .bl b => .bl b
  | _, _, _, .int i => .int i
  | _, _, _, .str s => .str s
  | _, _, _, .ty n => .ty n
  | _, _, _, .gl n => .gl n
  | _, _, _, .lam a b n m => .lam a b (fun z => n (pre_sub h _ z)) (fun z => m (pre_sub h _ z))
  | .tbl _, _, _, .exi a x n y => .exi a x (fun z => n (pre_sub h _ z)) fun dx e => ⟨fun z => (y dx e).1 (pre_sub h _ z), (y dx e).2⟩
  | .loc m, _, b, .loc e => .loc (pre_at h e (by simpa [bel, Nat.blt_eq] using b))
  | .tup l, _, b, .tup a r => .tup a (RVs.shrink h (by simpa [bel] using b) r)
  | .lst l, _, b, .lst a n r => .lst a (fun z => n (pre_sub h _ z)) (RVs.shrink h (by simpa [bel] using b) r)
  | .frz l, _, b, .frz a r => .frz (a.elim (fun z => .inl ⟨z.1, fun q => z.2 (pre_sub h _ q)⟩) .inr) (RVs.shrink h (by simpa [bel] using b) r)
  | .dct k l, _, b, .dct a n e r => .dct a (fun z => n (pre_sub h _ z)) e (RVs.shrink h (by simpa [bel] using b) r)
theorem RVs.shrink (h : as <+: as') : ∀ {d : List D} {v : List V}, bels as.length d = true → RVs K H as' d v → RVs K H as d v
  | _, _, _, .nil => .nil
  | d :: l, _, b, .cons r t => by
    simp only [bels, Bool.and_eq_true] at b
    exact .cons (RV.shrink h b.1 r) (RVs.shrink h b.2 t)
end
theorem RFs.shrink (h : as <+: as') : ∀ {d : List D} {v : List (Option V)}, bels as.length d = true → RFs K H as' d v → RFs K H as d v
  | _, _, _, .nil => .nil
  | d :: l, _, b, .cons r t => by
    simp only [bels, Bool.and_eq_true] at b
    exact .cons (r.elim .inl fun ⟨v, e, r⟩ => .inr ⟨v, e, RV.shrink h b.1 r⟩) (RFs.shrink h b.2 t)
theorem CellR.shrink (h : as <+: as') {d : D} {a : Addr} (b : bel as.length d = true) (r : CellR K H as' d a) : CellR K H as d a := by
  cases r with
  | lst h1 r => exact .lst h1 (r.shrink h (by simpa [bel] using b))
  | dct h1 e r => exact .dct h1 e (r.shrink h (by simpa [bel] using b))
  | dcf h1 e r => exact .dcf h1 e (r.shrink h (by simpa [bel] using b))
  | tbl ea h1 t c => exact .tbl ea h1 t fun pos cv e => let ⟨c, e1, e2, e3⟩ := c pos cv e; ⟨c, e1, e2, fun z => e3 (pre_sub h _ z)⟩
  | fnc h1 => exact .fnc h1
  | rng h1 => exact .rng h1
  | obj h1 n r => exact .obj h1 (fun z => n (pre_sub h _ z)) (r.shrink h (by simpa [bel] using b))
theorem bels_get {n : Nat} : ∀ {l : List D} {i : Nat} {d : D}, bels n l = true → l[i]? = some d → bel n d = true
  | [], _, _, _, e => by simp at e
  | d :: l, 0, _, b, e => by simp at e; subst e; simp only [bels, Bool.and_eq_true] at b; exact b.1
  | d :: l, i + 1, _, b, e => by simp only [bels, Bool.and_eq_true] at b; exact bels_get (i := i) b.2 (by simpa using e)
theorem HeapR.back {H' : Hp} {h : Hs} (g : Grow as H as' H') (r : HeapR K H' as' h) (b : bels as.length (h.take as.length) = true) : HeapR K H' as (h.take as.length) := by
  have hl : as.length ≤ as'.length := g.pre.length_le
  refine ⟨by simp [← r.len]; omega, by have := r.nd; obtain ⟨t, e⟩ := g.pre; rw [← e] at this; exact (List.nodup_append.mp this).1, fun m d a e1 e2 => ?_⟩
  have hm : m < as.length := (List.getElem?_eq_some_iff.mp e2).1
  have hb := bels_get b e1
  rw [List.getElem?_take, if_pos hm] at e1
  exact (r.at_ m d a e1 (pre_get g.pre e2)).shrink g.pre hb
end
theorem Grow.sub {as as' : List Addr} {H H' : Hp} (g : Grow as H as' H') : ∀ a ∈ as, a ∈ as' := pre_sub g.pre
theorem Grow.back {as as' : List Addr} {H H' : Hp} (g : Grow as H as' H') : Grow as H as H' := .of_fr g.fr
end

/-! ### defs -/
section
variable (K : PySem.W.Frag) (mg : Str → Option Value)
def PostC (as : List Addr) (H : Hp) (r : R D) (Q : VK) (E : XK) : Prop := match r with
  | .ok d h => ∀ v H' as', Grow as H as' H' → RD K H' as' d v → HeapR K H' as' h → Q v H'
  | .ex c p h => ∀ cls dx H' as', Grow as H as' H' → HeapR K H' as' h → ExR K mg H' as' c p cls dx → E cls dx H'
  | .no => False
def spD (np : Nat) (F : List D → Hs → R D) : Sp := fun vs H Q E => vs.length = np ∧ ∃ as ds h, RDs K H as ds vs ∧ HeapR K H as h ∧ PostC K mg as H (F ds h) Q E
end
structure FD (P : Program) (w : World) (K : PySem.W.Frag) (mg : Str → Option Value) (base : Heap) (k : Nat) (x : Str) (np : Nat) (F : List D → Hs → R D) : Prop where
  ex : ∃ f fd ps, mg x = some (.ref f) ∧ PySem.W.keepIn K (.ref f) = true ∧ Binds K fd ps [] ∧ FnOk P w K mg base (L2.CX P w) k f fd ps (spD K mg np F)
def mCall (np : Nat) (F : List D → Hs → R D) (me : M (List D)) : M D := fun ds h => (me ds h).bind fun xs h1 => if xs.length = np then F xs h1 else .no
section
variable {X : Cx} {W : WX} {pos p : Pos} {a b c e : Expr} {es : List Expr} {ma mb mc : M D} {me : M (List D)}
theorem PostC.ofE {K : PySem.W.Frag} {mg : Str → Option Value} {as : List Addr} {σ : L2.St} {H : Hp} {r : R D} {Q : VK} (p : PostE K mg W as σ H r Q) : PostC K mg as H r Q (WE W σ) := by
  cases r with
  | ok d h => exact p
  | ex c q h => exact fun cls dx H' as' g hr x => p cls dx H' as' g hr x
  | no => exact p
theorem de_call {k np : Nat} {x : Str} {F : List D → Hs → R D} (G : FD X.prog X.w X.K X.mg X.base k x np F) (hr : Room k X.A) (tk : Takes X W) (ha : DA X W (e :: es) me) (hg : Gl X x := by rfl) (hdb : (x == ("__debug__" : Str)) = false := by decide)
    (he : starEach (e :: es) X.env = (false, eval e X.env) :: starEach es X.env := by rfl) (hpl : (backTo pos (starEach es X.env)).any (·.1) = false := by rfl) : DE X W (.Call (.Name x p) (e :: es) [] pos) (mCall np F me) := by
  obtain ⟨f, fd, ps, hm, hk, hb, ok⟩ := G.ex
  refine PE.imp (pe_callSD (dvs := []) (E := WE W) ok hr hg hm hk hb .nil (fun σ => passAt tk σ) ha hdb he hpl) fun σ H Q ⟨as, ds, h, s, q⟩ => ?_
  refine ⟨as, ds, h, s, PostE.bindA q fun xs h1 vs H1 as1 f1 r1 hr1 p1 => ?_⟩
  by_cases hn : xs.length = np
  · rw [if_pos hn] at p1
    rw [List.append_nil]
    exact ⟨by rw [← r1.length]; exact hn, as1, xs, h1, r1, hr1, PostC.ofE p1⟩
  · rw [if_neg hn] at p1; exact p1.elim
end

/-! ### built-ins -/
def CallS (K : PySem.W.Frag) (f : List D → Option D) (r : List V → Hp → VK → Prop) : Prop := ∀ (as : List Addr) (H : Hp) (xs : List D) (z : D) (vs : List V) (Q : VK), (∀ p, H p = none → p ∉ as) → f xs = some z → Paired (RT K H as) xs vs →
  (∀ w H', Same H H' → RV K H' as z w → Q w H') → r vs H Q
def mB (f : List D → Option D) (me : M (List D)) : M D := fun ds h => (me ds h).bind fun xs h1 => match f (xs.map (rd h1)) with
  | some z => .ok z h1
  | none => .no
theorem RDs.rts {K : PySem.W.Frag} {H : Hp} {as : List Addr} {h : Hs} (s : HeapR K H as h) : ∀ {ds : List D} {vs : List V}, RDs K H as ds vs → Paired (RT K H as) (ds.map (rd h)) vs
  | _, _, .nil => .nil
  | _, _, .cons r t => .cons (r.rt s) (RDs.rts s t)
theorem rts1 {K : PySem.W.Frag} {H : Hp} {as : List Addr} {x : D} {vs : List V} (r : Paired (RT K H as) [x] vs) : ∃ v, vs = [v] ∧ RT K H as x v := by
  cases r with
  | cons r t => cases t; exact ⟨_, rfl, r⟩
theorem rts2 {K : PySem.W.Frag} {H : Hp} {as : List Addr} {x y : D} {vs : List V} (r : Paired (RT K H as) [x, y] vs) : ∃ v u, vs = [v, u] ∧ RT K H as x v ∧ RT K H as y u := by
  cases r with
  | cons r t => cases t with
    | cons r2 t => cases t; exact ⟨_, _, rfl, r, r2⟩
section
variable {X : Cx} {W : WX} {pos p : Pos} {e : Expr} {es : List Expr} {me : M (List D)} {x : Str} {id : String}
theorem de_callB {f : List D → Option D} {r : List V → Hp → VK → Prop} (hc : CallR X (.builtin id) r) (hs : CallS X.K f r) (hm : X.mg x = none) (hv : bootBuiltins x = some (.builtin id)) (ha : DA X W (e :: es) me) (hg : Gl X x := by rfl) (hn : x ≠ "__name__" := by decide) (hdb : (x == ("__debug__" : Str)) = false := by decide)
    (he : starEach (e :: es) X.env = (false, eval e X.env) :: starEach es X.env := by rfl) (hpl : (backTo pos (starEach es X.env)).any (·.1) = false := by rfl) : DE X W (.Call (.Name x p) (e :: es) [] pos) (mB f me) :=
  PE.imp (pe_callB hc hg hm hv ha hn hdb he hpl) fun σ H Q ⟨as, ds, h, s, q⟩ => ⟨as, ds, h, s, PostE.bindA q fun xs h1 vs H1 as1 f1 r1 hr1 p1 => by
    cases e : f (xs.map (rd h1)) with
    | none => rw [e] at p1; exact p1.elim
    | some z =>
      rw [e] at p1
      exact hs as1 H1 _ z vs Q (fun p hp => hr1.notin hp) e (r1.rts hr1) fun w H' sm rw => p1 w H' as1 (.of_same sm) (.val rw) (hr1.same sm)⟩
theorem de_callT {f : List D → Option D} {r : List V → Hp → VK → Prop} (hc : CallR X (.type id) r) (hs : CallS X.K f r) (hm : X.mg x = none) (hv : bootBuiltins x = some (.type id)) (ha : DA X W (e :: es) me) (hg : Gl X x := by rfl) (hn : x ≠ "__name__" := by decide) (hdb : (x == ("__debug__" : Str)) = false := by decide)
    (he : starEach (e :: es) X.env = (false, eval e X.env) :: starEach es X.env := by rfl) (hpl : (backTo pos (starEach es X.env)).any (·.1) = false := by rfl) : DE X W (.Call (.Name x p) (e :: es) [] pos) (mB f me) :=
  PE.imp (pe_callTy hc hg hm hv ha hn hdb he hpl) fun σ H Q ⟨as, ds, h, s, q⟩ => ⟨as, ds, h, s, PostE.bindA q fun xs h1 vs H1 as1 f1 r1 hr1 p1 => by
    cases e : f (xs.map (rd h1)) with
    | none => rw [e] at p1; exact p1.elim
    | some z =>
      rw [e] at p1
      exact hs as1 H1 _ z vs Q (fun p hp => hr1.notin hp) e (r1.rts hr1) fun w H' sm rw => p1 w H' as1 (.of_same sm) (.val rw) (hr1.same sm)⟩
/-- a built-in class as a value -/
theorem de_ty {n : String} (hm : X.mg x = none) (hv : bootBuiltins x = some (.type n)) (hg : Gl X x := by rfl) (hn : x ≠ "__name__" := by decide) (hdb : (x == ("__debug__" : Str)) = false := by decide) : DE X W (.Name x pos) (mC (.ty n)) :=
  de_c (pe_bltn hg hm hv (v := .ty n) rfl hn hdb) fun _ _ _ => .ty n
end
end DL

set_option Elab.async false
set_option linter.all false
set_option maxRecDepth 100000
set_option maxHeartbeats 4000000
namespace DL
open PySem PySem.Spec PyProof.Rows L2
def on1 (f : D → Option D) : List D → Option D
  | [x] => f x
  | _ => none
def on2 (f : D → D → Option D) : List D → Option D
  | [x, y] => f x y
  | _ => none
def len1 : D → Option D
  | .tup l => some (.int l.length)
  | .lst l => some (.int l.length)
  | .frz l => some (.int l.length)
  | .str s => if s.length ≤ 16777216 then some (.int s.length) else none
  | .dct ks _ => some (.int ks.length)
  | _ => none
def abs1 : D → Option D
  | .int i => some (.int (if i < 0 then -i else i))
  | _ => none
def max2 : D → D → Option D
  | .int i, .int j => some (.int (if j > i then j else i))
  | _, _ => none
def min2 : D → D → Option D
  | .int i, .int j => some (.int (if j < i then j else i))
  | _, _ => none
def toInt1 : D → Option D
  | .int i => some (.int i)
  | .bl b => some (.int (if b then 1 else 0))
  | _ => none
def blsD : List D → Option (List Bool)
  | [] => some []
  | .bl b :: r => (blsD r).map (b :: ·)
  | _ :: _ => none
def all1 : D → Option D
  | .lst l => (blsD l).map fun bs => .bl (bs.all id)
  | _ => none
def any1 : D → Option D
  | .lst l => (blsD l).map fun bs => .bl (bs.any id)
  | _ => none
def sum1 : D → Option D
  | .lst l => (intsD l).map fun ns => .int ns.sum
  | _ => none
def toTup1 : D → Option D
  | .lst l => some (.tup l)
  | .tup l => some (.tup l)
  | _ => none
def toLst1 : D → Option D
  | .lst l => some (.lst l)
  | .frz l => some (.lst l)
  | .tup l => some (.lst l)
  | _ => none
def tyN : D → Option String
  | .non => some "NoneType"
  | .bl _ => some "bool"
  | .int _ => some "int"
  | .str _ => some "str"
  | .tup _ => some "tuple"
  | .lst _ => some "list"
  | .frz _ => some "list"
  | .dct _ _ => some "dict"
  | _ => none
def isT2 (t c : String) : Option Bool :=
  if (["int", "bool", "str", "tuple", "list", "dict"] : List String).contains c then some (t == c || (t == "bool" && c == "int")) else none
def isi2 : D → D → Option D
  | x, .ty c => (match tyN x with
    | some t => (isT2 t c).map .bl
    | none => none)
  | _, _ => none
def repr1 : D → Option D
  | .bl b => some (.str (if b then "True" else "False"))
  | .non => some (.str "None")
  | .int i => if i.natAbs.log2 < 1920 then some (.str (toString i)) else none
  | .str s => if (reprText s).length ≤ 16777216 then some (.str (reprText s)) else none
  | _ => none
def divmod2 : D → D → Option D
  | .int i, .int j => if 0 < j ∧ Builtin.Int.intBits i ≤ Builtin.Int.intBits j + 4000 then some (.tup [.int (i / j), .int (i % j)]) else none
  | _, _ => none
def gcd2 : D → D → Option D
  | .int i, .int j => some (.int ((Nat.gcd i.natAbs j.natAbs : Nat) : Int))
  | _, _ => none
theorem blsD_ok {K : PySem.W.Frag} {H : Hp} {as : List Addr} : ∀ {ds : List D} {vs : List V} {ns : List Bool}, blsD ds = some ns → RVs K H as ds vs → vs = ns.map V.bl
  | [], _, _, e, r => by cases e; cases r; rfl
  | d :: ds, _, ns, e, r => by
    cases d with
    | bl i =>
      cases e2 : blsD ds with
      | none => simp [blsD, e2] at e
      | some ms =>
        simp [blsD, e2] at e
        subst e
        cases r with
        | cons r1 r2 =>
          cases r1
          rw [blsD_ok e2 r2]; rfl
    | _ => cases e
theorem RT.tyx {K : PySem.W.Frag} {H : Hp} {as : List Addr} {d : D} {v : V} {t : String} (e : tyN d = some t) (r : RT K H as d v) : TyX K H v (.type t) := by
  cases r with
  | val r =>
    cases r with
    | non => cases e; exact .base .non
    | bl b => cases e; exact .base (.bl b)
    | int i => cases e; exact .base (.int i)
    | str s => cases e; exact .base (.str s)
    | ty n => cases e
    | tup h r =>
      cases e
      rcases h with (h | ⟨o, h⟩) | ⟨o, its, n, h1, h2, _⟩
      · exact .base (.tup h)
      · exact .fTuple h
      · exact .kTuple h1 h2
    | lst h n r => cases e; exact .base (.lst h)
    | frz h r =>
      cases e
      rcases h with ⟨h | ⟨o, h⟩, _⟩ | ⟨o, its, n, h1, h2, _⟩
      · exact .base (.lst h)
      · exact .base (.frz h)
      · exact .kList h1 h2
    | dct h n _ _ => cases e; exact .base (.dK h)
    | _ => cases e
  | cell r =>
    cases r with
    | lst h r => cases e; exact .base (.lst h)
    | dct h _ _ => cases e; exact .base (.dK h)
    | _ => cases e
/-- the table of isinstance -/
theorem isT2_ok {t c : String} {b : Bool} {K : PySem.W.Frag} (ht : t ∈ (["NoneType", "bool", "int", "str", "tuple", "list", "dict"] : List String)) (h : isT2 t c = some b) : PySem.W.kitOne K (.type t) (.type c) = some b := by
  unfold isT2 at h
  by_cases hc : (["int", "bool", "str", "tuple", "list", "dict"] : List String).contains c = true
  · rw [if_pos hc] at h
    have key : ∀ t ∈ (["NoneType", "bool", "int", "str", "tuple", "list", "dict"] : List String), ∀ c ∈ (["int", "bool", "str", "tuple", "list", "dict"] : List String), kitB t c = some (t == c || (t == "bool" && c == "int")) := by decide +kernel
    cases h
    exact kit_ty (key t ht c (by simpa using hc))
  · rw [if_neg hc] at h; cases h
theorem tyN_mem {d : D} {t : String} (e : tyN d = some t) : t ∈ (["NoneType", "bool", "int", "str", "tuple", "list", "dict"] : List String) := by
  cases d <;> first | (cases e; done) | (cases e; decide)
abbrev RC := List V → Hp → VK → Prop
def C1 (K : PySem.W.Frag) (f : D → Option D) (r : RC) : Prop := ∀ (as : List Addr) (H : Hp) (x z : D) (v : V) (Q : VK), (∀ p, H p = none → p ∉ as) → f x = some z → RT K H as x v → (∀ w H', Same H H' → RV K H' as z w → Q w H') → r [v] H Q
def C2 (K : PySem.W.Frag) (f : D → D → Option D) (r : RC) : Prop := ∀ (as : List Addr) (H : Hp) (x y z : D) (v u : V) (Q : VK), (∀ p, H p = none → p ∉ as) → f x y = some z → RT K H as x v → RT K H as y u → (∀ w H', Same H H' → RV K H' as z w → Q w H') → r [v, u] H Q
theorem C1.s {K : PySem.W.Frag} {f : D → Option D} {r : RC} (c : C1 K f r) : CallS K (on1 f) r := by
  intro as H xs z vs Q n e hr k
  cases hr with
  | nil => cases e
  | cons r1 t =>
    cases t with
    | nil => exact c as H _ z _ Q n e r1 k
    | cons _ _ => cases e
theorem C2.s {K : PySem.W.Frag} {f : D → D → Option D} {r : RC} (c : C2 K f r) : CallS K (on2 f) r := by
  intro as H xs z vs Q n e hr k
  cases hr with
  | nil => cases e
  | cons r1 t =>
    cases t with
    | nil => cases e
    | cons r2 t =>
      cases t with
      | nil => exact c as H _ _ z _ _ Q n e r1 r2 k
      | cons _ _ => cases e
section
variable {K : PySem.W.Frag} {X : Cx}
abbrev rLenAll (K : PySem.W.Frag) : RC := fun xs H Q => (∃ p ys, xs = [.ref p] ∧ (SqL K H p ys ∨ SqT K H p ys) ∧ Q (.int ys.length) H) ∨ (∃ z, xs = [.str z] ∧ z.length ≤ sizeLine ∧ Q (.int z.length) H) ∨ ∃ (d : Addr) (kvs : List (Key × V)), xs = [.ref d] ∧ H d = some (.dK kvs) ∧ Q (.int kvs.length) H
theorem c_len : C1 K len1 (rLenAll K) := by
  intro as H x z v Q n e r k
  have seq : ∀ l, (x = .lst l ∨ x = .tup l ∨ x = .frz l) → z = .int l.length → rLenAll K [v] H Q := fun l hl hz => by
    obtain ⟨a, vs, rfl, rr, h⟩ := r.seq hl
    subst hz
    exact .inl ⟨a, vs, rfl, h, by rw [← rr.length]; exact k _ H (Same.refl H) (.int _)⟩
  cases x with
  | tup l => cases e; exact seq l (by simp) rfl
  | lst l => cases e; exact seq l (by simp) rfl
  | frz l => cases e; exact seq l (by simp) rfl
  | str s =>
    cases r.str
    by_cases hs : s.length ≤ 16777216
    · rw [len1, if_pos hs] at e; cases e
      exact .inr (.inl ⟨s, rfl, by rw [sizeLine_eq]; exact hs, k _ H (Same.refl H) (.int _)⟩)
    · rw [len1, if_neg hs] at e; cases e
  | dct ks ds =>
    cases e
    have fin : ∀ (a : Addr) (kvs : List (Key × V)), v = .ref a → H a = some (.dK kvs) → kvs.map (fun p => kD p.1) = ks → rLenAll K [v] H Q := fun a kvs e1 e2 e3 => by
      subst e1 e3
      have := k _ H (Same.refl H) (.int _)
      rw [List.length_map] at this
      exact .inr (.inr ⟨a, kvs, rfl, e2, this⟩)
    cases r with
    | val r => cases r with
      | dct h _ e _ => exact fin _ _ rfl h e
    | cell r => cases r with
      | dct h e _ => exact fin _ _ rfl h e
  | _ => cases e
theorem c_abs : C1 K abs1 (fun xs H Q => ∃ i, xs = [.int i] ∧ Q (.int (if i < 0 then -i else i)) H) := by
  intro as H x z v Q n e r k
  cases x with
  | int i => cases e; cases r.int; exact ⟨i, rfl, k _ H (Same.refl H) (.int _)⟩
  | _ => cases e
theorem c_max : C2 K max2 (fun xs H Q => ∃ i j, xs = [.int i, .int j] ∧ Q (.int (if j > i then j else i)) H) := by
  intro as H x y z v u Q n e r1 r2 k
  cases x with
  | int i => cases y with
    | int j => cases e; cases r1.int; cases r2.int; exact ⟨i, j, rfl, k _ H (Same.refl H) (.int _)⟩
    | _ => cases e
  | _ => cases e
theorem c_min : C2 K min2 (fun xs H Q => ∃ i j, xs = [.int i, .int j] ∧ Q (.int (if j < i then j else i)) H) := by
  intro as H x y z v u Q n e r1 r2 k
  cases x with
  | int i => cases y with
    | int j => cases e; cases r1.int; cases r2.int; exact ⟨i, j, rfl, k _ H (Same.refl H) (.int _)⟩
    | _ => cases e
  | _ => cases e
theorem c_int : C1 K toInt1 (fun xs H Q => (∃ i, xs = [.int i] ∧ Q (.int i) H) ∨ ∃ k, xs = [.bl k] ∧ Q (.int (if k then 1 else 0)) H) := by
  intro as H x z v Q n e r k
  cases x with
  | int i => cases e; cases r.int; exact .inl ⟨i, rfl, k _ H (Same.refl H) (.int _)⟩
  | bl b => cases e; cases r.bl; exact .inr ⟨b, rfl, k _ H (Same.refl H) (.int _)⟩
  | _ => cases e
theorem c_all : C1 K all1 (rAll K) := by
  intro as H x z v Q n e r k
  cases x with
  | lst l =>
    cases e2 : blsD l with
    | none => simp [all1, e2] at e
    | some bs =>
      simp [all1, e2] at e
      subst e
      obtain ⟨a, vs, rfl, rr, h⟩ := r.lst
      cases blsD_ok e2 rr
      exact ⟨a, bs, rfl, SqL.of h, by have := k _ H (Same.refl H) (.bl _); simpa using this⟩
  | _ => cases e
theorem c_any : C1 K any1 (rAny K) := by
  intro as H x z v Q n e r k
  cases x with
  | lst l =>
    cases e2 : blsD l with
    | none => simp [any1, e2] at e
    | some bs =>
      simp [any1, e2] at e
      subst e
      obtain ⟨a, vs, rfl, rr, h⟩ := r.lst
      cases blsD_ok e2 rr
      exact ⟨a, bs, rfl, SqL.of h, by have := k _ H (Same.refl H) (.bl _); simpa using this⟩
  | _ => cases e
theorem c_sum : C1 K sum1 (rSum K) := by
  intro as H x z v Q n e r k
  cases x with
  | lst l =>
    cases e2 : intsD l with
    | none => simp [sum1, e2] at e
    | some bs =>
      simp [sum1, e2] at e
      subst e
      obtain ⟨a, vs, rfl, rr, h⟩ := r.lst
      cases intsD_ok e2 rr
      exact ⟨a, bs, rfl, SqL.of h, by have := k _ H (Same.refl H) (.int _); simpa using this⟩
  | _ => cases e
theorem c_tup : C1 K toTup1 (fun xs H Q => ∃ p ys, xs = [.ref p] ∧ ((SqL K H p ys ∧ ∀ l, H l = none → Q (.ref l) (upd H l (.tup ys))) ∨ (SqT K H p ys ∧ Q (.ref p) H))) := by
  intro as H x z v Q n e r k
  cases x with
  | lst l =>
    cases e
    obtain ⟨a, vs, rfl, rr, h⟩ := r.lst
    refine ⟨a, vs, rfl, .inl ⟨SqL.of h, fun q hq => ?_⟩⟩
    have sm := same_upd (o := .tup vs) hq
    exact k _ _ sm (.tup (SqT.of upd_same) (rr.same sm))
  | tup l =>
    cases e
    obtain ⟨a, vs, rfl, rr, h⟩ := r.tup
    exact ⟨a, vs, rfl, .inr ⟨h, k _ H (Same.refl H) (.tup h rr)⟩⟩
  | _ => cases e
theorem c_lst : C1 K toLst1 (fun xs H Q => ∃ p ys, xs = [.ref p] ∧ (SqL K H p ys ∨ SqT K H p ys) ∧ ∀ l, H l = none → Q (.ref l) (upd H l (.lst ys))) := by
  intro as H x z v Q n e r k
  have seq : ∀ l, (x = .lst l ∨ x = .tup l ∨ x = .frz l) → z = .lst l → ∃ p ys, [v] = [V.ref p] ∧ (SqL K H p ys ∨ SqT K H p ys) ∧ ∀ l, H l = none → Q (.ref l) (upd H l (.lst ys)) := fun l hl hz => by
    obtain ⟨a, vs, rfl, rr, h⟩ := r.seq hl
    subst hz
    refine ⟨a, vs, rfl, h, fun q hq => ?_⟩
    have sm := same_upd (o := .lst vs) hq
    exact k _ _ sm (.lst upd_same (n q hq) (rr.same sm))
  cases x with
  | tup l => cases e; exact seq l (by simp) rfl
  | lst l => cases e; exact seq l (by simp) rfl
  | frz l => cases e; exact seq l (by simp) rfl
  | _ => cases e
theorem c_isi : C2 K isi2 (rIsi K) := by
  intro as H x y z v u Q n e r1 r2 k
  cases y with
  | ty c =>
    cases r2.ty
    cases e1 : tyN x with
    | none => simp [isi2, e1] at e
    | some t =>
      cases e2 : isT2 t c with
      | none => simp [isi2, e1, e2] at e
      | some b =>
        simp [isi2, e1, e2] at e
        subst e
        exact ⟨v, .ty c, .type t, .type c, b, rfl, .ty c, r1.tyx e1, isT2_ok (tyN_mem e1) e2, k _ H (Same.refl H) (.bl _)⟩
  | _ => cases e
theorem c_divmod : C2 K divmod2 (fun xs H Q => ∃ i j, xs = [.int i, .int j] ∧ CDivP i j ∧ ∀ p, H p = none → Q (.ref p) (upd H p (.tup [.int (i / j), .int (i % j)]))) := by
  intro as H x y z v u Q n e r1 r2 k
  cases x with
  | int i => cases y with
    | int j =>
      by_cases hc : 0 < j ∧ Builtin.Int.intBits i ≤ Builtin.Int.intBits j + 4000
      · rw [divmod2, if_pos hc] at e; cases e; cases r1.int; cases r2.int
        refine ⟨i, j, rfl, divp_ok hc.1 hc.2, fun q hq => ?_⟩
        have sm := same_upd (o := .tup [.int (i / j), .int (i % j)]) hq
        exact k _ _ sm (.tup (SqT.of upd_same) (.cons (.int _) (.cons (.int _) .nil)))
      · rw [divmod2, if_neg hc] at e; cases e
    | _ => cases e
  | _ => cases e
theorem c_gcd : C2 K gcd2 rGcd := by
  intro as H x y z v u Q n e r1 r2 k
  cases x with
  | int i => cases y with
    | int j => cases e; cases r1.int; cases r2.int; exact ⟨i, j, rfl, k _ H (Same.refl H) (.int _)⟩
    | _ => cases e
  | _ => cases e
abbrev rRepr1 : RC := fun xs H Q => (∃ b, xs = [.bl b] ∧ Q (.str (if b then "True" else "False")) H) ∨ (xs = [.non] ∧ Q (.str "None") H) ∨ (∃ i, xs = [.int i] ∧ i.natAbs.log2 < 1920 ∧ Q (.str (toString i)) H) ∨ ∃ s, xs = [.str s] ∧ (reprText s).length ≤ sizeLine ∧ Q (.str (reprText s)) H
theorem call_repr1 : CallR X (.builtin "repr") rRepr1 := by
  intro pins s σ H xs us Q I r h
  rcases h with ⟨b, rfl, q⟩ | ⟨rfl, q⟩ | ⟨i, rfl, hz, q⟩ | ⟨x, rfl, hz, q⟩
  · obtain ⟨u, rfl, hu⟩ := vals1 r
    cases hu
    exact PySem.P.repr_of_bool ⟨.str _, H, I.tok _, ⟨_, rfl⟩, q⟩
  · obtain ⟨u, rfl, hu⟩ := vals1 r
    cases hu
    exact PySem.P.repr_of_none ⟨.str _, H, I.tok _, ⟨_, rfl⟩, q⟩
  · obtain ⟨u, rfl, t, rfl⟩ := vals1 r
    exact PySem.P.repr_of_int hz ⟨.str _, H, I.tok _, ⟨_, rfl⟩, q⟩
  · obtain ⟨u, rfl, t, rfl⟩ := vals1 r
    exact PySem.P.repr_of_str ⟨.str _, H, I.tok _, ⟨_, rfl⟩, q⟩ hz
theorem c_repr : C1 K repr1 rRepr1 := by
  intro as H x z v Q n e r k
  cases x with
  | bl b => cases e; cases r.bl; exact .inl ⟨b, rfl, k _ H (Same.refl H) (.str _)⟩
  | non => cases e; cases r.non; exact .inr (.inl ⟨rfl, k _ H (Same.refl H) (.str _)⟩)
  | int i =>
    by_cases hc : i.natAbs.log2 < 1920
    · rw [repr1, if_pos hc] at e; cases e; cases r.int; exact .inr (.inr (.inl ⟨i, rfl, hc, k _ H (Same.refl H) (.str _)⟩))
    · rw [repr1, if_neg hc] at e; cases e
  | str s =>
    by_cases hc : (reprText s).length ≤ 16777216
    · rw [repr1, if_pos hc] at e; cases e; cases r.str; exact .inr (.inr (.inr ⟨s, rfl, by rw [sizeLine_eq]; exact hc, k _ H (Same.refl H) (.str _)⟩))
    · rw [repr1, if_neg hc] at e; cases e
  | _ => cases e
end
/-! ### the calls as they are written -/
section
variable {X : Cx} {W : WX} {pos p : Pos} {e : Expr} {es : List Expr} {me : M (List D)} {x : Str}
/-- a built-in by its name: what is asked of the module: the name is free -/
structure Bi (X : Cx) (x : Str) (f : List D → Option D) : Prop where
  ex : (∃ id r, CallR X (.builtin id) r ∧ CallS X.K f r ∧ X.mg x = none ∧ bootBuiltins x = some (.builtin id)) ∨ (∃ id r, CallR X (.type id) r ∧ CallS X.K f r ∧ X.mg x = none ∧ bootBuiltins x = some (.type id)) ∨
    ∃ id r, CallR X (.builtin id) r ∧ CallS X.K f r ∧ X.mg x = some (.builtin id)
theorem de_bi {f : List D → Option D} (B : Bi X x f) (ha : DA X W (e :: es) me) (hg : Gl X x := by rfl) (hn : x ≠ "__name__" := by decide) (hdb : (x == ("__debug__" : Str)) = false := by decide)
    (he : starEach (e :: es) X.env = (false, eval e X.env) :: starEach es X.env := by rfl) (hpl : (backTo pos (starEach es X.env)).any (·.1) = false := by rfl) : DE X W (.Call (.Name x p) (e :: es) [] pos) (mB f me) := by
  rcases B.ex with ⟨id, r, h1, h2, h3, h4⟩ | ⟨id, r, h1, h2, h3, h4⟩ | ⟨id, r, h1, h2, h3⟩
  · exact de_callB h1 h2 h3 h4 ha hg hn hdb he hpl
  · exact de_callT h1 h2 h3 h4 ha hg hn hdb he hpl
  · refine PE.imp (pe_callBfun h1 hg h3 ha hdb he hpl) fun σ H Q ⟨as, ds, h, s, q⟩ => ⟨as, ds, h, s, PostE.bindA q fun xs h1 vs H1 as1 f1 r1 hr1 p1 => ?_⟩
    cases e : f (xs.map (rd h1)) with
    | none => rw [e] at p1; exact p1.elim
    | some z =>
      rw [e] at p1
      exact h2 as1 H1 _ z vs Q (fun p hp => hr1.notin hp) e (r1.rts hr1) fun w H' sm rw => p1 w H' as1 (.of_same sm) (.val rw) (hr1.same sm)
variable (m : X.mg x = none)
theorem b_len (h : X.mg "len" = none) : Bi X "len" (on1 len1) := ⟨.inl ⟨_, _, call_len_seq.or (call_len_str.or call_lenD), c_len.s, h, by decide +kernel⟩⟩
theorem b_abs (h : X.mg "abs" = none) : Bi X "abs" (on1 abs1) := ⟨.inl ⟨_, _, call_abs, c_abs.s, h, by decide +kernel⟩⟩
theorem b_max (h : X.mg "max" = none) (hc : X.calm = true := by rfl) : Bi X "max" (on2 max2) := ⟨.inl ⟨_, _, call_max2 hc, c_max.s, h, by decide +kernel⟩⟩
theorem b_min (h : X.mg "min" = none) (hc : X.calm = true := by rfl) : Bi X "min" (on2 min2) := ⟨.inl ⟨_, _, call_min2 hc, c_min.s, h, by decide +kernel⟩⟩
theorem b_int (h : X.mg "int" = none) : Bi X "int" (on1 toInt1) := ⟨.inr (.inl ⟨_, _, call_int1, c_int.s, h, by decide +kernel⟩)⟩
theorem b_all (h : X.mg "all" = none) (hc : X.calm = true := by rfl) : Bi X "all" (on1 all1) := ⟨.inl ⟨_, _, cr_all hc, c_all.s, h, by decide +kernel⟩⟩
theorem b_any (h : X.mg "any" = none) (hc : X.calm = true := by rfl) : Bi X "any" (on1 any1) := ⟨.inl ⟨_, _, cr_any hc, c_any.s, h, by decide +kernel⟩⟩
theorem b_sum (h : X.mg "sum" = none) (hc : X.calm = true := by rfl) : Bi X "sum" (on1 sum1) := ⟨.inl ⟨_, _, cr_sum hc, c_sum.s, h, by decide +kernel⟩⟩
theorem b_tuple (h : X.mg "tuple" = none) : Bi X "tuple" (on1 toTup1) := ⟨.inr (.inl ⟨_, _, call_tuple_of, c_tup.s, h, by decide +kernel⟩)⟩
theorem b_list (h : X.mg "list" = none) : Bi X "list" (on1 toLst1) := ⟨.inr (.inl ⟨_, _, call_list_of, c_lst.s, h, by decide +kernel⟩)⟩
theorem b_isinstance (h : X.mg "isinstance" = none) : Bi X "isinstance" (on2 isi2) := ⟨.inl ⟨_, _, call_isi, c_isi.s, h, by decide +kernel⟩⟩
theorem b_repr (h : X.mg "repr" = none) : Bi X "repr" (on1 repr1) := ⟨.inl ⟨_, _, call_repr1, c_repr.s, h, by decide +kernel⟩⟩
theorem b_divmod (h : X.mg "divmod" = none) : Bi X "divmod" (on2 divmod2) := ⟨.inl ⟨_, _, call_divmodW, c_divmod.s, h, by decide +kernel⟩⟩
theorem b_gcd (h : X.mg "gcd" = some (.builtin "math.gcd")) : Bi X "gcd" (on2 gcd2) := ⟨.inr (.inr ⟨_, _, cr_gcd, c_gcd.s, h⟩)⟩
end
end DL

set_option Elab.async false
set_option linter.all false
set_option maxRecDepth 100000
set_option maxHeartbeats 4000000
namespace DL
open PySem PySem.Spec PyProof.Rows L2

/-! ### targets -/
mutual
inductive Tg where
  | nm (i : Nat)
  | tp (l : Tgs)
inductive Tgs where
  | nil
  | cons (t : Tg) (l : Tgs)
end
def Tgs.len : Tgs → Nat
  | .nil => 0
  | .cons _ l => l.len + 1
mutual
def gOf (K : PySem.W.Frag) : Tg → TG
  | .nm i => gName i
  | .tp l => gTup K l.len (gsOf K l)
def gsOf (K : PySem.W.Frag) : Tgs → TGs
  | .nil => gNil
  | .cons t l => gCons (gOf K t) (gsOf K l)
end
mutual
def asgT : Tg → D → Ev → Option Ev
  | .nm i, d, ds => some (ds.set i (some d))
  | .tp l, .tup es, ds => asgTs l es ds
  | .tp _, _, _ => none
def asgTs : Tgs → List D → Ev → Option Ev
  | .nil, [], ds => some ds
  | .cons t l, e :: es, ds => (asgT t e ds).bind (asgTs l es)
  | _, _, _ => none
end
mutual
def Tg.ns : Tg → List Nat
  | .nm i => [i]
  | .tp l => l.ns
def Tgs.ns : Tgs → List Nat
  | .nil => []
  | .cons t l => t.ns ++ l.ns
end
abbrev DG (X : Cx) (tg : Expr) (t : Tg) : Prop := PG X tg (gOf X.K t)
abbrev DGs (X : Cx) (tg : List Expr) (t : Tgs) : Prop := PGs X tg (gsOf X.K t)
section
variable {K : PySem.W.Frag} {H : Hp} {as : List Addr}
theorem EvR.length {ds : Ev} {σ : L2.St} (r : EvR K H as ds σ) : ds.length = σ.length := Paired.length r
theorem EvR.set {d : D} {v : V} (r : RD K H as d v) : ∀ {ds : Ev} {σ : L2.St} (i : Nat), EvR K H as ds σ → EvR K H as (ds.set i (some d)) (σ.set i (some v))
  | _, _, _, .nil => .nil
  | _, _, 0, .cons h t => .cons (fun e he => by cases he; exact ⟨v, rfl, r⟩) t
  | _, _, i + 1, .cons h t => .cons h (EvR.set r i t)
theorem EvR.forget : ∀ {ds : Ev} {σ : L2.St} (i : Nat), EvR K H as ds σ → EvR K H as (ds.set i none) (σ.set i none)
  | _, _, _, .nil => .nil
  | _, _, 0, .cons h t => .cons (fun e he => nomatch he) t
  | _, _, i + 1, .cons h t => .cons h (EvR.forget i t)
def wipeD (ds : Ev) : List Nat → Ev
  | [] => ds
  | v :: vs => (wipeD ds vs).set v none
theorem EvR.wipe {ds : Ev} {σ : L2.St} (r : EvR K H as ds σ) : ∀ vs : List Nat, EvR K H as (wipeD ds vs) (L2.wipe σ vs)
  | [] => r
  | v :: vs => (EvR.wipe r vs).forget v
theorem wipe_set {σ : L2.St} {i : Nat} {x : Option V} : ∀ {vs : List Nat}, i ∈ vs → L2.wipe (σ.set i x) vs = L2.wipe σ vs
  | v :: vs, h => by
    by_cases hm : i ∈ vs
    · show (L2.wipe (σ.set i x) vs).set v none = (L2.wipe σ vs).set v none
      rw [wipe_set hm]
    · have e : i = v := by
        rcases List.mem_cons.mp h with z | z
        · exact z
        · exact absurd z hm
      subst e
      have key : ∀ (vs : List Nat), i ∉ vs → L2.wipe (σ.set i x) vs = (L2.wipe σ vs).set i x := by
        intro vs
        induction vs with
        | nil => intro _; rfl
        | cons w ws ih =>
          intro hn
          simp only [List.mem_cons, not_or] at hn
          show (L2.wipe (σ.set i x) ws).set w none = ((L2.wipe σ ws).set w none).set i x
          rw [ih hn.2, List.set_comm _ _ hn.1]
      show (L2.wipe (σ.set i x) vs).set i none = (L2.wipe σ vs).set i none
      rw [key vs hm, List.set_set]
theorem wipe_idem {σ : L2.St} : ∀ {us vs : List Nat}, (∀ i ∈ us, i ∈ vs) → L2.wipe (L2.wipe σ us) vs = L2.wipe σ vs
  | [], _, _ => rfl
  | u :: us, vs, h => by
    show L2.wipe ((L2.wipe σ us).set u none) vs = _
    rw [wipe_set (h u (by simp)), wipe_idem fun i hi => h i (by simp [hi])]
mutual
theorem asg_ok : ∀ (t : Tg) {ds ds' : Ev} {σ : L2.St} {d : D} {v : V} {Q : L2.St → Hp → Prop}, EvR K H as ds σ → RD K H as d v → asgT t d ds = some ds' →
    (∀ σ', EvR K H as ds' σ' → (∀ vs, (∀ i ∈ t.ns, i ∈ vs) → L2.wipe σ' vs = L2.wipe σ vs) → Q σ' H) → gOf K t v σ H Q
  | .nm i, ds, ds', σ, d, v, Q, s, r, e, k => by
    simp only [asgT, Option.some.injEq] at e
    subst e
    simp only [gOf]
    exact k _ (s.set r i) fun vs h => wipe_set (h i (by simp [Tg.ns]))
  | .tp l, ds, ds', σ, d, v, Q, s, r, e, k => by
    cases d with
    | tup es =>
      simp only [asgT] at e
      cases r with
      | tup h rs =>
          simp only [gOf]
          refine ⟨_, _, rfl, h, ?_, asgs_ok l s rs e k⟩
          rw [← rs.length]
          exact asgs_len l e
    | _ => simp only [asgT] at e; cases e
theorem asgs_ok : ∀ (t : Tgs) {ds ds' : Ev} {σ : L2.St} {es : List D} {vs : List V} {Q : L2.St → Hp → Prop}, EvR K H as ds σ → RVs K H as es vs → asgTs t es ds = some ds' →
    (∀ σ', EvR K H as ds' σ' → (∀ vs, (∀ i ∈ t.ns, i ∈ vs) → L2.wipe σ' vs = L2.wipe σ vs) → Q σ' H) → gsOf K t vs σ H Q
  | .nil, ds, ds', σ, es, vs, Q, s, r, e, k => by
    cases es with
    | nil =>
      cases r
      simp only [asgTs, Option.some.injEq] at e
      subst e
      simp only [gsOf]
      exact ⟨rfl, k _ s fun _ _ => rfl⟩
    | cons _ _ => simp only [asgTs] at e; cases e
  | .cons t l, ds, ds', σ, es, vs, Q, s, r, e, k => by
    cases es with
    | nil => simp only [asgTs] at e; cases e
    | cons d es =>
      cases r with
      | cons r1 r2 =>
        simp only [asgTs] at e
        cases e1 : asgT t d ds with
        | none => rw [e1] at e; cases e
        | some ds1 =>
          rw [e1] at e
          simp only [gsOf]
          exact ⟨_, _, rfl, asg_ok t s (.val r1) e1 fun σ1 s1 w1 => asgs_ok l s1 r2 e fun σ2 s2 w2 => k σ2 s2 fun vs h => (w2 vs fun i hi => h i (by simp [Tgs.ns, hi])).trans (w1 vs fun i hi => h i (by simp [Tgs.ns, hi]))⟩
theorem asgs_len : ∀ (t : Tgs) {ds ds' : Ev} {es : List D}, asgTs t es ds = some ds' → es.length = t.len
  | .nil, ds, ds', es, e => by
    cases es with
    | nil => rfl
    | cons _ _ => simp only [asgTs] at e; cases e
  | .cons t l, ds, ds', es, e => by
    cases es with
    | nil => simp only [asgTs] at e; cases e
    | cons d es =>
      simp only [asgTs] at e
      cases e1 : asgT t d ds with
      | none => rw [e1] at e; cases e
      | some ds1 =>
        rw [e1] at e
        simp only [Tgs.len, List.length_cons]
        rw [asgs_len l e]
end
end
section
variable {X : Cx} {pos : Pos}
theorem dg_nm {i : Nat} {x : Str} (hN : X.N.Nodup) (hi : X.N[i]? = some x) (hx : Loc X.env.scope x) (hf : X.fn x = true ∨ X.env.scope.names.lookup x = some .local := by first | exact .inl rfl | exact .inr rfl | assumption) : DG X (.Name x pos) (.nm i) := by
  show PG X _ (gOf X.K (.nm i))
  rw [gOf]
  exact pg_name hN hi hx hf
theorem dgs_nil : DGs X [] .nil := by
  show PGs X _ (gsOf X.K .nil)
  rw [gsOf]
  exact pgs_nil
theorem dgs_cons {e : Expr} {es : List Expr} {t : Tg} {l : Tgs} (h1 : DG X e t) (h2 : DGs X es l) (hs : (assignEach (e :: es) X.env).map (·.2) = assign e X.env :: (assignEach es X.env).map (·.2) := by rfl) : DGs X (e :: es) (.cons t l) := by
  show PGs X _ (gsOf X.K (.cons t l))
  rw [gsOf]
  exact pgs_cons h1 h2 hs
theorem dg_tp {es : List Expr} {k : Nat} {l : Tgs} (h : DGs X es l) (hc : X.calm = true := by rfl) (hn : (assignEach es X.env).length = l.len := by rfl) (hst : (assignEach es X.env).findIdx? (·.1) = none := by rfl) : DG X (.Tuple es k pos) (.tp l) := by
  show PG X _ (gOf X.K (.tp l))
  rw [gOf]
  exact pg_tup hc h hn hst
end

/-! ### what is walked -/
inductive Src where
  | its (l : List D)
  | cell (n len : Nat)
  | ecell (n len : Nat)
def srcAt : Src → Hs → Nat → Option D
  | .its l, _, i => l[i]?
  | .cell n len, h, i => match h[n]? with
    | some (.lst l) => if l.length = len then l[i]? else none
    | _ => none
  | .ecell n len, h, i => match h[n]? with
    | some (.lst l) => if l.length = len then (l[i]?).map fun d => .tup [.int (i : Nat), d] else none
    | _ => none
def srcEnd : Src → Hs → Bool
  | .its _, _ => true
  | .cell n len, h => match h[n]? with
    | some (.lst l) => l.length == len
    | _ => false
  | .ecell n len, h => match h[n]? with
    | some (.lst l) => l.length == len
    | _ => false
def Src.len : Src → Nat
  | .its l => l.length
  | .cell _ n => n
  | .ecell _ n => n
structure WalkD (K : PySem.W.Frag) (as : List Addr) (H : Hp) (J : It) (s : Src) : Prop where
  go : ∀ i h H1 as1 d, Grow as H as1 H1 → HeapR K H1 as1 h → srcAt s h i = some d → J.go i H1 ∧ ∀ x H2, J.yld i H1 x H2 → Same H1 H2 ∧ RV K H2 as1 d x
  stop : ∀ h H1 as1, Grow as H as1 H1 → HeapR K H1 as1 h → srcEnd s h = true → J.stop s.len H1
theorem WalkD.grow {K : PySem.W.Frag} {as as' : List Addr} {H H' : Hp} {J : It} {s : Src} (w : WalkD K as H J s) (g : Grow as H as' H') : WalkD K as' H' J s :=
  ⟨fun i h H1 as1 d g1 => w.go i h H1 as1 d (g.trans g1), fun h H1 as1 g1 => w.stop h H1 as1 (g.trans g1)⟩
def PostI (K : PySem.W.Frag) (mg : Str → Option Value) (W : WX) (as : List Addr) (σ : L2.St) (H : Hp) (r : R Src) (Q : It → Hp → Prop) : Prop := match r with
  | .ok s h => ∀ J H' as', Grow as H as' H' → HeapR K H' as' h → WalkD K as' H' J s → Q J H'
  | .ex c p h => ∀ cls dx H' as', Grow as H as' H' → HeapR K H' as' h → ExR K mg H' as' c p cls dx → W cls dx σ H'
  | .no => False
def tiM (K : PySem.W.Frag) (mg : Str → Option Value) (W : WX) (m : M Src) : TI := fun σ H Q => ∃ as ds h, StR K H as ds h σ ∧ PostI K mg W as σ H (m ds h) Q
abbrev DI (X : Cx) (W : WX) (tg iter : Expr) (m : M Src) : Prop := PI X tg iter (tiM X.K X.mg W m)
theorem PI.imp {X : Cx} {tg iter : Expr} {t t' : TI} (p : PI X tg iter t) (h : ∀ σ H Q, t' σ H Q → t σ H Q) : PI X tg iter t' := ⟨fun pins s σ H Q I q => p.run pins s σ H Q I (h σ H Q q)⟩
theorem PI.or {X : Cx} {tg iter : Expr} {t t' : TI} (p : PI X tg iter t) (q : PI X tg iter t') : PI X tg iter (fun σ H Q => t σ H Q ∨ t' σ H Q) := ⟨fun pins s σ H Q I w => w.elim (p.run pins s σ H Q I) (q.run pins s σ H Q I)⟩
theorem PostI.grow {K : PySem.W.Frag} {mg : Str → Option Value} {W : WX} {as as' : List Addr} {σ : L2.St} {H H' : Hp} {r : R Src} {Q : It → Hp → Prop} (f : Grow as H as' H') (p : PostI K mg W as σ H r Q) : PostI K mg W as' σ H' r Q := by
  cases r with
  | ok d h => exact fun v H2 as2 f2 => p v H2 as2 (f.trans f2)
  | ex c q h => exact fun cls dx H2 as2 f2 => p cls dx H2 as2 (f.trans f2)
  | no => exact p
theorem PostI.bindE {K : PySem.W.Frag} {mg : Str → Option Value} {W : WX} {as : List Addr} {σ : L2.St} {H : Hp} {r : R D} {k : D → Hs → R Src} {Q : It → Hp → Prop} {Q' : VK} (p : PostI K mg W as σ H (r.bind k) Q)
    (n : ∀ d h v H1 as1, Grow as H as1 H1 → RD K H1 as1 d v → HeapR K H1 as1 h → PostI K mg W as1 σ H1 (k d h) Q → Q' v H1) : PostE K mg W as σ H r Q' := by
  cases r with
  | ok d h => exact fun v H1 as1 f r1 hr => n d h v H1 as1 f r1 hr (PostI.grow f p)
  | ex c q h => exact p
  | no => exact p
theorem PostI.bindA {K : PySem.W.Frag} {mg : Str → Option Value} {W : WX} {as : List Addr} {σ : L2.St} {H : Hp} {r : R (List D)} {k : List D → Hs → R Src} {Q : It → Hp → Prop} {Q' : List V → Hp → Prop} (p : PostI K mg W as σ H (r.bind k) Q)
    (n : ∀ d h v H1 as1, Grow as H as1 H1 → RDs K H1 as1 d v → HeapR K H1 as1 h → PostI K mg W as1 σ H1 (k d h) Q → Q' v H1) : PostA K mg W as σ H r Q' := by
  cases r with
  | ok d h => exact fun v H1 as1 f r1 hr => n d h v H1 as1 f r1 hr (PostI.grow f p)
  | ex c q h => exact p
  | no => exact p
def srcOf (x : D) (h : Hs) : Option Src := match x with
  | .tup l => some (.its l)
  | .lst l => some (.its l)
  | .frz l => some (.its l)
  | .loc n => (match h[n]? with
    | some (.lst l) => some (.cell n l.length)
    | _ => none)
  | _ => none
def mSeq (ma : M D) : M Src := fun ds h => (ma ds h).bind fun x h1 => match srcOf x h1 with
  | some s => .ok s h1
  | none => .no
def rangeL (lo : Int) (n : Nat) : List D := (List.range n).map fun i => .int (lo + (i : Nat))
def rng1 : List D → Option Src
  | [.int j] => if j < 2 ^ 62 ∧ -(2 ^ 62) ≤ j then some (.its (rangeL 0 j.toNat)) else none
  | _ => none
def rng2 : List D → Option Src
  | [.int i, .int j] => if -(2 ^ 62) ≤ i ∧ i < 2 ^ 62 ∧ -(2 ^ 62) ≤ j ∧ j < 2 ^ 62 then some (.its (rangeL i (j - i).toNat)) else none
  | _ => none
def mSrcA (f : List D → Option Src) (me : M (List D)) : M Src := fun ds h => (me ds h).bind fun xs h1 => match f (xs.map (rd h1)) with
  | some s => .ok s h1
  | none => .no
section
variable {K : PySem.W.Frag}
theorem walkD_range {as : List Addr} {H : Hp} {lo : Int} {n : Nat} : WalkD K as H (Itr lo n) (.its (rangeL lo n)) := by
  refine ⟨fun i h H1 as1 d g hr e => ?_, fun h H1 as1 g hr e => ?_⟩
  · simp only [srcAt, rangeL, List.getElem?_map] at e
    by_cases hi : i < n
    · rw [List.getElem?_range hi] at e
      simp only [Option.map_some, Option.some.injEq] at e
      subst e
      exact ⟨hi, fun x H2 ⟨e1, e2⟩ => by subst e1 e2; exact ⟨Same.refl _, .int _⟩⟩
    · rw [List.getElem?_eq_none (by simpa using hi)] at e; cases e
  · show n ≤ (rangeL lo n).length
    simp [rangeL]
theorem walkD_lst {as : List Addr} {H : Hp} {a : Addr} {vs : List V} {ds : List D} (hs : ∀ as1 H1, Grow as H as1 H1 → SqL K H1 a vs) (r : RVs K H as ds vs) : WalkD K as H (Itl K a) (.its ds) := by
  refine ⟨fun i h H1 as1 d g hr e => ?_, fun h H1 as1 g hr e => ⟨vs, hs as1 H1 g, by rw [← r.length]; exact Nat.le_refl _⟩⟩
  obtain ⟨v, e1, r1⟩ := r.get (show ds[i]? = some d from e)
  exact ⟨⟨vs, v, hs as1 H1 g, e1⟩, fun x H2 ⟨e2, e3⟩ => by
    subst e2
    have := e3 vs (hs as1 _ g)
    rw [e1] at this; cases this
    exact ⟨Same.refl _, r1.grow g⟩⟩
theorem walkD_tup {as : List Addr} {H : Hp} {a : Addr} {vs : List V} {ds : List D} (hs : SqT K H a vs) (r : RVs K H as ds vs) : WalkD K as H (Itt K a) (.its ds) := by
  refine ⟨fun i h H1 as1 d g hr e => ?_, fun h H1 as1 g hr e => ⟨vs, sqT_fr g.fr hs, by rw [← r.length]; exact Nat.le_refl _⟩⟩
  obtain ⟨v, e1, r1⟩ := r.get (show ds[i]? = some d from e)
  exact ⟨⟨vs, v, sqT_fr g.fr hs, e1⟩, fun x H2 ⟨e2, e3⟩ => by
    subst e2
    have := e3 vs (sqT_fr g.fr hs)
    rw [e1] at this; cases this
    exact ⟨Same.refl _, r1.grow g⟩⟩
theorem walkD_cell {as : List Addr} {H : Hp} {a : Addr} {n len : Nat} (ha : as[n]? = some a) : WalkD K as H (Itl K a) (.cell n len) := by
  refine ⟨fun i h H1 as1 d g hr e => ?_, fun h H1 as1 g hr e => ?_⟩
  · obtain ⟨c, e1, cr⟩ := hr.get (pre_get g.pre ha)
    simp only [srcAt, e1] at e
    cases cr with
    | lst h r =>
      simp only at e
      split at e
      · obtain ⟨v, e2, r1⟩ := r.get e
        exact ⟨⟨_, v, SqL.of h, e2⟩, fun x H2 ⟨e3, e4⟩ => by
          subst e3
          have := e4 _ (SqL.of h)
          rw [e2] at this; cases this
          exact ⟨Same.refl _, r1⟩⟩
      · cases e
    | _ => cases e
  · obtain ⟨c, e1, cr⟩ := hr.get (pre_get g.pre ha)
    simp only [srcEnd, e1] at e
    cases cr with
    | lst h r => exact ⟨_, SqL.of h, by rw [← r.length]; simp at e; rw [e]; exact Nat.le_refl _⟩
    | _ => cases e
end
section
variable {X : Cx} {W : WX} {tg a b : Expr} {ma mb : M D} {me : M (List D)} {p pos : Pos}
theorem di_seq (ha : DE X W a ma) : DI X W tg a (mSeq ma) := by
  refine PI.imp (PI.or (pi_list ha) (pi_tup ha)) fun σ H Q ⟨as, ds, h, s, q⟩ => ?_
  unfold mSeq at q
  cases e : ma ds h with
  | ex c p h1 => rw [e] at q; exact .inl ⟨as, ds, h, s, by rw [e]; exact q⟩
  | no => rw [e] at q; exact q.elim
  | ok x h1 =>
    rw [e] at q
    cases x with
    | tup l =>
      have q : PostI X.K X.mg W as σ H (.ok (.its l) h1) Q := q
      refine .inr ⟨as, ds, h, s, ?_⟩
      rw [e]
      intro v H1 as1 g r hr
      cases r with
      | tup h rs => exact ⟨_, rfl, ⟨_, h⟩, q _ H1 as1 g hr (walkD_tup h rs)⟩
    | lst l =>
      have q : PostI X.K X.mg W as σ H (.ok (.its l) h1) Q := q
      refine .inl ⟨as, ds, h, s, ?_⟩
      rw [e]
      intro v H1 as1 g r hr
      cases r with
      | lst h n rs => exact ⟨_, rfl, ⟨_, SqL.of h⟩, q _ H1 as1 g hr (walkD_lst (fun as2 H2 g2 => SqL.of (g2.fr _ _ h rfl fun z => absurd z n)) rs)⟩
    | frz l =>
      have q : PostI X.K X.mg W as σ H (.ok (.its l) h1) Q := q
      refine .inl ⟨as, ds, h, s, ?_⟩
      rw [e]
      intro v H1 as1 g r hr
      cases r with
      | frz h rs => exact ⟨_, rfl, ⟨_, h.sq⟩, q _ H1 as1 g hr (walkD_lst (fun as2 H2 g2 => (frzL_gr g2 h).sq) rs)⟩
    | loc n =>
      refine .inl ⟨as, ds, h, s, ?_⟩
      rw [e]
      intro v H1 as1 g r hr
      cases r with
      | loc ha =>
        obtain ⟨c, e1, cr⟩ := hr.get ha
        cases cr with
        | @lst a vs l hh rs =>
          have q : PostI X.K X.mg W as σ H (match srcOf (.loc n) h1 with | some s => .ok s h1 | none => .no) Q := q
          have es : srcOf (.loc n) h1 = some (.cell n l.length) := by simp only [srcOf, e1]
          rw [es] at q
          exact ⟨_, rfl, ⟨_, SqL.of hh⟩, q _ H1 as1 g hr (walkD_cell ha)⟩
        | _ =>
          have q : PostI X.K X.mg W as σ H (match srcOf (.loc n) h1 with | some s => .ok s h1 | none => .no) Q := q
          simp only [srcOf, e1] at q
          exact q.elim
    | _ => exact q.elim
theorem di_range1 (ha : DA X W [a] me) (hm : X.mg "range" = none) (hg : Gl X "range" := by rfl) (hs : starEach [a] X.env = [(false, eval a X.env)] := by rfl) : DI X W tg (.Call (.Name "range" p) [a] [] pos) (mSrcA rng1 me) := by
  refine PI.imp (pi_range1 hg hm ha hs) fun σ H Q ⟨as, ds, h, s, q⟩ => ⟨as, ds, h, s, PostI.bindA q fun xs h1 vs H1 as1 f1 r1 hr1 p1 => ?_⟩
  have rt := r1.rts hr1
  revert p1 rt
  generalize xs.map (rd h1) = ys
  intro p1 rt
  cases rt with
  | nil => exact p1.elim
  | cons r t =>
    cases t with
    | cons _ _ => rename_i x _ _ _ _ _ _ _; cases x <;> exact p1.elim
    | nil =>
      rename_i x v
      cases x with
      | int j =>
        cases r.int
        by_cases hc : j < 2 ^ 62 ∧ -(2 ^ 62) ≤ j
        · simp only [rng1, if_pos hc] at p1
          exact ⟨j, rfl, hc.2, hc.1, p1 _ H1 as1 .refl hr1 walkD_range⟩
        · simp only [rng1, if_neg hc] at p1; exact p1.elim
      | _ => exact p1.elim
theorem di_range2 (ha : DA X W [a, b] me) (hm : X.mg "range" = none) (hg : Gl X "range" := by rfl) (hs : starEach [a, b] X.env = [(false, eval a X.env), (false, eval b X.env)] := by rfl) (hs2 : starEach [b] X.env = [(false, eval b X.env)] := by rfl) : DI X W tg (.Call (.Name "range" p) [a, b] [] pos) (mSrcA rng2 me) := by
  refine PI.imp (pi_range2 hg hm ha hs hs2) fun σ H Q ⟨as, ds, h, s, q⟩ => ⟨as, ds, h, s, PostI.bindA q fun xs h1 vs H1 as1 f1 r1 hr1 p1 => ?_⟩
  have rt := r1.rts hr1
  revert p1 rt
  generalize xs.map (rd h1) = ys
  intro p1 rt
  match ys, vs, rt with
  | [], _, _ => exact p1.elim
  | [x], _, _ => cases x <;> exact p1.elim
  | x :: y :: z :: l, _, _ => cases x <;> first | exact p1.elim | (cases y <;> exact p1.elim)
  | [x, y], [v, u], .cons r (.cons r2 .nil) =>
    cases x with
    | int i =>
      cases y with
      | int j =>
        cases r.int
        cases r2.int
        by_cases hc : -(2 ^ 62) ≤ i ∧ i < 2 ^ 62 ∧ -(2 ^ 62) ≤ j ∧ j < 2 ^ 62
        · simp only [rng2, if_pos hc] at p1
          exact ⟨i, j, rfl, hc, p1 _ H1 as1 .refl hr1 walkD_range⟩
        · simp only [rng2, if_neg hc] at p1; exact p1.elim
      | _ => exact p1.elim
    | _ => exact p1.elim
end
end DL

set_option Elab.async false
set_option linter.all false
set_option maxRecDepth 100000
set_option maxHeartbeats 4000000
namespace DL
open PySem PySem.Spec PyProof.Rows L2

/-! ### comprehensions -/
def R.noex {α : Type} : R α → R α
  | .ok a h => .ok a h
  | _ => .no
/-- one item more in the list in cell n -/
def pushAt (n : Nat) (y : D) (h : Hs) : Option Hs := match h[n]? with
  | some (.lst acc) => if acc.length < 16777216 then some (h.set n (.lst (acc ++ [y]))) else none
  | _ => none
/-- the list is handed on as a value, what came behind its cell is forgotten -/
def endV (n : Nat) (hh : Hs) : R D := match hh[n]? with
  | some (.lst acc) => if bels n acc && bels n (hh.take n) then .ok (.lst acc) (hh.take n) else .no
  | _ => .no
/-- the list stays a cell -/
def endC (n : Nat) (hh : Hs) : R D := match hh[n]? with
  | some (.lst _) => .ok (.loc n) hh
  | _ => .no
/-- n: the place of the new list's cell -/
def lcGo (fin : Nat → Hs → R D) (n : Nat) (ds0 : Ev) (s : Src) (t : Tg) (tt : M Bool) (te : M D) : Nat → Nat → Hs → R D
  | 0, _, hh => if srcEnd s hh then fin n hh else .no
  | k + 1, i, hh => match (srcAt s hh i).bind fun x => asgT t x ds0 with
    | none => .no
    | some ds => (tt ds hh).noex.bind fun b h2 => if b then (te ds h2).noex.bind fun y h3 => (match pushAt n y h3 with
        | some h4 => lcGo fin n ds0 s t tt te k (i + 1) h4
        | none => .no) else lcGo fin n ds0 s t tt te k (i + 1) h2
def mLcF (fin : Nat → Hs → R D) (src : M Src) (vs : List Nat) (t : Tg) (tt : M Bool) (te : M D) : M D := fun ds h => (src ds h).bind fun s h1 => lcGo fin h1.length (wipeD ds vs) s t tt te s.len 0 (h1 ++ [.lst []])
abbrev mLc := mLcF endV
abbrev mLcC := mLcF endC
abbrev W0 : WX := fun _ _ _ _ => False
def mYes : M Bool := fun _ h => .ok true h
abbrev DTs (X : Cx) (ifs : List Expr) (m : M Bool) : Prop := PTs X ifs (ttM X.K X.mg W0 m)
section
variable {X : Cx} {W : WX} {pos p : Pos} {a b c e : Expr} {es : List Expr} {ma mb mc : M D} {me : M (List D)}
theorem PTs.imp {ifs : List Expr} {t t' : TT} (p : PTs X ifs t) (h : ∀ σ H Q, t' σ H Q → t σ H Q) : PTs X ifs t' := ⟨fun pins s σ H Q I q => p.run pins s σ H Q I (h σ H Q q)⟩
theorem dts_nil : DTs X [] mYes := PTs.imp pts_nil fun σ H Q ⟨as, ds, h, s, p⟩ => p H as .refl s.heap
theorem dts_one {tc : M Bool} (h : DT X W0 c tc) : DTs X [c] tc := pts_one h
theorem PostT.noex {K : PySem.W.Frag} {mg : Str → Option Value} {as : List Addr} {σ : L2.St} {H : Hp} {r : R Bool} {k : Bool → Hs → R D} {Q : VK} {Q' : Bool → Hp → Prop} (p : PostE K mg W as σ H (r.noex.bind k) Q)
    (n : ∀ b h H1 as1, Grow as H as1 H1 → HeapR K H1 as1 h → PostE K mg W as1 σ H1 (k b h) Q → Q' b H1) {σ' : L2.St} : PostT K mg W0 as σ' H r Q' := by
  cases r with
  | ok d h => exact fun H1 as1 f hr => n d h H1 as1 f hr (PostE.grow f p)
  | ex c q h => exact p.elim
  | no => exact p
theorem PostE.noex {K : PySem.W.Frag} {mg : Str → Option Value} {as : List Addr} {σ : L2.St} {H : Hp} {r : R D} {k : D → Hs → R D} {Q Q' : VK} (p : PostE K mg W as σ H (r.noex.bind k) Q)
    (n : ∀ d h v H1 as1, Grow as H as1 H1 → RD K H1 as1 d v → HeapR K H1 as1 h → PostE K mg W as1 σ H1 (k d h) Q → Q' v H1) {σ' : L2.St} : PostE K mg W0 as σ' H r Q' := by
  cases r with
  | ok d h => exact fun v H1 as1 f r1 hr => n d h v H1 as1 f r1 hr (PostE.grow f p)
  | ex c q h => exact p.elim
  | no => exact p
theorem HeapR.get2 {K : PySem.W.Frag} {H : Hp} {as : List Addr} {h : Hs} (r : HeapR K H as h) {n : Nat} {d : D} (e : h[n]? = some d) : ∃ a, as[n]? = some a ∧ CellR K H as d a := by
  have hl : n < h.length := (List.getElem?_eq_some_iff.mp e).1
  have hl2 : n < as.length := by rw [r.len]; exact hl
  exact ⟨as[n], List.getElem?_eq_getElem hl2, r.at_ n d _ e (List.getElem?_eq_getElem hl2)⟩
theorem pushAt_ok {K : PySem.W.Frag} {H : Hp} {as : List Addr} {h h4 : Hs} (r : HeapR K H as h) {n : Nat} {q : Addr} (e : as[n]? = some q) {y : D} {v : V} (rv : RV K H as y v) (p : pushAt n y h = some h4) :
    ∃ accV, H q = some (.lst accV) ∧ accV.length < sizeLine ∧ Grow as H as (upd H q (.lst (accV ++ [v]))) ∧ HeapR K (upd H q (.lst (accV ++ [v]))) as h4 := by
  unfold pushAt at p
  obtain ⟨d, e1, cr⟩ := r.get e
  rw [e1] at p
  cases cr with
  | @lst _ accV acc hh rs =>
    simp only at p
    by_cases hc : acc.length < 16777216
    · rw [if_pos hc] at p
      cases p
      obtain ⟨g, hr⟩ := r.write e hh (rs.append (.cons rv .nil))
      exact ⟨accV, hh, by rw [sizeLine_eq, ← rs.length]; exact hc, g, hr⟩
    · rw [if_neg hc] at p; cases p
  | _ => cases p
/-- what the end of a comprehension does with its list in cell n -/
def EndOk (fin : Nat → Hs → R D) : Prop := ∀ (K : PySem.W.Frag) (mg : Str → Option Value) (W : WX) (as as' : List Addr) (σ : L2.St) (H H' : Hp) (D : Addr) (hh : Hs) (Q : VK), D ∉ as → H D = none → Grow as H as' H' → as'[as.length]? = some D → HeapR K H' as' hh →
  PostE K mg W as σ H (fin as.length hh) Q → Q (.ref D) H'
theorem endV_ok : EndOk endV := by
  intro K mg W as as' σ H H' D hh Q nD eD g hD hr q
  unfold endV at q
  obtain ⟨d, e1, cr⟩ := hr.get hD
  rw [e1] at q
  cases cr with
  | @lst _ accV acc hh' rs =>
    simp only at q
    cases hb : (bels as.length acc && bels as.length (hh.take as.length)) with
    | false => rw [hb] at q; exact q.elim
    | true =>
      rw [hb] at q
      simp only [if_true] at q
      simp only [Bool.and_eq_true] at hb
      exact q (.ref D) H' as g.back (.lst hh' nD (rs.shrink g.pre hb.1)) (hr.back g hb.2)
  | _ => exact q.elim
theorem endC_ok : EndOk endC := by
  intro K mg W as as' σ H H' D hh Q nD eD g hD hr q
  unfold endC at q
  obtain ⟨d, e1, cr⟩ := hr.get hD
  rw [e1] at q
  cases cr with
  | lst hh' rs => exact q (.ref D) H' as' g (.loc hD) hr
  | _ => exact q.elim
theorem lc_post {fin : Nat → Hs → R D} (hf : EndOk fin) {ms : M Src} {t : Tg} {mt : M Bool} {vs : List Nat} (hsub : ∀ i ∈ t.ns, i ∈ vs) {σ : L2.St} {H0 : Hp} {Q : VK} (q : teM X.K X.mg W (mLcF fin ms vs t mt ma) σ H0 Q) :
    tLc (tiM X.K X.mg W ms) (gOf X.K t) (ttM X.K X.mg W0 mt) (teM X.K X.mg W0 ma) vs σ H0 Q := by
  obtain ⟨as, ds, h, s, q⟩ := q
  refine ⟨as, ds, h, s, ?_⟩
  unfold mLcF at q
  cases es : ms ds h with
  | ex c p h1 => rw [es] at q; exact q
  | no => rw [es] at q; exact q
  | ok sr h1 =>
    rw [es] at q
    intro J H as1 g hr wk D hD
    have q : PostE X.K X.mg W as σ H0 (lcGo fin h1.length (wipeD ds vs) sr t mt ma sr.len 0 (h1 ++ [.lst []])) Q := q
    have q := PostE.grow g q
    obtain ⟨g2, hr2⟩ := hr.push hD (vs := []) (ds := []) .nil
    have len : as1.length = h1.length := hr.len
    rw [← len] at q
    generalize hn : as1.length = n at q len
    have hD1 : ∀ as' : List Addr, as1 ++ [D] <+: as' → as'[n]? = some D := fun as' hp => pre_get hp (by rw [← hn]; simp)
    refine ⟨fun i m H' => m + i = sr.len ∧ ∃ hh as', Grow as1 H as' H' ∧ as1 ++ [D] <+: as' ∧ StR X.K H' as' (wipeD ds vs) hh (L2.wipe σ vs) ∧ WalkD X.K as' H' J sr ∧ PostE X.K X.mg W as1 σ H (lcGo fin n (wipeD ds vs) sr t mt ma m i hh) Q, ⟨sr.len, rfl, _, _, g2, List.prefix_refl _, ⟨((s.env.grow g).grow g2).wipe vs, hr2⟩, wk.grow g2, q⟩, ?_⟩
    rintro i m H' ⟨hmi, hh, as', g3, pr, s3, wk3, q3⟩
    cases m with
    | zero =>
      refine .inl ?_
      cases ee : srcEnd sr hh with
      | false => simp only [lcGo, ee] at q3; exact q3.elim
      | true =>
        have hi' : i = sr.len := by omega
        subst hi'
        refine ⟨wk3.stop hh H' _ .refl s3.heap ee, ?_⟩
        simp only [lcGo, ee, if_true] at q3
        subst hn
        exact hf _ _ _ _ _ _ _ _ _ _ _ (hr.notin hD) hD g3 (hD1 _ pr) s3.heap q3
    | succ m =>
      refine .inr ?_
      cases eb : (srcAt sr hh i).bind fun x => asgT t x (wipeD ds vs) with
      | none => simp only [lcGo, eb] at q3; exact q3.elim
      | some ds1 =>
        obtain ⟨x, ex, e2⟩ := Option.bind_eq_some_iff.mp eb
        obtain ⟨go, yl⟩ := wk3.go i hh H' _ x .refl s3.heap ex
        refine ⟨go, _, fun H'' w => ⟨m, Nat.lt_succ_self m, w⟩, fun v H2 y => ?_⟩
        obtain ⟨sm, rv⟩ := yl v H2 y
        refine asg_ok t (s3.env.grow (.of_same sm)) (.val rv) e2 fun σ2 s4 wp => ⟨(wp vs hsub).trans (wipe_idem fun _ h => h), ?_⟩
        refine ⟨as', ds1, hh, ⟨s4, s3.heap.same sm⟩, ?_⟩
        simp only [lcGo, eb] at q3
        cases ett : mt ds1 hh with
        | ex c p h2 => rw [ett] at q3; exact q3.elim
        | no => rw [ett] at q3; exact q3.elim
        | ok b h2 =>
          rw [ett] at q3
          simp only [R.noex, R.bind] at q3
          intro H3 as3 g4 hr3
          have gA : Grow as' H' as3 H3 := (Grow.of_same sm).trans g4
          cases b with
          | false =>
            simp only [Bool.false_eq_true, if_false] at q3 ⊢
            exact ⟨by omega, _, as3, g3.trans gA, pr.trans gA.pre, ⟨s3.env.grow gA, hr3⟩, wk3.grow gA, q3⟩
          | true =>
            simp only [if_true] at q3 ⊢
            refine ⟨as3, ds1, h2, ⟨s4.grow g4, hr3⟩, ?_⟩
            cases ete : ma ds1 h2 with
            | ex c p h3 => rw [ete] at q3; exact q3.elim
            | no => rw [ete] at q3; exact q3.elim
            | ok y h3 =>
              rw [ete] at q3
              simp only [R.noex, R.bind] at q3
              intro v4 H4 as4 g5 r4 hr4
              have gB : Grow as' H' as4 H4 := gA.trans g5
              cases ep : pushAt n y h3 with
              | none => rw [ep] at q3; exact q3.elim
              | some h4 =>
                rw [ep] at q3
                obtain ⟨accV, hh', hl, g6, hr6⟩ := pushAt_ok hr4 (hD1 _ (pr.trans gB.pre)) r4 ep
                have gC := gB.trans g6
                exact ⟨accV, hh', hl, by omega, _, as4, g3.trans gC, pr.trans gC.pre, ⟨s3.env.grow gC, hr6⟩, wk3.grow gC, q3⟩
theorem de_lcF {fin : Nat → Hs → R D} (hf : EndOk fin) {elt tg iter : Expr} {ifs : List Expr} {scope : Scope} {own : List (Str × Nat)} {ms : M Src} {t : Tg} {mt : M Bool} (hN : X.N.Nodup) (hi : DI X W tg iter ms) (ok : BlkOk X.N X.env.scope scope own)
    (hg : ∀ (s : Shared) (H : Hp) (C : Addr) (cl : List (Str × Addr)) (fp : List Addr), DG (X.blk s H scope (compEnvC scope cl C X.env) fp) tg t) (ht : ∀ (s : Shared) (H : Hp) (C : Addr) (cl : List (Str × Addr)) (fp : List Addr), DTs (X.blk s H scope (compEnvC scope cl C X.env) fp) ifs mt)
    (he : ∀ (s : Shared) (H : Hp) (C : Addr) (cl : List (Str × Addr)) (fp : List Addr), DE (X.blk s H scope (compEnvC scope cl C X.env) fp) W0 elt ma) (hsub : ∀ i ∈ t.ns, i ∈ own.map (·.2) := by decide) (hc : X.calm = true := by rfl) (hs : ∀ x, foldedSetIterable iter X.env x = pure x := by intro _; rfl) :
    DE X W (.ListComp elt [⟨tg, iter, ifs, 0⟩] scope pos) (mLcF fin ms (own.map (·.2)) t mt ma) :=
  PE.imp (pe_lc (wi := tiM X.K X.mg W ms) (g := gOf X.K t) (tt := ttM X.K X.mg W0 mt) (te := teM X.K X.mg W0 ma) hc hN hi ok hg ht he hs) fun σ H0 Q q => lc_post hf hsub q
end
end DL

set_option Elab.async false
set_option linter.all false
set_option maxRecDepth 100000
set_option maxHeartbeats 4000000
namespace DL
open PySem PySem.Spec PyProof.Rows L2

/-! ### statements -/
def sRet (ma : M D) : SM := fun ds h => match ma ds h with
  | .ok d h1 => .rt d h1
  | .ex c p h1 => .ex c p ds h1
  | .no => .no
def sRetN : SM := fun _ h => .rt .non h
def sPass : SM := fun ds h => .nx ds h
def sBrk : SM := fun ds h => .bk ds h
def sCnt : SM := fun ds h => .ct ds h
def sNo : SM := fun _ _ => .no
def sDrop (ma : M D) : SM := fun ds h => match ma ds h with
  | .ok _ h1 => .nx ds h1
  | .ex c p h1 => .ex c p ds h1
  | .no => .no
def sAsg (t : Tg) (ma : M D) : SM := fun ds h => match ma ds h with
  | .ok d h1 => (match asgT t d ds with
    | some ds' => .nx ds' h1
    | none => .no)
  | .ex c p h1 => .ex c p ds h1
  | .no => .no
def sSeq (m1 m2 : SM) : SM := fun ds h => match m1 ds h with
  | .nx ds' h' => m2 ds' h'
  | r => r
def sIf (mc : M Bool) (m1 m2 : SM) : SM := fun ds h => match mc ds h with
  | .ok b h1 => if b then m1 ds h1 else m2 ds h1
  | .ex c p h1 => .ex c p ds h1
  | .no => .no
def sPar (is : List Nat) (me : M (List D)) : SM := fun ds h => match me ds h with
  | .ok xs h1 => if xs.length = is.length then .nx ((is.zip xs).foldl (fun ds p => ds.set p.1 (some p.2)) ds) h1 else .no
  | .ex c p h1 => .ex c p ds h1
  | .no => .no
def isLstAt (h : Hs) (n : Nat) : Bool := match h[n]? with
  | some (.lst _) => true
  | _ => false
/-- x.append(e), x a cell -/
def sApp (mo ma : M D) : SM := fun ds h => match mo ds h with
  | .ok (.loc n) h1 => if isLstAt h1 n = false then .no else (match ma ds h1 with
    | .ok y h2 => (match pushAt n y h2 with
      | some h3 => .nx ds h3
      | none => .no)
    | .ex c p h2 => .ex c p ds h2
    | .no => .no)
  | _ => .no
/-- x[i] = e, x a cell: the value first -/
def sPut (mo mi mv : M D) : SM := fun ds h => match mv ds h with
  | .ok y h1 => (match mo ds h1 with
    | .ok (.loc n) h2 => (match mi ds h2 with
      | .ok (.int i) h3 => (match h3[n]? with
        | some (.lst l) => (match ixN l.length i with
          | some j => .nx ds (h3.set n (.lst (l.set j y)))
          | none => .no)
        | _ => .no)
      | _ => .no)
    | _ => .no)
  | .ex c p h1 => .ex c p ds h1
  | .no => .no
section
variable {X : Cx} {W : WX} {pos p : Pos} {a b c e o i : Expr} {es : List Expr} {ma mb mc mo mi mv : M D} {me : M (List D)} {st : Stmt} {sts xs ys : List Stmt} {m1 m2 : SM} {tc : M Bool}
theorem ds_ret (ha : DE X W e ma) : DS X W (.Return (some e) pos) (sRet ma) := PS.imp (ps_ret ha) fun Dn σ H ⟨as, ds, h, s, p⟩ => ⟨as, ds, h, s, by
  unfold sRet at p
  cases e : ma ds h with
  | ok d h1 => rw [e] at p; exact p
  | ex c q h1 => rw [e] at p; exact fun cls dx H' as' g hr x => p σ cls dx H' as' g ⟨s.env.grow g, hr⟩ x
  | no => rw [e] at p; exact p⟩
theorem ds_retN : DS X W (.Return none pos) sRetN := PS.imp ps_retN fun Dn σ H ⟨as, ds, h, s, p⟩ => p .non H as .refl (.val .non) s.heap
theorem ds_pass : DS X W (.Pass pos) sPass := PS.imp ps_pass fun Dn σ H ⟨as, ds, h, s, p⟩ => p σ H as .refl s
theorem ds_brk : DS X W (.Break pos) sBrk := PS.imp ps_break fun Dn σ H ⟨as, ds, h, s, p⟩ => p σ H as .refl s
theorem ds_cnt : DS X W (.Continue pos) sCnt := PS.imp ps_continue fun Dn σ H ⟨as, ds, h, s, p⟩ => p σ H as .refl s
theorem ds_doc {x : Str} {j : Nat} {pos' : Pos} : DS X W (.Expr (.Constant (.str x) j pos) pos') sPass := PS.imp ps_doc fun Dn σ H ⟨as, ds, h, s, p⟩ => p σ H as .refl s
theorem ds_no : DS X W st sNo := PS.imp ps_never fun Dn σ H ⟨as, ds, h, s, p⟩ => p
theorem dss_no : DSs X W sts sNo := PSs.imp pss_never fun Dn σ H ⟨as, ds, h, s, p⟩ => p
theorem ds_expr (ha : DE X W e ma) (hs : swapsWith e none pos.line X.env = pure false := by rfl) : DS X W (.Expr e pos) (sDrop ma) := PS.imp (ps_expr ha hs) fun Dn σ H ⟨as, ds, h, s, p⟩ => ⟨as, ds, h, s, by
  unfold sDrop at p
  cases e : ma ds h with
  | ok d h1 => rw [e] at p; exact fun v H' as' g r hr => p σ H' as' g ⟨s.env.grow g, hr⟩
  | ex c q h1 => rw [e] at p; exact fun cls dx H' as' g hr x => p σ cls dx H' as' g ⟨s.env.grow g, hr⟩ x
  | no => rw [e] at p; exact p⟩
theorem asg_core {t : Tg} {Dn : Ends} {σ : L2.St} {H : Hp} (q : tsM X.K X.mg W (sAsg t ma) Dn σ H) : teM X.K X.mg W ma σ H fun x H1 => gOf X.K t x σ H1 Dn.nx := by
  obtain ⟨as, ds, h, s, p⟩ := q
  refine ⟨as, ds, h, s, ?_⟩
  unfold sAsg at p
  cases e : ma ds h with
  | ok d h1 =>
    rw [e] at p
    simp only at p
    cases e2 : asgT t d ds with
    | none => rw [e2] at p; exact p.elim
    | some ds' =>
      rw [e2] at p
      exact fun v H' as' g r hr => asg_ok t (s.env.grow g) r e2 fun σ' s' _ => p σ' H' as' g ⟨s', hr⟩
  | ex c q h1 => rw [e] at p; exact fun cls dx H' as' g hr x => p σ cls dx H' as' g ⟨s.env.grow g, hr⟩ x
  | no => rw [e] at p; exact p
theorem ds_set {i : Nat} {x : Str} {pos' : Pos} (hN : X.N.Nodup) (hi : X.N[i]? = some x) (hx : Loc X.env.scope x) (ha : DE X W e ma) (hs : swapsWith e (some (.Name x pos')) pos.line X.env = pure false := by rfl) (hf : X.fn x = true ∨ X.env.scope.names.lookup x = some .local := by first | exact .inl rfl | exact .inr rfl | assumption) :
    DS X W (.Assign [.Name x pos'] e pos) (sAsg (.nm i) ma) := PS.imp (ps_set hN hi hx ha hs hf) fun Dn σ H q => by
  have := asg_core q
  simp only [gOf] at this
  exact this
theorem ds_asg {tg : Expr} {t : Tg} (ha : DE X W e ma) (hg : DG X tg t) (hs : swapsWithSole [tg] e pos.line X.env = pure false := by rfl) (hw : swappedStores [tg] e X.env = pure none := by rfl) (h1 : (assignEach [tg] X.env).map (·.2) = [assign tg X.env] := by rfl) :
    DS X W (.Assign [tg] e pos) (sAsg t ma) := PS.imp (ps_asg ha hg hs hw h1) fun Dn σ H q => asg_core q
theorem ds_par2 {i j : Nat} {x y : Str} {px py pt : Pos} {kt k2 pt2} (hN : X.N.Nodup) (hi : X.N[i]? = some x) (hj : X.N[j]? = some y) (hx : X.env.scope.names.lookup x = some .local) (hy : X.env.scope.names.lookup y = some .local) (ha : DA X W [a, b] me)
    (hij : i ≠ j := by decide) (hc : X.calm = true := by rfl) (hw : swappedStores [.Tuple [.Name x px, .Name y py] kt pt] (.Tuple [a, b] k2 pt2) X.env = pure (some [x, y]) := by rfl) (hs : swapsWithSole [.Tuple [.Name x px, .Name y py] kt pt] (.Tuple [a, b] k2 pt2) pos.line X.env = pure false := by rfl) :
    DS X W (.Assign [.Tuple [.Name x px, .Name y py] kt pt] (.Tuple [a, b] k2 pt2) pos) (sPar [i, j] me) :=
  PS.imp (ps_par hc hN hi hj hij hx hy ha hw hs) fun Dn σ H ⟨as, ds, h, s, p⟩ => ⟨as, ds, h, s, by
    unfold sPar at p
    cases e : me ds h with
    | ok xs h1 =>
      rw [e] at p
      simp only at p
      intro vs H' as' g r hr
      match xs, vs, r with
      | [], _, _ => exact p.elim
      | [_], _, _ => exact p.elim
      | _ :: _ :: _ :: _, _, _ => exact (by simp at p; exact p.elim)
      | [d, d'], [v, v'], .cons r1 (.cons r2 .nil) => exact ⟨v, v', rfl, p _ H' as' g ⟨(((s.env.grow g).set r1 i).set r2 j), hr⟩⟩
    | ex c q h1 => rw [e] at p; exact fun cls dx H' as' g hr x => p σ cls dx H' as' g ⟨s.env.grow g, hr⟩ x
    | no => rw [e] at p; exact p⟩
theorem ds_lcF {fin : Nat → Hs → R D} (hf : EndOk fin) {i : Nat} {y : Str} {py : Pos} {elt tg iter : Expr} {ifs : List Expr} {scope : Scope} {own : List (Str × Nat)} {spos : Pos} {ms : M Src} {t : Tg} {mt : M Bool} (hN : X.N.Nodup) (hy : X.N[i]? = some y) (hyl : X.env.scope.names.lookup y = some .local)
    (hsw : swapsWith (.ListComp elt [⟨tg, iter, ifs, 0⟩] scope pos) (some (.Name y py)) spos.line X.env = pure true) (hi : DI X W tg iter ms) (ok : BlkOk X.N X.env.scope scope own)
    (hg : ∀ (s : Shared) (H : Hp) (C : Addr) (cl : List (Str × Addr)) (fp : List Addr), DG (X.blk s H scope (compEnvC scope cl C X.env) fp) tg t) (ht : ∀ (s : Shared) (H : Hp) (C : Addr) (cl : List (Str × Addr)) (fp : List Addr), DTs (X.blk s H scope (compEnvC scope cl C X.env) fp) ifs mt)
    (he : ∀ (s : Shared) (H : Hp) (C : Addr) (cl : List (Str × Addr)) (fp : List Addr), DE (X.blk s H scope (compEnvC scope cl C X.env) fp) W0 elt ma) (hsub : ∀ i ∈ t.ns, i ∈ own.map (·.2) := by decide) (hc : X.calm = true := by rfl) (hs : ∀ x, foldedSetIterable iter X.env x = pure x := by intro _; rfl) :
    DS X W (.Assign [.Name y py] (.ListComp elt [⟨tg, iter, ifs, 0⟩] scope pos) spos) (sAsg (.nm i) (mLcF fin ms (own.map (·.2)) t mt ma)) :=
  PS.imp (ps_setLc (wi := tiM X.K X.mg W ms) (g := gOf X.K t) (tt := ttM X.K X.mg W0 mt) (te := teM X.K X.mg W0 ma) hc hN hy hyl hsw hi ok hg ht he hs) fun Dn σ H q => by
    have := asg_core q
    simp only [gOf] at this
    exact lc_post hf hsub this
theorem dss_nil : DSs X W [] sPass := PSs.imp pss_nil fun Dn σ H ⟨as, ds, h, s, p⟩ => p σ H as .refl s
theorem dss_cons (h1 : DS X W st m1) (h2 : DSs X W sts m2) : DSs X W (st :: sts) (sSeq m1 m2) := PSs.imp (pss_cons h1 h2) fun Dn σ H ⟨as, ds, h, s, p⟩ => ⟨as, ds, h, s, by
  unfold sSeq at p
  cases e : m1 ds h with
  | nx ds' h' => rw [e] at p; exact fun σ' H' as' g s' => ⟨as', ds', h', s', PostS.grow g p⟩
  | rt d h' => rw [e] at p; exact p
  | bk ds' h' => rw [e] at p; exact p
  | ct ds' h' => rw [e] at p; exact p
  | ex c q ds' h' => rw [e] at p; exact p
  | no => rw [e] at p; exact p⟩
theorem dss_one (h1 : DS X W st m1) : DSs X W [st] m1 := pss_one h1
theorem ds_if (hc : DT X W c tc) (h1 : DSs X W xs m1) (h2 : DSs X W ys m2) : DS X W (.If c xs ys pos) (sIf tc m1 m2) := PS.imp (ps_if hc h1 h2) fun Dn σ H ⟨as, ds, h, s, p⟩ => ⟨as, ds, h, s, by
  unfold sIf at p
  cases e : tc ds h with
  | ok b h1 =>
    rw [e] at p
    intro H' as' g hr
    cases b with
    | true => exact ⟨as', ds, h1, ⟨s.env.grow g, hr⟩, PostS.grow g p⟩
    | false => exact ⟨as', ds, h1, ⟨s.env.grow g, hr⟩, PostS.grow g p⟩
  | ex c q h1 => rw [e] at p; exact fun cls dx H' as' g hr x => p σ cls dx H' as' g ⟨s.env.grow g, hr⟩ x
  | no => rw [e] at p; exact p⟩
end
end DL

set_option Elab.async false
set_option linter.all false
set_option maxRecDepth 100000
set_option maxHeartbeats 4000000
namespace DL
open PySem PySem.Spec PyProof.Rows L2

/-- loops: what was made within a turn may be forgotten behind it -/
def gcE (n0 : Nat) (ds : Ev) : Ev := ds.map fun o => match o with
  | some d => if bel n0 d then some d else none
  | none => none
def keepS (gc : Bool) (n0 : Nat) (ds : Ev) (h : Hs) (k : Ev → Hs → SR) : SR := if gc then (if bels n0 (h.take n0) then k (gcE n0 ds) (h.take n0) else .no) else k ds h
def forGo (gc : Bool) (n0 : Nat) (s : Src) (t : Tg) (body : SM) : Nat → Nat → Ev → Hs → SR
  | 0, _, ds, h => if srcEnd s h then .nx ds h else .no
  | k + 1, i, ds, h => match (srcAt s h i).bind fun x => asgT t x ds with
    | none => .no
    | some ds1 => match body ds1 h with
      | .nx ds2 h2 => keepS gc n0 ds2 h2 (forGo gc n0 s t body k (i + 1))
      | .ct ds2 h2 => keepS gc n0 ds2 h2 (forGo gc n0 s t body k (i + 1))
      | .bk ds2 h2 => .nx ds2 h2
      | r => r
def sForB (gc : Bool) (ms : M Src) (t : Tg) (body : SM) : SM := fun ds h => match ms ds h with
  | .ok s h1 => forGo gc h1.length s t body s.len 0 ds h1
  | .ex c p h1 => .ex c p ds h1
  | .no => .no
abbrev sFor := sForB false
abbrev sForG := sForB true
def whileGo (gc : Bool) (n0 : Nat) (c : M Bool) (body : SM) : Nat → Ev → Hs → SR
  | 0, _, _ => .no
  | k + 1, ds, h => match c ds h with
    | .ok b h1 => if b then (match body ds h1 with
        | .nx ds2 h2 => keepS gc n0 ds2 h2 (whileGo gc n0 c body k)
        | .ct ds2 h2 => keepS gc n0 ds2 h2 (whileGo gc n0 c body k)
        | .bk ds2 h2 => .nx ds2 h2
        | r => r) else .nx ds h1
    | .ex e p h1 => .ex e p ds h1
    | .no => .no
def sWhileB (gc : Bool) (fuel : Nat) (c : M Bool) (body : SM) : SM := fun ds h => whileGo gc h.length c body fuel ds h
abbrev sWhile := sWhileB false
abbrev sWhileG := sWhileB true
theorem EvR.gc {K : PySem.W.Frag} {H H' : Hp} {as as' : List Addr} (g : Grow as H as' H') : ∀ {ds : Ev} {σ : L2.St}, EvR K H' as' ds σ → EvR K H' as (gcE as.length ds) σ
  | _, _, .nil => .nil
  | _, _, .cons (a := od) h t => by
    refine .cons (fun d e => ?_) (EvR.gc g t)
    cases od with
    | none => cases e
    | some d0 =>
      simp only at e
      split at e
      · rename_i hl
        cases e
        obtain ⟨v, e1, r⟩ := h _ rfl
        exact ⟨v, e1, r.shrink g.pre hl⟩
      · cases e
theorem keep_ok {K : PySem.W.Frag} {mg : Str → Option Value} {W : WX} {gc : Bool} {as as0 : List Addr} {H H0 : Hp} {ds : Ev} {h : Hs} {σ : L2.St} {k : Ev → Hs → SR} {En : Ends} (g : Grow as0 H0 as H) (s : StR K H as ds h σ)
    (q : PostS K mg W as0 H0 (keepS gc as0.length ds h k) En) : ∃ ds' h' as', Grow as0 H0 as' H ∧ StR K H as' ds' h' σ ∧ PostS K mg W as0 H0 (k ds' h') En := by
  unfold keepS at q
  cases gc with
  | false => exact ⟨ds, h, as, g, s, q⟩
  | true =>
    simp only [if_true] at q
    cases hb : bels as0.length (h.take as0.length) with
    | false => rw [hb] at q; exact q.elim
    | true => rw [hb] at q; exact ⟨_, _, as0, g.back, ⟨s.env.gc g, s.heap.back g hb⟩, q⟩
section
variable {X : Cx} {W : WX} {pos p : Pos} {a b c e o i : Expr} {es : List Expr} {ma mb mc mo mi mv : M D} {me : M (List D)} {st : Stmt} {sts xs ys : List Stmt} {m1 m2 mbd : SM} {tc : M Bool}
theorem app_post {Dn : Ends} {σ : L2.St} {H : Hp} (q : tsM X.K X.mg W (sApp mo ma) Dn σ H) : tDrop (tBM X.K "list" rAppend (teM X.K X.mg W mo) (taM X.K X.mg W (mCons ma mNil))) Dn σ H := by
  obtain ⟨as, ds, h, s, q⟩ := q
  refine ⟨as, ds, h, s, ?_⟩
  unfold sApp at q
  cases eo : mo ds h with
  | ex c p h1 => rw [eo] at q; exact q.elim
  | no => rw [eo] at q; exact q.elim
  | ok x h1 =>
    rw [eo] at q
    cases x with
    | loc n =>
      simp only at q
      intro v H1 as1 g1 r1 hr1
      cases r1 with
      | @loc _ ad hat =>
        obtain ⟨c0, ec0, cr0⟩ := hr1.get hat
        cases cr0 with
        | lst hl0 _ =>
          have ei : isLstAt h1 n = true := by simp only [isLstAt, ec0]
          rw [ei] at q
          simp only [Bool.true_eq_false, if_false] at q
          refine ⟨Or.inl ⟨rfl, _, Or.inl (Or.inl hl0)⟩, as1, ds, h1, ⟨s.env.grow g1, hr1⟩, ?_⟩
          unfold mCons mNil
          cases ea : ma ds h1 with
          | ex c p h2 => rw [ea] at q; exact fun cls dx H' as' g hr x => q σ cls dx H' as' (g1.trans g) ⟨s.env.grow (g1.trans g), hr⟩ x
          | no => rw [ea] at q; exact q.elim
          | ok y h2 =>
            rw [ea] at q
            simp only at q
            intro vs H2 as2 g2 r2 hr2
            cases r2 with
            | cons ry t =>
              cases t
              cases ep : pushAt n y h2 with
              | none => rw [ep] at q; exact q.elim
              | some h3 =>
                rw [ep] at q
                obtain ⟨accV, hh, hl, g3, hr3⟩ := pushAt_ok hr2 (pre_get g2.pre hat) ry ep
                exact ⟨ad, accV, _, rfl, rfl, hh, hl, q σ _ as2 ((g1.trans g2).trans g3) ⟨(s.env.grow (g1.trans g2)).grow g3, hr3⟩⟩
        | _ => simp only [isLstAt, ec0] at q; exact q.elim
    | _ => exact q.elim
theorem ds_app {apos : Pos} (ho : DE X W o mo) (ha : DA X W [e] (mCons ma mNil)) (hc : ∀ {to : TE} {t : TA}, PE X o to → PA X [e] t → PE X (.Call (.Attribute o "append" apos) [e] [] pos) (tBM X.K "list" rAppend to t) := by intro _ _ h1 h2; exact pe_bm PySem.F.plainAttrs_list PySem.F.slot_list_append PySem.F.type_list_append mt_append h1 h2)
    (hs : swapsWith (.Call (.Attribute o "append" apos) [e] [] pos) none p.line X.env = pure false := by rfl) : DS X W (.Expr (.Call (.Attribute o "append" apos) [e] [] pos) p) (sApp mo ma) :=
  PS.imp (ps_expr (hc ho ha) hs) fun Dn σ H q => app_post q
theorem put_post {Dn : Ends} {σ : L2.St} {H : Hp} (q : tsM X.K X.mg W (sPut mo mi mv) Dn σ H) : tAsg (teM X.K X.mg W mv) (gSub (teM X.K X.mg W mo) (teM X.K X.mg W mi) rSetL) Dn σ H := by
  obtain ⟨as, ds, h, s, q⟩ := q
  refine ⟨as, ds, h, s, ?_⟩
  unfold sPut at q
  cases ev : mv ds h with
  | ex c p h1 => rw [ev] at q; exact fun cls dx H' as' g hr x => q σ cls dx H' as' g ⟨s.env.grow g, hr⟩ x
  | no => rw [ev] at q; exact q.elim
  | ok y h1 =>
    rw [ev] at q
    intro v H1 as1 g1 r1 hr1
    refine ⟨as1, ds, h1, ⟨s.env.grow g1, hr1⟩, ?_⟩
    simp only at q
    cases eo : mo ds h1 with
    | ex c p h2 => rw [eo] at q; exact q.elim
    | no => rw [eo] at q; exact q.elim
    | ok x h2 =>
      rw [eo] at q
      intro vo H2 as2 g2 r2 hr2
      have s2 : StR X.K H2 as2 ds h2 σ := ⟨s.env.grow (g1.trans g2), hr2⟩
      refine ⟨as2, ds, h2, s2, ?_⟩
      cases x with
      | loc n =>
        simp only at q
        cases ei : mi ds h2 with
        | ex c p h3 => rw [ei] at q; exact q.elim
        | no => rw [ei] at q; exact q.elim
        | ok z h3 =>
          rw [ei] at q
          intro vi H3 as3 g3 r3 hr3
          cases z with
          | int i =>
            simp only at q
            cases en : h3[n]? with
            | none => rw [en] at q; exact q.elim
            | some c =>
              rw [en] at q
              obtain ⟨ad, e1, cr⟩ := hr3.get2 en
              cases cr with
              | @lst _ accV l hh rs =>
                simp only at q
                cases ej : ixN l.length i with
                | none => rw [ej] at q; exact q.elim
                | some j =>
                  rw [ej] at q
                  simp only at q
                  cases r2 with
                  | @loc _ ad2 hat =>
                    have e2 := pre_get g3.pre hat
                    rw [e1] at e2; cases e2
                    cases r3
                    obtain ⟨g4, hr4⟩ := hr3.write e1 hh (rs.set (r1.grow (g2.trans g3)) j)
                    exact ⟨ad, accV, i, j, rfl, rfl, hh, by rw [← rs.length]; exact ej, q σ _ as3 (((g1.trans g2).trans g3).trans g4) ⟨(s2.env.grow g3).grow g4, hr4⟩⟩
              | _ => exact q.elim
          | _ => exact q.elim
      | _ => exact q.elim
theorem ds_put {tp : Pos} (ho : DE X W o mo) (hi : DE X W i mi) (hv : DE X W e mv)
    (ha : ∀ v, assign (.Subscript o i tp) X.env v = (do
      let ov ← holding [v] (eval o X.env)
      let iv ← holding [v, ov] (eval i X.env)
      standAt tp
      holding [v, ov, iv] (setItem ov iv v)
      release [v, ov, iv] []) := by intro _; rfl) (hs : swapsWithSole [.Subscript o i tp] e pos.line X.env = pure false := by rfl) (hw : swappedStores [.Subscript o i tp] e X.env = pure none := by rfl)
    (h1 : (assignEach [.Subscript o i tp] X.env).map (·.2) = [assign (.Subscript o i tp) X.env] := by rfl) : DS X W (.Assign [.Subscript o i tp] e pos) (sPut mo mi mv) :=
  PS.imp (ps_asg hv (pg_sub ho hi set_list ha) hs hw h1) fun Dn σ H q => put_post q
theorem for_post {gc : Bool} {ms : M Src} {t : Tg} {Dn : Ends} {σ : L2.St} {H : Hp} (q : tsM X.K X.mg W (sForB gc ms t mbd) Dn σ H) : tFor (tiM X.K X.mg W ms) (gOf X.K t) (tsM X.K X.mg W mbd) Dn σ H := by
  obtain ⟨as, ds, h, s, q⟩ := q
  refine ⟨as, ds, h, s, ?_⟩
  unfold sForB at q
  cases es : ms ds h with
  | ex c p h1 => rw [es] at q; exact fun cls dx H' as' g hr x => q σ cls dx H' as' g ⟨s.env.grow g, hr⟩ x
  | no => rw [es] at q; exact q.elim
  | ok sr h1 =>
    rw [es] at q
    intro J H1 as1 g hr wk
    have q : PostS X.K X.mg W as H (forGo gc h1.length sr t mbd sr.len 0 ds h1) Dn := q
    have q := PostS.grow g q
    have len : as1.length = h1.length := hr.len
    rw [← len] at q
    refine ⟨fun i m σ' H' => m + i = sr.len ∧ ∃ ds' hh as', Grow as1 H1 as' H' ∧ StR X.K H' as' ds' hh σ' ∧ PostS X.K X.mg W as1 H1 (forGo gc as1.length sr t mbd m i ds' hh) Dn, ⟨sr.len, rfl, ds, h1, as1, .refl, ⟨s.env.grow g, hr⟩, q⟩, ?_⟩
    rintro i m σ' H' ⟨hmi, ds', hh, as', g3, s3, q3⟩
    cases m with
    | zero =>
      refine .inl ?_
      cases ee : srcEnd sr hh with
      | false => simp only [forGo, ee] at q3; exact q3.elim
      | true =>
        have hi' : i = sr.len := by omega
        subst hi'
        simp only [forGo, ee, if_true] at q3
        exact ⟨wk.stop hh H' _ g3 s3.heap ee, q3 σ' H' as' g3 s3⟩
    | succ m =>
      refine .inr ?_
      cases eb : (srcAt sr hh i).bind fun x => asgT t x ds' with
      | none => simp only [forGo, eb] at q3; exact q3.elim
      | some ds1 =>
        obtain ⟨x, ex, e2⟩ := Option.bind_eq_some_iff.mp eb
        obtain ⟨go, yl⟩ := wk.go i hh H' _ x g3 s3.heap ex
        refine ⟨go, _, fun σ'' H'' w => ⟨m, Nat.lt_succ_self m, w⟩, fun v H2 y => ?_⟩
        obtain ⟨sm, rv⟩ := yl v H2 y
        have gs : Grow as' H' as' H2 := .of_same sm
        refine asg_ok t (s3.env.grow gs) (.val rv) e2 fun σ2 s4 wp => ⟨as', ds1, hh, ⟨s4, s3.heap.same sm⟩, ?_⟩
        simp only [forGo, eb] at q3
        cases ebd : mbd ds1 hh with
        | nx ds2 h2 =>
          rw [ebd] at q3
          intro σ5 H5 as5 g5 s5
          exact ⟨by omega, keep_ok ((g3.trans gs).trans g5) s5 q3⟩
        | ct ds2 h2 =>
          rw [ebd] at q3
          intro σ5 H5 as5 g5 s5
          exact ⟨by omega, keep_ok ((g3.trans gs).trans g5) s5 q3⟩
        | bk ds2 h2 => rw [ebd] at q3; exact fun σ5 H5 as5 g5 s5 => q3 σ5 H5 as5 ((g3.trans gs).trans g5) s5
        | rt d h2 => rw [ebd] at q3; exact fun v H5 as5 g5 => q3 v H5 as5 ((g3.trans gs).trans g5)
        | ex c p ds2 h2 => rw [ebd] at q3; exact fun σ5 cls dx H5 as5 g5 => q3 σ5 cls dx H5 as5 ((g3.trans gs).trans g5)
        | no => rw [ebd] at q3; exact q3.elim
theorem ds_for {gc : Bool} {tg iter : Expr} {body : List Stmt} {ms : M Src} {t : Tg} (hp : PassesOwn (model X.prog X.w) X.A X.env X.xe) (hi : DI X W tg iter ms) (hg : DG X tg t) (hb : DSs X W body mbd) (hc : X.calm = true := by rfl) (hs : ∀ x, foldedSetIterable iter X.env x = pure x := by intro _; rfl) :
    DS X W (.For tg iter body [] pos) (sForB gc ms t mbd) := PS.imp (ps_for hp hc hi hg hb hs) fun Dn σ H q => for_post q
theorem while_post {gc : Bool} {fuel : Nat} {Dn : Ends} {σ : L2.St} {H : Hp} (q : tsM X.K X.mg W (sWhileB gc fuel tc mbd) Dn σ H) : tWhile (ttM X.K X.mg W tc) (tsM X.K X.mg W mbd) Dn σ H := by
  obtain ⟨as, ds, h, s, q⟩ := q
  unfold sWhileB at q
  have len : as.length = h.length := s.heap.len
  rw [← len] at q
  refine ⟨fun m σ' H' => ∃ ds' hh as', Grow as H as' H' ∧ StR X.K H' as' ds' hh σ' ∧ PostS X.K X.mg W as H (whileGo gc as.length tc mbd m ds' hh) Dn, ⟨fuel, ds, h, as, .refl, s, q⟩, ?_⟩
  rintro m σ' H' ⟨ds', hh, as', g3, s3, q3⟩
  cases m with
  | zero => exact q3.elim
  | succ m =>
    refine ⟨as', ds', hh, s3, ?_⟩
    simp only [whileGo] at q3
    cases ec : tc ds' hh with
    | ex c p h2 => rw [ec] at q3; exact fun cls dx H2 as2 g hr x => q3 σ' cls dx H2 as2 (g3.trans g) ⟨s3.env.grow g, hr⟩ x
    | no => rw [ec] at q3; exact q3.elim
    | ok b h1 =>
      rw [ec] at q3
      intro H2 as2 g2 hr2
      have s4 : StR X.K H2 as2 ds' h1 σ' := ⟨s3.env.grow g2, hr2⟩
      cases b with
      | false =>
        simp only [Bool.false_eq_true, if_false] at q3 ⊢
        exact q3 σ' H2 as2 (g3.trans g2) s4
      | true =>
        simp only [if_true] at q3 ⊢
        refine ⟨_, fun σ'' H'' w => ⟨m, Nat.lt_succ_self m, w⟩, as2, ds', h1, s4, ?_⟩
        cases ebd : mbd ds' h1 with
        | nx ds2 h2 =>
          rw [ebd] at q3
          intro σ5 H5 as5 g5 s5
          exact keep_ok (g3.trans (g2.trans g5)) s5 q3
        | ct ds2 h2 =>
          rw [ebd] at q3
          intro σ5 H5 as5 g5 s5
          exact keep_ok (g3.trans (g2.trans g5)) s5 q3
        | bk ds2 h2 => rw [ebd] at q3; exact fun σ5 H5 as5 g5 s5 => q3 σ5 H5 as5 ((g3.trans g2).trans g5) s5
        | rt d h2 => rw [ebd] at q3; exact fun v H5 as5 g5 => q3 v H5 as5 ((g3.trans g2).trans g5)
        | ex c p ds2 h2 => rw [ebd] at q3; exact fun σ5 cls dx H5 as5 g5 => q3 σ5 cls dx H5 as5 ((g3.trans g2).trans g5)
        | no => rw [ebd] at q3; exact q3.elim
theorem ds_while {gc : Bool} {body : List Stmt} {fuel : Nat} (hp : PassesOwn (model X.prog X.w) X.A X.env X.xe) (hc : DT X W c tc) (hb : DSs X W body mbd) : DS X W (.While c body [] pos) (sWhileB gc fuel tc mbd) := PS.imp (ps_while hp hc hb) fun Dn σ H q => while_post q
end
end DL

set_option Elab.async false
set_option linter.all false
set_option maxRecDepth 100000
set_option maxHeartbeats 4000000
namespace DL
open PySem PySem.Spec PyProof.Rows L2

/-! ### a def by its body -/
/-- all stays -/
def finK (_ : Nat) : SR → R D
  | .nx _ h => .ok .non h
  | .rt d h => .ok d h
  | .ex c p _ h => .ex c p h
  | _ => .no
/-- lists of one's own are handed back as values -/
def thawN (n0 : Nat) (h : Hs) : Nat → D → D
  | 0, d => d
  | k + 1, .loc n => if Nat.blt n n0 then .loc n else (match h[n]? with
    | some (.lst l) => .lst (l.map (thawN n0 h k))
    | some (.dct ks l) => .dct ks (l.map (thawN n0 h k))
    | _ => .loc n)
  | k + 1, .tup l => .tup (l.map (thawN n0 h k))
  | k + 1, .lst l => .lst (l.map (thawN n0 h k))
  | _ + 1, d => d
def thaw (n0 : Nat) (h : Hs) (d : D) : D := thawN n0 h 4 d
/-- what was made within the def is forgotten -/
def finG (n0 : Nat) : SR → R D
  | .nx _ h => if bels n0 (h.take n0) then .ok .non (h.take n0) else .no
  | .rt d h => if bel n0 (thaw n0 h d) && bels n0 (h.take n0) then .ok (thaw n0 h d) (h.take n0) else .no
  | .ex c none _ h => if bels n0 (h.take n0) then .ex c none (h.take n0) else .no
  | .ex c (some d) _ h => if bel n0 d && bels n0 (h.take n0) then .ex c (some d) (h.take n0) else .no
  | _ => .no
def mkF (np nl : Nat) (fin : Nat → SR → R D) (body : SM) : List D → Hs → R D := fun args h => if args.length = np then fin h.length (body (args.map some ++ List.replicate nl none) h) else .no
section
variable {K : PySem.W.Frag} {mg : Str → Option Value} {as : List Addr} {H : Hp}
theorem EvR.start : ∀ {ds : List D} {vs : List V}, RDs K H as ds vs → EvR K H as (ds.map some) (vs.map some)
  | _, _, .nil => .nil
  | _, _, .cons r t => .cons (fun d e => by cases e; exact ⟨_, rfl, r⟩) (EvR.start t)
theorem EvR.nones : ∀ n : Nat, EvR K H as (List.replicate n none) (List.replicate n none)
  | 0 => .nil
  | n + 1 => .cons (fun d e => nomatch e) (EvR.nones n)
theorem EvR.append : ∀ {ds es : Ev} {vs us : L2.St}, EvR K H as ds vs → EvR K H as es us → EvR K H as (ds ++ es) (vs ++ us)
  | _, _, _, _, .nil, r => r
  | _, _, _, _, .cons h t, r => .cons h (EvR.append t r)
/-- how a body's end and a def's end fit -/
def FinOk (fin : Nat → SR → R D) : Prop := ∀ (K : PySem.W.Frag) (mg : Str → Option Value) (as : List Addr) (H : Hp) (r : SR) (Q : VK) (E : XK) , PostC K mg as H (fin as.length r) Q E → PostS K mg (fun cls d _ H => E cls d H) as H r { nx := fun _ H' => Q .non H', rt := Q }
theorem finK_ok : FinOk finK := by
  intro K mg as H r Q E p
  cases r with
  | nx ds h => exact fun σ H' as' g s => p .non H' as' g .non s.heap
  | rt d h => exact fun v H' as' g r hr => p v H' as' g r hr
  | bk ds h => exact p.elim
  | ct ds h => exact p.elim
  | ex c q ds h => exact fun σ cls dx H' as' g s x => p cls dx H' as' g s.heap x
  | no => exact p
theorem thawN_ok {as' : List Addr} {H' : Hp} {h : Hs} (g : Grow as H as' H') (hr : HeapR K H' as' h) : ∀ (k : Nat) {d : D} {v : V}, RV K H' as' d v → bel as.length (thawN as.length h k d) = true → RV K H' as (thawN as.length h k d) v := by
  intro k
  induction k with
  | zero => exact fun r b => r.shrink g.pre b
  | succ k ih =>
    intro d v r b
    have key : ∀ {l : List D} {vs : List V}, RVs K H' as' l vs → bels as.length (l.map (thawN as.length h k)) = true → RVs K H' as (l.map (thawN as.length h k)) vs := by
      intro l
      induction l with
      | nil => intro vs r _; cases r; exact .nil
      | cons x l il =>
        intro vs r b
        cases r with
        | cons r t =>
          simp only [List.map_cons, bels, Bool.and_eq_true] at b
          exact .cons (ih r b.1) (il t b.2)
    cases r with
    | @loc n a e =>
      by_cases hn : Nat.blt n as.length = true
      · simp only [thawN, if_pos hn] at b ⊢
        exact (RV.loc e : RV K H' as' (.loc n) (.ref a)).shrink g.pre b
      · simp only [thawN, if_neg hn] at b ⊢
        obtain ⟨c, ec, cr⟩ := hr.get e
        rw [ec] at b ⊢
        have na : a ∉ as := fun z => by
          obtain ⟨m, hm, em⟩ := List.getElem_of_mem z
          have e2 : as'[m]? = some a := pre_get g.pre (by rw [List.getElem?_eq_getElem hm, em])
          have := nodup_at hr.nd e e2
          rw [Nat.blt_eq] at hn
          omega
        cases cr with
        | lst hh rs => exact .lst hh na (key rs (by simpa [bel] using b))
        | dct hh ek rs => exact .dct hh na ek (key rs (by simpa [bel] using b))
        | _ => exact absurd (by simpa [bel] using b) (by simpa using hn)
    | tup hh rs => exact .tup hh (key rs (by simpa [thawN, bel] using b))
    | lst hh n rs => exact .lst hh (fun z => n (pre_sub g.pre _ z)) (key rs (by simpa [thawN, bel] using b))
    | _ => exact RV.shrink g.pre b (by first | assumption | (constructor <;> assumption))
theorem thaw_ok {as' : List Addr} {H' : Hp} {h : Hs} {d : D} {v : V} (g : Grow as H as' H') (hr : HeapR K H' as' h) (r : RV K H' as' d v) (b : bel as.length (thaw as.length h d) = true) : RV K H' as (thaw as.length h d) v := thawN_ok g hr 4 r b
theorem finG_ok : FinOk finG := by
  intro K mg as H r Q E p
  cases r with
  | nx ds h =>
    intro σ H' as' g s
    simp only [finG] at p
    cases hb : bels as.length (h.take as.length) with
    | false => rw [hb] at p; exact p.elim
    | true => rw [hb] at p; exact p .non H' as g.back .non (s.heap.back g hb)
  | rt d h =>
    intro v H' as' g r hr
    simp only [finG] at p
    cases hb : (bel as.length (thaw as.length h d) && bels as.length (h.take as.length)) with
    | false => rw [hb] at p; exact p.elim
    | true =>
      rw [hb] at p
      simp only [Bool.and_eq_true] at hb
      exact p v H' as g.back (thaw_ok g hr r hb.1) (hr.back g hb.2)
  | bk ds h => exact p.elim
  | ct ds h => exact p.elim
  | ex c q ds h =>
    intro σ cls dx H' as' g s x
    cases q with
    | none =>
      simp only [finG] at p
      cases hb : bels as.length (h.take as.length) with
      | false => rw [hb] at p; exact p.elim
      | true => rw [hb] at p; exact p cls dx H' as g.back (s.heap.back g hb) x
    | some d =>
      simp only [finG] at p
      cases hb : (bel as.length d && bels as.length (h.take as.length)) with
      | false => rw [hb] at p; exact p.elim
      | true =>
        rw [hb] at p
        simp only [Bool.and_eq_true] at hb
        refine p cls dx H' as g.back (s.heap.back g hb.2) ⟨x.1, ?_⟩
        obtain ⟨a, v, e1, e2, r⟩ := x.2
        exact ⟨a, v, e1, e2, r.shrink g.pre hb.1⟩
  | no => exact p
end
section
variable {P : Program} {w : World} {K : PySem.W.Frag} {mg : Str → Option Value} {base : Heap}
theorem fn_mk {d : He.DefD} {N ps : List Str} {k : Nat} {f : Addr} {fd : FuncData} {m : SM} {fin : Nat → SR → R D} (F : FunD K d.name d.qual d.params d.body d.scope (d.dvs K) (d.kws K) f fd) (hf : FinOk fin) (S : FnScope N ps d.scope)
    (hbody : ∀ (cdv : Value) (A : Around) (outer : List Env) (s : Shared) (H : Hp) (E : XK), Room k (A.deeper (envOfC d.qual d.scope s.heap.objs.size f cdv)) →
      DSs (cxOf (L2.CX P w) P w K mg base N d.qual d.scope f cdv A outer s H E) (fun cls d _ H => E cls d H) d.body m) : FnOk P w K mg base (L2.CX P w) (k + 1) f fd ps (spD K mg ps.length (mkF ps.length (N.length - ps.length) fin m)) := by
  refine F.ok S (fun vs H Q E h => h.1) fun cdv A outer s H vs Q E hr h => ⟨_, hbody cdv A outer s H E hr, ?_⟩
  obtain ⟨hl, as, ds, hh, r, hr2, p⟩ := h
  have e1 : ds.length = ps.length := by rw [r.length]; exact hl
  unfold mkF at p
  rw [if_pos e1] at p
  refine ⟨as, ds.map some ++ List.replicate (N.length - ps.length) none, hh, ⟨?_, hr2⟩, ?_⟩
  · unfold L2.start
    rw [hl]
    exact (EvR.start r).append (EvR.nones _)
  · rw [← hr2.len] at p
    exact hf K mg as H _ Q E p
theorem fd_mk (d : He.DefD) (N ps : List Str) (k np nl : Nat) {x : Str} {f : Addr} {fd : FuncData} {m : SM} {fin : Nat → SR → R D} (hnp : ps.length = np) (hnl : N.length - ps.length = nl) (F : FunD K d.name d.qual d.params d.body d.scope (d.dvs K) (d.kws K) f fd) (hm : mg x = some (.ref f)) (hf : FinOk fin) (S : FnScope N ps d.scope)
    (hb : Binds K fd ps [])
    (hbody : ∀ (cdv : Value) (A : Around) (outer : List Env) (s : Shared) (H : Hp) (E : XK), Room k (A.deeper (envOfC d.qual d.scope s.heap.objs.size f cdv)) →
      DSs (cxOf (L2.CX P w) P w K mg base N d.qual d.scope f cdv A outer s H E) (fun cls d _ H => E cls d H) d.body m) : FD P w K mg base (k + 1) x np (mkF np nl fin m) := by
  subst hnp hnl
  exact ⟨f, fd, ps, hm, F.kp, hb, fn_mk F hf S hbody⟩
theorem fn_mk' (d : He.DefD) (N ps : List Str) (k np nl : Nat) {f : Addr} {fd : FuncData} {m : SM} {fin : Nat → SR → R D} (hnp : ps.length = np) (hnl : N.length - ps.length = nl) (F : FunD K d.name d.qual d.params d.body d.scope (d.dvs K) (d.kws K) f fd) (hf : FinOk fin) (S : FnScope N ps d.scope)
    (hbody : ∀ (cdv : Value) (A : Around) (outer : List Env) (s : Shared) (H : Hp) (E : XK), Room k (A.deeper (envOfC d.qual d.scope s.heap.objs.size f cdv)) →
      DSs (cxOf (L2.CX P w) P w K mg base N d.qual d.scope f cdv A outer s H E) (fun cls d _ H => E cls d H) d.body m) : FnOk P w K mg base (L2.CX P w) (k + 1) f fd ps (spD K mg np (mkF np nl fin m)) := by
  subst hnp hnl
  exact fn_mk F hf S hbody
/-- the law's own def lets nothing out -/
theorem fn_quiet {f : Addr} {fd : FuncData} {ps : List Str} {k : Nat} {sp : Sp} (F : FnOk P w K mg base (L2.CX P w) k f fd ps sp) : FnOk P w K mg base CX0 k f fd ps (fun vs H Q _ => sp vs H Q E0) := by
  refine ⟨fun vs H Q E h => F.len vs H Q E0 h, fun A outer s H args us vs Q E hr e0 hb hv hs => codeAny_mono (F.run A outer s H args us vs Q E0 hr e0 hb hv hs) fun r s' q => ?_⟩
  cases r with
  | error e =>
    obtain ⟨_, _, _, _, _, _, _, _, _, _, _, _, z⟩ := (show L2.CX P w outer H s E0 e s' from q)
    exact z.elim
  | ok fl => cases fl <;> exact q
end
end DL

set_option Elab.async false
set_option linter.all false
set_option maxRecDepth 100000
set_option maxHeartbeats 4000000
namespace DL
open PySem PySem.Spec PyProof.Rows L2

/-! ### enumerate of a tuple -/
theorem enumNewT (t : Addr) (items : Array Value) :
    Meets (Builtin.«enumerate.__new__» ⟨[.type "enumerate", .ref t], []⟩) (fun _ R s => s.heap.IsTuple t items ∧
      R (.ok (.ret (.ref (s.heap.push { cls := .type "tuple_iterator", data := .fields #[.ref t, .int 0 0] }).objs.size)))
        { s with heap := (s.heap.push { cls := .type "tuple_iterator", data := .fields #[.ref t, .int 0 0] }).push { cls := .type "enumerate", data := .fields #[.none, .bool false, .ref s.heap.objs.size, rawInt 0, .none, .none] } }) :=
  .of_wp fun prog w A R s h => by
    obtain ⟨hp, g, d, tk, os⟩ := s; obtain ⟨hT, h⟩ := h
    have hsub := sub_enumerate
    have q1 : ∀ {A' : Around} {E : Value → Shared → Prop} {Q : Value → Shared → Prop}, Q (.ref hp.objs.size) ⟨hp.push { cls := .type "tuple_iterator", data := .fields #[.ref t, .int 0 0] }, g, d, tk, os⟩ → wpAny (model prog w) A' (pyIter (.ref t)) Q E ⟨hp, g, d, tk, os⟩ :=
      fun q => wpAny_pyIter_tuple (s := ⟨hp, g, d, tk, os⟩) hT q
    wp_walk using q1
    refine wpAny_stack_any fun st => wpAny_pure ?_
    split
    · rename_i c _ _ _ _ _
      cases (c == Value.type "enumerate")
      · wp_walk using q1
        exact ⟨_, rfl, h⟩
      · wp_walk using q1
        exact ⟨_, rfl, h⟩
    · wp_walk using q1
      exact ⟨_, rfl, h⟩
theorem enumCallT {prog : Program} {w : World} {A : Around} {E : Value → Shared → Prop} {s : Shared} {t : Addr} {items : Array Value} {Q : Value → Shared → Prop} (hT : s.heap.IsTuple t items)
    (h : ∀ h', IsEnum h' (s.heap.objs.size + 1) s.heap.objs.size 0 .none → h'.IsTupleIter s.heap.objs.size t 0 → h'.objs.size = s.heap.objs.size + 2 →
      (∀ b o, s.heap.get? b = some o → h'.get? b = some o) → Q (.ref (s.heap.objs.size + 1)) { s with heap := h' }) :
    wpAny (model prog w) A (call (.type "enumerate") [.ref t]) Q E s := by
  refine callType_new F.called_enumerate (by decide) (F.typeCall_enumerate_1 _) (F.newCall_enumerate_1 _) (fun obj => F.args_object_init_2 obj _) F.entry_enumerate_new
    (enumNewT t items) ⟨hT, ?_⟩
  have hz : (s.heap.push { cls := .type "tuple_iterator", data := .fields #[.ref t, .int 0 0] }).objs.size = s.heap.objs.size + 1 := Heap.size_push ..
  show _ ∧ _
  rw [hz]
  have he : IsEnum ((s.heap.push { cls := .type "tuple_iterator", data := .fields #[.ref t, .int 0 0] }).push
      { cls := .type "enumerate", data := .fields #[.none, .bool false, .ref s.heap.objs.size, rawInt 0, .none, .none] }) (s.heap.objs.size + 1) s.heap.objs.size 0 .none := by
    have := Heap.get?_push_size (s.heap.push { cls := .type "tuple_iterator", data := .fields #[.ref t, .int 0 0] })
      (o := { cls := .type "enumerate", data := .fields #[.none, .bool false, .ref s.heap.objs.size, rawInt 0, .none, .none] }) rfl
    rw [hz] at this; exact this
  refine ⟨⟨_, he, rfl⟩, h _ he ⟨_, Heap.get?_push_of_some _ (Heap.get?_push_size _ rfl), rfl, rfl⟩ (by rw [Heap.size_push, hz]) fun b o x => Heap.get?_push_of_some _ (Heap.get?_push_of_some _ x)⟩
def IteT (K : PySem.W.Frag) (a : Addr) : It :=
  ⟨fun i H => ∃ (xs : List V) (x : V), SqT K H a xs ∧ xs[i]? = some x, fun i H v H' => ∃ T x, v = .ref T ∧ H T = none ∧ H' = upd H T (.tup [.int (i : Nat), x]) ∧ ∀ xs, SqT K H a xs → xs[i]? = some x, fun i H => ∃ xs : List V, SqT K H a xs ∧ xs.length = i⟩
theorem turn_enumT {P : Program} {w : World} {K : PySem.W.Frag} {elts : List Expr} {kk : Nat} {tpos : Pos} (a e it : Addr) :
    Turn P w K (.Tuple elts kk tpos) (IteT K a) [e, it] e (fun i h => (∃ old, IsEnum h e it ((i : Nat) : Int) old) ∧ h.IsTupleIter it a i ∧ e ≠ it ∧ a ≠ it ∧ a ≠ e) where
  mem := by simp
  obj := fun i h st b hb => by
    obtain ⟨⟨old, he⟩, ⟨o, ho, hc, hd⟩, _⟩ := st
    have e' : b = e ∨ b = it := by simpa using hb
    rcases e' with z | z
    · rw [z]; exact ⟨_, he, fun v q => nomatch q⟩
    · rw [z]; exact ⟨o, ho, fun v q => by rw [hd] at q; cases q⟩
  keep := fun i h h' st k => let ⟨⟨old, he⟩, hi, hne⟩ := st; ⟨⟨old, k e (by simp) _ he⟩, hi.at fun o q => k it (by simp) o q, hne⟩
  item := by
    intro X hP hw hK hc i pins s σ H E I hf st hg
    subst hP hw hK
    obtain ⟨⟨old, he⟩, hit, hne, hat, hae⟩ := st
    obtain ⟨xs, x, hq, hx⟩ := hg
    obtain ⟨its, rv, p, hz⟩ := I.tuple hq
    obtain ⟨u, hu, ru⟩ := rv.get hx
    have hel : e < s.heap.objs.size := Heap.lt_size he
    have hil : it < s.heap.objs.size := by obtain ⟨_, q, _⟩ := hit; exact Heap.lt_size q
    have D := Draws.tuple (prog := X.prog) (w := X.w) (A := X.A.in1) (I.ok.hd hc) it a hat its.toArray
    have hlt : i < its.toArray.size := by
      have := (List.getElem?_eq_some_iff.mp hu).1
      simpa using this
    refine wpAny_pyNext_enum_itemC D he ⟨hit, p⟩ hlt hne (by simp [hne, Ne.symm hae]) fun x' h' tk hP ho hs' hT hsz hk => ?_
    have ex : x' = u := by
      have q2 : its.toArray[i]? = some u := by simpa using hu
      rw [q2] at hP
      exact (Option.some.inj hP).symm
    subst ex
    refine ⟨_, rfl, wpAny_letOwnedTupleGo_enum (s := { s with heap := h', toks := tk + 1 }) ho fun h'' he' sb => ?_⟩
    have hT2 : h''.get? s.heap.objs.size = some { cls := .type "tuple", data := .seq #[.int i tk, x'] } := (sb.2 _ (Nat.ne_of_gt hel)).trans hT
    have new : ObjOk X.prog X.w (upd H s.heap.objs.size (.tup [.int (i : Nat), x])) h'' s.heap.objs.size (.tup [.int (i : Nat), x]) :=
      ⟨by show 2 ≤ sizeLine; decide, [.int i tk, x'], .cons ⟨_, rfl⟩ (.cons ru .nil), ⟨_, hT2, rfl, _, rfl⟩⟩
    have I1 : Inv X pins σ (upd H s.heap.objs.size (.tup [.int (i : Nat), x])) { s with heap := h'', toks := tk + 1 } :=
      I.turnedNew (ch := [e, it]) (fun b ob hb q => (sb.2 b (fun z => hb (by simp [z]))).trans (hk b ob (fun z => hb (by simp [z])) (fun z => hb (by simp [z])) q)) hf (Nat.le_refl _) new
    refine ⟨.ref s.heap.objs.size, _, I1, rfl, ⟨_, x, rfl, I.hok.fresh (Nat.le_refl _), rfl, fun ys hy => by rw [I.tuple_inj hy hq]; exact hx⟩, ⟨⟨x', ?_⟩, hs'.1.at fun o q => (sb.2 it (Ne.symm hne)).trans q, hne, hat, hae⟩, fun b hb => ?_⟩
    · have e1 : ((i + 1 : Nat) : Int) = (i : Int) + 1 := by omega
      rw [e1]; exact he'
    · have hb' : b < s.heap.objs.size := by
        have e' : b = e ∨ b = it := by simpa using hb
        rcases e' with z | z
        · rw [z]; exact hel
        · rw [z]; exact hil
      rw [upd_ne (Nat.ne_of_lt hb')]
      exact (hf b hb).1
  done := by
    intro X hP hw hK hc i pins s σ H E I hf st hg
    subst hP hw hK
    obtain ⟨⟨old, he⟩, hit, hne, hat, hae⟩ := st
    obtain ⟨xs, hq, hx⟩ := hg
    obtain ⟨its, rv, p, hz⟩ := I.tuple hq
    obtain ⟨f0, f1, f2, f3, f4, f5⟩ := hf it (by simp)
    have hl := rv.length
    have D := Draws.tuple (prog := X.prog) (w := X.w) (A := X.A.in1) (I.ok.hd hc) it a hat its.toArray
    have hi : i = its.toArray.size := by rw [List.size_toArray]; omega
    subst hi
    exact wpAny_pyNext_enum_endD D he ⟨hit, p⟩ fun h' eb => ⟨rfl, I.turned (t' := s.toks) (fun b o hb q => eb b o hb q) f0 f1 f3 f4 f5⟩
  self := fun A i s Q E st h => let ⟨⟨_, he⟩, _⟩ := st; wpAny_pyIter_enum he h
def iEnumT (K : PySem.W.Frag) (ta : TA) : TI := fun σ H R => ta σ H fun vs H1 => ∃ a xs, vs = [.ref a] ∧ SqT K H1 a xs ∧ R (IteT K a) H1
theorem pi_enumT {X : Cx} {e : Expr} {ta : TA} {p pos tpos : Pos} {elts : List Expr} {kk : Nat} (hg : Gl X "enumerate") (hm : X.mg "enumerate" = none) (ha : PA X [e] ta) (hs : starEach [e] X.env = [(false, eval e X.env)] := by rfl) :
    PI X (.Tuple elts kk tpos) (.Call (.Name "enumerate" p) [e] [] pos) (iEnumT X.K ta) := by
  refine ⟨fun pins s σ H R I h => ?_⟩
  refine Call_ (ld_blt I hg hm boot_enumerate (PyProof.Rows.callWith_type1 (thn (ha.run pos pins s σ H _ I h) fun us s1 ⟨vs, H1, I1, r1, q1⟩ => ?_) hs rfl))
  obtain ⟨a, xs, ex, hq, q⟩ := q1
  subst ex
  cases r1 with
  | cons r rr =>
    cases rr
    cases r
    obtain ⟨its, rv, p', hz⟩ := I1.tuple hq
    obtain ⟨o1, ho1, _⟩ := id p'
    have hal : a < s1.heap.objs.size := Heap.lt_size ho1
    refine enumCallT (show s1.heap.IsTuple a its.toArray from p') fun h' he hit hsz hk => wpAny_pyIter_enum he ?_
    have I2 : Inv X pins σ H1 { s1 with heap := h' } := I1.kept (t' := s1.toks) hk
    refine ⟨s1.heap.objs.size + 1, [s1.heap.objs.size + 1, s1.heap.objs.size], _, _, H1, rfl, I2, turn_enumT a (s1.heap.objs.size + 1) s1.heap.objs.size, ⟨⟨.none, he⟩, hit, Nat.succ_ne_self _, Nat.ne_of_lt hal, Nat.ne_of_lt (Nat.lt_succ_of_lt hal)⟩, fun b hb => ?_, q⟩
    have e' : b = s1.heap.objs.size + 1 ∨ b = s1.heap.objs.size := by simpa using hb
    have hle : s1.heap.objs.size ≤ b := by
      rcases e' with z | z
      · rw [z]; exact Nat.le_add_right _ _
      · rw [z]; exact Nat.le_refl _
    exact I1.fpOk hle (I1.hok.fresh hle)
end DL

set_option Elab.async false
set_option linter.all false
set_option maxRecDepth 100000
set_option maxHeartbeats 4000000
namespace DL
open PySem PySem.Spec PyProof.Rows L2 RZ

/-! ### enumerate, zip -/
def mSrcR (f : List D → Option Src) (me : M (List D)) : M Src := fun ds h => (me ds h).bind fun xs h1 => match f xs with
  | some s => .ok s h1
  | none => .no
def enumL (l : List D) : List D := l.zipIdx.map fun p => .tup [.int (p.2 : Nat), p.1]
def zipL (a b : List D) : List D := List.zipWith (fun x y => .tup [x, y]) a b
def lsOf : D → Option (List D)
  | .lst l => some l
  | .frz l => some l
  | _ => none
def enum1 : List D → Option Src
  | [.tup l] => some (.its (enumL l))
  | [x] => (lsOf x).map fun l => .its (enumL l)
  | _ => none
def zip2 : List D → Option Src
  | [.tup a, .tup b] => some (.its (zipL a b))
  | [x, y] => (lsOf x).bind fun a => (lsOf y).map fun b => .its (zipL a b)
  | _ => none
section
variable {K : PySem.W.Frag} {H : Hp} {as : List Addr}
theorem enumL_get {l : List D} {i : Nat} {d : D} (e : (enumL l)[i]? = some d) : ∃ x, l[i]? = some x ∧ d = .tup [.int (i : Nat), x] := by
  simp only [enumL, List.getElem?_map, List.getElem?_zipIdx] at e
  cases hx : l[i]? with
  | none => rw [hx] at e; cases e
  | some x => rw [hx] at e; cases e; exact ⟨x, rfl, by simp⟩
theorem zipL_get {a b : List D} {i : Nat} {d : D} (e : (zipL a b)[i]? = some d) : ∃ x y, a[i]? = some x ∧ b[i]? = some y ∧ d = .tup [x, y] := by
  simp only [zipL, List.getElem?_zipWith] at e
  cases hx : a[i]? with
  | none => rw [hx] at e; cases e
  | some x =>
    cases hy : b[i]? with
    | none => rw [hx, hy] at e; cases e
    | some y => rw [hx, hy] at e; cases e; exact ⟨x, y, rfl, rfl, rfl⟩
theorem walkD_enum {a : Addr} {vs : List V} {ds : List D} (hs : ∀ as1 H1, Grow as H as1 H1 → SqL K H1 a vs) (r : RVs K H as ds vs) : WalkD K as H (Ite K a) (.its (enumL ds)) := by
  refine ⟨fun i h H1 as1 d g hr e => ?_, fun h H1 as1 g hr e => ⟨vs, hs as1 H1 g, ?_⟩⟩
  · obtain ⟨x, e1, rfl⟩ := enumL_get (show (enumL ds)[i]? = some d from e)
    obtain ⟨v, e2, r1⟩ := r.get e1
    refine ⟨⟨vs, v, hs as1 H1 g, e2⟩, fun y H2 ⟨T, x', ey, hT, eH, e3⟩ => ?_⟩
    subst ey eH
    have := e3 vs (hs as1 _ g)
    rw [e2] at this; cases this
    have sm := same_upd (o := .tup [.int (i : Nat), v]) hT
    exact ⟨sm, .tup (SqT.of upd_same) (.cons (.int _) (.cons ((r1.grow g).same sm) .nil))⟩
  · show vs.length ≤ (enumL ds).length
    rw [← r.length]; simp [enumL]
theorem walkD_enumT {a : Addr} {vs : List V} {ds : List D} (hs : SqT K H a vs) (r : RVs K H as ds vs) : WalkD K as H (IteT K a) (.its (enumL ds)) := by
  refine ⟨fun i h H1 as1 d g hr e => ?_, fun h H1 as1 g hr e => ⟨vs, sqT_fr g.fr hs, ?_⟩⟩
  · obtain ⟨x, e1, rfl⟩ := enumL_get (show (enumL ds)[i]? = some d from e)
    obtain ⟨v, e2, r1⟩ := r.get e1
    refine ⟨⟨vs, v, sqT_fr g.fr hs, e2⟩, fun y H2 ⟨T, x', ey, hT, eH, e3⟩ => ?_⟩
    subst ey eH
    have := e3 vs (sqT_fr g.fr hs)
    rw [e2] at this; cases this
    have sm := same_upd (o := .tup [.int (i : Nat), v]) hT
    exact ⟨sm, .tup (SqT.of upd_same) (.cons (.int _) (.cons ((r1.grow g).same sm) .nil))⟩
  · show vs.length = (enumL ds).length
    rw [← r.length]; simp [enumL]
theorem walkD_zip {a b : Addr} {vs us : List V} {ds es : List D} (hs : ∀ as1 H1, Grow as H as1 H1 → SqL K H1 a vs) (hs2 : ∀ as1 H1, Grow as H as1 H1 → SqL K H1 b us) (r : RVs K H as ds vs) (r2 : RVs K H as es us) : WalkD K as H (Itz K a b) (.its (zipL ds es)) := by
  refine ⟨fun i h H1 as1 d g hr e => ?_, fun h H1 as1 g hr e => ⟨vs, us, hs as1 H1 g, hs2 as1 H1 g, ?_⟩⟩
  · obtain ⟨x, y, e1, e2, rfl⟩ := zipL_get (show (zipL ds es)[i]? = some d from e)
    obtain ⟨v, e3, r3⟩ := r.get e1
    obtain ⟨u, e4, r4⟩ := r2.get e2
    refine ⟨⟨vs, us, v, u, hs as1 H1 g, hs2 as1 H1 g, e3, e4⟩, fun z H2 ⟨T, x', y', ey, hT, eH, e5, e6⟩ => ?_⟩
    subst ey eH
    have := e5 vs (hs as1 _ g)
    rw [e3] at this; cases this
    have := e6 us (hs2 as1 _ g)
    rw [e4] at this; cases this
    have sm := same_upd (o := .tup [v, u]) hT
    exact ⟨sm, .tup (SqT.of upd_same) (.cons ((r3.grow g).same sm) (.cons ((r4.grow g).same sm) .nil))⟩
  · show vs.length ≤ (zipL ds es).length ∨ us.length ≤ (zipL ds es).length
    rw [← r.length, ← r2.length]; simp only [zipL, List.length_zipWith]; omega
theorem walkD_zipT {a b : Addr} {vs us : List V} {ds es : List D} (hs : SqT K H a vs) (hs2 : SqT K H b us) (r : RVs K H as ds vs) (r2 : RVs K H as es us) : WalkD K as H (ItzT K a b) (.its (zipL ds es)) := by
  refine ⟨fun i h H1 as1 d g hr e => ?_, fun h H1 as1 g hr e => ⟨vs, us, sqT_fr g.fr hs, sqT_fr g.fr hs2, ?_⟩⟩
  · obtain ⟨x, y, e1, e2, rfl⟩ := zipL_get (show (zipL ds es)[i]? = some d from e)
    obtain ⟨v, e3, r3⟩ := r.get e1
    obtain ⟨u, e4, r4⟩ := r2.get e2
    refine ⟨⟨vs, us, v, u, sqT_fr g.fr hs, sqT_fr g.fr hs2, e3, e4⟩, fun z H2 ⟨T, x', y', ey, hT, eH, e5, e6⟩ => ?_⟩
    subst ey eH
    have := e5 vs (sqT_fr g.fr hs)
    rw [e3] at this; cases this
    have := e6 us (sqT_fr g.fr hs2)
    rw [e4] at this; cases this
    have sm := same_upd (o := .tup [v, u]) hT
    exact ⟨sm, .tup (SqT.of upd_same) (.cons ((r3.grow g).same sm) (.cons ((r4.grow g).same sm) .nil))⟩
  · show vs.length ≤ (zipL ds es).length ∨ us.length ≤ (zipL ds es).length
    rw [← r.length, ← r2.length]; simp only [zipL, List.length_zipWith]; omega
/-- a list as a value stays -/
theorem RV.lsOf {as' : List Addr} {d : D} {v : V} {l : List D} (r : RD K H as d v) (e : lsOf d = some l) : ∃ a vs, v = .ref a ∧ RVs K H as l vs ∧ ∀ as1 H1, Grow as H as1 H1 → SqL K H1 a vs := by
  cases d with
  | lst l' =>
    cases e
    cases r with
      | lst h n rs => exact ⟨_, _, rfl, rs, fun as2 H2 g2 => SqL.of (g2.fr _ _ h rfl fun z => absurd z n)⟩
  | frz l' =>
    cases e
    cases r with
      | frz h rs => exact ⟨_, _, rfl, rs, fun as2 H2 g2 => (frzL_gr g2 h).sq⟩
  | _ => cases e
end
section
variable {X : Cx} {W : WX} {a b e e2 : Expr} {es : List Expr} {ma mb : M D} {me : M (List D)} {p pos tpos : Pos} {elts : List Expr} {kk : Nat}
theorem di_enum (ha : DA X W [e] me) (hm : X.mg "enumerate" = none) (hg : Gl X "enumerate" := by rfl) (hs : starEach [e] X.env = [(false, eval e X.env)] := by rfl) :
    DI X W (.Tuple elts kk tpos) (.Call (.Name "enumerate" p) [e] [] pos) (mSrcR enum1 me) := by
  refine PI.imp (PI.or (pi_enum hg hm ha hs) (pi_enumT hg hm ha hs)) fun σ H Q ⟨as, ds, h, s, q⟩ => ?_
  unfold mSrcR at q
  cases ee : me ds h with
  | ex c p h1 => rw [ee] at q; exact .inl ⟨as, ds, h, s, by rw [ee]; exact q⟩
  | no => rw [ee] at q; exact q.elim
  | ok xs h1 =>
    rw [ee] at q
    match xs with
    | [] => exact q.elim
    | _ :: _ :: _ => exact (by simp [R.bind, enum1] at q; exact q.elim)
    | [x] =>
      by_cases ht : ∃ l, x = .tup l
      · obtain ⟨l, rfl⟩ := ht
        have q : PostI X.K X.mg W as σ H (.ok (.its (enumL l)) h1) Q := q
        refine .inr ⟨as, ds, h, s, ?_⟩
        rw [ee]
        intro v H1 as1 g r hr
        cases r with
        | cons r rr =>
          cases rr
          cases r with
            | tup h rs => exact ⟨_, _, rfl, h, q _ H1 as1 g hr (walkD_enumT h rs)⟩
      · cases el : lsOf x with
        | none => cases x <;> first | exact absurd ⟨_, rfl⟩ ht | exact q.elim | (cases el; done)
        | some l =>
          have ex : enum1 [x] = some (.its (enumL l)) := by cases x <;> first | exact absurd ⟨_, rfl⟩ ht | (cases el; done) | (cases el; rfl)
          have q : PostI X.K X.mg W as σ H (match enum1 [x] with | some s => .ok s h1 | none => .no) Q := q
          rw [ex] at q
          refine .inl ⟨as, ds, h, s, ?_⟩
          rw [ee]
          intro v H1 as1 g r hr
          cases r with
          | cons r rr =>
            cases rr
            obtain ⟨a, vs, rfl, rs, hq⟩ := r.lsOf (as' := as) el
            exact ⟨a, vs, rfl, hq _ _ .refl, q _ H1 as1 g hr (walkD_enum hq rs)⟩
/-- enumerate(e), e a cell too -/
def enE (xs : List D) (h1 : Hs) : R Src := match xs with
  | [.loc n] => (match h1[n]? with
    | some (.lst l) => .ok (.ecell n l.length) h1
    | _ => .no)
  | xs => (match enum1 xs with
    | some s => .ok s h1
    | none => .no)
def mSrcE (me : M (List D)) : M Src := fun ds h => (me ds h).bind enE
theorem walkD_ecell {K : PySem.W.Frag} {as : List Addr} {H : Hp} {a : Addr} {n len : Nat} (ha : as[n]? = some a) : WalkD K as H (Ite K a) (.ecell n len) := by
  refine ⟨fun i h H1 as1 d g hr e => ?_, fun h H1 as1 g hr e => ?_⟩
  · obtain ⟨c, e1, cr⟩ := hr.get (pre_get g.pre ha)
    simp only [srcAt, e1] at e
    cases cr with
    | lst hl r =>
      simp only at e
      split at e
      · obtain ⟨x, ex, rfl⟩ := Option.map_eq_some_iff.mp e
        obtain ⟨v, e2, r1⟩ := r.get ex
        refine ⟨⟨_, v, SqL.of hl, e2⟩, fun y H2 ⟨T, x', ey, hT, eH, e3⟩ => ?_⟩
        subst ey eH
        have := e3 _ (SqL.of hl)
        rw [e2] at this; cases this
        have sm := same_upd (o := .tup [.int (i : Nat), v]) hT
        exact ⟨sm, .tup (SqT.of upd_same) (.cons (.int _) (.cons (r1.same sm) .nil))⟩
      · cases e
    | _ => cases e
  · obtain ⟨c, e1, cr⟩ := hr.get (pre_get g.pre ha)
    simp only [srcEnd, e1] at e
    cases cr with
    | lst hl r => exact ⟨_, SqL.of hl, by rw [← r.length]; simp at e; rw [e]; exact Nat.le_refl _⟩
    | _ => cases e
theorem di_enumE (ha : DA X W [e] me) (hm : X.mg "enumerate" = none) (hg : Gl X "enumerate" := by rfl) (hs : starEach [e] X.env = [(false, eval e X.env)] := by rfl) :
    DI X W (.Tuple elts kk tpos) (.Call (.Name "enumerate" p) [e] [] pos) (mSrcE me) := by
  refine PI.imp (PI.or (pi_enum hg hm ha hs) (di_enum ha hm hg hs)) fun σ H Q ⟨as, ds, h, s, q⟩ => ?_
  unfold mSrcE at q
  cases ee : me ds h with
  | ex c p h1 => rw [ee] at q; exact .inl ⟨as, ds, h, s, by rw [ee]; exact q⟩
  | no => rw [ee] at q; exact q.elim
  | ok xs h1 =>
    rw [ee] at q
    by_cases hx : ∃ n, xs = [.loc n]
    · obtain ⟨n, rfl⟩ := hx
      refine .inl ⟨as, ds, h, s, ?_⟩
      rw [ee]
      intro v H1 as1 g r hr
      cases r with
      | cons r rr =>
        cases rr
        cases r with
        | loc ha =>
          obtain ⟨c, e1, cr⟩ := hr.get ha
          cases cr with
          | @lst a vs l hh rs =>
            have q : PostI X.K X.mg W as σ H (match h1[n]? with | some (.lst l) => .ok (.ecell n l.length) h1 | _ => .no) Q := q
            rw [e1] at q
            exact ⟨_, _, rfl, SqL.of hh, q _ H1 as1 g hr (walkD_ecell ha)⟩
          | _ =>
            have q : PostI X.K X.mg W as σ H (match h1[n]? with | some (.lst l) => .ok (.ecell n l.length) h1 | _ => .no) Q := q
            rw [e1] at q
            exact q.elim
    · refine .inr ⟨as, ds, h, s, ?_⟩
      unfold mSrcR
      rw [ee]
      have ex : enE xs h1 = (match enum1 xs with | some s => .ok s h1 | none => .no) := by
        unfold enE
        split
        · rename_i n; exact absurd ⟨n, rfl⟩ hx
        · rfl
      have q : PostI X.K X.mg W as σ H (enE xs h1) Q := q
      rw [ex] at q
      exact q
theorem di_zip (ha : DA X W [e, e2] me) (hm : X.mg "zip" = none) (hg : Gl X "zip" := by rfl) (hs : starEach [e, e2] X.env = (false, eval e X.env) :: starEach [e2] X.env := by rfl) (hpl : (backTo pos (starEach [e2] X.env)).any (·.1) = false := by rfl) :
    DI X W (.Tuple elts kk tpos) (.Call (.Name "zip" p) [e, e2] [] pos) (mSrcR zip2 me) := by
  refine PI.imp (RZ.pi_zipA hg hm ha hs hpl) fun σ H Q ⟨as, ds, h, s, q⟩ => ⟨as, ds, h, s, PostI.bindA q fun xs h1 vs H1 as1 f1 r1 hr1 p1 => ?_⟩
  match xs, vs, r1 with
  | [], _, _ => exact p1.elim
  | [_], _, _ => exact (by simp [zip2] at p1; exact p1.elim)
  | _ :: _ :: _ :: _, _, _ => exact (by simp [zip2] at p1; exact p1.elim)
  | [x, y], [v, u], .cons r (.cons r2 .nil) =>
    by_cases ht : ∃ l m, x = .tup l ∧ y = .tup m
    · obtain ⟨l, m, rfl, rfl⟩ := ht
      have p1 : PostI X.K X.mg W as1 σ H1 (.ok (.its (zipL l m)) h1) Q := p1
      cases r with
        | tup h rs => cases r2 with
            | tup h' rs' => exact ⟨_, _, _, _, rfl, .inr ⟨h, h', p1 _ H1 as1 .refl hr1 (walkD_zipT h h' rs rs')⟩⟩
    · have ex : zip2 [x, y] = (lsOf x).bind fun a => (lsOf y).map fun b => .its (zipL a b) := by
        cases x <;> cases y <;> first | rfl | exact absurd ⟨_, _, rfl, rfl⟩ ht
      have p1 : PostI X.K X.mg W as1 σ H1 (match zip2 [x, y] with | some s => .ok s h1 | none => .no) Q := p1
      rw [ex] at p1
      cases el : lsOf x with
      | none => rw [el] at p1; exact p1.elim
      | some l =>
        cases em : lsOf y with
        | none => rw [el, em] at p1; exact p1.elim
        | some m =>
          rw [el, em] at p1
          obtain ⟨a, vs, rfl, rs, hq⟩ := r.lsOf (as' := as) el
          obtain ⟨b, us, rfl, rs', hq'⟩ := r2.lsOf (as' := as) em
          exact ⟨_, _, _, _, rfl, .inl ⟨hq _ _ .refl, hq' _ _ .refl, p1 _ H1 as1 .refl hr1 (walkD_zip hq hq' rs rs')⟩⟩
/-! ### xs[::-1], stars, a, b, c = x, y, z -/
def mRev (ma : M D) : M D := fun ds h => (ma ds h).bind fun x h1 => match lsOf (rd h1 x) with
  | some l => .ok (.lst l.reverse) h1
  | none => .no
theorem RVs.reverse {K : PySem.W.Frag} {H : Hp} {as : List Addr} : ∀ {ds : List D} {vs : List V}, RVs K H as ds vs → RVs K H as ds.reverse vs.reverse
  | _, _, .nil => .nil
  | _, _, .cons r t => by rw [List.reverse_cons, List.reverse_cons]; exact (RVs.reverse t).append (.cons r .nil)
theorem de_rev {k : Nat} {p1 p2 p3 : Pos} (ha : DE X W a ma) : DE X W (.Subscript a (.Slice none none (some (.UnaryOp .USub (.Constant (.int 1) k p1) p2)) p3) pos) (mRev ma) :=
  PE.imp (pe_revL ha) fun σ H Q ⟨as, ds, h, s, q⟩ => ⟨as, ds, h, s, PostE.bindE q fun x h1 v H1 as1 f1 r1 hr1 p1 => by
    cases el : lsOf (rd h1 x) with
    | none => rw [el] at p1; exact p1.elim
    | some l =>
      rw [el] at p1
      have rt := r1.rt hr1
      have ed : rd h1 x = .lst l ∨ rd h1 x = .frz l := by
        revert el; generalize rd h1 x = d; intro el
        cases d <;> cases el <;> simp
      rcases ed with e | e
      · rw [e] at rt
        obtain ⟨a, vs, rfl, rs, hh⟩ := rt.lst
        refine ⟨a, vs, rfl, SqL.of hh, fun q hq => ?_⟩
        have sm := same_upd (o := .lst vs.reverse) hq
        exact p1 (.ref q) _ as1 (.of_same sm) (.val (.lst upd_same (hr1.notin hq) (rs.reverse.same sm))) (hr1.same sm)
      · rw [e] at rt
        obtain ⟨a, vs, rfl, rs, hh⟩ := rt.frz
        refine ⟨a, vs, rfl, hh, fun q hq => ?_⟩
        have sm := same_upd (o := .lst vs.reverse) hq
        exact p1 (.ref q) _ as1 (.of_same sm) (.val (.lst upd_same (hr1.notin hq) (rs.reverse.same sm))) (hr1.same sm)⟩
def sqOf : D → Option (List D)
  | .lst l => some l
  | .frz l => some l
  | .tup l => some l
  | _ => none
def mStar (ma : M D) (me : M (List D)) : M (List D) := fun ds h => (ma ds h).bind fun x h1 => match sqOf (rd h1 x) with
  | some l => (me ds h1).bind fun ys h2 => .ok (l ++ ys) h2
  | none => .no
theorem RDs.append {K : PySem.W.Frag} {H : Hp} {as : List Addr} : ∀ {ds es : List D} {vs us : List V}, RDs K H as ds vs → RDs K H as es us → RDs K H as (ds ++ es) (vs ++ us)
  | _, _, _, _, .nil, r => r
  | _, _, _, _, .cons a t, r => .cons a (RDs.append t r)
theorem da_star (ha : DE X W e ma) (hr : DA X W es me) (hs : starEach (.Starred e p :: es) X.env = (true, eval e X.env) :: starEach es X.env := by rfl) : DA X W (.Starred e p :: es) (mStar ma me) :=
  PA.imp (StX.pa_star ha hr hs) fun σ H Q ⟨as, ds, h, s, q⟩ => ⟨as, ds, h, s, PostA.bindE q fun x h1 v H1 as1 f1 r1 hr1 p1 => by
    cases el : sqOf (rd h1 x) with
    | none => rw [el] at p1; exact p1.elim
    | some l =>
      rw [el] at p1
      have ed : rd h1 x = .lst l ∨ rd h1 x = .tup l ∨ rd h1 x = .frz l := by
        revert el; generalize rd h1 x = d; intro el
        cases d <;> cases el <;> simp
      obtain ⟨a, vs, rfl, rs, hh⟩ := (r1.rt hr1).seq ed
      exact ⟨a, vs, rfl, hh.symm, as1, ds, h1, ⟨s.env.grow f1, hr1⟩, PostA.bindA p1 fun ys h2 us H2 as2 f2 r2 hr2 p2 => p2 (vs ++ us) H2 as2 .refl ((rs.grow f2).rds.append r2) hr2⟩⟩
theorem ds_par3 {i j l : Nat} {x y z : Str} {a b c : Expr} {px py pz pt pos : Pos} {kt k2 pt2} (hN : X.N.Nodup) (hi : X.N[i]? = some x) (hj : X.N[j]? = some y) (hl : X.N[l]? = some z) (hx : X.env.scope.names.lookup x = some .local) (hy : X.env.scope.names.lookup y = some .local) (hz : X.env.scope.names.lookup z = some .local) (ha : DA X W [a, b, c] me)
    (hij : i ≠ j := by decide) (hil : i ≠ l := by decide) (hjl : j ≠ l := by decide) (hc : X.calm = true := by rfl)
    (hw : swappedStores [.Tuple [.Name x px, .Name y py, .Name z pz] kt pt] (.Tuple [a, b, c] k2 pt2) X.env = pure (some [x, y, z]) := by rfl)
    (hs : swapsWithSole [.Tuple [.Name x px, .Name y py, .Name z pz] kt pt] (.Tuple [a, b, c] k2 pt2) pos.line X.env = pure false := by rfl) :
    DS X W (.Assign [.Tuple [.Name x px, .Name y py, .Name z pz] kt pt] (.Tuple [a, b, c] k2 pt2) pos) (sPar [i, j, l] me) :=
  PS.imp (ps_par3 hc hN hi hj hl hij hil hjl hx hy hz ha hw hs) fun Dn σ H ⟨as, ds, h, s, p⟩ => ⟨as, ds, h, s, by
    unfold sPar at p
    cases e : me ds h with
    | ok xs h1 =>
      rw [e] at p
      simp only at p
      intro vs H' as' g r hr
      match xs, vs, r with
      | [], _, _ => exact p.elim
      | [_], _, _ => exact p.elim
      | [_, _], _, _ => exact p.elim
      | _ :: _ :: _ :: _ :: _, _, _ => exact (by simp at p; exact p.elim)
      | [d, d', d''], [v, v', v''], .cons r1 (.cons r2 (.cons r3 .nil)) => exact ⟨v, v', v'', rfl, p _ H' as' g ⟨((((s.env.grow g).set r1 i).set r2 j).set r3 l), hr⟩⟩
    | ex c q h1 => rw [e] at p; exact fun cls dx H' as' g hr x => p σ cls dx H' as' g ⟨s.env.grow g, hr⟩ x
    | no => rw [e] at p; exact p⟩
end
end DL

set_option Elab.async false
set_option linter.all false
set_option maxRecDepth 100000
set_option maxHeartbeats 4000000
namespace DL
open PySem PySem.Spec PyProof.Rows L2 RZ

/-! ### what is told of the top, and one Bool more -/
/-- further facts -/
inductive Xf where
  | blt (x : Str) (id : String)
  | tup (x : Str) (vs : List He.Dv)
  | may (f : PySem.W.Frag → Bool)
def Xf.ok (K : PySem.W.Frag) : Xf → Bool
  | .blt x id => He.eqO (PySem.W.nsIn K mainGlobals x) (some (some (.builtin id)))
  | .tup x vs => He.tupB K x vs
  | .may f => f K
structure SaysL (fa : List He.Fa) (fn : List He.DefD) (xf : List Xf) (K : PySem.W.Frag) : Prop where
  d : He.SaysD fa fn K
  more : (xf.all fun f => f.ok K) = true
abbrev AlL : Type := He.AlD × Bool
def obsL (n : Nat) (fa : List He.Fa) (fn : List He.DefD) (xf : List Xf) (g : Addr → Option Obj) : AlL := (He.obsD fa fn (He.frG g (He.asD g n)), xf.all fun f => f.ok (He.frG g (He.asD g n)))
def hookL (n : Nat) (fa : List He.Fa) (fn : List He.DefD) (xf : List Xf) : PySem.W.Hook where
  α := AlL
  obs := fun s => obsL n fa fn xf s.heap.get?
  val := fun _ => (He.valD fn, true)
  says := fun _ h => ∃ K : PySem.W.Frag, K.In h ∧ SaysL fa fn xf K
  of := fun _ _ e => ⟨_, He.frG_in, congrArg (fun z : AlL => z.1) e, congrArg (fun z : AlL => z.2) e⟩
  keeps := fun _ _ _ ⟨K, hK, c⟩ k => ⟨K, PySem.W.Frag.In.keeps hK k, c⟩
theorem obsL_eq {n : Nat} {fa : List He.Fa} {fn : List He.DefD} {xf : List Xf} {g : Addr → Option Obj} {s : Shared} (h : ∀ a, g a = s.heap.get? a) : obsL n fa fn xf g = (hookL n fa fn xf).obs s := by
  have e : g = s.heap.get? := funext h
  rw [e] <;> rfl
section
variable {fa : List He.Fa} {fn : List He.DefD} {xf : List Xf} {K : PySem.W.Frag} {h : Heap} {mg : Str → Option Value}
theorem SaysL.fact (c : SaysL fa fn xf K) (i : Nat) {f : He.Fa} (e : fa[i]? = some f) : f.ok K = true := c.d.fact i e
theorem SaysL.def_ (c : SaysL fa fn xf K) (i : Nat) {d : He.DefD} (e : fn[i]? = some d) : ∃ fd, FunD K d.name d.qual d.params d.body d.scope (d.dvs K) (d.kws K) (He.fAd K d.at_) fd := c.d.def_ i e
theorem SaysL.xfact (c : SaysL fa fn xf K) (i : Nat) {f : Xf} (e : xf[i]? = some f) : f.ok K = true := by
  obtain ⟨hi, e2⟩ := List.getElem?_eq_some_iff.mp e
  exact List.all_eq_true.mp c.more f (e2 ▸ List.getElem_mem hi)
theorem blt_ok (X : K.In h) (G : h.Ns mainGlobals mg) {x : Str} {id : String} (c : (Xf.blt x id).ok K = true) : mg x = some (.builtin id) := PySem.W.mg_of X G (He.eqO_ok c)
end
end DL

set_option Elab.async false
set_option linter.all false
set_option maxRecDepth 100000
set_option maxHeartbeats 4000000
namespace DL
open PySem PySem.Spec PyProof.Rows L2

/-! ### raise, try -/
/-- raise C("..") -/
def sRaise (c : Str) : SM := fun ds h => .ex c none ds h
def noexS : SR → SR
  | .ex _ _ _ _ => .no
  | r => r
/-- what the clauses do: tab c y tells whether y takes a c -/
def hdlS (tab : Str → Str → Option Bool) (c : Str) (p : Option D) : List (Str × SM) → SM
  | [] => fun ds h => .ex c p ds h
  | (y, m) :: r => fun ds h => match tab c y with
    | some true => noexS (m ds h)
    | some false => hdlS tab c p r ds h
    | none => .no
def sTry (tab : Str → Str → Option Bool) (mb : SM) (hs : List (Str × SM)) : SM := fun ds h => match mb ds h with
  | .ex c p ds2 h2 => hdlS tab c p hs ds2 h2
  | r => r
/-- the table of subclasses is right -/
def TabOk (K : PySem.W.Frag) (mg : Str → Option Value) (tab : Str → Str → Option Bool) (ys : List Str) : Prop := ∀ c y b, y ∈ ys → tab c y = some b → PySem.W.exmOne K (.ref (He.ga K c)) (.ref (He.ga K y)) = some b ∧ mg c = some (.ref (He.ga K c))
section
variable {X : Cx} {W : WX} {pos p p2 p3 : Pos} {a b c e : Expr} {es : List Expr} {ma mb mc : M D} {me : M (List D)}
theorem ds_raise {x m : Str} {j : Nat} (tk : Takes X W) (f : (He.Fa.exc x).ok X.K = true) (gC : X.mg x = some (.ref (He.ga X.K x))) (hg : Gl X x := by rfl) (hc : X.calm = true := by rfl) (hdb : (x == ("__debug__" : Str)) = false := by decide) :
    DS X W (.Raise (some (.Call (.Name x p) [.Constant (.str m) j p2] [] p3)) none pos) (sRaise x) := by
  obtain ⟨f1, f2, f3, f4⟩ := He.exc_ok f
  exact PS.imp (ps_raise hc tk (pmk_own PySem.F.excBase_ValueError f1 gC f2 (raises_own f3 f4) hg hdb)) fun Dn σ H ⟨as, ds, h, s, q⟩ => q σ _ _ H as .refl s ⟨gC, trivial⟩
/-- one clause after the other -/
theorem wMany_ok {tab : Str → Str → Option Bool} {Dn : Ends} {c : Str} {pd : Option D} {cls : Value} {dx : Option Addr} {as : List Addr} {ds : Ev} {h : Hs} {σ : L2.St} {H : Hp} :
    ∀ (hs : List (Str × SM)), TabOk X.K X.mg tab (hs.map (·.1)) → StR X.K H as ds h σ → ExR X.K X.mg H as c pd cls dx → PostS X.K X.mg W as H (hdlS tab c pd hs ds h) Dn →
    wMany X.K W Dn (hs.map fun q => (Value.ref (He.ga X.K q.1), fun _ _ _ => tsM X.K X.mg W0 q.2)) cls dx σ H
  | [], _, s, x, q => q σ cls dx H as .refl s x
  | (y, m) :: r, ht, s, x, q => by
    simp only [hdlS] at q
    cases e : tab c y with
    | none => rw [e] at q; exact q.elim
    | some b =>
      obtain ⟨h1, h2⟩ := ht c y b (by simp) e
      have ec : cls = .ref (He.ga X.K c) := by
        have := x.1
        rw [h2] at this
        exact (Option.some.inj this).symm
      subst ec
      rw [e] at q
      refine ⟨b, h1, fun hb a ha => ?_, fun hb => ?_⟩
      · subst hb
        refine ⟨as, ds, h, s, ?_⟩
        have q : PostS X.K X.mg W as H (noexS (m ds h)) Dn := q
        show PostS X.K X.mg W0 as H (m ds h) Dn
        cases em : m ds h with
        | ex c p d2 h2 => rw [em] at q; exact q.elim
        | _ => rw [em] at q; exact q
      · subst hb
        exact wMany_ok r (fun c y b hy => ht c y b (by simp at hy ⊢; exact .inr hy)) s x q
/-- the suites of the clauses -/
inductive DHs (X : Cx) : List ExceptHandler → List (Str × SM) → Prop
  | nil : DHs X [] []
  | cons {x : Str} {m : SM} {b₀ : Stmt} {suite : List Stmt} {np pos' : Pos} {hds : List ExceptHandler} {l : List (Str × SM)} (gC : X.mg x = some (.ref (He.ga X.K x))) (hg : Gl X x) (hdb : (x == ("__debug__" : Str)) = false)
      (hsu : ∀ (a : Addr) (oe : Obj) (pn : List (Addr × Obj)), DSs (X.suite a ((a, oe) :: pn)) W0 (b₀ :: suite) m) (r : DHs X hds l) : DHs X (.ExceptHandler (some (.Name x np)) none (b₀ :: suite) pos' :: hds) ((x, m) :: l)
theorem DHs.ok {hds : List ExceptHandler} {l : List (Str × SM)} (d : DHs X hds l) : HdsOk X hds (l.map fun q => (Value.ref (He.ga X.K q.1), fun _ _ _ => tsM X.K X.mg W0 q.2)) := by
  induction d with
  | nil => exact .nil
  | cons gC hg hdb hsu r ih => exact .cons ⟨hg, hdb, .inl gC⟩ (fun a oe cls d pn _ _ => hsu a oe pn) ih
theorem ds_try {tab : Str → Str → Option Bool} {body : List Stmt} {h0 : ExceptHandler} {hds : List ExceptHandler} {mb : SM} {hs : List (Str × SM)} (tk : Takes X W) (ht : TabOk X.K X.mg tab (hs.map (·.1)))
    (hb : ∀ (W : WX) (pn : List (Addr × Obj)) (xe : Value → Shared → Prop), Takes (X.tr pn xe) W → PassesOwn (model X.prog X.w) X.A X.env xe → DSs (X.tr pn xe) W body mb) (hh : DHs X (h0 :: hds) hs)
    (h1 : X.stack = X.env :: X.outer := by rfl) (h2 : X.env.frame = some X.env.locals := by rfl) : DS X W (.Try body (h0 :: hds) [] [] pos) (sTry tab mb hs) :=
  PS.imp (ps_try_many (tb := fun W => tsM X.K X.mg W mb) (Wout := W) h1 h2 tk (fun W pn xe t1 t2 => hb W pn xe t1 t2) hh.ok) fun Dn σ H ⟨as, ds, h, s, q⟩ => by
    refine ⟨as, ds, h, s, ?_⟩
    unfold sTry at q
    cases em : mb ds h with
    | ex c p d2 h2 =>
      rw [em] at q
      intro σ' cls dx H' as' g s' x
      exact wMany_ok hs ht s' x (PostS.grow g q)
    | _ => rw [em] at q; exact q
end
/-! ### a call of a def that a name of one's own holds -/
abbrev Cand : Type := Str × Nat × (List D → Hs → R D)
def mCallV (i : Nat) (cs : List Cand) (me : M (List D)) : M D := fun ds h => match ds[i]? with
  | some (some (.gl x)) => (match cs.find? (fun c => c.1 == x) with
    | some c => (me ds h).bind fun xs h1 => if xs.length = c.2.1 then c.2.2 xs h1 else .no
    | none => .no)
  | _ => .no
structure CandOk (X : Cx) (k : Nat) (c : Cand) : Prop where
  ex : ∃ kc, kc ≤ k ∧ FD X.prog X.w X.K X.mg X.base kc c.1 c.2.1 c.2.2 ∧ X.mg c.1 = some (.ref (He.ga X.K c.1))
section
variable {X : Cx} {W : WX} {pos p : Pos} {e : Expr} {es : List Expr} {me : M (List D)}
theorem de_callV {k i : Nat} {x : Str} {cs : List Cand} (hcs : ∀ c ∈ cs, CandOk X k c) (hr : Room k X.A) (tk : Takes X W) (ha : DA X W (e :: es) me) (hN : X.N[i]? = some x := by rfl) (hv : Vis X.env.scope x := by first | exact Or.inl rfl | exact Or.inr (Or.inl rfl) | exact Or.inr (Or.inr rfl))
    (hdb : (x == ("__debug__" : Str)) = false := by decide) (hcd : (x == ("__classdict__" : Str)) = false := by decide)
    (he : starEach (e :: es) X.env = (false, eval e X.env) :: starEach es X.env := by rfl) (hpl : (backTo pos (starEach es X.env)).any (·.1) = false := by rfl) : DE X W (.Call (.Name x p) (e :: es) [] pos) (mCallV i cs me) := by
  refine ⟨fun pins s σ H Q I ⟨as, ds, h, st, q⟩ => ?_⟩
  unfold mCallV at q
  split at q
  · rename_i y ey
    cases ec : cs.find? (fun c => c.1 == y) with
    | none => rw [ec] at q; exact q.elim
    | some c =>
      rw [ec] at q
      have e1 : c.1 = y := by simpa using List.find?_some ec
      obtain ⟨kc, hk, G, hmg⟩ := (hcs c (List.mem_of_find?_eq_some ec)).ex
      obtain ⟨f, fd, ps, hm, hkp, hb, ok⟩ := G.ex
      obtain ⟨v, ev, rv⟩ := st.env.get ey
      cases rv
      rw [hmg] at hm
      have ef : f = He.ga X.K c.1 := by injection hm with hm; injection hm with hm; exact hm.symm
      subst ef
      have ev' : σ[i]? = some (some (.ref (He.ga X.K c.1))) := by rw [ev, e1]
      have run := (pe_var (X := X) (pos := p) hN hv hdb hcd).run pins s σ H (fun v H1 => v = .ref (He.ga X.K c.1) ∧ H1 = H) I ⟨_, ev', rfl, rfl⟩
      refine wpAny_Call_Name_kw (thn run fun u s1 hx => ?_)
      obtain ⟨v, H1, I1, r1, rfl, rfl⟩ := hx
      cases r1
      have args := ha.run pos pins s1 σ H1 (fun vs H2 => spD X.K X.mg c.2.1 c.2.2 vs H2 Q (WE W σ)) I1 ⟨as, ds, h, st, PostE.bindA q fun xs h1 vs H1 as1 f1 r1 hr1 p1 => by
        by_cases hn : xs.length = c.2.1
        · rw [if_pos hn] at p1
          exact ⟨by rw [← r1.length]; exact hn, as1, xs, h1, r1, hr1, PostC.ofE p1⟩
        · rw [if_neg hn] at p1; exact p1.elim⟩
      refine PySem.W.callWith_K (h₀ := X.base) I.ok.mod.kin hkp (thn args fun us s2 hy => ?_) he hpl
      obtain ⟨vs, H2, I2, r2, q2⟩ := hy
      have := run_fnSD (X := X) (dvs := []) (E := WE W) ok (hr.mono hk) hb .nil (passAt tk σ) I2 r2 (by rw [List.append_nil]; exact q2)
      exact ⟨I2.kIn, by simpa using this⟩
  · exact q.elim
end
end DL

set_option Elab.async false
set_option linter.all false
set_option maxRecDepth 100000
set_option maxHeartbeats 4000000
namespace DL
open PySem PySem.Spec PyProof.Rows L2

/-! ### x(lambda: e), where x calls what it gets within a try -/
/-- what is got is called -/
def sThk (th : Hs → R D) : SM := fun ds h => match th h with
  | .ok _ h1 => .nx ds h1
  | .ex c p h1 => .ex c p ds h1
  | .no => .no
/-- the def that gets it: n slots, of which nothing is told -/
def mMet (n : Nat) (tab : Str → Str → Option Bool) (mr : SM) (hs : List (Str × SM)) (mt : SM) (th : Hs → R D) : Hs → R D := fun h =>
  finG h.length (sSeq (sTry tab (sSeq (sThk th) mr) hs) mt (List.replicate n none) h)
section
variable {K : PySem.W.Frag} {mg : Str → Option Value} {W : WX} {as : List Addr} {H : Hp}
theorem EvR.unk : ∀ {σ : L2.St} {n : Nat}, σ.length = n → EvR K H as (List.replicate n none) σ
  | [], _, rfl => .nil
  | _ :: σ, _, rfl => .cons (fun d e => nomatch e) (EvR.unk (σ := σ) rfl)
theorem seq_post {m1 m2 : SM} {ds : Ev} {h : Hs} {Dn : Ends} (q : PostS K mg W as H (sSeq m1 m2 ds h) Dn) : PostS K mg W as H (m1 ds h) { Dn with nx := fun σ H => tsM K mg W m2 Dn σ H } := by
  unfold sSeq at q
  cases e : m1 ds h with
  | nx ds' h' => rw [e] at q; exact fun σ' H' as' g s => ⟨as', ds', h', s, PostS.grow g q⟩
  | rt d h' => rw [e] at q; exact q
  | bk ds' h' => rw [e] at q; exact q
  | ct ds' h' => rw [e] at q; exact q
  | ex c p ds' h' => rw [e] at q; exact q
  | no => rw [e] at q; exact q
end
section
variable {X : Cx}
theorem wManyG_ok {tab : Str → Str → Option Bool} {Dn : Ends} {c : Str} {pd : Option D} {cls : Value} {dx : Option Addr} {as : List Addr} {ds : Ev} {h : Hs} {σ : L2.St} {H : Hp} {n : Nat} :
    ∀ (hs : List (Str × SM)), TabOk X.K X.mg tab (hs.map (·.1)) → (σ.length = n → StR X.K H as ds h σ) → ExR X.K X.mg H as c pd cls dx → PostS X.K X.mg W0 as H (hdlS tab c pd hs ds h) Dn →
    wMany X.K (fun _ _ σ _ => σ.length = n → False) Dn (hs.map fun q => (Value.ref (He.ga X.K q.1), fun _ _ _ D σ H => σ.length = n → tsM X.K X.mg W0 q.2 D σ H)) cls dx σ H
  | [], _, s, x, q => fun hl => q σ cls dx H as .refl (s hl) x
  | (y, m) :: r, ht, s, x, q => by
    simp only [hdlS] at q
    cases e : tab c y with
    | none => rw [e] at q; exact q.elim
    | some b =>
      obtain ⟨h1, h2⟩ := ht c y b (by simp) e
      have ec : cls = .ref (He.ga X.K c) := by
        have := x.1
        rw [h2] at this
        exact (Option.some.inj this).symm
      subst ec
      rw [e] at q
      refine ⟨b, h1, fun hb a ha hl => ?_, fun hb => ?_⟩
      · subst hb
        refine ⟨as, ds, h, s hl, ?_⟩
        have q : PostS X.K X.mg W0 as H (noexS (m ds h)) Dn := q
        show PostS X.K X.mg W0 as H (m ds h) Dn
        cases em : m ds h with
        | ex c p d2 h2 => rw [em] at q; exact q.elim
        | _ => rw [em] at q; exact q
      · subst hb
        exact wManyG_ok r (fun c y b hy => ht c y b (by simp at hy ⊢; exact .inr hy)) s x q
theorem DHs.okG {hds : List ExceptHandler} {l : List (Str × SM)} (d : DHs X hds l) : HdsOk X hds (l.map fun q => (Value.ref (He.ga X.K q.1), fun _ _ _ D σ H => σ.length = X.N.length → tsM X.K X.mg W0 q.2 D σ H)) := by
  induction d with
  | nil => exact .nil
  | cons gC hg hdb hsu r ih => exact .cons ⟨hg, hdb, .inl gC⟩ (fun a oe cls d pn _ _ => ⟨fun pins s σ H Q I q => (hsu a oe pn).run pins s σ H Q I (q I.len)⟩) ih
theorem takes_len {n : Nat} (hn : X.N.length = n) : Takes X (fun _ _ σ _ => σ.length = n → False) := fun _ _ ⟨_, _, _, _, _, _, _, _, _, I, _, _, _, _, _, _, w⟩ => (w (I.len.trans hn)).elim
/-- what is made of the lambda's reading -/
def TTmet (K : PySem.W.Frag) (mg : Str → Option Value) (F : (Hs → R D) → Hs → R D) : (XK → Hp → VK → Prop) → Hp → VK → Prop := fun tl H Q =>
  ∃ as h th, HeapR K H as h ∧ (∀ E H1 as1 h1 Q1, Grow as H as1 H1 → HeapR K H1 as1 h1 → PostC K mg as1 H1 (th h1) Q1 E → tl E H1 Q1) ∧ PostC K mg as H (F th h) Q (fun _ _ _ => False)
abbrev metCx (X : Cx) (Ng : List Str) (x : Str) (sg : Scope) (g : Addr) (cdg : Value) (s : Shared) (H : Hp) : Cx := (cxOf C8.CX0 X.prog X.w X.K X.mg X.base Ng x sg g cdg X.A X.stack s H C8.E0).nox
theorem met_gives {Ng : List Str} {x a q : Str} {sg : Scope} {g : Addr} {cdg : Value} {p1 p2 p3 pos : Pos} {tab : Str → Str → Option Bool} {rest tail : List Stmt} {h0 : ExceptHandler} {hds : List ExceptHandler} {mr mt : SM} {hs : List (Str × SM)}
    (ht : TabOk X.K X.mg tab (hs.map (·.1)))
    (hr : ∀ (s : Shared) (H : Hp) (W : WX) (pn : List (Addr × Obj)) (xe : Value → Shared → Prop), Takes ((metCx X Ng x sg g cdg s H).tr pn xe) W → DSs ((metCx X Ng x sg g cdg s H).tr pn xe) W rest mr)
    (hh : ∀ (s : Shared) (H : Hp), DHs (metCx X Ng x sg g cdg s H) (h0 :: hds) hs)
    (hm : ∀ (s : Shared) (H : Hp), DSs (metCx X Ng x sg g cdg s H) W0 tail mt) (hN : Ng ≠ []) :
    LamX.GivesTo X Ng x sg g cdg (.Try (.Expr (.Call (.Name a p1) [] [] p2) p3 :: rest) (h0 :: hds) [] [] pos :: tail) a q (TTmet X.K X.mg (mMet Ng.length tab mr hs mt)) := by
  intro f c' s H Q tl act hc ⟨as, h, th, hh0, htl, post⟩
  have hst : (L2.start Ng [V.ref f])[0]? = some (some (V.ref f)) := by
    unfold L2.start
    rfl
  have hlen : (L2.start Ng [V.ref f]).length = Ng.length := by
    unfold L2.start
    cases Ng with
    | nil => exact absurd rfl hN
    | cons b l => simp
  let Z := metCx X Ng x sg g cdg s H
  let t1 : WX → TS := fun W D σ H => ∃ Ech : XK, (∀ cls d σ' H', Ech cls d H' → W cls d σ' H') ∧ σ[0]? = some (some (.ref f)) ∧ H c' = some (LamX.CodeO c' q) ∧ tl Ech H (fun _ H2 => D.nx σ H2)
  have body : PSs Z (.Try (.Expr (.Call (.Name a p1) [] [] p2) p3 :: rest) (h0 :: hds) [] [] pos :: tail) _ :=
    pss_cons (ps_try_many (X := Z) (Wout := fun _ _ σ _ => σ.length = Ng.length → False) (tb := fun W => tSeq (t1 W) (tsM X.K X.mg W mr)) rfl rfl (takes_len rfl) (fun W pn xe tk _ =>
      pss_cons ⟨fun pins s' σ H' D I h' => by
        obtain ⟨Ech, hW, e1, e2, e3⟩ := h'
        exact (ps_expr (act W pn xe Ech p1 p2 tk hW) (by rfl)).run pins s' σ H' D I ⟨e1, e2, e3⟩⟩ (hr s H W pn xe tk)) (hh s H).okG) (hm s H)
  refine ⟨_, body, ?_⟩
  have P : PostS X.K X.mg W0 as H (sSeq (sTry tab (sSeq (sThk th) mr) hs) mt (List.replicate Ng.length none) h) { nx := fun _ H' => Q .non H', rt := Q } := by
    refine finG_ok X.K X.mg as H _ Q (fun _ _ _ => False) ?_
    rw [hh0.len]
    exact post
  have P1 := seq_post P
  obtain ⟨D1, hD⟩ : ∃ D1 : Ends, D1 = { nx := fun σ H => tsM X.K X.mg W0 mt { nx := fun _ H' => Q .non H', rt := Q } σ H, rt := Q } := ⟨_, rfl⟩
  let l := hs.map fun q => (Value.ref (He.ga X.K q.1), fun (_ : Addr) (_ : Value) (_ : Option Addr) (D : Ends) (σ : L2.St) (H : Hp) => σ.length = Ng.length → tsM X.K X.mg W0 q.2 D σ H)
  let Wm : WX := wMany X.K (fun _ _ σ _ => σ.length = Ng.length → False) D1 l
  suffices goal : t1 Wm { D1 with nx := fun σ H => tsM X.K X.mg Wm mr D1 σ H } (L2.start Ng [V.ref f]) H by
    subst hD
    exact goal
  refine ⟨fun cls d H' => ∀ σ', Wm cls d σ' H', fun cls d σ' H' z => z σ', hst, hc, htl _ H as h _ .refl hh0 ?_⟩
  have P2 : PostS X.K X.mg W0 as H (match sSeq (sThk th) mr (List.replicate Ng.length none) h with
    | .ex c p ds2 h2 => hdlS tab c p hs ds2 h2
    | r => r) D1 := by rw [hD]; exact P1
  unfold sSeq sThk at P2
  cases et : th h with
  | no => rw [et] at P2; exact P2.elim
  | ex c p h1 =>
    rw [et] at P2
    exact fun cls dx H' as' g hr x σ' => wManyG_ok hs ht (fun hl => ⟨EvR.unk hl, hr⟩) x (PostS.grow g P2)
  | ok d h1 =>
    rw [et] at P2
    intro v H' as' g _ hr
    refine ⟨as', _, h1, ⟨EvR.unk hlen, hr⟩, ?_⟩
    have P3 := PostS.grow g P2
    simp only at P3
    cases em : mr (List.replicate Ng.length none) h1 with
    | ex c p d2 h2 =>
      rw [em] at P3
      exact fun σ' cls dx H2 as2 g2 s2 x2 => wManyG_ok hs ht (fun _ => s2) x2 (PostS.grow g2 P3)
    | nx _ _ => rw [em] at P3; exact P3
    | rt _ _ => rw [em] at P3; exact P3
    | bk _ _ => rw [em] at P3; exact P3
    | ct _ _ => rw [em] at P3; exact P3
    | no => rw [em] at P3; exact P3
end
end DL

set_option Elab.async false
set_option linter.all false
set_option maxRecDepth 100000
set_option maxHeartbeats 4000000
namespace DL
open PySem PySem.Spec PyProof.Rows L2

theorem slO_ne_code {C dx a : Addr} {vs : List (Option V)} {q : Str} : SlO C dx a vs ≠ LamX.CodeO a q := fun e => by
  unfold SlO LamX.CodeO at e
  have e2 := HO.ext.inj e
  let o : Obj := { cls := .none, data := .fields #[.none, .str q default] }
  let h : Heap := { objs := Array.replicate (a + 1) o }
  have hg : h.get? a = some o := by
    unfold Heap.get?
    have : h.objs[a]? = some o := by simp [h]
    rw [this]
  have hc : ∃ (oc : Obj) (us : Array Value) (t : Tok), h.get? a = some oc ∧ oc.data = .fields us ∧ us[1]? = some (.str q t) := ⟨o, _, default, hg, rfl, rfl⟩
  have hs : SlP C dx a vs h := by rw [e2]; exact hc
  obtain ⟨us, _, e3⟩ := hs
  rw [hg] at e3
  have e4 := congrArg Obj.data (Option.some.inj e3)
  cases e4
theorem CellR.ncode {K : PySem.W.Frag} {H : Hp} {as : List Addr} {d : D} {a : Addr} {q : Str} (r : CellR K H as d a) : H a ≠ some (LamX.CodeO a q) := fun e => by
  cases r with
  | lst h _ => rw [h] at e; cases e
  | dct h _ _ => rw [h] at e; cases e
  | dcf h _ _ => rw [h] at e; cases e
  | tbl _ h _ _ => rw [h] at e; cases e
  | fnc h => rw [h] at e; cases e
  | rng h => rw [h] at e; cases e
  | obj h _ _ =>
    rcases h.2.2 with z | z
    · rw [z] at e; exact slO_ne_code (Option.some.inj e)
    · rw [z.2] at e; cases e
/-- the heap's tables, by their defs -/
def tbls (h : Hs) : List Str := h.filterMap fun c => match c with
  | .tbl z => some z
  | _ => none
def isTab (tf : List Str) (h : Hs) : Bool := decide (tbls h = tf)
theorem isTab_mem {tf : List Str} {h : Hs} (ht : isTab tf h = true) {z : Str} : z ∈ tf ↔ .tbl z ∈ h := by
  have e : tbls h = tf := of_decide_eq_true ht
  rw [← e]
  unfold tbls
  rw [List.mem_filterMap]
  constructor
  · rintro ⟨c, hc, e⟩
    cases c with
    | tbl y => cases e; exact hc
    | _ => cases e
  · exact fun hc => ⟨_, hc, rfl⟩
def mLamT (tf : List Str) (F : (Hs → R D) → Hs → R D) (m : M D) : M D := fun ds h => if isTab tf h then (F (m ds) h).noex else .no
def tabsT (K : PySem.W.Frag) (tf : List Str) (y : Str) : List (Addr × Str) := (tf.map fun z => ((He.cT K (z, none)).2, lamQ z)).filter fun p => decide (p.1 ≠ (He.cT K (y, none)).2) || decide (p.2 = lamQ y)
section
variable {K : PySem.W.Frag} {H H1 : Hp} {as : List Addr} {h : Hs}
theorem tab_at (hr : HeapR K H as h) {tf : List Str} {y : Str} (ht : isTab tf h = true) (hy : y ∈ tf) : ∃ (j : Nat) (a : Addr), h[j]? = some (D.tbl y) ∧ as[j]? = some a ∧ a = (He.cT K (y, none)).2 := by
  obtain ⟨j, hj, ej⟩ := List.getElem_of_mem ((isTab_mem ht).mp hy)
  have e1 : h[j]? = some (.tbl y) := by rw [List.getElem?_eq_getElem hj, ej]
  obtain ⟨a, e2, cr⟩ := hr.get2 e1
  cases cr with
  | tbl ea _ _ _ => exact ⟨j, a, e1, e2, ea⟩
theorem tabs_of (hr : HeapR K H as h) {tf : List Str} {y : Str} (ht : isTab tf h = true) (hy : y ∈ tf) : LamX.TabS H (He.cT K (y, none)).2 (lamQ y) := by
  obtain ⟨j, a, e1, e2, ea⟩ := tab_at hr ht hy
  have cr := hr.at_ j _ a e1 e2
  cases cr with
  | tbl _ h1 h2 h3 => subst ea; exact ⟨_, h1, h2, fun pos cv e => let ⟨c, z1, z2, _⟩ := h3 pos cv e; ⟨c, z1, z2⟩⟩
/-- behind the making of a lambda all is held as before -/
theorem heap_lam (hr : HeapR K H as h) {tf : List Str} {y : Str} (ht : isTab tf h = true) (hy : y ∈ tf) (eN : LamX.ExtN H H1) (T1 : LamX.Tabs (tabsT K tf y) H1) : Grow as H as H1 ∧ HeapR K H1 as h := by
  have g : Grow as H as H1 := .of_fr fun a o e hb _ => eN a o e fun ps z => by subst z; cases hb
  obtain ⟨j, P, j1, j2, j3⟩ := tab_at hr ht hy
  refine ⟨g, ⟨hr.len, hr.nd, fun n d a e1 e2 => ?_⟩⟩
  have cr := hr.at_ n d a e1 e2
  by_cases hz : ∃ z, d = .tbl z
  · obtain ⟨z, rfl⟩ := hz
    have hmem : z ∈ tf := (isTab_mem ht).mpr (List.mem_of_getElem? e1)
    cases cr with
    | tbl ea h1 h2 h3 =>
      have inT : (a, lamQ z) ∈ tabsT K tf y := by
        refine List.mem_filter.mpr ⟨List.mem_map.mpr ⟨z, hmem, by rw [← ea]⟩, ?_⟩
        by_cases hp : a = (He.cT K (y, none)).2
        · have ep : a = P := hp.trans j3.symm
          have : n = j := nodup_at hr.nd (ep ▸ e2) j2
          subst this
          rw [j1] at e1
          cases e1
          simp
        · simp [hp]
      obtain ⟨ps, t1, t2, t3⟩ := T1 _ inT
      refine .tbl ea t1 t2 fun pos cv e => ?_
      obtain ⟨c, c1, c2⟩ := t3 pos cv e
      refine ⟨c, c1, c2, fun hc => ?_⟩
      obtain ⟨m, hm, em⟩ := List.getElem_of_mem hc
      obtain ⟨dm, em2, crm⟩ := hr.get (n := m) (a := c) (by rw [List.getElem?_eq_getElem hm, em])
      obtain ⟨o, eo, _⟩ := crm.there
      by_cases hb : ∃ ps, o = .tbl ps
      · obtain ⟨ps', rfl⟩ := hb
        have hm3 : as[m]? = some c := by rw [List.getElem?_eq_getElem hm, em]
        cases crm with
        | @tbl _ z' _ ea' k1 _ _ =>
          have hmem' : z' ∈ tf := (isTab_mem ht).mpr (List.mem_of_getElem? em2)
          have inT' : (c, lamQ z') ∈ tabsT K tf y := by
            refine List.mem_filter.mpr ⟨List.mem_map.mpr ⟨z', hmem', by rw [← ea']⟩, ?_⟩
            by_cases hp : c = (He.cT K (y, none)).2
            · have ep : c = P := hp.trans j3.symm
              have : m = j := nodup_at hr.nd (ep ▸ hm3) j2
              subst this
              rw [j1] at em2
              cases em2
              simp
            · simp [hp]
          obtain ⟨ps2, u1, _⟩ := T1 _ inT'
          have u1 : H1 c = some (.tbl ps2) := u1
          rw [c2] at u1
          cases u1
        | lst k _ => rw [k] at eo; cases eo
        | dct k _ _ => rw [k] at eo; cases eo
        | dcf k _ _ => rw [k] at eo; cases eo
        | fnc k => rw [k] at eo; cases eo
        | rng k => rw [k] at eo; cases eo
        | obj k _ _ => rcases k.2.2 with w | w; (rw [w] at eo; cases eo); (rw [w.2] at eo; cases eo)
      · have q := eN c o eo fun ps z => hb ⟨ps, z⟩
        rw [c2] at q
        exact crm.ncode (eo.trans q.symm)
  · refine cr.keep g ?_
    obtain ⟨o, eo, _⟩ := cr.there
    rw [eo]
    refine eN a o eo fun ps z => hz ?_
    subst z
    cases cr with
    | tbl _ _ _ _ => exact ⟨_, rfl⟩
    | lst k _ => rw [k] at eo; cases eo
    | dct k _ _ => rw [k] at eo; cases eo
    | dcf k _ _ => rw [k] at eo; cases eo
    | fnc k => rw [k] at eo; cases eo
    | rng k => rw [k] at eo; cases eo
    | obj k _ _ => rcases k.2.2 with w | w; (rw [w] at eo; cases eo); (rw [w.2] at eo; cases eo)
end
section
variable {X : Cx} {W : WX}
theorem PostC.toE {K : PySem.W.Frag} {mg : Str → Option Value} {as : List Addr} {σ : L2.St} {H : Hp} {r : R D} {Q : VK} {E : XK} (p : PostC K mg as H r Q E) : PostE K mg (fun cls d _ H => E cls d H) as σ H r Q := by
  cases r with
  | ok d h => exact p
  | ex c q h => exact p
  | no => exact p
theorem PostE.toC {K : PySem.W.Frag} {mg : Str → Option Value} {as : List Addr} {σ : L2.St} {H : Hp} {r : R D} {Q : VK} {E : XK} (p : PostE K mg W as σ H r.noex Q) : PostC K mg as H r Q E := by
  cases r with
  | ok d h => exact p
  | ex c q h => exact p.elim
  | no => exact p.elim
theorem de_lam {x y a : Str} {tf : List Str} {F : (Hs → R D) → Hs → R D} {m : M D} {k : Nat} {g : Addr} {fd : FuncData} {pg : Arguments} {bg : List Stmt} {sg : Scope} {Ng : List Str} {params : Arguments} {body : Expr} {scope : Scope} {p lpos pos : Pos}
    (F0 : FunD X.K x x pg bg sg [] [] g fd) (hm : X.mg x = some (.ref g)) (hb : Binds X.K fd [a] []) (Sg : FnScope Ng [a] sg) (hNg : Ng[0]? = some a) (hva : Vis sg a)
    (hG : ∀ cdg, LamX.GivesTo X Ng x sg g cdg bg a (lamQ y) (TTmet X.K X.mg F))
    (TB : LamX.TabB X.base X.mg (He.cT X.K (y, none)).1 (He.cT X.K (y, none)).2) (hcode : X.env.code = .ref (He.cT X.K (y, none)).1) (hy : y ∈ tf) (hr : Room (k + 2) X.A) (L : LamX.LamS X.env.scope scope)
    (hbody : ∀ (A : Around) (outer : List Env) (s : Shared) (H : Hp) (E : XK) (f c' : Addr), Room k (A.deeper (LamX.lamEnv X scope s.heap.objs.size f c')) → DE (LamX.lamCx X A outer s H E scope f c') (fun cls d _ H => E cls d H) body m)
    (hdef : defaultsOf params X.env = ([], []) := by rfl) (hbind : ∀ (q : Str) (cl : List (Str × Addr)) (pm cv ctv : Value), bindArgs (PySem.W.kla_fn "<lambda>" q params body scope cl pm cv ctv) ⟨[], []⟩ = pure [] := by intro _ _ _ _ _; rfl)
    (hq : X.env.qual ++ "<lambda>" = lamQ y := by first | rfl | kernel_rfl) (hg : Gl X x := by rfl) (hdb : (x == ("__debug__" : Str)) = false := by decide) (hd : (a == ("__debug__" : Str)) = false := by decide) (hcd : (a == ("__classdict__" : Str)) = false := by decide) :
    DE X W (.Call (.Name x p) [.Lambda params body scope lpos] [] pos) (mLamT tf F m) := by
  obtain ⟨oc, od, dV, kV, doc, pm, an, cdv, ct, osl, rfl, lk, hcd', _, _⟩ := F0.ex
  refine PE.imp (LamX.pe_lamcall (T := tabsT X.K tf y) (TT := TTmet X.K X.mg F) (t := fun E => teM X.K X.mg (fun cls d _ H => E cls d H) m) hg hm F0.kp lk hcd' hb Sg hNg hva (by rw [hq]; exact hG cdv) TB hcode ?_ ?_ hr L hdef hbind
    (fun A outer s H E f c' hr' => hbody A outer s H E f c' hr') hdb hd hcd) fun σ H Q ⟨as, ds, h, s, q⟩ => ?_
  · rw [hq]
    exact List.mem_filter.mpr ⟨List.mem_map.mpr ⟨y, hy, rfl⟩, by simp⟩
  · intro q hqm e
    rw [hq]
    have := (List.mem_filter.mp hqm).2
    simpa [e] using this
  · unfold mLamT at q
    by_cases ht : isTab tf h = true
    · rw [if_pos ht] at q
      refine ⟨fun p hp => ?_, fun H1 eN T1 => ?_⟩
      · obtain ⟨hp, _⟩ := List.mem_filter.mp hp
        obtain ⟨z, hz, rfl⟩ := List.mem_map.mp hp
        exact tabs_of s.heap ht hz
      · obtain ⟨g1, hr1⟩ := heap_lam s.heap ht hy eN T1
        exact ⟨as, h, m ds, hr1, fun E H2 as1 h1 Q1 g2 hr2 post => ⟨as1, ds, h1, ⟨s.env.grow (g1.trans g2), hr2⟩, PostC.toE post⟩, PostE.toC (PostE.grow g1 q)⟩
    · rw [if_neg ht] at q; exact q.elim
end
end DL

set_option Elab.async false
set_option linter.all false
set_option maxRecDepth 100000
set_option maxHeartbeats 4000000
namespace DL
open PySem PySem.Spec PyProof.Rows L2

/-! ### defs that make lambdas: their code object is known -/
section
variable {P : Program} {w : World} {K : PySem.W.Frag} {mg : Str → Option Value} {base : Heap}
theorem fn_mkC (d : He.DefD) (N ps : List Str) (k np nl : Nat) {fd : FuncData} {m : SM} {fin : Nat → SR → R D} (hnp : ps.length = np) (hnl : N.length - ps.length = nl) (F : FunD K d.name d.qual d.params d.body d.scope (d.dvs K) (d.kws K) (He.fAd K d.at_) fd) (hf : FinOk fin) (S : FnScope N ps d.scope)
    (hbody : ∀ (cdv : Value) (A : Around) (outer : List Env) (s : Shared) (H : Hp) (E : XK), cdv = .ref (He.cT K d.at_).1 → Room k (A.deeper (envOfC d.qual d.scope s.heap.objs.size (He.fAd K d.at_) cdv)) →
      DSs (cxOf (L2.CX P w) P w K mg base N d.qual d.scope (He.fAd K d.at_) cdv A outer s H E) (fun cls d _ H => E cls d H) d.body m) : FnOk P w K mg base (L2.CX P w) (k + 1) (He.fAd K d.at_) fd ps (spD K mg np (mkF np nl fin m)) := by
  subst hnp hnl
  obtain ⟨oc, od, dV, kV, doc, pm, an, cdv, ct, osl, rfl, lk, hcd, _, _⟩ := F.ex
  obtain ⟨c, rfl⟩ := He.codeIn_ref hcd
  have hc : (He.cT K d.at_).1 = c := He.codeOf_eq lk rfl
  refine fn_of lk hcd S (fun vs H Q E h => h.1) fun A outer s H vs Q E hr h => ⟨_, hbody _ A outer s H E (by rw [hc]) hr, ?_⟩
  obtain ⟨hl, as, ds, hh, r, hr2, p⟩ := h
  have e1 : ds.length = ps.length := by rw [r.length]; exact hl
  unfold mkF at p
  rw [if_pos e1] at p
  refine ⟨as, ds.map some ++ List.replicate (N.length - ps.length) none, hh, ⟨?_, hr2⟩, ?_⟩
  · unfold L2.start
    rw [hl]
    exact (EvR.start r).append (EvR.nones _)
  · rw [← hr2.len] at p
    exact hf K mg as H _ Q E p
theorem fd_mkC (d : He.DefD) (N ps : List Str) (k np nl : Nat) {x : Str} {fd : FuncData} {m : SM} {fin : Nat → SR → R D} (hnp : ps.length = np) (hnl : N.length - ps.length = nl) (F : FunD K d.name d.qual d.params d.body d.scope (d.dvs K) (d.kws K) (He.fAd K d.at_) fd) (hm : mg x = some (.ref (He.fAd K d.at_))) (hf : FinOk fin) (S : FnScope N ps d.scope)
    (hb : Binds K fd ps [])
    (hbody : ∀ (cdv : Value) (A : Around) (outer : List Env) (s : Shared) (H : Hp) (E : XK), cdv = .ref (He.cT K d.at_).1 → Room k (A.deeper (envOfC d.qual d.scope s.heap.objs.size (He.fAd K d.at_) cdv)) →
      DSs (cxOf (L2.CX P w) P w K mg base N d.qual d.scope (He.fAd K d.at_) cdv A outer s H E) (fun cls d _ H => E cls d H) d.body m) : FD P w K mg base (k + 1) x np (mkF np nl fin m) :=
  ⟨_, fd, ps, hm, F.kp, hb, fn_mkC d N ps k np nl hnp hnl F hf S hbody⟩
end

/-! ### globals as values; calls with stars; list(x) as a cell -/
section
variable {X : Cx} {W : WX} {pos p sp_ : Pos} {a e : Expr} {es : List Expr} {ma : M D} {me : M (List D)}
/-- a def or a class of the module -/
theorem de_gl {x : Str} (hm : X.mg x = some (.ref (He.ga X.K x))) (hg : Gl X x := by rfl) (hd : (x == ("__debug__" : Str)) = false := by decide) : DE X W (.Name x pos) (mC (.gl x)) :=
  PE.imp (pe_glob hg hm (v := .ref (He.ga X.K x)) rfl hd) fun σ H Q ⟨as, ds, h, s, q⟩ => q _ H as .refl (.gl x) s.heap
/-- f(a, *b), where f raises nothing -/
def mCallN (np : Nat) (F : List D → Hs → R D) (me : M (List D)) : M D := fun ds h => (me ds h).bind fun xs h1 => if xs.length = np then (F xs h1).noex else .no
theorem de_callS2 {k np : Nat} {x : Str} {F : List D → Hs → R D} (G : FD X.prog X.w X.K X.mg X.base k x np F) (hr : Room k X.A) (ha : DA X W (e :: es) me) (hg : Gl X x := by rfl) (hdb : (x == ("__debug__" : Str)) = false := by decide)
    (he : starEach (e :: es) X.env = (false, eval e X.env) :: starEach es X.env := by rfl) (hst : (backTo pos (starEach es X.env)).any (·.1) = true := by rfl) : DE X W (.Call (.Name x p) (e :: es) [] pos) (mCallN np F me) := by
  obtain ⟨f, fd, ps, hm, hk, hb, ok⟩ := G.ex
  refine PE.imp (StX.pe_callS2 (E := fun _ _ _ => False) ((ok.raw hb .nil).imp (sp' := spD X.K X.mg np F) fun vs H Q E h => by rw [List.append_nil]; exact h) hr hk hg hm (fun _ _ _ _ _ _ _ z => ?_) ha hdb he hst) fun σ H Q ⟨as, ds, h, s, q⟩ => ?_
  · obtain ⟨_, _, _, _, _, _, _, _, _, _, _, _, z⟩ := z
    exact z.elim
  · refine ⟨as, ds, h, s, PostE.bindA q fun xs h1 vs H1 as1 f1 r1 hr1 p1 => ?_⟩
    by_cases hn : xs.length = np
    · rw [if_pos hn] at p1
      exact ⟨by rw [← r1.length]; exact hn, as1, xs, h1, r1, hr1, PostE.toC p1⟩
    · rw [if_neg hn] at p1; exact p1.elim
/-- list(x), to be changed -/
def mListC (ma : M D) : M D := fun ds h => (ma ds h).bind fun x h1 => match sqOf (rd h1 x) with
  | some l => .ok (.loc h1.length) (h1 ++ [.lst l])
  | none => .no
theorem de_listC (ha : DA X W [a] (mCons ma mNil)) (hm : X.mg "list" = none) (hg : Gl X "list" := by rfl) (hs : starEach [a] X.env = [(false, eval a X.env)] := by rfl) : DE X W (.Call (.Name "list" p) [a] [] pos) (mListC ma) := by
  refine PE.imp (pe_callTy call_list_of hg hm (by decide +kernel) ha (by decide) (by decide) (by rw [hs]; rfl) rfl) fun σ H Q ⟨as, ds, h, s, q⟩ => ⟨as, ds, h, s, ?_⟩
  unfold mListC at q
  unfold mCons mNil
  cases e : ma ds h with
  | ex c p h1 => rw [e] at q; exact q
  | no => rw [e] at q; exact q.elim
  | ok x h1 =>
    rw [e] at q
    intro vs H1 as1 g r hr
    cases r with
    | cons r t =>
      cases t
      have q : PostE X.K X.mg W as σ H (match sqOf (rd h1 x) with | some l => .ok (.loc h1.length) (h1 ++ [.lst l]) | none => .no) Q := q
      cases el : sqOf (rd h1 x) with
      | none => rw [el] at q; exact q.elim
      | some l =>
        rw [el] at q
        have ed : rd h1 x = .lst l ∨ rd h1 x = .tup l ∨ rd h1 x = .frz l := by
          revert el; generalize rd h1 x = d; intro el
          cases d <;> cases el <;> simp
        obtain ⟨b, us, rfl, rs, hh⟩ := (r.rt hr).seq ed
        refine ⟨b, us, rfl, hh, fun q2 hq2 => ?_⟩
        obtain ⟨g2, hr2⟩ := hr.push hq2 rs
        exact q (.ref q2) _ _ (g.trans g2) (.loc (by rw [← hr.len]; simp)) hr2
end
end DL

set_option Elab.async false
set_option linter.all false
set_option maxRecDepth 100000
set_option maxHeartbeats 4000000
namespace DL
open PySem PySem.Spec PyProof.Rows L2 RZ

/-! ### tuples of the module; the law's end with tables -/
def dvD : He.Dv → D
  | .non => .non
  | .bl b => .bl b
  | .int i => .int i
  | .str x => .str x
  | _ => .uns
def plainDv : He.Dv → Bool
  | .non => true
  | .bl _ => true
  | .int _ => true
  | .str _ => true
  | _ => false
theorem dv_rv {K : PySem.W.Frag} {H : Hp} {as : List Addr} : ∀ {vs : List He.Dv}, vs.all plainDv = true → RVs K H as (vs.map dvD) (vs.map (He.Dv.v K))
  | [], _ => .nil
  | v :: vs, h => by
    simp only [List.all_cons, Bool.and_eq_true] at h
    refine .cons ?_ (dv_rv h.2)
    cases v with
    | non => exact .non
    | bl b => exact .bl b
    | int i => exact .int i
    | str x => exact .str x
    | _ => exact absurd h.1 (by simp [plainDv])
section
variable {X : Cx} {W : WX} {pos : Pos}
theorem de_gtupC {x : Str} {vs : List He.Dv} {ds : List D} (c : (Xf.tup x vs).ok X.K = true) (hm : X.mg x = some (.ref (He.ga X.K x))) (hp : vs.all plainDv = true := by rfl) (e : vs.map dvD = ds := by rfl) (hg : Gl X x := by rfl) (hd : (x == ("__debug__" : Str)) = false := by decide) :
    DE X W (.Name x pos) (mC (.tup ds)) := by
  subst e
  exact PE.imp (pe_glob hg hm (v := .ref (He.ga X.K x)) rfl hd) fun σ H Q ⟨as, d, h, s, q⟩ => q _ H as .refl (.tup (He.tupB_ok c H) (dv_rv hp)) s.heap
end
theorem frz_ints {K : PySem.W.Frag} {H : Hp} {as : List Addr} : ∀ ns : List Int, RVs K H as (ns.map .int) (ns.map V.int)
  | [] => .nil
  | n :: ns => .cons (.int n) (frz_ints ns)
theorem start_tabs {K : PySem.W.Frag} {H : Hp} {tf : List Str} (nd : (tf.map fun x => (He.cT K (x, none)).2).Nodup) (hH : ∀ x ∈ tf, H (He.cT K (x, none)).2 = some (.tbl #[])) :
    HeapR K H (tf.map fun x => (He.cT K (x, none)).2) (tf.map .tbl) := by
  refine ⟨by simp, nd, fun n d a e1 e2 => ?_⟩
  rw [List.getElem?_map] at e1 e2
  cases e : tf[n]? with
  | none => rw [e] at e1; cases e1
  | some x =>
    rw [e] at e1 e2
    cases e1; cases e2
    exact .tbl rfl (hH x (List.mem_of_getElem? e)) True.intro fun pos cv z => by
      have z : codeAmong pos [] = some cv := z
      simp [codeAmong] at z
theorem lawAt_of {l : PySem.W.OpenLaw} {w : World} {K : PySem.W.Frag} {k : Nat} {mg : Str → Option Value} {fa : Addr} {h : Heap} {fd : FuncData} {tf : List Str} {f1 : List He.Fa} {fn : List He.DefD} {ex : PySem.W.Frag → Bool} {F : List D → Hs → R D} (KX : K.In h)
    (c : He.SaysX f1 fn [] (tf.map fun x => (x, none)) ex w h K) (hb : ∀ (s : Shared) (v : Value), BindsTo s fd ⟨[v], []⟩ [("script", v)]) (nd : (tf.map fun x => (He.cT K (x, none)).2).Nodup)
    (an : ∀ ns : List Int, ns.length ≤ 63 → ∃ h', F [.frz (ns.map .int)] (tf.map .tbl) = .ok (.bl true) h')
    (hF : ∀ base : Heap, K.In base → base.Ns mainGlobals mg → (∀ x : Str, x ∈ tf → LamX.TabB base mg (He.cT K (x, none)).1 (He.cT K (x, none)).2) → FnOk l.prog w K mg base CX0 k fa fd ["script"] (fun vs H Q _ => spD K mg 1 F vs H Q E0)) :
    LamX.LawAtS l w K CX0 k 63 "script" mg fa h := by
  have ct : ∀ p ∈ tf.map (fun x => He.cT K (x, none)), ∃ x ∈ tf, p = He.cT K (x, none) := fun p hp => by
    obtain ⟨x, hx, e⟩ := List.mem_map.mp hp
    exact ⟨x, hx, e.symm⟩
  have tfm : ∀ x ∈ tf, ((x, none) : He.Defn) ∈ tf.map fun x => ((x, none) : He.Defn) := fun x hx => List.mem_map.mpr ⟨x, hx, rfl⟩
  refine ⟨fd, tf.map fun x => He.cT K (x, none), fun vs H Q _ => spD K mg 1 F vs H Q E0, fun p hp => ?_, fun p hp => ?_, fun p hp => ?_, hb, fun H a ns hl _ hH hS => ?_, fun base h1 h2 h3 => hF base h1 h2 fun x hx => h3 _ (List.mem_map.mpr ⟨x, hx, rfl⟩)⟩
  · obtain ⟨x, hx, rfl⟩ := ct p hp
    exact c.empty _ (tfm x hx)
  · obtain ⟨x, hx, rfl⟩ := ct p hp
    exact c.out _ (tfm x hx)
  · obtain ⟨x, hx, rfl⟩ := ct p hp
    exact PySem.W.codeHd_of_K KX (c.hd _ (tfm x hx))
  · have hH' : ∀ x ∈ tf, H (He.cT K (x, none)).2 = some (.tbl #[]) := fun x hx => hH _ (List.mem_map.mpr ⟨x, hx, rfl⟩)
    have na : a ∉ tf.map fun x => (He.cT K (x, none)).2 := fun z => by
      obtain ⟨x, hx, e⟩ := List.mem_map.mp z
      have e1 := hH' x hx
      rw [e] at e1
      have e2 := c.out _ (tfm x hx)
      rw [e] at e2
      rcases hS with (q | ⟨o, q⟩) | ⟨o, its, n, q, _⟩
      · rw [e1] at q; cases q
      · rw [e1] at q; cases q
      · rw [e2] at q; cases q
    obtain ⟨h', ea⟩ := an ns hl
    refine ⟨rfl, _, [.frz (ns.map .int)], tf.map .tbl, .cons (.frz (.of hS na) (frz_ints ns)) .nil, start_tabs nd hH', ?_⟩
    rw [ea]
    intro v H' as' _ r _
    cases r
    rfl
end DL

set_option Elab.async false
set_option linter.all false
set_option maxRecDepth 100000
set_option maxHeartbeats 4000000
namespace DL
open PySem PySem.Spec PyProof.Rows L2

/-! ### enumerate(e, start=k) of a tuple -/
section
variable {M : Model} {A : Around} {E : Value → Shared → Prop} {s : Shared} {env : Env}
theorem callWith_typeK {pos : Pos} {T : String} {e : Expr} {rest : List Expr} {kws : List Keyword} {Q : Value → Shared → Prop}
    (hcall : wpAny M A (spliced (backTo pos (starEach (e :: rest) env))) (fun vs s1 => wpAny M A (evalAll ((backToKw pos (keywordEach kws env)).map (·.2))) (fun ks s2 => wpAny M A (call (.type T) vs (((backToKw pos (keywordEach kws env)).filterMap (·.1)).zip ks)) Q E s2) E s1) E s)
    (hf : backTo pos (starEach (e :: rest) env) = (false, eval e env) :: backTo pos (starEach rest env)) (hp : (backTo pos (starEach (e :: rest) env)).any (·.1) = false)
    (ha : (backToKw pos (keywordEach kws env)).all (·.1.isSome) = true) (hk : (backToKw pos (keywordEach kws env)).any (·.1.isNone) = false) :
    wpAny M A (callWith pos (.type T) [] (backTo pos (starEach (e :: rest) env)) (backToKw pos (keywordEach kws env))) Q E s := by
  have ev : wpAny M A (evalArgs (.type T) true (backTo pos (starEach (e :: rest) env)) (backToKw pos (keywordEach kws env))) (fun ar s1 => wpAny M A (call (.type T) ([] ++ ar.pos) ar.kw) Q E s1) E s := by
    rw [hf] at hcall ⊢
    exact PyProof.Rows.evalArgs_kwB ha hcall
  unfold callWith
  refine wpAny_bind (wpAny_holding (wpAny_mono ev (fun ar s1 h1 => wpAny_bind (wpAny_standAt ?_)) fun _ _ z => z))
  simp only [hp, hk, Bool.or_false]
  refine wpAny_bind (wpAny_pure ?_)
  refine wpAny_bind (wpAny_mono h1 (fun r s2 hr => ?_) fun _ _ z => z)
  exact wpAny_bind (wpAny_holding (wpAny_point (wpAny_pure hr)))
end
def IteTK (K : PySem.W.Frag) (k : Nat) (a : Addr) : It :=
  ⟨fun i H => ∃ (xs : List V) (x : V), SqT K H a xs ∧ xs[i]? = some x, fun i H v H' => ∃ T x, v = .ref T ∧ H T = none ∧ H' = upd H T (.tup [.int ((k + i : Nat) : Int), x]) ∧ ∀ xs, SqT K H a xs → xs[i]? = some x, fun i H => ∃ xs : List V, SqT K H a xs ∧ xs.length = i⟩
theorem turn_enumTK {P : Program} {w : World} {K : PySem.W.Frag} {elts : List Expr} {kk : Nat} {tpos : Pos} (k : Nat) (a e it : Addr) :
    Turn P w K (.Tuple elts kk tpos) (IteTK K k a) [e, it] e (fun i h => (∃ old, IsEnum h e it ((k + i : Nat) : Int) old) ∧ h.IsTupleIter it a i ∧ e ≠ it ∧ a ≠ it ∧ a ≠ e) where
  mem := by simp
  obj := fun i h st b hb => by
    obtain ⟨⟨old, he⟩, ⟨o, ho, hc, hd⟩, _⟩ := st
    have e' : b = e ∨ b = it := by simpa using hb
    rcases e' with z | z
    · rw [z]; exact ⟨_, he, fun v q => nomatch q⟩
    · rw [z]; exact ⟨o, ho, fun v q => by rw [hd] at q; cases q⟩
  keep := fun i h h' st k => let ⟨⟨old, he⟩, hi, hne⟩ := st; ⟨⟨old, k e (by simp) _ he⟩, hi.at fun o q => k it (by simp) o q, hne⟩
  item := by
    intro X hP hw hK hc i pins s σ H E I hf st hg
    subst hP hw hK
    obtain ⟨⟨old, he⟩, hit, hne, hat, hae⟩ := st
    obtain ⟨xs, x, hq, hx⟩ := hg
    obtain ⟨its, rv, p, hz⟩ := I.tuple hq
    obtain ⟨u, hu, ru⟩ := rv.get hx
    have hel : e < s.heap.objs.size := Heap.lt_size he
    have hil : it < s.heap.objs.size := by obtain ⟨_, q, _⟩ := hit; exact Heap.lt_size q
    have D := Draws.tuple (prog := X.prog) (w := X.w) (A := X.A.in1) (I.ok.hd hc) it a hat its.toArray
    have hlt : i < its.toArray.size := by
      have := (List.getElem?_eq_some_iff.mp hu).1
      simpa using this
    refine wpAny_pyNext_enum_itemC D he ⟨hit, p⟩ hlt hne (by simp [hne, Ne.symm hae]) fun x' h' tk hP ho hs' hT hsz hk => ?_
    have ex : x' = u := by
      have q2 : its.toArray[i]? = some u := by simpa using hu
      rw [q2] at hP
      exact (Option.some.inj hP).symm
    subst ex
    refine ⟨_, rfl, wpAny_letOwnedTupleGo_enum (s := { s with heap := h', toks := tk + 1 }) ho fun h'' he' sb => ?_⟩
    have hT2 : h''.get? s.heap.objs.size = some { cls := .type "tuple", data := .seq #[.int ((k + i : Nat) : Int) tk, x'] } := (sb.2 _ (Nat.ne_of_gt hel)).trans hT
    have new : ObjOk X.prog X.w (upd H s.heap.objs.size (.tup [.int ((k + i : Nat) : Int), x])) h'' s.heap.objs.size (.tup [.int ((k + i : Nat) : Int), x]) :=
      ⟨by show 2 ≤ sizeLine; decide, [.int ((k + i : Nat) : Int) tk, x'], .cons ⟨_, rfl⟩ (.cons ru .nil), ⟨_, hT2, rfl, _, rfl⟩⟩
    have I1 : Inv X pins σ (upd H s.heap.objs.size (.tup [.int ((k + i : Nat) : Int), x])) { s with heap := h'', toks := tk + 1 } :=
      I.turnedNew (ch := [e, it]) (fun b ob hb q => (sb.2 b (fun z => hb (by simp [z]))).trans (hk b ob (fun z => hb (by simp [z])) (fun z => hb (by simp [z])) q)) hf (Nat.le_refl _) new
    refine ⟨.ref s.heap.objs.size, _, I1, rfl, ⟨_, x, rfl, I.hok.fresh (Nat.le_refl _), rfl, fun ys hy => by rw [I.tuple_inj hy hq]; exact hx⟩, ⟨⟨x', ?_⟩, hs'.1.at fun o q => (sb.2 it (Ne.symm hne)).trans q, hne, hat, hae⟩, fun b hb => ?_⟩
    · have e1 : ((k + (i + 1) : Nat) : Int) = ((k + i : Nat) : Int) + 1 := by omega
      rw [e1]; exact he'
    · have hb' : b < s.heap.objs.size := by
        have e' : b = e ∨ b = it := by simpa using hb
        rcases e' with z | z
        · rw [z]; exact hel
        · rw [z]; exact hil
      rw [upd_ne (Nat.ne_of_lt hb')]
      exact (hf b hb).1
  done := by
    intro X hP hw hK hc i pins s σ H E I hf st hg
    subst hP hw hK
    obtain ⟨⟨old, he⟩, hit, hne, hat, hae⟩ := st
    obtain ⟨xs, hq, hx⟩ := hg
    obtain ⟨its, rv, p, hz⟩ := I.tuple hq
    obtain ⟨f0, f1, f2, f3, f4, f5⟩ := hf it (by simp)
    have hl := rv.length
    have D := Draws.tuple (prog := X.prog) (w := X.w) (A := X.A.in1) (I.ok.hd hc) it a hat its.toArray
    have hi : i = its.toArray.size := by rw [List.size_toArray]; omega
    subst hi
    exact wpAny_pyNext_enum_endD D he ⟨hit, p⟩ fun h' eb => ⟨rfl, I.turned (t' := s.toks) (fun b o hb q => eb b o hb q) f0 f1 f3 f4 f5⟩
  self := fun A i s Q E st h => let ⟨⟨_, he⟩, _⟩ := st; wpAny_pyIter_enum he h

def iEnumTK (K : PySem.W.Frag) (k : Nat) (ta : TA) : TI := fun σ H R => ta σ H fun vs H1 => ∃ a xs, vs = [.ref a] ∧ SqT K H1 a xs ∧ R (IteTK K k a) H1
theorem pi_enumTK {X : Cx} {e : Expr} {ta : TA} {k j : Nat} {p p3 p4 pos tpos : Pos} {elts : List Expr} {kk : Nat} (hk : k < 1000) (hg : Gl X "enumerate") (hm : X.mg "enumerate" = none) (ha : PA X [e] ta) (hs : starEach [e] X.env = [(false, eval e X.env)] := by rfl) :
    PI X (.Tuple elts kk tpos) (.Call (.Name "enumerate" p) [e] [⟨some "start", .Constant (.int k) j p3, p4⟩] pos) (iEnumTK X.K k ta) := by
  refine ⟨fun pins s σ H R I h => ?_⟩
  refine wpAny_Call_Name_kw (ld_blt I hg hm boot_enumerate (callWith_typeK (thn (ha.run pos pins s σ H _ I h) fun us s1 hx => ?_) (by rw [hs]; rfl) (by rw [hs]; rfl) rfl rfl))
  obtain ⟨vs, H1, I1, r1, a, xs, ex, hq, q⟩ := hx
  subst ex
  refine PyProof.Rows.kws_cons (thn ((pe_int (X := X) (i := (k : Int)) (j := j) (pos := p3)).run pins s1 σ H1 (fun v H2 => v = .int k ∧ H2 = H1) I1 ⟨rfl, rfl⟩) fun u s2 hy => PyProof.Rows.kws_nil ?_)
  obtain ⟨v, H2, I2, rv, rfl, rfl⟩ := hy
  obtain ⟨tk, rfl⟩ := rv
  cases r1 with
  | cons r rr =>
    cases rr
    cases r
    obtain ⟨its, rv, p', hz⟩ := I2.tuple hq
    obtain ⟨o1, ho1, _⟩ := id p'
    have hal : a < s2.heap.objs.size := Heap.lt_size ho1
    have it0 := begins_tuple a its.toArray
    refine enum_begins_start (k := (k : Int)) it0 (show s2.heap.IsTuple a its.toArray from p') (by omega) (by omega) fun h' he hit hsz hk => wpAny_pyIter_enum he ?_
    have I3 : Inv X pins σ H2 { s2 with heap := h' } := I2.kept (t' := s2.toks) hk
    refine ⟨s2.heap.objs.size + 1, [s2.heap.objs.size + 1, s2.heap.objs.size], _, _, H2, rfl, I3, turn_enumTK k a (s2.heap.objs.size + 1) s2.heap.objs.size, ⟨⟨.none, he⟩, ⟨_, hit, rfl, rfl⟩, Nat.succ_ne_self _, Nat.ne_of_lt hal, Nat.ne_of_lt (Nat.lt_succ_of_lt hal)⟩, fun b hb => ?_, q⟩
    have e' : b = s2.heap.objs.size + 1 ∨ b = s2.heap.objs.size := by simpa using hb
    have hle : s2.heap.objs.size ≤ b := by
      rcases e' with z | z
      · rw [z]; exact Nat.le_add_right _ _
      · rw [z]; exact Nat.le_refl _
    exact I2.fpOk hle (I2.hok.fresh hle)
def enumLK (k : Nat) (l : List D) : List D := l.zipIdx.map fun p => .tup [.int ((k + p.2 : Nat) : Int), p.1]
def enumK (k : Nat) : List D → Option Src
  | [.tup l] => some (.its (enumLK k l))
  | _ => none
theorem enumLK_get {k : Nat} {l : List D} {i : Nat} {d : D} (e : (enumLK k l)[i]? = some d) : ∃ x, l[i]? = some x ∧ d = .tup [.int ((k + i : Nat) : Int), x] := by
  unfold enumLK at e
  rw [List.getElem?_map, List.getElem?_zipIdx] at e
  cases q : l[i]? with
  | none => rw [q] at e; cases e
  | some x => rw [q] at e; simp at e; exact ⟨x, rfl, by rw [← e, Int.natCast_add]⟩
section
variable {K : PySem.W.Frag}
theorem walkD_enumTK {k : Nat} {as : List Addr} {H : Hp} {a : Addr} {vs : List V} {ds : List D} (hs : SqT K H a vs) (r : RVs K H as ds vs) : WalkD K as H (IteTK K k a) (.its (enumLK k ds)) := by
  refine ⟨fun i h H1 as1 d g hr e => ?_, fun h H1 as1 g hr e => ⟨vs, sqT_fr g.fr hs, by rw [← r.length]; simp [Src.len, enumLK]⟩⟩
  obtain ⟨x, e1, rfl⟩ := enumLK_get (show (enumLK k ds)[i]? = some d from e)
  obtain ⟨v, e2, r1⟩ := r.get e1
  refine ⟨⟨vs, v, sqT_fr g.fr hs, e2⟩, fun y H2 ⟨T, w, e3, e4, e5, e6⟩ => ?_⟩
  subst e3 e5
  have := e6 vs (sqT_fr g.fr hs)
  rw [e2] at this; cases this
  have sm := same_upd (o := .tup [.int ((k + i : Nat) : Int), v]) e4
  exact ⟨sm, .tup (SqT.of upd_same) (.cons (.int _) (.cons ((r1.grow g).same sm) .nil))⟩
end
section
variable {X : Cx} {W : WX} {e : Expr} {me : M (List D)} {p p3 p4 pos tpos : Pos} {elts : List Expr} {kk : Nat}
theorem di_enumK {k j : Nat} (ha : DA X W [e] me) (hm : X.mg "enumerate" = none) (hk : k < 1000 := by decide) (hg : Gl X "enumerate" := by rfl) (hs : starEach [e] X.env = [(false, eval e X.env)] := by rfl) :
    DI X W (.Tuple elts kk tpos) (.Call (.Name "enumerate" p) [e] [⟨some "start", .Constant (.int k) j p3, p4⟩] pos) (mSrcR (enumK k) me) := by
  refine PI.imp (pi_enumTK hk hg hm ha hs) fun σ H Q ⟨as, ds, h, s, q⟩ => ⟨as, ds, h, s, PostI.bindA q fun xs h1 vs H1 as1 f1 r1 hr1 p1 => ?_⟩
  match xs, vs, r1 with
  | [], _, _ => exact p1.elim
  | _ :: _ :: _, _, _ => exact (by simp [enumK] at p1; exact p1.elim)
  | [x], [v], .cons r .nil =>
    cases x with
    | tup l =>
      cases r with
      | tup h rs => exact ⟨_, _, rfl, h, p1 _ H1 as1 .refl hr1 (walkD_enumTK h rs)⟩
    | _ => exact p1.elim
end
end DL

set_option Elab.async false
set_option linter.all false
set_option maxRecDepth 100000
set_option maxHeartbeats 4000000
namespace DL
open PySem PySem.Spec PyProof.Rows L2

/-! ### dicts that are changed: keys are ints and texts -/
def kEq : D → D → Bool
  | .int a, .int b => a == b
  | .str a, .str b => decide (a = b)
  | _, _ => false
def keyOf : D → Option Key
  | .int i => some (.inl i)
  | .str s => some (.inr s)
  | _ => none
def dfind : List D → List D → D → Option D
  | k :: ks, d :: ds, x => if kEq k x then some d else dfind ks ds x
  | _, _, _ => none
def dupd : List D → List D → D → D → List D
  | k :: ks, d :: ds, x, v => (if kEq k x then v else d) :: dupd ks ds x v
  | _, _, _, _ => []
def dputD (ks ds : List D) (x v : D) : List D × List D := if ks.any (fun k => kEq k x) then (ks, dupd ks ds x v) else (ks ++ [x], ds ++ [v])
theorem keyOf_ok {d : D} {k : Key} (e : keyOf d = some k) : d = kD k := by
  cases d <;> cases e <;> rfl
theorem kEq_kD (a b : Key) : kEq (kD a) (kD b) = decide (a = b) := by
  rcases a with a | a <;> rcases b with b | b
  · show (a == b) = _
    by_cases h : a = b <;> simp [h]
  · show false = _
    simp
  · show false = _
    simp
  · show decide (a = b) = _
    by_cases h : a = b <;> simp [h]
section
variable {K : PySem.W.Frag} {H : Hp} {as : List Addr}
theorem key_rv {d : D} {k : Key} {v : V} (e : keyOf d = some k) (r : RT K H as d v) : v = kV k := by
  cases d with
  | int i => cases e; exact r.int
  | str s => cases e; exact r.str
  | _ => cases e
theorem dfind_ok {k : Key} {d : D} : ∀ {kvs : List (Key × V)} {ds : List D}, RVs K H as ds (kvs.map (·.2)) → dfind (kvs.map fun p => kD p.1) ds (kD k) = some d → ∃ v, valV kvs k = some v ∧ RV K H as d v
  | [], _, _, e => by simp [dfind] at e
  | (k', v') :: kvs, _, .cons r t, e => by
    simp only [List.map_cons, dfind, kEq_kD] at e
    by_cases h : k' = k
    · rw [if_pos (by simp [h])] at e
      cases e
      exact ⟨v', by simp [valV, h], r⟩
    · rw [if_neg (by simp [h])] at e
      obtain ⟨v, e1, r1⟩ := dfind_ok t e
      refine ⟨v, ?_, r1⟩
      unfold valV at e1 ⊢
      rw [List.find?_cons, decide_eq_false (show ¬ k' = k from h)]
      exact e1
theorem any_kD {k : Key} : ∀ kvs : List (Key × V), (kvs.map fun p => kD p.1).any (fun x => kEq x (kD k)) = kvs.any fun kv => decide (kv.1 = k)
  | [] => rfl
  | p :: kvs => by
    simp only [List.map_cons, List.any_cons, kEq_kD, any_kD kvs]
theorem dupd_ok {k : Key} {d : D} {v : V} (r : RV K H as d v) : ∀ {kvs : List (Key × V)} {ds : List D}, RVs K H as ds (kvs.map (·.2)) →
    RVs K H as (dupd (kvs.map fun p => kD p.1) ds (kD k) d) ((kvs.map fun kv => if kv.1 = k then (kv.1, v) else kv).map (·.2))
  | [], _, .nil => .nil
  | (k', v') :: kvs, _, .cons r1 t => by
    simp only [List.map_cons, dupd, kEq_kD]
    refine .cons ?_ (dupd_ok r t)
    by_cases h : k' = k
    · rw [if_pos (by simp [h]), if_pos h]; exact r
    · rw [if_neg (by simp [h]), if_neg h]; exact r1
theorem dput_ok {k : Key} {d : D} {v : V} (r : RV K H as d v) {kvs : List (Key × V)} {ks ds : List D} (e : kvs.map (fun p => kD p.1) = ks) (rs : RVs K H as ds (kvs.map (·.2))) :
    (putK kvs k v).map (fun p => kD p.1) = (dputD ks ds (kD k) d).1 ∧ RVs K H as (dputD ks ds (kD k) d).2 ((putK kvs k v).map (·.2)) := by
  subst e
  unfold dputD putK
  rw [any_kD]
  by_cases h : (kvs.any fun kv => decide (kv.1 = k)) = true
  · rw [if_pos h, if_pos h]
    refine ⟨?_, dupd_ok r rs⟩
    rw [List.map_map]
    refine List.map_congr_left fun p _ => ?_
    show kD (if p.1 = k then (p.1, v) else p).1 = kD p.1
    by_cases z : p.1 = k
    · rw [if_pos z]
    · rw [if_neg z]
  · rw [if_neg h, if_neg h]
    refine ⟨by simp, ?_⟩
    rw [List.map_append]
    exact rs.append (.cons r .nil)
end
/-- {}, to be changed -/
def mDNew : M D := fun _ h => .ok (.loc h.length) (h ++ [.dct [] []])
def dgetD : D → D → Option D
  | .dct ks ds, x => (keyOf x).bind fun _ => dfind ks ds x
  | .dcf ks ds, x => (keyOf x).bind fun _ => dfind ks ds x
  | _, _ => none
abbrev rDG : R2 := fun x y H Q => ∃ a v, x = .ref a ∧ DGet H a y (some v) ∧ Q v H
theorem dget_s {K : PySem.W.Frag} : OpS K dgetD rDG := by
  intro as H x y z v u Q n e r1 r2 k
  have fin : ∀ (a : Addr) (kvs : List (Key × V)) (ks ds : List D), v = .ref a → Rd H a (.dK kvs) → kvs.map (fun p => kD p.1) = ks → RVs K H as ds (kvs.map (·.2)) → ((keyOf y).bind fun _ => dfind ks ds y) = some z → rDG v u H Q := fun a kvs ks ds ev h ek rs e => by
    subst ev ek
    obtain ⟨ky, e1, e2⟩ := Option.bind_eq_some_iff.mp e
    have ey := keyOf_ok e1
    rw [ey] at e2
    obtain ⟨w, e3, r3⟩ := dfind_ok rs e2
    rw [key_rv e1 r2]
    exact ⟨a, w, rfl, .inl ⟨kvs, ky, h, rfl, e3.symm⟩, k w H (Same.refl H) r3⟩
  cases x with
  | dct ks ds =>
    cases r1 with
    | val r => cases r with
      | dct h _ ek rs => exact fin _ _ _ _ rfl (.inl h) ek rs e
    | cell r => cases r with
      | dct h ek rs => exact fin _ _ _ _ rfl (.inl h) ek rs e
  | dcf ks ds =>
    cases r1 with
    | val r => cases r
    | cell r => cases r with
      | dcf h ek rs => exact fin _ _ _ _ rfl (.inr ⟨_, h⟩) ek rs e
  | _ => cases e
/-- d[k] = e, d a cell: the value first -/
def putK1 (n : Nat) (x v : D) (h : Hs) : Option Hs := match h[n]? with
  | some (.dct ks ds) => if ks.length < 16777216 ∧ (keyOf x).isSome then some (h.set n (.dct (dputD ks ds x v).1 (dputD ks ds x v).2)) else none
  | _ => none
theorem putK1_ok {K : PySem.W.Frag} {H : Hp} {as : List Addr} {h h4 : Hs} (r : HeapR K H as h) {n : Nat} {q : Addr} (e : as[n]? = some q) {x y : D} {v u : V} (rx : RT K H as x u) (rv : RV K H as y v) (p : putK1 n x y h = some h4) :
    ∃ kvs k, u = kV k ∧ H q = some (.dK kvs) ∧ kvs.length < sizeLine ∧ Grow as H as (upd H q (.dK (putK kvs k v))) ∧ HeapR K (upd H q (.dK (putK kvs k v))) as h4 := by
  unfold putK1 at p
  obtain ⟨d, e1, cr⟩ := r.get e
  rw [e1] at p
  cases cr with
  | @dct _ kvs ks ds hh ek rs =>
    simp only at p
    by_cases hc : ks.length < 16777216 ∧ (keyOf x).isSome = true
    · rw [if_pos hc] at p
      cases p
      obtain ⟨ky, e2⟩ := Option.isSome_iff_exists.mp hc.2
      have ex := keyOf_ok e2
      obtain ⟨o1, o2⟩ := dput_ok (k := ky) rv ek rs
      obtain ⟨g, hr⟩ := r.writeG (d := .dct (dputD ks ds x y).1 (dputD ks ds x y).2) e (o := .dK (putK kvs ky v)) (fun o z => by rw [hh] at z; cases z; rfl) fun g => .dct upd_same (by rw [o1, ex]) (by rw [ex]; exact o2.grow g)
      exact ⟨kvs, ky, key_rv e2 rx, hh, by rw [sizeLine_eq]; have : kvs.length = ks.length := by rw [← ek]; simp
                                           omega, g, hr⟩
    · rw [if_neg hc] at p; cases p
  | _ => cases p
def sDPutM (mo mi mv : M D) : SM := fun ds h => match mv ds h with
  | .ok y h1 => (match mo ds h1 with
    | .ok (.loc n) h2 => (match mi ds h2 with
      | .ok x h3 => (match putK1 n x y h3 with
        | some h4 => .nx ds h4
        | none => .no)
      | _ => .no)
    | _ => .no)
  | .ex c p h1 => .ex c p ds h1
  | .no => .no
section
variable {X : Cx} {W : WX} {pos p : Pos} {a b e o i : Expr} {ma mb mo mi mv : M D}
theorem de_dnew : DE X W (.Dict [] [] pos) mDNew :=
  PE.imp pe_dnewK fun σ H Q ⟨as, ds, h, s, p⟩ => fun q hq => by
    obtain ⟨g, hr⟩ := s.heap.pushG hq (o := .dK []) (d := .dct [] []) fun g => .dct upd_same rfl .nil
    exact p (.ref q) _ _ g (.loc (by rw [← s.heap.len]; simp)) hr
theorem de_dget {k : Nat} (hr : Room k X.A) (ha : DE X W a ma) (hb : DE X W b mb) (hs : NoSl b := by intro _ _; rfl) : DE X W (.Subscript a b pos) (mBin dgetD ma mb) :=
  PE.imp (pe_dget (by have := hr.units; omega) ha hb hs) fun σ H Q q => op_of_post dget_s q
theorem ds_dput {k : Nat} {pos' : Pos} (hr : Room k X.A) (ho : DE X W o mo) (hi : DE X W i mi) (hv : DE X W e mv) (hs : swapsWith e (some (.Subscript o i pos')) pos.line X.env = pure false := by rfl) : DS X W (.Assign [.Subscript o i pos'] e pos) (sDPutM mo mi mv) :=
  PS.imp (ps_dput (by have := hr.units; omega) ho hi hv hs) fun Dn σ H ⟨as, ds, h, s, q⟩ => by
    refine ⟨as, ds, h, s, ?_⟩
    unfold sDPutM at q
    cases ev : mv ds h with
    | ex c p h1 => rw [ev] at q; exact fun cls dx H' as' g hr x => q σ cls dx H' as' g ⟨s.env.grow g, hr⟩ x
    | no => rw [ev] at q; exact q.elim
    | ok y h1 =>
      rw [ev] at q
      intro v H1 as1 g1 r1 hr1
      simp only at q
      refine ⟨as1, ds, h1, ⟨s.env.grow g1, hr1⟩, ?_⟩
      cases eo : mo ds h1 with
      | ex c p h2 => rw [eo] at q; exact q.elim
      | no => rw [eo] at q; exact q.elim
      | ok x h2 =>
        rw [eo] at q
        intro vo H2 as2 g2 r2 hr2
        refine ⟨as2, ds, h2, ⟨s.env.grow (g1.trans g2), hr2⟩, ?_⟩
        cases x with
        | loc n =>
          simp only at q
          cases ei : mi ds h2 with
          | ex c p h3 => rw [ei] at q; exact q.elim
          | no => rw [ei] at q; exact q.elim
          | ok z h3 =>
            rw [ei] at q
            intro vi H3 as3 g3 r3 hr3
            simp only at q
            cases ep : putK1 n z y h3 with
            | none => rw [ep] at q; exact q.elim
            | some h4 =>
              rw [ep] at q
              cases r2 with
              | @loc _ ad hat =>
                have rz : RT X.K H3 as3 z vi := by
                  cases z with
                  | loc m =>
                    unfold putK1 at ep
                    exfalso
                    split at ep
                    · simp [keyOf] at ep
                    · cases ep
                  | _ => exact .val r3
                obtain ⟨kvs, ky, e1, e2, e3, g4, hr4⟩ := putK1_ok hr3 (pre_get g3.pre hat) rz (r1.grow (g2.trans g3)) ep
                subst e1
                have gg := ((g1.trans g2).trans g3).trans g4
                exact ⟨ad, _, rfl, .inl ⟨kvs, ky, e2, rfl, e3, rfl⟩, q σ _ as3 gg ⟨s.env.grow gg, hr4⟩⟩
        | _ => exact q.elim
end
end DL

set_option Elab.async false
set_option linter.all false
set_option maxRecDepth 100000
set_option maxHeartbeats 4000000
namespace DL
open PySem PySem.Spec PyProof.Rows L2

/-! ### dict comprehensions -/
def endVD (n : Nat) (hh : Hs) : R D := match hh[n]? with
  | some (.dct ks ds) => if bels n ds && bels n (hh.take n) then .ok (.dct ks ds) (hh.take n) else .no
  | _ => .no
def endCD (n : Nat) (hh : Hs) : R D := match hh[n]? with
  | some (.dct _ _) => .ok (.loc n) hh
  | _ => .no
theorem endVD_ok : EndOk endVD := by
  intro K mg W as as' σ H H' D hh Q nD eD g hD hr q
  unfold endVD at q
  obtain ⟨d, e1, cr⟩ := hr.get hD
  rw [e1] at q
  cases cr with
  | @dct _ kvs ks ds hh' ek rs =>
    simp only at q
    cases hb : (bels as.length ds && bels as.length (hh.take as.length)) with
    | false => rw [hb] at q; exact q.elim
    | true =>
      rw [hb] at q
      simp only [if_true] at q
      simp only [Bool.and_eq_true] at hb
      exact q (.ref D) H' as g.back (.dct hh' nD ek (rs.shrink g.pre hb.1)) (hr.back g hb.2)
  | _ => exact q.elim
theorem endCD_ok : EndOk endCD := by
  intro K mg W as as' σ H H' D hh Q nD eD g hD hr q
  unfold endCD at q
  obtain ⟨d, e1, cr⟩ := hr.get hD
  rw [e1] at q
  cases cr with
  | dct hh' ek rs => exact q (.ref D) H' as' g (.loc hD) hr
  | _ => exact q.elim
def dcGo (fin : Nat → Hs → R D) (n : Nat) (ds0 : Ev) (s : Src) (t : Tg) (tt : M Bool) (tk te : M D) : Nat → Nat → Hs → R D
  | 0, _, hh => if srcEnd s hh then fin n hh else .no
  | k + 1, i, hh => match (srcAt s hh i).bind fun x => asgT t x ds0 with
    | none => .no
    | some ds => (tt ds hh).noex.bind fun b h2 => if b then (tk ds h2).noex.bind fun yk h3 => (te ds h3).noex.bind fun y h4 => (match putK1 n yk y h4 with
        | some h5 => dcGo fin n ds0 s t tt tk te k (i + 1) h5
        | none => .no) else dcGo fin n ds0 s t tt tk te k (i + 1) h2
def mDcF (fin : Nat → Hs → R D) (src : M Src) (vs : List Nat) (t : Tg) (tt : M Bool) (tk te : M D) : M D := fun ds h => (src ds h).bind fun s h1 => dcGo fin h1.length (wipeD ds vs) s t tt tk te s.len 0 (h1 ++ [.dct [] []])
abbrev mDc := mDcF endVD
abbrev mDcC := mDcF endCD
section
variable {X : Cx} {W : WX} {pos p : Pos} {a b c e : Expr} {es : List Expr} {ma mb mc mk : M D} {me : M (List D)}
theorem dc_post {fin : Nat → Hs → R D} (hf : EndOk fin) {ms : M Src} {t : Tg} {mt : M Bool} {vs : List Nat} (hsub : ∀ i ∈ t.ns, i ∈ vs) {σ : L2.St} {H0 : Hp} {Q : VK} (q : teM X.K X.mg W (mDcF fin ms vs t mt mk ma) σ H0 Q) :
    tDc (tiM X.K X.mg W ms) (gOf X.K t) (ttM X.K X.mg W0 mt) (teM X.K X.mg W0 mk) (teM X.K X.mg W0 ma) vs σ H0 Q := by
  obtain ⟨as, ds, h, s, q⟩ := q
  refine ⟨as, ds, h, s, ?_⟩
  unfold mDcF at q
  cases es : ms ds h with
  | ex c p h1 => rw [es] at q; exact q
  | no => rw [es] at q; exact q
  | ok sr h1 =>
    rw [es] at q
    intro J H as1 g hr wk D hD
    have q : PostE X.K X.mg W as σ H0 (dcGo fin h1.length (wipeD ds vs) sr t mt mk ma sr.len 0 (h1 ++ [.dct [] []])) Q := q
    have q := PostE.grow g q
    obtain ⟨g2, hr2⟩ := hr.pushG hD (o := .dK []) (d := .dct [] []) fun g => .dct upd_same rfl .nil
    have len : as1.length = h1.length := hr.len
    rw [← len] at q
    generalize hn : as1.length = n at q len
    have hD1 : ∀ as' : List Addr, as1 ++ [D] <+: as' → as'[n]? = some D := fun as' hp => pre_get hp (by rw [← hn]; simp)
    refine ⟨fun i m H' => m + i = sr.len ∧ ∃ hh as', Grow as1 H as' H' ∧ as1 ++ [D] <+: as' ∧ StR X.K H' as' (wipeD ds vs) hh (L2.wipe σ vs) ∧ WalkD X.K as' H' J sr ∧ PostE X.K X.mg W as1 σ H (dcGo fin n (wipeD ds vs) sr t mt mk ma m i hh) Q, ⟨sr.len, rfl, _, _, g2, List.prefix_refl _, ⟨((s.env.grow g).grow g2).wipe vs, hr2⟩, wk.grow g2, q⟩, ?_⟩
    rintro i m H' ⟨hmi, hh, as', g3, pr, s3, wk3, q3⟩
    cases m with
    | zero =>
      refine .inl ?_
      cases ee : srcEnd sr hh with
      | false => simp only [dcGo, ee] at q3; exact q3.elim
      | true =>
        have hi' : i = sr.len := by omega
        subst hi'
        refine ⟨wk3.stop hh H' _ .refl s3.heap ee, ?_⟩
        simp only [dcGo, ee, if_true] at q3
        subst hn
        exact hf _ _ _ _ _ _ _ _ _ _ _ (hr.notin hD) hD g3 (hD1 _ pr) s3.heap q3
    | succ m =>
      refine .inr ?_
      cases eb : (srcAt sr hh i).bind fun x => asgT t x (wipeD ds vs) with
      | none => simp only [dcGo, eb] at q3; exact q3.elim
      | some ds1 =>
        obtain ⟨x, ex, e2⟩ := Option.bind_eq_some_iff.mp eb
        obtain ⟨go, yl⟩ := wk3.go i hh H' _ x .refl s3.heap ex
        refine ⟨go, _, fun H'' w => ⟨m, Nat.lt_succ_self m, w⟩, fun v H2 y => ?_⟩
        obtain ⟨sm, rv⟩ := yl v H2 y
        refine asg_ok t (s3.env.grow (.of_same sm)) (.val rv) e2 fun σ2 s4 wp => ⟨(wp vs hsub).trans (wipe_idem fun _ h => h), ?_⟩
        refine ⟨as', ds1, hh, ⟨s4, s3.heap.same sm⟩, ?_⟩
        simp only [dcGo, eb] at q3
        cases ett : mt ds1 hh with
        | ex c p h2 => rw [ett] at q3; exact q3.elim
        | no => rw [ett] at q3; exact q3.elim
        | ok b h2 =>
          rw [ett] at q3
          simp only [R.noex, R.bind] at q3
          intro H3 as3 g4 hr3
          have gA : Grow as' H' as3 H3 := (Grow.of_same sm).trans g4
          cases b with
          | false =>
            simp only [Bool.false_eq_true, if_false] at q3 ⊢
            exact ⟨by omega, _, as3, g3.trans gA, pr.trans gA.pre, ⟨s3.env.grow gA, hr3⟩, wk3.grow gA, q3⟩
          | true =>
            simp only [if_true] at q3 ⊢
            refine ⟨as3, ds1, h2, ⟨s4.grow g4, hr3⟩, ?_⟩
            cases etk : mk ds1 h2 with
            | ex c p h3 => rw [etk] at q3; exact q3.elim
            | no => rw [etk] at q3; exact q3.elim
            | ok yk h3 =>
              rw [etk] at q3
              simp only [R.noex, R.bind] at q3
              intro vk H4 as4 g5 rk hr4
              refine ⟨as4, ds1, h3, ⟨s4.grow (g4.trans g5), hr4⟩, ?_⟩
              cases ete : ma ds1 h3 with
              | ex c p h4 => rw [ete] at q3; exact q3.elim
              | no => rw [ete] at q3; exact q3.elim
              | ok y h4 =>
                rw [ete] at q3
                simp only [R.noex, R.bind] at q3
                intro v5 H5 as5 g6 r5 hr5
                have gB : Grow as' H' as5 H5 := (gA.trans g5).trans g6
                cases ep : putK1 n yk y h4 with
                | none => rw [ep] at q3; exact q3.elim
                | some h5 =>
                  rw [ep] at q3
                  have rz : RT X.K H5 as5 yk vk := by
                    cases yk with
                    | loc m =>
                      unfold putK1 at ep
                      exfalso
                      split at ep
                      · simp [keyOf] at ep
                      · cases ep
                    | _ => exact .val (rk.grow g6)
                  obtain ⟨kvs, ky, e1, hh', hl, g7, hr7⟩ := putK1_ok hr5 (hD1 _ (pr.trans gB.pre)) rz r5 ep
                  have gC := gB.trans g7
                  exact ⟨kvs, ky, e1, hh', hl, by omega, _, as5, g3.trans gC, pr.trans gC.pre, ⟨s3.env.grow gC, hr7⟩, wk3.grow gC, q3⟩

theorem de_dcF {fin : Nat → Hs → R D} (hf : EndOk fin) {kx vx tg iter : Expr} {ifs : List Expr} {scope : Scope} {own : List (Str × Nat)} {ms : M Src} {t : Tg} {mt : M Bool} (hN : X.N.Nodup) (hi : DI X W tg iter ms) (ok : BlkOk X.N X.env.scope scope own)
    (hg : ∀ (s : Shared) (H : Hp) (C : Addr) (cl : List (Str × Addr)) (fp : List Addr), DG (X.blk s H scope (compEnvC scope cl C X.env) fp) tg t) (ht : ∀ (s : Shared) (H : Hp) (C : Addr) (cl : List (Str × Addr)) (fp : List Addr), DTs (X.blk s H scope (compEnvC scope cl C X.env) fp) ifs mt)
    (hk : ∀ (s : Shared) (H : Hp) (C : Addr) (cl : List (Str × Addr)) (fp : List Addr), DE (X.blk s H scope (compEnvC scope cl C X.env) fp) W0 kx mk)
    (he : ∀ (s : Shared) (H : Hp) (C : Addr) (cl : List (Str × Addr)) (fp : List Addr), DE (X.blk s H scope (compEnvC scope cl C X.env) fp) W0 vx ma) (hsub : ∀ i ∈ t.ns, i ∈ own.map (·.2) := by decide) (hc : X.calm = true := by rfl) (hs : ∀ x, foldedSetIterable iter X.env x = pure x := by intro _; rfl) :
    DE X W (.DictComp kx vx [⟨tg, iter, ifs, 0⟩] scope pos) (mDcF fin ms (own.map (·.2)) t mt mk ma) :=
  PE.imp (pe_dc (wi := tiM X.K X.mg W ms) (g := gOf X.K t) (tt := ttM X.K X.mg W0 mt) (tk := teM X.K X.mg W0 mk) (tv := teM X.K X.mg W0 ma) hc hN hi ok hg ht hk he hs) fun σ H0 Q q => dc_post hf hsub q
end

/-! ### a dict that is walked is locked -/
section
variable {K : PySem.W.Frag} {H : Hp} {as : List Addr} {ad : Addr} {od : Obj} {kvs : List (Key × V)}
theorem unl {b : Addr} {o : HO} (hl : H ad = some (.frz od (.dK kvs))) (h : H b = some o) (n : ∀ o' k', o ≠ .frz o' (.dK k')) : upd H ad (.dK kvs) b = some o := by
  have : b ≠ ad := fun z => by
    subst z
    rw [hl] at h
    exact n od kvs (Option.some.inj h).symm
  rw [upd_ne this]; exact h
mutual
theorem RV.unl (hl : H ad = some (.frz od (.dK kvs))) : ∀ {d : D} {v : V}, RV K H as d v → RV K (upd H ad (.dK kvs)) as d v
  | _, _, .non => .non
  | _, _, .bl b => .bl b
  | _, _, .int i => .int i
  | _, _, .str s => .str s
  | _, _, .ty n => .ty n
  | _, _, .gl n => .gl n
  | _, _, .lam h h2 n n2 => .lam (DL.unl hl h fun _ _ z => nomatch z) (DL.unl hl h2 fun _ _ z => nomatch z) n n2
  | _, _, .loc e => .loc e
  | _, _, .exi h x n y => .exi (DL.unl hl h fun _ _ z => nomatch z) x n fun dx e => let ⟨m, fs, q⟩ := y dx e; ⟨m, fs, DL.unl hl q fun _ _ z => nomatch z⟩
  | _, _, .tup h r => .tup (by
      rcases h with (h | ⟨o, h⟩) | h
      · exact .inl (.inl (DL.unl hl h fun _ _ z => nomatch z))
      · exact .inl (.inr ⟨o, DL.unl hl h fun _ _ z => nomatch z⟩)
      · exact .inr h) (RVs.unl hl r)
  | _, _, .lst h n r => .lst (DL.unl hl h fun _ _ z => nomatch z) n (RVs.unl hl r)
  | _, _, .frz h r => .frz (by
      rcases h with ⟨h | ⟨o, h⟩, n⟩ | h
      · exact .inl ⟨.inl (DL.unl hl h fun _ _ z => nomatch z), n⟩
      · exact .inl ⟨.inr ⟨o, DL.unl hl h fun _ _ z => nomatch z⟩, n⟩
      · exact .inr h) (RVs.unl hl r)
  | _, _, .dct h n e r => .dct (DL.unl hl h fun _ _ z => nomatch z) n e (RVs.unl hl r)
theorem RVs.unl (hl : H ad = some (.frz od (.dK kvs))) : ∀ {d : List D} {v : List V}, RVs K H as d v → RVs K (upd H ad (.dK kvs)) as d v
  | _, _, .nil => .nil
  | _, _, .cons h t => .cons (RV.unl hl h) (RVs.unl hl t)
end
theorem CellR.unl (hl : H ad = some (.frz od (.dK kvs))) {d : D} {a : Addr} (na : a ≠ ad) (r : CellR K H as d a) : CellR K (upd H ad (.dK kvs)) as d a := by
  have keep : ∀ {o : HO}, H a = some o → upd H ad (.dK kvs) a = some o := fun h => by rw [upd_ne na]; exact h
  cases r with
  | lst h r => exact .lst (keep h) (r.unl hl)
  | dct h e r => exact .dct (keep h) e (r.unl hl)
  | dcf h e r => exact .dcf (keep h) e (r.unl hl)
  | fnc h => exact .fnc (keep h)
  | rng h => exact .rng (keep h)
  | tbl ea h t c => exact .tbl ea (keep h) t fun pos cv e => let ⟨c, e1, e2, e3⟩ := c pos cv e; ⟨c, e1, DL.unl hl e2 (fun _ _ z => nomatch z), e3⟩
  | @obj _ dx C vs ds h n r =>
    refine .obj (dx := dx) ⟨DL.unl hl h.1 (fun _ _ z => nomatch z), h.2.1, h.2.2.elim (fun z => .inl (keep z)) fun z => .inr ⟨z.1, keep z.2⟩⟩ n ?_
    exact Paired.mapP r fun d ov z => z.elim .inl fun ⟨v, e, r⟩ => .inr ⟨v, e, r.unl hl⟩
end
def mLock (i : Nat) (m : M D) : M D := fun ds h => match ds[i]? with
  | some (some (.loc n)) => (match h[n]? with
    | some (.dct ks vs) => (m ds (h.set n (.dcf ks vs))).noex.bind fun y h' => (match h'[n]? with
      | some (.dcf ks' vs') => .ok y (h'.set n (.dct ks' vs'))
      | _ => .no)
    | _ => .no)
  | _ => .no
def mKeys (i : Nat) : M Src := fun ds h => match ds[i]? with
  | some (some (.loc n)) => (match h[n]? with
    | some (.dcf ks _) => .ok (.its ks) h
    | _ => .no)
  | _ => .no
section
variable {X : Cx} {W : WX} {e tg : Expr} {m : M D} {pos : Pos}
theorem de_lock {i : Nat} {t : TE} (h : PE X e t) (ht : ∀ σ H Q, teM X.K X.mg W m σ H Q → t σ H Q) : DE X W e (mLock i m) :=
  PE.imp (pe_lock h) fun σ H Q ⟨as, ds, h, s, q⟩ => by
    unfold mLock at q
    split at q
    · rename_i n en
      split at q
      · rename_i ks vs eh
        obtain ⟨v, ev, rv⟩ := s.env.get en
        cases rv with
        | @loc _ ad hat =>
          obtain ⟨c, e1, cr⟩ := s.heap.get hat
          rw [eh] at e1; cases e1
          cases cr with
          | @dct _ kvs _ _ hd ek rs =>
            refine ⟨ad, .dK kvs, hd, True.intro, fun od => ?_⟩
            obtain ⟨g1, hr1⟩ := s.heap.writeG (o := .frz od (.dK kvs)) (d := .dcf ks vs) hat (fun o z => by rw [hd] at z; cases z; rfl) fun g => .dcf upd_same ek (rs.grow g)
            refine ht σ _ _ ⟨as, ds, _, ⟨s.env.grow g1, hr1⟩, ?_⟩
            cases em : m ds (h.set n (.dcf ks vs)) with
            | no => rw [em] at q; exact q.elim
            | ex c p h' => rw [em] at q; exact q.elim
            | ok y h' =>
              rw [em] at q
              intro v' H' as' g r hr
              have ham : ad ∈ as := List.mem_of_getElem? hat
              have hl : H' ad = some (.frz od (.dK kvs)) := g.fr ad _ upd_same rfl fun _ => rfl
              refine ⟨hl, ?_⟩
              have q : PostE X.K X.mg W as σ H (match h'[n]? with | some (.dcf ks' vs') => .ok y (h'.set n (.dct ks' vs')) | _ => .no) Q := q
              have hat' := pre_get g.pre hat
              obtain ⟨c', e1', cr'⟩ := hr.get hat'
              rw [e1'] at q
              cases cr' with
              | @dcf _ o2 kvs2 ks2 vs2 h2 ek2 rs2 =>
                rw [hl] at h2
                cases h2
                refine q v' _ as' ⟨g.pre, fun a ha => (g.new a ha).elim .inl fun z => ?_, fun b o hb ht hc => ?_⟩ (r.unl hl) ⟨by simp [hr.len], hr.nd, fun m2 d a x1 x2 => ?_⟩
                · by_cases za : a = ad
                  · exact .inl (za ▸ ham)
                  · refine .inr fun o ho => z o ?_
                    rw [upd_ne za]; exact ho
                · have nb : b ≠ ad := fun z => by
                    subst z
                    rw [hd] at hb; cases hb
                    exact nomatch hc ham
                  rw [upd_ne nb]
                  exact g.fr b o (by rw [upd_ne nb]; exact hb) ht hc
                · by_cases hm : n = m2
                  · subst hm
                    rw [hat'] at x2; cases x2
                    have hl' : n < h'.length := (List.getElem?_eq_some_iff.mp e1').1
                    rw [List.getElem?_set_self hl'] at x1
                    cases x1
                    exact .dct upd_same ek2 (rs2.unl hl)
                  · rw [List.getElem?_set_ne hm] at x1
                    exact (hr.at_ m2 d a x1 x2).unl hl fun z => hm (nodup_at hr.nd hat' (z ▸ x2))
              | _ => exact q.elim
      · exact q.elim
    · exact q.elim
theorem di_keys {i : Nat} (ha : DE X W e (mVar i)) : DI X W tg e (mKeys i) := by
  refine PI.imp (pi_keys ha) fun σ H Q ⟨as, ds, h, s, q⟩ => ⟨as, ds, h, s, ?_⟩
  unfold mKeys at q
  unfold mVar
  split at q
  · rename_i n en
    split at q
    · rename_i ks vs eh
      rw [en]
      intro v H1 as1 g r hr
      cases r with
      | @loc _ ad hat =>
        obtain ⟨c, e1, cr⟩ := hr.get hat
        rw [eh] at e1; cases e1
        cases cr with
        | @dcf _ o kvs _ _ hd ek rs =>
          subst ek
          refine ⟨ad, o, rfl, .inl ⟨kvs, hd, q _ H1 as1 g hr ⟨fun i h2 H2 as2 d g2 hr2 e2 => ?_, fun h2 H2 as2 g2 hr2 e2 => ?_⟩⟩⟩
          · have e2 : (kvs.map fun p => kD p.1)[i]? = some d := e2
            rw [List.getElem?_map] at e2
            cases ek : kvs[i]? with
            | none => rw [ek] at e2; cases e2
            | some p =>
              rw [ek] at e2; cases e2
              refine ⟨⟨g2.fr _ _ hd rfl fun _ => rfl, (List.getElem?_eq_some_iff.mp ek).1⟩, fun x H3 ⟨e3, k, v, e4, e5⟩ => ?_⟩
              subst e3 e5
              rw [ek] at e4; cases e4
              refine ⟨Same.refl _, ?_⟩
              cases k with
              | inl i => exact .int i
              | inr s => exact .str s
          · exact ⟨g2.fr _ _ hd rfl fun _ => rfl, by show kvs.length ≤ (kvs.map fun p => kD p.1).length; simp⟩
    · exact q.elim
  · exact q.elim
end
end DL

set_option Elab.async false
set_option linter.all false
set_option maxRecDepth 100000
set_option maxHeartbeats 4000000
namespace DL
open PySem PySem.Spec PyProof.Rows L2

/-! ### instances with slots -/
def tyNs : List String := ["NoneType", "bool", "int", "str", "tuple", "list", "dict", "type"]
structure ObjC (K : PySem.W.Frag) (C : Addr) : Prop where
  sc : L2.SCls K C
  gc : PySem.W.plainGet K C "__class__" = true
  ca : PySem.W.findIn K (.ref C) "__class__" = some (some (.builtin "object.__class__"))
  cn : PySem.W.specialIn K (.builtin "object.__class__") "__get__" = some (some (.builtin "getset_descriptor.__get__"))
  ct : PySem.W.takesIn K (.builtin "object.__class__") = some true
  cm : PySem.W.mroIn K C (.type "object") = some true
  own : PySem.W.kitOne K (.ref C) (.ref C) = some true
  no : ∀ t ∈ tyNs, PySem.W.kitOne K (.type t) (.ref C) = some false
def objB (C : Str) (K : PySem.W.Frag) : Bool := let a := He.ga K C
  (PySem.W.plainGet K a Str.empty && PySem.W.isClsIn K a && PySem.W.plainOver K a && decide (PySem.W.findIn K (.ref a) "__setattr__" = some (some (.builtin "object.__setattr__")))) &&
  (PySem.W.plainGet K a "__class__" && decide (PySem.W.findIn K (.ref a) "__class__" = some (some (.builtin "object.__class__"))) && decide (PySem.W.specialIn K (.builtin "object.__class__") "__get__" = some (some (.builtin "getset_descriptor.__get__"))) && decide (PySem.W.takesIn K (.builtin "object.__class__") = some true)) &&
  (decide (PySem.W.mroIn K a (.type "object") = some true) && decide (PySem.W.kitOne K (.ref a) (.ref a) = some true) && tyNs.all fun t => decide (PySem.W.kitOne K (.type t) (.ref a) = some false))
theorem objB_ok {C : Str} {K : PySem.W.Frag} (h : objB C K = true) : ObjC K (He.ga K C) := by
  simp only [objB, Bool.and_eq_true, List.all_eq_true, decide_eq_true_eq] at h
  obtain ⟨⟨⟨⟨⟨a1, a2⟩, a3⟩, a4⟩, ⟨⟨b1, b2⟩, b3⟩, b4⟩, ⟨c1, c2⟩, c3⟩ := h
  exact ⟨⟨a1, a2, a3, a4⟩, b1, b2, b3, b4, c1, c2, c3⟩
def sltB (C f : Str) (i : Nat) (K : PySem.W.Frag) : Bool := let a := He.ga K C; let p := He.ma K a f
  decide (PySem.W.findIn K (.ref a) f = some (some (.ref p))) && decide (PySem.W.specialIn K (.ref p) "__get__" = some (some (.builtin "member_descriptor.__get__"))) && decide (PySem.W.takesIn K (.ref p) = some true) &&
  (decide (PySem.W.slotIn K p a = some i) && decide (PySem.W.typeIn K (.ref p) = some (.type "member_descriptor")) && decide (i < 1000))
theorem sltB_ok {C f : Str} {i : Nat} {K : PySem.W.Frag} (h : sltB C f i K = true) : L2.Slt K (He.ga K C) f i (He.ma K (He.ga K C) f) := by
  simp only [sltB, Bool.and_eq_true, decide_eq_true_eq] at h
  obtain ⟨⟨⟨a1, a2⟩, a3⟩, ⟨b1, b2⟩, b3⟩ := h
  exact ⟨a1, a2, a3, b1, b2, b3⟩
def fldAt (fs : List D) (i : Nat) : Option D := match fs[i]? with
  | some .uns => none
  | r => r
def putD (i : Nat) (y : D) (fs : List D) : List D := (fs ++ List.replicate (i + 1 - fs.length) D.uns).set i y
section
variable {K : PySem.W.Frag} {H H' : Hp} {as as' : List Addr}
theorem RFs.len : ∀ {fs : List D} {vs : List (Option V)}, RFs K H as fs vs → fs.length = vs.length
  | _, _, .nil => rfl
  | _, _, .cons _ t => by simp [RFs.len t]
theorem RFs.get : ∀ {fs : List D} {vs : List (Option V)} {i : Nat} {d : D}, RFs K H as fs vs → fldAt fs i = some d → ∃ v, vs[i]? = some (some v) ∧ RV K H as d v
  | _, _, _, _, .nil, e => by simp [fldAt] at e
  | _, _, 0, d, .cons (a := x) h _, e => by
    rcases h with h | ⟨v, h1, h2⟩
    · subst h; simp [fldAt] at e
    · subst h1
      have : x = d := by
        cases x <;> simp [fldAt] at e <;> exact e
      subst this
      exact ⟨v, rfl, h2⟩
  | _, _, i + 1, d, .cons _ t, e => by
    obtain ⟨v, h1, h2⟩ := RFs.get (i := i) (d := d) t (by simpa [fldAt] using e)
    exact ⟨v, by simpa using h1, h2⟩
theorem RFs.set {d : D} {v : V} (r : RV K H as d v) : ∀ {fs : List D} {vs : List (Option V)} (n : Nat), RFs K H as fs vs → RFs K H as (fs.set n d) (vs.set n (some v))
  | _, _, _, .nil => .nil
  | _, _, 0, .cons _ t => .cons (.inr ⟨v, rfl, r⟩) t
  | _, _, n + 1, .cons h t => .cons h (RFs.set r n t)
theorem RFs.append : ∀ {fs gs : List D} {vs us : List (Option V)}, RFs K H as fs vs → RFs K H as gs us → RFs K H as (fs ++ gs) (vs ++ us)
  | _, _, _, _, .nil, r => r
  | _, _, _, _, .cons h t, r => .cons h (RFs.append t r)
theorem RFs.uns : ∀ n : Nat, RFs K H as (List.replicate n D.uns) (List.replicate n none)
  | 0 => .nil
  | n + 1 => .cons (.inl rfl) (RFs.uns n)
theorem RFs.put {d : D} {v : V} {fs : List D} {vs : List (Option V)} (i : Nat) (r : RV K H as d v) (q : RFs K H as fs vs) : RFs K H as (putD i d fs) (putS i v vs) := by
  unfold putD putS
  rw [q.len]
  exact RFs.set r i (q.append (.uns _))
theorem slAt_notT {a C dx : Addr} {vs : List (Option V)} (h : SlAt H a C dx vs) : ∀ o, H a = some o → isT o = false := fun o e => by
  rcases h.2.2 with z | z
  · rw [z] at e; cases e; rfl
  · rw [z.2] at e; cases e; rfl
/-- a variable is stored -/
theorem HeapR.putF {h : Hs} {n : Nat} {a dx : Addr} {C : Str} {vs : List (Option V)} {fs : List D} {d : D} {v : V} {i : Nat} (r : HeapR K H as h) (e : as[n]? = some a) (sl : SlAt H a (He.ga K C) dx vs) (nd : dx ∉ as) (rf : RFs K H as fs vs) (rv : RV K H as d v) :
    Grow as H as (upd H a (SlO (He.ga K C) dx a (putS i v vs))) ∧ HeapR K (upd H a (SlO (He.ga K C) dx a (putS i v vs))) as (h.set n (.obj C (putD i d fs))) :=
  r.writeG e (slAt_notT sl) fun g => .obj (SlAt.here sl) nd ((RFs.grow g rf).put i (RV.grow g rv))
end
/-- e.f -/
def objAt (C : Str) (h : Hs) : D → Option (Nat × List D)
  | .loc n => (match h[n]? with
    | some (.obj C' fs) => if C' = C then some (n, fs) else none
    | _ => none)
  | _ => none
def mSlot (C : Str) (i : Nat) (ma : M D) : M D := fun ds h => (ma ds h).bind fun x h1 => match (objAt C h1 x).bind fun p => fldAt p.2 i with
  | some d => .ok d h1
  | none => .no
theorem objAt_ok {K : PySem.W.Frag} {H : Hp} {as : List Addr} {C : Str} {h : Hs} {x : D} {v : V} {n : Nat} {fs : List D} (hr : HeapR K H as h) (r : RD K H as x v) (e : objAt C h x = some (n, fs)) :
    ∃ a dx vs, x = .loc n ∧ v = .ref a ∧ as[n]? = some a ∧ h[n]? = some (.obj C fs) ∧ SlAt H a (He.ga K C) dx vs ∧ dx ∉ as ∧ RFs K H as fs vs := by
  unfold objAt at e
  split at e
  · rename_i m
    split at e
    · rename_i C' gs eg
      split at e
      · rename_i hC
        subst hC
        simp only [Option.some.injEq, Prod.mk.injEq] at e
        obtain ⟨rfl, rfl⟩ := e
        cases r with
        | loc ea =>
          cases hr.at_ _ _ _ eg ea with
          | obj sl nd rf => exact ⟨_, _, _, rfl, rfl, ea, eg, sl, nd, rf⟩
      · cases e
    · cases e
  · cases e
def sSlotP (C : Str) (i : Nat) (mo mv : M D) : SM := fun ds h => match mv ds h with
  | .ok y h1 => (match mo ds h1 with
    | .ok x h2 => (match objAt C h2 x with
      | some (n, fs) => .nx ds (h2.set n (.obj C (putD i y fs)))
      | none => .no)
    | _ => .no)
  | .ex c p h1 => .ex c p ds h1
  | .no => .no
/-- x.f, x.g, .. = a tuple -/
def putsD (fs : List D) : List (Nat × D) → List D
  | [] => fs
  | (i, y) :: r => putsD (putD i y fs) r
def sSlots (C : Str) (j : Nat) (is : List Nat) (mv : M D) : SM := fun ds h => match mv ds h with
  | .ok (.tup ys) h1 => (match ds[j]? with
    | some (some x) => (match objAt C h1 x with
      | some (n, fs) => if ys.length = is.length then .nx ds (h1.set n (.obj C (putsD fs (is.zip ys)))) else .no
      | none => .no)
    | _ => .no)
  | .ex c p h1 => .ex c p ds h1
  | _ => .no
section
variable {X : Cx} {W : WX} {pos pos' p1 p2 : Pos} {e o value : Expr} {ma mo mv : M D} {f C : Str} {i : Nat} {p : Addr}
theorem de_slot (c : ObjC X.K (He.ga X.K C)) (k : L2.Slt X.K (He.ga X.K C) f i p) (ha : DE X W e ma) (hb : attributeBase e f X.env (eval e X.env) = eval e X.env := by rfl) : DE X W (.Attribute e f pos) (mSlot C i ma) :=
  PE.imp (pe_slot c.sc k ha hb) fun σ H Q ⟨as, ds, h, s, q⟩ => ⟨as, ds, h, s, PostE.bindE q fun x h1 v H1 as1 g r1 hr p1 => by
    cases eo : objAt C h1 x with
    | none => rw [eo] at p1; exact p1.elim
    | some nf =>
      obtain ⟨n, fs⟩ := nf
      rw [eo] at p1
      simp only [Option.bind_some] at p1
      cases ef : fldAt fs i with
      | none => rw [ef] at p1; exact p1.elim
      | some d =>
        rw [ef] at p1
        obtain ⟨a, dx, vs, e1, e2, ea, eh, sl, nd, rf⟩ := objAt_ok hr r1 eo
        obtain ⟨u, hu, ru⟩ := rf.get ef
        exact ⟨a, dx, vs, u, e2, sl, hu, p1 u H1 as1 .refl ru hr⟩⟩
theorem ds_slot (c : ObjC X.K (He.ga X.K C)) (k : L2.Slt X.K (He.ga X.K C) f i p) (ha : DE X W o mo) (hv : DE X W value mv) (hs : swapsWith value (some (.Attribute o f pos')) pos.line X.env = pure false := by rfl) :
    DS X W (.Assign [.Attribute o f pos'] value pos) (sSlotP C i mo mv) :=
  PS.imp (ps_slot c.sc k ha hv hs) fun Dn σ H ⟨as, ds, h, s, q⟩ => ⟨as, ds, h, s, by
    unfold sSlotP at q
    cases em : mv ds h with
    | no => rw [em] at q; exact q.elim
    | ex c p h1 => rw [em] at q; exact fun cls dx H' as' g hr x => q σ cls dx H' as' g ⟨s.env.grow g, hr⟩ x
    | ok y h1 =>
      rw [em] at q
      intro v H1 as1 g1 r1 hr1
      refine ⟨as1, ds, h1, ⟨s.env.grow g1, hr1⟩, ?_⟩
      simp only at q
      cases eo : mo ds h1 with
      | no => rw [eo] at q; exact q.elim
      | ex c p h2 => rw [eo] at q; exact q.elim
      | ok x h2 =>
        rw [eo] at q
        simp only at q
        intro w H2 as2 g2 r2 hr2
        cases ej : objAt C h2 x with
        | none => rw [ej] at q; exact q.elim
        | some nf =>
          obtain ⟨n, fs⟩ := nf
          rw [ej] at q
          obtain ⟨a, dx, vs, e1, e2, ea, eh, sl, nd, rf⟩ := objAt_ok hr2 r2 ej
          obtain ⟨g3, hr3⟩ := hr2.putF (i := i) ea sl nd rf (RV.grow g2 r1)
          exact ⟨a, dx, vs, e2, sl, q σ _ as2 (g1.trans (g2.trans g3)) ⟨s.env.grow (g1.trans (g2.trans g3)), hr3⟩⟩⟩
/-! ### (x.f, x.g, ..) = a tuple -/
/-- the reading: the object's name is slot j -/
def gSl (K : PySem.W.Frag) (C : Str) (j : Nat) (is : List Nat) : TGs := fun vs σ H Q => ∃ as ds h x n fs ys, StR K H as ds h σ ∧ ds[j]? = some (some x) ∧ objAt C h x = some (n, fs) ∧ RDs K H as ys vs ∧ ys.length = is.length ∧
  ∀ H' as', Grow as H as' H' → StR K H' as' ds (h.set n (.obj C (putsD fs (is.zip ys)))) σ → Q σ H'
/-- targets that are variables of the one object -/
inductive SlT (X : Cx) (C : Str) (j : Nat) : List Expr → List Nat → Prop
  | nil : SlT X C j [] []
  | cons {o : Expr} {f : Str} {i : Nat} {p : Addr} {pos : Pos} {ts : List Expr} {is : List Nat} (k : L2.Slt X.K (He.ga X.K C) f i p) (hv : PE X o (tVar j)) (hs : (assignEach (.Attribute o f pos :: ts) X.env).map (·.2) = assign (.Attribute o f pos) X.env :: (assignEach ts X.env).map (·.2)) (r : SlT X C j ts is) :
      SlT X C j (.Attribute o f pos :: ts) (i :: is)
theorem pgs_sl (c : ObjC X.K (He.ga X.K C)) {j : Nat} : ∀ {ts : List Expr} {is : List Nat}, SlT X C j ts is → PGs X ts (gSl X.K C j is)
  | _, _, .nil => by
    refine ⟨fun pins s σ H vs us Q I r h => ?_⟩
    obtain ⟨as, ds, h, x, n, fs, ys, st, e1, e2, ry, hl, q⟩ := h
    cases ys with
    | cons _ _ => cases hl
    | nil =>
      cases ry
      cases r
      obtain ⟨a, dx, ws, ex, ev, ea, eh, sl, nd, rf⟩ := objAt_ok st.heap (st.env.get e1).choose_spec.2 e2
      have hset : h.set n (.obj C (putsD fs ([].zip []))) = h := by
        obtain ⟨hn, eg⟩ := List.getElem?_eq_some_iff.mp eh
        show h.set n (.obj C fs) = h
        rw [← eg, List.set_getElem_self]
      exact assignInOrder_nil ⟨σ, H, I, q H as .refl (by rw [hset]; exact st)⟩
  | _, _, .cons (o := o) (f := f) (i := i) (pos := pos) k hv hs rest => by
    refine ⟨fun pins s σ H vs us Q I r h => ?_⟩
    obtain ⟨as, ds, h, x, n, fs, ys, st, e1, e2, ry, hl, q⟩ := h
    cases ry with
    | nil => cases hl
    | cons r0 ry =>
      rename_i y v ys vs
      cases r with
      | cons ru rr =>
        rename_i u us
        rw [hs]
        obtain ⟨a, dx, ws, ex, ev, ea, eh, sl, nd, rf⟩ := objAt_ok st.heap (st.env.get e1).choose_spec.2 e2
        obtain ⟨g3, hr3⟩ := st.heap.putF (i := i) ea sl nd rf r0
        refine assignInOrder_cons ?_
        rw [assign_Attribute]
        refine wpAny_bind (wpAny_holding (thn (hv.run pins s σ H (fun z H1 => z = .ref a ∧ H1 = H) I ?_) fun ov s1 hx => ?_))
        · obtain ⟨z, ez, rz⟩ := st.env.get e1
          subst ex
          cases rz with
          | loc e =>
            rw [ea] at e; cases e
            exact ⟨_, ez, rfl, rfl⟩
        · obtain ⟨z, H1, I1, rz, rfl, rfl⟩ := hx
          cases (show ov = Value.ref a from rz)
          refine wpAny_bind (wpAny_standAt (wpAny_bind (wpAny_holding (setslot_ok I1 sl c.sc k ru fun s2 I2 => ?_))))
          refine wpAny_release ?_
          refine (pgs_sl c rest).run pins s2 σ _ vs us Q I2 rr ⟨as, ds, _, x, n, putD i y fs, ys, ⟨st.env.grow g3, hr3⟩, e1, ?_, RDs.grow g3 ry, by simpa using hl, fun H' as' g st' => ?_⟩
          · subst ex
            simp only [objAt, List.getElem?_set_self (List.getElem?_eq_some_iff.mp eh).1, if_true]
          · refine q H' as' (g3.trans g) ?_
            rw [List.set_set] at st'
            exact st'
theorem ds_slots (c : ObjC X.K (He.ga X.K C)) {j k : Nat} {ts : List Expr} {is : List Nat} (hc : X.calm = true) (hl : ts.length = is.length) (hT : SlT X C j ts is) (hv : DE X W value mv) (hn : (assignEach ts X.env).length = is.length := by rfl) (hst : (assignEach ts X.env).findIdx? (·.1) = none := by rfl)
    (hs : swapsWithSole [.Tuple ts k p1] value pos.line X.env = pure false := by rfl) (hw : swappedStores [.Tuple ts k p1] value X.env = pure none := by rfl) (h1 : (assignEach [.Tuple ts k p1] X.env).map (·.2) = [assign (.Tuple ts k p1) X.env] := by rfl) :
    DS X W (.Assign [.Tuple ts k p1] value pos) (sSlots C j is mv) :=
  PS.imp (ps_asg hv (pg_tup hc (pgs_sl c hT) hn hst) hs hw h1) fun Dn σ H ⟨as, ds, h, s, q⟩ => ⟨as, ds, h, s, by
    unfold sSlots at q
    cases em : mv ds h with
    | no => rw [em] at q; exact q.elim
    | ex c p h1 => rw [em] at q; exact fun cls dx H' as' g hr x => q σ cls dx H' as' g ⟨s.env.grow g, hr⟩ x
    | ok y h1 =>
      rw [em] at q
      intro v H1 as1 g1 r1 hr1
      cases y with
      | tup ys =>
        simp only at q
        cases ej : ds[j]? with
        | none => rw [ej] at q; exact q.elim
        | some oj =>
          rw [ej] at q
          cases oj with
          | none => exact q.elim
          | some x =>
            simp only at q
            cases eo : objAt C h1 x with
            | none => rw [eo] at q; exact q.elim
            | some nf =>
              obtain ⟨n, fs⟩ := nf
              rw [eo] at q
              simp only at q
              by_cases hn : ys.length = is.length
              · rw [if_pos hn] at q
                cases r1 with
                | tup hq rs => exact ⟨_, _, rfl, hq, by rw [← rs.length]; exact hn, as1, ds, h1, x, n, fs, ys, ⟨s.env.grow g1, hr1⟩, ej, eo, rs.rds, hn, fun H' as' g st => q σ H' as' (g1.trans g) st⟩
              · rw [if_neg hn] at q; exact q.elim
      | _ => exact q.elim⟩
end
/-! ### making one -/
def mMake (np : Nat) (C : Str) (F : List D → Hs → R D) (me : M (List D)) : M D := fun ds h => (me ds h).bind fun xs h1 => if xs.length + 1 = np then (match F (.loc h1.length :: xs) (h1 ++ [.obj C []]) with
  | .ok .non h2 => .ok (.loc h1.length) h2
  | .ex c p h2 => .ex c p h2
  | _ => .no) else .no
/-- the class's __init__ -/
structure MD (P : Program) (w : World) (K : PySem.W.Frag) (mg : Str → Option Value) (base : Heap) (k : Nat) (C : Str) (np : Nat) (F : List D → Hs → R D) : Prop where
  ex : ∃ f fd ps, mg C = some (.ref (He.ga K C)) ∧ Mk K (He.ga K C) f ∧ Binds K fd ps [] ∧ FnOk P w K mg base (L2.CX P w) k f fd ps (spD K mg np F)
section
variable {X : Cx} {W : WX} {pos p : Pos} {e : Expr} {es : List Expr} {me : M (List D)} {C : Str}
theorem run_makeSD {CX : CXT} {k : Nat} {a f : Addr} {fd : FuncData} {ps : List Str} {sp : Sp} {E : XK} {pins : List (Addr × Obj)} {σ : L2.St} {H : Hp} {s : Shared} {Q : VK} {us : List Value} {vs : List V} (M : Mk X.K a f) (F : FnOk X.prog X.w X.K X.mg X.base CX k f fd ps sp) (hr : Room (k + 1) X.A) (hb : Binds X.K fd ps [])
    (hx : PassesAt CX X σ E) (I : Inv X pins σ H s) (r : Vals vs us)
    (h : ∀ x dx, H x = none → H dx = none → dx ≠ x → sp (.ref x :: vs) (upd (upd H dx (.own x)) x (.ins a dx [])) (fun v H2 => v = .non ∧ Q (.ref x) H2) E) :
    wpAny (model X.prog X.w) X.A (call (.ref a) us) (EP X pins σ Q) X.xe s := by
  have want := h (s.heap.objs.size + 1) s.heap.objs.size (I.hok.fresh (Nat.le_succ _)) (I.hok.fresh (Nat.le_refl _)) (Nat.ne_of_lt (Nat.lt_succ_self _))
  have J := Inv.made (C := a) I
  have rr : Vals (V.ref (s.heap.objs.size + 1) :: vs) (Value.ref (s.heap.objs.size + 1) :: us) := .cons rfl r
  have len : (Value.ref (s.heap.objs.size + 1) :: us).length = ps.length := (rr.length.symm.trans (F.len _ _ _ _ want))
  have bnd := hb _ (Value.ref (s.heap.objs.size + 1) :: us) J.kIn (by rw [List.append_nil]; exact len)
  rw [List.append_nil] at bnd
  refine wpAny_call (make_map (f := f) I.kIn M.makes M.init (beq_iff_eq.mp M.fn) (codeAny_mono (F.run _ X.stack _ _ ⟨_, []⟩ _ _ _ E (hr.make a us []) (J.env0.make a us []) bnd rr want) fun r s' hq => ?_))
  cases r with
  | error e => exact hx pins _ _ e s' J hq
  | ok fl =>
    cases fl with
    | ret u =>
      obtain ⟨v, H', I3, rv, rfl, q3⟩ := J.after hq
      exact ⟨rv, ⟨V.ref _, H', I3, rfl, q3⟩⟩
    | next => exact hq.elim
    | brk => exact hq.elim
    | cont => exact hq.elim
theorem de_make {k np : Nat} {F : List D → Hs → R D} (G : MD X.prog X.w X.K X.mg X.base k C np F) (hr : Room (k + 1) X.A) (tk : Takes X W) (ha : DA X W (e :: es) me) (hg : Gl X C := by rfl) (hdb : (C == ("__debug__" : Str)) = false := by decide)
    (he : starEach (e :: es) X.env = (false, eval e X.env) :: starEach es X.env := by rfl) (hpl : (backTo pos (starEach es X.env)).any (·.1) = false := by rfl) : DE X W (.Call (.Name C p) (e :: es) [] pos) (mMake np C F me) := by
  obtain ⟨f, fd, ps, hm, M, hb, ok⟩ := G.ex
  refine ⟨fun pins s σ H Q I ⟨as, ds, h, st, q⟩ => ?_⟩
  refine wpAny_Call_Name_kw (ld_glob I hg hm ?_ hdb)
  have args := ha.run pos pins s σ H (fun vs H1 => ∀ x dx, H1 x = none → H1 dx = none → dx ≠ x → spD X.K X.mg np F (.ref x :: vs) (upd (upd H1 dx (.own x)) x (.ins (He.ga X.K C) dx [])) (fun v H2 => v = .non ∧ Q (.ref x) H2) (WE W σ)) I ⟨as, ds, h, st, PostE.bindA q fun xs h1 vs H1 as1 f1 r1 hr1 p1 x dx hx hdx hne => by
    by_cases hn : xs.length + 1 = np
    · rw [if_pos hn] at p1
      have s1 : Same H1 (upd H1 dx (.own x)) := same_upd hdx
      have hx2 : (upd H1 dx (.own x)) x = none := by rw [upd_ne (Ne.symm hne)]; exact hx
      have g1 : Grow as1 H1 as1 (upd H1 dx (.own x)) := .of_same s1
      obtain ⟨g2, hr2⟩ := (hr1.same s1).pushG (q := x) (o := .ins (He.ga X.K C) dx []) (d := .obj C []) hx2 fun g => .obj (SlAt.made hne) (fun z => by
        rcases List.mem_append.mp z with z | z
        · exact hr1.notin hdx z
        · exact hne (List.mem_singleton.mp z)) .nil
      have gg := g1.trans g2
      refine ⟨by simp [← r1.length, hn], as1 ++ [x], .loc h1.length :: xs, _, .cons (.loc (by rw [← hr1.len]; simp)) (r1.grow gg), hr2, ?_⟩
      have p2 := PostE.grow gg p1
      cases eF : F (.loc h1.length :: xs) (h1 ++ [.obj C []]) with
      | no => rw [eF] at p2; exact p2.elim
      | ex c p h2 => rw [eF] at p2; exact fun cls d H' as' g hr x => p2 cls d H' as' g hr x
      | ok d h2 =>
        rw [eF] at p2
        cases d with
        | non =>
          intro v H' as' g r hr
          cases r
          exact ⟨rfl, p2 (.ref x) H' as' g (.loc (pre_get g.pre (by rw [← hr1.len]; simp))) hr⟩
        | _ => exact p2.elim
    · rw [if_neg hn] at p1; exact p1.elim⟩
  refine PySem.W.callWith_K (h₀ := X.base) I.ok.mod.kin M.kp (thn args fun us s1 ⟨vs, H1, I1, r, q⟩ => ⟨I1.kIn, ?_⟩) he hpl
  exact run_makeSD M ok hr hb (passAt tk σ) I1 r q
end
/-! ### isinstance(x, C) -/
def isiO (C : Str) (h : Hs) (x : D) : Option Bool := match rd h x with
  | .obj C' _ => if C' = C then some true else none
  | d => (tyN d).map fun _ => false
def mIsiO (C : Str) (me : M (List D)) : M D := fun ds h => (me ds h).bind fun xs h1 => match xs with
  | [x, .gl y] => if y = C then (match isiO C h1 x with
    | some b => .ok (.bl b) h1
    | none => .no) else .no
  | _ => .no
section
variable {X : Cx} {W : WX} {pos p : Pos} {e : Expr} {es : List Expr} {me : M (List D)} {C : Str}
theorem call_isiS {a : Addr} (c : ObjC X.K a) : CallR X (.builtin "isinstance") (fun xs H Q => rIsi X.K xs H Q ∨ ∃ x dx vs, xs = [.ref x, .ref a] ∧ SlAt H x a dx vs ∧ Q (.bl true) H) := by
  intro pins s σ H xs us Q I r h
  rcases h with h | ⟨x, dx, vs, rfl, sl, q⟩
  · exact call_isi pins s σ H xs us Q I r h
  · obtain ⟨u1, u2, rfl, r1, r2⟩ := vals2 r
    cases (show u1 = Value.ref x from r1)
    cases (show u2 = Value.ref a from r2)
    obtain ⟨us, od, rr, hx, J⟩ := slAt_get I sl
    exact PySem.W.kia_one (OwX.kitx_slt c.sc.ic c.gc c.ca c.cn c.ct c.cm) I.kIn J c.own (fun z => nomatch z) fun tk => ⟨.bl true, H, I.tok _, rfl, q⟩
theorem de_isiO (c : ObjC X.K (He.ga X.K C)) (hm : X.mg "isinstance" = none) (ha : DA X W (e :: es) me) (hg : Gl X "isinstance" := by rfl)
    (he : starEach (e :: es) X.env = (false, eval e X.env) :: starEach es X.env := by rfl) (hpl : (backTo pos (starEach es X.env)).any (·.1) = false := by rfl) : DE X W (.Call (.Name "isinstance" p) (e :: es) [] pos) (mIsiO C me) :=
  PE.imp (pe_callB (call_isiS c) hg hm (by decide +kernel) ha (by decide) (by decide) he hpl) fun σ H Q ⟨as, ds, h, s, q⟩ => ⟨as, ds, h, s, PostE.bindA q fun xs h1 vs H1 as1 f1 r1 hr1 p1 => by
    match xs, vs, r1 with
    | [], _, _ => exact p1.elim
    | [_], _, _ => exact p1.elim
    | _ :: _ :: _ :: _, _, _ => simp only at p1; exact p1.elim
    | [x, z], _, .cons (b := v) rx (.cons rz .nil) =>
      cases rz with
      | gl y =>
        simp only at p1
        by_cases hy : y = C
        · subst hy
          rw [if_pos rfl] at p1
          cases ei : isiO y h1 x with
          | none => rw [ei] at p1; exact p1.elim
          | some b =>
            rw [ei] at p1
            have rt := RV.rt rx hr1
            unfold isiO at ei
            have fin := p1 (.bl b) H1 as1 .refl (.bl b) hr1
            generalize ed : rd h1 x = d at ei rt
            have other : ∀ t, tyN d = some t → b = false → rIsi X.K [v, .ref (He.ga X.K y)] H1 Q := fun t et eb => by
              subst eb
              exact ⟨v, _, .type t, _, false, rfl, .own _, rt.tyx et, c.no t (List.mem_append_left ["type"] (tyN_mem et)), fin⟩
            cases d with
            | obj C' fs =>
              simp only at ei
              split at ei
              · rename_i hC
                subst hC
                cases ei
                cases rt with
                | cell cr =>
                  cases cr with
                  | obj sl nd rf => exact .inr ⟨_, _, _, rfl, sl, fin⟩
                | val rv => cases rv
              · cases ei
            | _ =>
              simp only [Option.map_eq_some_iff] at ei
              obtain ⟨t, et, eb⟩ := ei
              exact .inl (other t et eb.symm)
        · rw [if_neg hy] at p1; exact p1.elim
      | _ => exact p1.elim⟩
end
end DL

set_option Elab.async false
set_option linter.all false
set_option maxRecDepth 100000
set_option maxHeartbeats 4000000
namespace DL
open PySem PySem.Spec PyProof.Rows L2

/-! ### [e for t in s if c for t1 in s1 if c1] -/
def inGo (n : Nat) (ds1 : Ev) (s : Src) (t : Tg) (tt : M Bool) (te : M D) : Nat → Nat → Hs → Option Hs
  | 0, _, hh => if srcEnd s hh then some hh else none
  | k + 1, j, hh => match (srcAt s hh j).bind fun x => asgT t x ds1 with
    | none => none
    | some ds => match tt ds hh with
      | .ok b h2 => if b then (match te ds h2 with
          | .ok y h3 => (match pushAt n y h3 with
            | some h4 => inGo n ds1 s t tt te k (j + 1) h4
            | none => none)
          | _ => none) else inGo n ds1 s t tt te k (j + 1) h2
      | _ => none
def lcGo2 (fin : Nat → Hs → R D) (n : Nat) (ds0 : Ev) (s : Src) (t : Tg) (tt : M Bool) (ms1 : M Src) (vs1 : List Nat) (t1 : Tg) (tt1 : M Bool) (te : M D) : Nat → Nat → Hs → R D
  | 0, _, hh => if srcEnd s hh then fin n hh else .no
  | k + 1, i, hh => match (srcAt s hh i).bind fun x => asgT t x ds0 with
    | none => .no
    | some ds => match tt ds hh with
      | .ok b h2 => if b then (match ms1 ds h2 with
          | .ok s1 h3 => (match inGo n (wipeD ds vs1) s1 t1 tt1 te s1.len 0 h3 with
            | some h4 => lcGo2 fin n ds0 s t tt ms1 vs1 t1 tt1 te k (i + 1) h4
            | none => .no)
          | _ => .no) else lcGo2 fin n ds0 s t tt ms1 vs1 t1 tt1 te k (i + 1) h2
      | _ => .no
def mLc2F (fin : Nat → Hs → R D) (src : M Src) (vs : List Nat) (t : Tg) (tt : M Bool) (ms1 : M Src) (vs1 : List Nat) (t1 : Tg) (tt1 : M Bool) (te : M D) : M D := fun ds h => (src ds h).bind fun s h1 => lcGo2 fin h1.length (wipeD ds vs) s t tt ms1 vs1 t1 tt1 te s.len 0 (h1 ++ [.lst []])
section
variable {X : Cx} {W : WX} {pos p : Pos} {ma : M D}
theorem lc2_post {fin : Nat → Hs → R D} (hf : EndOk fin) {ms ms1 : M Src} {t t1 : Tg} {mt mt1 : M Bool} {vs vs1 : List Nat} (hsub : ∀ i ∈ t.ns, i ∈ vs) (hsub1 : ∀ i ∈ t1.ns, i ∈ vs1) {σ : L2.St} {H0 : Hp} {Q : VK} (q : teM X.K X.mg W (mLc2F fin ms vs t mt ms1 vs1 t1 mt1 ma) σ H0 Q) :
    tLc2 (tiM X.K X.mg W ms) (gOf X.K t) (ttM X.K X.mg W0 mt) (tiM X.K X.mg W0 ms1) (gOf X.K t1) (ttM X.K X.mg W0 mt1) (teM X.K X.mg W0 ma) vs vs1 σ H0 Q := by
  obtain ⟨as, ds, h, s, q⟩ := q
  refine ⟨as, ds, h, s, ?_⟩
  unfold mLc2F at q
  cases es : ms ds h with
  | ex c p h1 => rw [es] at q; exact q
  | no => rw [es] at q; exact q
  | ok sr h1 =>
    rw [es] at q
    intro J H as1 g hr wk D hD
    have q : PostE X.K X.mg W as σ H0 (lcGo2 fin h1.length (wipeD ds vs) sr t mt ms1 vs1 t1 mt1 ma sr.len 0 (h1 ++ [.lst []])) Q := q
    have q := PostE.grow g q
    obtain ⟨g2, hr2⟩ := hr.push hD (vs := []) (ds := []) .nil
    have len : as1.length = h1.length := hr.len
    rw [← len] at q
    generalize hn : as1.length = n at q len
    have hD1 : ∀ as' : List Addr, as1 ++ [D] <+: as' → as'[n]? = some D := fun as' hp => pre_get hp (by rw [← hn]; simp)
    have env0 : EvR X.K H as1 (wipeD ds vs) (L2.wipe σ vs) := (s.env.grow g).wipe vs
    refine ⟨fun i m H' => m + i = sr.len ∧ ∃ hh as', Grow as1 H as' H' ∧ as1 ++ [D] <+: as' ∧ HeapR X.K H' as' hh ∧ PostE X.K X.mg W as1 σ H (lcGo2 fin n (wipeD ds vs) sr t mt ms1 vs1 t1 mt1 ma m i hh) Q, ⟨sr.len, rfl, _, _, g2, List.prefix_refl _, hr2, q⟩, ?_⟩
    rintro i m H' ⟨hmi, hh, as', g3, pr, s3, q3⟩
    have wk3 := wk.grow g3
    cases m with
    | zero =>
      refine .inl ?_
      cases ee : srcEnd sr hh with
      | false => simp only [lcGo2, ee] at q3; exact q3.elim
      | true =>
        have hi' : i = sr.len := by omega
        subst hi'
        refine ⟨wk3.stop hh H' _ .refl s3 ee, ?_⟩
        simp only [lcGo2, ee, if_true] at q3
        subst hn
        exact hf _ _ _ _ _ _ _ _ _ _ _ (hr.notin hD) hD g3 (hD1 _ pr) s3 q3
    | succ m =>
      refine .inr ?_
      cases eb : (srcAt sr hh i).bind fun x => asgT t x (wipeD ds vs) with
      | none => simp only [lcGo2, eb] at q3; exact q3.elim
      | some ds1 =>
        obtain ⟨x, ex, e2⟩ := Option.bind_eq_some_iff.mp eb
        obtain ⟨go, yl⟩ := wk3.go i hh H' _ x .refl s3 ex
        refine ⟨go, _, fun H'' w => ⟨m, Nat.lt_succ_self m, w⟩, fun v H2 y => ?_⟩
        obtain ⟨sm, rv⟩ := yl v H2 y
        refine asg_ok t ((env0.grow g3).grow (.of_same sm)) (.val rv) e2 fun σ2 s4 wp => ⟨(wp vs hsub).trans (wipe_idem fun _ h => h), ?_⟩
        refine ⟨as', ds1, hh, ⟨s4, s3.same sm⟩, ?_⟩
        simp only [lcGo2, eb] at q3
        cases ett : mt ds1 hh with
        | ex c p h2 => rw [ett] at q3; exact q3.elim
        | no => rw [ett] at q3; exact q3.elim
        | ok b h2 =>
          rw [ett] at q3
          simp only at q3
          intro H3 as3 g4 hr3
          have gA : Grow as' H' as3 H3 := (Grow.of_same sm).trans g4
          cases b with
          | false =>
            simp only [Bool.false_eq_true, if_false] at q3 ⊢
            exact ⟨by omega, _, as3, g3.trans gA, pr.trans gA.pre, hr3, q3⟩
          | true =>
            simp only [if_true] at q3 ⊢
            refine ⟨as3, ds1, h2, ⟨s4.grow g4, hr3⟩, ?_⟩
            cases e1 : ms1 ds1 h2 with
            | ex c p h3 => rw [e1] at q3; exact q3.elim
            | no => rw [e1] at q3; exact q3.elim
            | ok s1 h3 =>
              rw [e1] at q3
              simp only at q3
              intro J1 H4 as4 g5 hr4 wk1
              have gB : Grow as' H' as4 H4 := gA.trans g5
              have envI : EvR X.K H4 as4 (wipeD ds1 vs1) (L2.wipe σ2 vs1) := ((s4.grow g4).grow g5).wipe vs1
              cases ei : inGo n (wipeD ds1 vs1) s1 t1 mt1 ma s1.len 0 h3 with
              | none => rw [ei] at q3; exact q3.elim
              | some hE =>
                rw [ei] at q3
                simp only at q3
                refine ⟨fun j k H' => k + j = s1.len ∧ ∃ hh as', Grow as4 H4 as' H' ∧ HeapR X.K H' as' hh ∧ inGo n (wipeD ds1 vs1) s1 t1 mt1 ma k j hh = some hE, ⟨s1.len, rfl, h3, as4, .refl, hr4, ei⟩, ?_⟩
                rintro j k H5 ⟨hkj, hh5, as5, g6, hr5, e5⟩
                have wk5 := wk1.grow g6
                cases k with
                | zero =>
                  refine .inl ?_
                  cases ee : srcEnd s1 hh5 with
                  | false => simp only [inGo, ee] at e5; cases e5
                  | true =>
                    have hj : j = s1.len := by omega
                    subst hj
                    simp only [inGo, ee, if_true, Option.some.injEq] at e5
                    subst e5
                    have gC := gB.trans g6
                    exact ⟨wk5.stop hh5 H5 _ .refl hr5 ee, by omega, hh5, as5, g3.trans gC, pr.trans gC.pre, hr5, q3⟩
                | succ k =>
                  refine .inr ?_
                  cases eb5 : (srcAt s1 hh5 j).bind fun x => asgT t1 x (wipeD ds1 vs1) with
                  | none => simp only [inGo, eb5] at e5; cases e5
                  | some ds5 =>
                    obtain ⟨x5, ex5, e25⟩ := Option.bind_eq_some_iff.mp eb5
                    obtain ⟨go5, yl5⟩ := wk5.go j hh5 H5 _ x5 .refl hr5 ex5
                    refine ⟨go5, _, fun H'' w => ⟨k, Nat.lt_succ_self k, w⟩, fun v5 H6 y5 => ?_⟩
                    obtain ⟨sm5, rv5⟩ := yl5 v5 H6 y5
                    refine asg_ok t1 ((envI.grow g6).grow (.of_same sm5)) (.val rv5) e25 fun σ5 s5 wp5 => ⟨(wp5 vs1 hsub1).trans (wipe_idem fun _ h => h), ?_⟩
                    refine ⟨as5, ds5, hh5, ⟨s5, hr5.same sm5⟩, ?_⟩
                    simp only [inGo, eb5] at e5
                    cases ett5 : mt1 ds5 hh5 with
                    | ex c p h2 => rw [ett5] at e5; cases e5
                    | no => rw [ett5] at e5; cases e5
                    | ok b h6 =>
                      rw [ett5] at e5
                      simp only at e5
                      intro H7 as7 g7 hr7
                      have gD : Grow as4 H4 as7 H7 := g6.trans ((Grow.of_same sm5).trans g7)
                      cases b with
                      | false =>
                        simp only [Bool.false_eq_true, if_false] at e5 ⊢
                        exact ⟨by omega, _, as7, gD, hr7, e5⟩
                      | true =>
                        simp only [if_true] at e5 ⊢
                        refine ⟨as7, ds5, h6, ⟨s5.grow g7, hr7⟩, ?_⟩
                        cases ete : ma ds5 h6 with
                        | ex c p h8 => rw [ete] at e5; cases e5
                        | no => rw [ete] at e5; cases e5
                        | ok y h8 =>
                          rw [ete] at e5
                          simp only at e5
                          intro v8 H8 as8 g8 r8 hr8
                          cases ep : pushAt n y h8 with
                          | none => rw [ep] at e5; cases e5
                          | some h9 =>
                            rw [ep] at e5
                            have gE := gD.trans g8
                            obtain ⟨accV, hh', hl, g9, hr9⟩ := pushAt_ok hr8 (hD1 _ (pr.trans (gB.trans gE).pre)) r8 ep
                            exact ⟨accV, hh', hl, by omega, _, as8, gE.trans g9, hr9, e5⟩
theorem de_lc2F {fin : Nat → Hs → R D} (hf : EndOk fin) {elt tg iter tg1 iter1 : Expr} {ifs ifs1 : List Expr} {scope : Scope} {own : List (Str × Nat)} {vs1 : List Nat} {ms ms1 : M Src} {t t1 : Tg} {mt mt1 : M Bool} (hN : X.N.Nodup) (hi : DI X W tg iter ms) (ok : BlkOk X.N X.env.scope scope own)
    (hg : ∀ (s : Shared) (H : Hp) (C : Addr) (cl : List (Str × Addr)) (fp : List Addr), DG (X.blk s H scope (compEnvC scope cl C X.env) fp) tg t) (ht : ∀ (s : Shared) (H : Hp) (C : Addr) (cl : List (Str × Addr)) (fp : List Addr), DTs (X.blk s H scope (compEnvC scope cl C X.env) fp) ifs mt)
    (hi1 : ∀ (s : Shared) (H : Hp) (C : Addr) (cl : List (Str × Addr)) (fp : List Addr), DI (X.blk s H scope (compEnvC scope cl C X.env) fp) W0 tg1 iter1 ms1)
    (hg1 : ∀ (s : Shared) (H : Hp) (C : Addr) (cl : List (Str × Addr)) (fp : List Addr), DG (X.blk s H scope (compEnvC scope cl C X.env) fp) tg1 t1) (ht1 : ∀ (s : Shared) (H : Hp) (C : Addr) (cl : List (Str × Addr)) (fp : List Addr), DTs (X.blk s H scope (compEnvC scope cl C X.env) fp) ifs1 mt1)
    (he : ∀ (s : Shared) (H : Hp) (C : Addr) (cl : List (Str × Addr)) (fp : List Addr), DE (X.blk s H scope (compEnvC scope cl C X.env) fp) W0 elt ma) (hsub : ∀ i ∈ t.ns, i ∈ own.map (·.2) := by decide) (hsub1 : ∀ i ∈ t1.ns, i ∈ vs1 := by decide) (hv : ∀ i ∈ vs1, i ∈ own.map (·.2) := by decide)
    (hc : X.calm = true := by rfl) (hs : ∀ x, foldedSetIterable iter X.env x = pure x := by intro _; rfl) (hs1 : ∀ env x, foldedSetIterable iter1 env x = pure x := by intro _ _; rfl) :
    DE X W (.ListComp elt [⟨tg, iter, ifs, 0⟩, ⟨tg1, iter1, ifs1, 0⟩] scope pos) (mLc2F fin ms (own.map (·.2)) t mt ms1 vs1 t1 mt1 ma) :=
  PE.imp (pe_lc2 (wi := tiM X.K X.mg W ms) (g := gOf X.K t) (tt := ttM X.K X.mg W0 mt) (wi1 := tiM X.K X.mg W0 ms1) (g1 := gOf X.K t1) (tt1 := ttM X.K X.mg W0 mt1) (te := teM X.K X.mg W0 ma) hc hN hi ok hv hg ht hi1 hg1 ht1 he hs hs1) fun σ H0 Q q => lc2_post hf hsub hsub1 q
theorem ds_lc2F {fin : Nat → Hs → R D} (hf : EndOk fin) {i : Nat} {y : Str} {py : Pos} {elt tg iter tg1 iter1 : Expr} {ifs ifs1 : List Expr} {scope : Scope} {own : List (Str × Nat)} {vs1 : List Nat} {spos : Pos} {ms ms1 : M Src} {t t1 : Tg} {mt mt1 : M Bool} (hN : X.N.Nodup) (hy : X.N[i]? = some y) (hyl : X.env.scope.names.lookup y = some .local)
    (hsw : swapsWith (.ListComp elt [⟨tg, iter, ifs, 0⟩, ⟨tg1, iter1, ifs1, 0⟩] scope pos) (some (.Name y py)) spos.line X.env = pure true) (hi : DI X W tg iter ms) (ok : BlkOk X.N X.env.scope scope own)
    (hg : ∀ (s : Shared) (H : Hp) (C : Addr) (cl : List (Str × Addr)) (fp : List Addr), DG (X.blk s H scope (compEnvC scope cl C X.env) fp) tg t) (ht : ∀ (s : Shared) (H : Hp) (C : Addr) (cl : List (Str × Addr)) (fp : List Addr), DTs (X.blk s H scope (compEnvC scope cl C X.env) fp) ifs mt)
    (hi1 : ∀ (s : Shared) (H : Hp) (C : Addr) (cl : List (Str × Addr)) (fp : List Addr), DI (X.blk s H scope (compEnvC scope cl C X.env) fp) W0 tg1 iter1 ms1)
    (hg1 : ∀ (s : Shared) (H : Hp) (C : Addr) (cl : List (Str × Addr)) (fp : List Addr), DG (X.blk s H scope (compEnvC scope cl C X.env) fp) tg1 t1) (ht1 : ∀ (s : Shared) (H : Hp) (C : Addr) (cl : List (Str × Addr)) (fp : List Addr), DTs (X.blk s H scope (compEnvC scope cl C X.env) fp) ifs1 mt1)
    (he : ∀ (s : Shared) (H : Hp) (C : Addr) (cl : List (Str × Addr)) (fp : List Addr), DE (X.blk s H scope (compEnvC scope cl C X.env) fp) W0 elt ma) (hsub : ∀ i ∈ t.ns, i ∈ own.map (·.2) := by decide) (hsub1 : ∀ i ∈ t1.ns, i ∈ vs1 := by decide) (hv : ∀ i ∈ vs1, i ∈ own.map (·.2) := by decide)
    (hc : X.calm = true := by rfl) (hs : ∀ x, foldedSetIterable iter X.env x = pure x := by intro _; rfl) (hs1 : ∀ env x, foldedSetIterable iter1 env x = pure x := by intro _ _; rfl) :
    DS X W (.Assign [.Name y py] (.ListComp elt [⟨tg, iter, ifs, 0⟩, ⟨tg1, iter1, ifs1, 0⟩] scope pos) spos) (sAsg (.nm i) (mLc2F fin ms (own.map (·.2)) t mt ms1 vs1 t1 mt1 ma)) :=
  PS.imp (ps_setLc2 (wi := tiM X.K X.mg W ms) (g := gOf X.K t) (tt := ttM X.K X.mg W0 mt) (wi1 := tiM X.K X.mg W0 ms1) (g1 := gOf X.K t1) (tt1 := ttM X.K X.mg W0 mt1) (te := teM X.K X.mg W0 ma) hc hN hy hyl hsw hi ok hv hg ht hi1 hg1 ht1 he hs hs1) fun Dn σ H q => by
    have := asg_core q
    simp only [gOf] at this
    exact lc2_post hf hsub hsub1 this
end
end DL

set_option Elab.async false
set_option linter.all false
set_option maxRecDepth 100000
set_option maxHeartbeats 4000000
namespace DL
open PySem PySem.Spec PySem.W PySem.Calls PyProof.Rows

/-! ### super().__init__(x); self.f = x -/
/-- what is asked of the built-in class B from which an error's class comes: the call of the class, B's own __init__ by super() -/
structure ExBase (B i newId : String) (bmB : List Value) : Prop where
  co : ∀ {prog : Program} {w : World} {A : Around} {R : Result → Shared → Prop} {h : Heap} {g : Array GenState} {d : Drawn} {t : Nat} {os : OsState} {nm q : Str} {C N : Addr} {bs bm : List Value} {hdct : Bool} {sn : List Str} {sub : List Value} {ab : Bool} {col : Option Bool} {dd : Option Addr} {k0 k1 k2 k3 k5 : Option Value},
    (∀ X : String, bm.contains (.type X) = bmB.contains (.type X)) → ∀ {rest : List Value} {fI : Addr}, h.get? C = some (excClassObj nm q C N bs bm hdct sn sub ab col dd k0 k1 k2 k3 k5 newId) →
    Looks (model prog w) h (typeLookup (.ref C) "__init__") (some (.ref fI)) → (∀ self, Looks (model prog w) h (bindSpecial (.ref fI) self) (.ref fI, [self])) → rest.length ≤ sizeLine →
    codeAny (model prog w) (A.under (.builtin "type.__call__" ⟨.ref C :: rest, []⟩)) (.call (.ref fI) ⟨.ref (h.objs.size + 1) :: rest, []⟩) (InitBack (h.objs.size + 1) R) ⟨(h.push (kdv_tup rest)).push (PySem.HandSPX.excO C h.objs.size), g, d, t, os⟩ →
    codeAny (model prog w) A (.call (.ref C) ⟨rest, []⟩) R ⟨h, g, d, t, os⟩
  kc : ∀ {prog : Program} {w : World} {A : Around} {E : Value → Shared → Prop} {s : Shared} {h₀ : Heap} {L : Addr} {m : Str → Option Value} {news : List (Addr × Obj)} {K : Frag} {x C u : Addr} {t : Addr} {dv : Option Addr} {c2 : Value} {rest : List Value} {nw : Obj → List (Addr × Obj)} {Q : Value → Shared → Prop},
    PyProof.Rows.Fr h₀ L s.heap m → K.In h₀ → News h₀ L s.heap news → excInitIn K C bmB newId = true → (u, kxs_mw i x) ∈ news → UpdF x (excObj C t dv c2) news nw → rest.length ≤ sizeLine →
    (∀ t' h', PyProof.Rows.Fr h₀ L h' m → News h₀ L h' ((t', excTup rest) :: nw (excObj C t' dv c2)) → (∀ p ∈ news, p.1 < t') → Q .none { s with heap := h' }) → wpAny (model prog w) A (call (.ref u) rest) Q E s
theorem exBase_of {B i newId : String} {bmB : List Value} (F : ExcBaseFacts B newId i bmB) : ExBase B i newId bmB :=
  ⟨fun hT _ _ hC hi hb hr hq => PySem.HandSPX.call_own F hT hC hi hb hr hq, fun F1 X N q hm U hz h => kxs_call F1 X N F q hm U hz h⟩
section
variable {prog : Program} {w : World} {A : Around} {K : Frag} {R : Result → Shared → Prop} {hB h : Heap} {g : Array GenState} {d : Drawn} {t : Nat} {os : OsState}
variable {C e t0 fI cc cda : Addr} {fld y qual : Str} {B i newId : String} {bmB : List Value} {params : Arguments} {scope : Scope} {dV kV doc pm ct oc ccl cl u : Value} {an od cdd cld : Option Addr} {osl ccs csl : Array (Option Value)} {vs : Array Value} {file : Str} {tf : Tok} {mg mb : Str → Option Value}
  {p0 p1 p2 p3 p4 p5 p6 p7 p8 p9 : Pos} {ar : Arg} {cdD : ClassData}
def initBody (fld y : Str) (p0 p1 p2 p3 p4 p5 p6 p7 p8 p9 : Pos) : List Stmt :=
  [.Expr (.Call (.Attribute (.Call (.Name "super" p0) [] [] p1) "__init__" p2) [.Name y p3] [] p4) p5, .Assign [.Attribute (.Name "self" p6) fld p7] (.Name y p8) p9]
theorem ns1_one {h : Heap} {a : Addr} {f : Str} {k : Int} {tk : Tok} {v : Value} {n : Nat} (e : h.get? a = some (dictOf [⟨k, .str f tk, v⟩] n)) : h.Ns1 a (fun y => if y = f then some v else none) := by
  refine ⟨_, _, _, e, rfl, ?_, ?_, fun name => ?_⟩
  · intro x hx
    simp at hx
    subst hx
    exact ⟨f, tk, rfl⟩
  · exact List.pairwise_singleton _ _
  · by_cases hn : name = f
    · subst hn
      simp [nsFind, findBy, Value.isStr]
    · have hb : (f == name) = false := by simpa using fun z => hn z.symm
      simp [nsFind, findBy, Value.isStr, hb, hn]
theorem init_walk (X : K.In hB) (up : ∀ b o, hB.get? b = some o → h.get? b = some o) (hsz : hB.objs.size ≤ h.objs.size) (ge : hB.get? e = none) (he : h.get? e = some (excObj C t0 none .none)) (hlt : hB.objs.size ≤ e)
    (FB : ExBase B i newId bmB) (KF : KxsFacts B i) (SF : StoreFacts B bmB "object.__setattr__" "object")
    (hg : hB.Ns mainGlobals mg) (hb : hB.Ns builtinsNs mb) (hsup : mg "super" = none) (hbs : mb "super" = some (.type "super")) (hlim : hB.NoLimit) (hroom : A.depth < recursionLimit)
    (ho : K.lookup fI = some ⟨oc, od, .func (fnX "__init__" qual params (initBody fld y p0 p1 p2 p3 p4 p5 p6 p7 p8 p9) scope [("__class__", cc)] dV kV doc pm an (.ref cda) ct), osl⟩)
    (hcd : codeIn K (.ref cda) qual = true) (hcode : K.lookup cda = some ⟨ccl, cdd, .fields vs, ccs⟩) (hvs : vs[2]? = some (.str file tf)) (hfile : ((prog.main.file : Str) == file) = true)
    (hcell : K.lookup cc = some ⟨cl, cld, .cell (some (.ref C)), csl⟩) (hD : clsIn K C = some cdD) (hsub : mroIn K C (.ref C) = some true)
    (hbind : ∀ s : Shared, BindsTo s (fnX "__init__" qual params (initBody fld y p0 p1 p2 p3 p4 p5 p6 p7 p8 p9) scope [("__class__", cc)] dV kV doc pm an (.ref cda) ct) ⟨[.ref e, u], []⟩ [("self", .ref e), (y, u)])
    (hp : (params.posonlyargs ++ params.args).head? = some ar) (har : ar.arg = "self") (hy : ("self" : Str) ≠ y)
    (hks : scope.names.lookup ("super" : Str) = some .globalImplicit) (hkc : scope.names.lookup ("__class__" : Str) = some .free) (hka : scope.names.lookup ("self" : Str) = some .local) (hky : scope.names.lookup y = some .local)
    (hnc : ∀ x ∈ scope.names, x.2 ≠ .cell) (hco : scope.isCoroutine = false) (hgen : scope.isGenerator = false) (hk : scope.kind = .function) (hdy : (y == ("__debug__" : Str)) = false)
    (hint : ∀ L, interactive (callEnv (fnX "__init__" qual params (initBody fld y p0 p1 p2 p3 p4 p5 p6 p7 p8 p9) scope [("__class__", cc)] dV kV doc pm an (.ref cda) ct) L fI) = false)
    (hev : ∀ L, ∃ pl, eval (.Call (.Attribute (.Call (.Name "super" p0) [] [] p1) "__init__" p2) [.Name y p3] [] p4) (callEnv (fnX "__init__" qual params (initBody fld y p0 p1 p2 p3 p4 p5 p6 p7 p8 p9) scope [("__class__", cc)] dV kV doc pm an (.ref cda) ct) L fI) = (do
      let ov ← attributeBase (.Call (.Name "super" p0) [] [] p1) "__init__" (callEnv (fnX "__init__" qual params (initBody fld y p0 p1 p2 p3 p4 p5 p6 p7 p8 p9) scope [("__class__", cc)] dV kV doc pm an (.ref cda) ct) L fI) (eval (.Call (.Name "super" p0) [] [] p1) (callEnv (fnX "__init__" qual params (initBody fld y p0 p1 p2 p3 p4 p5 p6 p7 p8 p9) scope [("__class__", cc)] dV kV doc pm an (.ref cda) ct) L fI))
      standAt p2.atName
      let (f, first) ← holding [ov] (getMethod ov "__init__" pl)
      callWith p4 f first (backTo p4 (starEach [.Name y p3] (callEnv (fnX "__init__" qual params (initBody fld y p0 p1 p2 p3 p4 p5 p6 p7 p8 p9) scope [("__class__", cc)] dV kV doc pm an (.ref cda) ct) L fI))) []))
    (htop : (prog.main.scope.names.lookup ("super" : Str)).isSome = false)
    (hop : nsIn K cStatics "thirdparty.any" = some none) (hm : ks_superIn K C C "__init__" = some (some (.builtin i))) (hB2 : subIn K (.ref C) (.type B) = some true) (hini : excInitIn K C bmB newId = true)
    (hs : findIn K (.ref C) "__setattr__" = some (some (.builtin "object.__setattr__"))) (hov : excOver K C bmB = true) (ht : takerIn K C fld = some none) (hh : hasDictIn K C = true)
    (fin : ∀ h' tk dx t1, (∀ b o, hB.get? b = some o → h'.get? b = some o) → hB.objs.size ≤ dx → dx ≠ e → h'.get? e = some (excObj C t1 (some dx) .none) → h'.Ns1 dx (fun z => if z = fld then some u else none) → R (.ok (.ret .none)) ⟨h', g, d, tk, os⟩) :
    codeAny (model prog w) A (.call (.ref fI) ⟨[.ref e, u], []⟩) R ⟨h, g, d, t, os⟩ := by
  have Xh : K.In h := X.keeps up
  refine ks_codeAny_call_defAt (body := initBody fld y p0 p1 p2 p3 p4 p5 p6 p7 p8 p9) (binds := [("self", .ref e), (y, u)]) hroom (Xh _ _ ho) rfl (hlim.keeps up) (codeRec_of Xh hcd) rfl (hbind _) hnc (fun x hx => ?_) (fun h₁ hns k1 => ?_) hco hgen hk
  · simp only [List.mem_cons, List.not_mem_nil, or_false] at hx
    rcases hx with rfl | rfl
    · exact hka
    · exact hky
  · have F1 : PyProof.Rows.Fr hB h.objs.size h₁ (fun x => [(("self" : Str), Value.ref e), (y, u)].reverse.lookup x) := ⟨hns, fun b o z => k1 b o (up b o z), hsz⟩
    have N1 : News hB h.objs.size h₁ [(e, excObj C t0 none .none)] := fun p hp => by
      rw [List.mem_singleton.mp hp]
      exact ⟨k1 _ _ he, Nat.ne_of_lt (Heap.lt_size he), ge⟩
    have ms : (fun x => [(("self" : Str), Value.ref e), (y, u)].reverse.lookup x) "self" = some (Value.ref e) := by
      have : (("self" : Str) == y) = false := by simpa using hy
      simp [List.lookup, this]
    have my : (fun x => [(("self" : Str), Value.ref e), (y, u)].reverse.lookup x) y = some u := by
      simp [List.lookup]
    generalize (fun x => [(("self" : Str), Value.ref e), (y, u)].reverse.lookup x) = m at F1 ms my
    have X1 : K.In h₁ := X.keeps F1.keep
    generalize hL : h.objs.size = L at F1 N1
    obtain ⟨oD, hD1, hD2⟩ : ∃ oD, h₁.get? C = some oD ∧ oD.data = .cls cdD := by
      have hD' := hD
      unfold clsIn at hD'
      split at hD'
      · rename_i _ _ _ _ q
        cases hD'
        exact ⟨_, X1 _ _ q, rfl⟩
      · cases hD'
    obtain ⟨pl, hev⟩ := hev L
    refine ks_wpAt_execs_cons (ks_wpAt_Expr_any (ks_wpAt_MethodCall (pl := pl) ?_ hev) (hint L))
    refine ks_wpAt_super_base hks hkc (by decide) rfl (X1 _ _ ho) rfl hp rfl (X1 _ _ hcode) rfl hvs hfile htop ?_
    refine ks_loadName_global hk hks (loadGlobal_builtin (hg.keeps F1.keep) hsup (hb.keeps F1.keep) hbs ⟨rfl, ?_⟩)
    refine wpAny_loadName_free hk hkc rfl ⟨_, X1 _ _ hcell, rfl⟩ ?_
    rw [har]
    refine wpAny_loadName_local hk hka F1.ns ms (ks_wpAny_isType_cls hD1 hD2 ⟨rfl, ?_⟩)
    refine ks_wpAny_call_super hD1 hD2 (k1 _ _ he) rfl (fun c z => by cases z) (looks_mroIn X1 hsub) fun h2 e2 k2 => ?_
    obtain ⟨F2, N2, l2⟩ := ks_newsPush (s := ⟨h₁, g, d, t + 2, os⟩) F1 N1 rfl e2 k2
    have q1 : (h₁.objs.size : Addr) ≠ e := Nat.ne_of_gt (l2 _ (List.mem_singleton.mpr rfl))
    refine kxs_method KF F2 X N2 List.mem_cons_self (InstAt.of_exc0 N2 (List.mem_cons_of_mem _ List.mem_cons_self)) hop hm hB2 (by decide) fun q h3 F3 N3 l3 => ?_
    have q2 : q ≠ e := Nat.ne_of_gt (l3 _ (List.mem_cons_of_mem _ List.mem_cons_self))
    refine kxs_callWith1 N3 List.mem_cons_self ?_
    show wpAny _ _ (spliced ((false, eval (.Name y p3) _) :: [])) _ _ _
    refine spliced_cons (wpAny_Name (wpAny_loadName_local hk hky F3.ns my ?_) hdy)
    refine spliced_nil ⟨kxs_at N3 List.mem_cons_self, ?_⟩
    refine FB.kc F3 X N3 hini List.mem_cons_self (.tail q2 (.tail q1 (.head fun p hp => by cases hp))) (by rw [sizeLine_eq]; show 1 ≤ 16777216; decide) fun t1 h4 F4 N4 l4 => ?_
    have q3 : t1 ≠ e := Nat.ne_of_gt (l4 _ (List.mem_cons_of_mem _ (List.mem_cons_of_mem _ List.mem_cons_self)))
    refine ks_wpAt_execs_cons (ks_wpAt_Assign_Attr (wpAt_of_wpAny ?_))
    refine wpAny_Name (wpAny_loadName_local hk hky F4.ns my ?_) hdy
    refine wpAny_Name (wpAny_loadName_local hk hka F4.ns ms ?_) (by decide)
    refine set_exc0 SF F4 X N4 (List.mem_cons_of_mem _ (List.mem_cons_of_mem _ (List.mem_cons_of_mem _ List.mem_cons_self))) hs hov ht hh rfl (.tail q3 (.tail q2 (.tail q1 (.head fun p hp => by cases hp)))) (show 1 ≤ 1000 by decide) fun dx h5 F5 N5 l5 => ?_
    refine wpAt_of_wpAny (wpAny_execs_nil ?_)
    have he5 := N5 (e, excObj C t1 (some dx) .none) (by simp)
    have hd5 := N5 (dx, _) List.mem_cons_self
    have ltd : e < dx := l5 (e, excObj C t1 none .none) (by simp)
    exact fin h5 _ dx t1 F5.keep (Nat.le_trans hlt (Nat.le_of_lt ltd)) (Nat.ne_of_gt ltd) he5.1 (ns1_one hd5.1)
end
/-- an error's class whose __init__ is of this form: what stands where -/
structure ExD where
  (B i newId : String)
  (bmB : List Value)
  (fI cc cda : Addr)
  (y qual : Str)
  (params : Arguments)
  (scope : Scope)
  (dV kV doc pm ct oc ccl cl : Value)
  (an od cdd cld : Option Addr)
  (osl ccs csl : Array (Option Value))
  (vs : Array Value)
  (file : Str)
  (tf : Tok)
  (p0 p1 p2 p3 p4 p5 p6 p7 p8 p9 : Pos)
  (ar : Arg)
  (cdD : ClassData)
def ExD.fd (D : ExD) (fld : Str) : FuncData := fnX "__init__" D.qual D.params (initBody fld D.y D.p0 D.p1 D.p2 D.p3 D.p4 D.p5 D.p6 D.p7 D.p8 D.p9) D.scope [("__class__", D.cc)] D.dV D.kV D.doc D.pm D.an (.ref D.cda) D.ct
structure ExP (prog : Program) (K : Frag) (C : Addr) (fld : Str) (D : ExD) : Prop where
  FB : ExBase D.B D.i D.newId D.bmB
  KF : KxsFacts D.B D.i
  SF : StoreFacts D.B D.bmB "object.__setattr__" "object"
  ini : excInitIn K C D.bmB D.newId = true
  sB : subIn K (.ref C) (.type D.B) = some true
  at_ : findIn K (.ref C) "__init__" = some (some (.ref D.fI))
  tyI : typeIn K (.ref D.fI) = some (.type "function")
  lk : K.lookup D.fI = some ⟨D.oc, D.od, .func (D.fd fld), D.osl⟩
  cd : codeIn K (.ref D.cda) D.qual = true
  lc : K.lookup D.cda = some ⟨D.ccl, D.cdd, .fields D.vs, D.ccs⟩
  v2 : D.vs[2]? = some (.str D.file D.tf)
  fil : ((prog.main.file : Str) == D.file) = true
  cel : K.lookup D.cc = some ⟨D.cl, D.cld, .cell (some (.ref C)), D.csl⟩
  cls : clsIn K C = some D.cdD
  mr : mroIn K C (.ref C) = some true
  bnd : ∀ (s : Shared) (e : Addr) (u : Value), BindsTo s (D.fd fld) ⟨[.ref e, u], []⟩ [("self", .ref e), (D.y, u)]
  hp : (D.params.posonlyargs ++ D.params.args).head? = some D.ar
  ar : D.ar.arg = "self"
  ny : ("self" : Str) ≠ D.y
  ks : D.scope.names.lookup ("super" : Str) = some .globalImplicit
  kc : D.scope.names.lookup ("__class__" : Str) = some .free
  ka : D.scope.names.lookup ("self" : Str) = some .local
  ky : D.scope.names.lookup D.y = some .local
  nc : ∀ x ∈ D.scope.names, x.2 ≠ .cell
  co : D.scope.isCoroutine = false
  gen : D.scope.isGenerator = false
  kind : D.scope.kind = .function
  dy : (D.y == ("__debug__" : Str)) = false
  int : ∀ L, interactive (callEnv (D.fd fld) L D.fI) = false
  ev : ∀ L, ∃ pl, eval (.Call (.Attribute (.Call (.Name "super" D.p0) [] [] D.p1) "__init__" D.p2) [.Name D.y D.p3] [] D.p4) (callEnv (D.fd fld) L D.fI) = (do
      let ov ← attributeBase (.Call (.Name "super" D.p0) [] [] D.p1) "__init__" (callEnv (D.fd fld) L D.fI) (eval (.Call (.Name "super" D.p0) [] [] D.p1) (callEnv (D.fd fld) L D.fI))
      standAt D.p2.atName
      let (f, first) ← holding [ov] (getMethod ov "__init__" pl)
      callWith D.p4 f first (backTo D.p4 (starEach [.Name D.y D.p3] (callEnv (D.fd fld) L D.fI))) [])
  top : (prog.main.scope.names.lookup ("super" : Str)).isSome = false
  op : nsIn K cStatics "thirdparty.any" = some none
  su : ks_superIn K C C "__init__" = some (some (.builtin D.i))
  sa : findIn K (.ref C) "__setattr__" = some (some (.builtin "object.__setattr__"))
  ov : excOver K C D.bmB = true
  tk : takerIn K C fld = some none
  hd : hasDictIn K C = true
structure ExC (prog : Program) (K : Frag) (C : Addr) (fld : Str) : Prop where
  kC : keepIn K (.ref C) = true
  exC : subIn K (.ref C) (.type "BaseException") = some true
  tyC : typeIn K (.ref C) = some (.type "type")
  ex : ∃ D, ExP prog K C fld D
end DL
namespace DL
open PySem PySem.Spec PyProof.Rows L2
section
variable {X : Cx} {W : WX} {C : Addr} {x fld : Str} {e : Expr} {te : TE} {p pos : Pos}
/-- C(e), the error is let go, its field stands in its dict -/
theorem pmk_super (T : ExC X.prog X.K C fld) (hr : Room 1 X.A) (hg : Gl X x) (hm : X.mg x = some (.ref C)) (hs : X.mg "super" = none) (he : PE X e te) (hdb : (x == ("__debug__" : Str)) = false := by decide)
    (hst : starEach [e] X.env = (false, eval e X.env) :: starEach [] X.env := by rfl) :
    PMk X (.Call (.Name x p) [e] [] pos) (fun σ H Q => te σ H fun y H1 => ∀ dx, H1 dx = none → Q (.ref C) (some dx) (upd H1 dx (.xd [(fld, y)]))) := by
  intro pins s σ H Q I h
  refine wpAny_Call_Name_kw (ld_glob I hg hm ?_ hdb)
  refine PySem.W.callWith_K (h₀ := X.base) I.ok.mod.kin T.kC ?_ hst rfl
  rw [hst]
  refine Calls.spliced_cons (thn (he.run pins s σ H _ I h) fun u s1 ⟨y, H1, I1, r1, q⟩ => ?_)
  refine Calls.spliced_nil ⟨I1.kIn, ?_⟩
  obtain ⟨hp, g, dr, tk, os⟩ := s1
  obtain ⟨D, T'⟩ := T.ex
  obtain ⟨nm, N, qn, bs, bm, hdct, sn, sub, ab, col, dd, k0, k1, k2, k3, k5, hC, hT⟩ := PySem.W.excInit_of I1.kIn T'.ini
  obtain ⟨mb, hb1, hb2⟩ := I1.ok.mod.blt
  show wpAny _ _ (call (.ref C) [u]) _ _ _
  have keepP : ∀ b o, hp.get? b = some o → (hp.push (PySem.W.kdv_tup [u])).get? b = some o := fun b o z => Heap.get?_push_of_some _ z
  have szP : (hp.push (PySem.W.kdv_tup [u])).objs.size = hp.objs.size + 1 := Heap.size_push ..
  have newE : ((hp.push (PySem.W.kdv_tup [u])).push (PySem.HandSPX.excO C hp.objs.size)).get? (hp.objs.size + 1) = some (PySem.HandSPX.excO C hp.objs.size) := by heap_get
  have goneE : (hp.push (PySem.W.kdv_tup [u])).get? (hp.objs.size + 1) = none := by
    cases z : (hp.push (PySem.W.kdv_tup [u])).get? (hp.objs.size + 1) with
    | none => rfl
    | some o => exact absurd (Heap.lt_size z) (by rw [szP]; exact Nat.lt_irrefl _)
  refine wpAny_call (T'.FB.co hT hC (PySem.W.looks_findIn I1.kIn T'.at_) (fun self => PySem.W.bind_fn I1.kIn self T'.tyI) (by rw [sizeLine_eq]; show 1 ≤ 16777216; decide)
    (init_walk (hB := hp.push (PySem.W.kdv_tup [u])) (I1.kIn.keeps keepP) (fun b o z => Heap.get?_push_of_some _ z) (by simp only [Heap.size_push]; omega) goneE newE (Nat.le_of_eq szP)
      T'.FB T'.KF T'.SF ((I1.ok.mod.glob.keeps I1.bk).keeps keepP) ((hb1.keeps I1.bk).keeps keepP) hs ((hb2 "super" (by decide)).trans (by decide +kernel)) ((I1.ok.mod.nolimit.keeps I1.bk).keeps keepP) ((show Room 1 X.A from hr).make C [u] []).depth
      T'.lk T'.cd T'.lc T'.v2 T'.fil T'.cel T'.cls T'.mr (fun s => T'.bnd s _ u) T'.hp T'.ar T'.ny T'.ks T'.kc T'.ka T'.ky T'.nc T'.co T'.gen T'.kind T'.dy T'.int T'.ev T'.top T'.op T'.su T'.sB T'.ini T'.sa T'.ov T'.tk T'.hd fun h' tk' dx t1 k hsz hne hx hn => ?_))
  have kk : ∀ b o, hp.get? b = some o → h'.get? b = some o := fun b o z => k b o (keepP b o z)
  have hszp : hp.objs.size ≤ dx := Nat.le_trans (by rw [szP]; exact Nat.le_succ _) hsz
  obtain ⟨G, g1, g2⟩ := restrict h' fun b => decide (b ≠ hp.objs.size + 1)
  have gk : ∀ b, b ≠ hp.objs.size + 1 → G.get? b = h'.get? b := fun b hb => g1 b (decide_eq_true hb)
  have ge : G.get? (hp.objs.size + 1) = none := g2 _ (by simp)
  have kG : ∀ b o, G.get? b = some o → h'.get? b = some o := fun b o z => by
    by_cases hba : b = hp.objs.size + 1
    · rw [hba, ge] at z; cases z
    · exact (gk b hba).symm.trans z
  have I2 : Inv X pins σ (upd H1 dx (.xd [(fld, y)])) ⟨G, g, dr, tk', os⟩ := I1.laid (t' := tk') (a := dx) (h' := G) (fun b o z => (gk b (Nat.ne_of_lt (Nat.lt_of_lt_of_le (Heap.lt_size z) (Nat.le_succ _)))).trans (kk b o z)) hszp
    ⟨_, hn.at fun o z => (gk dx hne).trans z, relO_put (fs := []) r1 fun g => True.intro⟩
  have na : (upd H1 dx (.xd [(fld, y)])) (hp.objs.size + 1) = none := by
    rw [upd_ne (Ne.symm hne)]
    exact I1.hok.fresh (Nat.le_succ _)
  exact ⟨rfl, hp.objs.size + 1, _, _, ⟨G, g, dr, tk', os⟩, _, .ref C, some dx, rfl, I2, kG, ge, hx, ⟨rfl, rfl⟩, rfl, rfl, na, rfl, I1.bare, raises_own T.exC T.tyC, q dx (I1.hok.fresh hszp)⟩
end
end DL

set_option Elab.async false
set_option linter.all false
set_option maxRecDepth 100000
set_option maxHeartbeats 4000000
namespace DL
open PySem PySem.Spec PyProof.Rows L2

/-! ### several clauses, some of which name the error -/
/-- a clause's wish when the error's name is slot i -/
def named (i : Nat) (ts : Addr → Value → Option Addr → TS) : Addr → Value → Option Addr → TS := fun a cls d D σ H =>
  ts a cls d ⟨fun s h => D.nx (s.set i none) h, D.rt, fun s h => D.bk (s.set i none) h, fun s h => D.ct (s.set i none) h⟩ (σ.set i (some (.ref a))) H
abbrev SuiteOk (X : Cx) (sts : List Stmt) (ts : Addr → Value → Option Addr → TS) : Prop :=
  ∀ (a : Addr) (oe : Obj) (cls : Value) (d : Option Addr) (pn : List (Addr × Obj)), Zc cls d oe → (∃ vs, oe.data = .fields vs) → PSs (X.suite a ((a, oe) :: pn)) sts (ts a cls d)
inductive MixOk (X : Cx) : List ExceptHandler → List (Value × (Addr → Value → Option Addr → TS)) → Prop
  | nil : MixOk X [] []
  | one {x : Str} {c : Value} {ts : Addr → Value → Option Addr → TS} {b : Stmt} {sts : List Stmt} {np q : Pos} {hds : List ExceptHandler} {l : List (Value × (Addr → Value → Option Addr → TS))}
      (hc : Names X x c) (hsu : SuiteOk X (b :: sts) ts) (r : MixOk X hds l) : MixOk X (.ExceptHandler (some (.Name x np)) none (b :: sts) q :: hds) ((c, ts) :: l)
  | as {x n : Str} {i : Nat} {c : Value} {ts : Addr → Value → Option Addr → TS} {b : Stmt} {sts : List Stmt} {np q : Pos} {hds : List ExceptHandler} {l : List (Value × (Addr → Value → Option Addr → TS))}
      (hc : Names X x c) (hi : X.N[i]? = some n) (hl : X.env.kindOf n = some .local) (hsu : SuiteOk X (b :: sts) ts) (r : MixOk X hds l) : MixOk X (.ExceptHandler (some (.Name x np)) (some n) (b :: sts) q :: hds) ((c, named i ts) :: l)
section
variable {X : Cx} {pins : List (Addr × Obj)} {body : List Stmt} {pos : Pos} {tb : WX → TS} {Wo : WX} {D : Ends}
theorem ps_try_mix {k0 : ExceptHandler} {ks : List ExceptHandler} {l : List (Value × (Addr → Value → Option Addr → TS))} (eqS : X.stack = X.env :: X.outer) (eqF : X.env.frame = some X.env.locals) (nd : X.N.Nodup) (tk : Takes X Wo)
    (bod : ∀ (U : WX) (qs : List (Addr × Obj)) (ye : Value → Shared → Prop), Takes (X.tr qs ye) U → PassesOwn (model X.prog X.w) X.A X.env ye → PSs (X.tr qs ye) body (tb U))
    (mix : MixOk X (k0 :: ks) l) : PS X (.Try body (k0 :: ks) [] [] pos) (fun D σ H => tb (wMany X.K Wo D l) D σ H) := by
  refine ⟨fun pins st σ H D I0 want => ?_⟩
  have okX := I0.ok
  have frA : X.A.frames = some (X.env :: X.outer) := okX.frames.trans (by rw [eqS])
  refine wpAny_Try_except ?_
  let xe' : Value → Shared → Prop := fun e s₁ => wpAny (model X.prog X.w) X.A (noteFrame e X.env) (fun _ s₂ => wpAny (model X.prog X.w) X.A (setFlight e none) (fun _ s₃ => wpAny (model X.prog X.w) X.A (handleBy e X.env (k0 :: ks)) (SP X pins D) X.xe s₃) X.xe s₂) X.xe s₁
  have takes' : Takes (X.tr (X.pn ++ pins) xe') (wMany X.K Wo D l) := by
    rintro u sT ⟨a, B, sJ, pj, σJ, HJ, cls, dd, rfl, K1, nb, up, sky, na, os, ag, wish⟩
    have KI : Inv X pins σJ HJ sJ := K1.ofTry okX
    have sky2 : Sky B (X.env :: X.outer) a (Zc cls dd) X.env.locals sT.heap := eqS ▸ sky
    refine Sky.land Zc.steady frA eqF sky2 fun hL flL upL => ?_
    have KL : Inv X pins σJ HJ { sT with heap := hL } := KI.landed nb flL.1 (up.trans upL) os ag
    obtain ⟨oe, ve, aL, zL, dL⟩ := flL.there
    have off : a ∉ frs (X.env :: X.outer) := fun hm => by
      obtain ⟨_, o2, e2, no⟩ := flL.2.2.1.mem hm
      cases aL.symm.trans e2
      exact no _ dL
    have nLoc : a ≠ X.env.locals := fun z => off (List.mem_filterMap.mpr ⟨X.env, .head _, by rw [eqF, z]⟩)
    have nFs : a ∉ X.fs := fun hm => by
      obtain ⟨e, he, q⟩ := List.mem_filterMap.mp hm
      exact off (List.mem_filterMap.mpr ⟨e, .tail _ he, q⟩)
    have SL := KL.suite aL dL na nLoc nFs
    have all : ∀ {ks' : List ExceptHandler} {l' : List (Value × (Addr → Value → Option Addr → TS))}, MixOk X ks' l' → wMany X.K Wo D l' cls dd σJ HJ → wpAny (model X.prog X.w) X.A (handleBy (.ref a) X.env ks') (SP X pins D) X.xe { sT with heap := hL } := by
      intro ks' l' mk
      have tryOne : ∀ {x : Str} {c : Value} {b : Bool} {np : Pos} {Q : Bool → Shared → Prop} {E : Value → Shared → Prop}, Names X x c → PySem.W.exmOne X.K cls c = some b → Q b { sT with heap := hL } →
          wpAny (model X.prog X.w) (X.A.mark (some (.ref a))) (eval (.Name x np) X.env) (fun v s₁ => wpAny (model X.prog X.w) (X.A.mark (some (.ref a))) (excMatches (.ref a) v) Q E s₁) E { sT with heap := hL } := by
        intro x c b np Q E hc hb1 q
        have ty : PySem.W.Looks (model X.prog X.w) hL (typeOf (.ref a)) cls := fun _ _ _ _ k q => wpAny_typeOf_ref (k _ _ aL) (by rw [zL.1]; exact q)
        have ex := PySem.W.exm_one (M := model X.prog X.w) KL.kIn ty hb1
        obtain ⟨hg, hd, hm | ⟨hm, hv, hnn⟩⟩ := hc
        · exact ld_glob (X := X.suite a ((a, oe) :: (X.pn ++ pins))) SL hg hm (ex.here q) hd
        · exact ld_blt (X := X.suite a ((a, oe) :: (X.pn ++ pins))) SL hg hm hv (ex.here q) hnn hd
      induction mk with
      | nil =>
        intro wish
        refine wpAny_handleBy_nil ?_
        obtain ⟨_, _, _, o1, v1, T, _, _, e1, _, d1, f1, _⟩ := id flL
        unfold PySem.passOn
        refine wpAny_bind (wpAny_field e1 d1 f1 ?_)
        have nT : ¬ ((Value.ref T == Value.none) = true) := by simp
        rw [if_neg nT]
        have off2 : wpAny (model X.prog X.w) X.A (setFlight (.ref a) X.env.frame) (fun _ s4 => wpAny (model X.prog X.w) X.A (throw (.ref a) : Sem Flow) (SP X pins D) X.xe s4) X.xe { sT with heap := hL } := by
          rw [eqF]
          exact HandSPX.setFlight_upZ flL fun h4 hh4 up4 => wpAny_throw (tk _ _ ⟨a, B, sJ, pins, σJ, HJ, cls, dd, rfl, KI, nb, (up.trans upL).trans up4, .inr (.inr (eqS ▸ hh4)), na, os, ag, wish⟩)
        first
          | exact wpAny_bind (wpAny_pure (wpAny_bind off2))
          | exact wpAny_bind off2
      | one hc hsu r ih =>
        rintro ⟨b, hb1, yes, no⟩
        refine wpAny_handleBy_cons (codeAny_handlers_test (tryOne hc hb1 ?_)) (by intro q; cases q)
        cases b with
        | false => exact ih (no rfl)
        | true =>
          refine codeAny_handlers_suite (HandSPX.lands_againZ flL fun h4 fl4 up4 => ?_)
          have K4 : Inv X pins σJ HJ { sT with heap := h4 } := KI.landed nb fl4.1 ((up.trans upL).trans up4) os ag
          obtain ⟨o4, v4, a4, z4, d4⟩ := fl4.there
          refine wpAny_mono ((hsu a o4 cls dd (X.pn ++ pins) z4 ⟨_, d4⟩).run [] _ _ HJ _ (K4.suite a4 d4 na nLoc nFs) (yes rfl a na)) (fun f s6 z => ?_) (fun _ _ z => z.elim)
          match f, z with
          | .next, ⟨σ6, H6, S6, q6⟩ => exact ⟨_, _, S6.unsuite okX, q6⟩
          | .brk, ⟨σ6, H6, S6, q6⟩ => exact ⟨_, _, S6.unsuite okX, q6⟩
          | .cont, ⟨σ6, H6, S6, q6⟩ => exact ⟨_, _, S6.unsuite okX, q6⟩
          | .ret u, ⟨v6, σ6, H6, S6, r6, q6⟩ => exact ⟨_, _, _, S6.unsuite okX, r6, q6⟩
      | @as x n i c ts b0 sts np q hds l2 hc hi hl hsu r ih =>
        rintro ⟨b, hb1, yes, no⟩
        refine wpAny_handleBy_cons (codeAny_handlers_test (tryOne hc hb1 ?_)) (by intro q; cases q)
        cases b with
        | false => exact ih (no rfl)
        | true =>
          refine codeAny_handlers_suite_as (HandSPX.lands_againZ flL fun h4 fl4 up4 => ?_)
          have K4 : Inv X pins σJ HJ { sT with heap := h4 } := KI.landed nb fl4.1 ((up.trans upL).trans up4) os ag
          obtain ⟨o4, v4, a4, z4, d4⟩ := fl4.there
          refine store_ok (X := X.suite a ((a, o4) :: (X.pn ++ pins))) (v := .ref a) (K4.suite a4 d4 na nLoc nFs) nd hi (.inl hl) rfl (fun s5 S5 => ?_) (.inr hl)
          refine wpAny_mono ((hsu a o4 cls dd (X.pn ++ pins) z4 ⟨_, d4⟩).run [] s5 _ HJ _ S5 (yes rfl a na)) (fun f s6 z => ?_) (fun _ _ z => z.elim)
          match f, z with
          | .next, ⟨σ6, H6, S6, q6⟩ => exact gone_ok (S6.unsuite okX) nd hi hl fun s7 J7 => ⟨_, _, J7, q6⟩
          | .brk, ⟨σ6, H6, S6, q6⟩ => exact gone_ok (S6.unsuite okX) nd hi hl fun s7 J7 => ⟨_, _, J7, q6⟩
          | .cont, ⟨σ6, H6, S6, q6⟩ => exact gone_ok (S6.unsuite okX) nd hi hl fun s7 J7 => ⟨_, _, J7, q6⟩
          | .ret u, ⟨v6, σ6, H6, S6, r6, q6⟩ => exact gone_ok (S6.unsuite okX) nd hi hl fun s7 J7 => ⟨_, _, _, J7, r6, q6⟩
    exact all mix wish
  refine wpAny_mono ((bod (wMany X.K Wo D l) (X.pn ++ pins) xe' takes' PassesOwn.looking).run [] st σ H D (I0.toTry _) want) (fun f s1 z => ?_) (fun e s1 z => z)
  match f, z with
  | .next, ⟨σ', H', J', q⟩ => exact wpAny_execs_nil ⟨σ', H', J'.ofTry okX, q⟩
  | .brk, ⟨σ', H', J', q⟩ => exact ⟨σ', H', J'.ofTry okX, q⟩
  | .cont, ⟨σ', H', J', q⟩ => exact ⟨σ', H', J'.ofTry okX, q⟩
  | .ret u, ⟨v, σ', H', J', r, q⟩ => exact ⟨v, σ', H', J'.ofTry okX, r, q⟩
end
end DL

set_option Elab.async false
set_option linter.all false
set_option maxRecDepth 100000
set_option maxHeartbeats 4000000
namespace DL
open PySem PySem.Spec PyProof.Rows L2

/-! ### what a clause says of the error that it names -/
/-- slot i holds the error at a, of the class at C, whose field is told by pd -/
structure XF (K : PySem.W.Frag) (a : Addr) (cls : Value) (d : Option Addr) (i : Nat) (C : Addr) (fld : Str) (as : List Addr) (H : Hp) (σ : L2.St) (pd : D) : Prop where
  sl : σ[i]? = some (some (.ref a))
  cl : cls = .ref C
  at_ : ∃ dd v, d = some dd ∧ H dd = some (.xd [(fld, v)]) ∧ dd ∉ as ∧ RV K H as pd v
theorem XF.grow {K : PySem.W.Frag} {a C : Addr} {cls : Value} {d : Option Addr} {i : Nat} {fld : Str} {as as' : List Addr} {H H' : Hp} {σ : L2.St} {pd : D} (g : Grow as H as' H') (x : XF K a cls d i C fld as H σ pd) : XF K a cls d i C fld as' H' σ pd := by
  obtain ⟨h1, h2, dd, v, e1, e2, e3, r⟩ := x
  exact ⟨h1, h2, dd, v, e1, g.fr _ _ e2 rfl fun z => absurd z e3, g.notin e2 rfl e3, r.grow g⟩
theorem HeapR.xd_notin {K : PySem.W.Frag} {H : Hp} {as : List Addr} {h : Hs} (r : HeapR K H as h) {dd : Addr} {fs : List (Str × V)} (e : H dd = some (.xd fs)) : dd ∉ as := fun z => by
  obtain ⟨n, hn, en⟩ := List.getElem_of_mem z
  obtain ⟨d, _, c⟩ := r.get (n := n) (a := dd) (by rw [List.getElem?_eq_getElem hn, en])
  cases c with
  | lst h1 _ => rw [e] at h1; cases h1
  | dct h1 _ _ => rw [e] at h1; cases h1
  | dcf h1 _ _ => rw [e] at h1; cases h1
  | tbl _ h1 _ _ => rw [e] at h1; cases h1
  | fnc h1 => rw [e] at h1; cases h1
  | rng h1 => rw [e] at h1; cases h1
  | obj k _ _ => rcases k.2.2 with w | w; (rw [w] at e; cases e); (rw [w.2] at e; cases e)
section
variable (K : PySem.W.Frag) (mg : Str → Option Value) (a : Addr) (cls : Value) (d : Option Addr) (i : Nat) (C : Addr) (fld : Str)
def teX (m : D → M D) : TE := fun σ H Q => ∃ as ds h pd, StR K H as ds h σ ∧ XF K a cls d i C fld as H σ pd ∧ PostE K mg W0 as σ H (m pd ds h) Q
def taX (m : D → M (List D)) : TA := fun σ H Q => ∃ as ds h pd, StR K H as ds h σ ∧ XF K a cls d i C fld as H σ pd ∧ PostA K mg W0 as σ H (m pd ds h) Q
def tsX (m : D → SM) : TS := fun E σ H => ∃ as ds h pd, StR K H as ds h σ ∧ XF K a cls d i C fld as H σ pd ∧ PostS K mg W0 as H (m pd ds h) E
end
section
variable {X : Cx} {a C : Addr} {cls : Value} {d : Option Addr} {i : Nat} {fld : Str} {oe : Obj} {pn : List (Addr × Obj)} {e e1 e2 : Expr} {es : List Expr} {m m1 m2 : D → M D} {ms : D → M (List D)} {pos p : Pos}
abbrev DX (X : Cx) (a : Addr) (cls : Value) (d : Option Addr) (i : Nat) (C : Addr) (fld : Str) (e : Expr) (m : D → M D) : Prop := PE X e (teX X.K X.mg a cls d i C fld m)
abbrev DXA (X : Cx) (a : Addr) (cls : Value) (d : Option Addr) (i : Nat) (C : Addr) (fld : Str) (es : List Expr) (m : D → M (List D)) : Prop := PA X es (taX X.K X.mg a cls d i C fld m)
theorem dx_of {m : M D} (h : DE X W0 e m) : DX X a cls d i C fld e (fun _ => m) := PE.imp h fun σ H Q ⟨as, ds, hh, pd, s, x, q⟩ => ⟨as, ds, hh, s, q⟩
theorem dx_fld {n : Str} {p1 p2 : Pos} (T : XfC X.K C) (hno : PySem.W.findIn X.K (.ref C) fld = some none) (hz : Zc cls d oe) (hf : ∃ vs, oe.data = .fields vs) (he : PE (X.suite a ((a, oe) :: pn)) (.Name n p1) (tVar i))
    (hb : attributeBase (.Name n p1) fld X.env (eval (.Name n p1) X.env) = eval (.Name n p1) X.env := by rfl) :
    DX (X.suite a ((a, oe) :: pn)) a cls d i C fld (.Attribute (.Name n p1) fld p2) (fun pd => mC pd) :=
  PE.imp (pe_xf T hno hz hf he hb) fun σ H Q ⟨as, ds, h, pd, s, ⟨sl, cl, dd, v, e1, e2, e3, r⟩, q⟩ => ⟨_, sl, rfl, cl, dd, _, v, e1, e2, by simp [List.lookup], q v H as .refl r s.heap⟩
theorem dx_bin {op : Operator} {f : D → D → Option D} {r : R2} (ho : OpR X (binaryOp op) r) (hs : OpS X.K f r) (ha : DX X a cls d i C fld e1 m1) (hb : DX X a cls d i C fld e2 m2) : DX X a cls d i C fld (.BinOp e1 op e2 pos) (fun pd => mBin f (m1 pd) (m2 pd)) :=
  PE.imp (pe_op ho ha hb) fun σ H Q ⟨as, ds, h, pd, s, x, q⟩ => ⟨as, ds, h, pd, s, x, PostE.bindE q fun y h1 v H1 as1 g1 r1 hr1 q1 => ⟨as1, ds, h1, pd, ⟨s.env.grow g1, hr1⟩, x.grow g1, PostE.bindE q1 fun z h2 u H2 as2 g2 r2 hr2 q2 => by
    cases ef : f (rd h2 y) (rd h2 z) with
    | none => rw [ef] at q2; exact q2.elim
    | some w =>
      rw [ef] at q2
      exact hs as2 H2 _ _ _ v u Q (fun p hp => hr2.notin hp) ef ((r1.grow g2).rt hr2) (r2.rt hr2) fun w' H' sm rw => q2 w' H' as2 (.of_same sm) (.val rw) (hr2.same sm)⟩⟩
theorem dx_add (ha : DX X a cls d i C fld e1 m1) (hb : DX X a cls d i C fld e2 m2) : DX X a cls d i C fld (.BinOp e1 .Add e2 pos) (fun pd => mBin addD (m1 pd) (m2 pd)) := dx_bin op_addAll add_s ha hb
theorem dxa_nil : DXA X a cls d i C fld [] (fun _ => mNil) := PA.imp pa_nil fun σ H Q ⟨as, ds, h, pd, s, x, p⟩ => p [] H as .refl .nil s.heap
theorem dxa_cons (ha : DX X a cls d i C fld e m) (hr : DXA X a cls d i C fld es ms) (hs : starEach (e :: es) X.env = (false, eval e X.env) :: starEach es X.env := by rfl) : DXA X a cls d i C fld (e :: es) (fun pd => mCons (m pd) (ms pd)) :=
  PA.imp (pa_cons ha hr hs) fun σ H Q ⟨as, ds, h, pd, s, x, p⟩ => ⟨as, ds, h, pd, s, x, PostA.bindE p fun y h1 v H1 as1 f1 r1 hr1 p1 =>
    ⟨as1, ds, h1, pd, ⟨s.env.grow f1, hr1⟩, x.grow f1, PostA.bindA p1 fun xs h2 vs H2 as2 f2 r2 hr2 p2 => p2 (v :: vs) H2 as2 .refl (.cons (r1.grow f2) r2) hr2⟩⟩
theorem dx_tup {k : Nat} (h : DXA X a cls d i C fld es ms) : DX X a cls d i C fld (.Tuple es k pos) (fun pd => mTup (ms pd)) :=
  PE.imp (pe_tup h) fun σ H Q ⟨as, ds, h, pd, s, x, p⟩ => ⟨as, ds, h, pd, s, x, PostE.bindA p fun xs h1 vs H1 as1 f1 r1 hr1 p1 => by
    by_cases hc : xs.length ≤ 16777216
    · rw [if_pos hc] at p1
      refine ⟨by rw [sizeLine_eq, ← r1.length]; exact hc, fun q hq => ?_⟩
      have sm := same_upd (o := .tup vs) hq
      exact p1 (.ref q) _ as1 (.of_same sm) (.val (.tup (SqT.of upd_same) ((r1.rvs).same sm))) (hr1.same sm)
    · rw [if_neg hc] at p1; exact p1.elim⟩
theorem dx_callB {x : Str} {id : String} {f : List D → Option D} {r : List V → Hp → VK → Prop} (hc : CallR X (.builtin id) r) (hs : CallS X.K f r) (hm : X.mg x = none) (hv : bootBuiltins x = some (.builtin id)) (ha : DXA X a cls d i C fld (e :: es) ms) (hg : Gl X x := by rfl) (hn : x ≠ "__name__" := by decide) (hdb : (x == ("__debug__" : Str)) = false := by decide)
    (he : starEach (e :: es) X.env = (false, eval e X.env) :: starEach es X.env := by rfl) (hpl : (backTo pos (starEach es X.env)).any (·.1) = false := by rfl) : DX X a cls d i C fld (.Call (.Name x p) (e :: es) [] pos) (fun pd => mB f (ms pd)) :=
  PE.imp (pe_callB hc hg hm hv ha hn hdb he hpl) fun σ H Q ⟨as, ds, h, pd, s, x, q⟩ => ⟨as, ds, h, pd, s, x, PostE.bindA q fun xs h1 vs H1 as1 f1 r1 hr1 p1 => by
    cases e : f (xs.map (rd h1)) with
    | none => rw [e] at p1; exact p1.elim
    | some z =>
      rw [e] at p1
      exact hs as1 H1 _ z vs Q (fun p hp => hr1.notin hp) e (RDs.rts hr1 r1) fun w H' sm rw => p1 w H' as1 (.of_same sm) (.val rw) (hr1.same sm)⟩
theorem dsx_ret (ha : DX X a cls d i C fld e m) : PSs X [.Return (some e) pos] (tsX X.K X.mg a cls d i C fld fun pd => sRet (m pd)) :=
  pss_one <| PS.imp (ps_ret ha) fun Dn σ H ⟨as, ds, h, pd, s, x, p⟩ => ⟨as, ds, h, pd, s, x, by
    unfold sRet at p
    dsimp only at p
    cases e : m pd ds h with
    | ok z h1 => rw [e] at p; exact p
    | ex c q h1 => rw [e] at p; exact fun cls dx H' as' g hr x => p σ cls dx H' as' g ⟨s.env.grow g, hr⟩ x
    | no => rw [e] at p; exact p⟩
end
/-! ### raise C(e), C's __init__ keeps e -/
def sRaiseV (c : Str) (ma : M D) : SM := fun ds h => match ma ds h with
  | .ok d h1 => .ex c (some d) ds h1
  | .ex c p h1 => .ex c p ds h1
  | .no => .no
section
variable {X : Cx} {W : WX} {x : Str} {e : Expr} {ma : M D} {p p3 pos : Pos}
theorem ds_raiseV (tk : Takes X W) (T : ExC X.prog X.K (He.ga X.K x) (fieldOf x)) (hr : Room 1 X.A) (hm : X.mg x = some (.ref (He.ga X.K x))) (hs : X.mg "super" = none) (he : DE X W e ma) (hg : Gl X x := by rfl) (hc : X.calm = true := by rfl) (hdb : (x == ("__debug__" : Str)) = false := by decide)
    (hst : starEach [e] X.env = (false, eval e X.env) :: starEach [] X.env := by rfl) : DS X W (.Raise (some (.Call (.Name x p) [e] [] p3)) none pos) (sRaiseV x ma) :=
  PS.imp (ps_raise hc tk (pmk_super T hr hg hm hs he hdb hst)) fun Dn σ H ⟨as, ds, h, s, q⟩ => ⟨as, ds, h, s, by
    unfold sRaiseV at q
    cases em : ma ds h with
    | no => rw [em] at q; exact q.elim
    | ex c p h1 => rw [em] at q; exact fun cls dx H' as' g hr x => q σ cls dx H' as' g ⟨s.env.grow g, hr⟩ x
    | ok d h1 =>
      rw [em] at q
      intro y H1 as1 g1 r1 hr1 dx hdx
      have sm := same_upd (o := .xd [(fieldOf x, y)]) hdx
      have g2 : Grow as1 H1 as1 (upd H1 dx (.xd [(fieldOf x, y)])) := .of_same sm
      exact q σ _ _ _ as1 (g1.trans g2) ⟨s.env.grow (g1.trans g2), hr1.same sm⟩ ⟨hm, dx, y, rfl, upd_same, r1.same sm⟩⟩
end
/-! ### x(lambda: e), where x's clauses may name the error -/
/-- a clause: the class, the name's slot, what it does (with the error's field) -/
structure Hd where
  y : Str
  nm : Option Nat
  m : Option D → SM
def rtOnly : SR → SR
  | .rt d h => .rt d h
  | _ => .no
def hdlN (tab : Str → Str → Option Bool) (c : Str) (p : Option D) : List Hd → SM
  | [] => fun ds h => .ex c p ds h
  | q :: r => fun ds h => match tab c q.y with
    | some true => (match q.nm with
      | none => noexS (q.m p ds h)
      | some i => (match p with
        | some d => if c = q.y then rtOnly (q.m (some d) (ds.set i none) h) else .no
        | none => .no))
    | some false => hdlN tab c p r ds h
    | none => .no
def sTryN (tab : Str → Str → Option Bool) (mb : SM) (hs : List Hd) : SM := fun ds h => match mb ds h with
  | .ex c p ds2 h2 => hdlN tab c p hs ds2 h2
  | r => r
def mMetN (n : Nat) (tab : Str → Str → Option Bool) (mr : SM) (hs : List Hd) (mt : SM) (th : Hs → R D) : Hs → R D := fun h =>
  finG h.length (sSeq (sTryN tab (sSeq (sThk th) mr) hs) mt (List.replicate n none) h)
section
variable (X : Cx) (n : Nat)
/-- a clause's reading -/
def rdHd (q : Hd) : Addr → Value → Option Addr → TS := match q.nm with
  | none => fun _ _ _ D σ H => σ.length = n → tsM X.K X.mg W0 (q.m none) D σ H
  | some i => named i fun a cls d D σ H => σ.length = n → ∃ as ds h pd, StR X.K H as ds h σ ∧ XF X.K a cls d i (He.ga X.K q.y) (fieldOf q.y) as H σ pd ∧ PostS X.K X.mg W0 as H (rtOnly (q.m (some pd) ds h)) D
def lHd (hs : List Hd) : List (Value × (Addr → Value → Option Addr → TS)) := hs.map fun q => (Value.ref (He.ga X.K q.y), rdHd X n q)
end
section
variable {X : Cx}
theorem EvR.unset {K : PySem.W.Frag} {H : Hp} {as : List Addr} {v : V} : ∀ {ds : Ev} {σ : L2.St} (i : Nat), EvR K H as ds σ → EvR K H as (ds.set i none) (σ.set i (some v))
  | _, _, _, .nil => .nil
  | _, _, 0, .cons _ t => .cons (fun d e => nomatch e) t
  | _, _, i + 1, .cons h t => .cons h (EvR.unset i t)
theorem wManyN_ok {tab : Str → Str → Option Bool} {Dn : Ends} {c : Str} {pd : Option D} {cls : Value} {dx : Option Addr} {as : List Addr} {ds : Ev} {h : Hs} {σ : L2.St} {H : Hp} {n : Nat} :
    ∀ (hs : List Hd), (∀ q ∈ hs, (q.nm = none → ∀ p, q.m p = q.m none) ∧ ∀ i, q.nm = some i → i < n) → TabOk X.K X.mg tab (hs.map (·.y)) → (σ.length = n → StR X.K H as ds h σ) → HeapR X.K H as h → ExR X.K X.mg H as c pd cls dx → PostS X.K X.mg W0 as H (hdlN tab c pd hs ds h) Dn →
    wMany X.K (fun _ _ σ _ => σ.length = n → False) Dn (lHd X n hs) cls dx σ H
  | [], _, _, s, _, x, q => fun hl => q σ cls dx H as .refl (s hl) x
  | k :: r, hm, ht, s, hR, x, q => by
    simp only [hdlN] at q
    cases e : tab c k.y with
    | none => rw [e] at q; exact q.elim
    | some b =>
      obtain ⟨h1, h2⟩ := ht c k.y b (by simp) e
      have ec : cls = .ref (He.ga X.K c) := by
        have := x.1
        rw [h2] at this
        exact (Option.some.inj this).symm
      subst ec
      rw [e] at q
      refine ⟨b, h1, fun hb a ha => ?_, fun hb => ?_⟩
      · subst hb
        obtain ⟨m1, m2⟩ := hm k (by simp)
        unfold rdHd
        cases en : k.nm with
        | none =>
          intro hl
          refine ⟨as, ds, h, s hl, ?_⟩
          simp only [en] at q
          rw [m1 en pd] at q
          cases em : k.m none ds h with
          | ex c p d2 h2 => rw [em] at q; exact q.elim
          | _ => rw [em] at q; exact q
        | some i =>
          intro hl
          have hl : (σ.set i (some (.ref a))).length = n := hl
          rw [List.length_set] at hl
          simp only [en] at q
          cases ep : pd with
          | none => rw [ep] at q; exact q.elim
          | some dd =>
            rw [ep] at q
            simp only at q
            by_cases hc : c = k.y
            · subst hc
              rw [if_pos rfl] at q
              obtain ⟨x1, x2⟩ := x
              rw [ep] at x2
              obtain ⟨a1, v1, e1, e2, e3⟩ := x2
              refine ⟨as, ds.set i none, h, dd, ⟨(s hl).env.unset i, (s hl).heap⟩, ⟨?_, rfl, a1, v1, e1, e2, hR.xd_notin e2, e3⟩, ?_⟩
              · rw [List.getElem?_set_self (by rw [hl]; exact m2 i en)]
              · cases em : k.m (some dd) (ds.set i none) h with
                | rt z h' => rw [em] at q; exact q
                | _ => rw [em] at q; exact q.elim
            · rw [if_neg hc] at q; exact q.elim
      · subst hb
        exact wManyN_ok r (fun q hq => hm q (by simp [hq])) (fun c y b hy => ht c y b (by simp at hy ⊢; exact .inr hy)) s hR x q
theorem rtOnly_post {K : PySem.W.Frag} {mg : Str → Option Value} {W : WX} {as : List Addr} {H : Hp} {r : SR} {E : Ends} (p : PostS K mg W as H (rtOnly r) E) : PostS K mg W as H r E := by
  cases r with
  | rt z h => exact p
  | _ => exact p.elim
/-- the suites of the clauses -/
inductive DHn (X : Cx) : List ExceptHandler → List Hd → Prop
  | nil : DHn X [] []
  | one {x : Str} {m : SM} {b₀ : Stmt} {suite : List Stmt} {np pos' : Pos} {hds : List ExceptHandler} {l : List Hd} (gC : X.mg x = some (.ref (He.ga X.K x))) (hg : Gl X x) (hdb : (x == ("__debug__" : Str)) = false)
      (hsu : ∀ (a : Addr) (oe : Obj) (pn : List (Addr × Obj)), DSs (X.suite a ((a, oe) :: pn)) W0 (b₀ :: suite) m) (r : DHn X hds l) : DHn X (.ExceptHandler (some (.Name x np)) none (b₀ :: suite) pos' :: hds) (⟨x, none, fun _ => m⟩ :: l)
  | as {x n : Str} {i : Nat} {m : D → SM} {b₀ : Stmt} {suite : List Stmt} {np pos' : Pos} {hds : List ExceptHandler} {l : List Hd} (gC : X.mg x = some (.ref (He.ga X.K x))) (hg : Gl X x) (hdb : (x == ("__debug__" : Str)) = false) (hi : X.N[i]? = some n) (hl : X.env.kindOf n = some .local)
      (hsu : ∀ (a : Addr) (oe : Obj) (cls : Value) (d : Option Addr) (pn : List (Addr × Obj)), Zc cls d oe → (∃ vs, oe.data = .fields vs) → PSs (X.suite a ((a, oe) :: pn)) (b₀ :: suite) (tsX X.K X.mg a cls d i (He.ga X.K x) (fieldOf x) m)) (r : DHn X hds l) :
      DHn X (.ExceptHandler (some (.Name x np)) (some n) (b₀ :: suite) pos' :: hds) (⟨x, some i, fun p => match p with | some d => m d | none => sNo⟩ :: l)
theorem DHn.ok {hds : List ExceptHandler} {l : List Hd} (d : DHn X hds l) : MixOk X hds (lHd X X.N.length l) := by
  induction d with
  | nil => exact .nil
  | one gC hg hdb hsu r ih => exact .one ⟨hg, hdb, .inl gC⟩ (fun a oe cls d pn _ _ => ⟨fun pins s σ H Q I q => (hsu a oe pn).run pins s σ H Q I (q I.len)⟩) ih
  | @as x n i m b₀ suite np pos' hds l gC hg hdb hi hl hsu r ih =>
    refine MixOk.as (ts := fun a cls d D σ H => σ.length = X.N.length → ∃ as ds h pd, StR X.K H as ds h σ ∧ XF X.K a cls d i (He.ga X.K x) (fieldOf x) as H σ pd ∧ PostS X.K X.mg W0 as H (rtOnly (m pd ds h)) D) ⟨hg, hdb, .inl gC⟩ hi hl (fun a oe cls d pn z1 z2 => ⟨fun pins s σ H Q I q => ?_⟩) ih
    obtain ⟨as, ds, h, pd, st, xf, post⟩ := q I.len
    exact (hsu a oe cls d pn z1 z2).run pins s σ H Q I ⟨as, ds, h, pd, st, xf, rtOnly_post post⟩
theorem DHn.names {hds : List ExceptHandler} {l : List Hd} (d : DHn X hds l) : ∀ q ∈ l, (q.nm = none → ∀ p, q.m p = q.m none) ∧ ∀ i, q.nm = some i → i < X.N.length := by
  induction d with
  | nil => intro q hq; cases hq
  | one gC hg hdb hsu r ih =>
    intro q hq
    rcases List.mem_cons.mp hq with rfl | hq
    · exact ⟨fun _ _ => rfl, (fun i e => by cases e)⟩
    · exact ih q hq
  | as gC hg hdb hi hl hsu r ih =>
    intro q hq
    rcases List.mem_cons.mp hq with rfl | hq
    · exact ⟨(fun e => by cases e), fun i e => by cases e; exact (List.getElem?_eq_some_iff.mp hi).1⟩
    · exact ih q hq
theorem met_givesN {Ng : List Str} {x a q : Str} {sg : Scope} {g : Addr} {cdg : Value} {p1 p2 p3 pos : Pos} {tab : Str → Str → Option Bool} {rest tail : List Stmt} {h0 : ExceptHandler} {hds : List ExceptHandler} {mr mt : SM} {hs : List Hd}
    (ht : TabOk X.K X.mg tab (hs.map (·.y))) (nd : Ng.Nodup)
    (hr : ∀ (s : Shared) (H : Hp) (W : WX) (pn : List (Addr × Obj)) (xe : Value → Shared → Prop), Takes ((metCx X Ng x sg g cdg s H).tr pn xe) W → DSs ((metCx X Ng x sg g cdg s H).tr pn xe) W rest mr)
    (hh : ∀ (s : Shared) (H : Hp), DHn (metCx X Ng x sg g cdg s H) (h0 :: hds) hs)
    (hm : ∀ (s : Shared) (H : Hp), DSs (metCx X Ng x sg g cdg s H) W0 tail mt) (hN : Ng ≠ []) :
    LamX.GivesTo X Ng x sg g cdg (.Try (.Expr (.Call (.Name a p1) [] [] p2) p3 :: rest) (h0 :: hds) [] [] pos :: tail) a q (TTmet X.K X.mg (mMetN Ng.length tab mr hs mt)) := by
  intro f c' s H Q tl act hc ⟨as, h, th, hh0, htl, post⟩
  have hst : (L2.start Ng [V.ref f])[0]? = some (some (V.ref f)) := by
    unfold L2.start
    rfl
  have hlen : (L2.start Ng [V.ref f]).length = Ng.length := by
    unfold L2.start
    cases Ng with
    | nil => exact absurd rfl hN
    | cons b l => simp
  let Z := metCx X Ng x sg g cdg s H
  let t1 : WX → TS := fun W D σ H => ∃ Ech : XK, (∀ cls d σ' H', Ech cls d H' → W cls d σ' H') ∧ σ[0]? = some (some (.ref f)) ∧ H c' = some (LamX.CodeO c' q) ∧ tl Ech H (fun _ H2 => D.nx σ H2)
  have body : PSs Z (.Try (.Expr (.Call (.Name a p1) [] [] p2) p3 :: rest) (h0 :: hds) [] [] pos :: tail) _ :=
    pss_cons (ps_try_mix (X := Z) (Wo := fun _ _ σ _ => σ.length = Ng.length → False) (tb := fun W => tSeq (t1 W) (tsM X.K X.mg W mr)) rfl rfl nd (takes_len rfl) (fun W pn xe tk _ =>
      pss_cons ⟨fun pins s' σ H' D I h' => by
        obtain ⟨Ech, hW, e1, e2, e3⟩ := h'
        exact (ps_expr (act W pn xe Ech p1 p2 tk hW) (by rfl)).run pins s' σ H' D I ⟨e1, e2, e3⟩⟩ (hr s H W pn xe tk)) (hh s H).ok) (hm s H)
  refine ⟨_, body, ?_⟩
  have P : PostS X.K X.mg W0 as H (sSeq (sTryN tab (sSeq (sThk th) mr) hs) mt (List.replicate Ng.length none) h) { nx := fun _ H' => Q .non H', rt := Q } := by
    refine finG_ok X.K X.mg as H _ Q (fun _ _ _ => False) ?_
    rw [hh0.len]
    exact post
  have P1 := seq_post P
  have names := (hh s H).names
  obtain ⟨D1, hD⟩ : ∃ D1 : Ends, D1 = { nx := fun σ H => tsM X.K X.mg W0 mt { nx := fun _ H' => Q .non H', rt := Q } σ H, rt := Q } := ⟨_, rfl⟩
  let Wm : WX := wMany X.K (fun _ _ σ _ => σ.length = Ng.length → False) D1 (lHd X Ng.length hs)
  suffices goal : t1 Wm { D1 with nx := fun σ H => tsM X.K X.mg Wm mr D1 σ H } (L2.start Ng [V.ref f]) H by
    subst hD
    exact goal
  refine ⟨fun cls d H' => ∀ σ', Wm cls d σ' H', fun cls d σ' H' z => z σ', hst, hc, htl _ H as h _ .refl hh0 ?_⟩
  have P2 : PostS X.K X.mg W0 as H (match sSeq (sThk th) mr (List.replicate Ng.length none) h with
    | .ex c p ds2 h2 => hdlN tab c p hs ds2 h2
    | r => r) D1 := by rw [hD]; exact P1
  unfold sSeq sThk at P2
  cases et : th h with
  | no => rw [et] at P2; exact P2.elim
  | ex c p h1 =>
    rw [et] at P2
    exact fun cls dx H' as' g hr x σ' => wManyN_ok hs names ht (fun hl => ⟨EvR.unk hl, hr⟩) hr x (PostS.grow g P2)
  | ok d h1 =>
    rw [et] at P2
    intro v H' as' g _ hr
    refine ⟨as', _, h1, ⟨EvR.unk hlen, hr⟩, ?_⟩
    have P3 := PostS.grow g P2
    simp only at P3
    cases em : mr (List.replicate Ng.length none) h1 with
    | ex c p d2 h2 =>
      rw [em] at P3
      exact fun σ' cls dx H2 as2 g2 s2 x2 => wManyN_ok hs names ht (fun _ => s2) s2.heap x2 (PostS.grow g2 P3)
    | nx _ _ => rw [em] at P3; exact P3
    | rt _ _ => rw [em] at P3; exact P3
    | bk _ _ => rw [em] at P3; exact P3
    | ct _ _ => rw [em] at P3; exact P3
    | no => rw [em] at P3; exact P3
end
end DL

set_option Elab.async false
set_option linter.all false
set_option maxRecDepth 100000
set_option maxHeartbeats 4000000
namespace DL
open PySem PySem.Spec PyProof.Rows L2

/-! ### defs called where nothing is being shown (no repr is under way) -/
structure FnG (P : Program) (w : World) (K : PySem.W.Frag) (mg : Str → Option Value) (base : Heap) (CX : CXT) (k : Nat) (f : Addr) (fd : FuncData) (ps : List Str) (sp : Sp) : Prop where
  len : ∀ vs H Q E, sp vs H Q E → vs.length = ps.length
  run : ∀ (A : Around) (outer : List Env) (s : Shared) (H : Hp) (args : Args) (us : List Value) (vs : List V) (Q : VK) (E : XK), A.guards = some [] → Room k A → Env0 P w K mg base A outer s H → BindsTo s fd args (ps.zip us) → Vals vs us → sp vs H Q E →
    codeAny (model P w) A (.call (.ref f) args) (CR CX outer P w H s Q E) s
section
variable {P : Program} {w : World} {K : PySem.W.Frag} {mg : Str → Option Value} {base : Heap} {CX : CXT}
theorem fn_ofG {k : Nat} {f : Addr} {name qual : Str} {params : Arguments} {body : List Stmt} {scope : Scope} {dV kV doc pm cdv ct oc : Value} {an od : Option Addr} {osl : Array (Option Value)} {N ps : List Str} {sp : Sp}
    (lk : K.lookup f = some ⟨oc, od, .func (PySem.W.fnOf name qual params body scope dV kV doc pm an cdv ct), osl⟩) (code : PySem.W.codeIn K cdv qual = true) (S : FnScope N ps scope) (len : ∀ vs H Q E, sp vs H Q E → vs.length = ps.length)
    (bod : ∀ (A : Around) (outer : List Env) (s : Shared) (H : Hp) (vs : List V) (Q : VK) (E : XK), A.guards = some [] → Room k (A.deeper (envOfC qual scope s.heap.objs.size f cdv)) → sp vs H Q E →
      ∃ t, PSs (cxOf CX P w K mg base N qual scope f cdv A outer s H E) body t ∧ t { nx := fun _ H' => Q .non H', rt := Q } (start N vs) H) :
    FnG P w K mg base CX (k + 1) f (PySem.W.fnOf name qual params body scope dV kV doc pm an cdv ct) ps sp := by
  refine ⟨len, fun A outer s H args us vs Q E gu room env bnd rel want => ?_⟩
  have stay : ∀ b o, base.get? b = some o → s.heap.get? b = some o := fun b o e => (env.bs b o e).1
  have kin : K.In s.heap := env.mod.kin.keeps stay
  refine codeAny_call_function room.depth (kin _ _ lk) rfl S.co S.gen rfl (PySem.W.codeRec_of kin code) (bnd _ _ _ _ (wpAny_newFunctionEnv_cells S.kind (fun q hq => ?_) fun e he s1 ic => ?_))
  · rcases S.par q.1 (List.of_mem_zip (show (q.1, q.2) ∈ _ from hq)).1 with h | h
    · exact .inl h
    · exact .inr ⟨h, PySem.W.cellsFrom_some _ _ _ (.inl h)⟩
  · subst he
    obtain ⟨t, ht, hq⟩ := bod A outer s H vs Q E gu (room.deeper _) want
    have I := inv_start (CX := CX) (E := E) S room.hd env (len _ _ _ _ want) rel ic
    refine ⟨(env.mod.nolimit.keeps stay).keeps ic.toInCall.keep, codeAny_func (wpAny_mono (ht.run [] s1 (start N vs) H _ I hq) (fun fl s' z => ?_) fun _ _ z => z)⟩
    match fl, z with
    | .ret _, ⟨v, _, H', J, rv, q⟩ => exact ⟨v, H', J.os, J.bare, J.base, J.hok, rv, q⟩
    | .next, ⟨_, H', J, q⟩ => exact ⟨V.non, H', J.os, J.bare, J.base, J.hok, rfl, q⟩
    | .brk, ⟨_, _, _, q⟩ => exact q.elim
    | .cont, ⟨_, _, _, q⟩ => exact q.elim
end
/-- a def's promise, told by a mirror -/
structure FDG (P : Program) (w : World) (K : PySem.W.Frag) (mg : Str → Option Value) (base : Heap) (k : Nat) (x : Str) (np : Nat) (F : List D → Hs → R D) : Prop where
  ex : ∃ f fd ps, mg x = some (.ref f) ∧ PySem.W.keepIn K (.ref f) = true ∧ Binds K fd ps [] ∧ FnG P w K mg base (L2.CX P w) k f fd ps (spD K mg np F)
section
variable {P : Program} {w : World} {K : PySem.W.Frag} {mg : Str → Option Value} {base : Heap}
theorem fn_mkG (d : He.DefD) (N ps : List Str) (k np nl : Nat) {fd : FuncData} {m : SM} {fin : Nat → SR → R D} (hnp : ps.length = np) (hnl : N.length - ps.length = nl) (F : FunD K d.name d.qual d.params d.body d.scope (d.dvs K) (d.kws K) (He.fAd K d.at_) fd) (hf : FinOk fin) (S : FnScope N ps d.scope)
    (hbody : ∀ (cdv : Value) (A : Around) (outer : List Env) (s : Shared) (H : Hp) (E : XK), A.guards = some [] → cdv = .ref (He.cT K d.at_).1 → Room k (A.deeper (envOfC d.qual d.scope s.heap.objs.size (He.fAd K d.at_) cdv)) →
      DSs (cxOf (L2.CX P w) P w K mg base N d.qual d.scope (He.fAd K d.at_) cdv A outer s H E) (fun cls d _ H => E cls d H) d.body m) : FnG P w K mg base (L2.CX P w) (k + 1) (He.fAd K d.at_) fd ps (spD K mg np (mkF np nl fin m)) := by
  subst hnp hnl
  obtain ⟨oc, od, dV, kV, doc, pm, an, cdv, ct, osl, rfl, lk, hcd, _, _⟩ := F.ex
  obtain ⟨c, rfl⟩ := He.codeIn_ref hcd
  have hc : (He.cT K d.at_).1 = c := He.codeOf_eq lk rfl
  refine fn_ofG lk hcd S (fun vs H Q E h => h.1) fun A outer s H vs Q E gu hr h => ⟨_, hbody _ A outer s H E gu (by rw [hc]) hr, ?_⟩
  obtain ⟨hl, as, ds, hh, r, hr2, p⟩ := h
  have e1 : ds.length = ps.length := by rw [r.length]; exact hl
  unfold mkF at p
  rw [if_pos e1] at p
  refine ⟨as, ds.map some ++ List.replicate (N.length - ps.length) none, hh, ⟨?_, hr2⟩, ?_⟩
  · unfold L2.start
    rw [hl]
    exact (EvR.start r).append (EvR.nones _)
  · rw [← hr2.len] at p
    exact hf K mg as H _ Q E p
theorem fd_mkG (d : He.DefD) (N ps : List Str) (k np nl : Nat) {x : Str} {fd : FuncData} {m : SM} {fin : Nat → SR → R D} (hnp : ps.length = np) (hnl : N.length - ps.length = nl) (F : FunD K d.name d.qual d.params d.body d.scope (d.dvs K) (d.kws K) (He.fAd K d.at_) fd) (hm : mg x = some (.ref (He.fAd K d.at_))) (hf : FinOk fin) (S : FnScope N ps d.scope)
    (hb : Binds K fd ps [])
    (hbody : ∀ (cdv : Value) (A : Around) (outer : List Env) (s : Shared) (H : Hp) (E : XK), A.guards = some [] → cdv = .ref (He.cT K d.at_).1 → Room k (A.deeper (envOfC d.qual d.scope s.heap.objs.size (He.fAd K d.at_) cdv)) →
      DSs (cxOf (L2.CX P w) P w K mg base N d.qual d.scope (He.fAd K d.at_) cdv A outer s H E) (fun cls d _ H => E cls d H) d.body m) : FDG P w K mg base (k + 1) x np (mkF np nl fin m) :=
  ⟨_, fd, ps, hm, F.kp, hb, fn_mkG d N ps k np nl hnp hnl F hf S hbody⟩
/-- the law's own def lets nothing out -/
theorem fn_quietG {f : Addr} {fd : FuncData} {ps : List Str} {k : Nat} {sp : Sp} (F : FnG P w K mg base (L2.CX P w) k f fd ps sp) : FnG P w K mg base CX0 k f fd ps (fun vs H Q _ => sp vs H Q E0) := by
  refine ⟨fun vs H Q E h => F.len vs H Q E0 h, fun A outer s H args us vs Q E gu hr e0 hb hv hs => codeAny_mono (F.run A outer s H args us vs Q E0 gu hr e0 hb hv hs) fun r s' q => ?_⟩
  cases r with
  | error e =>
    obtain ⟨_, _, _, _, _, _, _, _, _, _, _, _, z⟩ := (show L2.CX P w outer H s E0 e s' from q)
    exact z.elim
  | ok fl => cases fl <;> exact q
end
section
variable {X : Cx} {W : WX} {pos p : Pos} {e : Expr} {es : List Expr} {me : M (List D)}
theorem de_callG {k np : Nat} {x : Str} {F : List D → Hs → R D} (G : FDG X.prog X.w X.K X.mg X.base k x np F) (gu : X.A.guards = some []) (hr : Room k X.A) (tk : Takes X W) (ha : DA X W (e :: es) me) (hg : Gl X x := by rfl) (hdb : (x == ("__debug__" : Str)) = false := by decide)
    (he : starEach (e :: es) X.env = (false, eval e X.env) :: starEach es X.env := by rfl) (hpl : (backTo pos (starEach es X.env)).any (·.1) = false := by rfl) : DE X W (.Call (.Name x p) (e :: es) [] pos) (mCall np F me) := by
  obtain ⟨f, fd, ps, hm, hk, hb, ok⟩ := G.ex
  refine ⟨fun pins s σ H Q I ⟨as, ds, h, st, q⟩ => ?_⟩
  refine wpAny_Call_Name_kw (ld_glob I hg hm ?_ hdb)
  have args := ha.run pos pins s σ H (fun vs H1 => spD X.K X.mg np F vs H1 Q (WE W σ)) I ⟨as, ds, h, st, PostE.bindA q fun xs h1 vs H1 as1 f1 r1 hr1 p1 => by
    by_cases hn : xs.length = np
    · rw [if_pos hn] at p1
      exact ⟨by rw [← r1.length]; exact hn, as1, xs, h1, r1, hr1, PostC.ofE p1⟩
    · rw [if_neg hn] at p1; exact p1.elim⟩
  refine PySem.W.callWith_K (h₀ := X.base) I.ok.mod.kin hk (thn args fun us s2 ⟨vs, H2, I2, r2, q2⟩ => ⟨I2.kIn, ?_⟩) he hpl
  have bnd := hb s2 us I2.kIn (by rw [List.append_nil, ← r2.length]; exact ok.len _ _ _ _ q2)
  rw [List.append_nil] at bnd
  show wpAny _ _ (call (.ref f) us) _ _ _
  refine wpAny_call (codeAny_mono (ok.run X.A X.stack s2 H2 ⟨us, []⟩ us vs Q (WE W σ) gu hr I2.env0 bnd r2 q2) fun r s' z => ?_)
  cases r with
  | error e => exact passAt tk σ pins H2 s2 e s' I2 z
  | ok fl =>
    cases fl with
    | ret u => exact I2.after z
    | next => exact z.elim
    | brk => exact z.elim
    | cont => exact z.elim
end
/-! ### repr of tuples and lists, where nothing is being shown -/
def reprX : D → Option D
  | .tup l => if okE 50 (.tup l) && (toPy (.tup l)).showable && !(toPy (.tup l)).hasDict && decide ((toPy (.tup l)).shown.length ≤ 16777216) then some (.str (toPy (.tup l)).shown) else none
  | .lst l => if okE 50 (.lst l) && (toPy (.lst l)).showable && !(toPy (.lst l)).hasDict && decide ((toPy (.lst l)).shown.length ≤ 16777216) then some (.str (toPy (.lst l)).shown) else none
  | d => repr1 d
def rReprX (K : PySem.W.Frag) : List V → Hp → VK → Prop := fun xs H Q => rRepr1 xs H Q ∨ ∃ a d, xs = [.ref a] ∧ Dp K H (.ref a) d ∧ d.showable = true ∧ d.hasDict = false ∧ d.depth ≤ 50 ∧ d.shown.length ≤ sizeLine ∧ Q (.str d.shown) H
theorem call_reprX {X : Cx} (gu : X.A.guards = some []) (hu : X.A.units + 64 < cLine) : CallR X (.builtin "repr") (rReprX X.K) := by
  intro pins s σ H xs us Q I r h
  rcases h with h | ⟨a, d, rfl, dp, h1, h2, h3, h4, q⟩
  · exact call_repr1 pins s σ H xs us Q I r h
  · obtain ⟨u, rfl, ru⟩ := vals1 r
    obtain rfl : u = Value.ref a := ru
    obtain ⟨as, rd⟩ := Dp.reads I d _ _ dp rfl
    exact repr_of_reads' rd h1 (fun z => absurd z (by rw [h2]; decide)) gu (by omega) (fun b o e => e) (fun h' u tk k => ⟨.str _, H, I.kept (t' := tk) k, ⟨_, rfl⟩, q⟩) h4
theorem c_reprX {K : PySem.W.Frag} : C1 K reprX (rReprX K) := by
  intro as H x z v Q n e r k
  have seq : ∀ l : List D, (x = .tup l ∨ x = .lst l) → (okE 50 x && (toPy x).showable && !(toPy x).hasDict && decide ((toPy x).shown.length ≤ 16777216)) = true → z = .str (toPy x).shown → rReprX K [v] H Q := by
    intro l hx hc hz
    simp only [Bool.and_eq_true, decide_eq_true_eq, Bool.not_eq_true'] at hc
    obtain ⟨⟨⟨h1, h2⟩, h3⟩, h4⟩ := hc
    obtain ⟨a, rfl⟩ : ∃ a, v = .ref a := by
      rcases hx with rfl | rfl
      · cases r with
        | val r => cases r; exact ⟨_, rfl⟩
        | cell r => exact ⟨_, rfl⟩
      · cases r with
        | val r => cases r; exact ⟨_, rfl⟩
        | cell r => exact ⟨_, rfl⟩
    subst hz
    exact .inr ⟨a, toPy x, rfl, okE_rt h1 r, h2, h3, (okE_lay h1).2, by rw [sizeLine_eq]; exact h4, k _ H (Same.refl H) (.str _)⟩
  cases x with
  | tup l =>
    simp only [reprX] at e
    split at e
    · rename_i hc
      cases e
      exact seq l (.inl rfl) hc rfl
    · cases e
  | lst l =>
    simp only [reprX] at e
    split at e
    · rename_i hc
      cases e
      exact seq l (.inr rfl) hc rfl
    · cases e
  | _ =>
    refine .inl (c_repr as H _ z v Q n ?_ r k)
    exact e
theorem b_reprX {X : Cx} (gu : X.A.guards = some []) (hu : X.A.units + 64 < cLine) (h : X.mg "repr" = none) : Bi X "repr" (on1 reprX) := ⟨.inl ⟨_, _, call_reprX gu hu, c_reprX.s, h, by decide +kernel⟩⟩
theorem dx_bi {X : Cx} {a C : Addr} {cls : Value} {d : Option Addr} {i : Nat} {fld : Str} {e : Expr} {es : List Expr} {ms : D → M (List D)} {pos p : Pos} (gu : X.A.guards = some []) (hu : X.A.units + 64 < cLine) (h : X.mg "repr" = none) (ha : DXA X a cls d i C fld (e :: es) ms) (hg : Gl X "repr" := by rfl)
    (he : starEach (e :: es) X.env = (false, eval e X.env) :: starEach es X.env := by rfl) (hpl : (backTo pos (starEach es X.env)).any (·.1) = false := by rfl) : DX X a cls d i C fld (.Call (.Name "repr" p) (e :: es) [] pos) (fun pd => mB (on1 reprX) (ms pd)) :=
  dx_callB (call_reprX gu hu) c_reprX.s h (by decide +kernel) ha hg (by decide) (by decide) he hpl
end DL

set_option Elab.async false
set_option linter.all false
set_option maxRecDepth 100000
set_option maxHeartbeats 4000000
namespace DL
open PySem PySem.Spec PyProof.Rows L2

/-! ### what is told of the top: statics, defs that close over their class -/
abbrev FnC : Type := Option (Str × Str × Arguments × FuncBody × Scope × Addr × List Str × Addr)
def fnC (K : PySem.W.Frag) (p : Str × Option Str) : FnC := match K.lookup (He.fAd K p) with
  | some ⟨_, _, .func fd, _⟩ => some (fd.name, fd.qualname, fd.params, fd.body, fd.scope, fd.globals, fd.closure.map (·.1), fd.builtins)
  | _ => none
def valC (d : He.DefD) : FnC := some (d.name, d.qual, d.params, .stmts d.body, d.scope, mainGlobals, ["__class__"], builtinsNs)
def asY (_ : Addr → Option Obj) (n : Nat) : List Addr := mainGlobals :: cStatics :: (List.range n).reverse
abbrev fgY (n : Nat) (g : Addr → Option Obj) : PySem.W.Frag := He.frT g (asY g n)
structure SaysY (fa : List He.Fa) (fn : List He.DefD) (tf : List He.Defn) (ex : PySem.W.Frag → Bool) (cs : List He.DefD) (w : World) (h : Heap) (K : PySem.W.Frag) : Prop where
  x : He.SaysX fa fn [] tf ex w h K
  c : (cs.map fun d => fnC K d.at_) = cs.map valC
abbrev AlY : Type := He.AlX × List FnC
def obsY (n : Nat) (fa : List He.Fa) (fn : List He.DefD) (tf : List He.Defn) (ex : PySem.W.Frag → Bool) (cs : List He.DefD) (g : Addr → Option Obj) : AlY :=
  ((He.obsT fa fn [] (fgY n g), ex (fgY n g) && He.tabsB g tf (fgY n g)), cs.map fun d => fnC (fgY n g) d.at_)
def valY (fn : List He.DefD) (cs : List He.DefD) (w : World) : AlY := ((He.valT fn [] w, true), cs.map valC)
theorem saysX_any {fa : List He.Fa} {fn : List He.DefD} {tf : List He.Defn} {ex : PySem.W.Frag → Bool} {w : World} {h : Heap} {as : List Addr} (h1 : He.obsT fa fn [] (He.frT h.get? as) = He.valT fn [] w) (h2 : (ex (He.frT h.get? as) && He.tabsB h.get? tf (He.frT h.get? as)) = true) :
    He.SaysX fa fn [] tf ex w h (He.frT h.get? as) := by
  rw [Bool.and_eq_true] at h2
  have each : ∀ p ∈ tf, PySem.W.codeHdIn (He.frT h.get? as) (He.cT (He.frT h.get? as) p).1 (He.cT (He.frT h.get? as) p).2 = true ∧ ∃ o, h.get? (He.cT (He.frT h.get? as) p).2 = some o ∧ He.emptyTab o = true := by
    intro p hp
    have z := List.all_eq_true.mp h2.2 p hp
    rw [Bool.and_eq_true] at z
    refine ⟨z.1, ?_⟩
    have z2 := z.2
    split at z2
    · rename_i o eo
      exact ⟨o, eo, z2⟩
    · cases z2
  refine ⟨h1, h2.1, fun p hp => (each p hp).1, fun p hp => ?_, fun p hp => ?_⟩
  · obtain ⟨_, o, eo, te⟩ := each p hp
    exact He.frT_none eo te
  · obtain ⟨_, o, eo, te⟩ := each p hp
    exact eo.trans (congrArg some (He.emptyTab_eq te))
def hookY (n : Nat) (fa : List He.Fa) (fn : List He.DefD) (tf : List He.Defn) (ex : PySem.W.Frag → Bool) (cs : List He.DefD) : PySem.W.Hook where
  α := AlY
  obs := fun s => obsY n fa fn tf ex cs s.heap.get?
  val := valY fn cs
  says := fun w h => ∃ K : PySem.W.Frag, K.In h ∧ SaysY fa fn tf ex cs w h K
  of := fun w s e => ⟨_, He.frT_in, saysX_any (congrArg (fun z : AlY => z.1.1) e) (congrArg (fun z : AlY => z.1.2) e), congrArg (fun z : AlY => z.2) e⟩
  keeps := fun _ _ _ ⟨K, hK, y⟩ k => ⟨K, hK.keeps k, ⟨y.x.t, y.x.more, y.x.hd, y.x.out, fun p hp => k _ _ (y.x.empty p hp)⟩, y.c⟩
theorem obsY_eq {n : Nat} {fa : List He.Fa} {fn : List He.DefD} {tf : List He.Defn} {ex : PySem.W.Frag → Bool} {cs : List He.DefD} {g : Addr → Option Obj} {s : Shared} (h : ∀ a, g a = s.heap.get? a) : obsY n fa fn tf ex cs g = (hookY n fa fn tf ex cs).obs s := by
  cases (show g = s.heap.get? from funext h)
  rfl
/-! ### the class of an error, by what is told -/
open PySem.W in
def exsB (x fld : Str) (B i newId : String) (bmB : List Value) (file : Str) (K : Frag) : Bool := let C := He.ga K x; let f := He.ma K C "__init__"
  (keepIn K (.ref C) && decide (subIn K (.ref C) (.type "BaseException") = some true) && decide (typeIn K (.ref C) = some (.type "type")) && excInitIn K C bmB newId && decide (subIn K (.ref C) (.type B) = some true)) &&
  (decide (findIn K (.ref C) "__init__" = some (some (.ref f))) && decide (typeIn K (.ref f) = some (.type "function")) && (match K.lookup f with
    | some ⟨_, _, .func fd, _⟩ => (match fd.code, fd.closure, fd.defaults with
      | .ref cda, [(_, cc)], .none => codeIn K (.ref cda) fd.qualname && (match K.lookup cda with
        | some ⟨_, _, .fields vs, _⟩ => (match (vs[2]? : Option Value) with
          | some (Value.str fl _) => decide (fl = (file : Str))
          | _ => false)
        | _ => false) && (match K.lookup cc with
        | some ⟨_, _, .cell (some (.ref D)), _⟩ => decide (D = C)
        | _ => false)
      | _, _, _ => false)
    | _ => false)) &&
  ((clsIn K C).isSome && decide (mroIn K C (.ref C) = some true) && decide (nsIn K cStatics "thirdparty.any" = some none) && decide (ks_superIn K C C "__init__" = some (some (.builtin i))) && decide (findIn K (.ref C) "__setattr__" = some (some (.builtin "object.__setattr__")))) &&
  (excOver K C bmB && decide (takerIn K C fld = some none) && hasDictIn K C)
section
variable {P : Program} {K : PySem.W.Frag} {x fld y : Str} {B i newId : String} {bmB : List Value} {file : Str}
theorem exC_ok {d : He.DefD} {p0 p1 p2 p3 p4 p5 p6 p7 p8 p9 : Pos} {ar : Arg} (at_ : d.at_ = (x, some ("__init__" : Str))) (e : fnC K d.at_ = valC d) (b : exsB x fld B i newId bmB file K = true)
    (FB : ExBase B i newId bmB) (KF : PySem.W.KxsFacts B i) (SF : StoreFacts B bmB "object.__setattr__" "object") (hn : d.name = "__init__") (hb : d.body = initBody fld y p0 p1 p2 p3 p4 p5 p6 p7 p8 p9) (fil : ((P.main.file : Str) == file) = true)
    (top : (P.main.scope.names.lookup ("super" : Str)).isSome = false)
    (bnd : ∀ (kV doc pm : Value) (an : Option Addr) (cdv ct : Value) (cc : Addr) (us : List Value), us.length = 2 → bindArgs (PySem.W.fnX "__init__" d.qual d.params d.body d.scope [("__class__", cc)] .none kV doc pm an cdv ct) ⟨us, []⟩ = pure ([("self" : Str), y].zip us))
    (hp : (d.params.posonlyargs ++ d.params.args).head? = some ar) (har : ar.arg = "self") (ny : ("self" : Str) ≠ y)
    (ks : d.scope.names.lookup ("super" : Str) = some .globalImplicit) (kc : d.scope.names.lookup ("__class__" : Str) = some .free) (ka : d.scope.names.lookup ("self" : Str) = some .local) (ky : d.scope.names.lookup y = some .local)
    (nc : ∀ x ∈ d.scope.names, x.2 ≠ .cell) (co : d.scope.isCoroutine = false) (gen : d.scope.isGenerator = false) (kind : d.scope.kind = .function) (dy : (y == ("__debug__" : Str)) = false)
    (int : ∀ (kV doc pm : Value) (an : Option Addr) (cdv ct : Value) (cc L fI : Addr), interactive (callEnv (PySem.W.fnX "__init__" d.qual d.params d.body d.scope [("__class__", cc)] .none kV doc pm an cdv ct) L fI) = false)
    (ev : ∀ (kV doc pm : Value) (an : Option Addr) (cdv ct : Value) (cc L fI : Addr), ∃ pl, eval (.Call (.Attribute (.Call (.Name "super" p0) [] [] p1) "__init__" p2) [.Name y p3] [] p4) (callEnv (PySem.W.fnX "__init__" d.qual d.params d.body d.scope [("__class__", cc)] .none kV doc pm an cdv ct) L fI) = (do
      let ov ← attributeBase (.Call (.Name "super" p0) [] [] p1) "__init__" (callEnv (PySem.W.fnX "__init__" d.qual d.params d.body d.scope [("__class__", cc)] .none kV doc pm an cdv ct) L fI) (eval (.Call (.Name "super" p0) [] [] p1) (callEnv (PySem.W.fnX "__init__" d.qual d.params d.body d.scope [("__class__", cc)] .none kV doc pm an cdv ct) L fI))
      standAt p2.atName
      let (f, first) ← holding [ov] (getMethod ov "__init__" pl)
      callWith p4 f first (backTo p4 (starEach [.Name y p3] (callEnv (PySem.W.fnX "__init__" d.qual d.params d.body d.scope [("__class__", cc)] .none kV doc pm an cdv ct) L fI))) [])) :
    ExC P K (He.ga K x) fld := by
  unfold exsB at b
  simp only [Bool.and_eq_true, decide_eq_true_eq] at b
  obtain ⟨⟨⟨⟨⟨⟨⟨b1, b2⟩, b3⟩, b4⟩, b5⟩, ⟨c1, c2⟩, c3⟩, ⟨⟨⟨d1, d2⟩, d3⟩, d4⟩, d5⟩, ⟨e1, e2⟩, e3⟩ := b
  have ef : He.fAd K d.at_ = He.ma K (He.ga K x) "__init__" := by rw [at_]; rfl
  unfold fnC at e
  rw [ef] at e
  refine ⟨b1, b2, b3, ?_⟩
  split at c3
  · rename_i oc od fd osl lk
    rw [lk] at e
    obtain ⟨n1, n2, n3, n4, n5, n6, n7, n8, n9, n10, n11, n12, n13, n14, n15⟩ := fd
    simp only [valC, Option.some.injEq, Prod.mk.injEq] at e
    obtain ⟨z1, z2, z3, z4, z5, z6, z7, z8⟩ := e
    split at c3
    · rename_i cda nm cc q1 q2 q3
      simp only [Bool.and_eq_true] at c3
      obtain ⟨⟨f1, f2⟩, f3⟩ := c3
      split at f2
      · rename_i ccl cdd vs ccs lc
        split at f2
        · rename_i fl tf v2
          split at f3
          · rename_i cl cld D csl cel
            cases of_decide_eq_true f2
            cases of_decide_eq_true f3
            obtain ⟨cd, hcd⟩ := Option.isSome_iff_exists.mp d1
            dsimp only at q1 q2 q3 z1 z2 z3 z4 z5 z6 z7 z8 f1
            subst z1 z2 z3 z4 z5 z6 z8 q1 q2 q3
            simp only [List.map_cons, List.map_nil, List.cons.injEq, and_true] at z7
            subst z7
            have hfd : ExD.fd ⟨B, i, newId, bmB, He.ma K (He.ga K x) "__init__", cc, cda, y, d.qual, d.params, d.scope, .none, n9, n10, n11, n14, oc, ccl, cl, n12, od, cdd, cld, osl, ccs, csl, vs, file, tf, p0, p1, p2, p3, p4, p5, p6, p7, p8, p9, ar, cd⟩ fld =
                PySem.W.fnX "__init__" d.qual d.params d.body d.scope [("__class__", cc)] .none n9 n10 n11 n12 (.ref cda) n14 := by
              rw [hb]
              rfl
            refine ⟨⟨B, i, newId, bmB, He.ma K (He.ga K x) "__init__", cc, cda, y, d.qual, d.params, d.scope, .none, n9, n10, n11, n14, oc, ccl, cl, n12, od, cdd, cld, osl, ccs, csl, vs, file, tf, p0, p1, p2, p3, p4, p5, p6, p7, p8, p9, ar, cd⟩, ?_⟩
            exact {
              FB := FB, KF := KF, SF := SF, ini := b4, sB := b5, at_ := c1, tyI := c2
              lk := by
                rw [hfd]
                rw [hn] at lk
                exact lk
              cd := f1, lc := lc, v2 := v2, fil := fil, cel := cel, cls := hcd, mr := d2
              bnd := fun s e u => by
                rw [hfd]
                exact BindsTo.of_eq (bnd n9 n10 n11 n12 (.ref cda) n14 cc [.ref e, u] rfl)
              hp := hp, ar := har, ny := ny, ks := ks, kc := kc, ka := ka, ky := ky, nc := nc, co := co, gen := gen, kind := kind, dy := dy
              int := fun L => by rw [hfd]; exact int n9 n10 n11 n12 (.ref cda) n14 cc L _
              ev := fun L => by rw [hfd]; exact ev n9 n10 n11 n12 (.ref cda) n14 cc L _
              top := top, op := d3, su := d4, sa := d5, ov := e1, tk := e2, hd := e3 }
          · cases f3
        · cases f2
      · cases f2
    · cases c3
  · cases c3
end
end DL

set_option Elab.async false
set_option linter.all false
set_option maxRecDepth 100000
set_option maxHeartbeats 4000000
namespace DL
open PySem PySem.Spec PyProof.Rows L2

/-! ### the top's facts, told in parts -/
theorem obsY_parts {n : Nat} {fa : List He.Fa} {fn : List He.DefD} {tf : List He.Defn} {ex : PySem.W.Frag → Bool} {cs : List He.DefD} {g : Addr → Option Obj} (w : World) (h1 : (fa.all fun f => f.ok (fgY n g)) = true) (h2 : (fn.all fun d => d.ok (fgY n g)) = true)
    (h3 : (fn.map fun d => He.fnW (fgY n g) d.at_) = fn.map He.DefD.val) (h4 : ex (fgY n g) = true) (h5 : He.tabsB g tf (fgY n g) = true) (h6 : (cs.map fun d => fnC (fgY n g) d.at_) = cs.map valC) : obsY n fa fn tf ex cs g = valY fn cs w := by
  unfold obsY valY He.obsT He.obsD He.valT He.valD
  rw [h1, h2, h3, h4, h5, h6]
  rfl
theorem all_app {α : Type} {p : α → Bool} {l k : List α} (h1 : l.all p = true) (h2 : k.all p = true) : (l ++ k).all p = true := by rw [List.all_append, h1, h2]; rfl
theorem map_app {α β : Type} {f g : α → β} {l k : List α} (h1 : l.map f = l.map g) (h2 : k.map f = k.map g) : (l ++ k).map f = (l ++ k).map g := by rw [List.map_append, List.map_append, h1, h2]
theorem at_some {α β : Type} {x : Option α} {s : α} {f : α → β} {v : β} (es : x = some s) (h : x.map f = some v) : f s = v := by
  rw [es] at h
  exact Option.some.inj h
end DL

set_option Elab.async false
set_option linter.all false
set_option maxRecDepth 100000
set_option maxHeartbeats 4000000
namespace DL
open PySem PySem.Spec PyProof.Rows L2 LamX

/-! ### the law is called where nothing is being shown -/
section
variable {P : Program} {w : World} {K : PySem.W.Frag} {mg mb : Str → Option Value} {k : Nat} {fa a : Addr} {cs : List (Addr × Addr)} {fd : FuncData} {x : Str} {sp : Sp} {st : Shared} {vs : List Value} {ns : List Int}
theorem law_coreG (KX : K.In st.heap) (glo : st.heap.Ns mainGlobals mg) (blt : st.heap.Ns builtinsNs mb) (boot : ∀ x : Str, x ≠ "__name__" → mb x = bootBuiltins x) (lim : st.heap.NoLimit) (gens : st.gens = #[])
    (empty : ∀ p ∈ cs, st.heap.get? p.2 = some { cls := .none, data := .fields #[] }) (out : ∀ p ∈ cs, K.lookup p.2 = none) (hds : ∀ p ∈ cs, PySem.W.CodeHd st.heap p.1 p.2)
    (bmod : ∃ (bm : Addr) (ob : Obj), mg "__builtins__" = some (.ref bm) ∧ bm ≠ builtinsNs ∧ st.heap.get? bm = some ob ∧ ob.cls = .type "module" ∧ ob.dict = some builtinsNs ∧ ob.data = .plain)
    (scr : st.heap.get? a = some { cls := .type "list", data := .seq vs.toArray }) (room : Room k callerA)
    (F : ∀ base : Heap, K.In base → base.Ns mainGlobals mg → (∀ p ∈ cs, TabB base mg p.1 p.2) → FnG P w K mg base CX0 k fa fd [x] sp) (bnd : ∀ (s : Shared) (u : Value), BindsTo s fd ⟨[u], []⟩ [(x, u)])
    (H : Hp) (tabs : ∀ p ∈ cs, H p.2 = some (.tbl #[])) (onl : ∀ b u, H b = some u → (b = a ∧ K.lookup a = none ∧ ∃ o xs, u = .frz o (.lst xs)) ∨ b ∈ cs.map (·.2)) (ok : HOk P w H st.heap)
    (want : sp [.ref a] H (fun v _ => v = .bl true) fun _ _ _ => False) :
    codeAny (model P w) callerA (.call (.ref fa) ⟨[.ref a], []⟩) (fun r s' => r = .ok (.ret (.bool true)) ∧ OldK st.heap s'.heap ∧ s'.os = st.os ∧ AllBare s'.gens) st := by
  have isTab : ∀ b ∈ cs.map (·.2), st.heap.get? b = some { cls := .none, data := .fields #[] } ∧ K.lookup b = none := fun b hb => by
    obtain ⟨p, hp, rfl⟩ := List.mem_map.mp hb
    exact ⟨empty p hp, out p hp⟩
  have bare : ∀ {b : Addr} {o : Obj}, st.heap.get? b = some o → (∀ us n, o.data ≠ .seq us n) → o.data ≠ .fields #[] → (hidT st.heap H).get? b = some o := fun {b o} e n1 n2 => by
    refine hidT_get e ?_
    cases q : H b with
    | none => rfl
    | some u =>
      rcases onl b u q with ⟨rfl, _⟩ | z
      · cases scr.symm.trans e
        exact absurd rfl (n1 _ _)
      · cases ((isTab b z).1).symm.trans e
        exact absurd rfl n2
  have names : ∀ {b : Addr} {m : Str → Option Value}, st.heap.Ns b m → (hidT st.heap H).Ns b m := fun {b m} ⟨o, es, ep, e, d, r⟩ =>
    ⟨o, es, ep, bare e (fun us n z => by rw [d] at z; cases z) (fun z => by rw [d] at z; cases z), d, r⟩
  have kin : K.In (hidT st.heap H) := fun b o e => hidT_get (KX b o e) (by
    cases q : H b with
    | none => rfl
    | some u =>
      rcases onl b u q with ⟨rfl, n, _⟩ | z
      · rw [n] at e; cases e
      · rw [(isTab b z).2] at e; cases e)
  have tb : ∀ p ∈ cs, TabB (hidT st.heap H) mg p.1 p.2 := fun p hp => by
    have em := empty p hp
    refine ⟨?_, ?_, fun z => ?_⟩
    · obtain ⟨o, us, f1, f2, f3, f4, f5, f6, f7, here, r1, r2, r3, more⟩ := hds p hp
      refine ⟨o, us, f1, f2, f3, f4, f5, f6, f7, bare here (fun us n z => by rw [r2] at z; cases z) (fun z => ?_), r1, r2, r3, more⟩
      rw [r2] at z
      cases z
      simp at r3
    · obtain ⟨bm, ob, b1, b2, b3, b4, b5, b6⟩ := bmod
      refine ⟨bm, ob, b1, b2, fun q => ?_, fun q => ?_, bare b3 (fun us n z => by rw [b6] at z; cases z) (fun z => by rw [b6] at z; cases z), b4, b5, b6⟩
      · obtain ⟨o, _, _, e, hd, _⟩ := glo
        cases (q ▸ b3).symm.trans e
        rw [hd] at b6
        cases b6
      · cases (q ▸ b3).symm.trans em
        cases b6
    · obtain ⟨o, _, _, e, hd, _⟩ := glo
      cases (z ▸ e).symm.trans em
      cases hd
  have env : Env0 P w K mg (hidT st.heap H) callerA [] st H := ⟨rfl, ⟨kin, names glo, ⟨mb, names blt, boot⟩, let ⟨mc, h1, h2⟩ := lim; ⟨mc, names h1, h2⟩⟩, fun b o e => of_hidT e, Nat.le_of_eq (hidT_size _ _), trivial, (fun b hb => by cases hb), ok, .of_eq gens⟩
  refine codeAny_mono ((F _ kin (names glo) tb).run callerA [] st H ⟨[.ref a], []⟩ [.ref a] [.ref a] _ _ rfl room env (bnd st (.ref a)) (.cons rfl .nil) want) fun r s' z => ?_
  cases r with
  | error e => exact (z : False).elim
  | ok fl =>
    cases fl with
    | next => exact z.elim
    | brk => exact z.elim
    | cont => exact z.elim
    | ret u =>
      obtain ⟨v, H', os, ba, un, ok', rv, ev⟩ := z
      cases (show v = V.bl true from ev)
      cases (show u = Value.bool true from rv)
      have same : ∀ b o, b ∉ cs.map (·.2) → st.heap.get? b = some o → s'.heap.get? b = some o := fun b o nb e => by
        cases q : H b with
        | none => exact un.keep b o e q (by intro z; cases z) (by intro z; cases z)
        | some u =>
          rcases onl b u q with ⟨rfl, _, ob, xs, rfl⟩ | z
          · obtain ⟨e1, _⟩ := ok _ _ q
            obtain ⟨e2, _⟩ := ok' _ _ (un.frzs _ ob _ q)
            cases e.symm.trans e1
            exact e2
          · exact absurd z nb
      have more : ∀ p ∈ cs, ∃ us : Array Value, s'.heap.get? p.2 = some { cls := .none, data := .fields us } := fun p hp => by
        obtain ⟨us, z⟩ := un.tbls p.2 #[] (tabs p hp)
        exact ⟨_, ok' _ _ z⟩
      refine ⟨rfl, ⟨fun b o e => ?_, fun b o e => ?_⟩, os, ba⟩ <;> by_cases hb : b ∈ cs.map (·.2)
      · obtain ⟨p, hp, rfl⟩ := List.mem_map.mp hb
        obtain ⟨us, hm⟩ := more p hp
        cases (empty p hp).symm.trans e
        exact .inr (.inl ⟨((hds p hp).tab (empty p hp)).isCodeTable, rfl, #[], us, rfl, by rw [Array.empty_append]; exact hm⟩)
      · exact .inl (same b o hb e)
      · obtain ⟨p, hp, rfl⟩ := List.mem_map.mp hb
        obtain ⟨us, hm⟩ := more p hp
        exact ⟨_, hm⟩
      · exact ⟨o, same b o hb e⟩
end
def LawAtG (l : PySem.W.OpenLaw) (w : World) (K : PySem.W.Frag) (k n : Nat) (x : Str) (mg : Str → Option Value) (fa : Addr) (h : Heap) : Prop :=
  ∃ (fd : FuncData) (cs : List (Addr × Addr)) (sp : Sp), (∀ p ∈ cs, h.get? p.2 = some { cls := .none, data := .fields #[] }) ∧ (∀ p ∈ cs, K.lookup p.2 = none) ∧ (∀ p ∈ cs, PySem.W.CodeHd h p.1 p.2) ∧ (∀ (s : Shared) (u : Value), BindsTo s fd ⟨[u], []⟩ [(x, u)]) ∧
    (∀ (H : Hp) (a : Addr) (ns : List Int), ns.length ≤ n → (∀ p ∈ cs, H p.2 = some (.tbl #[])) → SqL K H a (ns.map V.int) → sp [.ref a] H (fun v _ => v = .bl true) fun _ _ _ => False) ∧
    ∀ base : Heap, K.In base → base.Ns mainGlobals mg → (∀ p ∈ cs, TabB base mg p.1 p.2) → FnG l.prog w K mg base CX0 k fa fd [x] sp
theorem walk_ofG {l : PySem.W.OpenLaw} {n k : Nat} {q : Program} {loose : List Str} {XP : (Str → Option Value) → Heap → Prop} {YP : World → Heap → Prop} {d : DefRec} {x : Str} (most : l.most = some n) (small : n ≤ sizeLine) (nodef : d.params.defaults = []) (room : Room k callerA)
    (F : ∀ (w : World) (mg : Str → Option Value) (fa : Addr) (h : Heap), YP w h → h.Ns mainGlobals mg → mg d.name = some (.ref fa) → ∃ K : PySem.W.Frag, K.In h ∧ LawAtG l w K k n x mg fa h) :
    PySem.W.WalkO q loose XP YP l.row.toRowW d [] (fun f vs => PySem.call f vs) := by
  refine Att.attach_callB most nodef fun w s₀ st mg mb fa o pm cd doc a vs ns G Y _ _ _ named scr areI len _ gens => ?_
  obtain ⟨K, KX, fd, cs, sp, empty, out, hds, bnd, want, hF⟩ := F w mg fa _ Y G.T.g named
  have rv := vals_ints areI
  have nt : a ∉ cs.map (·.2) := fun z => by
    obtain ⟨p, hp, e⟩ := List.mem_map.mp z
    have q := empty p hp
    rw [e] at q
    cases scr.symm.trans q
  have tabOk : ∀ {H : Hp} {b : Addr}, b ∈ cs.map (·.2) → ObjOk l.prog w H st.heap b (.tbl #[]) := fun {H b} hb => by
    obtain ⟨p, hp, rfl⟩ := List.mem_map.mp hb
    exact empty p hp
  let H0 : Hp := fun b => if b ∈ cs.map (·.2) then some (.tbl #[]) else none
  cases hk : K.lookup a with
  | some ob =>
    have e := KX a ob hk
    cases scr.symm.trans e
    refine law_coreG (H := H0) KX G.T.g G.T.b G.T.builtins G.T.nolimit gens empty out hds G.T.bmain scr room hF bnd (fun p hp => if_pos (List.mem_map.mpr ⟨p, hp, rfl⟩)) (fun b u z => ?_) (fun b u z => ?_) (want _ a ns len (fun p hp => if_pos (List.mem_map.mpr ⟨p, hp, rfl⟩)) (.inr ⟨_, vs.toArray, _, hk, rfl, rfl, rfl, by rw [List.size_toArray, areI.length]; exact Nat.le_trans len small, by simpa using rv⟩))
    · by_cases hb : b ∈ cs.map (·.2)
      · exact .inr hb
      · exact nomatch (if_neg hb).symm.trans z
    · by_cases hb : b ∈ cs.map (·.2)
      · cases (if_pos hb).symm.trans z
        exact tabOk hb
      · exact nomatch (if_neg hb).symm.trans z
  | none =>
    let H1 : Hp := fun b => if b = a then some (.frz { cls := .type "list", data := .seq vs.toArray } (.lst (ns.map V.int))) else H0 b
    have at1 : ∀ p ∈ cs, H1 p.2 = some (.tbl #[]) := fun p hp => by
      have m : p.2 ∈ cs.map (·.2) := List.mem_map.mpr ⟨p, hp, rfl⟩
      exact (if_neg (show ¬ p.2 = a from fun z => nt (by rw [← z]; exact m))).trans (if_pos m)
    refine law_coreG (H := H1) KX G.T.g G.T.b G.T.builtins G.T.nolimit gens empty out hds G.T.bmain scr room hF bnd at1 (fun b u z => ?_) (fun b u z => ?_) (want _ a ns len at1 (.inl (.inr ⟨{ cls := .type "list", data := .seq vs.toArray }, if_pos rfl⟩)))
    · by_cases ha : b = a
      · cases (if_pos ha).symm.trans z
        exact .inl ⟨ha, hk, _, _, rfl⟩
      · have z := (if_neg ha).symm.trans z
        by_cases hb : b ∈ cs.map (·.2)
        · exact .inr hb
        · exact nomatch (if_neg hb).symm.trans z
    · by_cases ha : b = a
      · cases (if_pos ha).symm.trans z
        subst ha
        exact ⟨scr, by rw [List.length_map]; exact Nat.le_trans len small, vs, _, rv, scr⟩
      · have z := (if_neg ha).symm.trans z
        by_cases hb : b ∈ cs.map (·.2)
        · cases (if_pos hb).symm.trans z
          exact tabOk hb
        · exact nomatch (if_neg hb).symm.trans z
theorem lawAtG_of {l : PySem.W.OpenLaw} {w : World} {K : PySem.W.Frag} {k : Nat} {mg : Str → Option Value} {fa : Addr} {h : Heap} {fd : FuncData} {tf : List Str} {f1 : List He.Fa} {fn : List He.DefD} {ex : PySem.W.Frag → Bool} {F : List D → Hs → R D} (KX : K.In h)
    (c : He.SaysX f1 fn [] (tf.map fun x => (x, none)) ex w h K) (hb : ∀ (s : Shared) (v : Value), BindsTo s fd ⟨[v], []⟩ [("script", v)]) (nd : (tf.map fun x => (He.cT K (x, none)).2).Nodup)
    (an : ∀ ns : List Int, ns.length ≤ 63 → ∃ h', F [.frz (ns.map .int)] (tf.map .tbl) = .ok (.bl true) h')
    (hF : ∀ base : Heap, K.In base → base.Ns mainGlobals mg → (∀ x : Str, x ∈ tf → TabB base mg (He.cT K (x, none)).1 (He.cT K (x, none)).2) → FnG l.prog w K mg base CX0 k fa fd ["script"] (fun vs H Q _ => spD K mg 1 F vs H Q E0)) :
    LawAtG l w K k 63 "script" mg fa h := by
  have ct : ∀ p ∈ tf.map (fun x => He.cT K (x, none)), ∃ x ∈ tf, p = He.cT K (x, none) := fun p hp => by
    obtain ⟨x, hx, e⟩ := List.mem_map.mp hp
    exact ⟨x, hx, e.symm⟩
  have tfm : ∀ x ∈ tf, ((x, none) : He.Defn) ∈ tf.map fun x => ((x, none) : He.Defn) := fun x hx => List.mem_map.mpr ⟨x, hx, rfl⟩
  refine ⟨fd, tf.map fun x => He.cT K (x, none), fun vs H Q _ => spD K mg 1 F vs H Q E0, fun p hp => ?_, fun p hp => ?_, fun p hp => ?_, hb, fun H a ns hl hH hS => ?_, fun base h1 h2 h3 => hF base h1 h2 fun x hx => h3 _ (List.mem_map.mpr ⟨x, hx, rfl⟩)⟩
  · obtain ⟨x, hx, rfl⟩ := ct p hp
    exact c.empty _ (tfm x hx)
  · obtain ⟨x, hx, rfl⟩ := ct p hp
    exact c.out _ (tfm x hx)
  · obtain ⟨x, hx, rfl⟩ := ct p hp
    exact PySem.W.codeHd_of_K KX (c.hd _ (tfm x hx))
  · have hH' : ∀ x ∈ tf, H (He.cT K (x, none)).2 = some (.tbl #[]) := fun x hx => hH _ (List.mem_map.mpr ⟨x, hx, rfl⟩)
    have na : a ∉ tf.map fun x => (He.cT K (x, none)).2 := fun z => by
      obtain ⟨x, hx, e⟩ := List.mem_map.mp z
      have e1 := hH' x hx
      rw [e] at e1
      have e2 := c.out _ (tfm x hx)
      rw [e] at e2
      rcases hS with (q | ⟨o, q⟩) | ⟨o, its, n, q, _⟩
      · rw [e1] at q; cases q
      · rw [e1] at q; cases q
      · rw [e2] at q; cases q
    obtain ⟨h', ea⟩ := an ns hl
    refine ⟨rfl, _, [.frz (ns.map .int)], tf.map .tbl, .cons (.frz (.of hS na) (frz_ints ns)) .nil, start_tabs nd hH', ?_⟩
    rw [ea]
    intro v H' as' _ r _
    cases r
    rfl
end DL

set_option Elab.async false
set_option linter.all false
set_option maxRecDepth 100000
set_option maxHeartbeats 4000000
namespace DL
open PySem PySem.Spec PyProof.Rows L2

/-! ### x.extend(e), x a cell -/
def lstOf : D → Option (List D)
  | .lst l => some l
  | _ => none
def sExt (mo ma : M D) : SM := fun ds h => match mo ds h with
  | .ok (.loc n) h1 => if isLstAt h1 n = false then .no else (match ma ds h1 with
    | .ok y h2 => (match (h2[n]?).bind lstOf, lstOf (rd h2 y) with
      | some xs, some zs => if xs.length + zs.length ≤ 16777216 then .nx ds (h2.set n (.lst (xs ++ zs))) else .no
      | _, _ => .no)
    | .ex c p h2 => .ex c p ds h2
    | .no => .no)
  | _ => .no
section
variable {X : Cx} {W : WX} {pos p apos : Pos} {o e : Expr} {mo ma : M D}
theorem lstOf_eq {d : D} {l : List D} (h : lstOf d = some l) : d = .lst l := by
  cases d <;> simp [lstOf] at h
  rw [h]
theorem ext_post {Dn : Ends} {σ : L2.St} {H : Hp} (q : tsM X.K X.mg W (sExt mo ma) Dn σ H) : tDrop (tBM X.K "list" rExtend (teM X.K X.mg W mo) (taM X.K X.mg W (mCons ma mNil))) Dn σ H := by
  obtain ⟨as, ds, h, s, q⟩ := q
  refine ⟨as, ds, h, s, ?_⟩
  unfold sExt at q
  cases eo : mo ds h with
  | ex c p h1 => rw [eo] at q; exact q.elim
  | no => rw [eo] at q; exact q.elim
  | ok x h1 =>
    rw [eo] at q
    cases x with
    | loc n =>
      simp only at q
      intro v H1 as1 g1 r1 hr1
      cases r1 with
      | @loc _ ad hat =>
        obtain ⟨c0, ec0, cr0⟩ := hr1.get hat
        cases cr0 with
        | lst hl0 _ =>
          have ei : isLstAt h1 n = true := by simp only [isLstAt, ec0]
          rw [ei] at q
          simp only [Bool.true_eq_false, if_false] at q
          refine ⟨Or.inl ⟨rfl, _, Or.inl (Or.inl hl0)⟩, as1, ds, h1, ⟨s.env.grow g1, hr1⟩, ?_⟩
          unfold mCons mNil
          cases ea : ma ds h1 with
          | ex c p h2 => rw [ea] at q; exact fun cls dx H' as' g hr x => q σ cls dx H' as' (g1.trans g) ⟨s.env.grow (g1.trans g), hr⟩ x
          | no => rw [ea] at q; exact q.elim
          | ok y h2 =>
            rw [ea] at q
            simp only at q
            intro vs H2 as2 g2 r2 hr2
            obtain ⟨v2, rfl, ry⟩ : ∃ v2, vs = [v2] ∧ RD X.K H2 as2 y v2 := by
              cases r2 with
              | cons ry t => cases t; exact ⟨_, rfl, ry⟩
            · have hat2 := pre_get g2.pre hat
              obtain ⟨c2, ec2, cr2⟩ := hr2.get hat2
              cases e1 : (h2[n]?).bind lstOf with
              | none => rw [e1] at q; exact q.elim
              | some xs =>
                cases e2 : lstOf (rd h2 y) with
                | none => rw [e1, e2] at q; exact q.elim
                | some zs =>
                  rw [e1, e2] at q
                  simp only at q
                  by_cases hz : xs.length + zs.length ≤ 16777216
                  · rw [if_pos hz] at q
                    rw [ec2] at e1
                    cases lstOf_eq e1
                    have rt := RV.rt ry hr2
                    rw [lstOf_eq e2] at rt
                    cases cr2 with
                    | @lst _ xv _ hx rx =>
                      obtain ⟨b, zv, ez, hb, rz⟩ : ∃ b zv, v2 = V.ref b ∧ H2 b = some (.lst zv) ∧ RVs X.K H2 as2 zs zv := by
                        cases rt with
                        | val r => cases r with | lst hb _ rz => exact ⟨_, _, rfl, hb, rz⟩
                        | cell r => cases r with | lst hb rz => exact ⟨_, _, rfl, hb, rz⟩
                      obtain ⟨g3, hr3⟩ := hr2.write hat2 hx (rx.append rz)
                      exact ⟨ad, b, xv, zv, rfl, by rw [ez], hx, hb, by rw [sizeLine_eq, ← rx.length, ← rz.length]; exact hz, q σ _ as2 ((g1.trans g2).trans g3) ⟨(s.env.grow (g1.trans g2)).grow g3, hr3⟩⟩
                  · rw [if_neg hz] at q; exact q.elim
        | _ => simp only [isLstAt, ec0] at q; exact q.elim
    | _ => exact q.elim
theorem ds_ext (ho : DE X W o mo) (ha : DA X W [e] (mCons ma mNil)) (hc : ∀ {to : TE} {t : TA}, PE X o to → PA X [e] t → PE X (.Call (.Attribute o "extend" apos) [e] [] pos) (tBM X.K "list" rExtend to t) := by intro _ _ h1 h2; exact pe_bm PySem.F.plainAttrs_list PySem.F.slot_list_extend PySem.F.type_list_extend mt_extend h1 h2)
    (hs : swapsWith (.Call (.Attribute o "extend" apos) [e] [] pos) none p.line X.env = pure false := by rfl) : DS X W (.Expr (.Call (.Attribute o "extend" apos) [e] [] pos) p) (sExt mo ma) :=
  PS.imp (ps_expr (hc ho ha) hs) fun Dn σ H q => ext_post q
end
end DL

set_option Elab.async false
set_option linter.all false
set_option maxRecDepth 100000
set_option maxHeartbeats 4000000
namespace DL
open PySem PySem.Spec PyProof.Rows L2
section
variable {X : Cx} {W : WX} {pos : Pos}
/-- a text of the module -/
theorem de_gstr {x : Str} {z : Str} (hm : ∃ t, X.mg x = some (.str z t)) (hg : Gl X x := by rfl) (hd : (x == ("__debug__" : Str)) = false := by decide) : DE X W (.Name x pos) (mC (.str z)) := by
  obtain ⟨t, hm⟩ := hm
  exact de_c (pe_glob hg hm (v := .str z) ⟨t, rfl⟩ hd) fun _ _ _ => .str z
end
end DL

set_option Elab.async false
set_option linter.all false
set_option maxRecDepth 100000
set_option maxHeartbeats 4000000
namespace DL
open PySem PySem.Spec PyProof.Rows L2

/-! ### max(xs, default=d), min(xs, default=d) -/
theorem okE_tup {n : Nat} {l : List D} (h : okE n (.tup l) = true) : ∃ k, l.all (okE k) = true := by
  cases n with
  | zero => simp [okE] at h
  | succ n => exact ⟨n, h⟩
theorem okE_lst {n : Nat} {l : List D} (h : okE n (.lst l) = true) : ∃ k, l.all (okE k) = true := by
  cases n with
  | zero => simp [okE] at h
  | succ n => exact ⟨n, h⟩
mutual
theorem toPy_inj : ∀ (d e : D) {n m : Nat}, okE n d = true → okE m e = true → toPy d = toPy e → d = e
  | .tup l, e, n, m, hd, he, h => by
    cases e with
    | tup k =>
      obtain ⟨_, h1⟩ := okE_tup hd
      obtain ⟨_, h2⟩ := okE_tup he
      simp only [toPy, PyData.tuple.injEq] at h
      rw [toPys_inj l k h1 h2 h]
    | _ => simp [toPy] at h
  | .lst l, e, n, m, hd, he, h => by
    cases e with
    | lst k =>
      obtain ⟨_, h1⟩ := okE_lst hd
      obtain ⟨_, h2⟩ := okE_lst he
      simp only [toPy, PyData.list.injEq] at h
      rw [toPys_inj l k h1 h2 h]
    | _ => simp [toPy] at h
  | .non, e, n, m, hd, he, h => by cases e <;> first | rfl | (simp [toPy] at h; done) | (cases m <;> simp [okE] at he)
  | .bl b, e, n, m, hd, he, h => by cases e <;> first | (simp [toPy] at h; rw [h]) | (simp [toPy] at h; done)
  | .int b, e, n, m, hd, he, h => by cases e <;> first | (simp [toPy] at h; rw [h]) | (simp [toPy] at h; done)
  | .str b, e, n, m, hd, he, h => by cases e <;> first | (simp [toPy] at h; rw [h]) | (simp [toPy] at h; done)
  | .ty _, _, n, _, hd, _, _ => by cases n <;> simp [okE] at hd
  | .frz _, _, n, _, hd, _, _ => by cases n <;> simp [okE] at hd
  | .dct _ _, _, n, _, hd, _, _ => by cases n <;> simp [okE] at hd
  | .loc _, _, n, _, hd, _, _ => by cases n <;> simp [okE] at hd
  | .gl _, _, n, _, hd, _, _ => by cases n <;> simp [okE] at hd
  | .lam _ _ _, _, n, _, hd, _, _ => by cases n <;> simp [okE] at hd
  | .tbl _, _, n, _, hd, _, _ => by cases n <;> simp [okE] at hd
  | .obj _ _, _, n, _, hd, _, _ => by cases n <;> simp [okE] at hd
  | .dcf _ _, _, n, _, hd, _, _ => by cases n <;> simp [okE] at hd
  | .uns, _, n, _, hd, _, _ => by cases n <;> simp [okE] at hd
theorem toPys_inj : ∀ (l k : List D) {n m : Nat}, l.all (okE n) = true → k.all (okE m) = true → toPys l = toPys k → l = k
  | [], [], _, _, _, _, _ => rfl
  | [], _ :: _, _, _, _, _, h => by simp [toPys] at h
  | _ :: _, [], _, _, _, _, h => by simp [toPys] at h
  | d :: l, e :: k, _, _, h1, h2, h => by
    simp only [List.all_cons, Bool.and_eq_true] at h1 h2
    simp only [toPys, List.cons.injEq] at h
    rw [toPy_inj d e h1.1 h2.1 h.1, toPys_inj l k h1.2 h2.2 h.2]
end
def bestD (mx : Bool) (d : D) (l : List D) : D := l.foldl (fun a y => if (if mx then PySem.W.dataLt (toPy a) (toPy y) else PySem.W.dataLt (toPy y) (toPy a)) then y else a) d
theorem bestD_mem {mx : Bool} : ∀ {l : List D} {d : D}, bestD mx d l ∈ d :: l
  | [], d => List.mem_cons_self
  | e :: l, d => by
    have ih := bestD_mem (mx := mx) (l := l) (d := if (if mx then PySem.W.dataLt (toPy d) (toPy e) else PySem.W.dataLt (toPy e) (toPy d)) then e else d)
    have h : bestD mx d (e :: l) = bestD mx (if (if mx then PySem.W.dataLt (toPy d) (toPy e) else PySem.W.dataLt (toPy e) (toPy d)) then e else d) l := rfl
    rw [h]
    rcases List.mem_cons.mp ih with z | z
    · rw [z]
      by_cases c : (if mx then PySem.W.dataLt (toPy d) (toPy e) else PySem.W.dataLt (toPy e) (toPy d)) = true
      · rw [if_pos c]; exact List.mem_cons_of_mem _ List.mem_cons_self
      · rw [if_neg c]; exact List.mem_cons_self
    · exact List.mem_cons_of_mem _ (List.mem_cons_of_mem _ z)
theorem bestD_py {mx : Bool} : ∀ {l : List D} {d : D}, toPy (bestD mx d l) = if mx then PySem.W.maxD (toPy d) (toPys l) else PySem.W.minD (toPy d) (toPys l)
  | [], d => by cases mx <;> rfl
  | e :: l, d => by
    have h : bestD mx d (e :: l) = bestD mx (if (if mx then PySem.W.dataLt (toPy d) (toPy e) else PySem.W.dataLt (toPy e) (toPy d)) then e else d) l := rfl
    rw [h, bestD_py]
    cases mx
    · show PySem.W.minD _ _ = PySem.W.minD _ _
      unfold PySem.W.minD
      simp only [toPys, List.foldl_cons, Bool.false_eq_true, if_false]
      split <;> rfl
    · show PySem.W.maxD _ _ = PySem.W.maxD _ _
      unfold PySem.W.maxD
      simp only [toPys, List.foldl_cons, if_true]
      split <;> rfl
def notNone : PyData → Bool
  | .none => false
  | _ => true
def alikeB (l : List PyData) : Bool := l.all (fun x => l.all fun y => PySem.W.alike x y) && l.all notNone
theorem alikeB_ok {l : List PyData} (h : alikeB l = true) : PySem.W.AlikeAll l := by
  simp only [alikeB, Bool.and_eq_true, List.all_eq_true] at h
  refine ⟨fun x hx y hy => h.1 x hx y hy, fun x hx z => ?_⟩
  have := h.2 x hx
  rw [z] at this
  cases this
def best1 (mx : Bool) : D → D → Option D
  | .lst [], z => some z
  | .lst (d :: l), _ => if (d :: l).all (okE 40) && alikeB (toPys (d :: l)) then some (bestD mx d l) else none
  | _, _ => none
def rBest (mx : Bool) (K : PySem.W.Frag) : List V → List V → Hp → VK → Prop := fun xs zs H Q => ∃ (a : Addr) (z : V) (vs : List V) (ps : List PyData), xs = [.ref a] ∧ zs = [z] ∧ H a = some (.lst vs) ∧ DpAll K H vs ps ∧ PySem.W.AlikeAll ps ∧ PyData.depthAll ps ≤ 40 ∧ (ps = [] → Q z H) ∧
  ∀ (y : PyData) (ys : List PyData), ps = y :: ys → ∀ (i : Nat) (v : V), vs[i]? = some v → ps[i]? = some (if mx then PySem.W.maxD y ys else PySem.W.minD y ys) → Q v H
theorem readsAll_ix {h : Heap} : ∀ {us : List Value} {ps : List PyData} {as : List Addr}, ReadsAll h us ps as → ∀ {i : Nat} {u : Value}, us[i]? = some u → ∃ p bs, ps[i]? = some p ∧ Reads h u p bs
  | _, _, _, .nil, _, _, e => by simp at e
  | _, _, _, .cons r _, 0, u, e => by
    simp only [List.getElem?_cons_zero, Option.some.injEq] at e
    subst e
    exact ⟨_, _, rfl, r⟩
  | _, _, _, .cons _ rs, i + 1, u, e => by
    obtain ⟨p, bs, h1, h2⟩ := readsAll_ix rs (i := i) (u := u) (by simpa using e)
    exact ⟨p, bs, by simpa using h1, h2⟩
theorem cr_best {X : Cx} (hc : X.calm = true) (hu : X.A.units + 64 < cLine) (mx : Bool) : CallRK X (.builtin (if mx then "max" else "min")) [Str.ofString "default"] (rBest mx X.K) := by
  intro pins s σ H xs zs us ws Q I r1 r2 ⟨a, z, vs, ps, e1, e2, ha, dp, al, dep, q0, q1⟩
  subst e1 e2
  obtain ⟨u, rfl, ru⟩ := vals1 r1
  obtain ⟨uz, rfl, rz⟩ := vals1 r2
  obtain rfl : u = Value.ref a := ru
  obtain ⟨hz, its, n, rv, hl, ea⟩ := I.lstM ha
  obtain ⟨as, rd⟩ := Dp.readsAll I ps vs its dp rv
  have hh := I.ok.hd hc
  have lst : s.heap.IsList a its.toArray := ⟨_, ea, rfl, _, rfl⟩
  have fin : ∀ (y : PyData) (ys : List PyData) (i : Nat) (v : Value) (h' : Heap) (tk : Nat) (bs : List Addr), ps = y :: ys → its.toArray[i]? = some v → Reads h' v (if mx then PySem.W.maxD y ys else PySem.W.minD y ys) bs → (∀ b o, s.heap.get? b = some o → h'.get? b = some o) → EP X pins σ Q v { s with heap := h', toks := tk } := by
    intro y ys i v h' tk bs e ei rr k
    have ei' : its[i]? = some v := by simpa using ei
    obtain ⟨p, cs, hp, rp⟩ := readsAll_ix rd ei'
    have rp' := Reads.keeps k rp
    have ep := (Reads.unique rr _ _ rp').1
    obtain ⟨x, hx, rx⟩ : ∃ x, vs[i]? = some x ∧ RelV x v := by
      have hi : i < vs.length := by rw [hl]; exact (List.getElem?_eq_some_iff.mp ei').1
      obtain ⟨w, hw, rw'⟩ := rv.get (List.getElem?_eq_getElem hi)
      rw [ei'] at hw; cases hw
      exact ⟨_, List.getElem?_eq_getElem hi, rw'⟩
    exact ⟨x, H, I.kept (t' := tk) k, rx, q1 y ys e i x hx (by rw [hp, ep])⟩
  have nil : ps = [] → ∀ (h' : Heap) (tk : Nat), (∀ b o, s.heap.get? b = some o → h'.get? b = some o) → EP X pins σ Q uz { s with heap := h', toks := tk } := fun e h' tk k => ⟨z, H, I.kept (t' := tk) k, rz, q0 e⟩
  cases mx with
  | true => exact PySem.W.max_list_default hh lst (by simpa using rd) al (by omega) nil fun y ys i v h' tk bs e ei rr k => fin y ys i v h' tk bs e ei rr k
  | false => exact PySem.W.min_list_default hh lst (by simpa using rd) al (by omega) nil fun y ys i v h' tk bs e ei rr k => fin y ys i v h' tk bs e ei rr k
def mBest (mx : Bool) (ma mz : M D) : M D := fun ds h => (ma ds h).bind fun x h1 => (mz ds h1).bind fun z h2 => match best1 mx (rd h2 x) z with
  | some y => .ok y h2
  | none => .no
theorem dpAll_of {K : PySem.W.Frag} {H : Hp} {as : List Addr} {n : Nat} : ∀ {l : List D} {vs : List V}, l.all (okE n) = true → RVs K H as l vs → DpAll K H vs (toPys l)
  | _, _, _, .nil => .nil
  | d :: l, _, h, .cons r t => by
    simp only [List.all_cons, Bool.and_eq_true] at h
    exact .cons (okE_dp h.1 r) (dpAll_of h.2 t)
theorem toPys_get : ∀ {l : List D} {i : Nat} {d : D}, l[i]? = some d → (toPys l)[i]? = some (toPy d)
  | [], _, _, e => by simp at e
  | x :: l, 0, d, e => by simp at e; subst e; simp [toPys]
  | x :: l, i + 1, d, e => by simpa [toPys] using toPys_get (l := l) (i := i) (by simpa using e)
theorem best_post {K : PySem.W.Frag} {mx : Bool} {H : Hp} {as : List Addr} {x z y : D} {v u : V} {Q : VK} (e : best1 mx x z = some y) (r1 : RT K H as x v) (r2 : RV K H as z u) (q : ∀ w, RV K H as y w → Q w H) : rBest mx K [v] [u] H Q := by
  obtain ⟨l, rfl⟩ : ∃ l, x = .lst l := by
    cases x <;> first | exact ⟨_, rfl⟩ | (simp [best1] at e)
  obtain ⟨a, vs, rfl, ha, rs⟩ : ∃ a vs, v = .ref a ∧ H a = some (.lst vs) ∧ RVs K H as l vs := by
    cases r1 with
    | val r => cases r with | lst h _ r => exact ⟨_, _, rfl, h, r⟩
    | cell r => cases r with | lst h r => exact ⟨_, _, rfl, h, r⟩
  cases l with
  | nil =>
    simp only [best1, Option.some.injEq] at e
    subst e
    cases rs
    exact ⟨a, u, [], [], rfl, rfl, ha, .nil, alikeB_ok rfl, by simp [PyData.depthAll], fun _ => q u r2, fun y ys z => by cases z⟩
  | cons d l =>
    simp only [best1] at e
    split at e
    · rename_i hc
      simp only [Bool.and_eq_true] at hc
      obtain ⟨ok, al⟩ := hc
      simp only [Option.some.injEq] at e
      subst e
      have each : ∀ x ∈ d :: l, okE 40 x = true := List.all_eq_true.mp ok
      have dep : PyData.depthAll (toPys (d :: l)) ≤ 40 := depthAll_le fun p hp => by
        obtain ⟨x, hx, rfl⟩ := toPys_mem hp
        exact (okE_lay (each x hx)).2
      refine ⟨a, u, vs, toPys (d :: l), rfl, rfl, ha, dpAll_of ok rs, alikeB_ok al, dep, fun z => by simp [toPys] at z, fun y ys ey i w hw hp => ?_⟩
      obtain ⟨x, hx, rx⟩ := rs.get' hw
      simp only [toPys, List.cons.injEq] at ey
      obtain ⟨rfl, rfl⟩ := ey
      rw [toPys_get hx, ← bestD_py] at hp
      have hx' : x ∈ d :: l := List.mem_of_getElem? hx
      have := toPy_inj _ _ (each x hx') (each _ bestD_mem) (Option.some.inj hp)
      rw [this] at rx
      exact q w rx
    · cases e
section
variable {X : Cx} {W : WX} {pos p kp : Pos} {e k : Expr} {ma mz : M D}
theorem de_best (mx : Bool) (x : Str) (hr : X.A.units + 64 < cLine) (hm : X.mg x = none) (ha : DE X W e ma) (hz : DE X W k mz) (hv : bootBuiltins x = some (.builtin (if mx then "max" else "min"))) (hg : Gl X x := by rfl) (hc : X.calm = true := by rfl) (hn : x ≠ "__name__" := by decide) (hdb : (x == ("__debug__" : Str)) = false := by decide)
    (he : backTo pos (starEach [e] X.env) = (false, eval e X.env) :: backTo pos (starEach [] X.env) := by rfl) (hpl : (backTo pos (starEach [e] X.env)).any (·.1) = false := by rfl) (hs : starEach [e] X.env = (false, eval e X.env) :: starEach [] X.env := by rfl)
    (hall : (backToKw pos (keywordEach [⟨some "default", k, kp⟩] X.env)).all (·.1.isSome) = true := by rfl) (hnone : (backToKw pos (keywordEach [⟨some "default", k, kp⟩] X.env)).any (·.1.isNone) = false := by rfl) (hks : (backToKw pos (keywordEach [⟨some "default", k, kp⟩] X.env)).filterMap (·.1) = [Str.ofString "default"] := by rfl) :
    DE X W (.Call (.Name x p) [e] [⟨some "default", k, kp⟩] pos) (mBest mx ma mz) :=
  PE.imp (pe_callBK (cr_best hc hr mx) hg hm hv (pa_cons ha pa_nil hs) (pk_cons hz pk_nil) hn hdb he hpl hall hnone hks) fun σ H Q ⟨as, ds, h, s, q⟩ => ⟨as, ds, h, s, PostE.bindE q fun x h1 v H1 as1 g1 r1 hr1 q1 => ⟨as1, ds, h1, ⟨s.env.grow g1, hr1⟩, PostE.bindE q1 fun z h2 u H2 as2 g2 r2 hr2 q2 => by
    cases eb : best1 mx (rd h2 x) z with
    | none => rw [eb] at q2; exact q2.elim
    | some y =>
      rw [eb] at q2
      exact best_post eb ((r1.grow g2).rt hr2) r2 fun w rw => q2 w H2 as2 .refl rw hr2⟩⟩
end
end DL

set_option Elab.async false
set_option linter.all false
set_option maxRecDepth 100000
set_option maxHeartbeats 4000000
namespace DL
open PySem PySem.Spec PyProof.Rows L2

/-! ### sorted(xs), ints of a list or of a tuple -/
section
variable {prog : Program} {w : World} {A : Around} {E : Value → Shared → Prop} {s : Shared}
theorem sorted_seq {a : Addr} {T : String} {o : Obj} {vs : List Value} {ns : List Int} {n : Nat} {Q : Value → Shared → Prop} (hT : T = "list" ∨ T = "tuple") (ho : s.heap.get? a = some o) (hc : o.cls = .type T) (hd : o.data = .seq vs.toArray n) (hI : IntsAre vs ns) (hL : vs.length ≤ sizeLine)
    (h : ∀ (h' : Heap) (p : Addr) (out : List Value) (ns' : List Int) (c : Nat), (∀ b o, s.heap.get? b = some o → h'.get? b = some o) → s.heap.get? p = none → h'.get? p = some (seqObj "list" out.toArray c) → IntsAre out ns' → ns'.Perm ns → ns'.Pairwise (· ≤ ·) → Q (.ref p) { s with heap := h' }) :
    wpAny (model prog w) A (call (.builtin "sorted") [.ref a]) Q E s := by
  refine Calls.call_function_entry kind_sorted plain_sorted entry_sorted (args_sorted1 _) ?_
  unfold Builtin.«sorted»
  refine wpAny_bind (m := checkCount "sorted" 1 1 _) (wpAny_pure ?_)
  refine wpAny_bind (wpAny_collect_seq a hT ho hc hd (fun h1 k1 => ?_) (by simpa using hL))
  refine wpAny_bind (wpAny_newList ?_)
  have hv : vs.toArray.toList = vs := by simp
  simp only [hv]
  have hoL : (h1.push (seqObj "list" vs.toArray 0)).get? h1.objs.size = some (seqObj "list" vs.toArray 0) := Heap.get?_push_size _ rfl
  have lt1 : ∀ b o, s.heap.get? b = some o → b < h1.objs.size := fun b o e => Heap.lt_size (k1 b o e)
  have sz : s.heap.get? h1.objs.size = none := by
    cases z : s.heap.get? h1.objs.size with
    | none => rfl
    | some o => exact absurd (lt1 _ o z) (Nat.lt_irrefl _)
  refine wpAny_bind (wpAny_holding (wpAny_call_entry slot_list_sort ⟨_, hoL, rfl⟩ entry_list_sort (PyProof.Rows.list_sort_treeAny (n := 0) hoL hI hL fun out ns' i1 i2 i3 => ⟨_, rfl, ?_⟩) (args_list_sort _)))
  obtain ⟨c, hx⟩ := PyProof.Rows.sortedHeap_at (out := out) hoL
  refine wpAny_pure ⟨_, rfl, h _ h1.objs.size out.toList ns' c (fun b o e => ?_) sz hx i1 i2 i3⟩
  rw [PyProof.Rows.sortedHeap_old (Nat.ne_of_lt (lt1 b o e)) (by rw [Heap.size_push]; exact Nat.lt_succ_of_lt (lt1 b o e))]
  exact Heap.get?_push_of_some _ (k1 b o e)
end
def insI (n : Int) : List Int → List Int
  | [] => [n]
  | k :: r => if n ≤ k then n :: k :: r else k :: insI n r
def sortI : List Int → List Int
  | [] => []
  | n :: r => insI n (sortI r)
theorem insI_perm (n : Int) : ∀ l : List Int, (insI n l).Perm (n :: l)
  | [] => .refl _
  | k :: r => by
    unfold insI
    split
    · exact .refl _
    · exact ((insI_perm n r).cons k).trans (List.Perm.swap n k r)
theorem sortI_perm : ∀ l : List Int, (sortI l).Perm l
  | [] => .refl _
  | n :: r => (insI_perm n _).trans ((sortI_perm r).cons n)
theorem insI_sorted (n : Int) : ∀ {l : List Int}, l.Pairwise (· ≤ ·) → (insI n l).Pairwise (· ≤ ·)
  | [], _ => List.pairwise_singleton _ _
  | k :: r, h => by
    have hr := List.pairwise_cons.mp h
    unfold insI
    split
    · rename_i le
      exact List.pairwise_cons.mpr ⟨fun x hx => by
        rcases List.mem_cons.mp hx with rfl | hx
        · exact le
        · exact Int.le_trans le (hr.1 x hx), h⟩
    · rename_i gt
      refine List.pairwise_cons.mpr ⟨fun x hx => ?_, insI_sorted n hr.2⟩
      rcases List.mem_cons.mp ((insI_perm n r).mem_iff.mp hx) with rfl | hx
      · omega
      · exact hr.1 x hx
theorem sortI_sorted : ∀ l : List Int, (sortI l).Pairwise (· ≤ ·)
  | [] => .nil
  | n :: r => insI_sorted n (sortI_sorted r)
theorem sortI_eq {l k : List Int} (p : k.Perm l) (s : k.Pairwise (· ≤ ·)) : k = sortI l :=
  List.Perm.eq_of_pairwise (le := (· ≤ ·)) (fun a b _ _ h1 h2 => Int.le_antisymm h1 h2) s (sortI_sorted l) (p.trans (sortI_perm l).symm)
end DL

set_option Elab.async false
set_option linter.all false
set_option maxRecDepth 100000
set_option maxHeartbeats 4000000
namespace DL
open PySem PySem.Spec PyProof.Rows L2

/-! ### sorted(xs), as a builtin -/
theorem call_sortI {X : Cx} : CallR X (.builtin "sorted") (fun xs H Q => ∃ (a : Addr) (ns : List Int), xs = [V.ref a] ∧ (SqL X.K H a (ns.map V.int) ∨ SqT X.K H a (ns.map V.int)) ∧ ∀ l, H l = none → Q (.ref l) (upd H l (.lst ((sortI ns).map V.int)))) := by
  intro pins s σ H xs us Q I r h
  obtain ⟨a, ns, rfl, hs, q⟩ := h
  rw [Vals.ref1 r]
  have fin : ∀ (its : List Value), IntsAre its ns → its.length ≤ sizeLine → ∀ (T : String) (o : Obj) (n : Nat), T = "list" ∨ T = "tuple" → s.heap.get? a = some o → o.cls = .type T → o.data = .seq its.toArray n → wpAny (model X.prog X.w) X.A (call (.builtin "sorted") [.ref a]) (EP X pins σ Q) X.xe s := by
    intro its hi hl T o n hT ho hc hd
    refine sorted_seq hT ho hc hd hi hl fun h' p out ns' c k hp he h1 h2 h3 => ?_
    obtain rfl := sortI_eq h2 h3
    have hn : H p = none := I.hok.gone hp
    have hlen : ((sortI ns).map V.int).length ≤ sizeLine := by rw [List.length_map, h2.length_eq, ← hi.length]; exact hl
    exact ⟨.ref p, upd H p (.lst ((sortI ns).map V.int)), I.laidN (t' := s.toks) k hp hn ⟨hlen, out, c, vals_of_ints h1, he⟩, rfl, q p hn⟩
  rcases hs with hq | hq
  · obtain ⟨its, rv, hl, hz⟩ := I.list hq
    obtain ⟨o, ho, hc, n, hd⟩ := hl.isList
    have hi := rv.ints
    exact fin its hi (by rw [hi.length]; simpa using hz) "list" o n (.inl rfl) ho hc hd
  · obtain ⟨its, rv, hl, hz⟩ := I.tuple hq
    obtain ⟨o, ho, hc, n, hd⟩ := hl
    have hi := rv.ints
    exact fin its hi (by rw [hi.length]; simpa using hz) "tuple" o n (.inr rfl) ho hc hd
def sort1 : D → Option D
  | .lst l => (intsD l).map fun ns => .lst ((sortI ns).map .int)
  | .tup l => (intsD l).map fun ns => .lst ((sortI ns).map .int)
  | _ => none
theorem rvs_ints {K : PySem.W.Frag} {H : Hp} {as : List Addr} : ∀ ns : List Int, RVs K H as (ns.map D.int) (ns.map V.int)
  | [] => .nil
  | n :: ns => .cons (.int n) (rvs_ints ns)
section
variable {K : PySem.W.Frag}
theorem c_sort : C1 K sort1 (fun xs H Q => ∃ (a : Addr) (ns : List Int), xs = [V.ref a] ∧ (SqL K H a (ns.map V.int) ∨ SqT K H a (ns.map V.int)) ∧ ∀ l, H l = none → Q (.ref l) (upd H l (.lst ((sortI ns).map V.int)))) := by
  intro as H x z v Q n e r k
  have seq : ∀ l ns, (x = .lst l ∨ x = .tup l ∨ x = .frz l) → intsD l = some ns → z = .lst ((sortI ns).map .int) → ∃ (a : Addr) (ns : List Int), [v] = [V.ref a] ∧ (SqL K H a (ns.map V.int) ∨ SqT K H a (ns.map V.int)) ∧ ∀ l, H l = none → Q (.ref l) (upd H l (.lst ((sortI ns).map V.int))) := fun l ns hl hi hz => by
    obtain ⟨a, vs, rfl, rr, h⟩ := r.seq hl
    subst hz
    cases intsD_ok hi rr
    exact ⟨a, ns, rfl, h, fun q hq => k _ _ (same_upd hq) (.lst upd_same (n q hq) (rvs_ints _))⟩
  cases x with
  | lst l =>
    cases e2 : intsD l with
    | none => simp [sort1, e2] at e
    | some ns =>
      simp [sort1, e2] at e
      exact seq l ns (by simp) e2 e.symm
  | tup l =>
    cases e2 : intsD l with
    | none => simp [sort1, e2] at e
    | some ns =>
      simp [sort1, e2] at e
      exact seq l ns (by simp) e2 e.symm
  | _ => cases e
end
theorem b_sorted {X : Cx} (h : X.mg "sorted" = none) : Bi X "sorted" (on1 sort1) := ⟨.inl ⟨_, _, call_sortI, c_sort.s, h, by decide +kernel⟩⟩

/-! ### {i: n}, of constants; what is never come to -/
theorem upd_twice {H : Hp} {p : Addr} {a b : HO} : upd (upd H p a) p b = upd H p b := by
  funext q
  by_cases h : q = p
  · subst h; rw [upd_same, upd_same]
  · rw [upd_ne h, upd_ne h, upd_ne h]
def mNo {α : Type} : M α := fun _ _ => .no
section
variable {X : Cx} {W : WX} {pos : Pos} {e : Expr}
theorem de_disp1 {i n : Int} {j1 j2 : Nat} {p1 p2 : Pos} : DE X W (.Dict [some (.Constant (.int i) j1 p1)] [.Constant (.int n) j2 p2] pos) (mC (.dct [.int i] [.int n])) :=
  PE.imp (pe_disp (pps_cons pe_int pe_int pps_nil) rfl rfl (by simp) (by simp)) fun σ H Q ⟨as, ds, h, s, p⟩ => fun q hq => by
    refine ⟨upd_same, [(.inl i, .int n)], rfl, by simp, ?_⟩
    rw [upd_twice]
    have sm := same_upd (o := .dK (mergeK [] [(.inl i, .int n)])) hq
    exact p (.ref q) _ as (.of_same sm) (.val (.dct upd_same (s.heap.notin hq) rfl (.cons (.int n) .nil))) (s.heap.same sm)
theorem pe_never : PE X e (fun _ _ _ => False) := ⟨fun _ _ _ _ _ _ h => h.elim⟩
theorem pt_never : PT X e (fun _ _ _ => False) := ⟨fun _ _ _ _ _ _ h => h.elim⟩
theorem de_no : DE X W e mNo := PE.imp pe_never fun σ H Q ⟨as, ds, h, s, p⟩ => p
theorem dt_no : DT X W e mNo := PT.imp pt_never fun σ H Q ⟨as, ds, h, s, p⟩ => p
end
end DL

set_option Elab.async false
set_option linter.all false
set_option maxRecDepth 100000
set_option maxHeartbeats 4000000
namespace DL
open PySem PySem.Spec PyProof.Rows L2

/-! ### list(range(..)), tuple(range(..)) -/
def rgMk (tup : Bool) (i j : Int) : Option D :=
  if 0 ≤ i ∧ i ≤ 16777216 ∧ 0 ≤ j ∧ j ≤ 16777216 then some (if tup then .tup (rangeL i (j - i).toNat) else .lst (rangeL i (j - i).toNat)) else none
def mRg1 (tup : Bool) (ma : M D) : M D := fun ds h => (ma ds h).bind fun x h1 => match x with
  | .int j => (match rgMk tup 0 j with
    | some d => .ok d h1
    | none => .no)
  | _ => .no
def mRg2 (tup : Bool) (ma mb : M D) : M D := fun ds h => (ma ds h).bind fun x h1 => (mb ds h1).bind fun y h2 => match x, y with
  | .int i, .int j => (match rgMk tup i j with
    | some d => .ok d h2
    | none => .no)
  | _, _ => .no
theorem rvs_range {K : PySem.W.Frag} {H : Hp} {as : List Addr} {i : Int} : ∀ l : List Nat, RVs K H as (l.map fun (k : Nat) => D.int (i + (k : Nat))) (l.map fun (k : Nat) => V.int (i + (k : Nat)))
  | [] => .nil
  | _ :: l => .cons (.int _) (rvs_range l)
theorem rg_end {K : PySem.W.Frag} {mg : Str → Option Value} {W : WX} {σ : L2.St} {as : List Addr} {H : Hp} {h : Hs} {tup : Bool} {i j : Int} {Q : VK} (hr : HeapR K H as h) (p : PostE K mg W as σ H (match rgMk tup i j with
    | some d => .ok d h
    | none => .no) Q) : RgOk i j ∧ ∀ q, H q = none → Q (.ref q) (upd H q (if tup then .tup (rgV i j) else .lst (rgV i j))) := by
  unfold rgMk at p
  by_cases c : 0 ≤ i ∧ i ≤ 16777216 ∧ 0 ≤ j ∧ j ≤ 16777216
  · rw [if_pos c] at p
    refine ⟨RgOk.of_le c.1 c.2.2.2 c.2.1 c.2.2.1, fun q hq => ?_⟩
    cases tup with
    | true =>
      have sm := same_upd (o := .tup (rgV i j)) hq
      exact p (.ref q) _ as (.of_same sm) (.val (.tup (SqT.of upd_same) (rvs_range _))) (hr.same sm)
    | false =>
      have sm := same_upd (o := .lst (rgV i j)) hq
      exact p (.ref q) _ as (.of_same sm) (.val (.lst upd_same (hr.notin hq) (rvs_range _))) (hr.same sm)
  · rw [if_neg c] at p; exact p.elim
theorem rv_int {K : PySem.W.Frag} {H : Hp} {as : List Addr} {i : Int} {v : V} (r : RV K H as (.int i) v) : v = .int i := by cases r; rfl
section
variable {X : Cx} {W : WX} {pos p p2 pos2 : Pos} {a b : Expr} {ma mb : M D}
theorem tRg1_ok {tup : Bool} (ha : DE X W a ma) {σ : L2.St} {H : Hp} {Q : VK} (q : teM X.K X.mg W (mRg1 tup ma) σ H Q) :
    tRg1 (teM X.K X.mg W ma) σ H fun i j H1 => RgOk i j ∧ ∀ q, H1 q = none → Q (.ref q) (upd H1 q (if tup then .tup (rgV i j) else .lst (rgV i j))) := by
  obtain ⟨as, ds, h, s, q⟩ := q
  refine ⟨as, ds, h, s, PostE.bindE q fun x h1 v H1 as1 g r hr q1 => ?_⟩
  cases x with
  | int j => cases rv_int r; exact ⟨j, rfl, rg_end hr q1⟩
  | _ => exact q1.elim
theorem tRg2_ok {tup : Bool} (ha : DE X W a ma) (hb : DE X W b mb) {σ : L2.St} {H : Hp} {Q : VK} (q : teM X.K X.mg W (mRg2 tup ma mb) σ H Q) :
    tRg2 (teM X.K X.mg W ma) (teM X.K X.mg W mb) σ H fun i j H1 => RgOk i j ∧ ∀ q, H1 q = none → Q (.ref q) (upd H1 q (if tup then .tup (rgV i j) else .lst (rgV i j))) := by
  obtain ⟨as, ds, h, s, q⟩ := q
  refine ⟨as, ds, h, s, PostE.bindE q fun x h1 v H1 as1 g r hr q1 => ⟨as1, ds, h1, ⟨s.env.grow g, hr⟩, PostE.bindE q1 fun y h2 u H2 as2 g2 r2 hr2 q2 => ?_⟩⟩
  cases x with
  | int i => cases y with
    | int j => cases rv_int r; cases rv_int r2; exact ⟨i, j, rfl, rfl, rg_end hr2 q2⟩
    | _ => exact q2.elim
  | _ => exact q2.elim
theorem de_listRg1 (hl : X.mg "list" = none) (hm : X.mg "range" = none) (ha : DE X W a ma) (hg : Gl X "list" := by rfl) (hg2 : Gl X "range" := by rfl) (hc : X.calm = true := by rfl)
    (na : starEach [a] X.env = (false, eval a X.env) :: starEach [] X.env := by rfl) (na2 : starEach [.Call (.Name "range" p2) [a] [] pos2] X.env = (false, eval (.Call (.Name "range" p2) [a] [] pos2) X.env) :: starEach [] X.env := by rfl) :
    DE X W (.Call (.Name "list" p) [.Call (.Name "range" p2) [a] [] pos2] [] pos) (mRg1 false ma) :=
  PE.imp (pe_listRg hc hg hl (prg_1 hg2 hm ha na) na2) fun σ H Q q => tRg1_ok (tup := false) ha q
theorem de_tupRg1 (hl : X.mg "tuple" = none) (hm : X.mg "range" = none) (ha : DE X W a ma) (hg : Gl X "tuple" := by rfl) (hg2 : Gl X "range" := by rfl) (hc : X.calm = true := by rfl)
    (na : starEach [a] X.env = (false, eval a X.env) :: starEach [] X.env := by rfl) (na2 : starEach [.Call (.Name "range" p2) [a] [] pos2] X.env = (false, eval (.Call (.Name "range" p2) [a] [] pos2) X.env) :: starEach [] X.env := by rfl) :
    DE X W (.Call (.Name "tuple" p) [.Call (.Name "range" p2) [a] [] pos2] [] pos) (mRg1 true ma) :=
  PE.imp (pe_tupRg hc hg hl (prg_1 hg2 hm ha na) na2) fun σ H Q q => tRg1_ok (tup := true) ha q
theorem de_listRg2 (hl : X.mg "list" = none) (hm : X.mg "range" = none) (ha : DE X W a ma) (hb : DE X W b mb) (hg : Gl X "list" := by rfl) (hg2 : Gl X "range" := by rfl) (hc : X.calm = true := by rfl)
    (na : starEach [a, b] X.env = (false, eval a X.env) :: starEach [b] X.env := by rfl) (nb : starEach [b] X.env = (false, eval b X.env) :: starEach [] X.env := by rfl) (hp : (backTo pos2 (starEach [b] X.env)).any (·.1) = false := by rfl) (na2 : starEach [.Call (.Name "range" p2) [a, b] [] pos2] X.env = (false, eval (.Call (.Name "range" p2) [a, b] [] pos2) X.env) :: starEach [] X.env := by rfl) :
    DE X W (.Call (.Name "list" p) [.Call (.Name "range" p2) [a, b] [] pos2] [] pos) (mRg2 false ma mb) :=
  PE.imp (pe_listRg hc hg hl (prg_2 hg2 hm ha hb na nb hp) na2) fun σ H Q q => tRg2_ok (tup := false) ha hb q
end
end DL

set_option Elab.async false
set_option linter.all false
set_option maxRecDepth 100000
set_option maxHeartbeats 4000000
namespace DL
open PySem PySem.Spec PyProof.Rows L2

/-! ### len({x: True for x in xs}), xs tuples of ints and texts: how many there are -/
def keysL : List D → Option (List Key)
  | [] => some []
  | d :: l => match keyOf d, keysL l with
    | some k, some ks => some (k :: ks)
    | _, _ => none
def tksL : List D → Option (List (List Key))
  | [] => some []
  | .tup l :: r => (match keysL l, tksL r with
    | some k, some ks => some (k :: ks)
    | _, _ => none)
  | _ => none
def addK (acc : List (List Key)) (k : List Key) : List (List Key) := if acc.any (fun y => decide (y = k)) = true then acc else acc ++ [k]
def mDLen (src : M Src) : M D := fun ds h => (src ds h).bind fun s h1 => match s with
  | .its l => (match tksL l with
    | some ks => if l.length ≤ 65536 then .ok (.int ((ks.foldl addK []).length : Nat)) h1 else .no
    | none => .no)
  | _ => .no
theorem keysL_ok {K : PySem.W.Frag} {H : Hp} {as : List Addr} : ∀ {l : List D} {ks : List Key} {vs : List V}, keysL l = some ks → RVs K H as l vs → vs = ks.map kV
  | [], _, _, e, .nil => by simp only [keysL, Option.some.injEq] at e; subst e; rfl
  | d :: l, ks, _, e, .cons r t => by
    unfold keysL at e
    cases e1 : keyOf d with
    | none => simp [e1] at e
    | some k => cases e2 : keysL l with
      | none => simp [e1, e2] at e
      | some ks' =>
        simp only [e1, e2, Option.some.injEq] at e
        subst e
        have rt : RT K H as d _ := .val r
        rw [key_rv e1 rt, keysL_ok e2 t]; rfl
theorem tksL_get {K : PySem.W.Frag} {H : Hp} {as : List Addr} : ∀ {l : List D} {ks : List (List Key)}, tksL l = some ks → ks.length = l.length ∧ ∀ (i : Nat) (d : D) (x : V), l[i]? = some d → RV K H as d x → ∃ k a, ks[i]? = some k ∧ x = .ref a ∧ SqT K H a (k.map kV)
  | [], ks, e => by
    simp only [tksL, Option.some.injEq] at e; subst e
    exact ⟨rfl, fun i d x h => by simp at h⟩
  | d :: l, ks, e => by
    cases d with
    | tup m =>
      unfold tksL at e
      cases e1 : keysL m with
      | none => simp [e1] at e
      | some k => cases e2 : tksL l with
        | none => simp [e1, e2] at e
        | some ks' =>
          simp only [e1, e2, Option.some.injEq] at e
          subst e
          obtain ⟨h1, h2⟩ := tksL_get e2
          refine ⟨by simp [h1], fun i d x h r => ?_⟩
          cases i with
          | zero =>
            simp only [List.getElem?_cons_zero, Option.some.injEq] at h
            subst h
            cases r with
            | tup hs rs =>
              refine ⟨k, _, rfl, rfl, ?_⟩
              rw [← keysL_ok e1 rs]; exact hs
          | succ i => exact h2 i d x (by simpa using h) r
    | _ => simp [tksL] at e
abbrev tkd (X : Cx) : HeapKind X.prog X.w (List Key) := tupleKind (mixKind X.prog X.w)
/-- the dict at D, that the frame does not track -/
def DKs (X : Cx) (H : Hp) (h : Heap) (D : Addr) (xs : List (List Key × Addr × Value)) : Prop :=
  (∃ o es ep, h.get? D = some o ∧ o.ExactDict ∧ o.data = .dict es ep ∧ es.toList = xs.map (entryOfKey (tkd X))) ∧ (xs.map (·.1)).Nodup ∧ ∀ x ∈ xs, SqT X.K H x.2.1 (x.1.map kV)
theorem key_sq {X : Cx} {pins : List (Addr × Obj)} {σ : L2.St} {H : Hp} {s : Shared} {a : Addr} {k : List Key} (I : Inv X pins σ H s) (h : SqT X.K H a (k.map kV)) : (tkd X).is s.heap k a := by
  obtain ⟨its, rv, ⟨o, ho, hc, n, hd⟩, _⟩ := I.tuple h
  exact ⟨o, its.toArray, n, ho, hc, hd, by simpa using items_are rv⟩
theorem DKs.of {X : Cx} {pins : List (Addr × Obj)} {σ : L2.St} {H : Hp} {s : Shared} {D : Addr} {xs : List (List Key × Addr × Value)} (d : DKs X H s.heap D xs) (I : Inv X pins σ H s) : s.heap.DictOfH (tkd X) D xs := by
  obtain ⟨⟨o, es, ep, h1, h2, h3, h4⟩, h5, h6⟩ := d
  exact ⟨o, es, ep, h1, h2, h3, h4, fun x hx => key_sq I (h6 x hx), h5⟩
theorem at_any {xs : List (List Key × Addr × Value)} {k : List Key} : (atKey xs k).isSome = (xs.map (·.1)).any (fun y => decide (y = k)) := by
  unfold atKey
  rw [Option.isSome_map, Bool.eq_iff_iff, List.find?_isSome, List.any_map, List.any_eq_true]
  rfl
theorem stored_keys {xs : List (List Key × Addr × Value)} {k : List Key} {a : Addr} {v : Value} : (storedH xs k a v).map (·.1) = addK (xs.map (·.1)) k := by
  unfold storedH addK
  rw [at_any]
  split
  · rw [List.map_map]
    refine List.map_congr_left fun x _ => ?_
    show (putAt k v x).1 = x.1
    unfold putAt
    split <;> rfl
  · rw [List.map_append]
    rfl
theorem stored_mem {xs : List (List Key × Addr × Value)} {k : List Key} {a : Addr} {v : Value} {x : List Key × Addr × Value} (hx : x ∈ storedH xs k a v) : (x.1 = k ∧ x.2.1 = a) ∨ ∃ y ∈ xs, y.1 = x.1 ∧ y.2.1 = x.2.1 := by
  unfold storedH at hx
  split at hx
  · obtain ⟨y, hy, rfl⟩ := List.mem_map.mp hx
    refine .inr ⟨y, hy, ?_⟩
    unfold putAt
    split <;> exact ⟨rfl, rfl⟩
  · rcases List.mem_append.mp hx with hx | hx
    · exact .inr ⟨x, hx, rfl, rfl⟩
    · rw [List.mem_singleton] at hx
      subst hx
      exact .inl ⟨rfl, rfl⟩
theorem addK_len : ∀ (l acc : List (List Key)), (l.foldl addK acc).length ≤ acc.length + l.length
  | [], acc => by simp
  | k :: l, acc => by
    have h := addK_len l (addK acc k)
    have h2 : (addK acc k).length ≤ acc.length + 1 := by
      unfold addK
      split <;> simp
    simp only [List.foldl_cons, List.length_cons]
    omega
theorem foldl_take {ks : List (List Key)} {i : Nat} {k : List Key} (h : ks[i]? = some k) : (ks.take (i + 1)).foldl addK [] = addK ((ks.take i).foldl addK []) k := by
  rw [List.take_succ, h, List.foldl_append]
  rfl
section
variable {X : Cx} {W : WX} {p p1 p2 p3 pos pos' : Pos} {iter : Expr} {scope : Scope} {own : List (Str × Nat)} {ms : M Src} {x : Str} {i j : Nat}
theorem dlen_core {pins : List (Addr × Obj)} {s : Shared} {σ : L2.St} {H : Hp} {Q : VK} (hcalm : X.calm = true) (hu : X.A.units + 64 < cLine) (hN : X.N.Nodup) (I : Inv X pins σ H s) (hi : DI X W (.Name x p3) iter ms) (ok : BlkOk X.N X.env.scope scope own) (hxi : X.N[i]? = some x)
    (hg : ∀ (s : Shared) (H : Hp) (C : Addr) (cl : List (Str × Addr)) (fp : List Addr), PG (X.blk s H scope (compEnvC scope cl C X.env) fp) (.Name x p3) (gName i))
    (hk : ∀ (s : Shared) (H : Hp) (C : Addr) (cl : List (Str × Addr)) (fp : List Addr), PE (X.blk s H scope (compEnvC scope cl C X.env) fp) (.Name x p1) (tVar i))
    (hs : ∀ y, foldedSetIterable iter X.env y = pure y) (hown : i ∈ own.map (·.2)) (q0 : teM X.K X.mg W (mDLen ms) σ H Q) :
    wpAny (model X.prog X.w) X.A (eval (.DictComp (.Name x p1) (.Constant (.bool true) j p2) [⟨.Name x p3, iter, [], 0⟩] scope pos) X.env) (fun u s' => ∃ D xs H', u = .ref D ∧ (D == sysModules) = false ∧ Inv X pins σ H' s' ∧ s'.heap.DictOfH (tkd X) D xs ∧ xs.length ≤ 65536 ∧ Q (.int (xs.length : Nat)) H') X.xe s := by
  obtain ⟨as, ds, hh, st, q0⟩ := q0
  rw [arm_eval_DictComp]
  have free : ∀ y ∈ scope.names, y.2 = .free → ∃ c, X.env.cells.lookup y.1 = some c := fun y hy e => (ok.free y hy e).elim (fun z => I.ok.has _ (.inl z)) fun z => I.ok.has _ (.inr z)
  have wi : tiM X.K X.mg W ms σ H fun J H1 => ∃ (as1 : List Addr) (h1 : Hs) (l : List D) (ks : List (List Key)), HeapR X.K H1 as1 h1 ∧ WalkD X.K as1 H1 J (.its l) ∧ tksL l = some ks ∧ l.length ≤ 65536 ∧ ∀ H2, Same H1 H2 → Q (.int ((ks.foldl addK []).length : Nat)) H2 := by
    refine ⟨as, ds, hh, st, ?_⟩
    unfold mDLen at q0
    cases e : ms ds hh with
    | ex c p h1 => rw [e] at q0; exact q0
    | no => rw [e] at q0; exact q0
    | ok sr h1 =>
      rw [e] at q0
      intro J H1 as1 g1 hr1 wk
      cases sr with
      | cell _ _ => exact q0.elim
      | ecell _ _ => exact q0.elim
      | its l =>
        have q0 : PostE X.K X.mg W as σ H (match tksL l with
          | some ks => if l.length ≤ 65536 then .ok (.int ((ks.foldl addK []).length : Nat)) h1 else .no
          | none => .no) Q := q0
        cases ek : tksL l with
        | none => rw [ek] at q0; exact q0.elim
        | some ks =>
          rw [ek] at q0
          by_cases hl : l.length ≤ 65536
          · simp only [if_pos hl] at q0
            exact ⟨as1, h1, l, ks, hr1, wk, ek, hl, fun H2 sm => q0 _ H2 as1 (g1.trans (.of_same sm)) (.int _) (hr1.same sm)⟩
          · simp only [if_neg hl] at q0
            exact q0.elim
  refine wpAny_comprehension_free (use := none) rfl hs (closure_ok free) ok.kind (fun y hy e => (ok.uniq y hy).trans (by rw [e])) (thn (hi.run pins s σ H _ I wi) fun u1 s1 g => thn g fun u2 s2 g2 => ?_)
  obtain ⟨it, fp, tn, J, H1, rfl, I2, T, t2, f2, as1, h1, l, ks, hr1, wk, ek, hl, qq⟩ := g2
  refine wpAny_newObj_type (newEnv_comp ?_)
  obtain ⟨D, hD⟩ : ∃ D, D = s2.heap.objs.size := ⟨_, rfl⟩
  rw [← hD]
  have nD : H1 D = none := I2.hok.fresh (Nat.le_of_eq hD.symm)
  obtain ⟨s3, e3⟩ : ∃ s3 : Shared, s3 = { s2 with heap := s2.heap.push { cls := .type "dict", data := .dict #[] } } := ⟨_, rfl⟩
  have hp3 : s3.heap = s2.heap.push { cls := .type "dict", data := .dict #[] } := by rw [e3]
  have I3 : Inv X pins σ H1 s3 := by rw [e3]; exact I2.kept (t' := s2.toks) fun b o e => Heap.get?_push_of_some _ e
  have gD : s3.heap.get? D = some { cls := .type "dict", data := .dict #[] } := by rw [hp3, hD]; exact Heap.get?_push_size _ rfl
  have lo : ∀ b ∈ fp, b < D := fun b hb => by
    obtain ⟨o, e, _⟩ := T.obj _ _ t2 b hb
    rw [hD]; exact Heap.lt_size e
  have DF : D ∉ fp := fun hb => Nat.lt_irrefl _ (lo D hb)
  have up : s3.heap.objs.size = D + 1 := by rw [hp3, Heap.size_push, hD]
  have fX : ∀ b ∈ D :: fp, FpOk X pins H1 b ∧ b < s3.heap.objs.size := fun b hb => by
    rw [up]
    rcases List.mem_cons.mp hb with rfl | hb
    · exact ⟨I2.fpOk (Nat.le_of_eq hD.symm) nD, Nat.lt_succ_self _⟩
    · exact ⟨f2 b hb, Nat.lt_succ_of_lt (lo b hb)⟩
  have t3 : tn 0 s3.heap := T.keep _ _ _ t2 fun b _ o e => by rw [hp3]; exact Heap.get?_push_of_some _ e
  have I4 := block_start I3 ok hN fX
  have pg := hg s3 H1 s3.heap.objs.size (cellsFrom (s3.heap.objs.size + 1) scope.names (cloFrom X.env.cells scope.names [])) (D :: fp)
  have pk := hk s3 H1 s3.heap.objs.size (cellsFrom (s3.heap.objs.size + 1) scope.names (cloFrom X.env.cells scope.names [])) (D :: fp)
  rw [← hp3]
  have e3h : ∀ hp : Heap, ({ s2 with heap := hp } : Shared) = { s3 with heap := hp } := fun hp => by rw [e3]
  rw [e3h]
  have xlen : ∀ {xs : List (List Key × Addr × Value)} {m : Nat}, xs.map (·.1) = (ks.take m).foldl addK [] → xs.length ≤ 65536 := fun {xs m} e => by
    have h1 := congrArg List.length e
    have h2 := addK_len (ks.take m) []
    have h3 := (tksL_get (K := X.K) (H := H1) (as := as1) ek).1
    have h4 : (ks.take m).length ≤ ks.length := by rw [List.length_take]; omega
    simp only [List.length_map, List.length_nil] at h1 h2
    omega
  obtain ⟨ce, hce⟩ : ∃ ce, ce = compEnvC scope (cellsFrom (s3.heap.objs.size + 1) scope.names (cloFrom X.env.cells scope.names [])) s3.heap.objs.size X.env := ⟨_, rfl⟩
  obtain ⟨s4, e4⟩ : ∃ s4 : Shared, s4 = { s3 with heap := pushCells (s3.heap.push { cls := .type "dict", data := .dict #[] }) scope.names } := ⟨_, rfl⟩
  have cL : ce.locals = s3.heap.objs.size := by rw [hce]; rfl
  rw [← hce, ← e4] at I4
  rw [← hce] at pg pk
  have kp4 : ∀ b o, s3.heap.get? b = some o → s4.heap.get? b = some o := fun b o e => by rw [e4]; exact pushCells_keeps _ _ _ _ (Heap.get?_push_of_some _ e)
  have t4 : tn 0 s4.heap := T.keep _ _ _ t3 fun b _ o e => kp4 b o e
  show codeAny (model X.prog X.w) X.A (.compStart _ 0 (.ref it) (.ref D) (compEnvC scope (cellsFrom (s3.heap.objs.size + 1) scope.names (cloFrom X.env.cells scope.names [])) s3.heap.objs.size X.env)) (compPost (model X.prog X.w) X.A X.xe none _ (.ref D) s3.heap.objs.size) { s3 with heap := pushCells (s3.heap.push { cls := .type "dict", data := .dict #[] }) scope.names }
  rw [← hce, ← e4]
  have foot : ∀ {pn' : List (Addr × Obj)} {σ' : L2.St} {H' : Hp} {s' : Shared}, Inv (X.blk s3 H1 scope ce (D :: fp)) pn' σ' H' s' → ∀ b ∈ D :: fp, H' b = none → (∀ p ∈ pn', p.1 ≠ b) → FpOk (X.blk s3 H1 scope ce (D :: fp)) pn' H' b := fun I' b hb hn hp =>
    ⟨hn, (I'.ok.exf b hb).1, I'.ok.exfs b hb, .inl hb, fun y c e => (I'.ok.exf b hb).2 y c e, fun p hm => (List.mem_append.mp hm).elim (fun z => by cases z) (hp p)⟩
  have ocell : ∀ {pn' : List (Addr × Obj)} {σ' : L2.St} {H' : Hp} {s' : Shared}, Inv (X.blk s3 H1 scope ce (D :: fp)) pn' σ' H' s' → D ≠ ce.locals ∧ D ∉ (X.blk s3 H1 scope ce (D :: fp)).fs ∧ ∀ y c, ce.cells.lookup y = some c → c ≠ D := fun I' =>
    ⟨(I'.ok.exf D List.mem_cons_self).1, I'.ok.exfs D List.mem_cons_self, fun y c e => (I'.ok.exf D List.mem_cons_self).2 y c e⟩
  have loop : codeAny (model X.prog X.w) X.A (.compLoop (.DictComp (.Name x p1) (.Constant (.bool true) j p2) [⟨.Name x p3, iter, [], 0⟩] scope pos) 0 (.ref it) (.ref D) ce) (compPost (model X.prog X.w) X.A X.xe none (fun u s' => ∃ D xs H', u = .ref D ∧ (D == sysModules) = false ∧ Inv X pins σ H' s' ∧ s'.heap.DictOfH (tkd X) D xs ∧ xs.length ≤ 65536 ∧ Q (.int (xs.length : Nat)) H') (.ref D) s3.heap.objs.size) s4 := by
    refine compLoop_anyD (fun n s' => ∃ (m : Nat) (H' : Hp) (xs : List (List Key × Addr × Value)), m + n = l.length ∧ Inv (X.blk s3 H1 scope ce (D :: fp)) [] (L2.wipe σ (own.map (·.2))) H' s' ∧ tn m s'.heap ∧ (∀ b ∈ fp, H' b = none) ∧ H' D = none ∧ Same H1 H' ∧ DKs X H' s'.heap D xs ∧ xs.map (·.1) = (ks.take m).foldl addK []) ?_ l.length
      ⟨0, H1, [], Nat.zero_add _, I4, t4, fun b hb => (f2 b hb).1, nD, Same.refl H1, ⟨⟨_, #[], 0, kp4 D _ gD, ⟨rfl, rfl, rfl⟩, rfl, rfl⟩, List.nodup_nil, fun y hy => by cases hy⟩, rfl⟩
    rintro n s5 ⟨m, H5, xs, hm, I5, t5, n5, d5, sm5, dk5, hx5⟩
    obtain ⟨⟨oD, es, ep, gD5, exD, dD, esD⟩, ndD, sqD⟩ := id dk5
    have IP : Inv (X.blk s3 H1 scope ce (D :: fp)) [(D, oD)] (L2.wipe σ (own.map (·.2))) H5 s5 := I5.pins_of fun p hp => by
      rw [List.mem_singleton] at hp
      subst hp
      exact ⟨gD5, d5, (ocell I5).1, (ocell I5).2.1, fun v z => by rw [dD] at z; cases z⟩
    have fpD : ∀ {σ' : L2.St} {H' : Hp} {s' : Shared}, Inv (X.blk s3 H1 scope ce (D :: fp)) [(D, oD)] σ' H' s' → (∀ b ∈ fp, H' b = none) → ∀ b ∈ fp, FpOk (X.blk s3 H1 scope ce (D :: fp)) [(D, oD)] H' b := fun I' hn b hb => foot I' b (List.mem_cons_of_mem _ hb) (hn b hb) fun p hp => by
      rw [List.mem_singleton] at hp
      subst hp
      exact fun z => DF (by rw [show D = b from z]; exact hb)
    cases n with
    | zero =>
      have hmL : m = l.length := by omega
      have stop : J.stop m H5 := by
        rw [hmL]
        exact wk.stop h1 H5 as1 (.of_same sm5) (hr1.same sm5) rfl
      refine thnF (T.done (X.blk s3 H1 scope ce (D :: fp)) rfl rfl rfl hcalm m [(D, oD)] s5 _ H5 (fun _ _ => False) IP (fpD IP n5) t5 stop) fun r s6 ⟨er, I6⟩ => ?_
      subst er
      have I7 : Inv X pins σ H5 s6 := I3.call' (ch := D :: fp) I6.os I6.base I6.hok I6.bare fun b hb => let z := (fX b hb).1; ⟨z.2.2.2.1, z.2.1, z.2.2.2.2.1, z.2.2.2.2.2⟩
      have nC : H5 s3.heap.objs.size = none := by rw [← cL]; exact I6.free
      obtain ⟨m6, hn6, _⟩ := I6.loc
      have hn6 : s6.heap.Ns ce.locals m6 := hn6
      rw [cL] at hn6
      have gD6 : s6.heap.get? D = some oD := (I6.pin (D, oD) (List.mem_append_right _ List.mem_cons_self)).1
      refine ⟨m6, hn6, fun hz sb => ?_⟩
      obtain ⟨f0, f1, _, f3, f4, f5⟩ := I3.fpOk (Nat.le_refl _) nC
      have I8 : Inv X pins σ H5 { s6 with heap := hz } := I7.turned (t' := s6.toks) (fun b o hb e => (sb.2 b hb).trans e) f0 f1 f3 f4 f5
      have gD8 : hz.get? D = some oD := (sb.2 D (by rw [up]; exact Nat.ne_of_lt (Nat.lt_succ_self D))).trans gD6
      have dk8 : DKs X H5 hz D xs := ⟨⟨oD, es, ep, gD8, exD, dD, esD⟩, ndD, sqD⟩
      refine ⟨D, xs, H5, rfl, ?_, I8, dk8.of I8, xlen hx5, ?_⟩
      · rw [hD]; exact beq_eq_false_iff_ne.mpr (Ne.symm (Nat.ne_of_lt I2.big))
      · have e1 := congrArg List.length hx5
        rw [hmL, ← (tksL_get (K := X.K) (H := H1) (as := as1) ek).1, List.take_length, List.length_map] at e1
        rw [e1]
        exact qq H5 sm5
    | succ n =>
      have hlt : m < l.length := by omega
      have hd : l[m]? = some l[m] := List.getElem?_eq_getElem hlt
      obtain ⟨go, yl⟩ := wk.go m h1 H5 as1 l[m] (.of_same sm5) (hr1.same sm5) hd
      refine thnF (T.item (X.blk s3 H1 scope ce (D :: fp)) rfl rfl rfl hcalm m [(D, oD)] s5 _ H5 (fun _ _ => False) IP (fpD IP n5) t5 go) fun r s6 ⟨u, er, h6⟩ => ?_
      subst er
      refine thnF h6 fun _ s7 ⟨xv, H7, I7, r7, y7, t7, n7⟩ => ?_
      obtain ⟨sm7, rv7⟩ := yl xv H7 y7
      obtain ⟨k, a, ek7, rfl, sq7⟩ := (tksL_get ek).2 m l[m] xv hd rv7
      obtain rfl : u = Value.ref a := r7
      have I7' := I7.pinned (fpD I7 n7) (T.obj _ _ t7)
      refine thnF (pg.run _ s7 _ H7 (.ref a) (.ref a) (fun σ' H' => σ' = (L2.wipe σ (own.map (·.2))).set i (some (.ref a)) ∧ H' = H7) I7' rfl ⟨rfl, rfl⟩) fun _ s8 ⟨σ8, H8, I8, e8, e9⟩ => ?_
      subst e8 e9
      have li : i < (L2.wipe σ (own.map (·.2))).length := by
        rw [wipe_length, I.len]
        exact (List.getElem?_eq_some_iff.mp hxi).1
      refine thnF (show wpAny _ _ _ (fun b s' => b = true ∧ s' = s8) _ s8 from wpAny_pure ⟨rfl, rfl⟩) fun b s9 ⟨hb, hs9⟩ => ?_
      subst hb hs9
      simp only [if_true]
      refine thnF (pk.run _ s9 _ H8 (fun v H' => v = .ref a ∧ H' = H8) I8 ⟨.ref a, List.getElem?_set_self li, rfl, rfl⟩) fun z s10 ⟨y, H10, I10, r10, ey, eH⟩ => ?_
      subst ey eH
      obtain rfl : z = Value.ref a := r10
      refine thnF ((pe_bl (X := X.blk s3 H1 scope ce (D :: fp))).run _ s10 _ H10 (fun v H' => v = .bl true ∧ H' = H10) I10 ⟨rfl, rfl⟩) fun z2 s11 ⟨y2, H11, I11, r11, ey2, eH2⟩ => ?_
      subst ey2 eH2
      have pD := I11.pin (D, oD) (List.mem_append_right _ (List.mem_append_left _ List.mem_cons_self))
      have dk11 : DKs X H11 s11.heap D xs := ⟨⟨oD, es, ep, pD.1, exD, dD, esD⟩, ndD, fun y hy => sqT_fr (as := []) (Fr.of_same sm7) (sqD y hy)⟩
      have sq7' : SqT (X.blk s3 H1 scope ce (D :: fp)).K H11 a (k.map kV) := sq7
      have kx : (tkd X).is s11.heap k a := key_sq (X := X.blk s3 H1 scope ce (D :: fp)) I11 sq7'
      have dk11' : DKs (X.blk s3 H1 scope ce (D :: fp)) H11 s11.heap D xs := dk11
      have dx11 : s11.heap.DictOfH (tkd X) D xs := dk11'.of I11
      refine wpAny_dictSet_heap (knd := tkd X) (hsz := by rw [sizeLine_eq]; have := xlen hx5; omega) (show X.A.units < cLine by omega) kx dx11 fun h' dd' sb => ?_
      obtain ⟨oz, esz, epz, g1, g2, g3, g4, g5, g6⟩ := dd'
      have IU : Inv (X.blk s3 H1 scope ce (D :: fp)) [] _ H11 s11 := I11.pins_of fun p hp => by cases hp
      refine ⟨n, Nat.lt_succ_self n, m + 1, H11, storedH xs k a z2, by omega, ?_, ?_, n7, pD.2.1, fun b o e => sm7 b o (sm5 b o e), ⟨⟨oz, esz, epz, g1, g2, g3, g4⟩, g6, fun y hy => ?_⟩, by rw [stored_keys, hx5, foldl_take ek7]⟩
      · have I12 := IU.turned (t' := s11.toks + (tkd X).draws k) (it := D) (fun b o hb e => (sb.2 b hb).trans e) pD.2.1 (ocell IU).1 (.inl List.mem_cons_self) (ocell IU).2.2 (fun p hp => by cases hp)
        refine I12.weak (by rw [List.length_set]) fun q v e => ?_
        have nq := (wipe_some e).2
        rw [List.getElem?_set_ne (fun (z : i = q) => nq (by rw [← z]; exact hown))]
        exact e
      · refine T.keep _ _ _ t7 fun b hb o e => ?_
        have z := I11.pin (b, o) (List.mem_append_right _ (List.mem_append_right _ (mem_pinsAt hb e)))
        exact (sb.2 b (fun z => DF (z ▸ hb))).trans z.1
      · rcases stored_mem hy with ⟨z1, z2⟩ | ⟨w, hw, z1, z2⟩
        · rw [z1, z2]; exact sq7
        · rw [← z1, ← z2]; exact sqT_fr (as := []) (Fr.of_same sm7) (sqD w hw)
  exact codeAny_compStart_dict loop (T.self X.A 0 _ _ _ t4 loop)
/-- len({x: True for x in xs}) -/
theorem de_dlen (hlen : X.mg "len" = none) (hu : X.A.units + 64 < cLine) (hN : X.N.Nodup) (hi : DI X W (.Name x p3) iter ms) (ok : BlkOk X.N X.env.scope scope own)
    (hg : ∀ (s : Shared) (H : Hp) (C : Addr) (cl : List (Str × Addr)) (fp : List Addr), PG (X.blk s H scope (compEnvC scope cl C X.env) fp) (.Name x p3) (gName i))
    (hk : ∀ (s : Shared) (H : Hp) (C : Addr) (cl : List (Str × Addr)) (fp : List Addr), PE (X.blk s H scope (compEnvC scope cl C X.env) fp) (.Name x p1) (tVar i))
    (hxi : X.N[i]? = some x := by rfl) (hown : i ∈ own.map (·.2) := by decide) (hcalm : X.calm = true := by rfl) (hgl : Gl X "len" := by rfl) (hs : ∀ y, foldedSetIterable iter X.env y = pure y := by intro _; rfl)
    (na : starEach [.DictComp (.Name x p1) (.Constant (.bool true) j p2) [⟨.Name x p3, iter, [], 0⟩] scope pos] X.env = (false, eval (.DictComp (.Name x p1) (.Constant (.bool true) j p2) [⟨.Name x p3, iter, [], 0⟩] scope pos) X.env) :: starEach [] X.env := by rfl) :
    DE X W (.Call (.Name "len" p) [.DictComp (.Name x p1) (.Constant (.bool true) j p2) [⟨.Name x p3, iter, [], 0⟩] scope pos] [] pos') (mDLen ms) := by
  refine ⟨fun pins s σ H Q I h => ?_⟩
  refine wpAny_Call_Name_kw (ld_blt I hgl hlen (u := .builtin "len") (by decide +kernel) ?_)
  refine PyProof.Rows.callWith_builtin1 (PyProof.Rows.args_cons (thn (dlen_core hcalm hu hN I hi ok hxi hg hk hs hown h) fun u s1 ⟨D, xs, H1, eu, hd, I1, dd, hl, q⟩ => PyProof.Rows.args_nil ?_) na) na
  subst eu
  exact call_len_dictH hd dd (by omega) ⟨.int (xs.length : Nat), H1, I1.tok _, ⟨_, rfl⟩, q⟩
end
end DL

set_option Elab.async false
set_option linter.all false
set_option maxRecDepth 100000
set_option maxHeartbeats 4000000
namespace DL
open PySem PySem.Spec PyProof.Rows L2

/-! ### a < b, data of any depth -/
def rLtA (K : PySem.W.Frag) : R2 := fun x y H Q => ∃ d e, Dp K H x d ∧ Dp K H y e ∧ PySem.W.alike d e = true ∧ d ≠ .none ∧ d.depth ≤ 60 ∧ Q (.bl (PySem.W.dataLt d e)) H
section
variable {X : Cx}
theorem op_ltA (hu : X.A.units + 64 < cLine) : OpR X (compareOp .Lt) (rLtA X.K) := by
  intro pins s σ H x y v u Q I rx ry h
  obtain ⟨d, e, hd, he, al, dn, dd, q⟩ := h
  obtain ⟨as, r1⟩ := Dp.reads I d x v hd rx
  obtain ⟨bs, r2⟩ := Dp.reads I e y u he ry
  have z : min d.depth e.depth ≤ d.depth := Nat.min_le_left _ _
  exact PySem.W.rcLt_alike d e X.A s v u as bs r1 r2 al dn (by omega) X.prog X.w _ _ ⟨.bl _, H, I, rfl, q⟩
end
def ltA (x y : D) : Option D := if okE 60 x = true ∧ okE 60 y = true ∧ PySem.W.alike (toPy x) (toPy y) = true ∧ notNone (toPy x) = true then some (.bl (PySem.W.dataLt (toPy x) (toPy y))) else none
def ltD2 (x y : D) : Option D := match ltD x y with
  | some z => some z
  | none => ltA x y
theorem lt2_s {X : Cx} : OpS X.K ltD2 fun x y H Q => rLtAll X.K x y H Q ∨ rLtA X.K x y H Q := by
  intro as H x y z v u Q n e r1 r2 k
  unfold ltD2 at e
  cases e1 : ltD x y with
  | some z' =>
    rw [e1] at e
    cases e
    exact .inl (lt_s (X := X) as H x y z v u Q n e1 r1 r2 k)
  | none =>
    rw [e1] at e
    have e : ltA x y = some z := e
    unfold ltA at e
    by_cases hc : okE 60 x = true ∧ okE 60 y = true ∧ PySem.W.alike (toPy x) (toPy y) = true ∧ notNone (toPy x) = true
    · rw [if_pos hc] at e; cases e
      exact .inr ⟨_, _, okE_rt hc.1 r1, okE_rt hc.2.1 r2, hc.2.2.1, fun z => by rw [z] at hc; exact absurd hc.2.2.2 (by simp [notNone]), (okE_lay hc.1).2, k _ H (Same.refl H) (.bl _)⟩
    · rw [if_neg hc] at e; cases e
theorem ck_lt2 {X : Cx} {k : Nat} (hr : Room k X.A) : CmpK X .Lt ltD2 := ⟨_, (op_ltAll hr.units0).or (op_ltA hr.units), lt2_s⟩
end DL

set_option Elab.async false
set_option linter.all false
set_option maxRecDepth 100000
set_option maxHeartbeats 4000000
namespace DL
open PySem PySem.Spec PyProof.Rows L2

/-! ### a short tuple, many times -/
def rRepL (K : PySem.W.Frag) : R2 := fun x y H Q => ∃ (a : Addr) (n : Int) (us : List V), x = .ref a ∧ y = .int n ∧ SqT K H a us ∧ us ≠ [] ∧ us.length ≤ 10 ∧ 2 ≤ n ∧ n ≤ 20000 ∧ ∀ b, H b = none → Q (.ref b) (upd H b (.tup (List.replicate n.toNat us).flatten))
section
variable {X : Cx}
theorem op_repL : OpR X (binaryOp .Mult) (rRepL X.K) := by
  rintro pins s σ H x y v u Q I rx ry ⟨a, n, us, rfl, rfl, hT, ne, hl, n2, nm, q⟩
  cases rx
  obtain ⟨tk, rfl⟩ := ry
  obtain ⟨its, rv, ⟨ob, ho, hc, cap, hd⟩, _⟩ := I.tuple hT
  obtain ⟨cls, dct, dat, slt⟩ := ob
  cases (show cls = _ from hc)
  cases (show dat = _ from hd)
  have len : us.length = its.length := rv.length
  have pos : 0 < us.length := List.length_pos_iff.mpr ne
  have sz : ((its.toArray.size : Nat) : Int) = (us.length : Nat) := by rw [List.size_toArray, len]
  have prod : ((its.toArray.size : Nat) : Int) * n ≤ 10 * n := by
    rw [sz]
    exact Int.mul_le_mul_of_nonneg_right (by omega) (by omega)
  have whole : (List.replicate n.toNat its).flatten.length ≤ 200000 := by
    rw [PyProof.Rows.lm_len_rep_flat, ← len]
    exact Nat.le_trans (Nat.mul_le_mul (show n.toNat ≤ 20000 by omega) hl) (by decide)
  have some_ : its.toArray.isEmpty = false := by
    cases its with
    | nil => rw [List.length_nil] at len; omega
    | cons _ _ => rfl
  have d0 : (decide (n < -(2 ^ 63)) || decide (n ≥ 2 ^ 63)) = false := by simp; omega
  have d1 : (its.toArray.isEmpty || n == 1) = false := by rw [some_]; simp; omega
  have d2 : (decide (n ≤ 0) || its.toArray.isEmpty) = false := by rw [some_]; simp; omega
  have d4 : Builtin.Tuple.tupleTooMany (((its.toArray.size : Nat) : Int) * n) = false := by
    unfold Builtin.Tuple.tupleTooMany
    exact decide_eq_false (by rw [sizeLine_eq]; omega)
  refine wpAny_binaryOp_repeat_ref (T := "tuple") (U := "int") (by decide) ⟨_, ho, rfl⟩ (fun s' => typeIs_int s' n tk) noFill_tuple_mul F.fills_int_mul F.slot_int_rmul repeat_tuple F.slot_int_index.lookup ?_
  refine call_meets F.slot_int_rmul (typeIs_int s n tk) F.entry_int_rmul (F.args_int_rmul_2 _ _) (int_rmul_tuple n tk a its.toArray cap dct slt) ⟨ho, rfl, ⟨_, ho, rfl⟩, ?_⟩
  refine call_meets F.slot_tuple_mul ⟨_, ho, rfl⟩ F.entry_tuple_mul (F.args_tuple_mul_2 _ _) (tuple_mulW a its.toArray cap dct slt n tk d0 d1 d2 (by omega) d4 ?_) ⟨ho, ?_⟩
  · rw [size_rep, List.size_toArray, sizeLine_eq]; omega
  · rw [size_rep]
    refine ⟨.ref s.heap.objs.size, upd H s.heap.objs.size (.tup (List.replicate n.toNat us).flatten), I.laid (t' := s.toks) (fun _ _ e => Heap.get?_push_of_some _ e) (Nat.le_refl _) ?_, rfl, q _ (I.hok.fresh (Nat.le_refl _))⟩
    refine ⟨?_, (List.replicate n.toNat its).flatten, ?_, IsTup.new _ _⟩
    · rw [PyProof.Rows.lm_len_rep_flat, len, ← PyProof.Rows.lm_len_rep_flat, sizeLine_eq]; omega
    · exact rv.rep n.toNat
end
def mulD2 (x y : D) : Option D := match mulD x y with
  | some z => some z
  | none => match x, y with
    | .tup l, .int k => if l.isEmpty = false ∧ 2 ≤ k ∧ k ≤ 20000 ∧ l.length ≤ 10 then some (.tup (List.replicate k.toNat l).flatten) else none
    | _, _ => none
section
variable {X : Cx} {W : WX} {pos : Pos} {a b : Expr} {ma mb : M D}
theorem mul2_s : OpS X.K mulD2 fun x y H Q => rMulAll X.K x y H Q ∨ rRepL X.K x y H Q := by
  intro as H x y z v u Q n e r1 r2 k
  unfold mulD2 at e
  cases e1 : mulD x y with
  | some z' =>
    rw [e1] at e
    cases e
    exact .inl (mul_s (X := X) as H x y z v u Q n e1 r1 r2 k)
  | none =>
    rw [e1] at e
    cases x with
    | tup l => cases y with
      | int j =>
        by_cases hc : l.isEmpty = false ∧ 2 ≤ j ∧ j ≤ 20000 ∧ l.length ≤ 10
        · simp only [if_pos hc] at e
          cases e; cases r2.int
          obtain ⟨p, vs, rfl, rr, hp⟩ := r1.tup
          refine .inr ⟨p, j, vs, rfl, rfl, hp, fun z => ?_, by rw [← rr.length]; exact hc.2.2.2, hc.2.1, hc.2.2.1, fun q hq => ?_⟩
          · subst z; cases rr; simp at hc
          · have sm := same_upd (o := .tup (List.replicate j.toNat vs).flatten) hq
            exact k _ _ sm (.tup (SqT.of upd_same) ((rr.rep _).fr (.of_same sm)))
        · simp only [if_neg hc] at e
          cases e
      | _ => cases e
    | _ => cases e
theorem de_mul2 (ha : DE X W a ma) (hb : DE X W b mb) : DE X W (.BinOp a .Mult b pos) (mBin mulD2 ma mb) := de_bin (op_mulAll.or op_repL) mul2_s ha hb
end
end DL

set_option Elab.async false
set_option linter.all false
set_option maxRecDepth 100000
set_option maxHeartbeats 4000000
namespace DL
open PySem PySem.Spec PyProof.Rows L2

/-! ### x(), a def without parameters -/
section
variable {X : Cx} {W : WX} {pos p : Pos}
theorem de_callG0 {k : Nat} {x : Str} {F : List D → Hs → R D} (G : FDG X.prog X.w X.K X.mg X.base k x 0 F) (gu : X.A.guards = some []) (hr : Room k X.A) (tk : Takes X W) (hg : Gl X x := by rfl) (hdb : (x == ("__debug__" : Str)) = false := by decide) :
    DE X W (.Call (.Name x p) [] [] pos) (mCall 0 F mNil) := by
  obtain ⟨f, fd, ps, hm, hk, hb, ok⟩ := G.ex
  refine ⟨fun pins s σ H Q I ⟨as, ds, h, st, q⟩ => ?_⟩
  refine wpAny_Call_Name_kw (ld_glob I hg hm ?_ hdb)
  refine PySem.W.callWith_K0 I.kIn hk ?_
  have q2 : spD X.K X.mg 0 F [] H Q (WE W σ) := ⟨rfl, as, [], h, .nil, st.heap, PostC.ofE q⟩
  have bnd := hb s [] I.kIn (by rw [List.append_nil]; exact ok.len _ _ _ _ q2)
  rw [List.append_nil] at bnd
  refine wpAny_call (codeAny_mono (ok.run X.A X.stack s H ⟨[], []⟩ [] [] Q (WE W σ) gu hr I.env0 bnd .nil q2) fun r s' z => ?_)
  cases r with
  | error e => exact passAt tk σ pins H s e s' I z
  | ok fl =>
    cases fl with
    | ret u => exact I.after z
    | next => exact z.elim
    | brk => exact z.elim
    | cont => exact z.elim
theorem de_call0 {k : Nat} {x : Str} {F : List D → Hs → R D} (G : FD X.prog X.w X.K X.mg X.base k x 0 F) (hr : Room k X.A) (tk : Takes X W) (hg : Gl X x := by rfl) (hdb : (x == ("__debug__" : Str)) = false := by decide) :
    DE X W (.Call (.Name x p) [] [] pos) (mCall 0 F mNil) := by
  obtain ⟨f, fd, ps, hm, hk, hb, ok⟩ := G.ex
  refine ⟨fun pins s σ H Q I ⟨as, ds, h, st, q⟩ => ?_⟩
  refine wpAny_Call_Name_kw (ld_glob I hg hm ?_ hdb)
  refine PySem.W.callWith_K0 I.kIn hk ?_
  have q2 : spD X.K X.mg 0 F [] H Q (WE W σ) := ⟨rfl, as, [], h, .nil, st.heap, PostC.ofE q⟩
  have bnd := hb s [] I.kIn (by rw [List.append_nil]; exact ok.len _ _ _ _ q2)
  rw [List.append_nil] at bnd
  refine wpAny_call (codeAny_mono (ok.run X.A X.stack s H ⟨[], []⟩ [] [] Q (WE W σ) hr I.env0 bnd .nil q2) fun r s' z => ?_)
  cases r with
  | error e => exact passAt tk σ pins H s e s' I z
  | ok fl =>
    cases fl with
    | ret u => exact I.after z
    | next => exact z.elim
    | brk => exact z.elim
    | cont => exact z.elim
end
end DL

set_option Elab.async false
set_option linter.all false
set_option maxRecDepth 100000
set_option maxHeartbeats 4000000
namespace DL
open PySem PySem.Spec PyProof.Rows L2 RZ

/-! ### zip of two tuples, each pair kept by a name -/
abbrev zoO (f0 : Value) (g : Bool) (TI TO : Addr) : Obj := { cls := .type "zip", dict := none, data := .fields #[f0, .bool g, .bool false, .ref TI, .ref TO], slots := #[] }
def FrOk (f0 : Value) : Prop := f0 = .none ∨ ∃ a : Nat, f0 = rawInt a
section
variable {prog : Program} {w : World} {A : Around} {E : Value → Shared → Prop} {s : Shared}
def askK (z : Addr) (o : Option Obj) : Sem Bool := do
  if o.isNone then return true
  if (← field (.ref z) 1) != .bool true then setField (.ref z) 1 (.bool true)
  return false
/-- whether the pair last given may be used again: either answer -/
theorem freeAsk {z TI TO : Addr} {f0 : Value} {g : Bool} {Q : Bool → Shared → Prop} (hz : s.heap.get? z = some (zoO f0 g TI TO)) (hf : FrOk f0)
    (h1 : Q true s) (h2 : ∀ h', h'.get? z = some (zoO f0 true TI TO) → h'.objs.size = s.heap.objs.size → (∀ c o, c ≠ z → s.heap.get? c = some o → h'.get? c = some o) → Q false { s with heap := h' }) :
    wpAny (model prog w) A (Builtin.SmallTypes.ownedTupleIsFree (.ref z)) Q E s := by
  unfold Builtin.SmallTypes.ownedTupleIsFree
  refine wpAny_bind (wpAny_field hz rfl (x := f0) rfl ?_)
  rcases hf with rfl | ⟨a, rfl⟩
  · exact wpAny_pure h1
  · show wpAny _ _ (loadIfAlive (Int.toNat (a : Int)) >>= askK z) _ _ _
    refine wpAny_bind ?_
    intro Γ p hΓ
    rw [show loadIfAlive (Int.toNat (a : Int)) = Sem.loadIfAlive (Int.toNat (a : Int)) Sem.pure from rfl, Sem.wp_loadIfAlive]
    refine (wpAny_pure (A := A) (E := E) (Q := fun (o : Option Obj) s' => wpAny (model prog w) A (askK z o) Q E s') ?_) Γ p hΓ
    cases e : s.heap.get? (Int.toNat (a : Int)) with
    | none => exact wpAny_pure h1
    | some o =>
      unfold askK
      simp only [Option.isNone_some, Bool.false_eq_true, if_false]
      refine wpAny_bind (wpAny_field hz rfl (x := .bool g) rfl ?_)
      cases g with
      | true => exact wpAny_pure (h2 s.heap hz rfl fun c o _ e => e)
      | false =>
        refine wpAny_bind (wpAny_setField_rec hz (by simp) fun h' hz' sb => wpAny_pure (h2 h' hz' sb.1 fun c o n e => sb.extBut _ _ n e))
/-- the next pair, made anew -/
theorem zipN_item {z TI TO i1 i2 l1 l2 : Addr} {k1 k2 : Nat} {xs ys : Array Value} {x y a b f0 : Value} {g : Bool} {Q : Value → Shared → Prop} (D : ZipApart z TI TO i1 i2 l1 l2) (hz : s.heap.get? z = some (zoO f0 g TI TO)) (hf : FrOk f0)
    (hTI : IsPair s.heap TI (.ref i1) (.ref i2)) (hTO : IsPair s.heap TO a b) (h1 : s.heap.IsTupleIter i1 l1 k1) (h2 : s.heap.IsTupleIter i2 l2 k2) (hl1 : s.heap.IsTuple l1 xs) (hl2 : s.heap.IsTuple l2 ys) (hx : xs[k1]? = some x) (hy : ys[k2]? = some y)
    (hQ : ∀ h' f0' g', h'.get? z = some (zoO f0' g' TI TO) → FrOk f0' → (∃ u v, IsPair h' TO u v) → h'.IsTupleIter i1 l1 (k1 + 1) → h'.IsTupleIter i2 l2 (k2 + 1) → IsPair h' s.heap.objs.size x y →
      (∀ c o, c ≠ z → c ≠ TO → c ≠ i1 → c ≠ i2 → s.heap.get? c = some o → h'.get? c = some o) → Q (.ref s.heap.objs.size) { s with heap := h' }) :
    wpAny (model prog w) A (Builtin.«zip.__next__» ⟨[.ref z], []⟩) (fun fin s' => ∃ v, fin = .done (.ret v) ∧ Q v s') E s := by
  show wpAny (model prog w) A (field (.ref z) 2 >>= _) _ _ s
  refine wpAny_bind (wpAny_field hz rfl (x := Value.bool false) rfl ?_)
  show wpAny (model prog w) A (field (.ref z) 3 >>= _) _ _ s
  refine wpAny_bind (wpAny_field hz rfl (x := Value.ref TI) rfl (wpAny_bind (wpAny_seqItems hTI rfl ?_)))
  show wpAny (model prog w) A (Builtin.SmallTypes.ownedTupleIsFree (.ref z) >>= _) _ _ s
  refine wpAny_bind (freeAsk hz hf ?fr ?ta)
  case ta =>
    intro ha hza hsa hka
    simp only [Bool.false_eq_true, if_false, List.forIn_toArray, List.forIn_cons, List.forIn_nil]
    have a1 : ha.IsTupleIter i1 l1 k1 := h1.at fun o e => hka _ o D.i1z e
    have a2 : ha.IsTupleIter i2 l2 k2 := h2.at fun o e => hka _ o D.i2z e
    have b1 : ha.IsTuple l1 xs := let ⟨o, e, r⟩ := hl1; ⟨o, hka _ o D.l1z e, r⟩
    have b2 : ha.IsTuple l2 ys := let ⟨o, e, r⟩ := hl2; ⟨o, hka _ o D.l2z e, r⟩
    refine wpAny_bind (wpAny_bind (wpAny_bind (wpAny_holding ?_)))
    show wpAny (model prog w) A (Builtin.SmallTypes.nextOf (.ref i1) >>= _) _ _ _
    refine wpAny_bind (nextOf_tuple_item a1 b1 hx fun hb c1 sb => wpAny_pure (wpAny_pure ?_))
    refine wpAny_bind (wpAny_bind (wpAny_holding ?_))
    show wpAny (model prog w) A (Builtin.SmallTypes.nextOf (.ref i2) >>= _) _ _ _
    refine wpAny_bind (nextOf_tuple_item (a2.at fun o e => sb.extBut _ _ D.i12.symm e) (let ⟨o, e, r⟩ := b2; ⟨o, sb.extBut _ _ D.l2i1 e, r⟩) hy fun hc c2 sc => wpAny_pure (wpAny_pure (wpAny_pure ?_)))
    have sz : hc.objs.size = s.heap.objs.size := by rw [sc.1, sb.1, hsa]
    refine wpAny_bind (wpAny_newTuple (wpAny_pure ⟨_, rfl, ?_⟩) (by show 2 ≤ sizeLine; rw [sizeLine_eq]; omega))
    have kc : ∀ c o, c ≠ z → c ≠ i1 → c ≠ i2 → s.heap.get? c = some o → hc.get? c = some o := fun c o n1 n2 n3 e => sc.extBut _ _ n3 (sb.extBut _ _ n2 (hka c o n1 e))
    have nT := @Heap.get?_push_size hc { cls := .type "tuple", data := .seq #[x, y] } rfl
    show Q (.ref hc.objs.size) _
    rw [sz] at nT ⊢
    refine hQ (hc.push { cls := .type "tuple", data := .seq #[x, y] }) f0 true ?_ hf ⟨a, b, ?_⟩ ?_ ?_ nT fun c o n1 _ n3 n4 e => Heap.get?_push_of_some _ (kc c o n1 n3 n4 e)
    · exact Heap.get?_push_of_some _ (sc.extBut _ _ D.i2z.symm (sb.extBut _ _ D.i1z.symm hza))
    · exact Heap.get?_push_of_some _ (kc _ _ D.TOz D.TOi1 D.TOi2 hTO)
    · exact c1.at fun o e => Heap.get?_push_of_some _ (sc.extBut _ _ D.i12 e)
    · exact c2.at fun o e => Heap.get?_push_of_some _ e
  case fr =>
    simp only [if_true]
    refine wpAny_bind (wpAny_rule (wpAny_bind (wpAny_field hz rfl (x := Value.ref TO) rfl (wpAny_bind (wpAny_setField_rec hz (by simp) fun ha hza sa => ?_)))))
    simp only [List.zipIdx_cons, List.zipIdx_nil, List.forIn_cons, List.forIn_nil]
    have hka : ∀ c o, c ≠ z → s.heap.get? c = some o → ha.get? c = some o := fun c o n e => sa.extBut _ _ n e
    have a1 : ha.IsTupleIter i1 l1 k1 := h1.at fun o e => hka _ o D.i1z e
    have a2 : ha.IsTupleIter i2 l2 k2 := h2.at fun o e => hka _ o D.i2z e
    have b1 : ha.IsTuple l1 xs := let ⟨o, e, r⟩ := hl1; ⟨o, hka _ o D.l1z e, r⟩
    have b2 : ha.IsTuple l2 ys := let ⟨o, e, r⟩ := hl2; ⟨o, hka _ o D.l2z e, r⟩
    refine wpAny_bind (wpAny_bind (wpAny_bind (wpAny_onRaise ?_)))
    show wpAny (model prog w) A (Builtin.SmallTypes.nextOf (.ref i1) >>= _) _ _ _
    refine wpAny_bind (nextOf_tuple_item a1 b1 hx fun hb c1 sb => wpAny_pure ?_)
    have tb : IsPair hb TO a b := sb.extBut _ _ D.TOi1 (hka _ _ D.TOz hTO)
    refine wpAny_bind (wpAny_seqItems tb rfl (wpAny_bind (wpAny_updateSeq_pair tb fun hc tc sc => wpAny_bind (wpAny_letGo (wpAny_pure ?_)))))
    have tc : IsPair hc TO x b := tc
    refine wpAny_bind (wpAny_bind (wpAny_onRaise ?_))
    show wpAny (model prog w) A (Builtin.SmallTypes.nextOf (.ref i2) >>= _) _ _ _
    refine wpAny_bind (nextOf_tuple_item (a2.at fun o e => sc.extBut _ _ D.TOi2.symm (sb.extBut _ _ D.i12.symm e)) (let ⟨o, e, r⟩ := b2; ⟨o, sc.extBut _ _ D.l2TO (sb.extBut _ _ D.l2i1 e), r⟩) hy fun hd c2 sd => wpAny_pure ?_)
    have td : IsPair hd TO x b := sd.extBut _ _ D.TOi2 tc
    refine wpAny_bind (wpAny_seqItems td rfl (wpAny_bind (wpAny_updateSeq_pair td fun he te se => wpAny_bind (wpAny_letGo (wpAny_pure (wpAny_pure ?_))))))
    have te : IsPair he TO x y := te
    have zb : hb.get? z = some (zoO .ellipsis g TI TO) := sb.extBut _ _ D.i1z.symm hza
    have ze : he.get? z = some (zoO .ellipsis g TI TO) := se.extBut _ _ D.TOz.symm (sd.extBut _ _ D.i2z.symm (sc.extBut _ _ D.TOz.symm zb))
    have sz : he.objs.size = s.heap.objs.size := by rw [se.1, sd.1, sc.1, sb.1, sa.1]
    have zT : z ≠ he.objs.size := Nat.ne_of_lt (Heap.lt_size ze)
    refine wpAny_bind (wpAny_seqItems te rfl (wpAny_bind (wpAny_newTuple ?_)))
    show wpAny (model prog w) A (Builtin.SmallTypes.ownedTupleHandOut (.ref z) (.ref he.objs.size) >>= _) _ _ _
    refine wpAny_bind ?_
    unfold Builtin.SmallTypes.ownedTupleHandOut
    refine wpAny_bind (wpAny_setField_rec (Heap.get?_push_of_some _ ze) (by simp) fun hf1 zf sf => wpAny_setField_rec zf (by simp) fun hg zg sg => ?_)
    have up : ∀ c o, c ≠ z → he.get? c = some o → hg.get? c = some o := fun c o n e => sg.extBut _ _ n (sf.extBut _ _ n (Heap.get?_push_of_some _ e))
    have nT : IsPair hg he.objs.size x y := sg.extBut _ _ zT.symm (sf.extBut _ _ zT.symm (Heap.get?_push_size _ rfl))
    refine wpAny_pure ⟨_, rfl, ?_⟩
    show Q (.ref he.objs.size) _
    rw [sz] at nT ⊢
    refine hQ hg (rawInt he.objs.size) false zg (.inr ⟨_, rfl⟩) ⟨x, y, up _ _ D.TOz te⟩ ?_ ?_ nT fun c o n1 n2 n3 n4 e => up c o n1 (se.extBut _ _ n2 (sd.extBut _ _ n4 (sc.extBut _ _ n2 (sb.extBut _ _ n3 (hka c o n1 e)))))
    · exact c1.at fun o e => up _ _ D.i1z (se.extBut _ _ D.TOi1.symm (sd.extBut _ _ D.i12 (sc.extBut _ _ D.TOi1.symm e)))
    · exact c2.at fun o e => up _ _ D.i2z (se.extBut _ _ D.TOi2.symm e)
/-- no further pair -/
theorem zipN_end {z TI TO i1 i2 l1 l2 : Addr} {k1 k2 : Nat} {xs ys : Array Value} {a b f0 : Value} {g : Bool} {Q : Fin → Shared → Prop} (hh : A.handled = none) (D : ZipApart z TI TO i1 i2 l1 l2) (hz : s.heap.get? z = some (zoO f0 g TI TO)) (hf : FrOk f0)
    (hTI : IsPair s.heap TI (.ref i1) (.ref i2)) (hTO : IsPair s.heap TO a b) (h1 : s.heap.IsTupleIter i1 l1 k1) (h2 : s.heap.IsTupleIter i2 l2 k2) (hl1 : s.heap.IsTuple l1 xs) (hl2 : s.heap.IsTuple l2 ys) (hend : xs[k1]? = none ∨ ys[k2]? = none)
    (hE : ∀ h' e, (∀ c o, c ≠ z → c ≠ TO → c ≠ i1 → c ≠ i2 → s.heap.get? c = some o → h'.get? c = some o) → (∃ o, h'.get? e = some o ∧ o.cls = .type "StopIteration") → E (.ref e) { s with heap := h' }) :
    wpAny (model prog w) A (Builtin.«zip.__next__» ⟨[.ref z], []⟩) Q E s := by
  show wpAny (model prog w) A (field (.ref z) 2 >>= _) _ _ s
  refine wpAny_bind (wpAny_field hz rfl (x := Value.bool false) rfl ?_)
  show wpAny (model prog w) A (field (.ref z) 3 >>= _) _ _ s
  refine wpAny_bind (wpAny_field hz rfl (x := Value.ref TI) rfl (wpAny_bind (wpAny_seqItems hTI rfl ?_)))
  show wpAny (model prog w) A (Builtin.SmallTypes.ownedTupleIsFree (.ref z) >>= _) _ _ s
  refine wpAny_bind (freeAsk hz hf ?fr ?ta)
  case ta =>
    intro ha hza hsa hka
    simp only [Bool.false_eq_true, if_false, List.forIn_toArray, List.forIn_cons, List.forIn_nil]
    have a1 : ha.IsTupleIter i1 l1 k1 := h1.at fun o e => hka _ o D.i1z e
    have a2 : ha.IsTupleIter i2 l2 k2 := h2.at fun o e => hka _ o D.i2z e
    have b1 : ha.IsTuple l1 xs := let ⟨o, e, r⟩ := hl1; ⟨o, hka _ o D.l1z e, r⟩
    have b2 : ha.IsTuple l2 ys := let ⟨o, e, r⟩ := hl2; ⟨o, hka _ o D.l2z e, r⟩
    refine wpAny_bind (wpAny_bind (wpAny_bind (wpAny_holding ?_)))
    show wpAny (model prog w) A (Builtin.SmallTypes.nextOf (.ref i1) >>= _) _ _ _
    cases hx : xs[k1]? with
    | none => exact wpAny_bind (nextOf_tuple_end hh a1 b1 hx fun hb e sb he => hE hb e (fun c o n1 _ n3 _ q => sb _ _ n3 (hka c o n1 q)) he)
    | some x =>
      have hy : ys[k2]? = none := hend.elim (fun q => by rw [hx] at q; cases q) id
      refine wpAny_bind (nextOf_tuple_item a1 b1 hx fun hb c1 sb => wpAny_pure (wpAny_pure ?_))
      refine wpAny_bind (wpAny_bind (wpAny_holding ?_))
      show wpAny (model prog w) A (Builtin.SmallTypes.nextOf (.ref i2) >>= _) _ _ _
      exact wpAny_bind (nextOf_tuple_end hh (a2.at fun o e => sb.extBut _ _ D.i12.symm e) (let ⟨o, e, r⟩ := b2; ⟨o, sb.extBut _ _ D.l2i1 e, r⟩) hy fun hc e sc he => hE hc e (fun c o n1 _ n3 n4 q => sc _ _ n4 (sb.extBut _ _ n3 (hka c o n1 q))) he)
  case fr =>
    simp only [if_true]
    refine wpAny_bind (wpAny_rule (wpAny_bind (wpAny_field hz rfl (x := Value.ref TO) rfl (wpAny_bind (wpAny_setField_rec hz (by simp) fun ha hza sa => ?_)))))
    simp only [List.zipIdx_cons, List.zipIdx_nil, List.forIn_cons, List.forIn_nil]
    have hka : ∀ c o, c ≠ z → s.heap.get? c = some o → ha.get? c = some o := fun c o n e => sa.extBut _ _ n e
    have a1 : ha.IsTupleIter i1 l1 k1 := h1.at fun o e => hka _ o D.i1z e
    have a2 : ha.IsTupleIter i2 l2 k2 := h2.at fun o e => hka _ o D.i2z e
    have b1 : ha.IsTuple l1 xs := let ⟨o, e, r⟩ := hl1; ⟨o, hka _ o D.l1z e, r⟩
    have b2 : ha.IsTuple l2 ys := let ⟨o, e, r⟩ := hl2; ⟨o, hka _ o D.l2z e, r⟩
    have stop : ∀ {hb : Heap} {e : Addr}, hb.get? z = some (zoO .ellipsis g TI TO) → (∃ o, hb.get? e = some o ∧ o.cls = .type "StopIteration") → (∀ c o, c ≠ z → c ≠ TO → c ≠ i1 → c ≠ i2 → s.heap.get? c = some o → hb.get? c = some o) → wpAny (model prog w) A (setField (.ref z) 0 .none) (fun _ s'' => E (.ref e) s'') E { s with heap := hb } := fun {hb e} zb he kb => by
      obtain ⟨oe, hoe, hce⟩ := he
      have ne : e ≠ z := fun q => by
        subst q
        rw [zb] at hoe
        cases hoe
        simp at hce
      exact wpAny_setField_rec zb (by simp) fun hc _ sc => hE hc e (fun c o n1 n2 n3 n4 q => sc.extBut _ _ n1 (kb c o n1 n2 n3 n4 q)) ⟨oe, sc.extBut _ _ ne hoe, hce⟩
    refine wpAny_bind (wpAny_bind (wpAny_bind (wpAny_onRaise ?_)))
    show wpAny (model prog w) A (Builtin.SmallTypes.nextOf (.ref i1) >>= _) _ _ _
    cases hx : xs[k1]? with
    | none => exact wpAny_bind (nextOf_tuple_end hh a1 b1 hx fun hb e sb he => stop (sb _ _ D.i1z.symm hza) he fun c o n1 _ n3 _ q => sb _ _ n3 (hka c o n1 q))
    | some x =>
      have hy : ys[k2]? = none := hend.elim (fun q => by rw [hx] at q; cases q) id
      refine wpAny_bind (nextOf_tuple_item a1 b1 hx fun hb c1 sb => wpAny_pure ?_)
      have tb : IsPair hb TO a b := sb.extBut _ _ D.TOi1 (hka _ _ D.TOz hTO)
      refine wpAny_bind (wpAny_seqItems tb rfl (wpAny_bind (wpAny_updateSeq_pair tb fun hc tc sc => wpAny_bind (wpAny_letGo (wpAny_pure ?_)))))
      have zc : hc.get? z = some (zoO .ellipsis g TI TO) := sc.extBut _ _ D.TOz.symm (sb.extBut _ _ D.i1z.symm hza)
      refine wpAny_bind (wpAny_bind (wpAny_onRaise ?_))
      show wpAny (model prog w) A (Builtin.SmallTypes.nextOf (.ref i2) >>= _) _ _ _
      exact wpAny_bind (nextOf_tuple_end hh (a2.at fun o e => sc.extBut _ _ D.TOi2.symm (sb.extBut _ _ D.i12.symm e)) (let ⟨o, e, r⟩ := b2; ⟨o, sc.extBut _ _ D.l2TO (sb.extBut _ _ D.l2i1 e), r⟩) hy fun hd e sd he => stop (sd _ _ D.i2z.symm zc) he fun c o n1 n2 n3 n4 q => sd _ _ n4 (sc.extBut _ _ n2 (sb.extBut _ _ n3 (hka c o n1 q))))
end
end DL

set_option Elab.async false
set_option linter.all false
set_option maxRecDepth 100000
set_option maxHeartbeats 4000000
namespace DL
open PySem PySem.Spec PyProof.Rows L2 RZ

section
variable {prog : Program} {w : World} {A : Around} {E : Value → Shared → Prop} {s : Shared}
theorem nextN_item {z TI TO i1 i2 l1 l2 : Addr} {k1 k2 : Nat} {xs ys : Array Value} {x y a b f0 : Value} {g : Bool} {Q : Option Value → Shared → Prop} (D : ZipApart z TI TO i1 i2 l1 l2) (hz : s.heap.get? z = some (zoO f0 g TI TO)) (hf : FrOk f0)
    (hTI : IsPair s.heap TI (.ref i1) (.ref i2)) (hTO : IsPair s.heap TO a b) (h1 : s.heap.IsTupleIter i1 l1 k1) (h2 : s.heap.IsTupleIter i2 l2 k2) (hl1 : s.heap.IsTuple l1 xs) (hl2 : s.heap.IsTuple l2 ys) (hx : xs[k1]? = some x) (hy : ys[k2]? = some y)
    (hQ : ∀ h' f0' g', h'.get? z = some (zoO f0' g' TI TO) → FrOk f0' → (∃ u v, IsPair h' TO u v) → h'.IsTupleIter i1 l1 (k1 + 1) → h'.IsTupleIter i2 l2 (k2 + 1) → IsPair h' s.heap.objs.size x y →
      (∀ c o, c ≠ z → c ≠ TO → c ≠ i1 → c ≠ i2 → s.heap.get? c = some o → h'.get? c = some o) → Q (some (.ref s.heap.objs.size)) { s with heap := h' }) :
    wpAny (model prog w) A (pyNext (.ref z)) Q E s := by
  have hT : s.TypeIs (.ref z) "zip" := ⟨_, hz, rfl⟩
  unfold pyNext
  exact wpAny_bind (wpAny_attempt (wpAny_callSpecial?_slot (name := Str.ofString "__next__") hT F.slot_zip_next (wpAny_call_entry F.slot_zip_next hT F.entry_zip_next
    (zipN_item D hz hf hTI hTO h1 h2 hl1 hl2 hx hy fun h' f0' g' q1 q2 q3 q4 q5 q6 q7 => wpAny_pure (hQ h' f0' g' q1 q2 q3 q4 q5 q6 q7)) (F.args_zip_next_1 _))))
theorem nextN_end {z TI TO i1 i2 l1 l2 : Addr} {k1 k2 : Nat} {xs ys : Array Value} {a b f0 : Value} {g : Bool} {Q : Option Value → Shared → Prop} (hh : A.handled = none) (D : ZipApart z TI TO i1 i2 l1 l2) (hz : s.heap.get? z = some (zoO f0 g TI TO)) (hf : FrOk f0)
    (hTI : IsPair s.heap TI (.ref i1) (.ref i2)) (hTO : IsPair s.heap TO a b) (h1 : s.heap.IsTupleIter i1 l1 k1) (h2 : s.heap.IsTupleIter i2 l2 k2) (hl1 : s.heap.IsTuple l1 xs) (hl2 : s.heap.IsTuple l2 ys) (hend : xs[k1]? = none ∨ ys[k2]? = none)
    (hQ : ∀ h', (∀ c o, c ≠ z → c ≠ TO → c ≠ i1 → c ≠ i2 → s.heap.get? c = some o → h'.get? c = some o) → Q none { s with heap := h' }) : wpAny (model prog w) A (pyNext (.ref z)) Q E s := by
  have hT : s.TypeIs (.ref z) "zip" := ⟨_, hz, rfl⟩
  unfold pyNext
  refine wpAny_bind (wpAny_attempt (wpAny_callSpecial?_slot (name := Str.ofString "__next__") hT F.slot_zip_next (wpAny_call_entry F.slot_zip_next hT F.entry_zip_next
    (zipN_end hh D hz hf hTI hTO h1 h2 hl1 hl2 hend fun h' e hk he => ?_) (F.args_zip_next_1 _))))
  obtain ⟨o, ho, hc⟩ := he
  exact wpAny_bind (wpAny_isInstance (T := "StopIteration") (b := true) ⟨o, ho, hc⟩ isSubtype_stop (wpAny_pure (hQ _ hk)))
end
def ZnS (z TI TO i1 i2 a b : Addr) (i : Nat) (h : Heap) : Prop := (∃ f0 g, h.get? z = some (zoO f0 g TI TO) ∧ FrOk f0) ∧ IsPair h TI (.ref i1) (.ref i2) ∧ (∃ x y, IsPair h TO x y) ∧ h.IsTupleIter i1 a i ∧ h.IsTupleIter i2 b i
theorem turn_zipN {P : Program} {w : World} {K : PySem.W.Frag} {nx : Str} {tpos : Pos} {a b z TI TO i1 i2 : Addr} (D : ZipApart z TI TO i1 i2 a b) : Turn P w K (.Name nx tpos) (ItzT K a b) [z, TI, TO, i1, i2] z (ZnS z TI TO i1 i2 a b) where
  mem := by simp
  obj := fun i h ⟨⟨f0, g, hz, _⟩, hTI, ⟨x, y, hTO⟩, ⟨o1, e1, _, d1⟩, ⟨o2, e2, _, d2⟩⟩ c hc => by
    simp only [List.mem_cons, List.not_mem_nil, or_false] at hc
    rcases hc with rfl | rfl | rfl | rfl | rfl
    · exact ⟨_, hz, fun v q => nomatch q⟩
    · exact ⟨_, hTI, fun v q => nomatch q⟩
    · exact ⟨_, hTO, fun v q => nomatch q⟩
    · exact ⟨o1, e1, fun v q => by rw [d1] at q; cases q⟩
    · exact ⟨o2, e2, fun v q => by rw [d2] at q; cases q⟩
  keep := fun i h h' ⟨⟨f0, g, hz, hf⟩, hTI, ⟨x, y, hTO⟩, h1, h2⟩ k =>
    ⟨⟨f0, g, k z (by simp) _ hz, hf⟩, k TI (by simp) _ hTI, ⟨x, y, k TO (by simp) _ hTO⟩, h1.at fun o q => k i1 (by simp) o q, h2.at fun o q => k i2 (by simp) o q⟩
  item := by
    rintro X rfl rfl rfl hc i pins s σ H E I hf ⟨⟨f0, g, hz, hf0⟩, hTI, ⟨x0, y0, hTO⟩, h1, h2⟩ ⟨xs, ys, x, y, hqx, hqy, hx, hy⟩
    obtain ⟨its, rv, p, _⟩ := I.tuple hqx
    obtain ⟨its2, rv2, p2, _⟩ := I.tuple hqy
    obtain ⟨u, hu, ru⟩ := rv.get hx
    obtain ⟨u2, hu2, ru2⟩ := rv2.get hy
    refine nextN_item D hz hf0 hTI hTO h1 h2 p p2 (x := u) (y := u2) (by simpa using hu) (by simpa using hu2) fun h' f0' g' z' fz TO' h1' h2' hT hk => ⟨_, rfl, wpAny_pure ?_⟩
    have new : ObjOk X.prog X.w (upd H s.heap.objs.size (.tup [x, y])) h' s.heap.objs.size (.tup [x, y]) := ⟨by show 2 ≤ sizeLine; rw [sizeLine_eq]; omega, [u, u2], .cons ru (.cons ru2 .nil), ⟨_, hT, rfl, _, rfl⟩⟩
    have I1 : Inv X pins σ (upd H s.heap.objs.size (.tup [x, y])) { s with heap := h' } := I.turnedNew (t' := s.toks) (ch := [z, TI, TO, i1, i2]) (fun c o hb q => hk c o (fun e => hb (by simp [e])) (fun e => hb (by simp [e])) (fun e => hb (by simp [e])) (fun e => hb (by simp [e])) q) hf (Nat.le_refl _) new
    have old : ∀ c ∈ [z, TI, TO, i1, i2], c < s.heap.objs.size := fun c hm => by
      simp only [List.mem_cons, List.not_mem_nil, or_false] at hm
      rcases hm with rfl | rfl | rfl | rfl | rfl
      · exact Heap.lt_size hz
      · exact Heap.lt_size hTI
      · exact Heap.lt_size hTO
      · obtain ⟨_, e, _⟩ := h1; exact Heap.lt_size e
      · obtain ⟨_, e, _⟩ := h2; exact Heap.lt_size e
    exact ⟨.ref s.heap.objs.size, _, I1, rfl, ⟨_, x, y, rfl, I.hok.fresh (Nat.le_refl _), rfl, fun l hl => by rw [I.tuple_inj hl hqx]; exact hx, fun l hl => by rw [I.tuple_inj hl hqy]; exact hy⟩,
      ⟨⟨f0', g', z', fz⟩, hk _ _ D.TIz D.TITO D.TIi1 D.TIi2 hTI, TO', h1', h2'⟩, fun c hm => by rw [upd_ne (Nat.ne_of_lt (old c hm))]; exact (hf c hm).1⟩
  done := by
    rintro X rfl rfl rfl hc i pins s σ H E I hf ⟨⟨f0, g, hz, hf0⟩, hTI, ⟨x0, y0, hTO⟩, h1, h2⟩ ⟨xs, ys, hqx, hqy, hend⟩
    obtain ⟨its, rv, p, _⟩ := I.tuple hqx
    obtain ⟨its2, rv2, p2, _⟩ := I.tuple hqy
    have l1 := rv.length
    have l2 := rv2.length
    have he : its.toArray[i]? = none ∨ its2.toArray[i]? = none := hend.elim (fun q => .inl (by simp; omega)) (fun q => .inr (by simp; omega))
    exact nextN_end (I.ok.hd hc) D hz hf0 hTI hTO h1 h2 p p2 he fun h' hk => ⟨rfl, I.turnedL (t' := s.toks) (ch := [z, TI, TO, i1, i2]) (fun c o hb q => hk c o (fun e => hb (by simp [e])) (fun e => hb (by simp [e])) (fun e => hb (by simp [e])) (fun e => hb (by simp [e])) q) hf⟩
  self := fun A i s Q E ⟨⟨f0, g, hz, _⟩, _⟩ h => by
    have hT : s.TypeIs (.ref z) "zip" := ⟨_, hz, rfl⟩
    refine wpAny_pyIter_slot hT F.slot_zip_iter (wpAny_call_entry F.slot_zip_iter hT F.entry_zip_iter ?_ (F.args_zip_iter_1 _))
    exact (wpAny_pure ⟨_, rfl, "zip", _, hT, F.slot_zip_next.lookup, h⟩)
end DL

set_option Elab.async false
set_option linter.all false
set_option maxRecDepth 100000
set_option maxHeartbeats 4000000
namespace DL
open PySem PySem.Spec PyProof.Rows L2 RZ

section
variable {X : Cx} {W : WX} {e e2 : Expr} {me : M (List D)} {ma : M D} {p sp pos tpos : Pos} {nx : Str}
/-- the zip of two tuples is made -/
theorem zipN_made {pins : List (Addr × Obj)} {σ : L2.St} {H : Hp} {s : Shared} {a b : Addr} {xs ys : List V} {R : It → Hp → Prop} (I : Inv X pins σ H s) (hqx : SqT X.K H a xs) (hqy : SqT X.K H b ys) (q : R (ItzT X.K a b) H) :
    wpAny (model X.prog X.w) X.A (call (.type "zip") [.ref a, .ref b]) (fun v s1 => wpAny (model X.prog X.w) X.A (pyIter v) (PIE X pins σ (.Name nx tpos) R) X.xe s1) X.xe s := by
  obtain ⟨its, rv, p1, _⟩ := I.tuple hqx
  obtain ⟨its2, rv2, p2, _⟩ := I.tuple hqy
  obtain ⟨o1, ho1, _⟩ := id p1
  obtain ⟨o2, ho2, _⟩ := id p2
  have fresh : ∀ c, c ∈ [s.heap.objs.size + 4, s.heap.objs.size + 2, s.heap.objs.size + 3, s.heap.objs.size, s.heap.objs.size + 1] → FpOk X pins H c := fun c hm => by
    have le : s.heap.objs.size ≤ c := by
      simp only [List.mem_cons, List.not_mem_nil, or_false] at hm
      omega
    exact I.fpOk le (I.hok.fresh le)
  refine call_zipT p1 p2 fun h' hz hTI hTO h1 h2 hsz hk => wpAny_pyIter_zip hz ?_
  exact ⟨s.heap.objs.size + 4, [s.heap.objs.size + 4, s.heap.objs.size + 2, s.heap.objs.size + 3, s.heap.objs.size, s.heap.objs.size + 1], _, _, H, rfl, I.kept (t' := s.toks) hk, turn_zipN (PySem.W.ktu_apart s.heap.objs.size a b (Heap.lt_size ho1) (Heap.lt_size ho2)), ⟨⟨_, false, hz, .inl rfl⟩, hTI, ⟨_, _, hTO⟩, h1, h2⟩, fresh, q⟩
def tupOf : D → Option (List D)
  | .tup l => some l
  | _ => none
theorem tupOf_ok {K : PySem.W.Frag} {H : Hp} {as : List Addr} {d : D} {l : List D} {v : V} (e : tupOf d = some l) (r : RV K H as d v) : ∃ a vs, v = .ref a ∧ SqT K H a vs ∧ RVs K H as l vs := by
  cases r with
  | tup h rs =>
    simp only [tupOf, Option.some.injEq] at e
    subst e
    exact ⟨_, _, rfl, h, rs⟩
  | _ => cases e
def zipT2 : List D → Option Src
  | [x, y] => (tupOf x).bind fun l => (tupOf y).map fun m => .its (zipL l m)
  | _ => none
def tupOf2 (x : D) : Option (D × D) := match x with
  | .tup [a, b] => some (a, b)
  | _ => none
/-- for x in zip(a, b) -/
theorem di_zipN (ha : DA X W [e, e2] me) (hm : X.mg "zip" = none) (hg : Gl X "zip" := by rfl) (hs : starEach [e, e2] X.env = (false, eval e X.env) :: starEach [e2] X.env := by rfl) (hpl : (backTo pos (starEach [e2] X.env)).any (·.1) = false := by rfl) :
    DI X W (.Name nx tpos) (.Call (.Name "zip" p) [e, e2] [] pos) (mSrcR zipT2 me) := by
  refine ⟨fun pins s σ H R I ⟨as, ds, h, st, q⟩ => ?_⟩
  have q0 := PostI.bindA q (Q' := fun vs H1 => ∃ a b xs ys, vs = [V.ref a, .ref b] ∧ SqT X.K H1 a xs ∧ SqT X.K H1 b ys ∧ R (ItzT X.K a b) H1) fun xs h1 vs H1 as1 f1 r1 hr1 p1 => by
    cases r1 with
    | nil => exact p1.elim
    | cons r r1 => cases r1 with
      | nil => exact p1.elim
      | cons r2 r1 => cases r1 with
        | cons _ _ => exact p1.elim
        | nil =>
          rename_i x v y u
          cases el : tupOf x with
          | none =>
            have p1 : PostI X.K X.mg W as1 σ H1 (match (tupOf x).bind (fun l => (tupOf y).map fun m => Src.its (zipL l m)) with | some s => .ok s h1 | none => .no) R := p1
            rw [el] at p1
            exact p1.elim
          | some l => cases em : tupOf y with
            | none =>
              have p1 : PostI X.K X.mg W as1 σ H1 (match (tupOf x).bind (fun l => (tupOf y).map fun m => Src.its (zipL l m)) with | some s => .ok s h1 | none => .no) R := p1
              rw [el, em] at p1
              exact p1.elim
            | some m =>
              have p1 : PostI X.K X.mg W as1 σ H1 (match (tupOf x).bind (fun l => (tupOf y).map fun m => Src.its (zipL l m)) with | some s => .ok s h1 | none => .no) R := p1
              rw [el, em] at p1
              obtain ⟨a, xs, rfl, h, rs⟩ := tupOf_ok el r
              obtain ⟨b, ys, rfl, h', rs'⟩ := tupOf_ok em r2
              exact ⟨a, b, xs, ys, rfl, h, h', p1 _ H1 as1 .refl hr1 (walkD_zipT h h' rs rs')⟩
  refine Call_ (ld_blt I hg hm PyProof.Rows.boot_zip (PyProof.Rows.callWith_type1 (thn (ha.run pos pins s σ H _ I ⟨as, ds, h, st, q0⟩) fun us s1 ⟨vs, H1, I1, r1, a, b, xs, ys, ev, hx, hy, q1⟩ => ?_) hs hpl))
  subst ev
  cases r1 with
  | cons e1 r1 => cases r1 with
    | cons e2 r1 => cases r1 with
      | nil =>
        cases e1
        cases e2
        exact zipN_made I1 hx hy q1
/-- for x in zip(*a), a a pair of tuples -/
def zipS2 (x : D) : Option Src := (tupOf2 x).bind fun p => zipT2 [p.1, p.2]
def mSrcS (f : D → Option Src) (ma : M D) : M Src := fun ds h => (ma ds h).bind fun x h1 => match f x with
  | some s => .ok s h1
  | none => .no
theorem di_zipS (ha : DE X W e ma) (hm : X.mg "zip" = none) (hg : Gl X "zip" := by rfl) (hs : starEach [.Starred e sp] X.env = [(true, eval e X.env)] := by rfl) :
    DI X W (.Name nx tpos) (.Call (.Name "zip" p) [.Starred e sp] [] pos) (mSrcS zipS2 ma) := by
  refine ⟨fun pins s σ H R I ⟨as, ds, h, st, q⟩ => ?_⟩
  have q0 := PostI.bindE q (Q' := fun v H1 => ∃ c a b xs ys, v = V.ref c ∧ SqT X.K H1 c [.ref a, .ref b] ∧ SqT X.K H1 a xs ∧ SqT X.K H1 b ys ∧ R (ItzT X.K a b) H1) fun x h1 v H1 as1 f1 r1 hr1 p1 => by
    cases e2 : tupOf2 x with
    | none =>
      have p1 : PostI X.K X.mg W as1 σ H1 (match (tupOf2 x).bind (fun p => zipT2 [p.1, p.2]) with | some s => .ok s h1 | none => .no) R := p1
      rw [e2] at p1
      exact p1.elim
    | some pr =>
      obtain ⟨y, z⟩ := pr
      have ex : x = .tup [y, z] := by
        unfold tupOf2 at e2
        split at e2
        · cases e2; rfl
        · cases e2
      subst ex
      have p1 : PostI X.K X.mg W as1 σ H1 (match (tupOf y).bind (fun l => (tupOf z).map fun m => Src.its (zipL l m)) with | some s => .ok s h1 | none => .no) R := p1
      cases el : tupOf y with
      | none => rw [el] at p1; exact p1.elim
      | some l => cases em : tupOf z with
        | none => rw [el, em] at p1; exact p1.elim
        | some m =>
          rw [el, em] at p1
          cases r1 with
          | tup hc rc => cases rc with
            | cons ry rc => cases rc with
              | cons rz rc =>
                cases rc
                obtain ⟨a, xs, rfl, h, rs⟩ := tupOf_ok el ry
                obtain ⟨b, ys, rfl, h', rs'⟩ := tupOf_ok em rz
                exact ⟨_, a, b, xs, ys, rfl, hc, h, h', p1 _ H1 as1 .refl hr1 (walkD_zipT h h' rs rs')⟩
  refine Call_ (ld_blt I hg hm PyProof.Rows.boot_zip ?_)
  rw [hs]
  refine PySem.W.ks_call (P := fun _ => True) rfl (fun h _ => ⟨.machine, .inr (.inl rfl), PySem.W.Looks.of_pure rfl⟩) (PySem.W.ks_lone (thn (ha.run pins s σ H _ I ⟨as, ds, h, st, q0⟩) fun u s1 ⟨v, H1, I1, rv, c, a, b, xs, ys, ev, hc, hx, hy, q1⟩ => ?_))
  subst ev
  obtain rfl : u = Value.ref c := rv
  refine StX.star_any I1 (.inl hc) fun us s2 I2 r2 => ⟨trivial, ?_⟩
  cases r2 with
  | cons e1 r2 => cases r2 with
    | cons e2 r2 => cases r2 with
      | nil =>
        cases e1
        cases e2
        exact zipN_made I2 hx hy q1
end
end DL

set_option Elab.async false
set_option linter.all false
set_option maxRecDepth 100000
set_option maxHeartbeats 4000000
namespace PySem
open PySem.Sem PySem.AutoSeq1
theorem extend_by_tuple (l : Addr) (items : Array Value) (n : Nat) (b : Addr) (items2 : Array Value) (n2 : Nat) (dd : Option Addr) (sl : Array (Option Value)) (q0 : ¬(!items.isEmpty && Builtin.List.listTooLong (items.size + items2.size)) = true) (q1 : items.size ≤ sizeLine) (q2 : items.size + items2.size ≤ sizeLine + 1) :
    Meets (Builtin.«list.extend» ⟨[.ref l, .ref b], []⟩) (fun _ R s => s.heap.get? l = some { cls := .type "list", dict := none, data := .seq items n, slots := #[] } ∧ s.heap.get? b = some { cls := .type "tuple", dict := dd, data := .seq items2 n2, slots := sl } ∧
      R (.ok (.ret Value.none)) { s with heap := s.heap.update l (Obj.mapSeq fun x => x ++ items2), toks := s.toks }) :=
  .of_wp fun prog w A R s h => by
    obtain ⟨hp, g, d, tk, os⟩ := s
    obtain ⟨hl, hb, h⟩ := h
    have k1 := sub_tuple_tuple
    have k2 := sub_list_list
    have k3 := sub_tuple_list
    have k4 := sub_list_tuple
    have two : (items ++ items2).size ≤ sizeLine + 1 := by rw [Array.size_append]; exact q2
    wp_walk using (wpAny_updateSeq hl rfl (hz := q1) (_hz' := two)), wpAny_loadPart' hl, wpAny_loadPart' hb
    exact ⟨_, rfl, h⟩
end PySem
namespace DL
open PySem PySem.Spec PyProof.Rows L2

/-! ### xs.extend(ys), ys a list or a tuple -/
def rExtendA (K : PySem.W.Frag) : V → List V → Hp → VK → Prop := fun x vs H Q => ∃ l b xs zs, x = .ref l ∧ vs = [.ref b] ∧ H l = some (.lst xs) ∧ (H b = some (.lst zs) ∨ SqT K H b zs) ∧ xs.length + zs.length ≤ sizeLine ∧ Q .non (upd H l (.lst (xs ++ zs)))
theorem mt_extendA {X : Cx} : MtM X "list.extend" (rExtendA X.K) := by
  rintro pins s σ H x vs v us Q I rx rv ⟨l, b, xs, zs, rfl, rfl, hH, hB, hz, q⟩
  rcases hB with hB | hB
  · exact mt_extend pins s σ H _ _ v us Q I rx rv ⟨l, b, xs, zs, rfl, rfl, hH, hB, hz, q⟩
  · cases rx
    obtain ⟨u, rfl, ru⟩ := rv.one
    cases ru
    obtain ⟨_, its, n, r, hl, e⟩ := I.lstM hH
    obtain ⟨its2, r2, ⟨⟨cls, dct, dat, slt⟩, e2, hc, n2, hd⟩, _⟩ := I.tuple hB
    cases (show cls = _ from hc)
    cases (show dat = _ from hd)
    have l2 : zs.length = its2.length := r2.length
    have tot : its.toArray.size + its2.toArray.size ≤ sizeLine := by rw [List.size_toArray, List.size_toArray]; omega
    refine call_meets F.slot_list_extend ⟨_, e, rfl⟩ F.entry_list_extend (F.args_list_extend_2 _ _) (extend_by_tuple l its.toArray n b its2.toArray n2 dct slt (by rw [notLongL tot, Bool.and_false]; exact Bool.false_ne_true) (by omega) (by omega)) ⟨e, e2, ?_⟩
    exact ⟨.non, _, I.lset (its' := its ++ its2) hH e (by simp) (r.append r2) (by rw [List.length_append]; omega), rfl, q⟩
def sqL : D → Option (List D)
  | .lst l => some l
  | .tup l => some l
  | _ => none
theorem sqL_ok {K : PySem.W.Frag} {H : Hp} {as : List Addr} {d : D} {l : List D} {v : V} (e : sqL d = some l) (r : RT K H as d v) : ∃ b zv, v = V.ref b ∧ (H b = some (.lst zv) ∨ SqT K H b zv) ∧ RVs K H as l zv := by
  cases r with
  | val r =>
    cases r with
    | lst hb _ rz => simp only [sqL, Option.some.injEq] at e; subst e; exact ⟨_, _, rfl, .inl hb, rz⟩
    | tup hb rz => simp only [sqL, Option.some.injEq] at e; subst e; exact ⟨_, _, rfl, .inr hb, rz⟩
    | _ => cases e
  | cell r =>
    cases r with
    | lst hb rz => simp only [sqL, Option.some.injEq] at e; subst e; exact ⟨_, _, rfl, .inl hb, rz⟩
    | _ => cases e
def sExtA (mo ma : M D) : SM := fun ds h => match mo ds h with
  | .ok (.loc n) h1 => if isLstAt h1 n = false then .no else (match ma ds h1 with
    | .ok y h2 => (match (h2[n]?).bind lstOf, sqL (rd h2 y) with
      | some xs, some zs => if xs.length + zs.length ≤ 16777216 then .nx ds (h2.set n (.lst (xs ++ zs))) else .no
      | _, _ => .no)
    | .ex c p h2 => .ex c p ds h2
    | .no => .no)
  | _ => .no
section
variable {X : Cx} {W : WX} {pos p apos : Pos} {o e : Expr} {mo ma : M D}
theorem extA_post {Dn : Ends} {σ : L2.St} {H : Hp} (q : tsM X.K X.mg W (sExtA mo ma) Dn σ H) : tDrop (tBM X.K "list" (rExtendA X.K) (teM X.K X.mg W mo) (taM X.K X.mg W (mCons ma mNil))) Dn σ H := by
  obtain ⟨as, ds, h, s, q⟩ := q
  refine ⟨as, ds, h, s, ?_⟩
  unfold sExtA at q
  cases eo : mo ds h with
  | ex c p h1 => rw [eo] at q; exact q.elim
  | no => rw [eo] at q; exact q.elim
  | ok x h1 =>
    rw [eo] at q
    cases x with
    | loc n =>
      simp only at q
      intro v H1 as1 g1 r1 hr1
      cases r1 with
      | @loc _ ad hat =>
        obtain ⟨c0, ec0, cr0⟩ := hr1.get hat
        cases cr0 with
        | lst hl0 _ =>
          have ei : isLstAt h1 n = true := by simp only [isLstAt, ec0]
          rw [ei] at q
          simp only [Bool.true_eq_false, if_false] at q
          refine ⟨Or.inl ⟨rfl, _, Or.inl (Or.inl hl0)⟩, as1, ds, h1, ⟨s.env.grow g1, hr1⟩, ?_⟩
          unfold mCons mNil
          cases ea : ma ds h1 with
          | ex c p h2 => rw [ea] at q; exact fun cls dx H' as' g hr x => q σ cls dx H' as' (g1.trans g) ⟨s.env.grow (g1.trans g), hr⟩ x
          | no => rw [ea] at q; exact q.elim
          | ok y h2 =>
            rw [ea] at q
            simp only at q
            intro vs H2 as2 g2 r2 hr2
            obtain ⟨v2, rfl, ry⟩ : ∃ v2, vs = [v2] ∧ RD X.K H2 as2 y v2 := by
              cases r2 with
              | cons ry t => cases t; exact ⟨_, rfl, ry⟩
            · have hat2 := pre_get g2.pre hat
              obtain ⟨c2, ec2, cr2⟩ := hr2.get hat2
              cases e1 : (h2[n]?).bind lstOf with
              | none => rw [e1] at q; exact q.elim
              | some xs =>
                cases e2 : sqL (rd h2 y) with
                | none => rw [e1, e2] at q; exact q.elim
                | some zs =>
                  rw [e1, e2] at q
                  simp only at q
                  by_cases hz : xs.length + zs.length ≤ 16777216
                  · rw [if_pos hz] at q
                    rw [ec2] at e1
                    cases lstOf_eq e1
                    have rt := RV.rt ry hr2
                    cases cr2 with
                    | @lst _ xv _ hx rx =>
                      obtain ⟨b, zv, ez, hb, rz⟩ := sqL_ok e2 rt
                      obtain ⟨g3, hr3⟩ := hr2.write hat2 hx (rx.append rz)
                      exact ⟨ad, b, xv, zv, rfl, by rw [ez], hx, hb, by rw [sizeLine_eq, ← rx.length, ← rz.length]; exact hz, q σ _ as2 ((g1.trans g2).trans g3) ⟨(s.env.grow (g1.trans g2)).grow g3, hr3⟩⟩
                  · rw [if_neg hz] at q; exact q.elim
        | _ => simp only [isLstAt, ec0] at q; exact q.elim
    | _ => exact q.elim
theorem ds_extA (ho : DE X W o mo) (ha : DA X W [e] (mCons ma mNil)) (hc : ∀ {to : TE} {t : TA}, PE X o to → PA X [e] t → PE X (.Call (.Attribute o "extend" apos) [e] [] pos) (tBM X.K "list" (rExtendA X.K) to t) := by intro _ _ h1 h2; exact pe_bm PySem.F.plainAttrs_list PySem.F.slot_list_extend PySem.F.type_list_extend mt_extendA h1 h2)
    (hs : swapsWith (.Call (.Attribute o "extend" apos) [e] [] pos) none p.line X.env = pure false := by rfl) : DS X W (.Expr (.Call (.Attribute o "extend" apos) [e] [] pos) p) (sExtA mo ma) :=
  PS.imp (ps_expr (hc ho ha) hs) fun Dn σ H q => extA_post q
end
end DL

set_option Elab.async false
set_option linter.all false
set_option maxRecDepth 100000
set_option maxHeartbeats 4000000
namespace DL
open PySem PySem.Spec PyProof.Rows L2 LamX

/-! ### a lambda with parameters, as a value -/
section
variable {X : Cx} {pins : List (Addr × Obj)} {σ : L2.St} {H : Hp} {s : Shared}
theorem lamF_ok {P : Program} {w : World} {H1 : Hp} {h : Heap} {a c' : Addr} {n : Nat} {q : Str} {par : Arguments} {bd : Expr} {sc : Scope} {pm ctv : Value} (e : lamTab n = some (par, bd, sc)) (ho : h.get? a = some (PySem.W.kla_obj "<lambda>" q par bd sc [] pm c' ctv)) : ObjOk P w H1 h a (LamF a n q c') :=
  ⟨⟨par, bd, sc, pm, ctv, e, ho⟩, ⟨_, ho⟩, fun h1 h2 ⟨p, b, c, m, v, e1, e2⟩ k => ⟨p, b, c, m, v, e1, k _ e2⟩⟩
/-- it is made, and kept in view -/
theorem lam_made {T : List (Addr × Str)} {c P : Addr} {n : Nat} {par : Arguments} {bd : Expr} {sc : Scope} {pos : Pos} {E : Value → Shared → Prop} {Q : Value → Shared → Prop} (hn : lamTab n = some (par, bd, sc)) (I : Inv X pins σ H s) (TB : LamX.TabB X.base X.mg c P) (hcode : X.env.code = .ref c)
    (hm : (P, X.env.qual ++ "<lambda>") ∈ T) (hu : ∀ p ∈ T, p.1 = P → p.2 = X.env.qual ++ "<lambda>") (hT : LamX.Tabs T H) (hdef : defaultsOf par X.env = ([], [])) (hfree : ∀ y ∈ sc.names, y.2 ≠ .free)
    (h : ∀ (f c' : Addr) (H1 : Hp) (s' : Shared), Inv X pins σ H1 s' → LamX.ExtN H H1 → LamX.Tabs T H1 → H f = none → H1 f = some (LamF f n (X.env.qual ++ "<lambda>") c') → H1 c' = some (LamX.CodeO c' (X.env.qual ++ "<lambda>")) → Q (.ref f) s') :
    wpAny (model X.prog X.w) X.A (eval (.Lambda par bd sc pos) X.env) Q E s := by
  obtain ⟨ps, hP, ht, ha⟩ := hT _ hm
  refine PySem.W.kla_eval hdef ?_
  have bP : s.heap.BuiltinsAt X.mg P := TB.bm.keeps I.bk
  have hP' : s.heap.get? P = some { cls := .none, data := .fields ps } := I.hok P _ hP
  have clo : closureFor sc X.env = pure (cloFrom X.env.cells sc.names []) := closure_ok fun y hy e => absurd e (hfree y hy)
  have nil_ : cloFrom X.env.cells sc.names [] = [] := by
    rcases e : cloFrom X.env.cells sc.names [] with _ | ⟨⟨y, c0⟩, l⟩
    · rfl
    · rcases cloFrom_mem (show (y, c0) ∈ cloFrom X.env.cells sc.names [] by rw [e]; exact List.mem_cons_self) with z | ⟨z, _⟩
      · cases z
      · exact absurd rfl (hfree _ z)
  rw [nil_] at clo
  cases hc : codeAmong pos ps.toList with
  | some cv =>
    obtain ⟨c', rfl, hco⟩ := ha pos cv hc
    refine PySem.W.kla_makeFunctionHit (mg := X.mg) (c := c) (P := P) (ps := ps) clo I.ok.glob (I.mod.glob.keeps I.bk) hcode (TB.code.keeps I.bk) hP' ht hc bP fun ctv h' tk hx hsz => ?_
    have nF : H h'.objs.size = none := I.hok.fresh hsz
    have I1 : Inv X pins σ (upd H h'.objs.size (LamF h'.objs.size n (X.env.qual ++ "<lambda>") c')) { s with heap := h'.push (PySem.W.kla_obj "<lambda>" (X.env.qual ++ "<lambda>") par bd sc [] ((X.mg "__name__").getD .none) c' ctv), toks := tk } :=
      I.laid (fun b o e => Heap.get?_push_of_some _ (hx b o e)) hsz (lamF_ok hn (Heap.get?_push_size _ rfl))
    have sm := same_upd (o := LamF h'.objs.size n (X.env.qual ++ "<lambda>") c') nF
    exact h _ c' _ _ I1 (LamX.ExtN.of sm) (hT.ext sm) nF upd_same (sm _ _ hco)
  | none =>
    refine PySem.W.kla_makeFunction (mg := X.mg) (c := c) (P := P) (ps := ps) clo I.ok.glob (I.mod.glob.keeps I.bk) hcode (TB.code.keeps I.bk) hP' ht hc TB.gP bP fun c' ctv h' tk hx hge hlt hrec htb => ?_
    obtain ⟨c2, oc, vs, t, e2, hoc, hd, hv⟩ := hrec
    cases e2
    have nC : H c' = none := I.hok.fresh hge
    have I0 := inv_table (t' := tk) (more := #[rawInt pos.line, rawInt pos.col, .ref c']) (h' := h') I hP hx htb hge ⟨oc, vs, t, hoc, hd, hv⟩
    have grown : ∀ H0 : Hp, H0 = upd (upd H P (.tbl (ps ++ #[rawInt pos.line, rawInt pos.col, .ref c']))) c' (LamX.CodeO c' (X.env.qual ++ "<lambda>")) → LamX.ExtN H H0 ∧ LamX.Tabs T H0 ∧ H0 c' = some (LamX.CodeO c' (X.env.qual ++ "<lambda>")) := by
      intro H0 eH
      have hE : LamX.ExtN H H0 := fun b o e nt => by
        rw [eH, upd_ne (ne_of_none e nC), upd_ne (fun z => nt ps (Option.some.inj (e.symm.trans (by rw [z]; exact hP))))]
        exact e
      refine ⟨hE, fun p hp => ?_, by rw [eH, upd_same]⟩
      by_cases hb : p.1 = P
      · rw [hu p hp hb, hb]
        have el : (ps ++ #[rawInt pos.line, rawInt pos.col, .ref c']).toList = ps.toList ++ [rawInt pos.line, rawInt pos.col, .ref c'] := by simp
        refine ⟨_, by rw [eH, upd_ne (ne_of_none hP nC), upd_same], by rw [el]; exact PySem.TriplesOk_snoc _ _ _ _ ht, fun p' cv hcv => ?_⟩
        rw [el] at hcv
        rcases LamX.among_app _ ht hcv with z | z
        · obtain ⟨c0, z1, z2⟩ := ha p' cv z
          exact ⟨c0, z1, hE _ _ z2 LamX.codeO_ne⟩
        · exact ⟨c', z, by rw [eH, upd_same]⟩
      · obtain ⟨qs, a1, a2, a3⟩ := hT p hp
        refine ⟨qs, by rw [eH, upd_ne (ne_of_none a1 nC), upd_ne hb]; exact a1, a2, fun p' cv hcv => ?_⟩
        obtain ⟨c0, z1, z2⟩ := a3 p' cv hcv
        exact ⟨c0, z1, hE _ _ z2 LamX.codeO_ne⟩
    obtain ⟨hE, hT0, hC0⟩ := grown _ rfl
    have nF : (upd (upd H P (.tbl (ps ++ #[rawInt pos.line, rawInt pos.col, .ref c']))) c' (LamX.CodeO c' (X.env.qual ++ "<lambda>"))) h'.objs.size = none := I0.hok.fresh (Nat.le_refl _)
    have nF0 : H h'.objs.size = none := I.hok.fresh (Nat.le_trans hge (Nat.le_of_lt hlt))
    have sm := same_upd (o := LamF h'.objs.size n (X.env.qual ++ "<lambda>") c') nF
    have I1 := I0.laid (t' := tk) (h' := h'.push (PySem.W.kla_obj "<lambda>" (X.env.qual ++ "<lambda>") par bd sc [] ((X.mg "__name__").getD .none) c' ctv)) (a := h'.objs.size) (o := LamF h'.objs.size n (X.env.qual ++ "<lambda>") c') (fun b o e => Heap.get?_push_of_some _ e) (Nat.le_refl _) (lamF_ok hn (Heap.get?_push_size _ rfl))
    exact h _ c' _ _ I1 (hE.trans (LamX.ExtN.of sm)) (hT0.ext sm) nF0 upd_same (sm _ _ hC0)
end
def mLamV (tf : List Str) (n : Nat) (q : Str) : M D := fun _ h => if isTab tf h then .ok (.lam n 0 q) h else .no
end DL

set_option Elab.async false
set_option linter.all false
set_option maxRecDepth 100000
set_option maxHeartbeats 4000000
namespace DL
open PySem PySem.Spec PyProof.Rows L2 LamX

/-! ### a lambda with parameters: as a value, and called -/
section
variable {K : PySem.W.Frag} {H H1 : Hp} {as : List Addr} {h : Hs}
theorem notin_code (hr : HeapR K H as h) {c : Addr} {q : Str} (e : H c = some (LamX.CodeO c q)) : c ∉ as := fun hc => by
  obtain ⟨m, hm, em⟩ := List.getElem_of_mem hc
  obtain ⟨dm, em2, crm⟩ := hr.get (n := m) (a := c) (by rw [List.getElem?_eq_getElem hm, em])
  exact crm.ncode e
end
section
variable {X : Cx} {W : WX}
theorem de_lamV {y : Str} {tf : List Str} {n : Nat} {par : Arguments} {bd : Expr} {sc : Scope} {lpos : Pos} (hn : lamTab n = some (par, bd, sc)) (TB : LamX.TabB X.base X.mg (He.cT X.K (y, none)).1 (He.cT X.K (y, none)).2) (hcode : X.env.code = .ref (He.cT X.K (y, none)).1) (hy : y ∈ tf)
    (hfree : ∀ z ∈ sc.names, z.2 ≠ .free) (hdef : defaultsOf par X.env = ([], []) := by rfl) (hq : X.env.qual ++ "<lambda>" = lamQ y := by first | rfl | kernel_rfl) : DE X W (.Lambda par bd sc lpos) (mLamV tf n (lamQ y)) := by
  refine ⟨fun pins s σ H Q I ⟨as, ds, h, st, q⟩ => ?_⟩
  unfold mLamV at q
  by_cases ht : isTab tf h = true
  · rw [if_pos ht] at q
    refine lam_made (T := tabsT X.K tf y) hn I TB hcode ?_ ?_ (fun p hp => ?_) hdef hfree fun f c' H1 s' I1 eN T1 nF hF hC => ?_
    · rw [hq]
      exact List.mem_filter.mpr ⟨List.mem_map.mpr ⟨y, hy, rfl⟩, by simp⟩
    · intro p hp e
      rw [hq]
      have := (List.mem_filter.mp hp).2
      simpa [e] using this
    · obtain ⟨hp, _⟩ := List.mem_filter.mp hp
      obtain ⟨z, hz, rfl⟩ := List.mem_map.mp hp
      exact tabs_of st.heap ht hz
    · obtain ⟨g1, hr1⟩ := heap_lam st.heap ht hy eN T1
      rw [hq] at hF hC
      exact ⟨.ref f, H1, I1, rfl, q (.ref f) H1 as g1 (.val (.lam hF hC (st.heap.notin nF) (notin_code hr1 hC))) hr1⟩
  · rw [if_neg ht] at q; exact q.elim
end
/-- a def's reading with an expression for its body -/
def mkE (np nl : Nat) (m : M D) : List D → Hs → R D := fun args h => if args.length = np then m (args.map some ++ List.replicate nl none) h else .no
/-- the n-th lambda keeps its reading -/
structure FL (P : Program) (w : World) (K : PySem.W.Frag) (mg : Str → Option Value) (base : Heap) (k n np : Nat) (q : Str) (F : List D → Hs → R D) : Prop where
  ex : ∃ (par : Arguments) (bd : Expr) (sc : Scope) (N ps : List Str) (m : M D), lamTab n = some (par, bd, sc) ∧ FnScope N ps sc ∧ ps.length = np ∧ F = mkE np (N.length - np) m ∧
    (∀ (s : Shared) (us : List Value) (pm cv ctv : Value), us.length = np → BindsTo s (PySem.W.kla_fn "<lambda>" q par bd sc [] pm cv ctv) ⟨us, []⟩ (ps.zip us)) ∧
    ∀ (f : Addr) (cdv : Value) (A : Around) (outer : List Env) (s : Shared) (H : Hp) (E : XK), Room k (A.deeper (envOfC q sc s.heap.objs.size f cdv)) → DE (cxOf (L2.CX P w) P w K mg base N q sc f cdv A outer s H E) (fun cls d _ H => E cls d H) bd m
section
variable {P : Program} {w : World} {K : PySem.W.Frag} {mg : Str → Option Value} {base : Heap}
theorem FL.run {k n np : Nat} {q : Str} {F : List D → Hs → R D} (G : FL P w K mg base k n np q F) {A : Around} {outer : List Env} {s : Shared} {H : Hp} {us : List Value} {vs : List V} {Q : VK} {E : XK} {f c' : Addr} (hr : Room (k + 1) A) (e0 : Env0 P w K mg base A outer s H)
    (hF : H f = some (LamF f n q c')) (hC : H c' = some (LamX.CodeO c' q)) (r : Vals vs us) (hs : spD K mg np F vs H Q E) :
    codeAny (model P w) A (.call (.ref f) ⟨us, []⟩) (CR (L2.CX P w) outer P w H s Q E) s := by
  obtain ⟨par, bd, sc, N, ps, m, hn, S, hp, rfl, hb, hbody⟩ := G.ex
  obtain ⟨⟨par', bd', sc', pm, ctv, hn', of1⟩, _, _⟩ := (show ObjOk P w H s.heap f (LamF f n q c') from e0.hok f _ hF)
  obtain ⟨⟨oc, xs, t, hoc, hdc, hvc⟩, _, _⟩ := (show ObjOk P w H s.heap c' (LamX.CodeO c' q) from e0.hok c' _ hC)
  rw [hn] at hn'
  cases hn'
  obtain ⟨hl, as, ds, hh, rr, hr2, p⟩ := hs
  have e1 : ds.length = np := by rw [rr.length]; exact hl
  have lim : s.heap.NoLimit := e0.mod.nolimit.keeps fun b o e => (e0.bs b o e).1
  have hus : us.length = np := by rw [← r.length]; exact hl
  have hkind : ∀ y ∈ ps.zip us, sc.names.lookup y.1 = some .local ∨ (sc.names.lookup y.1 = some .cell ∧ ((cellsFrom (s.heap.objs.size + 1) sc.names []).lookup y.1).isSome = true) := fun ⟨z, v⟩ hy => by
    rcases S.par z (List.of_mem_zip hy).1 with q | q
    · exact .inl q
    · exact .inr ⟨q, PySem.W.cellsFrom_some _ _ _ (.inl q)⟩
  refine PySem.W.kla_callFunE hr.depth of1 rfl S.co S.gen rfl ⟨c', oc, xs, t, rfl, hoc, hdc, hvc⟩ ?_
  refine hb s us pm (.ref c') ctv hus _ _ _ _ ?_
  refine wpAny_newFunctionEnv_cells S.kind hkind fun env he s1 x => ?_
  subst he
  refine ⟨lim.keeps x.toInCall.keep, PySem.W.kla_codeExpr ?_⟩
  have I : Inv (cxOf (L2.CX P w) P w K mg base N q sc f (.ref c') A outer s H E) [] (L2.start N vs) H s1 := inv_start S hr.hd e0 (by rw [hl, hp]) r x
  unfold mkE at p
  rw [if_pos e1] at p
  have st : StR K H as (ds.map some ++ List.replicate (N.length - np) none) hh (L2.start N vs) := by
    refine ⟨?_, hr2⟩
    unfold L2.start
    rw [hl]
    exact (EvR.start rr).append (EvR.nones _)
  refine wpAny_mono ((hbody f (.ref c') A outer s H E (hr.deeper _)).run [] s1 (L2.start N vs) H Q I ⟨as, _, hh, st, PostC.toE p⟩) (fun v s' ⟨y, H', J, rv, z⟩ => ⟨y, H', J.os, J.bare, J.base, J.hok, rv, z⟩) fun e s' z => z
end
end DL

set_option Elab.async false
set_option linter.all false
set_option maxRecDepth 100000
set_option maxHeartbeats 4000000
namespace DL
open PySem PySem.Spec PyProof.Rows L2 LamX

/-! ### a call of what a name of one's own holds: a def, or a lambda with parameters -/
abbrev LCand : Type := Nat × Str × Nat × (List D → Hs → R D)
def mCallW (i : Nat) (cs : List Cand) (ls : List LCand) (me : M (List D)) : M D := fun ds h => match ds[i]? with
  | some (some (.lam n _ q)) => (match ls.find? (fun c => c.1 == n && decide (c.2.1 = q)) with
    | some c => (me ds h).bind fun xs h1 => if xs.length = c.2.2.1 then c.2.2.2 xs h1 else .no
    | none => .no)
  | _ => mCallV i cs me ds h
section
variable {X : Cx} {W : WX} {pos p : Pos} {e : Expr} {es : List Expr} {me : M (List D)}
theorem de_callW {k i : Nat} {x : Str} {cs : List Cand} {ls : List LCand} (hcs : ∀ c ∈ cs, CandOk X k c) (hls : ∀ c ∈ ls, ∃ kc, kc + 1 ≤ k ∧ FL X.prog X.w X.K X.mg X.base kc c.1 c.2.2.1 c.2.1 c.2.2.2) (hr : Room k X.A) (tk : Takes X W) (ha : DA X W (e :: es) me) (hN : X.N[i]? = some x := by rfl)
    (hv : Vis X.env.scope x := by first | exact Or.inl rfl | exact Or.inr (Or.inl rfl) | exact Or.inr (Or.inr rfl))
    (hdb : (x == ("__debug__" : Str)) = false := by decide) (hcd : (x == ("__classdict__" : Str)) = false := by decide)
    (he : starEach (e :: es) X.env = (false, eval e X.env) :: starEach es X.env := by rfl) (hpl : (backTo pos (starEach es X.env)).any (·.1) = false := by rfl) : DE X W (.Call (.Name x p) (e :: es) [] pos) (mCallW i cs ls me) := by
  refine ⟨fun pins s σ H Q I ⟨as, ds, h, st, q⟩ => ?_⟩
  unfold mCallW at q
  split at q
  · rename_i n u y ey
    cases ec : ls.find? (fun c => c.1 == n && decide (c.2.1 = y)) with
    | none => rw [ec] at q; exact q.elim
    | some c =>
      rw [ec] at q
      have e1 := List.find?_some ec
      simp only [Bool.and_eq_true, beq_iff_eq, decide_eq_true_eq] at e1
      obtain ⟨e1, e2⟩ := e1
      obtain ⟨kc, hk, G⟩ := hls c (List.mem_of_find?_eq_some ec)
      rw [e1, e2] at G
      obtain ⟨v, ev, rv⟩ := st.env.get ey
      cases rv with
      | @lam f c' _ _ _ hF hC nF nC =>
        have run := (pe_var (X := X) (pos := p) hN hv hdb hcd).run pins s σ H (fun v H1 => v = .ref f ∧ H1 = H) I ⟨_, ev, rfl, rfl⟩
        refine wpAny_Call_Name_kw (thn run fun u s1 hx => ?_)
        obtain ⟨v, H1, I1, r1, rfl, rfl⟩ := hx
        cases r1
        have fnAt : ∀ {H3 : Hp} {s3 : Shared}, Inv X pins σ H3 s3 → H3 f = some (LamF f n y c') → PySem.W.FnAt f s3.heap := fun {H3 s3} J e => by
          obtain ⟨⟨_, _, _, _, _, _, ho⟩, _, _⟩ := (show ObjOk X.prog X.w H3 s3.heap f (LamF f n y c') from J.hok f _ e)
          exact ⟨_, _, _, _, ho⟩
        have args := ha.run pos pins s1 σ H1 (fun vs H2 => (H2 f = some (LamF f n y c') ∧ H2 c' = some (LamX.CodeO c' y)) ∧ spD X.K X.mg c.2.2.1 c.2.2.2 vs H2 Q (WE W σ)) I1 ⟨as, ds, h, st, PostE.bindA q fun xs h1 vs H1 as1 f1 r1 hr1 p1 => by
          by_cases hn : xs.length = c.2.2.1
          · rw [if_pos hn] at p1
            refine ⟨?_, by rw [← r1.length]; exact hn, as1, xs, h1, r1, hr1, PostC.ofE p1⟩
            exact ⟨f1.fr _ _ hF rfl fun z => absurd z nF, f1.fr _ _ hC rfl fun z => absurd z nC⟩
          · rw [if_neg hn] at p1; exact p1.elim⟩
        refine PySem.W.callWith_F (fnAt I1 hF) (thn args fun us s2 hy => ?_) he hpl
        obtain ⟨vs, H2, I2, r2, ⟨hF2, hC2⟩, q2⟩ := hy
        refine ⟨fnAt I2 hF2, ?_⟩
        show wpAny _ _ (call (.ref f) us) _ _ _
        refine wpAny_call (codeAny_mono (G.run (hr.mono hk) I2.env0 hF2 hC2 r2 q2) fun r s' z => ?_)
        cases r with
        | error e => exact passAt tk σ pins H2 s2 e s' I2 z
        | ok fl =>
          cases fl with
          | ret u => exact I2.after z
          | next => exact z.elim
          | brk => exact z.elim
          | cont => exact z.elim
  · exact (de_callV hcs hr tk ha hN hv hdb hcd he hpl).run pins s σ H Q I ⟨as, ds, h, st, q⟩
end
end DL
namespace DL
open PySem PySem.Spec PyProof.Rows L2 LamX
section
variable {P : Program} {w : World} {K : PySem.W.Frag} {mg : Str → Option Value} {base : Heap}
theorem fl_mk (n : Nat) (N ps : List Str) (k np nl : Nat) {q : Str} {m : M D} {par : Arguments} {bd : Expr} {sc : Scope} (hn : lamTab n = some (par, bd, sc)) (S : FnScope N ps sc) (hnp : ps.length = np) (hnl : N.length - np = nl)
    (hb : ∀ (us : List Value) (pm cv ctv : Value), us.length = np → bindArgs (PySem.W.kla_fn "<lambda>" q par bd sc [] pm cv ctv) ⟨us, []⟩ = pure (ps.zip us))
    (hbody : ∀ (f : Addr) (cdv : Value) (A : Around) (outer : List Env) (s : Shared) (H : Hp) (E : XK), Room k (A.deeper (envOfC q sc s.heap.objs.size f cdv)) → DE (cxOf (L2.CX P w) P w K mg base N q sc f cdv A outer s H E) (fun cls d _ H => E cls d H) bd m) :
    FL P w K mg base k n np q (mkE np nl m) := by
  subst hnl
  exact ⟨par, bd, sc, N, ps, m, hn, S, hnp, rfl, fun s us pm cv ctv hl => .of_eq (hb us pm cv ctv hl), hbody⟩
end
end DL

set_option Elab.async false
set_option linter.all false
set_option maxRecDepth 100000
set_option maxHeartbeats 4000000
namespace DL
open PySem PySem.Spec PyProof.Rows L2

/-! ### max(xs), min(xs), xs a list with something in it -/
def rBest0 (mx : Bool) (K : PySem.W.Frag) : List V → Hp → VK → Prop := fun xs H Q => ∃ (a : Addr) (vs : List V) (y : PyData) (ys : List PyData), xs = [.ref a] ∧ H a = some (.lst vs) ∧ DpAll K H vs (y :: ys) ∧ PySem.W.AlikeAll (y :: ys) ∧ PyData.depthAll (y :: ys) ≤ 40 ∧
  ∀ (i : Nat) (v : V), vs[i]? = some v → (y :: ys)[i]? = some (if mx then PySem.W.maxD y ys else PySem.W.minD y ys) → Q v H
theorem cr_best0 {X : Cx} (hc : X.calm = true) (hu : X.A.units + 64 < cLine) (mx : Bool) : CallR X (.builtin (if mx then "max" else "min")) (rBest0 mx X.K) := by
  intro pins s σ H xs us Q I r1 ⟨a, vs, y, ys, e1, ha, dp, al, dep, q1⟩
  subst e1
  obtain ⟨u, rfl, ru⟩ := vals1 r1
  obtain rfl : u = Value.ref a := ru
  obtain ⟨hz, its, n, rv, hl, ea⟩ := I.lstM ha
  obtain ⟨as, rd⟩ := Dp.readsAll I (y :: ys) vs its dp rv
  have hh := I.ok.hd hc
  have lst : s.heap.IsList a its.toArray := ⟨_, ea, rfl, _, rfl⟩
  have fin : ∀ (i : Nat) (v : Value) (h' : Heap) (tk : Nat) (bs : List Addr), its.toArray[i]? = some v → Reads h' v (if mx then PySem.W.maxD y ys else PySem.W.minD y ys) bs → (∀ b o, s.heap.get? b = some o → h'.get? b = some o) → EP X pins σ Q v { s with heap := h', toks := tk } := by
    intro i v h' tk bs ei rr k
    have ei' : its[i]? = some v := by simpa using ei
    obtain ⟨p, cs, hp, rp⟩ := readsAll_ix rd ei'
    have ep := (Reads.unique rr _ _ (Reads.keeps k rp)).1
    have hi : i < vs.length := by rw [hl]; exact (List.getElem?_eq_some_iff.mp ei').1
    obtain ⟨w, hw, rw'⟩ := rv.get (List.getElem?_eq_getElem hi)
    rw [ei'] at hw
    cases hw
    exact ⟨_, H, I.kept (t' := tk) k, rw', q1 i _ (List.getElem?_eq_getElem hi) (by rw [hp, ep])⟩
  cases mx with
  | true => exact PySem.W.max_list_data hh lst (by simpa using rd) al (by omega) fun i v h' tk bs ei rr k => fin i v h' tk bs ei rr k
  | false => exact PySem.W.min_list_data hh lst (by simpa using rd) al (by omega) fun i v h' tk bs ei rr k => fin i v h' tk bs ei rr k
def bestL (mx : Bool) : D → Option D
  | .lst (d :: l) => if (d :: l).all (okE 40) && alikeB (toPys (d :: l)) then some (bestD mx d l) else none
  | _ => none
theorem c_best0 {K : PySem.W.Frag} {mx : Bool} : C1 K (bestL mx) (rBest0 mx K) := by
  intro as H x z v Q n e r k
  obtain ⟨l, rfl⟩ : ∃ l, x = .lst l := by
    cases x <;> first | exact ⟨_, rfl⟩ | (simp [bestL] at e)
  obtain ⟨a, vs, rfl, ha, rs⟩ : ∃ a vs, v = .ref a ∧ H a = some (.lst vs) ∧ RVs K H as l vs := by
    cases r with
    | val r => cases r with | lst h _ r => exact ⟨_, _, rfl, h, r⟩
    | cell r => cases r with | lst h r => exact ⟨_, _, rfl, h, r⟩
  cases l with
  | nil => cases e
  | cons d l =>
    simp only [bestL] at e
    split at e
    · rename_i hc
      simp only [Bool.and_eq_true] at hc
      obtain ⟨ok, al⟩ := hc
      simp only [Option.some.injEq] at e
      subst e
      have each : ∀ x ∈ d :: l, okE 40 x = true := List.all_eq_true.mp ok
      have dep : PyData.depthAll (toPys (d :: l)) ≤ 40 := depthAll_le fun p hp => by
        obtain ⟨x, hx, rfl⟩ := toPys_mem hp
        exact (okE_lay (each x hx)).2
      refine ⟨a, vs, toPy d, toPys l, rfl, ha, dpAll_of ok rs, alikeB_ok al, dep, fun i w hw hp => ?_⟩
      obtain ⟨x, hx, rx⟩ := rs.get' hw
      have hp : (toPys (d :: l))[i]? = _ := hp
      rw [toPys_get hx, ← bestD_py] at hp
      have hx' : x ∈ d :: l := List.mem_of_getElem? hx
      have := toPy_inj _ _ (each x hx') (each _ bestD_mem) (Option.some.inj hp)
      rw [this] at rx
      exact k w H (Same.refl H) rx
    · cases e
section
variable {X : Cx}
theorem b_max1 (h : X.mg "max" = none) (hu : X.A.units + 64 < cLine) (hc : X.calm = true := by rfl) : Bi X "max" (on1 (bestL true)) := ⟨.inl ⟨_, _, cr_best0 hc hu true, c_best0.s, h, by decide +kernel⟩⟩
theorem b_min1 (h : X.mg "min" = none) (hu : X.A.units + 64 < cLine) (hc : X.calm = true := by rfl) : Bi X "min" (on1 (bestL false)) := ⟨.inl ⟨_, _, cr_best0 hc hu false, c_best0.s, h, by decide +kernel⟩⟩
end
end DL

set_option Elab.async false
set_option linter.all false
set_option maxRecDepth 100000
set_option maxHeartbeats 4000000
namespace DL
open PySem PySem.Spec PyProof.Rows L2

/-! ### f(*xs), where f raises nothing; x += n, x -= n -/
def mCallS1 (np : Nat) (F : List D → Hs → R D) (ma : M D) : M D := fun ds h => (ma ds h).bind fun x h1 => match sqOf (rd h1 x) with
  | some l => if l.length = np then (F l h1).noex else .no
  | none => .no
section
variable {X : Cx} {W : WX} {pos p sp_ pos' : Pos} {a e : Expr} {ma : M D}
theorem de_callS1 {k np : Nat} {x : Str} {F : List D → Hs → R D} (G : FD X.prog X.w X.K X.mg X.base k x np F) (hr : Room k X.A) (ha : DE X W e ma) (hg : Gl X x := by rfl) (hdb : (x == ("__debug__" : Str)) = false := by decide)
    (hst : starEach [.Starred e sp_] X.env = [(true, eval e X.env)] := by rfl) : DE X W (.Call (.Name x p) [.Starred e sp_] [] pos) (mCallS1 np F ma) := by
  obtain ⟨f, fd, ps, hm, hk, hb, ok⟩ := G.ex
  refine PE.imp (StX.pe_callS1 (E := fun _ _ _ => False) ((ok.raw hb .nil).imp (sp' := spD X.K X.mg np F) fun vs H Q E h => by rw [List.append_nil]; exact h) hr hk hg hm (fun _ _ _ _ _ _ _ z => ?_) ha hdb hst) fun σ H Q ⟨as, ds, h, s, q⟩ => ?_
  · obtain ⟨_, _, _, _, _, _, _, _, _, _, _, _, z⟩ := z
    exact z.elim
  · refine ⟨as, ds, h, s, PostE.bindE q fun x h1 v H1 as1 f1 r1 hr1 p1 => ?_⟩
    cases el : sqOf (rd h1 x) with
    | none => rw [el] at p1; exact p1.elim
    | some l =>
      rw [el] at p1
      have ed : rd h1 x = .lst l ∨ rd h1 x = .tup l ∨ rd h1 x = .frz l := by
        revert el; generalize rd h1 x = d; intro el
        cases d <;> cases el <;> simp
      obtain ⟨a, vs, rfl, rs, hh⟩ := (r1.rt hr1).seq ed
      by_cases hn : l.length = np
      · simp only [if_pos hn] at p1
        refine ⟨a, vs, rfl, hh.symm, ?_, as1, l, h1, rs.rds, hr1, PostE.toC p1⟩
        have := rs.length
        omega
      · simp only [if_neg hn] at p1; exact p1.elim
def sAugI (i : Nat) (f : D → D → Option D) (me : M D) : SM := fun ds h => match ds[i]? with
  | some (some (.int n)) => (match me ds h with
    | .ok (.int m) h1 => (match f (.int n) (.int m) with
      | some z => .nx (ds.set i (some z)) h1
      | none => .no)
    | .ex c p h1 => .ex c p ds h1
    | _ => .no)
  | _ => .no
theorem ds_augI {i : Nat} {x : Str} {op : Operator} {g : Int → Int → Int} {f : D → D → Option D} (hN : X.N.Nodup) (hi : X.N[i]? = some x) (hx : Loc X.env.scope x) (he : DE X W e ma) (ho : PIp X op (ipI g)) (hf : ∀ n m : Int, f (.int n) (.int m) = some (.int (g n m)))
    (hfn : X.fn x = true ∨ X.env.scope.names.lookup x = some .local := by first | exact .inl rfl | exact .inr rfl | assumption) : DS X W (.AugAssign (.Name x pos') op e pos) (sAugI i f ma) :=
  PS.imp (ps_aug hN hi hx he ho hfn) fun Dn σ H ⟨as, ds, h, s, q⟩ => by
    unfold sAugI at q
    split at q
    · rename_i n en
      obtain ⟨v, ev, rv⟩ := s.env.get en
      cases rv_int rv
      refine ⟨.int n, ev, as, ds, h, s, ?_⟩
      cases em : ma ds h with
      | ex c p h1 => rw [em] at q; exact fun cls dx H' as' g hr x => q σ cls dx H' as' g ⟨s.env.grow g, hr⟩ x
      | no => rw [em] at q; exact q.elim
      | ok y h1 =>
        rw [em] at q
        cases y with
        | int m =>
          have q : PostS X.K X.mg W as H (match f (.int n) (.int m) with
            | some z => .nx (ds.set i (some z)) h1
            | none => .no) Dn := q
          rw [hf n m] at q
          intro u H1 as1 g1 r1 hr1
          cases rv_int r1
          exact ⟨n, m, rfl, rfl, q (σ.set i (some (.int (g n m)))) H1 as1 g1 ⟨(s.env.grow g1).set (.val (.int _)) i, hr1⟩⟩
        | _ => exact q.elim
    · exact q.elim
end
end DL

set_option Elab.async false
set_option linter.all false
set_option maxRecDepth 100000
set_option maxHeartbeats 4000000
namespace DL
open PySem PySem.Spec PyProof.Rows L2

/-! ### a <= b, data of any depth -/
def rLeA (K : PySem.W.Frag) : R2 := fun x y H Q => ∃ d e, Dp K H x d ∧ Dp K H y e ∧ PySem.W.alike d e = true ∧ d ≠ .none ∧ d.depth ≤ 60 ∧ Q (.bl (!PySem.W.dataLt e d)) H
section
variable {X : Cx}
theorem op_leA (hu : X.A.units + 64 < cLine) : OpR X (compareOp .LtE) (rLeA X.K) := by
  intro pins s σ H x y v u Q I rx ry h
  obtain ⟨d, e, hd, he, al, dn, dd, q⟩ := h
  obtain ⟨as, r1⟩ := Dp.reads I d x v hd rx
  obtain ⟨bs, r2⟩ := Dp.reads I e y u he ry
  have z : min d.depth e.depth ≤ d.depth := Nat.min_le_left _ _
  exact PySem.W.le_data (s := s) (as := as) (bs := bs) r1 r2 al dn (by omega) ⟨.bl _, H, I, rfl, q⟩
end
def leA (x y : D) : Option D := if okE 60 x = true ∧ okE 60 y = true ∧ PySem.W.alike (toPy x) (toPy y) = true ∧ notNone (toPy x) = true then some (.bl (!PySem.W.dataLt (toPy y) (toPy x))) else none
def leD2 (x y : D) : Option D := match leD x y with
  | some z => some z
  | none => leA x y
theorem CmpK.or2 {X : Cx} {op : CmpOp} {f : D → D → Option D} {r : R2} {g : D → D → Option D} (c : CmpK X op f) (ho : OpR X (compareOp op) r) (hs : OpS X.K g r) : CmpK X op (fun x y => match f x y with
  | some z => some z
  | none => g x y) := by
  obtain ⟨r1, h1, h2⟩ := c.ex
  refine ⟨_, h1.or ho, ?_⟩
  intro as H x y z v u Q n e r1' r2 k
  cases e1 : f x y with
  | some z' =>
    simp only [e1] at e
    cases e
    exact .inl (h2 as H x y z v u Q n e1 r1' r2 k)
  | none =>
    simp only [e1] at e
    exact .inr (hs as H x y z v u Q n e r1' r2 k)
theorem leA_s {X : Cx} : OpS X.K leA (rLeA X.K) := by
  intro as H x y z v u Q n e r1 r2 k
  unfold leA at e
  by_cases hc : okE 60 x = true ∧ okE 60 y = true ∧ PySem.W.alike (toPy x) (toPy y) = true ∧ notNone (toPy x) = true
  · rw [if_pos hc] at e; cases e
    exact ⟨_, _, okE_rt hc.1 r1, okE_rt hc.2.1 r2, hc.2.2.1, fun z => by rw [z] at hc; exact absurd hc.2.2.2 (by simp [notNone]), (okE_lay hc.1).2, k _ H (Same.refl H) (.bl _)⟩
  · rw [if_neg hc] at e; cases e
theorem ck_le2 {X : Cx} {k : Nat} (hr : Room k X.A) : CmpK X .LtE leD2 := ck_le.or2 (op_leA hr.units) leA_s
end DL

set_option Elab.async false
set_option linter.all false
set_option maxRecDepth 100000
set_option maxHeartbeats 4000000
namespace DL
open PySem PySem.Spec PyProof.Rows L2 LamX

/-! ### next(elt for target in iter if test, None): the code object -/
section
variable {X : Cx} {pins : List (Addr × Obj)} {σ : L2.St} {H : Hp} {s : Shared}
theorem gen_coded {T : List (Addr × Str)} {c P : Addr} {gpos : Pos} {scope : Scope} {E : Value → Shared → Prop} {Q : Value → Shared → Prop} (I : Inv X pins σ H s) (TB : LamX.TabB X.base X.mg c P) (hcode : X.env.code = .ref c)
    (hm : (P, X.env.qual ++ "<genexpr>") ∈ T) (hu : ∀ p ∈ T, p.1 = P → p.2 = X.env.qual ++ "<genexpr>") (hT : LamX.Tabs T H)
    (h : ∀ (code : Value) (H1 : Hp) (h1 : Heap) (tk : Nat), Inv X pins σ H1 { s with heap := h1, toks := tk } → LamX.ExtN H H1 → LamX.Tabs T H1 → (∀ b, H b = none → b < s.heap.objs.size → H1 b = none) → (∀ b o, H b = none → s.heap.get? b = some o → h1.get? b = some o) → s.heap.objs.size ≤ h1.objs.size →
      Q code { s with heap := h1, toks := tk }) :
    wpAny (model X.prog X.w) X.A (genexprCode X.env gpos (X.env.qual ++ "<genexpr>") scope) Q E s := by
  obtain ⟨ps, hP, ht, ha⟩ := hT _ hm
  have hPs : s.heap.get? P = some { cls := .none, data := .fields ps } := I.hok P _ hP
  have cd : PySem.W.CodeHd s.heap c P := TB.code.keeps fun b u e => I.bk b u e
  cases hf : codeAmong gpos ps.toList with
  | some cv =>
    refine wpAny_genexprCode_hit hcode (cd.code hPs ht) hf ?_
    exact h cv H s.heap s.toks (I.tok _) (LamX.ExtN.refl H) hT (fun b e _ => e) (fun b o _ e => e) (Nat.le_refl _)
  | none =>
    refine wpAny_genexprCodeX hcode (cd.code hPs ht) (cd.tab hPs) hf fun c' h' tk hx hge hlt hco' hrec htab' _ => ?_
    obtain ⟨c2, oc, vs, t, e2, hoc, hd, hv⟩ := hrec
    cases e2
    have nC : H c' = none := I.hok.fresh hge
    have I0 := LamX.inv_table (t' := tk) (more := #[rawInt gpos.line, rawInt gpos.col, .ref c']) (h' := h') I hP hx htab'.2 hge ⟨oc, vs, t, hoc, hd, hv⟩
    have hE : LamX.ExtN H (upd (upd H P (.tbl (ps ++ #[rawInt gpos.line, rawInt gpos.col, .ref c']))) c' (LamX.CodeO c' (X.env.qual ++ "<genexpr>"))) := fun b o e nt => by
      rw [upd_ne (ne_of_none e nC), upd_ne (fun z => nt ps (Option.some.inj (e.symm.trans (by rw [z]; exact hP))))]
      exact e
    refine h _ _ h' tk I0 hE (fun p hp => ?_) (fun b e hl => ?_) (fun b o e eo => ?_) (Nat.le_trans hge (Nat.le_of_lt hlt))
    · by_cases hb : p.1 = P
      · rw [hu p hp hb, hb]
        have el : (ps ++ #[rawInt gpos.line, rawInt gpos.col, .ref c']).toList = ps.toList ++ [rawInt gpos.line, rawInt gpos.col, .ref c'] := by simp
        refine ⟨_, by rw [upd_ne (ne_of_none hP nC), upd_same], by rw [el]; exact PySem.TriplesOk_snoc _ _ _ _ ht, fun p' cv hcv => ?_⟩
        rw [el] at hcv
        rcases LamX.among_app _ ht hcv with z | z
        · obtain ⟨c0, z1, z2⟩ := ha p' cv z
          exact ⟨c0, z1, hE _ _ z2 LamX.codeO_ne⟩
        · exact ⟨c', z, upd_same⟩
      · obtain ⟨qs, a1, a2, a3⟩ := hT p hp
        refine ⟨qs, by rw [upd_ne (ne_of_none a1 nC), upd_ne hb]; exact a1, a2, fun p' cv hcv => ?_⟩
        obtain ⟨c0, z1, z2⟩ := a3 p' cv hcv
        exact ⟨c0, z1, hE _ _ z2 LamX.codeO_ne⟩
    · rw [upd_ne (fun z => absurd hl (by rw [z]; exact Nat.not_lt.mpr hge)), upd_ne (fun z => by rw [z, hP] at e; cases e)]
      exact e
    · exact hx b o (fun z => by rw [z, hP] at e; cases e) eo
end
/-! ### its body's context -/
abbrev genCx (X : Cx) (s : Shared) (H : Hp) (cenv : Env) (fp : List Addr) (A : Around) : Cx := { X with A := A.deeper cenv, s_0 := s, H_0 := H, env := cenv, outer := X.stack, stack := cenv :: X.stack, ex := fp, fn := fun _ => false, calm := true, pn := [], xe := fun _ _ => False }
section
variable {X : Cx} {pins : List (Addr × Obj)} {σ : L2.St} {H : Hp} {s s5 : Shared}
theorem gen_start {scope : Scope} {own : List (Str × Nat)} {fp : List Addr} {A : Around} {code : Value} {m0 : Str → Option Value} (I : Inv X pins σ H s) (ok : BlkOk X.N X.env.scope scope own) (nc : ∀ y ∈ scope.names, y.2 ≠ .cell) (hN : X.N.Nodup) (hfp : ∀ b ∈ fp, FpOk X pins H b ∧ b < s.heap.objs.size)
    (hA : A.frames = X.A.frames) (hd : A.handled = none) (kp : ∀ b o, s.heap.get? b = some o → s5.heap.get? b = some o) (hn : s5.heap.Ns s.heap.objs.size m0) (hos : s5.os = s.os) (hg : AllBare s5.gens) :
    Inv (genCx X s H (genEnv scope (cloFrom X.env.cells scope.names []) s.heap.objs.size code builtinsNs X.env) fp A) [] (wipe σ (own.map (·.2))) H s5 := by
  have hfree : ∀ y ∈ scope.names, y.2 = .free → ∃ c, X.env.cells.lookup y.1 = some c := fun y hy e => by
    rcases ok.free y hy e with k | k
    · exact I.ok.has _ (.inl k)
    · exact I.ok.has _ (.inr k)
  have cm : ∀ {y c}, (cloFrom X.env.cells scope.names []).lookup y = some c → X.env.cells.lookup y = some c := fun {y c} e => by
    rcases cloFrom_mem (PySem.mem_of_lookup e) with hm | ⟨h1, h2⟩
    · cases hm
    · obtain ⟨c1, hc⟩ := hfree _ h1 rfl
      have hc : X.env.cells.lookup y = some c1 := hc
      have e2 : c = c1 := by
        rw [h2, hc] <;> rfl
      rw [e2]
      exact hc
  have look : ∀ {y}, scope.names.lookup y = some .free → ∃ c, (cloFrom X.env.cells scope.names []).lookup y = some c := fun {y} hl => by
    have hy : (y, NameKind.free) ∈ scope.names := PySem.mem_of_lookup hl
    exact mem_lookup (cloFrom_has (cells := X.env.cells) (acc := []) hy)
  have cellK : ∀ {c : Addr} {v : Option Value}, s.heap.IsCell c v → s5.heap.IsCell c v := fun {c v} ⟨o, ho, hd⟩ => ⟨o, kp _ _ ho, hd⟩
  refine ⟨⟨I.ok.mod, ok.kind, I.ok.glob, rfl, Nat.le_refl _, fun y z c e1 e2 => I.ok.inj y z c (cm e1) (cm e2), fun y hy => ?_, fun y c z _ => (nomatch (show false = true from z)), fun _ => hd, Around.frames_deeper (hA.trans I.ok.frames), .inr ⟨rfl, rfl⟩, fun b hb => ⟨?_, fun y c e z => ?_⟩, I.bs, Nat.le_trans I.ok.bsz I.sz, fun b o e hb => ?_, fun b hb z => ?_, I.stack, I.stkFree⟩,
    hos, hg, Un.kept kp, ⟨m0, hn, fun i y v e1 e2 e3 => ?_⟩, fun y c e => ?_, I.hok.fresh (Nat.le_refl _), fun y c e => ?_, fun q hq => absurd (show q ∈ ([] : List (Addr × Obj)) ++ [] from hq) (by simp), I.hok.kept kp, by rw [wipe_length]; exact I.len⟩
  · have hy : scope.names.lookup y = some .cell ∨ scope.names.lookup y = some .free := hy
    rcases hy with hy | hy
    · exact absurd rfl (nc _ (PySem.mem_of_lookup hy))
    · exact look hy
  · exact Nat.ne_of_lt (hfp b hb).2
  · exact (hfp b hb).1.2.2.2.2.1 y c (cm e) z
  · rcases (hfp b hb).1.2.2.2.1 with z | z
    · exact I.ok.noex b o e z
    · exact absurd (Nat.lt_of_lt_of_le (Heap.lt_size e) (Nat.le_trans I.ok.bsz z)) (Nat.lt_irrefl _)
  · rcases List.mem_cons.mp (I.stkSub b z) with z | z
    · exact (hfp b hb).1.2.1 z
    · exact (hfp b hb).1.2.2.1 z
  · obtain ⟨e2, hne⟩ := wipe_some e2
    have e3 : Vis scope y := e3
    have noL : scope.names.lookup y ≠ some .local := fun k => by
      rcases ok.own _ (PySem.mem_of_lookup k) (.inl rfl) with e' | e'
      · obtain ⟨p, hp, hpy⟩ := List.mem_map.mp e'
        have e4 := ok.ix p hp
        have : p.1 = y := hpy
        rw [this] at e4
        exact hne (List.mem_map.mpr ⟨p, hp, nodup_ix hN e4 e1⟩)
      · exact e' (List.mem_of_getElem? e1)
    rcases e3 with k | k | k
    · exact absurd k noL
    · exact absurd rfl (nc _ (PySem.mem_of_lookup k))
    · obtain ⟨m, hn', hl⟩ := I.loc
      have hvis : Vis X.env.scope y := (ok.free _ (PySem.mem_of_lookup k) rfl).elim (fun k => .inr (.inl k)) (fun k => .inr (.inr k))
      obtain ⟨w', r, q⟩ := hl i y v e1 e2 hvis
      obtain ⟨c2, h2⟩ := look k
      refine ⟨w', r, .inr ⟨.inr k, c2, h2, ?_⟩⟩
      have c1 := cm h2
      rcases q with ⟨k', _⟩ | ⟨_, c3, e', z⟩
      · have k' : X.env.scope.names.lookup y = some .local := k'
        rcases ok.free _ (PySem.mem_of_lookup k) rfl with k2 | k2 <;> rw [show X.env.scope.names.lookup y = _ from k2] at k' <;> cases k'
      · rw [c1] at e'
        cases e'
        exact cellK z
  · obtain ⟨w', z⟩ := I.cell y c (cm e)
    exact ⟨w', cellK z⟩
  · exact I.freeC y c (cm e)
end
end DL

set_option Elab.async false
set_option linter.all false
set_option maxRecDepth 100000
set_option maxHeartbeats 4000000
namespace DL
open PySem PySem.Spec PyProof.Rows L2 LamX

/-! ### next(elt for target in iter if test, None): its run -/
theorem over_gen {A : Around} {elt tg iter : Expr} {ifs : List Expr} {scope : Scope} {pos : Pos} {it acc : Value} {env : Env} : A.over (.compLoop (.GeneratorExp elt [⟨tg, iter, ifs, 0⟩] scope pos) 0 it acc env) [] = A.deeper env := by
  first
    | rfl
    | (obtain ⟨hd, d, fr, gs, u⟩ := A; simp [Around.over, Around.deeper, marksOver, frameCount, unitsOf, envsOf, guardsOf, pushEnvs, pushGuards, Code.envs, Code.env?, Code.isFrame, Code.guards, Code.isGuard, Code.weight, Code.frames, Code.isCreation, Code.isCaller, Code.cUnits])
theorem over_gen0 {A : Around} {elt tg iter : Expr} {ifs : List Expr} {scope : Scope} {pos : Pos} {it acc : Value} {env : Env} : A.over (.compStart (.GeneratorExp elt [⟨tg, iter, ifs, 0⟩] scope pos) 0 it acc env) [] = A.deeper env := by
  first
    | rfl
    | (obtain ⟨hd, d, fr, gs, u⟩ := A; simp [Around.over, Around.deeper, marksOver, frameCount, unitsOf, envsOf, guardsOf, pushEnvs, pushGuards, Code.envs, Code.env?, Code.isFrame, Code.guards, Code.isGuard, Code.weight, Code.frames, Code.isCreation, Code.isCaller, Code.cUnits])
def genP (B : Cx) (Q : VK) : Nat → Shared → Shared → Prop := fun _ _ s1 => ∃ σ' H', Inv B [] σ' H' s1 ∧ Q .non H'
def genY (B : Cx) (Q : VK) : Protocol := fun _ _ v s1 _ => ∃ (x : V) (σ' : L2.St) (H' : Hp) (pins' : List (Addr × Obj)), Inv B pins' σ' H' s1 ∧ RelV x v ∧ Q x H'
section
variable {X : Cx} {s4 : Shared} {H4 : Hp} {cenv : Env} {fp : List Addr} {A : Around} {elt tg iter : Expr} {ifs : List Expr} {scope : Scope} {gpos : Pos} {it : Addr} {tn : Nat → Heap → Prop} {J : It} {vs : List Nat} {σ0 : L2.St} {W : Nat → Nat → Hp → Prop} {Q : VK} {g : TG} {tt : TT} {te : TE}
theorem seg_genX (hco : cenv.scope.isCoroutine = false) (T : Turn X.prog X.w X.K tg J fp it tn) (pg : PG (genCx X s4 H4 cenv fp A) tg g) (pt : PTs (genCx X s4 H4 cenv fp A) ifs tt) (pe : PE (genCx X s4 H4 cenv fp A) elt te)
    (hw0 : ∀ i v, σ0[i]? = some (some v) → i ∉ vs)
    (turn : ∀ i m H, W i m H → (J.stop i H ∧ Q .non H) ∨ (J.go i H ∧ ∃ Nx : Hp → Prop, (∀ H', Nx H' → ∃ m', m' < m ∧ W (i + 1) m' H') ∧ ∀ x H', J.yld i H x H' → g x σ0 H' fun σ2 H2 => wipe σ2 vs = σ0 ∧ tt σ2 H2 fun b H3 => if b = true then te σ2 H3 Q else Nx H3)) :
    ∀ (m i : Nat) (H5 : Hp) (s5 s₀ : Shared), Inv (genCx X s4 H4 cenv fp A) [] σ0 H5 s5 → tn i s5.heap → (∀ b ∈ fp, H5 b = none) → W i m H5 →
      Seg (model X.prog X.w) A (fun n s₀ r s₁ => r = .ok .next ∧ genP (genCx X s4 H4 cenv fp A) Q n s₀ s₁) (genY (genCx X s4 H4 cenv fp A) Q) 1 s₀ (.compLoop (.GeneratorExp elt [⟨tg, iter, ifs, 0⟩] scope gpos) 0 (.ref it) .none cenv)
        ((model X.prog X.w).den (.compLoop (.GeneratorExp elt [⟨tg, iter, ifs, 0⟩] scope gpos) 0 (.ref it) .none cenv)) [] s5 := by
  have stat : ∀ {σ' : L2.St} {H' : Hp} {s' : Shared}, Inv (genCx X s4 H4 cenv fp A) [] σ' H' s' → (∀ b ∈ fp, H' b = none) → ∀ b ∈ fp, FpOk (genCx X s4 H4 cenv fp A) [] H' b := fun {σ' H' s'} I' hn b hb =>
    ⟨hn b hb, (I'.ok.exf b hb).1, I'.ok.exfs b hb, .inl hb, fun x c e => (I'.ok.exf b hb).2 x c e, fun p hp => absurd (show p ∈ ([] : List (Addr × Obj)) ++ [] from hp) (by simp)⟩
  intro m
  induction m using Nat.strongRecOn with
  | ind m ih =>
    intro i H5 s5 s₀ I5 st5 n5 w5
    show Seg _ A _ _ _ s₀ _ ((compTurn (.GeneratorExp elt [⟨tg, iter, ifs, 0⟩] scope gpos) 0 (.ref it) .none cenv).onRaise (leaving cenv)) [] s5
    rw [compTurn_gen, Sem.onRaise_eq_wrap]
    refine seg_bind_wrap (wpAny_standAt ?_)
    refine seg_bind_wrap ?_
    rw [over_gen]
    rcases turn i m H5 w5 with ⟨stop, qq⟩ | ⟨go, Nx, hNx, step⟩
    · refine thnF (T.done (genCx X s4 H4 cenv fp A) rfl rfl rfl rfl i [] s5 _ H5 (fun _ _ => False) I5 (stat I5 n5) st5 stop) fun r s6 ⟨hr, I6⟩ => ?_
      subst hr
      exact seg_end (.ok .next) ⟨rfl, _, H5, I6, qq⟩
    · refine thnF (T.item (genCx X s4 H4 cenv fp A) rfl rfl rfl rfl i [] s5 _ H5 (fun _ _ => False) I5 (stat I5 n5) st5 go) fun r s6 ⟨u, hr, h6⟩ => ?_
      subst hr
      dsimp only
      refine seg_bind_wrap ?_
      rw [over_gen]
      refine thnF h6 fun _ s7 ⟨x, H7, I7, r7, y7, st7, n7⟩ => ?_
      have I7' := I7.pinned (stat I7 n7) (T.obj _ _ st7)
      refine seg_bind_wrap ?_
      rw [over_gen]
      refine thnF (pg.run _ s7 _ H7 x u _ I7' r7 (step x H7 y7)) fun _ s8 ⟨σ8, H8, I8, hw8, q8⟩ => ?_
      refine seg_bind_wrap ?_
      rw [over_gen]
      refine thnF (pt.run _ s8 σ8 H8 _ I8 q8) fun b s9 ⟨H9, I9, q9⟩ => ?_
      cases b with
      | false =>
        simp only [Bool.false_eq_true, if_false] at q9 ⊢
        obtain ⟨m', hm, w'⟩ := hNx H9 q9
        have pin' : ∀ b ∈ fp, ∀ o, s7.heap.get? b = some o → s9.heap.get? b = some o ∧ H9 b = none := fun b hb o e =>
          let z := I9.pin (b, o) (List.mem_append_right _ (List.mem_append_right _ (mem_pinsAt hb e)))
          ⟨z.1, z.2.1⟩
        have hl : σ0.length = σ8.length := by rw [← hw8, wipe_length]
        refine seg_again rfl (ih m' hm (i + 1) H9 s9 s₀ ((I9.unpinned (pins := [])).weak hl fun j v e => ?_) (T.keep _ _ _ st7 fun b hb o e => (pin' b hb o e).1) (fun b hb => ?_) w')
        · rw [← hw8] at e
          exact (wipe_some e).1
        · obtain ⟨o, e, _⟩ := T.obj _ _ st7 b hb
          exact (pin' b hb o e).2
      | true =>
        simp only [if_true] at q9 ⊢
        have hy : ∀ v, yieldOut cenv v = yieldValue v := fun v => by simp only [yieldOut, hco, Bool.false_eq_true, if_false]
        simp only [hy]
        rw [Sem.bind_eq_wrap', Sem.bind_eq_wrap', Sem.wrap_wrap, Sem.wrap_wrap]
        refine seg_wrap ?_
        rw [over_gen]
        refine thnF (pe.run _ s9 σ8 H9 _ I9 q9) fun z s10 ⟨yv, H10, I10, r10, nx⟩ => ?_
        exact seg_at (seg_yield rfl rfl rfl ⟨yv, σ8, H10, _, I10, r10, nx⟩)
theorem seg_genX0 (hco : cenv.scope.isCoroutine = false) (T : Turn X.prog X.w X.K tg J fp it tn) (s5 s₀ : Shared) (st : tn 0 s5.heap)
    (loop : Seg (model X.prog X.w) A (fun n s₀ r s₁ => r = .ok .next ∧ genP (genCx X s4 H4 cenv fp A) Q n s₀ s₁) (genY (genCx X s4 H4 cenv fp A) Q) 1 s₀ (.compLoop (.GeneratorExp elt [⟨tg, iter, ifs, 0⟩] scope gpos) 0 (.ref it) .none cenv)
        ((model X.prog X.w).den (.compLoop (.GeneratorExp elt [⟨tg, iter, ifs, 0⟩] scope gpos) 0 (.ref it) .none cenv)) [] s5) :
    Seg (model X.prog X.w) A (fun n s₀ r s₁ => r = .ok .next ∧ genP (genCx X s4 H4 cenv fp A) Q n s₀ s₁) (genY (genCx X s4 H4 cenv fp A) Q) 1 s₀ (.compStart (.GeneratorExp elt [⟨tg, iter, ifs, 0⟩] scope gpos) 0 (.ref it) .none cenv)
        ((model X.prog X.w).den (.compStart (.GeneratorExp elt [⟨tg, iter, ifs, 0⟩] scope gpos) 0 (.ref it) .none cenv)) [] s5 := by
  show Seg _ A _ _ _ s₀ _ ((compStart (.GeneratorExp elt [⟨tg, iter, ifs, 0⟩] scope gpos) 0 (.ref it) .none cenv).onRaise (leaving cenv)) [] s5
  unfold compStart
  rw [Sem.onRaise_eq_wrap]
  show Seg _ A _ _ _ s₀ _ ((ask >>= _).wrap _ _ _ _) [] s5
  refine seg_bind_wrap (wpAny_askSetting ?_)
  split
  · exact seg_again rfl loop
  · first
      | exact seg_bind_wrap (wpAny_rule (seg_bind_wrap (wpAny_standAt (seg_bind_wrap (T.self _ 0 s5 _ _ st (seg_again rfl loop))))))
      | (refine seg_bind_wrap (wpAny_rule ?_); show Seg _ A _ _ _ s₀ _ ((standAt iter.pos >>= _).wrap _ _ _ _) [] s5; exact seg_bind_wrap (wpAny_standAt (seg_bind_wrap (T.self _ 0 s5 _ _ st (seg_again rfl loop)))))
end
end DL

set_option Elab.async false
set_option linter.all false
set_option maxRecDepth 100000
set_option maxHeartbeats 4000000
namespace DL
open PySem PySem.Spec PyProof.Rows L2 LamX

/-! ### next(elt for target in iter if test, None) -/
def tNextG (T : List (Addr × Str)) (wi : TI) (g : TG) (tt : TT) (te : TE) (vs : List Nat) : TE := fun σ H Q => wi σ H fun J H1 => LamX.Tabs T H1 ∧ ∀ H2, LamX.ExtN H1 H2 → LamX.Tabs T H2 → ∃ W : Nat → Nat → Hp → Prop, (∃ m, W 0 m H2) ∧ ∀ i m H, W i m H →
  (J.stop i H ∧ Q .non H) ∨ (J.go i H ∧ ∃ Nx : Hp → Prop, (∀ H', Nx H' → ∃ m', m' < m ∧ W (i + 1) m' H') ∧ ∀ x H', J.yld i H x H' → g x (wipe σ vs) H' fun σ2 H2 => wipe σ2 vs = wipe σ vs ∧ tt σ2 H2 fun b H3 => if b = true then te σ2 H3 Q else Nx H3)
theorem bare_set {gens : Array GenState} {g : Nat} {x : GenState} (h : AllBare gens) (hx : x.bare = true) : AllBare (gens.setIfInBounds g x) := fun y hy => by
  rcases Array.mem_or_eq_of_mem_setIfInBounds hy with z | z
  · exact h y z
  · rw [z]; exact hx
section
variable {X : Cx}
theorem pe_nextG {T : List (Addr × Str)} {c P : Addr} {k : Nat} {elt tg iter : Expr} {ifs : List Expr} {scope : Scope} {own : List (Str × Nat)} {gpos pos p cpos : Pos} {j : Nat} {wi : TI} {g : TG} {tt : TT} {te : TE}
    (hc : X.calm = true) (hN : X.N.Nodup) (hr : Room (k + 3) X.A) (hgl : Gl X "next") (hm0 : X.mg "next" = Option.none) (TB : LamX.TabB X.base X.mg c P) (hcode : X.env.code = .ref c)
    (hm : (P, X.env.qual ++ "<genexpr>") ∈ T) (hu : ∀ p ∈ T, p.1 = P → p.2 = X.env.qual ++ "<genexpr>")
    (hi : PI X tg iter wi) (ok : BlkOk X.N X.env.scope scope own) (nc : ∀ y ∈ scope.names, y.2 ≠ .cell) (hdot : scope.names.lookup (".0" : Str) = some NameKind.local) (hco : scope.isCoroutine = false)
    (hg : ∀ (s : Shared) (H : Hp) (C : Addr) (cl : List (Str × Addr)) (code : Value) (fp : List Addr) (A : Around), PG (genCx X s H (genEnv scope cl C code builtinsNs X.env) fp A) tg g)
    (ht : ∀ (s : Shared) (H : Hp) (C : Addr) (cl : List (Str × Addr)) (code : Value) (fp : List Addr) (A : Around), Room k (A.deeper (genEnv scope cl C code builtinsNs X.env)) → PTs (genCx X s H (genEnv scope cl C code builtinsNs X.env) fp A) ifs tt)
    (he : ∀ (s : Shared) (H : Hp) (C : Addr) (cl : List (Str × Addr)) (code : Value) (fp : List Addr) (A : Around), Room k (A.deeper (genEnv scope cl C code builtinsNs X.env)) → PE (genCx X s H (genEnv scope cl C code builtinsNs X.env) fp A) elt te)
    (hs : ∀ v, genFold iter X.env v = pure v)
    (hst : starEach [.GeneratorExp elt [⟨tg, iter, ifs, 0⟩] scope gpos, .Constant .none j cpos] X.env = (false, eval (.GeneratorExp elt [⟨tg, iter, ifs, 0⟩] scope gpos) X.env) :: starEach [.Constant .none j cpos] X.env := by rfl)
    (hst2 : starEach [.Constant .none j cpos] X.env = [(false, eval (.Constant .none j cpos) X.env)] := by rfl) :
    PE X (.Call (.Name "next" p) [.GeneratorExp elt [⟨tg, iter, ifs, 0⟩] scope gpos, .Constant .none j cpos] [] pos) (tNextG T wi g tt te (own.map (·.2))) := by
  refine ⟨fun pins s σ H Q I h => ?_⟩
  have hfree : ∀ y ∈ scope.names, y.2 = .free → ∃ c, X.env.cells.lookup y.1 = some c := fun y hy e => by
    rcases ok.free y hy e with k | k
    · exact I.ok.has _ (.inl k)
    · exact I.ok.has _ (.inr k)
  refine wpAny_Call_Name_kw (ld_blt (u := .builtin "next") I hgl hm0 (by first | rfl | decide +kernel) ?_ (by decide) (by decide))
  refine PyProof.Rows.callWith_builtin1 ?_ hst (by rw [hst2]; rfl)
  rw [hst, hst2]
  show wpAny _ _ (spliced [(false, eval (.GeneratorExp elt [⟨tg, iter, ifs, 0⟩] scope gpos) X.env), (false, eval (.Constant .none j cpos) X.env)]) _ _ s
  refine Calls.spliced_cons ?_
  refine wpAny_GeneratorExp_make hco (closure_ok hfree) nc hdot ok.kind hr.depth ?_ hs
  refine thn (hi.run pins s σ H _ I h) fun xv s1 hx => thn hx fun itv s2 h2 => ?_
  obtain ⟨it, fp, tn, J, H2, e, I2, Tn, st2, f2, hT, q⟩ := h2
  subst e
  refine ⟨I2.nolimit, gen_coded I2 TB hcode hm hu hT fun code H3 h3 tk I3 eN T3 hnone hkeep hsz => ?_⟩
  obtain ⟨W, ⟨m0, w0⟩, turn⟩ := q H3 eN T3
  obtain ⟨bm, ob, e1, e2, e3, e4, e5, e6, e7, e8⟩ := TB.bm
  refine wpAny_builtinsFor (m := X.mg) (by rw [I3.ok.glob]; exact I3.mod.glob.keeps I3.bk) e1 e2 (I3.bk _ _ e5) e6 e7 e8 ?_
  intro h' hn' hs'
  have szf : ∀ b ∈ fp, b < s2.heap.objs.size := fun b hb => by
    obtain ⟨o, eo, _⟩ := Tn.obj _ _ st2 b hb
    exact Heap.lt_size eo
  have f3 : ∀ b ∈ fp, FpOk X pins H3 b ∧ b < ({ s2 with heap := h3, toks := tk } : Shared).heap.objs.size := fun b hb =>
    ⟨⟨hnone b (f2 b hb).1 (szf b hb), (f2 b hb).2⟩, Nat.lt_of_lt_of_le (szf b hb) hsz⟩
  have st3 : tn 0 h3 := Tn.keep _ _ _ st2 fun b hb o eo => hkeep b o (f2 b hb).1 eo
  have kp : ∀ b o, h3.get? b = some o → (h'.push { cls := .type "generator", data := .fields #[.int s2.gens.size 0, .str "<genexpr>" (tk + 1), .str (X.env.qual ++ "<genexpr>") (tk + 1 + 1)] }).get? b = some o :=
    fun b o eo => Heap.get?_push_of_some _ (hs'.extBut b o (Nat.ne_of_lt (Heap.lt_size eo)) (Heap.get?_push_of_some _ eo))
  generalize hh5 : h'.push { cls := .type "generator", data := .fields #[.int s2.gens.size 0, .str "<genexpr>" (tk + 1), .str (X.env.qual ++ "<genexpr>") (tk + 1 + 1)] } = h5 at kp
  refine Calls.spliced_cons (Constant_none (Calls.spliced_nil ?_))
  -- the call
  have hgen : h5.IsGen h'.objs.size s2.gens.size := by
    rw [← hh5]
    exact ⟨_, _, _, Heap.get?_push_size _ rfl, rfl, rfl, rfl⟩
  have hn5 : h5.Ns h3.objs.size (fun y => if y = ".0" then some (.ref it) else none) := by
    rw [← hh5]
    exact hn'.push _
  have gs5 : (s2.gens.push (.fresh (.compStart (.GeneratorExp elt [⟨tg, iter, ifs, 0⟩] scope gpos) 0 (.ref it) .none (genEnv scope (cloFrom X.env.cells scope.names []) h3.objs.size code builtinsNs X.env))))[s2.gens.size]? = some (.fresh (.compStart (.GeneratorExp elt [⟨tg, iter, ifs, 0⟩] scope gpos) 0 (.ref it) .none (genEnv scope (cloFrom X.env.cells scope.names []) h3.objs.size code builtinsNs X.env))) := Array.getElem?_push_size ..
  have hb5 : AllBare (s2.gens.push (.fresh (.compStart (.GeneratorExp elt [⟨tg, iter, ifs, 0⟩] scope gpos) 0 (.ref it) .none (genEnv scope (cloFrom X.env.cells scope.names []) h3.objs.size code builtinsNs X.env)))) := I2.bare.push rfl
  generalize hG : s2.gens.push (.fresh (.compStart (.GeneratorExp elt [⟨tg, iter, ifs, 0⟩] scope gpos) 0 (.ref it) .none (genEnv scope (cloFrom X.env.cells scope.names []) h3.objs.size code builtinsNs X.env))) = G5 at gs5 hb5
  show wpAny _ _ (call (.builtin "next") [.ref h'.objs.size, .none]) _ _ ({ s2 with heap := h5, gens := G5, toks := tk + 1 + 1 + 1 } : Shared)
  generalize hS5 : ({ s2 with heap := h5, gens := G5, toks := tk + 1 + 1 + 1 } : Shared) = s5
  have e5h : s5.heap = h5 := by rw [← hS5]
  have e5g : s5.gens = G5 := by rw [← hS5]
  have e5o : s5.os = s2.os := by rw [← hS5]
  rw [← e5h] at hgen hn5 kp
  rw [← e5g] at gs5 hb5
  have hl5 : s5.heap.NoLimit := I3.nolimit.keeps kp
  have hfs : ∀ {s1 : Shared} {σ' : L2.St} {H' : Hp} {pins' : List (Addr × Obj)}, Inv (genCx X { s2 with heap := h3, toks := tk } H3 (genEnv scope (cloFrom X.env.cells scope.names []) h3.objs.size code builtinsNs X.env) fp X.A.in1.in1) pins' σ' H' s1 → ∀ (gs' : GenState), gs'.bare = true → Inv X pins σ H' (s1.setGen s2.gens.size gs') := fun {s1 σ' H' pins'} I' gs' hb =>
    I3.call' (ch := fp) (s' := s1.setGen s2.gens.size gs') I'.os I'.base I'.hok (bare_set I'.bare hb) fun b hb => ⟨(f3 b hb).1.2.2.2.1, (f3 b hb).1.2.1, (f3 b hb).1.2.2.2.2.1, (f3 b hb).1.2.2.2.2.2⟩
  refine Calls.call_function_entry (by decide +kernel) (by decide +kernel) PySem.W.kdk_entry_next (PySem.W.kdk_args_next2 _ _) ?_
  unfold Builtin.«next»
  refine wpAny_bind (m := someArgs "next" 1 2 _) (wpAny_of_eq (a := [Value.ref h'.objs.size, .none]) (by first | rfl | kernel_rfl!) ?_)
  dsimp only
  refine wpAny_bind (wpAny_specialOf (name := Str.ofString "__next__") hgen.typeIs slot_gen_next.lookup ?_)
  refine wpAny_ite_split (fun hab => absurd hab (by decide)) (fun _ => ?_)
  have rm : Room k (X.A.in1.in1.deeper (genEnv scope (cloFrom X.env.cells scope.names []) h3.objs.size code builtinsNs X.env)) := ((hr.in1).in1).deeper _
  refine wpAny_bind (wpAny_pyNext_genexpQ (A := X.A.in1) (n := 1) (P := genP (genCx X { s2 with heap := h3, toks := tk } H3 (genEnv scope (cloFrom X.env.cells scope.names []) h3.objs.size code builtinsNs X.env) fp X.A.in1.in1) Q)
    (Y := genY (genCx X { s2 with heap := h3, toks := tk } H3 (genEnv scope (cloFrom X.env.cells scope.names []) h3.objs.size code builtinsNs X.env) fp X.A.in1.in1) Q) hr.hd hl5 hr.depth hgen gs5 ?_ (fun v s₁ gs' hb hv => ?_) (fun s₁ hp h9 hk => ?_))
  · refine ⟨rfl, seg_genX0 hco Tn _ _ (Tn.keep _ _ _ st3 fun b _ o eo => kp b o eo) (seg_genX (vs := own.map (·.2)) (σ0 := wipe σ (own.map (·.2))) (W := W) hco Tn (hg _ _ _ _ _ _ _) (ht _ _ _ _ _ _ _ rm) (he _ _ _ _ _ _ _ rm) (fun i v e => (wipe_some e).2) turn m0 0 H3 _ _ ?_ (Tn.keep _ _ _ st3 fun b _ o eo => kp b o eo) (fun b hb => (f3 b hb).1.1) w0)⟩
    exact gen_start I3 ok nc hN f3 rfl hr.hd kp hn5 e5o (bare_set hb5 rfl)
  · obtain ⟨x, σ', H', pins', I', r, qq⟩ := hv
    exact wpAny_pure ⟨v, rfl, x, H', hfs I' gs' hb, r, qq⟩
  · obtain ⟨σ', H', I', qq⟩ := hp
    exact wpAny_pure ⟨.none, rfl, .non, H', (hfs I' .finished rfl).kept (t' := s₁.toks) hk, rfl, qq⟩
end
end DL

set_option Elab.async false
set_option linter.all false
set_option maxRecDepth 100000
set_option maxHeartbeats 4000000
namespace DL
open PySem PySem.Spec PyProof.Rows L2 LamX

/-! ### next(elt for target in iter if test, None): the mirror -/
def nxGo (ds0 : Ev) (s : Src) (t : Tg) (tt : M Bool) (te : M D) : Nat → Nat → Hs → R D
  | 0, _, hh => if srcEnd s hh then .ok .non hh else .no
  | k + 1, i, hh => match (srcAt s hh i).bind fun x => asgT t x ds0 with
    | none => .no
    | some ds => (tt ds hh).noex.bind fun b h2 => if b then (te ds h2).noex else nxGo ds0 s t tt te k (i + 1) h2
def mNextG (tf : List Str) (src : M Src) (vs : List Nat) (t : Tg) (tt : M Bool) (te : M D) : M D := fun ds h => (src ds h).bind fun s h1 => if isTab tf h1 then nxGo (wipeD ds vs) s t tt te s.len 0 h1 else .no
theorem PostE.noex1 {K : PySem.W.Frag} {mg : Str → Option Value} {W : WX} {as : List Addr} {σ σ' : L2.St} {H : Hp} {r : R D} {Q : VK} (p : PostE K mg W as σ H r.noex Q) : PostE K mg W0 as σ' H r Q := by
  cases r with
  | ok d h => exact p
  | ex c q h => exact p.elim
  | no => exact p
section
variable {X : Cx} {W : WX} {pos p : Pos} {ma : M D}
theorem next_post {tf : List Str} {y : Str} (hy : y ∈ tf) {ms : M Src} {t : Tg} {mt : M Bool} {vs : List Nat} (hsub : ∀ i ∈ t.ns, i ∈ vs) {σ : L2.St} {H0 : Hp} {Q : VK} (q : teM X.K X.mg W (mNextG tf ms vs t mt ma) σ H0 Q) :
    tNextG (tabsT X.K tf y) (tiM X.K X.mg W ms) (gOf X.K t) (ttM X.K X.mg W0 mt) (teM X.K X.mg W0 ma) vs σ H0 Q := by
  obtain ⟨as, ds, h, s, q⟩ := q
  refine ⟨as, ds, h, s, ?_⟩
  unfold mNextG at q
  cases es : ms ds h with
  | ex c p h1 => rw [es] at q; exact q
  | no => rw [es] at q; exact q
  | ok sr h1 =>
    rw [es] at q
    intro J H as1 g hr wk
    have q : PostE X.K X.mg W as σ H0 (if isTab tf h1 = true then nxGo (wipeD ds vs) sr t mt ma sr.len 0 h1 else .no) Q := q
    by_cases htb : isTab tf h1 = true
    · rw [if_pos htb] at q
      refine ⟨fun p hp => ?_, fun H2 eN T2 => ?_⟩
      · obtain ⟨hp, _⟩ := List.mem_filter.mp hp
        obtain ⟨z, hz, rfl⟩ := List.mem_map.mp hp
        exact tabs_of hr htb hz
      · obtain ⟨g2, hr2⟩ := heap_lam hr htb hy eN T2
        have q := PostE.grow (g.trans g2) q
        refine ⟨fun i m H' => m + i = sr.len ∧ ∃ hh as', Grow as1 H2 as' H' ∧ StR X.K H' as' (wipeD ds vs) hh (L2.wipe σ vs) ∧ WalkD X.K as' H' J sr ∧ PostE X.K X.mg W as' σ H' (nxGo (wipeD ds vs) sr t mt ma m i hh) Q, ⟨sr.len, rfl, h1, as1, .refl, ⟨((s.env.grow g).grow g2).wipe vs, hr2⟩, wk.grow g2, q⟩, ?_⟩
        rintro i m H' ⟨hmi, hh, as', g3, s3, wk3, q3⟩
        cases m with
        | zero =>
          refine .inl ?_
          cases ee : srcEnd sr hh with
          | false => simp only [nxGo, ee] at q3; exact q3.elim
          | true =>
            have hi' : i = sr.len := by omega
            subst hi'
            refine ⟨wk3.stop hh H' _ .refl s3.heap ee, ?_⟩
            simp only [nxGo, ee, if_true] at q3
            exact q3 .non H' as' .refl .non s3.heap
        | succ m =>
          refine .inr ?_
          cases eb : (srcAt sr hh i).bind fun x => asgT t x (wipeD ds vs) with
          | none => simp only [nxGo, eb] at q3; exact q3.elim
          | some ds1 =>
            obtain ⟨x, ex, e2⟩ := Option.bind_eq_some_iff.mp eb
            obtain ⟨go, yl⟩ := wk3.go i hh H' _ x .refl s3.heap ex
            refine ⟨go, _, fun H'' w => ⟨m, Nat.lt_succ_self m, w⟩, fun v H3 y => ?_⟩
            obtain ⟨sm, rv⟩ := yl v H3 y
            refine asg_ok t (s3.env.grow (.of_same sm)) (.val rv) e2 fun σ2 s4 wp => ⟨(wp vs hsub).trans (wipe_idem fun _ h => h), ?_⟩
            refine ⟨as', ds1, hh, ⟨s4, s3.heap.same sm⟩, ?_⟩
            simp only [nxGo, eb] at q3
            have q3 := PostE.grow (.of_same sm) q3
            refine PostT.noex q3 fun b h4 H4 as4 g4 hr4 q4 => ?_
            cases b with
            | false =>
              simp only [Bool.false_eq_true, if_false] at q4 ⊢
              have gA : Grow as' H' as4 H4 := (Grow.of_same sm).trans g4
              exact ⟨by omega, h4, as4, g3.trans gA, ⟨s3.env.grow gA, hr4⟩, wk3.grow gA, q4⟩
            | true =>
              simp only [if_true] at q4 ⊢
              exact ⟨as4, ds1, h4, ⟨s4.grow g4, hr4⟩, PostE.noex1 q4⟩
    · rw [if_neg htb] at q; exact q.elim
theorem de_nextG {tf : List Str} {y : Str} {k : Nat} {elt tg iter : Expr} {ifs : List Expr} {scope : Scope} {own : List (Str × Nat)} {gpos cpos : Pos} {j : Nat} {ms : M Src} {t : Tg} {mt : M Bool}
    (hN : X.N.Nodup) (hr : Room (k + 3) X.A) (hm0 : X.mg "next" = Option.none) (TB : LamX.TabB X.base X.mg (He.cT X.K (y, none)).1 (He.cT X.K (y, none)).2) (hcode : X.env.code = .ref (He.cT X.K (y, none)).1) (hy : y ∈ tf)
    (hi : DI X W tg iter ms) (ok : BlkOk X.N X.env.scope scope own) (nc : ∀ y ∈ scope.names, y.2 ≠ .cell) (hdot : scope.names.lookup (".0" : Str) = some NameKind.local)
    (hg : ∀ (s : Shared) (H : Hp) (C : Addr) (cl : List (Str × Addr)) (code : Value) (fp : List Addr) (A : Around), DG (genCx X s H (genEnv scope cl C code builtinsNs X.env) fp A) tg t)
    (ht : ∀ (s : Shared) (H : Hp) (C : Addr) (cl : List (Str × Addr)) (code : Value) (fp : List Addr) (A : Around), Room k (A.deeper (genEnv scope cl C code builtinsNs X.env)) → DTs (genCx X s H (genEnv scope cl C code builtinsNs X.env) fp A) ifs mt)
    (he : ∀ (s : Shared) (H : Hp) (C : Addr) (cl : List (Str × Addr)) (code : Value) (fp : List Addr) (A : Around), Room k (A.deeper (genEnv scope cl C code builtinsNs X.env)) → DE (genCx X s H (genEnv scope cl C code builtinsNs X.env) fp A) W0 elt ma)
    (hq : X.env.qual ++ "<genexpr>" = lamQ y := by first | rfl | kernel_rfl) (hsub : ∀ i ∈ t.ns, i ∈ own.map (·.2) := by decide) (hco : scope.isCoroutine = false := by rfl) (hgl : Gl X "next" := by rfl) (hc : X.calm = true := by rfl) (hs : ∀ v, genFold iter X.env v = pure v := by intro _; rfl)
    (hst : starEach [.GeneratorExp elt [⟨tg, iter, ifs, 0⟩] scope gpos, .Constant .none j cpos] X.env = (false, eval (.GeneratorExp elt [⟨tg, iter, ifs, 0⟩] scope gpos) X.env) :: starEach [.Constant .none j cpos] X.env := by rfl)
    (hst2 : starEach [.Constant .none j cpos] X.env = [(false, eval (.Constant .none j cpos) X.env)] := by rfl) :
    DE X W (.Call (.Name "next" p) [.GeneratorExp elt [⟨tg, iter, ifs, 0⟩] scope gpos, .Constant .none j cpos] [] pos) (mNextG tf ms (own.map (·.2)) t mt ma) := by
  refine PE.imp (pe_nextG (k := k) (T := tabsT X.K tf y) (wi := tiM X.K X.mg W ms) (g := gOf X.K t) (tt := ttM X.K X.mg W0 mt) (te := teM X.K X.mg W0 ma) hc hN hr hgl hm0 TB hcode ?_ ?_ hi ok nc hdot hco hg ht he hs hst hst2) fun σ H Q q => next_post hy hsub q
  · rw [hq]
    exact List.mem_filter.mpr ⟨List.mem_map.mpr ⟨y, hy, rfl⟩, by simp⟩
  · intro q hqm e
    rw [hq]
    have := (List.mem_filter.mp hqm).2
    simpa [e] using this
end
end DL

set_option Elab.async false
set_option linter.all false
set_option maxRecDepth 100000
set_option maxHeartbeats 4000000
namespace DL
open PySem PySem.Spec PyProof.Rows L2

/-! ### xs[lo:hi:step] of a list -/
def slIx (n : Nat) (lo hi st : Option Int) : List Nat := sliceRange (sliceBounds lo hi st n).1 (sliceBounds lo hi st n).2.1 (sliceBounds lo hi st n).2.2
def pickL {α : Type} (ix : List Nat) (l : List α) : List α := ix.filterMap fun i => l[i]?
theorem pickL_arr (items : Array Value) (lo hi st : Option Int) : slicePick items lo hi st = (pickL (slIx items.toList.length lo hi st) items.toList).toArray := by
  unfold slicePick pickL slIx
  rw [Array.length_toList]
  congr 1
  apply congrArg (fun f => List.filterMap f _)
  funext i
  simp
theorem pickL_le {α : Type} {ix : List Nat} {l : List α} : (pickL ix l).length ≤ ix.length := List.length_filterMap_le _ _
theorem vals_pick {vs : List V} {its : List Value} (r : Vals vs its) : ∀ ix : List Nat, Vals (pickL ix vs) (pickL ix its)
  | [] => .nil
  | i :: ix => by
    have ih := vals_pick r ix
    have hl := r.length
    show Vals (List.filterMap _ _) (List.filterMap _ _)
    rw [List.filterMap_cons, List.filterMap_cons]
    cases e : vs[i]? with
    | none =>
      have e2 : its[i]? = none := List.getElem?_eq_none_iff.mpr (by have := List.getElem?_eq_none_iff.mp e; omega)
      rw [e2]
      exact ih
    | some v =>
      obtain ⟨u, hu, ru⟩ := r.get e
      rw [hu]
      exact .cons ru ih
theorem rvs_pick {K : PySem.W.Frag} {H : Hp} {as : List Addr} {ds : List D} {vs : List V} (r : RVs K H as ds vs) : ∀ ix : List Nat, RVs K H as (pickL ix ds) (pickL ix vs)
  | [] => .nil
  | i :: ix => by
    have ih := rvs_pick r ix
    have hl := r.length
    show RVs K H as (List.filterMap _ _) (List.filterMap _ _)
    rw [List.filterMap_cons, List.filterMap_cons]
    cases e : ds[i]? with
    | none =>
      have e2 : vs[i]? = none := List.getElem?_eq_none_iff.mpr (by have := List.getElem?_eq_none_iff.mp e; omega)
      rw [e2]
      exact ih
    | some d =>
      obtain ⟨v, hv, rv⟩ := r.get e
      rw [hv]
      exact .cons rv ih
def tSl3 (K : PySem.W.Frag) (te : TE) (tl th ts : TO) : TE := fun σ H Q => te σ H fun x H1 => tl σ H1 fun l H2 => th σ H2 fun u H3 => ts σ H3 fun st H4 => ∃ a xs, x = .ref a ∧ SqL K H4 a xs ∧ st ≠ some 0 ∧ (slIx xs.length l u st).length ≤ xs.length ∧ ∀ p, H4 p = none → Q (.ref p) (upd H4 p (.lst (pickL (slIx xs.length l u st) xs)))
section
variable {X : Cx} {W : WX}
theorem pe_sl3 {e : Expr} {lo hi st : Option Expr} {te : TE} {tl th ts : TO} {p2 pos : Pos} (he : PE X e te) (hl : PO X lo tl) (hu : PO X hi th) (hs : PO X st ts) (hsub : ∀ u v, subscripted (.Slice lo hi st p2) false u v = operate [u, v] (getItem u v) := by intro _ _; with_unfolding_all rfl) : PE X (.Subscript e (.Slice lo hi st p2) pos) (tSl3 X.K te tl th ts) := by
  refine ⟨fun pins s σ H Q I h => ?_⟩
  refine Subscript_ (thn (he.run pins s σ H _ I h) fun v s1 ⟨x, H1, I1, r1, q1⟩ => ?_)
  refine wpAny_Slice (thn (hl.run pins s1 σ H1 _ I1 q1) fun vl s2 ⟨l, H2, I2, pl, q2⟩ => ?_)
  refine thn (hu.run pins s2 σ H2 _ I2 q2) fun vu s3 ⟨u, H3, I3, pu, q3⟩ => ?_
  refine thn (hs.run pins s3 σ H3 _ I3 q3) fun vs s4 ⟨o, H4, I4, ps, q4⟩ => ?_
  obtain ⟨a, xs, ex, hx, h0, hle, q⟩ := q4
  subst ex
  cases r1
  have I5 : Inv X pins σ H4 { s4 with heap := s4.heap.push { cls := .type "slice", data := .fields #[vl, vu, vs] } } := I4.kept (t' := s4.toks) fun b ob q => Heap.get?_push_of_some _ q
  obtain ⟨its, r, ht, hz⟩ := I5.list hx
  have hlen := r.length
  show wpAny (model X.prog X.w) X.A (subscriptTail e (.Slice lo hi st p2) (.ref a) (.ref s4.heap.objs.size)) (EP X pins σ Q) X.xe { s4 with heap := s4.heap.push { cls := .type "slice", data := .fields #[vl, vu, vs] } }
  refine tail_any (ops := [.ref a, .ref s4.heap.objs.size]) ht.isList.typeIs (PySem.slot_list_getitem.lookup) ?_ (hsub _ _)
  refine wpAny_getItem_list_slice ht.isList (Heap.IsSliceOf.new _ vl vu vs) pl pu ps h0 ?_ (by rw [List.size_toArray]; omega)
  rw [pickL_arr]
  have eL : its.toArray.toList = its := by simp
  rw [eL, ← hlen]
  refine ⟨.ref _, _, I5.laid (t' := s4.toks) (o := .lst (pickL (slIx xs.length l u o) xs)) (fun b ob q => Heap.get?_push_of_some _ q) (Nat.le_refl _) ?_, rfl, q _ (I5.hok.fresh (Nat.le_refl _))⟩
  exact ⟨Nat.le_trans pickL_le (Nat.le_trans hle hz), _, 0, vals_pick r _, Heap.get?_push_size _ rfl⟩
def mSl3 (ma : M D) (ml mh ms : MO) : M D := fun ds h => (ma ds h).bind fun x h1 => (ml ds h1).bind fun lo h2 => (mh ds h2).bind fun hi h3 => (ms ds h3).bind fun st h4 => match lsOf (rd h4 x) with
  | some l => if st ≠ some 0 ∧ (slIx l.length lo hi st).length ≤ l.length then .ok (.lst (pickL (slIx l.length lo hi st) l)) h4 else .no
  | none => .no
theorem de_sl3 {a : Expr} {lo hi st : Option Expr} {ma : M D} {ml mh ms : MO} {p2 pos : Pos} (ha : DE X W a ma) (hl : DO X W lo ml) (hh : DO X W hi mh) (hs : DO X W st ms) (hsub : ∀ u v, subscripted (.Slice lo hi st p2) false u v = operate [u, v] (getItem u v) := by intro _ _; with_unfolding_all rfl) : DE X W (.Subscript a (.Slice lo hi st p2) pos) (mSl3 ma ml mh ms) :=
  PE.imp (pe_sl3 ha hl hh hs hsub) fun σ H Q ⟨as, ds, h, s, p⟩ => ⟨as, ds, h, s, PostE.bindE p fun x h1 v H1 as1 f1 r1 hr1 p1 =>
    ⟨as1, ds, h1, ⟨s.env.grow f1, hr1⟩, PostE.bindO p1 fun lo h2 H2 as2 f2 hr2 p2 =>
    ⟨as2, ds, h2, ⟨s.env.grow (f1.trans f2), hr2⟩, PostE.bindO p2 fun hi h3 H3 as3 f3 hr3 p3 =>
    ⟨as3, ds, h3, ⟨s.env.grow ((f1.trans f2).trans f3), hr3⟩, PostE.bindO p3 fun st h4 H4 as4 f4 hr4 p4 => by
      have r4 := ((r1.grow ((f2.trans f3).trans f4)).rt hr4)
      revert r4 p4
      generalize rd h4 x = y
      intro p4 r4
      cases el : lsOf y with
      | none => rw [el] at p4; exact p4.elim
      | some l =>
        rw [el] at p4
        by_cases hc : st ≠ some 0 ∧ (slIx l.length lo hi st).length ≤ l.length
        · simp only [if_pos hc] at p4
          have fin : ∀ (q : Addr) (vs : List V), RVs X.K H4 as4 l vs → SqL X.K H4 q vs → v = .ref q → ∃ a xs, v = .ref a ∧ SqL X.K H4 a xs ∧ st ≠ some 0 ∧ (slIx xs.length lo hi st).length ≤ xs.length ∧ ∀ p, H4 p = none → Q (.ref p) (upd H4 p (.lst (pickL (slIx xs.length lo hi st) xs))) := fun q vs r hq e => by
            have hlen := r.length
            refine ⟨q, vs, e, hq, hc.1, by rw [← hlen]; exact hc.2, fun q2 hq2 => ?_⟩
            have sm := same_upd (o := .lst (pickL (slIx vs.length lo hi st) vs)) hq2
            rw [hlen] at p4
            exact p4 (.ref q2) _ as4 (.of_same sm) (.val (.lst upd_same (hr4.notin hq2) ((rvs_pick r _).fr (.of_same sm)))) (hr4.same sm)
          have ed : y = .lst l ∨ y = .frz l := by
            revert el; cases y <;> intro el <;> cases el <;> simp
          rcases ed with rfl | rfl
          · obtain ⟨q, vs, rfl, r, hq⟩ := r4.lst
            exact fin q vs r (SqL.of hq) rfl
          · obtain ⟨q, vs, rfl, r, hq⟩ := r4.frz
            exact fin q vs r hq rfl
        · simp only [if_neg hc] at p4; exact p4.elim⟩⟩⟩⟩
end
end DL

set_option Elab.async false
set_option linter.all false
set_option maxRecDepth 100000
set_option maxHeartbeats 4000000
namespace DL
open PySem PySem.Spec PyProof.Rows L2 LamX

/-! ### a lambda with parameters that captures names: it is made -/
def ThereO (a : Addr) : Heap → Prop := fun h => ∃ o, h.get? a = some o
theorem fnc_ok {P : Program} {w : World} {H : Hp} {h : Heap} {a : Addr} {o : Obj} (e : h.get? a = some o) : ObjOk P w H h a (.frz o (.ext (ThereO a))) :=
  ⟨e, ⟨⟨o, e⟩, ⟨o, e⟩, fun h1 h2 ⟨o, e⟩ k => ⟨o, k _ e⟩⟩⟩
section
variable {X : Cx} {pins : List (Addr × Obj)} {σ : L2.St} {H : Hp} {s : Shared}
theorem lam_madeC {T : List (Addr × Str)} {c P : Addr} {par : Arguments} {bd : Expr} {sc : Scope} {pos : Pos} {E : Value → Shared → Prop} {Q : Value → Shared → Prop} (I : Inv X pins σ H s) (TB : LamX.TabB X.base X.mg c P) (hcode : X.env.code = .ref c)
    (hm : (P, X.env.qual ++ "<lambda>") ∈ T) (hu : ∀ p ∈ T, p.1 = P → p.2 = X.env.qual ++ "<lambda>") (hT : LamX.Tabs T H) (hdef : defaultsOf par X.env = ([], [])) (hfree : ∀ y ∈ sc.names, y.2 = .free → ∃ c, X.env.cells.lookup y.1 = some c)
    (h : ∀ (f c' : Addr) (pm ctv : Value) (H1 : Hp) (s' : Shared), LamX.ExtN H H1 → LamX.Tabs T H1 → H1 f = none → H1 c' = some (LamX.CodeO c' (X.env.qual ++ "<lambda>")) →
      Inv X pins σ (upd H1 f (.frz (PySem.W.kla_obj "<lambda>" (X.env.qual ++ "<lambda>") par bd sc (cloFrom X.env.cells sc.names []) pm c' ctv) (.ext (ThereO f)))) s' → Q (.ref f) s') :
    wpAny (model X.prog X.w) X.A (eval (.Lambda par bd sc pos) X.env) Q E s := by
  obtain ⟨ps, hP, ht, ha⟩ := hT _ hm
  refine PySem.W.kla_eval hdef ?_
  have bP : s.heap.BuiltinsAt X.mg P := TB.bm.keeps I.bk
  have hP' : s.heap.get? P = some { cls := .none, data := .fields ps } := I.hok P _ hP
  have clo : closureFor sc X.env = pure (cloFrom X.env.cells sc.names []) := closure_ok hfree
  cases hc : codeAmong pos ps.toList with
  | some cv =>
    obtain ⟨c', rfl, hco⟩ := ha pos cv hc
    refine PySem.W.kla_makeFunctionHit (mg := X.mg) (c := c) (P := P) (ps := ps) clo I.ok.glob (I.mod.glob.keeps I.bk) hcode (TB.code.keeps I.bk) hP' ht hc bP fun ctv h' tk hx hsz => ?_
    have nF : H h'.objs.size = none := I.hok.fresh hsz
    exact h _ c' _ ctv H _ (LamX.ExtN.refl H) hT nF hco (I.laid (t' := tk) (h' := h'.push (PySem.W.kla_obj "<lambda>" (X.env.qual ++ "<lambda>") par bd sc (cloFrom X.env.cells sc.names []) ((X.mg "__name__").getD .none) c' ctv)) (fun b o e => Heap.get?_push_of_some _ (hx b o e)) hsz (fnc_ok (Heap.get?_push_size _ rfl)))
  | none =>
    refine PySem.W.kla_makeFunction (mg := X.mg) (c := c) (P := P) (ps := ps) clo I.ok.glob (I.mod.glob.keeps I.bk) hcode (TB.code.keeps I.bk) hP' ht hc TB.gP bP fun c' ctv h' tk hx hge hlt hrec htb => ?_
    obtain ⟨c2, oc, vs, t, e2, hoc, hd, hv⟩ := hrec
    cases e2
    have nC : H c' = none := I.hok.fresh hge
    have I0 := inv_table (t' := tk) (more := #[rawInt pos.line, rawInt pos.col, .ref c']) (h' := h') I hP hx htb hge ⟨oc, vs, t, hoc, hd, hv⟩
    have grown : ∀ H0 : Hp, H0 = upd (upd H P (.tbl (ps ++ #[rawInt pos.line, rawInt pos.col, .ref c']))) c' (LamX.CodeO c' (X.env.qual ++ "<lambda>")) → LamX.ExtN H H0 ∧ LamX.Tabs T H0 ∧ H0 c' = some (LamX.CodeO c' (X.env.qual ++ "<lambda>")) := by
      intro H0 eH
      have hE : LamX.ExtN H H0 := fun b o e nt => by
        rw [eH, upd_ne (ne_of_none e nC), upd_ne (fun z => nt ps (Option.some.inj (e.symm.trans (by rw [z]; exact hP))))]
        exact e
      refine ⟨hE, fun p hp => ?_, by rw [eH, upd_same]⟩
      by_cases hb : p.1 = P
      · rw [hu p hp hb, hb]
        have el : (ps ++ #[rawInt pos.line, rawInt pos.col, .ref c']).toList = ps.toList ++ [rawInt pos.line, rawInt pos.col, .ref c'] := by simp
        refine ⟨_, by rw [eH, upd_ne (ne_of_none hP nC), upd_same], by rw [el]; exact PySem.TriplesOk_snoc _ _ _ _ ht, fun p' cv hcv => ?_⟩
        rw [el] at hcv
        rcases LamX.among_app _ ht hcv with z | z
        · obtain ⟨c0, z1, z2⟩ := ha p' cv z
          exact ⟨c0, z1, hE _ _ z2 LamX.codeO_ne⟩
        · exact ⟨c', z, by rw [eH, upd_same]⟩
      · obtain ⟨qs, a1, a2, a3⟩ := hT p hp
        refine ⟨qs, by rw [eH, upd_ne (ne_of_none a1 nC), upd_ne hb]; exact a1, a2, fun p' cv hcv => ?_⟩
        obtain ⟨c0, z1, z2⟩ := a3 p' cv hcv
        exact ⟨c0, z1, hE _ _ z2 LamX.codeO_ne⟩
    obtain ⟨hE, hT0, hC0⟩ := grown _ rfl
    have nF : (upd (upd H P (.tbl (ps ++ #[rawInt pos.line, rawInt pos.col, .ref c']))) c' (LamX.CodeO c' (X.env.qual ++ "<lambda>"))) h'.objs.size = none := I0.hok.fresh (Nat.le_refl _)
    exact h _ c' _ ctv _ _ hE hT0 nF hC0 (I0.laid (t' := tk) (h' := h'.push (PySem.W.kla_obj "<lambda>" (X.env.qual ++ "<lambda>") par bd sc (cloFrom X.env.cells sc.names []) ((X.mg "__name__").getD .none) c' ctv)) (a := h'.objs.size) (fun b o e => Heap.get?_push_of_some _ e) (Nat.le_refl _) (fnc_ok (Heap.get?_push_size _ rfl)))
end
/-! ### its link with the def that made it -/
/-- the k-th cell is a lambda that was made here: it captures this frame's cells -/
def LinkG (X : Cx) (n k : Nat) (q : Str) (as : List Addr) (H : Hp) : Prop :=
  ∃ (f c' : Addr) (par : Arguments) (bd : Expr) (sc : Scope) (pm ctv : Value), lamTab n = some (par, bd, sc) ∧ as[k]? = some f ∧ H f = some (.frz (PySem.W.kla_obj "<lambda>" q par bd sc (cloFrom X.env.cells sc.names []) pm c' ctv) (.ext (ThereO f))) ∧ H c' = some (LamX.CodeO c' q) ∧ c' ∉ as
/-- an assertion that stays -/
def Stays (G : List Addr → Hp → Prop) : Prop := ∀ as H as' H', Grow as H as' H' → G as H → G as' H'
theorem LinkG.stays (X : Cx) (n k : Nat) (q : Str) : Stays (LinkG X n k q) := by
  rintro as H as' H' g ⟨f, c', par, bd, sc, pm, ctv, h1, h2, h3, h4, h5⟩
  exact ⟨f, c', par, bd, sc, pm, ctv, h1, pre_get g.pre h2, g.fr _ _ h3 rfl fun _ => rfl, g.fr _ _ h4 rfl fun z => absurd z h5, g.notin h4 rfl h5⟩
end DL

set_option Elab.async false
set_option linter.all false
set_option maxRecDepth 100000
set_option maxHeartbeats 4000000
namespace DL
open PySem PySem.Spec PyProof.Rows L2 LamX

/-! ### a lambda with parameters that captures names: it is run -/
abbrev capCx (P : Program) (w : World) (K : PySem.W.Frag) (mg : Str → Option Value) (base : Heap) (N : List Str) (A : Around) (outer : List Env) (s : Shared) (H : Hp) (E : XK) (env : Env) : Cx where
  prog := P
  w := w
  K := K
  mg := mg
  base := base
  A := A.deeper env
  N := N
  s_0 := s
  H_0 := H
  env := env
  outer := outer
  stack := env :: outer
  ex := []
  fn := fun _ => false
  calm := true
  pn := []
  xe := fun e s' => wpAny (model P w) (A.deeper env) (leaving env e) (fun _ s'' => L2.CX P w outer H s E e s'') (fun e' s'' => L2.CX P w outer H s E e' s'') s'
/-- its names: parameters, captured ones, globals -/
structure CapS (sc : Scope) (ps ys : List Str) : Prop where
  kind : sc.kind = .function
  co : sc.isCoroutine = false
  gen : sc.isGenerator = false
  nocell : ∀ y ∈ sc.names, y.2 ≠ .cell
  par : ∀ x ∈ ps, sc.names.lookup x = some .local
  cap : ∀ y ∈ ys, sc.names.lookup y = some .free
  nd : (ps ++ ys).Nodup
/-- the captured cells, as they stand -/
structure CapC (cl : List (Str × Addr)) (sc : Scope) (ys : List Str) (ws : List V) (h : Heap) (H : Hp) : Prop where
  inj : ∀ x y c, cl.lookup x = some c → cl.lookup y = some c → x = y
  has : ∀ y, sc.names.lookup y = some .free → ∃ c, cl.lookup y = some c
  cell : ∀ y c, cl.lookup y = some c → (∃ v, h.IsCell c v) ∧ H c = none
  len : ys.length = ws.length
  val : ∀ (i : Nat) (y : Str) (v : V), ys[i]? = some y → ws[i]? = some v → ∃ c u, cl.lookup y = some c ∧ RelV v u ∧ h.IsCell c (some u)
section
variable {P : Program} {w : World} {K : PySem.W.Frag} {mg : Str → Option Value} {base : Heap} {A : Around} {outer : List Env} {s : Shared} {H : Hp} {E : XK}
theorem zip_look {ps : List Str} (nd : ps.Nodup) : ∀ {us : List Value} {i : Nat} {x : Str} {u : Value}, ps[i]? = some x → us[i]? = some u → (ps.zip us).reverse.lookup x = some u := by
  intro us i x u h1 h2
  have hm : (x, u) ∈ (ps.zip us).reverse := by
    rw [List.mem_reverse]
    have : (ps.zip us)[i]? = some (x, u) := by rw [List.getElem?_zip_eq_some]; exact ⟨h1, h2⟩
    exact List.mem_of_getElem? this
  obtain ⟨u', e⟩ := mem_lookup hm
  have hm' := PySem.mem_of_lookup e
  rw [List.mem_reverse] at hm'
  obtain ⟨j, hj, ej⟩ := List.getElem_of_mem hm'
  have e3 : (ps.zip us)[j]? = some (x, u') := by rw [List.getElem?_eq_getElem hj, ej]
  rw [List.getElem?_zip_eq_some] at e3
  have : j = i := nodup_ix nd e3.1 h1
  subst this
  have e4 := e3.2
  rw [h2] at e4
  cases e4
  exact e
theorem cap_start {sc : Scope} {ps ys : List Str} {q : Str} {f c' : Addr} {cl : List (Str × Addr)} {us : List Value} {vs ws : List V} {h₁ : Heap} {tk : Nat} (S : CapS sc ps ys) (C : CapC cl sc ys ws s.heap H) (e0 : Env0 P w K mg base A outer s H) (hd : A.handled = none) (hl : vs.length = ps.length) (r : Vals vs us)
    (hns : h₁.Ns s.heap.objs.size fun y => (ps.zip us).reverse.lookup y) (kp : ∀ b o, s.heap.get? b = some o → h₁.get? b = some o) :
    Inv (capCx P w K mg base (ps ++ ys) A outer s H E (PySem.W.envX q sc s.heap.objs.size f (.ref c') cl)) [] (vs.map some ++ ws.map some) H { s with heap := h₁, toks := tk } := by
  have cellK : ∀ {c : Addr} {v : Option Value}, s.heap.IsCell c v → h₁.IsCell c v := fun {c v} ⟨o, ho, hd⟩ => ⟨o, kp _ _ ho, hd⟩
  have noA : ∀ b : Addr, b ∉ ([] : List Addr) := fun b z => absurd z (by simp)
  refine ⟨⟨e0.mod, S.kind, rfl, rfl, Nat.le_refl _, C.inj, fun y hy => ?_, fun y c z _ => (nomatch (show false = true from z)), fun _ => hd, Around.frames_deeper e0.frames, .inr ⟨rfl, rfl⟩, fun b z => absurd z (noA b), e0.bs, e0.bsz, fun b _ _ => noA b,
      fun b z => absurd z (noA b), e0.funs, e0.frf⟩,
    rfl, e0.bare, Un.kept kp, ⟨_, hns, fun i y v e1 e2 e3 => ?_⟩, fun y c e => ?_, e0.hok.fresh (Nat.le_refl _), fun y c e => (C.cell y c e).2, fun q hq => absurd (show q ∈ ([] : List (Addr × Obj)) ++ [] from hq) (by simp), e0.hok.kept kp, ?_⟩
  · have hy : sc.names.lookup y = some .cell ∨ sc.names.lookup y = some .free := hy
    rcases hy with hy | hy
    · exact absurd rfl (S.nocell _ (PySem.mem_of_lookup hy))
    · exact C.has y hy
  · have e1 : (ps ++ ys)[i]? = some y := e1
    by_cases hi : i < ps.length
    · rw [List.getElem?_append_left hi] at e1
      rw [List.getElem?_append_left (by simpa [hl] using hi), List.getElem?_map] at e2
      cases ev : vs[i]? with
      | none => rw [ev] at e2; cases e2
      | some v' =>
        rw [ev] at e2
        cases e2
        obtain ⟨u, hu, rv⟩ := r.get ev
        exact ⟨u, rv, .inl ⟨S.par y (List.mem_of_getElem? e1), zip_look (List.nodup_append.mp S.nd).1 e1 hu⟩⟩
    · rw [List.getElem?_append_right (by omega)] at e1
      rw [List.getElem?_append_right (by simp [hl]; omega), List.getElem?_map, List.length_map, hl] at e2
      cases ev : ws[i - ps.length]? with
      | none => rw [ev] at e2; cases e2
      | some v' =>
        rw [ev] at e2
        cases e2
        obtain ⟨c, u, h1, h2, h3⟩ := C.val _ y _ e1 ev
        exact ⟨u, h2, .inr ⟨.inr (S.cap y (List.mem_of_getElem? e1)), c, h1, cellK h3⟩⟩
  · obtain ⟨v, z⟩ := (C.cell y c e).1
    exact ⟨v, cellK z⟩
  · show _ = (ps ++ ys).length
    rw [List.length_append, List.length_append, List.length_map, List.length_map, hl, C.len]
end
/-- the n-th lambda keeps its reading, behind its parameters what it captures -/
structure FLC (P : Program) (w : World) (K : PySem.W.Frag) (mg : Str → Option Value) (base : Heap) (k n np : Nat) (q : Str) (ys : List Str) (F : List D → Hs → R D) : Prop where
  ex : ∃ (par : Arguments) (bd : Expr) (sc : Scope) (ps : List Str) (m : M D), lamTab n = some (par, bd, sc) ∧ CapS sc ps ys ∧ ps.length = np ∧ F = mkE (np + ys.length) 0 m ∧
    (∀ (s : Shared) (us : List Value) (pm cv ctv : Value) (cl : List (Str × Addr)), us.length = np → BindsTo s (PySem.W.kla_fn "<lambda>" q par bd sc cl pm cv ctv) ⟨us, []⟩ (ps.zip us)) ∧
    ∀ (L f c' : Addr) (cl : List (Str × Addr)) (A : Around) (outer : List Env) (s : Shared) (H : Hp) (E : XK), Room k (A.deeper (PySem.W.envX q sc L f (.ref c') cl)) → DE (capCx P w K mg base (ps ++ ys) A outer s H E (PySem.W.envX q sc L f (.ref c') cl)) (fun cls d _ H => E cls d H) bd m
section
variable {P : Program} {w : World} {K : PySem.W.Frag} {mg : Str → Option Value} {base : Heap}
theorem FLC.run {k n np : Nat} {q : Str} {ys : List Str} {F : List D → Hs → R D} (G : FLC P w K mg base k n np q ys F) {A : Around} {outer : List Env} {s : Shared} {H : Hp} {us : List Value} {vs ws : List V} {Q : VK} {E : XK} {f c' : Addr} {par : Arguments} {bd : Expr} {sc : Scope} {cl : List (Str × Addr)} {pm ctv : Value} (hr : Room (k + 1) A) (e0 : Env0 P w K mg base A outer s H)
    (hn : lamTab n = some (par, bd, sc)) (of1 : s.heap.get? f = some (PySem.W.kla_obj "<lambda>" q par bd sc cl pm c' ctv)) (hC : H c' = some (LamX.CodeO c' q)) (C : CapC cl sc ys ws s.heap H) (r : Vals vs us) (hl : vs.length = np) {as : List Addr} {ds : List D} {h : Hs} (rr : RDs K H as ds (vs ++ ws)) (hr2 : HeapR K H as h) (p : PostC K mg as H (F ds h) Q E) :
    codeAny (model P w) A (.call (.ref f) ⟨us, []⟩) (CR (L2.CX P w) outer P w H s Q E) s := by
  obtain ⟨par', bd', sc', ps, m, hn', S, hp, rfl, hb, hbody⟩ := G.ex
  rw [hn] at hn'
  cases hn'
  obtain ⟨⟨oc, xs, t, hoc, hdc, hvc⟩, _, _⟩ := (show ObjOk P w H s.heap c' (LamX.CodeO c' q) from e0.hok c' _ hC)
  have lim : s.heap.NoLimit := e0.mod.nolimit.keeps fun b o e => (e0.bs b o e).1
  have hus : us.length = np := by rw [← r.length]; exact hl
  have hkind : ∀ y ∈ ps.zip us, sc.names.lookup y.1 = some .local := fun ⟨z, v⟩ hy => S.par z (List.of_mem_zip hy).1
  refine PySem.W.kla_callFunE hr.depth of1 rfl S.co S.gen rfl ⟨c', oc, xs, t, rfl, hoc, hdc, hvc⟩ ?_
  refine hb s us pm (.ref c') ctv cl hus _ _ _ _ ?_
  refine wpAny_newFunctionEnv S.nocell hkind (fun h₁ hns hsb => ?_) S.kind
  have kp : ∀ b o, s.heap.get? b = some o → h₁.get? b = some o := fun b o e => hsb.extBut b o (Nat.ne_of_lt (Heap.lt_size e)) (Heap.get?_push_of_some _ e)
  refine ⟨lim.keeps kp, ?_⟩
  show codeAny _ _ (.expr bd (PySem.W.envX q sc s.heap.objs.size f (.ref c') cl)) _ _
  have I := cap_start (E := E) (q := q) (f := f) (c' := c') (tk := s.toks + (ps.zip us).length) S C e0 hr.hd (hl.trans hp.symm) r hns kp
  refine PySem.W.kla_codeExpr ?_
  have e1 : ds.length = np + ys.length := by rw [rr.length, List.length_append, hl, C.len]
  unfold mkE at p
  rw [if_pos e1] at p
  have st : StR K H as (ds.map some ++ List.replicate 0 none) h (vs.map some ++ ws.map some) := by
    refine ⟨?_, hr2⟩
    rw [List.replicate_zero, List.append_nil, ← List.map_append]
    exact EvR.start rr
  refine wpAny_mono ((hbody _ f c' cl A outer s H E (hr.deeper _)).run [] _ _ H Q I ⟨as, _, h, st, PostC.toE p⟩) (fun v s' ⟨y, H', J, rv, z⟩ => ⟨y, H', J.os, J.bare, J.base, J.hok, rv, z⟩) fun e s' z => z
end
end DL

set_option Elab.async false
set_option linter.all false
set_option maxRecDepth 100000
set_option maxHeartbeats 4000000
namespace DL
open PySem PySem.Spec PyProof.Rows L2 LamX

/-! ### the cells of a def, as a lambda within it meets them -/
structure CellsAt (X : Cx) (σ : L2.St) (h : Heap) (H : Hp) : Prop where
  inj : ∀ x y c, X.env.cells.lookup x = some c → X.env.cells.lookup y = some c → x = y
  has : ∀ y, (X.env.scope.names.lookup y = some .cell ∨ X.env.scope.names.lookup y = some .free) → ∃ c, X.env.cells.lookup y = some c
  cell : ∀ y c, X.env.cells.lookup y = some c → (∃ v, h.IsCell c v) ∧ H c = none
  val : ∀ (i : Nat) (y : Str) (v : V), X.N[i]? = some y → σ[i]? = some (some v) → (X.env.scope.names.lookup y = some .cell ∨ X.env.scope.names.lookup y = some .free) → ∃ c u, X.env.cells.lookup y = some c ∧ RelV v u ∧ h.IsCell c (some u)
theorem CellsAt.of {X : Cx} {pins : List (Addr × Obj)} {σ : L2.St} {H : Hp} {s : Shared} (I : Inv X pins σ H s) : CellsAt X σ s.heap H := by
  refine ⟨I.ok.inj, fun y e => I.ok.has y e, fun y c e => ⟨I.cell y c e, I.freeC y c e⟩, fun i y v e1 e2 e3 => ?_⟩
  obtain ⟨m, _, hl⟩ := I.loc
  obtain ⟨u, r, z⟩ := hl i y v e1 e2 (e3.elim (fun k => .inr (.inl k)) fun k => .inr (.inr k))
  rcases z with ⟨k, _⟩ | ⟨_, c, e, z⟩
  · have k : X.env.scope.names.lookup y = some .local := k
    rcases e3 with k2 | k2 <;> rw [k2] at k <;> cases k
  · exact ⟨c, u, e, r, z⟩
theorem CellsAt.un {X : Cx} {σ : L2.St} {h h' : Heap} {H H' : Hp} {fs : List Addr} (C : CellsAt X σ h H) (u : Un fs [] H H' h h') : CellsAt X σ h' H' := by
  have key : ∀ {c : Addr} {v : Option Value}, H c = none → h.IsCell c v → h'.IsCell c v := fun {c v} n ⟨o, ho, hd⟩ => by
    obtain ⟨sl, q⟩ := u.any ho n (by simp)
    exact ⟨_, q, hd⟩
  refine ⟨C.inj, C.has, fun y c e => ?_, fun i y v e1 e2 e3 => ?_⟩
  · obtain ⟨⟨v, z⟩, n⟩ := C.cell y c e
    obtain ⟨o, ho, _⟩ := id z
    exact ⟨⟨v, key n z⟩, u.free c o ho n (by simp)⟩
  · obtain ⟨c, w, e, r, z⟩ := C.val i y v e1 e2 e3
    exact ⟨c, w, e, r, key (C.cell y c e).2 z⟩
/-- what a lambda captures of them -/
theorem CellsAt.cap {X : Cx} {σ : L2.St} {h : Heap} {H : Hp} (C : CellsAt X σ h H) {sc : Scope} {ys : List Str} {js : List Nat} {ws : List V} (hcap : ∀ y ∈ sc.names, y.2 = .free → X.env.scope.names.lookup y.1 = some .cell ∨ X.env.scope.names.lookup y.1 = some .free)
    (hys : ∀ y ∈ ys, sc.names.lookup y = some .free) (hj : ys.length = js.length) (hl : ys.length = ws.length) (hN : ∀ (i : Nat) (y : Str) (j : Nat), ys[i]? = some y → js[i]? = some j → X.N[j]? = some y) (hv : ∀ (i j : Nat) (v : V), js[i]? = some j → ws[i]? = some v → σ[j]? = some (some v)) :
    CapC (cloFrom X.env.cells sc.names []) sc ys ws h H := by
  have hhas : ∀ y ∈ sc.names, y.2 = .free → ∃ c, X.env.cells.lookup y.1 = some c := fun y hy e => C.has _ (hcap y hy e)
  have cm : ∀ {y c}, (cloFrom X.env.cells sc.names []).lookup y = some c → X.env.cells.lookup y = some c := fun {y c} e => by
    rcases cloFrom_mem (PySem.mem_of_lookup e) with hm | ⟨h1, h2⟩
    · cases hm
    · obtain ⟨c1, hc⟩ := hhas _ h1 rfl
      have hc : X.env.cells.lookup y = some c1 := hc
      have e2 : c = c1 := by
        rw [h2, hc] <;> rfl
      rw [e2]
      exact hc
  have look : ∀ {y}, sc.names.lookup y = some .free → ∃ c, (cloFrom X.env.cells sc.names []).lookup y = some c := fun {y} hl => by
    have hy : (y, NameKind.free) ∈ sc.names := PySem.mem_of_lookup hl
    exact mem_lookup (cloFrom_has (cells := X.env.cells) (acc := []) hy)
  refine ⟨fun x y c e1 e2 => C.inj x y c (cm e1) (cm e2), fun y e => look e, fun y c e => C.cell y c (cm e), hl, fun i y v e1 e2 => ?_⟩
  have hi : i < js.length := by rw [← hj]; exact (List.getElem?_eq_some_iff.mp e1).1
  have ej : js[i]? = some js[i] := List.getElem?_eq_getElem hi
  have hf := hys y (List.mem_of_getElem? e1)
  obtain ⟨c, u, e, r, z⟩ := C.val _ y v (hN i y _ e1 ej) (hv i _ v ej e2) (hcap _ (PySem.mem_of_lookup hf) rfl)
  obtain ⟨c2, h2⟩ := look hf
  have := cm h2
  rw [e] at this
  cases this
  exact ⟨c, u, h2, r, z⟩

/-! ### x(lambda: e), the lambda's body told of the cells -/
section
variable {X : Cx} {pins : List (Addr × Obj)} {σ : L2.St} {H : Hp} {s : Shared}
theorem pe_actC {CXg : CXT} {Eg : XK} {Ng : List Str} {qg : Str} {sg : Scope} {g f c' : Addr} {cdg pm ctv : Value} {par : Arguments} {bd : Expr} {sc : Scope} {k i : Nat} {a : Str} {pn : List (Addr × Obj)} {xe : Value → Shared → Prop} {W : WX} {E : XK} {tb : TE} {p1 p2 : Pos}
    (I : Inv X pins σ H s) (L : LamS X.env.scope sc) (hf : s.heap.get? f = some (PySem.W.kla_obj "<lambda>" (X.env.qual ++ "<lambda>") par bd sc (cloFrom X.env.cells sc.names []) pm c' ctv)) (hfn : H f = none) (hfr : f ∉ frs X.stack)
    (hb : bindArgs (PySem.W.kla_fn "<lambda>" (X.env.qual ++ "<lambda>") par bd sc (cloFrom X.env.cells sc.names []) pm (.ref c') ctv) ⟨[], []⟩ = pure [])
    (tk : Takes ((cxOf CXg X.prog X.w X.K X.mg X.base Ng qg sg g cdg X.A X.stack s H Eg).tr pn xe) W) (hW : ∀ cls d σ' H', E cls d H' → W cls d σ' H') (hr : Room (k + 1) (X.A.deeper (envOfC qg sg s.heap.objs.size g cdg)))
    (body : ∀ (A : Around) (outer : List Env) (s : Shared) (H : Hp), CellsAt X σ s.heap H → Room k (A.deeper (lamEnv X sc s.heap.objs.size f c')) → PE (lamCx X A outer s H E sc f c') bd (fun σ' H' Q => σ' = σ ∧ tb σ' H' Q))
    (hN : Ng[i]? = some a) (hv : Vis sg a) (hd : (a == ("__debug__" : Str)) = false := by decide) (hcd : (a == ("__classdict__" : Str)) = false := by decide) :
    PE ((cxOf CXg X.prog X.w X.K X.mg X.base Ng qg sg g cdg X.A X.stack s H Eg).tr pn xe) (.Call (.Name a p1) [] [] p2)
      (fun σZ HZ Q => σZ[i]? = some (some (.ref f)) ∧ HZ c' = some (CodeO c' (X.env.qual ++ "<lambda>")) ∧ tb σ HZ Q) := by
  refine ⟨fun pinsZ sZ σZ HZ Q IZ ⟨hs, hc, ht⟩ => ?_⟩
  have named := (pe_var (X := (cxOf CXg X.prog X.w X.K X.mg X.base Ng qg sg g cdg X.A X.stack s H Eg).tr pn xe) (pos := p1) (i := i) hN hv hd hcd).run pinsZ sZ σZ HZ (fun v H1 => v = .ref f ∧ H1 = HZ) IZ ⟨.ref f, hs, rfl, rfl⟩
  refine wpAny_Call_Name_kw (thn named fun u s1 ⟨v, H1, I1, r1, ev, eH⟩ => ?_)
  subst ev
  rw [eH] at I1
  obtain rfl : u = Value.ref f := r1
  have fo : s1.heap.get? f = some (PySem.W.kla_obj "<lambda>" (X.env.qual ++ "<lambda>") par bd sc (cloFrom X.env.cells sc.names []) pm c' ctv) := I1.base.keep f _ hf hfn hfr (fun z => nomatch (show f ∈ ([] : List Addr) from z))
  refine PySem.W.callWith_F0 ⟨_, _, _, _, fo⟩ ?_
  have uu : Un (frs X.stack) [] H HZ s.heap s1.heap := I1.base
  obtain ⟨⟨oc, xs, t, hoc, hdc, hvc⟩, _, _⟩ := I1.hok c' _ hc
  have ran : codeAny (model X.prog X.w) (X.A.deeper (envOfC qg sg s.heap.objs.size g cdg)) (.call (.ref f) ⟨[], []⟩) (CR (L2.CX X.prog X.w) (envOfC qg sg s.heap.objs.size g cdg :: X.stack) X.prog X.w HZ s1 Q E) s1 := by
    refine PySem.W.kla_callFunE hr.depth fo rfl L.co L.gen rfl ⟨c', oc, xs, t, rfl, hoc, hdc, hvc⟩ ?_
    rw [hb]
    refine wpAny_pure (wpAny_newFunctionEnv (fun y hy => (L.own y hy).2) (fun y hy => absurd hy (by simp)) (fun h₁ hns hsb => ⟨I1.nolimit.fresh _ hsb, ?_⟩) L.kind)
    show codeAny _ _ (.expr bd (lamEnv X sc s1.heap.objs.size f c')) _ _
    have keep : ∀ b o, s1.heap.get? b = some o → h₁.get? b = some o := fun b o e => hsb.extBut b o (Nat.ne_of_lt (Heap.lt_size e)) (Heap.get?_push_of_some _ e)
    have J : Inv (lamCx X (X.A.deeper (envOfC qg sg s.heap.objs.size g cdg)) (envOfC qg sg s.heap.objs.size g cdg :: X.stack) s1 HZ E sc f c') [] σ HZ { s1 with heap := h₁, toks := s1.toks + ([] : List (Str × Value)).length } := lam_start2 I L I1.env0 hr.hd uu hns keep
    have run := (body _ _ s1 HZ ((CellsAt.of I).un uu) (hr.deeper _)).run [] _ _ HZ Q J ⟨rfl, ht⟩
    exact PySem.W.kla_codeExpr (wpAny_mono run (fun v s' ⟨y, H', J', rv, q⟩ => ⟨y, H', J'.os, J'.bare, J'.base, J'.hok, rv, q⟩) fun e s' q => q)
  have pass : Passes (L2.CX X.prog X.w) ((cxOf CXg X.prog X.w X.K X.mg X.base Ng qg sg g cdg X.A X.stack s H Eg).tr pn xe) E := passes_call tk hW
  refine wpAny_call (codeAny_mono ran fun r s' hq => ?_)
  match r, hq with
  | .error e, hq => exact pass pinsZ σZ HZ s1 e s' I1 hq
  | .ok (.ret u), hq => exact I1.after hq
  | .ok .next, hq => exact hq.elim
  | .ok .brk, hq => exact hq.elim
  | .ok .cont, hq => exact hq.elim
end
section
variable {X : Cx}
theorem pe_lamcallC {T : List (Addr × Str)} {TT : (XK → Hp → VK → Prop) → Hp → VK → Prop} {x a : Str} {g c P : Addr} {k : Nat} {pg : Arguments} {bg : List Stmt} {sg : Scope} {dV kV doc pm cdv ct oc : Value} {an od : Option Addr} {osl : Array (Option Value)} {Ng : List Str}
    {par : Arguments} {bd : Expr} {sc : Scope} {t : XK → TE} {p lpos pos : Pos} (hg : Gl X x) (hm : X.mg x = some (.ref g)) (hk : PySem.W.keepIn X.K (.ref g) = true)
    (lk : X.K.lookup g = some ⟨oc, od, .func (PySem.W.fnOf x x pg bg sg dV kV doc pm an cdv ct), osl⟩) (hcg : PySem.W.codeIn X.K cdv x = true) (hbd : L2.Binds X.K (PySem.W.fnOf x x pg bg sg dV kV doc pm an cdv ct) [a] []) (Sg : FnScope Ng [a] sg) (hNg : Ng[0]? = some a) (hva : Vis sg a)
    (hG : GivesTo X Ng x sg g cdv bg a (X.env.qual ++ "<lambda>") TT)
    (TB : TabB X.base X.mg c P) (hcode : X.env.code = .ref c) (hmT : (P, X.env.qual ++ "<lambda>") ∈ T) (hu : ∀ p ∈ T, p.1 = P → p.2 = X.env.qual ++ "<lambda>") (hr : Room (k + 2) X.A) (L : LamS X.env.scope sc) (hdef : defaultsOf par X.env = ([], []))
    (hbind : ∀ (q : Str) (cl : List (Str × Addr)) (pm cv ctv : Value), bindArgs (PySem.W.kla_fn "<lambda>" q par bd sc cl pm cv ctv) ⟨[], []⟩ = pure [])
    (body : ∀ (σ0 : L2.St) (A : Around) (outer : List Env) (s : Shared) (H : Hp) (E : XK) (f c' : Addr), CellsAt X σ0 s.heap H → Room k (A.deeper (lamEnv X sc s.heap.objs.size f c')) → PE (lamCx X A outer s H E sc f c') bd (fun σ H Q => σ = σ0 ∧ t E σ H Q))
    (hdb : (x == ("__debug__" : Str)) = false := by decide) (hd : (a == ("__debug__" : Str)) = false := by decide) (hcd : (a == ("__classdict__" : Str)) = false := by decide) :
    PE X (.Call (.Name x p) [.Lambda par bd sc lpos] [] pos) (tLam T TT t) := by
  refine ⟨fun pins s σ H Q I ⟨hT, h⟩ => ?_⟩
  refine wpAny_Call_Name_kw (ld_glob I hg hm ?_ hdb)
  refine PySem.W.callWith_K (h₀ := X.base) I.ok.mod.kin hk ?_ (by rfl) (by rfl)
  show wpAny _ _ (spliced ((false, eval (.Lambda par bd sc lpos) X.env) :: backTo pos (starEach [] X.env))) _ _ s
  refine Calls.spliced_cons (lam_make2 I TB hcode hmT hu hT hdef (L.has I.ok) fun f c' pm' ctv H1 s' I1 eN T1 hf hfn hfr hco => Calls.spliced_nil ⟨I1.kIn, ?_⟩)
  have ran : codeAny (model X.prog X.w) X.A (.call (.ref g) ⟨[.ref f], []⟩) (CR C8.CX0 X.stack X.prog X.w H1 s' Q C8.E0) s' := by
    refine run_ofS (N := Ng) (ps := [a]) (us := [.ref f]) (vs := [.ref f]) lk hcg Sg hr I1.env0 (hbd s' [.ref f] I1.kIn rfl) (.cons rfl .nil) rfl fun hr' => ?_
    have act : ∀ (W : WX) (pn : List (Addr × Obj)) (xe : Value → Shared → Prop) (E : XK) (p1 p2 : Pos), Takes ((cxOf C8.CX0 X.prog X.w X.K X.mg X.base Ng x sg g cdv X.A X.stack s' H1 C8.E0).tr pn xe) W → (∀ cls d σ' H', E cls d H' → W cls d σ' H') →
        PE ((cxOf C8.CX0 X.prog X.w X.K X.mg X.base Ng x sg g cdv X.A X.stack s' H1 C8.E0).tr pn xe) (.Call (.Name a p1) [] [] p2) (fun σZ HZ Q => σZ[0]? = some (some (.ref f)) ∧ HZ c' = some (CodeO c' (X.env.qual ++ "<lambda>")) ∧ t E σ HZ Q) := fun W pn xe E p1 p2 tk hW =>
      pe_actC (i := 0) I1 L hf hfn hfr (hbind _ _ _ _ _) tk hW hr' (fun A outer s2 H2 C hr2 => body σ A outer s2 H2 E f c' C hr2) hNg hva hd hcd
    obtain ⟨t', ht', hq'⟩ := hG f c' s' H1 Q (fun E H' Q' => t E σ H' Q') act hco (h H1 eN T1)
    exact ⟨t', ht'.nox, hq'⟩
  refine wpAny_call (codeAny_mono ran fun r s2 hq => ?_)
  match r, hq with
  | .error e, hq => exact (show False from hq).elim
  | .ok (.ret u), hq => exact I1.after hq
  | .ok .next, hq => exact hq.elim
  | .ok .brk, hq => exact hq.elim
  | .ok .cont, hq => exact hq.elim
end
end DL

set_option Elab.async false
set_option linter.all false
set_option maxRecDepth 100000
set_option maxHeartbeats 4000000
namespace DL
open PySem PySem.Spec PyProof.Rows L2 LamX

/-! ### readings under an assertion that stays -/
def teG (K : PySem.W.Frag) (mg : Str → Option Value) (W : WX) (G : List Addr → Hp → Prop) (m : M D) : TE := fun σ H Q => ∃ as ds h, StR K H as ds h σ ∧ G as H ∧ PostE K mg W as σ H (m ds h) Q
def tsG (K : PySem.W.Frag) (mg : Str → Option Value) (W : WX) (G : List Addr → Hp → Prop) (m : SM) : TS := fun D σ H => ∃ as ds h, StR K H as ds h σ ∧ G as H ∧ PostS K mg W as H (m ds h) D
abbrev DSG (X : Cx) (W : WX) (G : List Addr → Hp → Prop) (st : Stmt) (m : SM) : Prop := PS X st (tsG X.K X.mg W G m)
abbrev DSGs (X : Cx) (W : WX) (G : List Addr → Hp → Prop) (sts : List Stmt) (m : SM) : Prop := PSs X sts (tsG X.K X.mg W G m)
section
variable {X : Cx} {W : WX} {G : List Addr → Hp → Prop} {st : Stmt} {sts : List Stmt} {m m1 m2 : SM}
theorem dsg_of (h : DS X W st m) : DSG X W G st m := PS.imp h fun D σ H ⟨as, ds, h, s, _, p⟩ => ⟨as, ds, h, s, p⟩
theorem dsgs_one (h : DSG X W G st m) : DSGs X W G [st] m := pss_one h
theorem dsgs_cons (hG : Stays G) (h1 : DSG X W G st m1) (h2 : DSGs X W G sts m2) : DSGs X W G (st :: sts) (sSeq m1 m2) := PSs.imp (pss_cons h1 h2) fun Dn σ H ⟨as, ds, h, s, g0, p⟩ => ⟨as, ds, h, s, g0, by
  unfold sSeq at p
  cases e : m1 ds h with
  | nx ds' h' => rw [e] at p; exact fun σ' H' as' g s' => ⟨as', ds', h', s', hG _ _ _ _ g g0, PostS.grow g p⟩
  | rt d h' => rw [e] at p; exact p
  | bk ds' h' => rw [e] at p; exact p
  | ct ds' h' => rw [e] at p; exact p
  | ex c q ds' h' => rw [e] at p; exact p
  | no => rw [e] at p; exact p⟩
end
/-! ### a call of what a name holds: the lambda in cell k, or a def -/
def mCallP (i k np : Nat) (F : List D → Hs → R D) (js : List Nat) (cs : List Cand) (me : M (List D)) : M D := fun ds h => match ds[i]? with
  | some (some (.loc j)) => if j = k then (match js.mapM (fun j => (ds[j]?).join) with
    | some ws => (me ds h).bind fun xs h1 => if xs.length = np then F (xs ++ ws) h1 else .no
    | none => .no) else .no
  | _ => mCallV i cs me ds h
theorem capD {K : PySem.W.Frag} {H : Hp} {as : List Addr} {ds : Ev} {σ : L2.St} (r : EvR K H as ds σ) : ∀ {js : List Nat} {ws : List D}, js.mapM (fun j => (ds[j]?).join) = some ws → ∃ vs : List V, RDs K H as ws vs ∧ js.length = vs.length ∧ ∀ (i j : Nat) (v : V), js[i]? = some j → vs[i]? = some v → σ[j]? = some (some v)
  | [], ws, e => by
    simp only [List.mapM_nil, Option.pure_def, Option.some.injEq] at e
    subst e
    exact ⟨[], .nil, rfl, fun i j v h => by simp at h⟩
  | j :: js, ws, e => by
    simp only [List.mapM_cons, Option.bind_eq_bind, Option.bind_eq_some_iff, Option.pure_def, Option.some.injEq] at e
    obtain ⟨d, e1, l, e2, rfl⟩ := e
    have e3 : ds[j]? = some (some d) := by
      cases z : ds[j]? with
      | none => rw [z] at e1; cases e1
      | some o => rw [z] at e1; cases o with
        | none => cases e1
        | some d' => cases e1; rfl
    obtain ⟨v, ev, rv⟩ := r.get e3
    obtain ⟨vs, r2, hl, hv⟩ := capD r e2
    refine ⟨v :: vs, .cons rv r2, by simp [hl], fun i j' v' h1 h2 => ?_⟩
    cases i with
    | zero =>
      simp only [List.getElem?_cons_zero, Option.some.injEq] at h1 h2
      subst h1 h2
      exact ev
    | succ i => exact hv i j' v' (by simpa using h1) (by simpa using h2)
theorem rds_app {K : PySem.W.Frag} {H : Hp} {as : List Addr} : ∀ {a b : List D} {u v : List V}, RDs K H as a u → RDs K H as b v → RDs K H as (a ++ b) (u ++ v)
  | _, _, _, _, .nil, r => r
  | _, _, _, _, .cons h t, r => .cons h (rds_app t r)
section
variable {X : Cx} {A : Around} {outer : List Env} {s0 : Shared} {H0 : Hp} {E : XK} {sc0 : Scope} {f0 c0 : Addr} {σ0 : L2.St}
theorem de_callP {W : WX} {kk n k i np : Nat} {q : Str} {ys : List Str} {js : List Nat} {F : List D → Hs → R D} {cs : List Cand} {x : Str} {e : Expr} {es : List Expr} {me : M (List D)} {pos p : Pos} {par' : Arguments} {bd' : Expr} {sc' : Scope}
    (CA : CellsAt X σ0 s0.heap H0) (hn' : lamTab n = some (par', bd', sc')) (FL : ∃ kc, kc + 1 ≤ kk ∧ FLC X.prog X.w X.K X.mg X.base kc n np q ys F) (hcs : ∀ c ∈ cs, CandOk (LamX.lamCx X A outer s0 H0 E sc0 f0 c0) kk c)
    (hcap : ∀ y ∈ sc'.names, y.2 = .free → X.env.scope.names.lookup y.1 = some .cell ∨ X.env.scope.names.lookup y.1 = some .free) (hys : ∀ y ∈ ys, sc'.names.lookup y = some .free) (hj : ys.length = js.length) (hNj : ∀ (i : Nat) (y : Str) (j : Nat), ys[i]? = some y → js[i]? = some j → X.N[j]? = some y)
    (hr : Room kk (LamX.lamCx X A outer s0 H0 E sc0 f0 c0).A) (tk : Takes (LamX.lamCx X A outer s0 H0 E sc0 f0 c0) W) (ha : DA (LamX.lamCx X A outer s0 H0 E sc0 f0 c0) W (e :: es) me) (hN : X.N[i]? = some x := by rfl)
    (hv : Vis sc0 x := by first | exact Or.inl rfl | exact Or.inr (Or.inl rfl) | exact Or.inr (Or.inr rfl))
    (hdb : (x == ("__debug__" : Str)) = false := by decide) (hcd : (x == ("__classdict__" : Str)) = false := by decide)
    (he : starEach (e :: es) (LamX.lamCx X A outer s0 H0 E sc0 f0 c0).env = (false, eval e (LamX.lamCx X A outer s0 H0 E sc0 f0 c0).env) :: starEach es (LamX.lamCx X A outer s0 H0 E sc0 f0 c0).env := by rfl) (hpl : (backTo pos (starEach es (LamX.lamCx X A outer s0 H0 E sc0 f0 c0).env)).any (·.1) = false := by rfl) :
    PE (LamX.lamCx X A outer s0 H0 E sc0 f0 c0) (.Call (.Name x p) (e :: es) [] pos) (fun σ H Q => σ = σ0 ∧ teG X.K X.mg W (LinkG X n k q) (mCallP i k np F js cs me) σ H Q) := by
  refine ⟨fun pins s σ H Q I ⟨hσ, as, ds, h, st, lk, q0⟩ => ?_⟩
  subst hσ
  unfold mCallP at q0
  split at q0
  · rename_i j ej
    by_cases hjk : j = k
    · subst hjk
      rw [if_pos rfl] at q0
      cases ew : js.mapM (fun j => (ds[j]?).join) with
      | none => rw [ew] at q0; exact q0.elim
      | some wsD =>
        rw [ew] at q0
        simp only at q0
        obtain ⟨f1, c1, par, bd, sc, pm, ctv, hn, hk, hF, hC, nC⟩ := lk
        rw [hn] at hn'
        cases hn'
        obtain ⟨kc, hkc, FLc⟩ := FL
        obtain ⟨v, ev, rv⟩ := st.env.get ej
        cases rv with
        | loc ha1 =>
          rw [hk] at ha1
          cases ha1
          obtain ⟨ws, rws, hlw, hvw⟩ := capD st.env ew
          have fnAt : ∀ {H3 : Hp} {s3 : Shared}, Inv (LamX.lamCx X A outer s0 H0 E sc0 f0 c0) pins σ H3 s3 → H3 f1 = some (.frz (PySem.W.kla_obj "<lambda>" q par' bd' sc' (cloFrom X.env.cells sc'.names []) pm c1 ctv) (.ext (ThereO f1))) → s3.heap.get? f1 = some (PySem.W.kla_obj "<lambda>" q par' bd' sc' (cloFrom X.env.cells sc'.names []) pm c1 ctv) := fun {H3 s3} J e =>
            (show ObjOk X.prog X.w H3 s3.heap f1 (.frz _ _) from J.hok f1 _ e).1
          have run := (pe_var (X := LamX.lamCx X A outer s0 H0 E sc0 f0 c0) (pos := p) hN hv hdb hcd).run pins s σ H (fun v H1 => v = .ref f1 ∧ H1 = H) I ⟨_, ev, rfl, rfl⟩
          refine wpAny_Call_Name_kw (thn run fun u s1 hx => ?_)
          obtain ⟨v, H1, I1, r1, rfl, rfl⟩ := hx
          cases r1
          have args := ha.run pos pins s1 σ H1 (fun vs H2 => (H2 f1 = some (.frz (PySem.W.kla_obj "<lambda>" q par' bd' sc' (cloFrom X.env.cells sc'.names []) pm c1 ctv) (.ext (ThereO f1))) ∧ H2 c1 = some (LamX.CodeO c1 q)) ∧ vs.length = np ∧ ∃ as1 ds1 h1, RDs X.K H2 as1 ds1 (vs ++ ws) ∧ HeapR X.K H2 as1 h1 ∧ PostC X.K X.mg as1 H2 (F ds1 h1) Q (WE W σ)) I1 ⟨as, ds, h, st, PostE.bindA q0 fun xs h1 vs H2 as1 g1 r1 hr1 p1 => by
            by_cases hn : xs.length = np
            · rw [if_pos hn] at p1
              exact ⟨⟨g1.fr _ _ hF rfl fun _ => rfl, g1.fr _ _ hC rfl fun z => absurd z nC⟩, by rw [← r1.length]; exact hn, as1, xs ++ wsD, h1, rds_app r1 (rws.grow g1), hr1, PostC.ofE p1⟩
            · rw [if_neg hn] at p1; exact p1.elim⟩
          refine PySem.W.callWith_F ⟨_, _, _, _, fnAt I1 hF⟩ (thn args fun us s2 hy => ?_) he hpl
          obtain ⟨vs, H2, I2, r2, ⟨hF2, hC2⟩, hlen, as1, ds1, h1, rr, hr2, pp⟩ := hy
          refine ⟨⟨_, _, _, _, fnAt I2 hF2⟩, ?_⟩
          show wpAny _ _ (call (.ref f1) us) _ _ _
          have un : Un (LamX.lamCx X A outer s0 H0 E sc0 f0 c0).fs [] H0 H2 s0.heap s2.heap := I2.base
          have CC := (CA.un un).cap hcap hys hj (hj.trans hlw) hNj hvw
          have ran := FLc.run (hr.mono hkc) I2.env0 hn (fnAt I2 hF2) hC2 CC r2 hlen rr hr2 pp
          refine wpAny_call (codeAny_mono ran fun r s' z => ?_)
          cases r with
          | error e => exact passAt tk σ pins H2 s2 e s' I2 z
          | ok fl =>
            cases fl with
            | ret u => exact I2.after z
            | next => exact z.elim
            | brk => exact z.elim
            | cont => exact z.elim
    · rw [if_neg hjk] at q0; exact q0.elim
  · exact (de_callV (X := LamX.lamCx X A outer s0 H0 E sc0 f0 c0) hcs hr tk ha hN hv hdb hcd he hpl).run pins s σ H Q I ⟨as, ds, h, st, q0⟩
end
end DL

set_option Elab.async false
set_option linter.all false
set_option maxRecDepth 100000
set_option maxHeartbeats 4000000
namespace DL
open PySem PySem.Spec PyProof.Rows L2 LamX

/-! ### x(lambda: e), xs.append(e), under an assertion that stays -/
section
variable {X : Cx} {W : WX} {G : List Addr → Hp → Prop}
theorem de_lamG {x y a : Str} {tf : List Str} {F : (Hs → R D) → Hs → R D} {m : M D} {k : Nat} {g : Addr} {fd : FuncData} {pg : Arguments} {bg : List Stmt} {sg : Scope} {Ng : List Str} {par : Arguments} {bd : Expr} {sc : Scope} {p lpos pos : Pos} (hS : Stays G)
    (F0 : FunD X.K x x pg bg sg [] [] g fd) (hm : X.mg x = some (.ref g)) (hb : Binds X.K fd [a] []) (Sg : FnScope Ng [a] sg) (hNg : Ng[0]? = some a) (hva : Vis sg a)
    (hG : ∀ cdg, LamX.GivesTo X Ng x sg g cdg bg a (lamQ y) (TTmet X.K X.mg F))
    (TB : LamX.TabB X.base X.mg (He.cT X.K (y, none)).1 (He.cT X.K (y, none)).2) (hcode : X.env.code = .ref (He.cT X.K (y, none)).1) (hy : y ∈ tf) (hr : Room (k + 2) X.A) (L : LamX.LamS X.env.scope sc)
    (body : ∀ (σ0 : L2.St) (A : Around) (outer : List Env) (s : Shared) (H : Hp) (E : XK) (f c' : Addr), CellsAt X σ0 s.heap H → Room k (A.deeper (LamX.lamEnv X sc s.heap.objs.size f c')) → PE (LamX.lamCx X A outer s H E sc f c') bd (fun σ H Q => σ = σ0 ∧ teG X.K X.mg (fun cls d _ H => E cls d H) G m σ H Q))
    (hdef : defaultsOf par X.env = ([], []) := by rfl) (hbind : ∀ (q : Str) (cl : List (Str × Addr)) (pm cv ctv : Value), bindArgs (PySem.W.kla_fn "<lambda>" q par bd sc cl pm cv ctv) ⟨[], []⟩ = pure [] := by intro _ _ _ _ _; rfl)
    (hq : X.env.qual ++ "<lambda>" = lamQ y := by first | rfl | kernel_rfl) (hg : Gl X x := by rfl) (hdb : (x == ("__debug__" : Str)) = false := by decide) (hd : (a == ("__debug__" : Str)) = false := by decide) (hcd : (a == ("__classdict__" : Str)) = false := by decide) :
    PE X (.Call (.Name x p) [.Lambda par bd sc lpos] [] pos) (teG X.K X.mg W G (mLamT tf F m)) := by
  obtain ⟨oc, od, dV, kV, doc, pm, an, cdv, ct, osl, rfl, lk, hcd', _, _⟩ := F0.ex
  refine PE.imp (pe_lamcallC (T := tabsT X.K tf y) (TT := TTmet X.K X.mg F) (t := fun E => teG X.K X.mg (fun cls d _ H => E cls d H) G m) hg hm F0.kp lk hcd' hb Sg hNg hva (by rw [hq]; exact hG cdv) TB hcode ?_ ?_ hr L hdef hbind body hdb hd hcd) fun σ H Q ⟨as, ds, h, s, g0, q⟩ => ?_
  · rw [hq]
    exact List.mem_filter.mpr ⟨List.mem_map.mpr ⟨y, hy, rfl⟩, by simp⟩
  · intro q hqm e
    rw [hq]
    have := (List.mem_filter.mp hqm).2
    simpa [e] using this
  · unfold mLamT at q
    by_cases ht : isTab tf h = true
    · rw [if_pos ht] at q
      refine ⟨fun p hp => ?_, fun H1 eN T1 => ?_⟩
      · obtain ⟨hp, _⟩ := List.mem_filter.mp hp
        obtain ⟨z, hz, rfl⟩ := List.mem_map.mp hp
        exact tabs_of s.heap ht hz
      · obtain ⟨g1, hr1⟩ := heap_lam s.heap ht hy eN T1
        exact ⟨as, h, m ds, hr1, fun E H2 as1 h1 Q1 g2 hr2 post => ⟨as1, ds, h1, ⟨s.env.grow (g1.trans g2), hr2⟩, hS _ _ _ _ (g1.trans g2) g0, PostC.toE post⟩, PostE.toC (PostE.grow g1 q)⟩
    · rw [if_neg ht] at q; exact q.elim
theorem app_postG (hS : Stays G) {mo ma : M D} {Dn : Ends} {σ : L2.St} {H : Hp} (q : tsG X.K X.mg W G (sApp mo ma) Dn σ H) : tDrop (tBM X.K "list" rAppend (teM X.K X.mg W mo) (tCons (teG X.K X.mg W G ma) tNil)) Dn σ H := by
  obtain ⟨as, ds, h, s, g0, q⟩ := q
  refine ⟨as, ds, h, s, ?_⟩
  unfold sApp at q
  cases eo : mo ds h with
  | ex c p h1 => rw [eo] at q; exact q.elim
  | no => rw [eo] at q; exact q.elim
  | ok x h1 =>
    rw [eo] at q
    cases x with
    | loc n =>
      simp only at q
      intro v H1 as1 g1 r1 hr1
      cases r1 with
      | @loc _ ad hat =>
        obtain ⟨c0, ec0, cr0⟩ := hr1.get hat
        cases cr0 with
        | lst hl0 _ =>
          have ei : isLstAt h1 n = true := by simp only [isLstAt, ec0]
          rw [ei] at q
          simp only [Bool.true_eq_false, if_false] at q
          refine ⟨Or.inl ⟨rfl, _, Or.inl (Or.inl hl0)⟩, as1, ds, h1, ⟨s.env.grow g1, hr1⟩, hS _ _ _ _ g1 g0, ?_⟩
          cases ea : ma ds h1 with
          | ex c p h2 => rw [ea] at q; exact fun cls dx H' as' g hr x => q σ cls dx H' as' (g1.trans g) ⟨s.env.grow (g1.trans g), hr⟩ x
          | no => rw [ea] at q; exact q.elim
          | ok y h2 =>
            rw [ea] at q
            simp only at q
            intro vy H2 as2 g2 ry hr2
            cases ep : pushAt n y h2 with
            | none => rw [ep] at q; exact q.elim
            | some h3 =>
              rw [ep] at q
              obtain ⟨accV, hh, hl, g3, hr3⟩ := pushAt_ok hr2 (pre_get g2.pre hat) ry ep
              exact ⟨ad, accV, _, rfl, rfl, hh, hl, q σ _ as2 ((g1.trans g2).trans g3) ⟨(s.env.grow (g1.trans g2)).grow g3, hr3⟩⟩
        | _ => simp only [isLstAt, ec0] at q; exact q.elim
    | _ => exact q.elim
theorem dsg_app {o e : Expr} {mo ma : M D} {pos p apos : Pos} (hS : Stays G) (ho : DE X W o mo) (ha : PE X e (teG X.K X.mg W G ma)) (hc : ∀ {to : TE} {t : TA}, PE X o to → PA X [e] t → PE X (.Call (.Attribute o "append" apos) [e] [] pos) (tBM X.K "list" rAppend to t) := by intro _ _ h1 h2; exact pe_bm PySem.F.plainAttrs_list PySem.F.slot_list_append PySem.F.type_list_append mt_append h1 h2)
    (hs : swapsWith (.Call (.Attribute o "append" apos) [e] [] pos) none p.line X.env = pure false := by rfl) (hst : starEach [e] X.env = (false, eval e X.env) :: starEach [] X.env := by rfl) : DSG X W G (.Expr (.Call (.Attribute o "append" apos) [e] [] pos) p) (sApp mo ma) :=
  PS.imp (ps_expr (hc ho (pa_cons ha pa_nil hst)) hs) fun Dn σ H q => app_postG hS q
end

/-! ### a lambda that captures names as the last of a tuple that a for loop walks -/
def teL (K : PySem.W.Frag) (G : Hs → List Addr → Hp → Prop) (m : M D) : TE := fun σ H Q => ∃ as ds h, StR K H as ds h σ ∧ (match m ds h with
  | .ok x h1 => ∀ v H' as', Grow as H as' H' → RD K H' as' x v → HeapR K H' as' h1 → G h1 as' H' → Q v H'
  | _ => False)
def taL (K : PySem.W.Frag) (G : Hs → List Addr → Hp → Prop) (m : M (List D)) : TA := fun σ H Q => ∃ as ds h, StR K H as ds h σ ∧ (match m ds h with
  | .ok x h1 => ∀ v H' as', Grow as H as' H' → RDs K H' as' x v → HeapR K H' as' h1 → G h1 as' H' → Q v H'
  | _ => False)
def mLamN (tf : List Str) (n : Nat) (q : Str) : M D := fun _ h => if isTab tf h then .ok (.loc h.length) (h ++ [.lam n 1 q]) else .no
section
variable {X : Cx} {W : WX}
abbrev LinkL (X : Cx) (n : Nat) (q : Str) : Hs → List Addr → Hp → Prop := fun h1 => LinkG X n (h1.length - 1) q
theorem pe_lamN {y : Str} {tf : List Str} {n : Nat} {par : Arguments} {bd : Expr} {sc : Scope} {lpos : Pos} (hn : lamTab n = some (par, bd, sc)) (TB : LamX.TabB X.base X.mg (He.cT X.K (y, none)).1 (He.cT X.K (y, none)).2) (hcode : X.env.code = .ref (He.cT X.K (y, none)).1) (hy : y ∈ tf)
    (hcap : ∀ z ∈ sc.names, z.2 = .free → X.env.scope.names.lookup z.1 = some .cell ∨ X.env.scope.names.lookup z.1 = some .free) (hdef : defaultsOf par X.env = ([], []) := by rfl) (hq : X.env.qual ++ "<lambda>" = lamQ y := by first | rfl | kernel_rfl) :
    PE X (.Lambda par bd sc lpos) (teL X.K (LinkL X n (lamQ y)) (mLamN tf n (lamQ y))) := by
  refine ⟨fun pins s σ H Q I ⟨as, ds, h, st, q⟩ => ?_⟩
  unfold mLamN at q
  by_cases ht : isTab tf h = true
  · rw [if_pos ht] at q
    refine lam_madeC (T := tabsT X.K tf y) I TB hcode ?_ ?_ (fun p hp => ?_) hdef (fun z hz e => I.ok.has z.1 (hcap z hz e)) fun f c' pm ctv H1 s' eN T1 nF hC I1 => ?_
    · rw [hq]
      exact List.mem_filter.mpr ⟨List.mem_map.mpr ⟨y, hy, rfl⟩, by simp⟩
    · intro p hp e
      rw [hq]
      have := (List.mem_filter.mp hp).2
      simpa [e] using this
    · obtain ⟨hp, _⟩ := List.mem_filter.mp hp
      obtain ⟨z, hz, rfl⟩ := List.mem_map.mp hp
      exact tabs_of st.heap ht hz
    · obtain ⟨g1, hr1⟩ := heap_lam st.heap ht hy eN T1
      rw [hq] at hC I1
      obtain ⟨g2, hr2⟩ := hr1.pushG nF (d := .lam n 1 (lamQ y)) (o := .frz (PySem.W.kla_obj "<lambda>" (lamQ y) par bd sc (cloFrom X.env.cells sc.names []) pm c' ctv) (.ext (ThereO f))) fun _ => .fnc upd_same
      have ek : (as ++ [f])[h.length]? = some f := by rw [← hr1.len]; simp
      have nc : c' ≠ f := fun z => by rw [z, nF] at hC; cases hC
      refine ⟨.ref f, _, I1, rfl, q (.ref f) _ _ (g1.trans g2) (.loc ek) hr2 ⟨f, c', par, bd, sc, pm, ctv, hn, ?_, upd_same, by rw [upd_ne nc]; exact hC, fun z => ?_⟩⟩
      · show (as ++ [f])[(h ++ [D.lam n 1 (lamQ y)]).length - 1]? = some f
        rw [List.length_append]
        exact ek
      · rcases List.mem_append.mp z with z | z
        · exact notin_code hr1 hC z
        · exact nc (List.mem_singleton.mp z)
  · rw [if_neg ht] at q; exact q.elim
theorem pal_one {e : Expr} {G : Hs → List Addr → Hp → Prop} {m : M D} (he : PE X e (teL X.K G m)) (hst : starEach [e] X.env = (false, eval e X.env) :: starEach [] X.env := by rfl) : PA X [e] (taL X.K G (mCons m mNil)) :=
  PA.imp (pa_cons he pa_nil hst) fun σ H Q ⟨as, ds, h, s, q⟩ => ⟨as, ds, h, s, by
    unfold mCons mNil at q
    cases e1 : m ds h with
    | ex c p h1 => rw [e1] at q; exact q.elim
    | no => rw [e1] at q; exact q.elim
    | ok x h1 =>
      rw [e1] at q
      exact fun v H' as' g r hr gg => q [v] H' as' g (.cons r .nil) hr gg⟩
theorem pal_cons {e : Expr} {es : List Expr} {G : Hs → List Addr → Hp → Prop} {m : M D} {me : M (List D)} (he : DE X W0 e m) (hes : PA X es (taL X.K G me)) (hst : starEach (e :: es) X.env = (false, eval e X.env) :: starEach es X.env := by rfl) : PA X (e :: es) (taL X.K G (mCons m me)) :=
  PA.imp (pa_cons he hes hst) fun σ H Q ⟨as, ds, h, s, q⟩ => ⟨as, ds, h, s, by
    unfold mCons at q
    cases e1 : m ds h with
    | ex c p h1 => rw [e1] at q; exact q.elim
    | no => rw [e1] at q; exact q.elim
    | ok x h1 =>
      rw [e1] at q
      simp only [R.bind] at q
      intro v H1 as1 g r hr
      refine ⟨as1, ds, h1, ⟨s.env.grow g, hr⟩, ?_⟩
      cases e2 : me ds h1 with
      | ex c p h2 => rw [e2] at q; exact q.elim
      | no => rw [e2] at q; exact q.elim
      | ok xs h2 =>
        rw [e2] at q
        exact fun vs H2 as2 g2 r2 hr2 gg => q (v :: vs) H2 as2 (g.trans g2) (.cons (r.grow g2) r2) hr2 gg⟩
theorem pel_tup {es : List Expr} {x1 : Nat} {pos : Pos} {G : Hs → List Addr → Hp → Prop} {me : M (List D)} (hS : ∀ h, Stays (G h)) (h : PA X es (taL X.K G me)) : PE X (.Tuple es x1 pos) (teL X.K G (mTup me)) :=
  PE.imp (pe_tup h) fun σ H Q ⟨as, ds, h, s, q⟩ => ⟨as, ds, h, s, by
    unfold mTup at q
    cases e1 : me ds h with
    | ex c p h1 => rw [e1] at q; exact q.elim
    | no => rw [e1] at q; exact q.elim
    | ok xs h1 =>
      rw [e1] at q
      simp only [R.bind] at q
      by_cases hc : xs.length ≤ 16777216
      · rw [if_pos hc] at q
        intro vs H1 as1 g r hr gg
        refine ⟨by rw [sizeLine_eq, ← r.length]; exact hc, fun p hp => ?_⟩
        have sm := same_upd (o := .tup vs) hp
        exact q (.ref p) _ as1 (g.trans (.of_same sm)) (.val (.tup (SqT.of upd_same) ((r.rvs).same sm))) (hr.same sm) (hS _ _ _ _ _ (.of_same sm) gg)
      · rw [if_neg hc] at q; exact q.elim⟩
/-- for x in (.., lambda): body; the lambda's cell is forgotten behind it -/
def finL (k : Nat) (r : SR) : SR := match r with
  | .nx ds2 h2 => keepS true k ds2 h2 fun ds3 h3 => .nx ds3 h3
  | _ => .no
def sForL (me : M (List D)) (t : Tg) (mbd : Nat → SM) : SM := fun ds h => match mTup me ds h with
  | .ok (.tup xs) h1 => if h1.length = h.length + 1 then finL h.length (forGo false h1.length (.its xs) t (mbd h.length) xs.length 0 ds h1) else .no
  | _ => .no
theorem forL_post {n : Nat} {q : Str} {me : M (List D)} {t : Tg} {mbd : Nat → SM} {Dn : Ends} {σ : L2.St} {H : Hp} (q0 : tsM X.K X.mg W (sForL me t mbd) Dn σ H) :
    tFor (iTup X.K (teL X.K (LinkL X n q) (mTup me))) (gOf X.K t) (fun D σ H => ∃ k, tsG X.K X.mg W (LinkG X n k q) (mbd k) D σ H) Dn σ H := by
  obtain ⟨as, ds, h, s, q0⟩ := q0
  refine ⟨as, ds, h, s, ?_⟩
  unfold sForL at q0
  cases es : mTup me ds h with
  | ex c p h1 => rw [es] at q0; exact q0.elim
  | no => rw [es] at q0; exact q0.elim
  | ok x h1 =>
    rw [es] at q0
    cases x with
    | tup xs =>
      simp only at q0
      by_cases hl : h1.length = h.length + 1
      · rw [if_pos hl] at q0
        intro v H1 as1 g r hr gg
        cases r with
        | tup hT rs =>
          refine ⟨_, rfl, ⟨_, hT⟩, ?_⟩
          have wk := walkD_tup (as := as1) hT rs
          have hk : h1.length - 1 = h.length := by omega
          have gg : LinkG X n h.length q as1 H1 := by rw [← hk]; exact gg
          have hlen : as.length = h.length := s.heap.len
          refine ⟨fun i m σ' H' => m + i = xs.length ∧ ∃ ds' hh as', Grow as1 H1 as' H' ∧ StR X.K H' as' ds' hh σ' ∧ PostS X.K X.mg W as H (finL h.length (forGo false h1.length (.its xs) t (mbd h.length) m i ds' hh)) Dn, ⟨xs.length, rfl, ds, h1, as1, .refl, ⟨s.env.grow g, hr⟩, q0⟩, ?_⟩
          rintro i m σ' H' ⟨hmi, ds', hh, as', g3, s3, q3⟩
          cases m with
          | zero =>
            refine .inl ?_
            have hi' : i = xs.length := by omega
            subst hi'
            refine ⟨wk.stop hh H' _ g3 s3.heap rfl, ?_⟩
            have q3 : PostS X.K X.mg W as H (keepS true h.length ds' hh fun ds3 h3 => .nx ds3 h3) Dn := q3
            rw [← hlen] at q3
            obtain ⟨d4, h4, as4, g4, s4, q4⟩ := keep_ok (g.trans g3) s3 q3
            exact q4 σ' H' as4 g4 s4
          | succ m =>
            refine .inr ?_
            cases eb : (srcAt (.its xs) hh i).bind fun x => asgT t x ds' with
            | none => simp only [forGo, eb, finL] at q3; exact q3.elim
            | some ds1 =>
              obtain ⟨x, ex, e2⟩ := Option.bind_eq_some_iff.mp eb
              obtain ⟨go, yl⟩ := wk.go i hh H' _ x g3 s3.heap ex
              refine ⟨go, _, fun σ'' H'' w => ⟨m, Nat.lt_succ_self m, w⟩, fun v H2 y => ?_⟩
              obtain ⟨sm, rv⟩ := yl v H2 y
              have gs : Grow as' H' as' H2 := .of_same sm
              refine asg_ok t (s3.env.grow gs) (.val rv) e2 fun σ2 s4 wp => ⟨h.length, as', ds1, hh, ⟨s4, s3.heap.same sm⟩, (LinkG.stays X n h.length q) _ _ _ _ (g3.trans gs) gg, ?_⟩
              simp only [forGo, eb] at q3
              cases ebd : mbd h.length ds1 hh with
              | nx ds2 h2 =>
                rw [ebd] at q3
                intro σ5 H5 as5 g5 s5
                exact ⟨by omega, ds2, h2, as5, (g3.trans gs).trans g5, s5, q3⟩
              | ct ds2 h2 =>
                rw [ebd] at q3
                intro σ5 H5 as5 g5 s5
                exact ⟨by omega, ds2, h2, as5, (g3.trans gs).trans g5, s5, q3⟩
              | bk ds2 h2 =>
                rw [ebd] at q3
                intro σ5 H5 as5 g5 s5
                have q3 : PostS X.K X.mg W as H (keepS true h.length ds2 h2 fun ds3 h3 => .nx ds3 h3) Dn := q3
                rw [← hlen] at q3
                obtain ⟨d6, h6, as6, g6, s6, q6⟩ := keep_ok (((g.trans g3).trans gs).trans g5) s5 q3
                exact q6 σ5 H5 as6 g6 s6
              | rt d h2 => rw [ebd] at q3; exact q3.elim
              | ex c p ds2 h2 => rw [ebd] at q3; exact q3.elim
              | no => rw [ebd] at q3; exact q3.elim
      · rw [if_neg hl] at q0; exact q0.elim
    | _ => exact q0.elim
theorem ds_forL {n : Nat} {q : Str} {tg : Expr} {es : List Expr} {kk : Nat} {tpos pos : Pos} {body : List Stmt} {me : M (List D)} {t : Tg} {mbd : Nat → SM} (hp : PassesOwn (model X.prog X.w) X.A X.env X.xe) (hi : PA X es (taL X.K (LinkL X n q) me)) (hg : DG X tg t) (hb : ∀ k, DSGs X W (LinkG X n k q) body (mbd k)) (hc : X.calm = true := by rfl) (hs : ∀ x, foldedSetIterable (.Tuple es kk tpos) X.env x = pure x := by intro _; rfl) :
    DS X W (.For tg (.Tuple es kk tpos) body [] pos) (sForL me t mbd) :=
  PS.imp (ps_for hp hc (pi_tup (pel_tup (fun h => LinkG.stays X n _ q) hi)) hg (tb := fun D σ H => ∃ k, tsG X.K X.mg W (LinkG X n k q) (mbd k) D σ H) ⟨fun pins s σ H D I ⟨k, z⟩ => (hb k).run pins s σ H D I z⟩ hs) fun Dn σ H q => forL_post q
end
end DL

set_option Elab.async false
set_option linter.all false
set_option maxRecDepth 100000
set_option maxHeartbeats 4000000
namespace DL
open PySem PySem.Spec PyProof.Rows L2 LamX

/-! ### joins for the printed texts -/
theorem capN {N ys : List Str} {js : List Nat} (h : (ys.zip js).all (fun p => decide (N[p.2]? = some p.1)) = true) : ∀ (i : Nat) (y : Str) (j : Nat), ys[i]? = some y → js[i]? = some j → N[j]? = some y := fun i y j e1 e2 => by
  have e : (ys.zip js)[i]? = some (y, j) := by rw [List.getElem?_zip_eq_some]; exact ⟨e1, e2⟩
  exact of_decide_eq_true (List.all_eq_true.mp h _ (List.mem_of_getElem? e))
def capB (sc0 sc : Scope) : Bool := sc.names.all fun y => !decide (y.2 = .free) || decide (sc0.names.lookup y.1 = some .cell) || decide (sc0.names.lookup y.1 = some .free)
theorem capB_ok {sc0 sc : Scope} (h : capB sc0 sc = true) : ∀ y ∈ sc.names, y.2 = .free → sc0.names.lookup y.1 = some .cell ∨ sc0.names.lookup y.1 = some .free := fun y hy e => by
  have := List.all_eq_true.mp h y hy
  simp only [Bool.or_eq_true, Bool.not_eq_true', decide_eq_true_eq, decide_eq_false_iff_not] at this
  rcases this with (z | z) | z
  · exact absurd e z
  · exact .inl z
  · exact .inr z
section
variable {P : Program} {w : World} {K : PySem.W.Frag} {mg : Str → Option Value} {base : Heap}
theorem flc_mk (n : Nat) (ps ys : List Str) (k np : Nat) {q : Str} {m : M D} {par : Arguments} {bd : Expr} {sc : Scope} (hn : lamTab n = some (par, bd, sc)) (S : CapS sc ps ys) (hnp : ps.length = np)
    (hb : ∀ (us : List Value) (pm cv ctv : Value) (cl : List (Str × Addr)), us.length = np → bindArgs (PySem.W.kla_fn "<lambda>" q par bd sc cl pm cv ctv) ⟨us, []⟩ = pure (ps.zip us))
    (hbody : ∀ (L f c' : Addr) (cl : List (Str × Addr)) (A : Around) (outer : List Env) (s : Shared) (H : Hp) (E : XK), Room k (A.deeper (PySem.W.envX q sc L f (.ref c') cl)) → DE (capCx P w K mg base (ps ++ ys) A outer s H E (PySem.W.envX q sc L f (.ref c') cl)) (fun cls d _ H => E cls d H) bd m) :
    FLC P w K mg base k n np q ys (mkE (np + ys.length) 0 m) :=
  ⟨par, bd, sc, ps, m, hn, S, hnp, rfl, fun s us pm cv ctv cl hl => .of_eq (hb us pm cv ctv cl hl), hbody⟩
end
theorem andV_tt {ma mb : M D} {ds : Ev} {h h1 h2 : Hs} (ha : ma ds h = .ok (.bl true) h1) (hb : mb ds h1 = .ok (.bl true) h2) : mAndV ma mb ds h = .ok (.bl true) h2 := by
  unfold mAndV
  rw [ha]
  exact hb
theorem ret_at {m : M D} {ds : Ev} {h h1 : Hs} {d : D} (e : m ds h = .ok d h1) : sRet m ds h = .rt d h1 := by
  unfold sRet
  rw [e]
/-! ### the end of such a loop, told in parts -/
theorem gc0 {k : Nat} : gcE k [] = [] := rfl
theorem gcN {k : Nat} {l l' : Ev} (r : gcE k l = l') : gcE k (none :: l) = none :: l' := by
  rw [← r]; rfl
theorem gcS {k : Nat} {d : D} {l l' : Ev} (h : bel k d = true) (r : gcE k l = l') : gcE k (some d :: l) = some d :: l' := by
  rw [← r]
  show (if bel k d = true then some d else none) :: gcE k l = _
  rw [if_pos h]
theorem gcL {k : Nat} {d : D} {l l' : Ev} (h : bel k d = false) (r : gcE k l = l') : gcE k (some d :: l) = none :: l' := by
  rw [← r]
  show (if bel k d = true then some d else none) :: gcE k l = _
  rw [if_neg (by rw [h]; decide)]
theorem bs0 {k : Nat} : bels k [] = true := rfl
theorem bsS {k : Nat} {d : D} {l : List D} (h : bel k d = true) (r : bels k l = true) : bels k (d :: l) = true := by
  show (bel k d && bels k l) = true
  rw [h, r]; rfl
theorem forL_at {ds ds2 ds3 : Ev} {h h1 h2 h3 : Hs} {me : M (List D)} {t : Tg} {mbd : Nat → SM} {xs : List D} (hm : mTup me ds h = .ok (.tup xs) h1) (hl : h1.length = h.length + 1) (hgo : forGo false h1.length (.its xs) t (mbd h.length) xs.length 0 ds h1 = .nx ds2 h2) (ht : h2.take h.length = h3) (hb : bels h.length h3 = true) (hk : gcE h.length ds2 = ds3) : sForL me t mbd ds h = .nx ds3 h3 := by
  simp only [sForL, hm, if_pos hl, finL, hgo, keepS, if_true, ht, hb, hk]
end DL

set_option Elab.async false
set_option linter.all false
set_option maxRecDepth 100000
set_option maxHeartbeats 4000000
namespace DL
open PySem PySem.Spec PyProof.Rows L2 LamX

/-! ### min(xs, key=lambda x: e, default=d) of a list of at most one item -/
theorem args_min_kd (a v d : Value) : argsOk "min" ⟨[a], [(Str.ofString "key", v), (Str.ofString "default", d)]⟩ := by unfold argsOk; kernel_rfl
def rMinK (K : PySem.W.Frag) (mg : Str → Option Value) (n : Nat) (q : Str) (F : List D → Hs → R D) : List V → List V → Hp → VK → Prop := fun vs zs H Q =>
  ∃ (a : Addr) (xs : List V) (f c' : Addr) (d : V), vs = [.ref a] ∧ zs = [.ref f, d] ∧ SqL K H a xs ∧ H f = some (LamF f n q c') ∧ H c' = some (LamX.CodeO c' q) ∧
    ((xs = [] ∧ Q d H) ∨ ∃ x, xs = [x] ∧ spD K mg 1 F [x] H (fun _ H' => SqL K H' a [x] ∧ Q x H') (fun _ _ _ => False))
section
variable {X : Cx}
theorem cr_minK {kc n : Nat} {q : Str} {F : List D → Hs → R D} (G : FL X.prog X.w X.K X.mg X.base kc n 1 q F) (hr : Room (kc + 2) X.A) : CallRK X (.builtin "min") [Str.ofString "key", Str.ofString "default"] (rMinK X.K X.mg n q F) := by
  intro pins s σ H vs zs us ws Q I r1 r2 h
  obtain ⟨a, xs, f, c', d, rfl, rfl, hq, hF, hC, h⟩ := h
  obtain ⟨u, rfl, ru⟩ := vals1 r1
  cases ru
  cases r2 with
  | @cons _ fv _ ws rf r2 =>
    obtain ⟨dv, rfl, rd⟩ := vals1 r2
    obtain rfl : fv = Value.ref f := rf
    obtain ⟨its, rv, pl, hz⟩ := I.list hq
    have hname : (toString "min" ++ toString ".loop" : String) = "min.loop" := by decide
    have hls := pl.isList
    obtain ⟨ol, hol, _⟩ := id hls
    have hll : a < s.heap.objs.size := Heap.lt_size hol
    have hh : X.A.handled = none := hr.hd
    show wpAny (model X.prog X.w) X.A (call (.builtin "min") [.ref a] [(Str.ofString "key", .ref f), (Str.ofString "default", dv)]) _ _ s
    refine PyProof.Rows.kmk_tree PySem.F.kind_min PySem.F.plain_min PySem.F.entry_min (args_min_kd _ _ _) ?_
    show wpAny _ X.A.in1 (Builtin.Builtins.bindParams "min" ["key", "default"] 0 ⟨[], [(Str.ofString "key", .ref f), (Str.ofString "default", dv)]⟩ >>= _) _ _ s
    refine wpAny_bind (wpAny_of_eq (show Builtin.Builtins.bindParams "min" ["key", "default"] 0 ⟨[], [(Str.ofString "key", .ref f), (Str.ofString "default", dv)]⟩ = pure [some (.ref f), some dv] from rfl) ?_)
    refine wpAny_bind (wpAny_pure ?_)
    refine wpAny_bind (wpAny_pyIter_list hls ?_)
    refine wpAny_bind (wpAny_newList ?_ (Nat.zero_le _))
    rw [hname]
    generalize hi0 : s.heap.objs.size = it at *
    generalize hA : s.heap.push { cls := .type "list_iterator", data := .fields #[.ref a, .int 0 0] } = hA0
    generalize hS0 : hA0.objs.size = S
    generalize hB : hA0.push (seqObj "list" #[] 0) = hB0
    have szA : hA0.objs.size = it + 1 := by rw [← hA, size_push', hi0]
    have eS : S = it + 1 := hS0.symm.trans szA
    have neSI : S ≠ it := by rw [eS]; exact Nat.succ_ne_self _
    have lt1 : ∀ {b : Addr}, b < s.heap.objs.size → b ≠ it ∧ b ≠ S := fun {b} hl => by
      have hl : b < it := hi0 ▸ hl
      exact ⟨Nat.ne_of_lt hl, by rw [eS]; exact Nat.ne_of_lt (Nat.lt_succ_of_lt hl)⟩
    have leI : s.heap.objs.size ≤ it := Nat.le_of_eq hi0
    have leS : s.heap.objs.size ≤ S := by rw [eS]; exact Nat.le_succ_of_le leI
    have kA : ∀ b o, s.heap.get? b = some o → hA0.get? b = some o := fun b o e => by rw [← hA]; exact Heap.get?_push_of_some _ e
    have kB : ∀ b o, hA0.get? b = some o → hB0.get? b = some o := fun b o e => by rw [← hB]; exact Heap.get?_push_of_some _ e
    have gI : hB0.get? it = some { cls := .type "list_iterator", data := .fields #[.ref a, .int 0 0] } := kB _ _ (by rw [← hA, ← hi0]; exact Heap.get?_push_size _ rfl)
    have gS : hB0.get? S = some (seqObj "list" #[] 0) := by rw [← hB, ← hS0]; exact Heap.get?_push_size _ rfl
    have hlI : a ≠ it := Nat.ne_of_lt hll
    have lB : hB0.IsList a its.toArray := by
      obtain ⟨o, ho, e1, e2, e3⟩ := id hls
      exact ⟨o, kB _ _ (kA _ _ ho), e1, e2, e3⟩
    have W := Walks.list (prog := X.prog) (w := X.w) (A := X.A.in1) hh it a hlI its.toArray
    have hsz : its.toArray.size = its.length := List.size_toArray ..
    have old : ∀ b o, s.heap.get? b = some o → b ≠ it ∧ b ≠ S := fun b o e => by
      exact lt1 (Heap.lt_size e)
    refine wpAny_pure ⟨plainId_quiet PySem.F.plain_min_loop _, ?_⟩
    refine codeAny_builtin PySem.F.entry_min_loop ?_
    rw [Around.under_plainId PySem.F.plain_min_loop _]
    show wpAny _ X.A.in1 (seqItems? (.ref S) >>= _) _ _ _
    refine wpAny_bind (wpAny_seqItems gS rfl ?_)
    show wpAny _ X.A.in1 (tryCatch (pyNext (.ref it)) _ >>= _) _ _ _
    rcases h with ⟨rfl, hQ⟩ | ⟨x, rfl, hx⟩
    · -- nothing
      cases rv
      refine wpAny_bind (wpAny_tryCatch (W.done _ _ _ ⟨⟨_, gI, rfl, rfl⟩, lB⟩ fun h' tk' hk' => ?_))
      show wpAny _ X.A.in1 (rule _ >>= _) _ _ _
      refine wpAny_bind (wpAny_rule (wpAny_pure ?_))
      exact ⟨d, H, I.kept (t' := tk') fun b o e => hk' b o (by simpa using (old b o e).1) (kB b o (kA b o e)), rd, hQ⟩
    · -- one
      obtain ⟨xv, rfl, rx⟩ := vals1 rv
      refine wpAny_bind (wpAny_tryCatch (W.item 0 _ _ _ (by simp) ⟨⟨_, gI, rfl, rfl⟩, lB⟩ fun v h' tk' hP hst' hk' => ?_))
      have hv : v = xv := by simpa using hP.symm
      subst hv
      have kN : ∀ b o, s.heap.get? b = some o → h'.get? b = some o := fun b o e => hk' b o (by simpa using (old b o e).1) (kB b o (kA b o e))
      have I1 : Inv X pins σ H { s with heap := h', toks := tk' } := I.kept (t' := tk') kN
      have gS1 : h'.get? S = some (seqObj "list" #[] 0) := hk' S _ (by simpa using neSI) gS
      obtain ⟨oI, hoI, hoc, hod⟩ := id hst'.1
      show wpAny _ X.A.in1 (tryCatch (holding [v] (call (.ref f) [v])) _ >>= _) _ _ _
      have e0 : Env0 X.prog X.w X.K X.mg X.base X.A.in1 X.stack { s with heap := h', toks := tk' } H := ⟨I1.env0.frames, I1.env0.mod, I1.env0.bs, I1.env0.bsz, I1.env0.funs, I1.env0.frf, I1.env0.hok, I1.env0.bare⟩
      have ran := G.run (A := X.A.in1) (E := fun _ _ _ => False) (Q := fun _ H' => SqL X.K H' a [x] ∧ Q x H') hr.in1 e0 hF hC (us := [v]) (vs := [x]) (.cons rx .nil) hx
      refine wpAny_bind (wpAny_tryCatch (wpAny_holding (wpAny_call (codeAny_mono ran fun r s2 hq => ?_))))
      match r, hq with
      | .error e, hq =>
        obtain ⟨_, _, _, _, _, _, _, _, _, _, _, _, z⟩ := hq
        exact z.elim
      | .ok .next, hq => exact hq.elim
      | .ok .brk, hq => exact hq.elim
      | .ok .cont, hq => exact hq.elim
      | .ok (.ret kv), hq =>
        obtain ⟨y, H2, os2, bare2, un2, hok2, ry, qx⟩ := hq
        obtain ⟨hq2, qx⟩ := qx
        have I2 : Inv X pins σ H2 s2 := I1.call' (ch := []) os2 un2 hok2 bare2 fun b hb => absurd hb (by simp)
        have nSk : S ∉ frs X.stack := fun z => (List.mem_cons.mp (I.stkSub _ z)).elim (fun e => (lt1 I.lt).2 e.symm) (I.nofs leS)
        have nIk : it ∉ frs X.stack := fun z => (List.mem_cons.mp (I.stkSub _ z)).elim (fun e => (lt1 I.lt).1 e.symm) (I.nofs leI)
        have nHS : H S = none := I.hok.fresh leS
        have nHI : H it = none := I.hok.fresh leI
        have fS : (S ∈ X.ex ∨ X.s_0.heap.objs.size ≤ S) := .inr (Nat.le_trans I.sz leS)
        have fI : (it ∈ X.ex ∨ X.s_0.heap.objs.size ≤ it) := .inr (Nat.le_trans I.sz leI)
        have cS : ∀ y c, X.env.cells.lookup y = some c → c ≠ S := fun y c e => by
          obtain ⟨w', q⟩ := I.cell y c e
          exact (lt1 q.lt).2
        have cI : ∀ y c, X.env.cells.lookup y = some c → c ≠ it := fun y c e => by
          obtain ⟨w', q⟩ := I.cell y c e
          exact (lt1 q.lt).1
        have pS : ∀ p ∈ X.pn ++ pins, p.1 ≠ S := fun p hp => (lt1 (Heap.lt_size (I.pin p hp).1)).2
        have pI : ∀ p ∈ X.pn ++ pins, p.1 ≠ it := fun p hp => (lt1 (Heap.lt_size (I.pin p hp).1)).1
        have gS2 : s2.heap.get? S = some (seqObj "list" #[] 0) := un2.keep S _ gS1 nHS nSk (by simp)
        have gI2 : s2.heap.get? it = some oI := un2.keep it _ hoI nHI nIk (by simp)
        show wpAny _ X.A.in1 (updateSeq S (fun _ => #[v, kv]) >>= _) _ _ _
        refine wpAny_bind ?_
        refine wpAny_updateSeq gS2 rfl ?_
        rw [hname]
        have sb := Heap.SameBut.update s2.heap S (Obj.mapSeq fun _ => #[v, kv])
        obtain ⟨c3, gS3⟩ : ∃ c3, (s2.heap.update S (Obj.mapSeq fun _ => #[v, kv])).get? S = some (seqObj "list" #[v, kv] c3) := ⟨_, get?_update_seq gS2 fun _ => #[v, kv]⟩
        generalize hh3 : s2.heap.update S (Obj.mapSeq fun _ => #[v, kv]) = h3 at sb gS3
        have I3 : Inv X pins σ H2 { s2 with heap := h3 } := I2.turned (it := S) (t' := s2.toks) (fun b o hb e => (sb.2 b hb).trans e) (un2.free S _ gS1 nHS (by simp)) (fun z => (lt1 I.lt).2 z.symm) fS cS pS
        refine wpAny_pure ⟨plainId_quiet PySem.F.plain_min_loop _, ?_⟩
        refine codeAny_builtin PySem.F.entry_min_loop ?_
        rw [Around.under_plainId PySem.F.plain_min_loop _]
        show wpAny _ X.A.in1 (seqItems? (.ref S) >>= _) _ _ _
        refine wpAny_bind (wpAny_seqItems gS3 rfl ?_)
        show wpAny _ X.A.in1 (tryCatch (pyNext (.ref it)) _ >>= _) _ _ _
        obtain ⟨its3, rv3, pl3, _⟩ := I3.list hq2
        obtain ⟨v3, rfl, _⟩ := vals1 rv3
        have W3 := Walks.list (prog := X.prog) (w := X.w) (A := X.A.in1) hh it a hlI [v3].toArray
        refine wpAny_bind (wpAny_tryCatch (W3.done _ _ _ ⟨⟨oI, (sb.2 it neSI.symm).trans gI2, hoc, hod⟩, pl3.isList⟩ fun h4 tk4 hk4 => ?_))
        have gS4 : h4.get? S = some (seqObj "list" #[v, kv] c3) := hk4 S _ (by simpa using neSI) gS3
        have I4 : Inv X pins σ H2 { s2 with heap := h4, toks := tk4 } := Inv.turned (s := { s2 with heap := h3 }) I3 (it := it) (t' := tk4) (fun b o hb e => hk4 b o (by simpa using hb) e) (un2.free it _ hoI nHI (by simp)) (fun z => (lt1 I.lt).1 z.symm) fI cI pI
        show wpAny _ X.A.in1 (updateSeq S (fun _ => #[]) >>= _) _ _ _
        refine wpAny_bind ?_
        refine wpAny_updateSeq gS4 rfl (wpAny_bind (wpAny_letGo (wpAny_pure ?_)))
        have sb5 := Heap.SameBut.update h4 S (Obj.mapSeq fun _ => (#[] : Array Value))
        exact ⟨x, H2, Inv.turned (s := { s2 with heap := h4, toks := tk4 }) I4 (it := S) (t' := tk4) (fun b o hb e => (sb5.2 b hb).trans e) (un2.free S _ gS1 nHS (by simp)) (fun z => (lt1 I.lt).2 z.symm) fS cS pS, rx, qx⟩
end
end DL

set_option Elab.async false
set_option linter.all false
set_option maxRecDepth 100000
set_option maxHeartbeats 4000000
namespace DL
open PySem PySem.Spec PyProof.Rows L2 LamX

/-! ### min(xs, key=lambda x: e, default=None): the mirror -/
def mMinK (tf : List Str) (F : List D → Hs → R D) (ma : M D) : M D := fun ds h => (ma ds h).bind fun x h1 => if isTab tf h1 then (match x with
  | .lst [] => .ok .non h1
  | .lst [y] => (F [y] h1).noex.bind fun _ h2 => .ok y h2
  | _ => .no) else .no
section
variable {X : Cx} {W : WX}
theorem de_minK {y : Str} {tf : List Str} {kc n : Nat} {F : List D → Hs → R D} {par : Arguments} {bd : Expr} {sc : Scope} {e : Expr} {ma : M D} {pos p lpos kp1 kp2 cp : Pos} {j : Nat} (G : FL X.prog X.w X.K X.mg X.base kc n 1 (lamQ y) F) (hr : Room (kc + 2) X.A) (hm : X.mg "min" = Option.none) (hn : lamTab n = some (par, bd, sc))
    (TB : LamX.TabB X.base X.mg (He.cT X.K (y, none)).1 (He.cT X.K (y, none)).2) (hcode : X.env.code = .ref (He.cT X.K (y, none)).1) (hy : y ∈ tf) (hfree : ∀ z ∈ sc.names, z.2 ≠ .free) (ha : DE X W e ma)
    (hdef : defaultsOf par X.env = ([], []) := by rfl) (hq : X.env.qual ++ "<lambda>" = lamQ y := by first | rfl | kernel_rfl) (hg : Gl X "min" := by rfl)
    (he : backTo pos (starEach [e] X.env) = (false, eval e X.env) :: backTo pos (starEach [] X.env) := by rfl) (hpl : (backTo pos (starEach [e] X.env)).any (·.1) = false := by rfl) (hs : starEach [e] X.env = (false, eval e X.env) :: starEach [] X.env := by rfl)
    (hall : (backToKw pos (keywordEach [⟨some "key", .Lambda par bd sc lpos, kp1⟩, ⟨some "default", .Constant .none j cp, kp2⟩] X.env)).all (·.1.isSome) = true := by rfl) (hnone : (backToKw pos (keywordEach [⟨some "key", .Lambda par bd sc lpos, kp1⟩, ⟨some "default", .Constant .none j cp, kp2⟩] X.env)).any (·.1.isNone) = false := by rfl)
    (hks : (backToKw pos (keywordEach [⟨some "key", .Lambda par bd sc lpos, kp1⟩, ⟨some "default", .Constant .none j cp, kp2⟩] X.env)).filterMap (·.1) = [Str.ofString "key", Str.ofString "default"] := by rfl) :
    DE X W (.Call (.Name "min" p) [e] [⟨some "key", .Lambda par bd sc lpos, kp1⟩, ⟨some "default", .Constant .none j cp, kp2⟩] pos) (mMinK tf F ma) :=
  PE.imp (pe_callBK (cr_minK G hr) hg hm (by first | rfl | decide +kernel) (pa_cons ha pa_nil hs) (pk_cons (de_lamV (W := W) hn TB hcode hy hfree hdef hq) (pk_cons (de_non (W := W)) pk_nil)) (by decide) (by decide) he hpl hall hnone hks) fun σ H Q ⟨as, ds, h, s, q⟩ => ⟨as, ds, h, s, PostE.bindE q fun x h1 v H1 as1 g1 r1 hr1 q1 => by
    by_cases ht : isTab tf h1 = true
    · rw [if_pos ht] at q1
      refine ⟨as1, ds, h1, ⟨s.env.grow g1, hr1⟩, ?_⟩
      unfold mLamV
      rw [if_pos ht]
      intro fv H2 as2 g2 r2 hr2
      cases r2 with
      | @lam f c' _ _ _ hF hC nF nC =>
        refine ⟨as2, ds, h1, ⟨(s.env.grow g1).grow g2, hr2⟩, ?_⟩
        intro dv H3 as3 g3 r3 hr3
        cases r3
        have g23 := g2.trans g3
        have q3 := PostE.grow g23 q1
        have r3 := r1.grow g23
        have hF3 := g3.fr _ _ hF rfl fun z => absurd z nF
        have hC3 := g3.fr _ _ hC rfl fun z => absurd z nC
        cases x with
        | lst l =>
          cases r3 with
          | @lst a vs _ hl na rs =>
            cases l with
            | nil =>
              cases rs
              exact ⟨a, [], f, c', .non, rfl, rfl, SqL.of hl, hF3, hC3, .inl ⟨rfl, q3 .non H3 as3 .refl .non hr3⟩⟩
            | cons y l =>
              cases l with
              | nil =>
                cases rs with
                | @cons _ xv _ _ rx rs =>
                  cases rs
                  refine ⟨a, [xv], f, c', .non, rfl, rfl, SqL.of hl, hF3, hC3, .inr ⟨xv, rfl, rfl, as3, [y], h1, .cons rx .nil, hr3, ?_⟩⟩
                  have q3 : PostE X.K X.mg W as3 σ H3 ((F [y] h1).noex.bind fun _ h2 => .ok y h2) Q := q3
                  cases eF : F [y] h1 with
                  | ex c p h2 => rw [eF] at q3; exact q3.elim
                  | no => rw [eF] at q3; exact q3.elim
                  | ok z h2 =>
                    rw [eF] at q3
                    exact fun v4 H4 as4 g4 r4 hr4 => ⟨SqL.of (g4.fr _ _ hl rfl fun z => absurd z na), q3 xv H4 as4 g4 (rx.grow g4) hr4⟩
              | cons _ _ => exact q3.elim
        | _ => exact q3.elim
    · rw [if_neg ht] at q1; exact q1.elim⟩
end
end DL

set_option Elab.async false
set_option linter.all false
set_option maxRecDepth 100000
set_option maxHeartbeats 4000000
namespace DL
open PySem PySem.Spec PyProof.Rows L2 LamX

/-! ### two lambdas that capture names, walked by a for loop -/
def LinkG2 (X : Cx) (n1 n2 k : Nat) (q : Str) (as : List Addr) (H : Hp) : Prop := LinkG X n1 k q as H ∧ LinkG X n2 (k + 1) q as H
theorem LinkG2.stays (X : Cx) (n1 n2 k : Nat) (q : Str) : Stays (LinkG2 X n1 n2 k q) := fun as H as' H' g h => ⟨LinkG.stays X n1 k q as H as' H' g h.1, LinkG.stays X n2 (k + 1) q as H as' H' g h.2⟩
def mCallP2 (i k np1 : Nat) (F1 : List D → Hs → R D) (js1 : List Nat) (np2 : Nat) (F2 : List D → Hs → R D) (js2 : List Nat) (cs : List Cand) (me : M (List D)) : M D := fun ds h => match ds[i]? with
  | some (some (.loc j)) => if j = k then mCallP i k np1 F1 js1 cs me ds h else mCallP i (k + 1) np2 F2 js2 cs me ds h
  | _ => mCallV i cs me ds h
theorem de_callP2 {Y X : Cx} {W : WX} {σ0 : L2.St} {i k np1 np2 n1 n2 : Nat} {q : Str} {F1 F2 : List D → Hs → R D} {js1 js2 : List Nat} {cs : List Cand} {me : M (List D)} {e : Expr}
    (h1 : PE Y e (fun σ H Q => σ = σ0 ∧ teG X.K X.mg W (LinkG X n1 k q) (mCallP i k np1 F1 js1 cs me) σ H Q)) (h2 : PE Y e (fun σ H Q => σ = σ0 ∧ teG X.K X.mg W (LinkG X n2 (k + 1) q) (mCallP i (k + 1) np2 F2 js2 cs me) σ H Q)) :
    PE Y e (fun σ H Q => σ = σ0 ∧ teG X.K X.mg W (LinkG2 X n1 n2 k q) (mCallP2 i k np1 F1 js1 np2 F2 js2 cs me) σ H Q) := by
  refine ⟨fun pins s σ H Q I ⟨hσ, as, ds, h, st, lk, q0⟩ => ?_⟩
  unfold mCallP2 at q0
  split at q0
  · rename_i j ej
    by_cases hjk : j = k
    · rw [if_pos hjk] at q0
      exact h1.run pins s σ H Q I ⟨hσ, as, ds, h, st, lk.1, q0⟩
    · rw [if_neg hjk] at q0
      exact h2.run pins s σ H Q I ⟨hσ, as, ds, h, st, lk.2, q0⟩
  · rename_i hne
    refine h1.run pins s σ H Q I ⟨hσ, as, ds, h, st, lk.1, ?_⟩
    have e : mCallP i k np1 F1 js1 cs me ds h = mCallV i cs me ds h := by
      unfold mCallP
      split
      · rename_i j ej
        exact absurd ej (hne j)
      · rfl
    rw [e]
    exact q0
section
variable {X : Cx} {W : WX}
abbrev LinkL2 (X : Cx) (n1 n2 : Nat) (q : Str) : Hs → List Addr → Hp → Prop := fun h1 => LinkG2 X n1 n2 (h1.length - 2) q
theorem pal_two {e1 e2 : Expr} {n1 n2 : Nat} {q : Str} {tf : List Str} (h1 : PE X e1 (teL X.K (LinkL X n1 q) (mLamN tf n1 q))) (h2 : PE X e2 (teL X.K (LinkL X n2 q) (mLamN tf n2 q))) (hst : starEach [e1, e2] X.env = (false, eval e1 X.env) :: starEach [e2] X.env := by rfl) (hst2 : starEach [e2] X.env = (false, eval e2 X.env) :: starEach [] X.env := by rfl) :
    PA X [e1, e2] (taL X.K (LinkL2 X n1 n2 q) (mCons (mLamN tf n1 q) (mCons (mLamN tf n2 q) mNil))) :=
  PA.imp (pa_cons h1 (pal_one h2 hst2) hst) fun σ H Q ⟨as, ds, h, s, z⟩ => ⟨as, ds, h, s, by
    have key : ∀ (n : Nat) (h : Hs), mLamN tf n q ds h = if isTab tf h then .ok (.loc h.length) (h ++ [.lam n 1 q]) else .no := fun _ _ => rfl
    unfold mCons at z
    rw [key] at z ⊢
    by_cases ht : isTab tf h = true
    · rw [if_pos ht] at z ⊢
      simp only [R.bind] at z
      intro v H1 as1 g r hr lk
      refine ⟨as1, ds, h ++ [.lam n1 1 q], ⟨s.env.grow g, hr⟩, ?_⟩
      unfold mCons
      rw [key] at z ⊢
      by_cases ht2 : isTab tf (h ++ [.lam n1 1 q]) = true
      · rw [if_pos ht2] at z ⊢
        simp only [R.bind, mNil] at z ⊢
        intro vs H2 as2 g2 r2 hr2 lk2
        refine z (v :: vs) H2 as2 (g.trans g2) (.cons (r.grow g2) r2) hr2 ⟨?_, ?_⟩
        · have := LinkG.stays X n1 _ q _ _ _ _ g2 lk
          simpa using this
        · have e : (h ++ [D.lam n1 1 q] ++ [D.lam n2 1 q]).length - 2 + 1 = (h ++ [D.lam n1 1 q] ++ [D.lam n2 1 q]).length - 1 := by simp
          rw [e]
          exact lk2
      · rw [if_neg ht2] at z; exact z.elim
    · rw [if_neg ht] at z; exact z.elim⟩
/-- for x in (lambda, lambda): body -/
def sForR (r : Nat) (me : M (List D)) (t : Tg) (mbd : Nat → SM) : SM := fun ds h => match mTup me ds h with
  | .ok (.tup xs) h1 => if h1.length = h.length + r then finL h.length (forGo false h1.length (.its xs) t (mbd h.length) xs.length 0 ds h1) else .no
  | _ => .no
theorem forR_post {r : Nat} {GL : Hs → List Addr → Hp → Prop} {Gk : Nat → List Addr → Hp → Prop} (hS : ∀ k, Stays (Gk k)) (hGG : ∀ (k : Nat) (h1 : Hs) (as : List Addr) (H : Hp), h1.length = k + r → GL h1 as H → Gk k as H) {me : M (List D)} {t : Tg} {mbd : Nat → SM} {Dn : Ends} {σ : L2.St} {H : Hp} (q0 : tsM X.K X.mg W (sForR r me t mbd) Dn σ H) :
    tFor (iTup X.K (teL X.K GL (mTup me))) (gOf X.K t) (fun D σ H => ∃ k, tsG X.K X.mg W (Gk k) (mbd k) D σ H) Dn σ H := by
  obtain ⟨as, ds, h, s, q0⟩ := q0
  refine ⟨as, ds, h, s, ?_⟩
  unfold sForR at q0
  cases es : mTup me ds h with
  | ex c p h1 => rw [es] at q0; exact q0.elim
  | no => rw [es] at q0; exact q0.elim
  | ok x h1 =>
    rw [es] at q0
    cases x with
    | tup xs =>
      simp only at q0
      by_cases hl : h1.length = h.length + r
      · rw [if_pos hl] at q0
        intro v H1 as1 g r hr gg
        cases r with
        | tup hT rs =>
          refine ⟨_, rfl, ⟨_, hT⟩, ?_⟩
          have wk := walkD_tup (as := as1) hT rs
          have gg := hGG h.length h1 as1 H1 hl gg
          have hlen : as.length = h.length := s.heap.len
          have done : ∀ {ds' : Ev} {hh : Hs} {as' : List Addr} {σ' : L2.St} {H' : Hp}, Grow as1 H1 as' H' → StR X.K H' as' ds' hh σ' → PostS X.K X.mg W as H (finL h.length (.nx ds' hh)) Dn → Dn.nx σ' H' := fun {ds' hh as' σ' H'} g3 s3 q3 => by
            have q3 : PostS X.K X.mg W as H (keepS true h.length ds' hh fun ds3 h3 => .nx ds3 h3) Dn := q3
            rw [← hlen] at q3
            obtain ⟨d4, h4, as4, g4, s4, q4⟩ := keep_ok (g.trans g3) s3 q3
            exact q4 σ' H' as4 g4 s4
          refine ⟨fun i m σ' H' => m + i = xs.length ∧ ∃ ds' hh as', Grow as1 H1 as' H' ∧ StR X.K H' as' ds' hh σ' ∧ PostS X.K X.mg W as H (finL h.length (forGo false h1.length (.its xs) t (mbd h.length) m i ds' hh)) Dn, ⟨xs.length, rfl, ds, h1, as1, .refl, ⟨s.env.grow g, hr⟩, q0⟩, ?_⟩
          rintro i m σ' H' ⟨hmi, ds', hh, as', g3, s3, q3⟩
          cases m with
          | zero =>
            have hi' : i = xs.length := by omega
            subst hi'
            exact .inl ⟨wk.stop hh H' _ g3 s3.heap rfl, done g3 s3 q3⟩
          | succ m =>
            refine .inr ?_
            cases eb : (srcAt (.its xs) hh i).bind fun x => asgT t x ds' with
            | none => simp only [forGo, eb, finL] at q3; exact q3.elim
            | some ds1 =>
              obtain ⟨x, ex, e2⟩ := Option.bind_eq_some_iff.mp eb
              obtain ⟨go, yl⟩ := wk.go i hh H' _ x g3 s3.heap ex
              refine ⟨go, _, fun σ'' H'' w => ⟨m, Nat.lt_succ_self m, w⟩, fun v H2 y => ?_⟩
              obtain ⟨sm, rv⟩ := yl v H2 y
              have gs : Grow as' H' as' H2 := .of_same sm
              refine asg_ok t (s3.env.grow gs) (.val rv) e2 fun σ2 s4 wp => ⟨h.length, as', ds1, hh, ⟨s4, s3.heap.same sm⟩, (hS h.length) _ _ _ _ (g3.trans gs) gg, ?_⟩
              simp only [forGo, eb] at q3
              cases ebd : mbd h.length ds1 hh with
              | nx ds2 h2 =>
                rw [ebd] at q3
                intro σ5 H5 as5 g5 s5
                exact ⟨by omega, ds2, h2, as5, (g3.trans gs).trans g5, s5, q3⟩
              | ct ds2 h2 =>
                rw [ebd] at q3
                intro σ5 H5 as5 g5 s5
                exact ⟨by omega, ds2, h2, as5, (g3.trans gs).trans g5, s5, q3⟩
              | bk ds2 h2 =>
                rw [ebd] at q3
                intro σ5 H5 as5 g5 s5
                exact done ((g3.trans gs).trans g5) s5 q3
              | rt d h2 => rw [ebd] at q3; exact q3.elim
              | ex c p ds2 h2 => rw [ebd] at q3; exact q3.elim
              | no => rw [ebd] at q3; exact q3.elim
      · rw [if_neg hl] at q0; exact q0.elim
    | _ => exact q0.elim
theorem ds_forL2 {n1 n2 : Nat} {q : Str} {tg : Expr} {es : List Expr} {kk : Nat} {tpos pos : Pos} {body : List Stmt} {me : M (List D)} {t : Tg} {mbd : Nat → SM} (hp : PassesOwn (model X.prog X.w) X.A X.env X.xe) (hi : PA X es (taL X.K (LinkL2 X n1 n2 q) me)) (hg : DG X tg t) (hb : ∀ k, DSGs X W (LinkG2 X n1 n2 k q) body (mbd k)) (hc : X.calm = true := by rfl) (hs : ∀ x, foldedSetIterable (.Tuple es kk tpos) X.env x = pure x := by intro _; rfl) :
    DS X W (.For tg (.Tuple es kk tpos) body [] pos) (sForR 2 me t mbd) :=
  PS.imp (ps_for hp hc (pi_tup (pel_tup (fun h => LinkG2.stays X n1 n2 _ q) hi)) hg (tb := fun D σ H => ∃ k, tsG X.K X.mg W (LinkG2 X n1 n2 k q) (mbd k) D σ H) ⟨fun pins s σ H D I ⟨k, z⟩ => (hb k).run pins s σ H D I z⟩ hs) fun Dn σ H q => forR_post (fun k => LinkG2.stays X n1 n2 k _) (fun k h1 as H e z => by
    have e2 : h1.length - 2 = k := by omega
    rw [← e2]
    exact z) q
theorem forR_at {r : Nat} {ds ds2 ds3 : Ev} {h h1 h2 h3 : Hs} {me : M (List D)} {t : Tg} {mbd : Nat → SM} {xs : List D} (hm : mTup me ds h = .ok (.tup xs) h1) (hl : h1.length = h.length + r) (hgo : forGo false h1.length (.its xs) t (mbd h.length) xs.length 0 ds h1 = .nx ds2 h2) (ht : h2.take h.length = h3) (hb : bels h.length h3 = true) (hk : gcE h.length ds2 = ds3) : sForR r me t mbd ds h = .nx ds3 h3 := by
  simp only [sForR, hm, if_pos hl, finL, hgo, keepS, if_true, ht, hb, hk]
end
end DL

set_option Elab.async false
set_option linter.all false
set_option maxRecDepth 100000
set_option maxHeartbeats 4000000
namespace DL
open PySem PySem.Spec PyProof.Rows L2 LamX

/-! ### (a, b, ..) = a list -/
def asgU (l : Tgs) : D → Ev → Option Ev
  | .lst es, ds => asgTs l es ds
  | _, _ => none
def sAsgU (l : Tgs) (ma : M D) : SM := fun ds h => match ma ds h with
  | .ok d h1 => (match asgU l d ds with
    | some ds' => .nx ds' h1
    | none => .no)
  | .ex c p h1 => .ex c p ds h1
  | .no => .no
theorem asgU_ok {K : PySem.W.Frag} {H : Hp} {as : List Addr} {l : Tgs} {ds ds' : Ev} {σ : L2.St} {d : D} {v : V} {Q : L2.St → Hp → Prop} (s : EvR K H as ds σ) (r : RD K H as d v) (e : asgU l d ds = some ds') (k : ∀ σ', EvR K H as ds' σ' → Q σ' H) : gUnl K l.len (gsOf K l) v σ H Q := by
  cases d with
  | lst es =>
    simp only [asgU] at e
    cases r with
    | lst h n rs =>
      refine ⟨_, _, rfl, SqL.of h, ?_, asgs_ok l s rs e fun σ' s' _ => k σ' s'⟩
      rw [← rs.length]
      exact asgs_len (K := K) (H := H) (as := as) l e
  | _ => simp only [asgU] at e; cases e
section
variable {X : Cx} {W : WX} {pos p : Pos} {e : Expr} {ma : M D}
theorem ds_unl {es : List Expr} {kk : Nat} {p : Pos} {l : Tgs} (ha : DE X W e ma) (hg : DGs X es l) (hc : X.calm = true := by rfl) (hn : (assignEach es X.env).length = l.len := by rfl) (hst : (assignEach es X.env).findIdx? (·.1) = none := by rfl) (hs : swapsWithSole [.Tuple es kk p] e pos.line X.env = pure false := by rfl) (hw : swappedStores [.Tuple es kk p] e X.env = pure none := by rfl) (h1 : (assignEach [.Tuple es kk p] X.env).map (·.2) = [assign (.Tuple es kk p) X.env] := by rfl) :
    DS X W (.Assign [.Tuple es kk p] e pos) (sAsgU l ma) := PS.imp (ps_asg ha (pg_unl hc hg hn hst) hs hw h1) fun Dn σ H ⟨as, ds, h, s, q⟩ => ⟨as, ds, h, s, by
  unfold sAsgU at q
  cases e : ma ds h with
  | ok d h1 =>
    rw [e] at q
    simp only at q
    cases e2 : asgU l d ds with
    | none => rw [e2] at q; exact q.elim
    | some ds' =>
      rw [e2] at q
      exact fun v H' as' g r hr => asgU_ok (s.env.grow g) r e2 fun σ' s' => q σ' H' as' g ⟨s', hr⟩
  | ex c q' h1 => rw [e] at q; exact fun cls dx H' as' g hr x => q σ cls dx H' as' g ⟨s.env.grow g, hr⟩ x
  | no => rw [e] at q; exact q⟩
end
end DL

set_option Elab.async false
set_option linter.all false
set_option maxRecDepth 100000
set_option maxHeartbeats 4000000
namespace DL
open PySem PySem.Spec PyProof.Rows L2 LamX

/-! ### x = lambda ..: .. (it captures names); a for loop under an assertion that stays -/
def sLetG (i : Nat) (ma : M D) (m : Nat → SM) : SM := fun ds h => match ma ds h with
  | .ok d h1 => m (h1.length - 1) (ds.set i (some d)) h1
  | _ => .no
theorem let_at {ds : Ev} {h h1 : Hs} {i k : Nat} {ma : M D} {m : Nat → SM} {d : D} {r : SR} (e : ma ds h = .ok d h1) (hk : h1.length - 1 = k) (hr : m k (ds.set i (some d)) h1 = r) : sLetG i ma m ds h = r := by
  unfold sLetG
  rw [e]
  simp only [hk]
  exact hr
section
variable {X : Cx} {W : WX} {pos p : Pos} {e : Expr} {ma : M D} {xs : List Stmt} {mbd : SM}
theorem dss_let {n : Nat} {q : Str} {i : Nat} {x : Str} {pos' : Pos} {m : Nat → SM} (hN : X.N.Nodup) (hi : X.N[i]? = some x) (hx : Loc X.env.scope x) (ha : PE X e (teL X.K (LinkL X n q) ma)) (hb : ∀ k, DSGs X W (LinkG X n k q) xs (m k)) (hs : swapsWith e (some (.Name x pos')) pos.line X.env = pure false := by rfl) (hf : X.fn x = true ∨ X.env.scope.names.lookup x = some .local := by first | exact .inl rfl | exact .inr rfl | assumption) :
    DSs X W (.Assign [.Name x pos'] e pos :: xs) (sLetG i ma m) :=
  PSs.imp (pss_cons (ps_set hN hi hx ha hs hf) (u := fun D σ H => ∃ k, tsG X.K X.mg W (LinkG X n k q) (m k) D σ H) ⟨fun pins s σ H D I ⟨k, z⟩ => (hb k).run pins s σ H D I z⟩) fun Dn σ H ⟨as, ds, h, s, p⟩ => ⟨as, ds, h, s, by
    unfold sLetG at p
    cases e1 : ma ds h with
    | ex c q h1 => rw [e1] at p; exact p.elim
    | no => rw [e1] at p; exact p.elim
    | ok d h1 =>
      rw [e1] at p
      exact fun v H' as' g r hr gg => ⟨h1.length - 1, as', ds.set i (some d), h1, ⟨(s.env.grow g).set (.val r) i, hr⟩, gg, PostS.grow g p⟩⟩
theorem for_postG {G : List Addr → Hp → Prop} (hG : Stays G) {gc : Bool} {ms : M Src} {t : Tg} {Dn : Ends} {σ : L2.St} {H : Hp} (q : tsG X.K X.mg W G (sForB gc ms t mbd) Dn σ H) : tFor (tiM X.K X.mg W ms) (gOf X.K t) (tsG X.K X.mg W G mbd) Dn σ H := by
  obtain ⟨as, ds, h, s, gg, q⟩ := q
  refine ⟨as, ds, h, s, ?_⟩
  unfold sForB at q
  cases es : ms ds h with
  | ex c p h1 => rw [es] at q; exact fun cls dx H' as' g hr x => q σ cls dx H' as' g ⟨s.env.grow g, hr⟩ x
  | no => rw [es] at q; exact q.elim
  | ok sr h1 =>
    rw [es] at q
    intro J H1 as1 g hr wk
    have q : PostS X.K X.mg W as H (forGo gc h1.length sr t mbd sr.len 0 ds h1) Dn := q
    have q := PostS.grow g q
    have gg := hG _ _ _ _ g gg
    have len : as1.length = h1.length := hr.len
    rw [← len] at q
    refine ⟨fun i m σ' H' => m + i = sr.len ∧ ∃ ds' hh as', Grow as1 H1 as' H' ∧ StR X.K H' as' ds' hh σ' ∧ PostS X.K X.mg W as1 H1 (forGo gc as1.length sr t mbd m i ds' hh) Dn, ⟨sr.len, rfl, ds, h1, as1, .refl, ⟨s.env.grow g, hr⟩, q⟩, ?_⟩
    rintro i m σ' H' ⟨hmi, ds', hh, as', g3, s3, q3⟩
    cases m with
    | zero =>
      refine .inl ?_
      cases ee : srcEnd sr hh with
      | false => simp only [forGo, ee] at q3; exact q3.elim
      | true =>
        have hi' : i = sr.len := by omega
        subst hi'
        simp only [forGo, ee, if_true] at q3
        exact ⟨wk.stop hh H' _ g3 s3.heap ee, q3 σ' H' as' g3 s3⟩
    | succ m =>
      refine .inr ?_
      cases eb : (srcAt sr hh i).bind fun x => asgT t x ds' with
      | none => simp only [forGo, eb] at q3; exact q3.elim
      | some ds1 =>
        obtain ⟨x, ex, e2⟩ := Option.bind_eq_some_iff.mp eb
        obtain ⟨go, yl⟩ := wk.go i hh H' _ x g3 s3.heap ex
        refine ⟨go, _, fun σ'' H'' w => ⟨m, Nat.lt_succ_self m, w⟩, fun v H2 y => ?_⟩
        obtain ⟨sm, rv⟩ := yl v H2 y
        have gs : Grow as' H' as' H2 := .of_same sm
        refine asg_ok t (s3.env.grow gs) (.val rv) e2 fun σ2 s4 wp => ⟨as', ds1, hh, ⟨s4, s3.heap.same sm⟩, hG _ _ _ _ (g3.trans gs) gg, ?_⟩
        simp only [forGo, eb] at q3
        cases ebd : mbd ds1 hh with
        | nx ds2 h2 =>
          rw [ebd] at q3
          intro σ5 H5 as5 g5 s5
          exact ⟨by omega, keep_ok ((g3.trans gs).trans g5) s5 q3⟩
        | ct ds2 h2 =>
          rw [ebd] at q3
          intro σ5 H5 as5 g5 s5
          exact ⟨by omega, keep_ok ((g3.trans gs).trans g5) s5 q3⟩
        | bk ds2 h2 => rw [ebd] at q3; exact fun σ5 H5 as5 g5 s5 => q3 σ5 H5 as5 ((g3.trans gs).trans g5) s5
        | rt d h2 => rw [ebd] at q3; exact fun v H5 as5 g5 => q3 v H5 as5 ((g3.trans gs).trans g5)
        | ex c p ds2 h2 => rw [ebd] at q3; exact fun σ5 cls dx H5 as5 g5 => q3 σ5 cls dx H5 as5 ((g3.trans gs).trans g5)
        | no => rw [ebd] at q3; exact q3.elim
theorem dsg_for {G : List Addr → Hp → Prop} (hG : Stays G) {gc : Bool} {tg iter : Expr} {body : List Stmt} {ms : M Src} {t : Tg} (hp : PassesOwn (model X.prog X.w) X.A X.env X.xe) (hi : DI X W tg iter ms) (hg : DG X tg t) (hb : DSGs X W G body mbd) (hc : X.calm = true := by rfl) (hs : ∀ x, foldedSetIterable iter X.env x = pure x := by intro _; rfl) :
    DSG X W G (.For tg iter body [] pos) (sForB gc ms t mbd) := PS.imp (ps_for hp hc hi hg hb hs) fun Dn σ H q => for_postG hG q
end
end DL

set_option Elab.async false
set_option linter.all false
set_option maxRecDepth 100000
set_option maxHeartbeats 4000000
namespace DL
open PySem PySem.Spec PyProof.Rows L2 LamX

/-! ### x.pop(), x a cell -/
def mPop (mo : M D) : M D := fun ds h => match mo ds h with
  | .ok (.loc n) h1 => (match h1[n]? with
    | some (.lst l) => (match l[l.length - 1]? with
      | some y => .ok y (h1.set n (.lst l.dropLast))
      | none => .no)
    | _ => .no)
  | _ => .no
theorem RVs.dropLast {K : PySem.W.Frag} {H : Hp} {as : List Addr} : ∀ {ds : List D} {vs : List V}, RVs K H as ds vs → RVs K H as ds.dropLast vs.dropLast
  | _, _, .nil => .nil
  | _, _, .cons h .nil => .nil
  | _, _, .cons h (.cons h2 t) => .cons h (RVs.dropLast (.cons h2 t))
section
variable {X : Cx} {W : WX} {pos p apos : Pos} {o e a : Expr} {mo ma : M D} {me : M (List D)}
theorem pop_post {σ : L2.St} {H : Hp} {Q : VK} (q : teM X.K X.mg W (mPop mo) σ H Q) : tBM0 X.K "list" rPop (teM X.K X.mg W mo) σ H Q := by
  obtain ⟨as, ds, h, s, q⟩ := q
  refine ⟨as, ds, h, s, ?_⟩
  unfold mPop at q
  cases eo : mo ds h with
  | ex c p h1 => rw [eo] at q; exact q.elim
  | no => rw [eo] at q; exact q.elim
  | ok x h1 =>
    rw [eo] at q
    cases x with
    | loc n =>
      simp only at q
      intro v H1 as1 g1 r1 hr1
      cases r1 with
      | @loc _ ad hat =>
        obtain ⟨c0, ec0, cr0⟩ := hr1.get hat
        rw [ec0] at q
        cases cr0 with
        | @lst _ xv l hl0 rl =>
          simp only at q
          cases ey : l[l.length - 1]? with
          | none => rw [ey] at q; exact q.elim
          | some y =>
            rw [ey] at q
            simp only at q
            obtain ⟨u, eu, ru⟩ := rl.get ey
            obtain ⟨g3, hr3⟩ := hr1.write hat hl0 (RVs.dropLast rl)
            refine ⟨Or.inl ⟨rfl, _, Or.inl (Or.inl hl0)⟩, ad, xv, u, rfl, rfl, hl0, ?_, q u _ as1 (g1.trans g3) (ru.grow g3) hr3⟩
            rw [← rl.length]; exact eu
        | _ => exact q.elim
    | _ => exact q.elim
theorem de_pop (ho : DE X W o mo) (hbase : attributeBase o "pop" X.env (eval o X.env) = eval o X.env := by rfl) (hline : (apos.endLine == pos.line) = true := by rfl) : DE X W (.Call (.Attribute o "pop" apos) [] [] pos) (mPop mo) :=
  PE.imp (pe_bm0 PySem.F.plainAttrs_list PySem.F.slot_list_pop PySem.F.type_list_pop mt_pop ho hbase hline) fun σ H Q q => pop_post q
end

/-! ### a range as a value: a cell -/
def tRngV (ta : TA) : TE := fun σ H Q => ta σ H fun vs H1 => ∃ n : Nat, vs = [.int (n : Nat)] ∧ ∀ a o, H1 a = none → Q (.ref a) (upd H1 a (.frz o (.rng 0 (n : Nat))))
def iRngV (tl : TE) : TI := fun σ H R => tl σ H fun x H1 => ∃ a o, ∃ n : Nat, x = .ref a ∧ H1 a = some (.frz o (.rng 0 (n : Nat))) ∧ n < 2 ^ 62 ∧ R (Itr 0 n) H1
section
variable {X : Cx} {W : WX} {pos p : Pos} {tg l a : Expr} {ma : M D} {me : M (List D)}
theorem pe_rngV {ta : TA} (hg : Gl X "range") (hm : X.mg "range" = none) (ha : PA X [a] ta) (hs : starEach [a] X.env = [(false, eval a X.env)] := by rfl) : PE X (.Call (.Name "range" p) [a] [] pos) (tRngV ta) := by
  refine ⟨fun pins s σ H Q I h => ?_⟩
  refine Call_ (ld_blt I hg hm boot_range (PyProof.Rows.callWith_type1 (thn (ha.run pos pins s σ H _ I h) fun us s1 ⟨vs, H1, I1, r1, q1⟩ => ?_) hs rfl))
  obtain ⟨n, e, q⟩ := q1
  subst e
  cases r1 with
  | cons r rr =>
    cases rr
    obtain ⟨t, rfl⟩ := r
    refine call_range_1 ?_
    exact ⟨V.ref s1.heap.objs.size, _, I1.laid (o := .frz { cls := .type "range", data := .fields #[.int 0 s1.toks, .int (n : Nat) t, .int 1 (s1.toks + 1)] } (.rng 0 (n : Nat))) (fun b o e => Heap.get?_push_of_some _ e) (Nat.le_refl _) ⟨Heap.get?_push_size _ rfl, ⟨_, _, _, Heap.get?_push_size _ rfl⟩⟩, rfl, q _ _ (I1.hok.fresh (Nat.le_refl _))⟩
theorem pi_rngV {tl : TE} (hl : PE X l tl) : PI X tg l (iRngV tl) := by
  refine ⟨fun pins s σ H R I h => ?_⟩
  refine thn (hl.run pins s σ H _ I h) fun v s1 ⟨x, H1, I1, r1, q1⟩ => ?_
  obtain ⟨ad, o, n, e, hq, hn, q⟩ := q1
  subst e
  cases r1
  obtain ⟨e0, t, u, w, ho⟩ : s1.heap.get? ad = some o ∧ ∃ t u v, s1.heap.get? ad = some { cls := .type "range", data := .fields #[.int 0 t, .int (n : Nat) u, .int 1 v] } := I1.hok ad _ hq
  refine wpAny_pyIter_range (show IsRange s1.heap ad 0 (n : Nat) 1 t u w from ho) (small_one (by omega) (by omega) (by omega) (by omega)) ?_
  refine ⟨s1.heap.objs.size, [s1.heap.objs.size], _, _, H1, rfl, I1.kept fun b o e => Heap.get?_push_of_some _ e, turn_range _ 0 n, ?_, fun b hb => ?_, q⟩
  · have e1 : (0 : Int) + ((0 : Nat) : Int) * 1 = 0 := by simp
    have e2 : ((n : Nat) : Int) - ((0 : Nat) : Int) = Builtin.Range.rangeSize 0 (n : Nat) 1 := by rw [rangeSize_one]; split <;> omega
    show IsRangeIter _ _ ((0 : Int) + ((0 : Nat) : Int) * 1) (((n : Nat) : Int) - ((0 : Nat) : Int)) 1
    rw [e1, e2]
    exact Heap.get?_push_size _ rfl
  · have e : b = s1.heap.objs.size := by simpa using hb
    subst e
    exact I1.fpOk (Nat.le_refl _) (I1.hok.fresh (Nat.le_refl _))
def mRngV (me : M (List D)) : M D := fun ds h => (me ds h).bind fun xs h1 => match xs with
  | [.int n] => if 0 ≤ n then .ok (.loc h1.length) (h1 ++ [.lam n.toNat 2 "range"]) else .no
  | _ => .no
theorem de_rngV (ha : DA X W [a] me) (hm : X.mg "range" = none) (hg : Gl X "range" := by rfl) (hs : starEach [a] X.env = [(false, eval a X.env)] := by rfl) : DE X W (.Call (.Name "range" p) [a] [] pos) (mRngV me) :=
  PE.imp (pe_rngV hg hm ha hs) fun σ H Q ⟨as, ds, h, s, q⟩ => ⟨as, ds, h, s, PostE.bindA q fun xs h1 vs H1 as1 f1 r1 hr1 p1 => by
    match xs, vs, r1 with
    | [], _, _ => exact p1.elim
    | x :: y :: z, _, _ => exact (by cases x <;> exact False.elim p1)
    | [x], [v], .cons r .nil =>
      cases x with
      | int n =>
        cases r
        simp only at p1
        by_cases hn : 0 ≤ n
        · rw [if_pos hn] at p1
          refine ⟨n.toNat, by rw [Int.toNat_of_nonneg hn], fun q o hq => ?_⟩
          obtain ⟨g2, hr2⟩ := hr1.pushG hq (d := .lam n.toNat 2 "range") (o := .frz o (.rng 0 (n.toNat : Nat))) fun _ => .rng upd_same
          have ek : (as1 ++ [q])[h1.length]? = some q := by rw [← hr1.len]; simp
          exact p1 (.ref q) _ _ g2 (.loc ek) hr2
        · rw [if_neg hn] at p1; exact p1.elim
      | _ => exact p1.elim⟩
def mSrcV (ma : M D) : M Src := fun ds h => (ma ds h).bind fun x h1 => match x with
  | .loc n => (match h1[n]? with
    | some (.lam m 2 _) => if m < 2 ^ 62 then .ok (.its (rangeL 0 m)) h1 else .no
    | _ => .no)
  | _ => .no
theorem di_rngV (ha : DE X W l ma) : DI X W tg l (mSrcV ma) :=
  PI.imp (pi_rngV ha) fun σ H Q ⟨as, ds, h, s, q⟩ => ⟨as, ds, h, s, PostI.bindE q fun x h1 v H1 as1 g r hr p => by
    cases x with
    | loc n =>
      cases r with
      | @loc _ ad hat =>
        obtain ⟨c0, ec0, cr0⟩ := hr.get hat
        simp only [ec0] at p
        cases cr0 with
        | @rng _ o m _ hh =>
          simp only at p
          by_cases hm : m < 2 ^ 62
          · rw [if_pos hm] at p
            exact ⟨_, _, _, rfl, hh, hm, p _ H1 as1 .refl hr walkD_range⟩
          · rw [if_neg hm] at p; exact p.elim
        | fnc hh => exact p.elim
        | _ => exact p.elim
    | _ => exact p.elim⟩
end
end DL

set_option Elab.async false
set_option linter.all false
set_option maxRecDepth 100000
set_option maxHeartbeats 400000
namespace DL
open PySem PySem.Spec PyProof.Rows L2 LamX

/-! ### sorted(xs, key=f), f a def, of a list of at most one item -/
section
variable {X : Cx} {pins : List (Addr × Obj)} {σ : L2.St} {H : Hp} {s : Shared} {h' : Heap}
/-- some records of ours have turned; one of them is tracked from now -/
theorem inv_track {t' : Nat} {ch : List Addr} {T : Addr} {ob : HO} (I : Inv X pins σ H s) (k : ∀ b o, b ∉ ch → s.heap.get? b = some o → h'.get? b = some o) (hf : ∀ b ∈ ch, FpOk X pins H b) (hT : T ∈ ch)
    (new : ObjOk X.prog X.w (upd H T ob) h' T ob) : Inv X pins σ (upd H T ob) { s with heap := h', toks := t' } := by
  have hn : H T = none := (hf T hT).1
  have nit : ∀ b u, H b = some u → b ∉ ch := fun b u e z => by
    have q := (hf b z).1
    rw [q] at e; cases e
  refine I.step (g' := s.gens) (d' := s.drawn) (ch := ch) (fun b hb => ⟨(hf b hb).2.2.2.1, (hf b hb).2.1, (hf b hb).2.2.2.2.1, (hf b hb).2.2.2.2.2⟩) (fun b o _ _ hc e _ => k b o hc e) (fun b o _ _ hc e _ => ⟨o.slots, k b o hc e⟩)
    (fun b o hc e n => ?_) (fun b o hc e => ⟨o, k b o hc e⟩) (fun b xs e => ?_) (fun b o u e => ?_) (fun b ps e => ⟨#[], ?_⟩) (fun m hm => ?_) (fun b u e => ?_) I.bare
  · rw [upd_ne (fun z => hc (by rw [z]; exact hT))]; exact n
  · rw [upd_ne (ne_of_none e hn)]; exact e
  · rw [upd_ne (ne_of_none e hn)]; exact e
  · rw [upd_ne (ne_of_none e hn), e]; simp
  · obtain ⟨o, es, ep, ho, r⟩ := hm
    exact ⟨o, es, ep, k _ o (fun z => (hf _ z).2.1 rfl) ho, r⟩
  · by_cases hb : b = T
    · subst hb
      rw [upd_same] at e
      cases e
      exact new
    · rw [upd_ne hb] at e
      refine (I.hok b u e).stay (fun c v hc q => k c v ?_ q) (fun c q => by rw [upd_ne (ne_of_none q hn)]; exact q) fun c xs q => by rw [upd_ne (ne_of_none q hn)]; exact q
      rcases hc with z | z
      · rw [z]; exact nit b u e
      · exact nit c _ z
end
theorem snd_zip {its : List Value} {keys : Array Value} (hl : its.length ≤ 1) (hsz : keys.size = its.length) : ((keys.zip its.toArray).map (·.2)) = its.toArray := by
  have e : keys.toList.length = its.length := by rw [Array.length_toList]; exact hsz
  have e2 : ((keys.zip its.toArray).map (·.2)).toList = its := by
    rw [Array.toList_map, ksk_zip]
    exact List.map_snd_zip (by omega)
  have e3 := congrArg List.toArray e2
  rw [Array.toArray_toList] at e3
  exact e3
def rSortK (K : PySem.W.Frag) (mg : Str → Option Value) (f : Addr) (F : List D → Hs → R D) : List V → List V → Hp → VK → Prop := fun vs zs H Q =>
  ∃ (a : Addr) (xs : List V), vs = [.ref a] ∧ zs = [.ref f] ∧ SqL K H a xs ∧
    ((xs = [] ∧ ∀ p, H p = none → Q (.ref p) (upd H p (.lst []))) ∨ ∃ x, xs = [x] ∧ spD K mg 1 F [x] H (fun _ H' => ∀ p, H' p = none → Q (.ref p) (upd H' p (.lst [x]))) (fun _ _ _ => False))
section
variable {X : Cx}
theorem cr_sortK {k : Nat} {y : Str} {F : List D → Hs → R D} (G : FD X.prog X.w X.K X.mg X.base k y 1 F) (hm : X.mg y = some (.ref (He.ga X.K y))) (hr : Room (k + 2) X.A) : CallRK X (.builtin "sorted") [Str.ofString "key"] (rSortK X.K X.mg (He.ga X.K y) F) := by
  intro pins s σ H vs zs us ws Q I r1 r2 h
  obtain ⟨a, xs, rfl, rfl, hq, h⟩ := h
  obtain ⟨u, rfl, ru⟩ := vals1 r1
  cases ru
  obtain ⟨fv, rfl, rf⟩ := vals1 r2
  obtain rfl : fv = Value.ref (He.ga X.K y) := rf
  obtain ⟨its, rv, pl, hz⟩ := I.list hq
  have hlen : its.length ≤ 1 := by
    rw [← rv.length]
    rcases h with ⟨rfl, _⟩ | ⟨x, rfl, _⟩ <;> simp
  have hL : its.length ≤ sizeLine := by rw [sizeLine_eq]; omega
  show wpAny (model X.prog X.w) X.A (call (.builtin "sorted") [.ref a] [(Str.ofString "key", .ref (He.ga X.K y))]) _ _ s
  refine PySem.W.sorted_of_sort pl.isList hL (ksk_s1 _ _) (fun _ => ksk_l1 _ _) fun E' => ?_
  rw [ksk_t1]
  generalize hDa : s.heap.objs.size + 1 = T
  have ho : (PySem.W.copyHeap s.heap its).get? T = some (seqObj "list" its.toArray 0) := by rw [← hDa]; exact PySem.W.copyHeap_at s.heap its
  generalize hh0 : PySem.W.copyHeap s.heap its = h0 at ho
  have k0 : ∀ b o, s.heap.get? b = some o → h0.get? b = some o := fun b o e => by rw [← hh0]; exact PySem.W.copyHeap_old e
  have leT : s.heap.objs.size ≤ T := by rw [← hDa]; exact Nat.le_succ _
  obtain ⟨e1, ho1⟩ : ∃ e1, (h0.update T (Obj.mapSeq fun _ => (#[] : Array Value))).get? T = some (seqObj "list" #[] e1) := ⟨_, get?_update_seq ho fun _ => #[]⟩
  have sb0 := Heap.SameBut.update h0 T (Obj.mapSeq fun _ => (#[] : Array Value))
  generalize hh1 : h0.update T (Obj.mapSeq fun _ => (#[] : Array Value)) = h1 at ho1 sb0
  generalize hh2 : h1.push (seqObj "tuple" its.toArray 0) = h2
  generalize hS : h2.objs.size = S
  generalize hh3 : h2.push (seqObj "list" #[] 0) = h3
  have hTS : T < S := by
    have q := Heap.lt_size ho1
    rw [← hS, ← hh2, size_push']
    exact Nat.lt_succ_of_lt q
  have gS3 : h3.get? S = some (seqObj "list" #[] 0) := by rw [← hh3, ← hS]; exact Heap.get?_push_size _ rfl
  have gT3 : h3.get? T = some (seqObj "list" #[] e1) := by
    rw [← hh3, ← hh2]
    exact Heap.get?_push_of_some _ (Heap.get?_push_of_some _ ho1)
  have k3 : ∀ b o, s.heap.get? b = some o → h3.get? b = some o := fun b o e => by
    rw [← hh3, ← hh2]
    refine Heap.get?_push_of_some _ (Heap.get?_push_of_some _ ((sb0.2 b ?_).trans (k0 b o e)))
    exact Nat.ne_of_lt (Nat.lt_of_lt_of_le (Heap.lt_size e) leT)
  have leS : s.heap.objs.size ≤ S := Nat.le_of_lt (Nat.lt_of_le_of_lt leT hTS)
  have I3 : Inv X pins σ H { s with heap := h3 } := I.kept k3
  have nT : H T = none := I.hok.fresh leT
  have nS : H S = none := I.hok.fresh leS
  have nkT : T ∉ frs X.stack := fun z => (List.mem_cons.mp (I.stkSub _ z)).elim (fun e => absurd I.lt (by rw [← e]; exact Nat.not_lt.mpr leT)) (I.nofs leT)
  have nkS : S ∉ frs X.stack := fun z => (List.mem_cons.mp (I.stkSub _ z)).elim (fun e => absurd I.lt (by rw [← e]; exact Nat.not_lt.mpr leS)) (I.nofs leS)
  have neTS : T ≠ S := Nat.ne_of_lt hTS
  -- the end: with what stands in the list of keys
  have tail : ∀ (keys : Array Value) (c : Nat) (H2 : Hp) (s2 : Shared) (x2 : List V), keys.size = its.length → Inv X pins σ H2 s2 → H2 T = none → H2 S = none → s2.heap.get? S = some (seqObj "list" keys c) → s2.heap.get? T = some (seqObj "list" #[] e1) → Vals xs its → (∀ p, H2 p = none → Q (.ref p) (upd H2 p (.lst xs))) →
      wpAny (model X.prog X.w) X.A.in1.in1 (ksk_end T false its.toArray e1 (.ref S) keys) (fun f s' => f = .done (.ret .none) ∧ EP X pins σ Q (.ref T) s') E' s2 := by
    intro keys c H2 s2 x2 hsz J n2T n2S gS2 gT2 rv2 q
    obtain ⟨G0, g1, g2⟩ := restrict s2.heap fun b => decide (b ≠ S ∧ b ≠ T)
    have n2 : ¬ (2 ≤ its.toArray.size) := by rw [List.size_toArray]; omega
    have hsz2 : its.toArray.size < 2 := Nat.lt_of_not_le n2
    unfold ksk_end
    try dsimp only
    rw [if_pos hsz2, if_pos hsz2]
    refine wpAny_bind (wpAny_pure ?_)
    rw [StateT.run_pure]
    refine wpAny_bind (wpAny_pure ?_)
    try dsimp only
    have hout := snd_zip (keys := keys) (by omega) hsz
    rw [if_neg (show ¬ (false = true) by decide)]
    refine PySem.W.keyH_tail (b := false) (st := SortSt.mk' general' (keys.zip its.toArray) #[] 7 none) (h₁ := G0) (out := its) (fun b o hb e => ?_) (g2 S (by simp)) gS2 gT2 neTS.symm (by rw [hsz]; exact hL) hL rfl (by rw [if_neg (show ¬ (false = true) by decide)]; exact hout) fun h' tk c' kp gT => ⟨rfl, ?_⟩
    · by_cases hbS : b = S
      · rw [hbS, g2 S (by simp)] at e; cases e
      · rw [← g1 b (by simp [hb, hbS])]; exact e
    · have fT : FpOk X pins H2 T := I.fpOk leT n2T
      have fS : FpOk X pins H2 S := I.fpOk leS n2S
      have J2 : Inv X pins σ (upd H2 T (.lst xs)) { s2 with heap := h', toks := tk } := inv_track (ch := [T, S]) J (fun b o hb e => kp b o (fun z => hb (by simp [z])) ((g1 b (by simp at hb ⊢; exact ⟨hb.2, hb.1⟩)).trans e))
        (fun b hb => by
          simp only [List.mem_cons, List.not_mem_nil, or_false] at hb
          rcases hb with rfl | rfl
          · exact fT
          · exact fS) (by simp) ⟨by rw [rv2.length]; exact hL, its, c', rv2, gT⟩
      exact ⟨.ref T, _, J2, rfl, q T n2T⟩
  show wpAny (model X.prog X.w) X.A.in1.in1 (ksk_tree T (.ref (He.ga X.K y)) false) _ E' { s with heap := h0 }
  unfold ksk_tree
  refine wpAny_bind (listItems_at ho rfl ?_)
  refine wpAny_bind (listUpdate_at ho rfl ?_ (by rw [List.size_toArray]; exact hL) (Nat.zero_le _))
  rw [hh1]
  refine wpAny_bind (seqEpoch_at ho1 rfl ?_)
  refine wpAny_bind (wpAny_newTuple ?_ (by show its.length ≤ _; exact hL))
  refine wpAny_bind (wpAny_newList ?_ (Nat.zero_le _))
  refine wpAny_holding ?_
  show wpAny (model X.prog X.w) X.A.in1.in1 (ksk_rest T (.ref (He.ga X.K y)) false its.toArray e1 (.ref (h1.push (seqObj "tuple" its.toArray 0)).objs.size)) _ E' { s with heap := (h1.push (seqObj "tuple" its.toArray 0)).push (seqObj "list" #[] 0) }
  rw [hh2, hS, hh3]
  unfold ksk_rest
  refine wpAny_bind (wpAny_rule ?_)
  rcases h with ⟨rfl, hQ⟩ | ⟨x, rfl, hx⟩
  · cases rv
    refine wpAny_bind ?_
    first
      | rw [List.forIn_toArray]
      | (rw [← Array.forIn_toList]; simp only [List.toList_toArray])
      | rw [← Array.forIn_toList]
    rw [List.forIn_nil]
    refine wpAny_pure ?_
    refine wpAny_bind (listItems_at gS3 rfl ?_)
    exact tail #[] 0 H { s with heap := h3 } [] rfl I3 nT nS gS3 gT3 .nil hQ
  · obtain ⟨xv, rfl, rx⟩ := vals1 rv
    refine wpAny_bind ?_
    first
      | rw [List.forIn_toArray]
      | (rw [← Array.forIn_toList]; simp only [List.toList_toArray])
      | rw [← Array.forIn_toList]
    rw [List.forIn_cons]
    refine wpAny_bind ?_
    obtain ⟨f, fd, ps, hmf, hkf, hb, ok⟩ := G.ex
    rw [hm] at hmf
    cases hmf
    have hl2 : [xv].length = ps.length := ok.len _ _ _ _ hx
    have ran := ok.run X.A.in1.in1 X.stack { s with heap := h3 } H ⟨[xv], []⟩ [xv] [x] _ _ hr.in1.in1 I3.env0.in1.in1 (by simpa using hb { s with heap := h3 } [xv] I3.kIn (by simpa using hl2)) (.cons rx .nil) hx
    refine wpAny_bind (wpAny_attempt (wpAny_call (codeAny_mono ran fun r s2 hq => ?_)))
    match r, hq with
    | .error e, hq =>
      obtain ⟨_, _, _, _, _, _, _, _, _, _, _, _, z⟩ := hq
      exact z.elim
    | .ok .next, hq => exact hq.elim
    | .ok .brk, hq => exact hq.elim
    | .ok .cont, hq => exact hq.elim
    | .ok (.ret kv), hq =>
      obtain ⟨yv, H2, os2, bare2, un2, hok2, ry, qx⟩ := hq
      have I2 : Inv X pins σ H2 s2 := I3.call' (ch := []) os2 un2 hok2 bare2 fun b hb => absurd hb (by simp)
      have gS2 : s2.heap.get? S = some (seqObj "list" #[] 0) := un2.keep S _ gS3 nS nkS (by simp)
      have gT2 : s2.heap.get? T = some (seqObj "list" #[] e1) := un2.keep T _ gT3 nT nkT (by simp)
      have n2S : H2 S = none := un2.free S _ gS3 nS (by simp)
      have n2T : H2 T = none := un2.free T _ gT3 nT (by simp)
      show wpAny (model X.prog X.w) X.A.in1.in1 (Builtin.List.listUpdate (.ref S) (·.push kv) >>= _) _ _ _
      obtain ⟨c3, gS4⟩ : ∃ c3, (s2.heap.update S (Obj.mapSeq (·.push kv))).get? S = some (seqObj "list" #[kv] c3) := ⟨_, get?_update_seq gS2 (·.push kv)⟩
      have sb := Heap.SameBut.update s2.heap S (Obj.mapSeq (·.push kv))
      refine wpAny_bind (listUpdate_at gS2 rfl ?_ (Nat.zero_le _) (by rw [sizeLine_eq]; show 1 ≤ _; omega))
      refine wpAny_pure ?_
      show wpAny _ _ (forIn [] PUnit.unit _) _ _ _
      rw [List.forIn_nil]
      refine wpAny_pure ?_
      refine wpAny_bind (listItems_at gS4 rfl ?_)
      have J : Inv X pins σ H2 { s2 with heap := s2.heap.update S (Obj.mapSeq (·.push kv)) } := I2.turnedL (t' := s2.toks) (ch := [S]) (fun b o hb e => (sb.2 b (by simpa using hb)).trans e) (fun b hb => by
        simp only [List.mem_cons, List.not_mem_nil, or_false] at hb
        subst hb
        exact I.fpOk leS n2S)
      exact tail #[kv] c3 H2 _ [x] rfl J n2T n2S gS4 ((sb.2 T neTS).trans gT2) (.cons rx .nil) qx
end
end DL
namespace DL
open PySem PySem.Spec PyProof.Rows L2 LamX
def mSortK (F : List D → Hs → R D) (ma : M D) : M D := fun ds h => (ma ds h).bind fun x h1 => match x with
  | .lst [] => .ok (.lst []) h1
  | .lst [y] => (F [y] h1).noex.bind fun _ h2 => .ok (.lst [y]) h2
  | _ => .no
section
variable {X : Cx} {W : WX}
theorem de_sortK {k : Nat} {y : Str} {F : List D → Hs → R D} {e : Expr} {ma : M D} {pos p np kp : Pos} (G : FD X.prog X.w X.K X.mg X.base k y 1 F) (hmy : X.mg y = some (.ref (He.ga X.K y))) (hr : Room (k + 2) X.A) (hm : X.mg "sorted" = Option.none) (ha : DE X W e ma)
    (hgy : Gl X y := by rfl) (hg : Gl X "sorted" := by rfl) (hdb : (y == ("__debug__" : Str)) = false := by decide)
    (he : backTo pos (starEach [e] X.env) = (false, eval e X.env) :: backTo pos (starEach [] X.env) := by rfl) (hpl : (backTo pos (starEach [e] X.env)).any (·.1) = false := by rfl) (hs : starEach [e] X.env = (false, eval e X.env) :: starEach [] X.env := by rfl)
    (hall : (backToKw pos (keywordEach [⟨some "key", .Name y np, kp⟩] X.env)).all (·.1.isSome) = true := by rfl) (hnone : (backToKw pos (keywordEach [⟨some "key", .Name y np, kp⟩] X.env)).any (·.1.isNone) = false := by rfl)
    (hks : (backToKw pos (keywordEach [⟨some "key", .Name y np, kp⟩] X.env)).filterMap (·.1) = [Str.ofString "key"] := by rfl) :
    DE X W (.Call (.Name "sorted" p) [e] [⟨some "key", .Name y np, kp⟩] pos) (mSortK F ma) :=
  PE.imp (pe_callBK (cr_sortK G hmy hr) hg hm (by first | rfl | decide +kernel) (pa_cons ha pa_nil hs) (pk_cons (de_gl (W := W) hmy hgy hdb) pk_nil) (by decide) (by decide) he hpl hall hnone hks) fun σ H Q ⟨as, ds, h, s, q⟩ => ⟨as, ds, h, s, PostE.bindE q fun x h1 v H1 as1 g1 r1 hr1 q1 => by
    refine ⟨as1, ds, h1, ⟨s.env.grow g1, hr1⟩, ?_⟩
    intro fv H2 as2 g2 r2 hr2
    cases r2
    have q2 := PostE.grow g2 q1
    have r2 := r1.grow g2
    cases x with
    | lst l =>
      cases r2 with
      | @lst a vs _ hl na rs =>
        cases l with
        | nil =>
          cases rs
          exact ⟨a, [], rfl, rfl, SqL.of hl, .inl ⟨rfl, fun p hp => q2 (.ref p) _ as2 (.of_same (same_upd hp)) (.lst upd_same (hr2.notin hp) .nil) (hr2.same (same_upd hp))⟩⟩
        | cons y l =>
          cases l with
          | nil =>
            cases rs with
            | @cons _ xv _ _ rx rs =>
              cases rs
              refine ⟨a, [xv], rfl, rfl, SqL.of hl, .inr ⟨xv, rfl, rfl, as2, [y], h1, .cons rx .nil, hr2, ?_⟩⟩
              have q3 : PostE X.K X.mg W as2 σ H2 ((F [y] h1).noex.bind fun _ h2 => .ok (.lst [y]) h2) Q := q2
              cases eF : F [y] h1 with
              | ex c p h2 => rw [eF] at q3; exact q3.elim
              | no => rw [eF] at q3; exact q3.elim
              | ok z h2 =>
                rw [eF] at q3
                intro v4 H4 as4 g4 r4 hr4 p hp
                have gp := Grow.of_same (as := as4) (same_upd (o := .lst [xv]) hp)
                exact q3 (.ref p) _ as4 (g4.trans gp) (.lst upd_same (hr4.notin hp) (.cons ((rx.grow g4).grow gp) .nil)) (hr4.same (same_upd hp))
          | cons _ _ => exact q2.elim
    | _ => exact q2.elim⟩
end
end DL

set_option Elab.async false
set_option linter.all false
set_option maxRecDepth 100000
set_option maxHeartbeats 4000000
/-! errors as values: made, asked for their class, their field read -/
namespace DL
open PySem PySem.Spec PySem.W PySem.Calls PyProof.Rows
section
variable {prog : Program} {w : World} {A : Around} {E : Value → Shared → Prop} {st : Shared} {K : Frag} {p C : Addr} {op : Obj} {od : Option Obj}
theorem dataDescr {n : Str} {av gv : Value} (h1 : (clsIn K C).isSome = true) (h2 : findIn K (.ref C) n = some (some av)) (h3 : specialIn K av "__get__" = some (some gv)) (h4 : takesIn K av = some true) : findObj K C od n = some (.bind gv av) := by
  obtain ⟨x, hx⟩ := Option.isSome_iff_exists.mp h1
  simp [findObj, hx, h2, h3, h4]
/-- x.__class__, x an error with or without a dict -/
theorem cls_of_exc {Q : Option Value → Shared → Prop} (T : L2.ExcC K C) (X : K.In st.heap) (I : InstAt st.heap p op C od) (done : Q (some (.ref C)) { st with toks := st.toks + 1 }) : wpAny (model prog w) A (getAttr? (.ref p) "__class__") Q E st := by
  obtain ⟨hh, gg, dd, tt, oo⟩ := st
  have isC : (clsIn K C).isSome = true := by
    obtain ⟨x, hx, _⟩ := any_some T.hd
    rw [hx]; rfl
  have ltyp := I.type (M := model prog w)
  have lga := looks_findIn (M := model prog w) X T.hg
  have lgt := looks_findIn (M := model prog w) X T.hk
  have lfi := looks_find (M := model prog w) X I (dataDescr (od := od) isC T.ha T.hn T.ht)
  have lin : Looks (model prog w) hh (isInstance (.ref p) (.type "BaseException")) true := ltyp.andThen (looks_subIn X T.hs)
  have n1 : (Value.builtin "BaseException.__getattribute__" == Value.builtin "object.__getattribute__") = false := by decide +kernel
  have n2 : (onTheHeap (Value.ref C) && Value.builtin "BaseException.__getattribute__" == Value.builtin "object.__getattribute__") = false := by rw [n1, Bool.and_false]
  have n3 : (false && onTheHeap (Value.builtin "BaseException.__getattribute__")) = false := Bool.false_and _
  unfold getAttr? getAttrBy? getAttrBy
  refine wpAny_bind (wpAny_mkText (wpAny_bind (wpAny_attempt (wpAny_holding (wpAny_bind (ltyp.at (wpAny_bind (lga.at ?_))))))))
  show wpAny _ _ (ite ((onTheHeap (Value.ref C) && Value.builtin "BaseException.__getattribute__" == Value.builtin "object.__getattribute__") = true) _ _) _ _ _
  rw [n2]
  rw [if_neg Bool.false_ne_true]
  unfold getAttrByItsOwn hookBefore
  refine wpAny_bind ?_
  rw [if_pos (by rfl : onTheHeap (Value.ref C) = true)]
  refine lgt.at (wpAny_bind (wpAny_attempt (wpAny_holding ?_)))
  unfold callGetattribute
  rw [n3]
  rw [if_neg Bool.false_ne_true]
  unfold boundAndCalled
  rw [PySem.F.excAttr_ValueError.ga.bind (.ref p)]
  refine wpAny_bind (wpAny_pure ?_)
  show wpAny _ _ (call (.builtin "BaseException.__getattribute__") [.ref p, .str "__class__" tt]) _ _ _
  refine wpAny_call (codeAny_call_builtin PySem.F.excAttr_ValueError.ga.plain PySem.F.entry_bexc_ga ?_)
  refine @check_slot (model prog w) _ _ ⟨hh, gg, dd, tt + 1, oo⟩ "BaseException.__getattribute__" "BaseException" "__getattribute__" (.ref p) [.str "__class__" tt] [] _ (by decide +kernel) (by decide +kernel) lin (PySem.F.args_bexc_ga (.ref p) (.str "__class__" tt)) ?_
  unfold Builtin.«object.__getattribute__»
  refine wpAny_bind (wpAny_of_eq (a := ((Value.ref p : Value), [Value.str "__class__" tt])) (by first | rfl | (simp only [slotArgs]; rfl)) (wpAny_bind (wpAny_pure (wpAny_bind (ltyp.at (wpAny_bind (lfi.at ?_)))))))
  show wpAny _ _ (holding [Value.builtin "object.__class__"] (call (.builtin "getset_descriptor.__get__") [.builtin "object.__class__", .ref p, .ref C]) >>= ret) _ _ _
  refine wpAny_bind (wpAny_holding (wpAny_call (class_get (s := ⟨hh, gg, dd, tt + 1, oo⟩) (ox := op) (od := od) X I T.hm (wpAny_pure ?_))))
  show wpAny _ _ (handedOut (.ref C)) _ _ _
  rw [handedOut_of (v := .ref C) rfl]
  first
    | exact wpAny_pure (wpAny_pure done)
    | exact wpAny_pure done
    | exact wpAny_pure (wpAny_bind (wpAny_pure (wpAny_pure done)))
theorem kit_exc (T : L2.ExcC K C) : KitX K (.ref p) (.ref C) (fun h => InstAt h p op C od) := by
  obtain ⟨x, hx, _⟩ := any_some T.hd
  have key : ∃ o : Obj, K.lookup C = some o ∧ ∃ c, o.data = .cls c := by
    unfold clsIn at hx
    split at hx
    · rename_i q
      exact ⟨_, q, _, rfl⟩
    · cases hx
  obtain ⟨oC, lC, cC, dC⟩ := key
  refine ⟨fun _ _ _ I => I.type, fun M h X _ A' Q' E' s' k q => ?_, fun h tp dd its n sl X htp => Bool.eq_false_iff.mpr fun z => ?_, fun X I k => cls_of_exc T X I k⟩
  · unfold isType loadHead
    obtain ⟨o1, o2, o3, o4⟩ := oC
    dsimp only at dC
    subst dC
    exact wpAny_bind (wpAny_loadPart (k _ _ (X _ _ lC)) (wpAny_pure q))
  · have e : C = tp := Value.ref.inj (beq_iff_eq.mp z)
    rw [← e, X _ _ lC] at htp
    cases htp
    cases dC
end
end DL

set_option Elab.async false
set_option linter.all false
set_option maxRecDepth 100000
set_option maxHeartbeats 4000000
/-! errors as values: the rules -/
namespace DL
open PySem PySem.Spec PyProof.Rows L2
/-- x(e), the error's instance (its class is told alone) -/
def mExi (x : Str) (ma : M D) : M D := fun ds h => (ma ds h).bind fun _ h1 => .ok (.tbl x) h1
/-- x(e).f, where x keeps what it gets as f -/
def mExf (ma : M D) : M D := fun ds h => (ma ds h).bind fun v h1 => .ok v h1
/-- isinstance(e, y), e an error's instance -/
def mIsiE (tab : Str → String → Option Bool) (y : String) (ma : M D) : M D := fun ds h => (ma ds h).bind fun v h1 => match v with
  | .tbl x => (match tab x y with
    | some b => .ok (.bl b) h1
    | none => .no)
  | _ => .no
/-- an error of the class C with its dict at dx -/
def ExF (C dx a : Addr) : HO := .ext fun h => ∃ (oe : Obj) (vs : Array Value), h.get? a = some oe ∧ Zc (.ref C) (some dx) oe ∧ oe.data = .fields vs
section
variable {X : Cx} {W : WX} {x : Str} {e : Expr} {ma : M D} {p p3 pos : Pos}
theorem de_exi (f : (He.Fa.exc x).ok X.K = true) (gC : X.mg x = some (.ref (He.ga X.K x))) (he : DE X W e ma) (hg : Gl X x := by rfl) (hdb : (x == ("__debug__" : Str)) = false := by decide)
    (hst : starEach [e] X.env = (false, eval e X.env) :: starEach [] X.env := by rfl) : DE X W (.Call (.Name x p) [e] [] pos) (mExi x ma) := by
  obtain ⟨f1, f2, f3, f4⟩ := He.exc_ok f
  exact PE.imp (pe_exc1 PySem.F.excBase_ValueError f1 gC f2 hg he hst hdb) fun σ H Q ⟨as, ds, h, s, q⟩ => ⟨as, ds, h, s, PostE.bindE q fun d h1 v H1 as1 g1 r1 hr1 q1 a ha =>
    q1 (.ref a) _ as1 (.of_same (same_upd ha)) (.exi (d := none) upd_same (fun _ ⟨oe, vs, o1, o2, o3, _⟩ => ⟨oe, vs, o1, o2, o3⟩) (hr1.notin ha) (fun _ z => nomatch z)) (hr1.same (same_upd ha))⟩
/-- raise x(e), where x keeps nothing -/
def sRaiseE (x : Str) (ma : M D) : SM := fun ds h => match ma ds h with
  | .ok _ h1 => .ex x none ds h1
  | .ex c p h1 => .ex c p ds h1
  | .no => .no
theorem ds_raiseE (tk : Takes X W) (f : (He.Fa.exc x).ok X.K = true) (gC : X.mg x = some (.ref (He.ga X.K x))) (he : DE X W e ma) (hg : Gl X x := by rfl) (hc : X.calm = true := by rfl) (hdb : (x == ("__debug__" : Str)) = false := by decide)
    (hst : starEach [e] X.env = (false, eval e X.env) :: starEach [] X.env := by rfl) : DS X W (.Raise (some (.Call (.Name x p) [e] [] p3)) none pos) (sRaiseE x ma) := by
  obtain ⟨f1, f2, f3, f4⟩ := He.exc_ok f
  exact PS.imp (ps_raise hc tk (SkE.pmk_own1 PySem.F.excBase_ValueError f1 gC f2 (raises_own f3 f4) hg he hst hdb)) fun Dn σ H ⟨as, ds, h, s, q⟩ => ⟨as, ds, h, s, by
    unfold sRaiseE at q
    cases em : ma ds h with
    | no => rw [em] at q; exact q.elim
    | ex c p h1 => rw [em] at q; exact fun cls dx H' as' g hr x => q σ cls dx H' as' g ⟨s.env.grow g, hr⟩ x
    | ok d h1 =>
      rw [em] at q
      exact fun v H1 as1 g1 r1 hr1 => q σ _ _ H1 as1 g1 ⟨s.env.grow g1, hr1⟩ ⟨gC, trivial⟩⟩
end
section
variable {X : Cx} {W : WX} {C : Addr} {x fld : Str} {e : Expr} {te : TE} {ma : M D} {p pos pos2 : Pos}
/-- C(e) as a value: the error and its dict -/
theorem pe_super (T : ExC X.prog X.K C fld) (hr : Room 1 X.A) (hg : Gl X x) (hm : X.mg x = some (.ref C)) (hs : X.mg "super" = none) (he : PE X e te) (hdb : (x == ("__debug__" : Str)) = false := by decide)
    (hst : starEach [e] X.env = (false, eval e X.env) :: starEach [] X.env := by rfl) :
    PE X (.Call (.Name x p) [e] [] pos) (fun σ H Q => te σ H fun y H1 => ∀ a dx, H1 dx = none → H1 a = none → a ≠ dx → Q (.ref a) (upd (upd H1 dx (.xd [(fld, y)])) a (ExF C dx a))) := by
  refine ⟨fun pins s σ H Q I h => ?_⟩
  refine wpAny_Call_Name_kw (ld_glob I hg hm ?_ hdb)
  refine PySem.W.callWith_K (h₀ := X.base) I.ok.mod.kin T.kC ?_ hst rfl
  rw [hst]
  refine Calls.spliced_cons (thn (he.run pins s σ H _ I h) fun u s1 ⟨y, H1, I1, r1, q⟩ => ?_)
  refine Calls.spliced_nil ⟨I1.kIn, ?_⟩
  obtain ⟨hp, g, dr, tk, os⟩ := s1
  obtain ⟨D, T'⟩ := T.ex
  obtain ⟨nm, N, qn, bs, bm, hdct, sn, sub, ab, col, dd, k0, k1, k2, k3, k5, hC, hT⟩ := PySem.W.excInit_of I1.kIn T'.ini
  obtain ⟨mb, hb1, hb2⟩ := I1.ok.mod.blt
  show wpAny _ _ (call (.ref C) [u]) _ _ _
  have keepP : ∀ b o, hp.get? b = some o → (hp.push (PySem.W.kdv_tup [u])).get? b = some o := fun b o z => Heap.get?_push_of_some _ z
  have szP : (hp.push (PySem.W.kdv_tup [u])).objs.size = hp.objs.size + 1 := Heap.size_push ..
  have newE : ((hp.push (PySem.W.kdv_tup [u])).push (PySem.HandSPX.excO C hp.objs.size)).get? (hp.objs.size + 1) = some (PySem.HandSPX.excO C hp.objs.size) := by heap_get
  have goneE : (hp.push (PySem.W.kdv_tup [u])).get? (hp.objs.size + 1) = none := by
    cases z : (hp.push (PySem.W.kdv_tup [u])).get? (hp.objs.size + 1) with
    | none => rfl
    | some o => exact absurd (Heap.lt_size z) (by rw [szP]; exact Nat.lt_irrefl _)
  refine wpAny_call (T'.FB.co hT hC (PySem.W.looks_findIn I1.kIn T'.at_) (fun self => PySem.W.bind_fn I1.kIn self T'.tyI) (by rw [sizeLine_eq]; show 1 ≤ 16777216; decide)
    (init_walk (hB := hp.push (PySem.W.kdv_tup [u])) (I1.kIn.keeps keepP) (fun b o z => Heap.get?_push_of_some _ z) (by simp only [Heap.size_push]; omega) goneE newE (Nat.le_of_eq szP)
      T'.FB T'.KF T'.SF ((I1.ok.mod.glob.keeps I1.bk).keeps keepP) ((hb1.keeps I1.bk).keeps keepP) hs ((hb2 "super" (by decide)).trans (by decide +kernel)) ((I1.ok.mod.nolimit.keeps I1.bk).keeps keepP) ((show Room 1 X.A from hr).make C [u] []).depth
      T'.lk T'.cd T'.lc T'.v2 T'.fil T'.cel T'.cls T'.mr (fun s => T'.bnd s _ u) T'.hp T'.ar T'.ny T'.ks T'.kc T'.ka T'.ky T'.nc T'.co T'.gen T'.kind T'.dy T'.int T'.ev T'.top T'.op T'.su T'.sB T'.ini T'.sa T'.ov T'.tk T'.hd fun h' tk' dx t1 k hsz hne hx hn => ?_))
  have kk : ∀ b o, hp.get? b = some o → h'.get? b = some o := fun b o z => k b o (keepP b o z)
  have hszp : hp.objs.size ≤ dx := Nat.le_trans (by rw [szP]; exact Nat.le_succ _) hsz
  obtain ⟨G, g1, g2⟩ := restrict h' fun b => decide (b ≠ hp.objs.size + 1)
  have gk : ∀ b, b ≠ hp.objs.size + 1 → G.get? b = h'.get? b := fun b hb => g1 b (decide_eq_true hb)
  have ge : G.get? (hp.objs.size + 1) = none := g2 _ (by simp)
  have kG : ∀ b o, G.get? b = some o → h'.get? b = some o := fun b o z => by
    by_cases hba : b = hp.objs.size + 1
    · rw [hba, ge] at z; cases z
    · exact (gk b hba).symm.trans z
  have I2 : Inv X pins σ (upd H1 dx (.xd [(fld, y)])) ⟨G, g, dr, tk', os⟩ := I1.laid (t' := tk') (a := dx) (h' := G) (fun b o z => (gk b (Nat.ne_of_lt (Nat.lt_of_lt_of_le (Heap.lt_size z) (Nat.le_succ _)))).trans (kk b o z)) hszp
    ⟨_, hn.at fun o z => (gk dx hne).trans z, relO_put (fs := []) r1 fun g => True.intro⟩
  have na1 : H1 (hp.objs.size + 1) = none := I1.hok.fresh (Nat.le_succ _)
  have na : (upd H1 dx (.xd [(fld, y)])) (hp.objs.size + 1) = none := by
    rw [upd_ne (Ne.symm hne)]
    exact na1
  have I3 : Inv X pins σ (upd (upd H1 dx (.xd [(fld, y)])) (hp.objs.size + 1) (ExF C dx (hp.objs.size + 1))) ⟨h', g, dr, tk', os⟩ := I2.laidN (t' := tk') kG ge na
    ⟨⟨_, _, hx, ⟨rfl, rfl⟩, rfl⟩, ⟨_, hx⟩, fun _ _ ⟨o, v, z1, z2⟩ k2 => ⟨o, v, k2 o z1, z2⟩⟩
  exact ⟨rfl, .ref (hp.objs.size + 1), _, I3, rfl, q (hp.objs.size + 1) dx (I1.hok.fresh hszp) na1 (Ne.symm hne)⟩
theorem same_upd2 {H : Hp} {a b : Addr} {o u : HO} (hb : H b = none) (ha : H a = none) (n : a ≠ b) : Same H (upd (upd H b o) a u) := fun c v e => by
  rw [upd_ne (ne_of_none e ha), upd_ne (ne_of_none e hb)]; exact e
theorem de_exiF (T : ExC X.prog X.K (He.ga X.K x) (fieldOf x)) (hr : Room 1 X.A) (hm : X.mg x = some (.ref (He.ga X.K x))) (hs : X.mg "super" = none) (he : DE X W e ma) (hg : Gl X x := by rfl) (hdb : (x == ("__debug__" : Str)) = false := by decide)
    (hst : starEach [e] X.env = (false, eval e X.env) :: starEach [] X.env := by rfl) : DE X W (.Call (.Name x p) [e] [] pos) (mExi x ma) :=
  PE.imp (pe_super T hr hg hm hs he hdb hst) fun σ H Q ⟨as, ds, h, s, q⟩ => ⟨as, ds, h, s, PostE.bindE q fun d h1 v H1 as1 g1 r1 hr1 q1 a dx hd ha n => by
    have sm := same_upd2 (o := .xd [(fieldOf x, v)]) (u := ExF (He.ga X.K x) dx a) hd ha n
    refine q1 (.ref a) _ as1 (.of_same sm) (.exi (d := some dx) upd_same (fun _ ⟨oe, vs, o1, o2, o3⟩ => ⟨oe, vs, o1, o2, o3⟩) (hr1.notin ha) fun dx' z => ?_) (hr1.same sm)
    cases z
    exact ⟨hr1.notin hd, _, by rw [upd_ne (Ne.symm n), upd_same]⟩⟩
/-- the field of an error that a value tells -/
theorem pe_excF {f : Str} (T : XfC X.K C) (hno : PySem.W.findIn X.K (.ref C) f = some none) (he : PE X e te) (hb : attributeBase e f X.env (eval e X.env) = eval e X.env := by rfl) :
    PE X (.Attribute e f pos) (fun σ H Q => te σ H fun y H1 => ∃ a dx fs v, y = .ref a ∧ H1 a = some (ExF C dx a) ∧ H1 dx = some (.xd fs) ∧ fs.lookup f = some v ∧ Q v H1) := by
  refine ⟨fun pins s σ H Q I h => ?_⟩
  refine attr_of hb (thn (he.run pins s σ H _ I h) fun u s1 hh => ?_)
  obtain ⟨y, H1, I1, ry, a, dx, fs, v, rfl, ha, hd, l, q⟩ := hh
  obtain rfl : u = Value.ref a := ry
  obtain ⟨⟨oe, vs, o1, o2, o3⟩, _, _⟩ := (show ObjOk X.prog X.w H1 s1.heap a (ExF C dx a) from I1.hok a _ ha)
  obtain ⟨mA, hns, hrel⟩ := (show ObjOk X.prog X.w H1 s1.heap dx (.xd fs) from I1.hok dx _ hd)
  obtain ⟨od, ho, hl⟩ := lookIn_ns hns
  obtain ⟨uv, hu, ru⟩ := RelO.some_of (v := v) (o := mA f) (by rw [← l]; exact hrel f)
  have J : PySem.W.InstAt s1.heap a oe C (some od) := ⟨o1, o2.1, by unfold PySem.W.notCls; rw [o3] <;> rfl, by rw [o2.2]; exact ho⟩
  exact HandSPX.exc_get I1.kIn J T.ga T.gg T.exC (PySem.W.findObj_own T.hdC hno rfl (by rw [hl, hu])) (handed_of ru) ⟨v, H1, I1.tok _, ru, q⟩
theorem de_exf {f : Str} (T : ExC X.prog X.K (He.ga X.K x) (fieldOf x)) (T2 : XfC X.K (He.ga X.K x)) (hno : PySem.W.findIn X.K (.ref (He.ga X.K x)) f = some none) (hf : fieldOf x = f) (hr : Room 1 X.A) (hm : X.mg x = some (.ref (He.ga X.K x))) (hs : X.mg "super" = none) (he : DE X W e ma) (hg : Gl X x := by rfl) (hdb : (x == ("__debug__" : Str)) = false := by decide)
    (hst : starEach [e] X.env = (false, eval e X.env) :: starEach [] X.env := by rfl) (hb : attributeBase (.Call (.Name x p) [e] [] pos) f X.env (eval (.Call (.Name x p) [e] [] pos) X.env) = eval (.Call (.Name x p) [e] [] pos) X.env := by rfl) : DE X W (.Attribute (.Call (.Name x p) [e] [] pos) f pos2) (mExf ma) :=
  PE.imp (pe_excF T2 hno (pe_super T hr hg hm hs he hdb hst) hb) fun σ H Q ⟨as, ds, h, s, q⟩ => ⟨as, ds, h, s, PostE.bindE q fun d h1 v H1 as1 g1 r1 hr1 q1 a dx hd ha n => by
    have sm := same_upd2 (o := .xd [(fieldOf x, v)]) (u := ExF (He.ga X.K x) dx a) hd ha n
    refine ⟨a, dx, [(fieldOf x, v)], v, rfl, upd_same, by rw [upd_ne (Ne.symm n), upd_same], by rw [hf]; simp [List.lookup], ?_⟩
    exact q1 v _ as1 (.of_same sm) (r1.same sm) (hr1.same sm)⟩
end
/-! ### isinstance of an error's instance -/
/-- what a class's name tells: an own class, a built-in one -/
def clsV (K : PySem.W.Frag) (own : List String) (y : String) : Value := if own.contains y then .ref (He.ga K (y : Str)) else .type y
def rIsV (K : PySem.W.Frag) : List V → Hp → VK → Prop := fun xs H Q => ∃ (a : Addr) (x : Str) (φ : Heap → Prop) (d : Option Addr) (c : V) (cv : Value) (b : Bool), xs = [.ref a, c] ∧ H a = some (.ext φ) ∧ ExS φ (He.ga K x) d a ∧ (∀ dx, d = some dx → ∃ fs, H dx = some (.xd fs)) ∧
  (∀ u, RelV c u → u = cv) ∧ PySem.W.kitOne K (.ref (He.ga K x)) cv = some b ∧ L2.ExcC K (He.ga K x) ∧ Q (.bl b) H
theorem call_isV {X : Cx} : CallR X (.builtin "isinstance") (rIsV X.K) := by
  intro pins s σ H xs us Q I r h
  obtain ⟨a, x, φ, d, c, cv, b, rfl, ha, hx, hd, hcv, hk, T, q⟩ := h
  cases r with
  | cons rx rr =>
    cases rr with
    | cons rt rr =>
      cases rr
      cases rx
      cases hcv _ rt
      obtain ⟨hφ, _, _⟩ := (show ObjOk X.prog X.w H s.heap a (.ext φ) from I.hok a _ ha)
      obtain ⟨oe, vs, o1, o2, o3⟩ := hx _ hφ
      obtain ⟨od, J⟩ : ∃ od, PySem.W.InstAt s.heap a oe (He.ga X.K x) od := by
        cases d with
        | none => exact ⟨none, o1, o2.1, by unfold PySem.W.notCls; rw [o3] <;> rfl, by rw [o2.2]; trivial⟩
        | some dx =>
          obtain ⟨fs, e⟩ := hd dx rfl
          obtain ⟨mA, ⟨o, _, _, e2, _⟩, _⟩ := (show ObjOk X.prog X.w H s.heap dx (.xd fs) from I.hok dx _ e)
          exact ⟨some o, o1, o2.1, by unfold PySem.W.notCls; rw [o3] <;> rfl, by rw [o2.2]; exact e2⟩
      exact PySem.W.kia_one (kit_exc T) I.kIn J hk (fun z => nomatch z) fun tk => ⟨.bl b, H, I.kept (t' := tk) fun _ _ z => z, rfl, q⟩
def excCB (K : PySem.W.Frag) (x : Str) : Bool := let D := He.ga K x
  decide (PySem.W.findIn K (.ref D) "__getattribute__" = some (some (.builtin "BaseException.__getattribute__"))) && decide (PySem.W.findIn K (.ref D) "__getattr__" = some none) && decide (PySem.W.subIn K (.ref D) (.type "BaseException") = some true) && PySem.W.hasDictIn K D &&
  decide (PySem.W.findIn K (.ref D) "__class__" = some (some (.builtin "object.__class__"))) && decide (PySem.W.specialIn K (.builtin "object.__class__") "__get__" = some (some (.builtin "getset_descriptor.__get__"))) && decide (PySem.W.takesIn K (.builtin "object.__class__") = some true) && decide (PySem.W.mroIn K D (.type "object") = some true)
theorem excCB_ok {K : PySem.W.Frag} {x : Str} (h : excCB K x = true) : L2.ExcC K (He.ga K x) := by
  unfold excCB at h
  simp only [Bool.and_eq_true, decide_eq_true_eq] at h
  obtain ⟨⟨⟨⟨⟨⟨⟨h1, h2⟩, h3⟩, h4⟩, h5⟩, h6⟩, h7⟩, h8⟩ := h
  exact ⟨h1, h2, h3, h4, h5, h6, h7, h8⟩
/-- the table of subclasses: rows (x, y, b) -/
def isiTab (own : List String) (l : List (Str × String × Bool)) (K : PySem.W.Frag) : Bool := l.all fun r => excCB K r.1 && decide (PySem.W.kitOne K (.ref (He.ga K r.1)) (clsV K own r.2.1) = some r.2.2)
def isiLook (l : List (Str × String × Bool)) (x : Str) (y : String) : Option Bool := (l.find? fun r => decide (r.1 = x) && decide (r.2.1 = y)).map fun r => r.2.2
section
variable {X : Cx} {W : WX} {y : String} {e : Expr} {ma : M D} {p p2 pos : Pos} {own : List String} {l : List (Str × String × Bool)}
theorem de_isiE (ht : isiTab own l X.K = true) (hm : X.mg "isinstance" = none) (d : D) (hd : DE X W (.Name (y : Str) p2) (mC d)) (hcv : ∀ as H v, RV X.K H as d v → ∀ u, RelV v u → u = clsV X.K own y) (ha : DE X W e ma) (hg : Gl X "isinstance" := by rfl)
    (he : starEach [e, .Name (y : Str) p2] X.env = (false, eval e X.env) :: starEach [.Name (y : Str) p2] X.env := by rfl) (hs2 : starEach [.Name (y : Str) p2] X.env = (false, eval (.Name (y : Str) p2) X.env) :: starEach [] X.env := by rfl) (hpl : (backTo pos (starEach [.Name (y : Str) p2] X.env)).any (·.1) = false := by rfl) :
    DE X W (.Call (.Name "isinstance" p) [e, .Name (y : Str) p2] [] pos) (mIsiE (isiLook l) y ma) :=
  PE.imp (pe_callB call_isV hg hm (by first | rfl | decide +kernel) (pa_cons ha (pa_cons hd pa_nil hs2) he) (by decide) (by decide) he hpl) fun σ H Q ⟨as, ds, h, s, q⟩ => ⟨as, ds, h, s, PostE.bindE q fun v h1 u H1 as1 g1 r1 hr1 q1 => by
    refine ⟨as1, ds, h1, ⟨s.env.grow g1, hr1⟩, ?_⟩
    intro cv H2 as2 g2 r2 hr2
    have q2 := PostE.grow g2 q1
    have r1' := r1.grow g2
    cases r1' with
    | @exi a x φ dd e1 e2 e3 e4 =>
      have q2 : PostE X.K X.mg W as2 σ H2 (match isiLook l x y with
        | some b => .ok (.bl b) h1
        | none => .no) Q := q2
      cases et : isiLook l x y with
      | none => rw [et] at q2; exact q2.elim
      | some b =>
        have q5 : PostE X.K X.mg W as2 σ H2 (.ok (.bl b) h1) Q := by rw [et] at q2; exact q2
        clear q2 q1
        obtain ⟨r, hr, e5⟩ := Option.map_eq_some_iff.mp (show ((l.find? fun r => decide (r.1 = x) && decide (r.2.1 = y)).map fun r => r.2.2) = some b from et)
        have k1 := List.find?_some hr
        have k2 := List.all_eq_true.mp ht r (List.mem_of_find?_eq_some hr)
        simp only [Bool.and_eq_true, decide_eq_true_eq] at k1 k2
        obtain ⟨k3, k4⟩ := k1
        subst k3 k4 e5
        exact ⟨a, r.1, φ, dd, cv, _, _, rfl, e1, e2, fun dx z => (e4 dx z).2, hcv _ _ _ r2, k2.2, excCB_ok k2.1, q5 (.bl r.2.2) H2 as2 .refl (.bl _) hr2⟩
    | _ => exact q2.elim⟩
end
theorem clsV_own {K : PySem.W.Frag} {own : List String} {y : String} (ho : own.contains y = true) (as : List Addr) (H : Hp) (v : V) (r : RV K H as (.gl (y : Str)) v) (u : Value) (ru : RelV v u) : u = clsV K own y := by
  cases r
  unfold clsV
  rw [if_pos ho]
  exact ru
theorem clsV_blt {K : PySem.W.Frag} {own : List String} {y : String} (ho : own.contains y = false) (as : List Addr) (H : Hp) (v : V) (r : RV K H as (.ty y) v) (u : Value) (ru : RelV v u) : u = clsV K own y := by
  cases r
  unfold clsV
  rw [if_neg (by rw [ho]; decide)]
  exact ru
end DL
namespace DL
open PySem PySem.Spec PyProof.Rows L2
/-- the table of caught classes, as one fact -/
def tabB (l : List (PySem.Str × PySem.Str × Bool)) (K : PySem.W.Frag) : Bool := l.all fun r => (He.Fa.exm r.1 r.2.1 r.2.2).ok K && (He.Fa.glo r.1).ok K
end DL

set_option Elab.async false
set_option linter.all false
set_option maxRecDepth 100000
set_option maxHeartbeats 4000000
/-! classes over KeyError: its __new__ is LookupError's -/
namespace DL
open PySem PySem.Spec PySem.W PySem.Calls PyProof.Rows
abbrev keyMro : List Value := [.type "KeyError", .type "LookupError", .type "Exception", .type "BaseException", .type "object"]
theorem storeKey : StoreFacts "KeyError" keyMro "object.__setattr__" "object" := {
  mro := by kernel_rfl
  slot := .of (owner := "object") (n := "__setattr__") (by rw [typeLookup_type, builtinLookup_eq_fast]; kernel_rfl) (by decide +kernel) (by decide +kernel) (by decide +kernel) (by first | exact .inl (by decide +kernel) | exact .inr (by decide +kernel)) (by rw [isSubtype_type]; kernel_rfl)
  entry := PySem.F.store_IndexError.entry
  kind := PySem.F.store_IndexError.kind
  split := PySem.F.store_IndexError.split
  hasOwner := by decide +kernel
  args := PySem.F.store_IndexError.args
  passes := fun self => by kernel_rfl }
theorem kxsKey : KxsFacts "KeyError" "KeyError.__init__" := ⟨by show builtinType _ = _; rw [builtinType_eq_fast]; kernel_rfl, by first | kernel_rfl | rfl⟩
abbrev FL' := PySem.F.excBase_LookupError
abbrev FK' := PyProof.Rows.excClass_KeyError
section
variable {prog : Program} {w : World} {M : Model} {A : Around} {E : Value → Shared → Prop} {R : Result → Shared → Prop} {h : Heap} {g : Array GenState} {d : Drawn} {t : Nat} {os : OsState}
variable {nm q : Str} {C N : Addr} {bs bm : List Value} {hdct : Bool} {sn : List Str} {sub : List Value} {ab : Bool} {col : Option Bool} {dd : Option Addr} {k0 k1 k2 k3 k5 : Option Value}
theorem key_newCheck (hT : ∀ X : String, bm.contains (.type X) = keyMro.contains (.type X)) {rest : List Value} {Q : Unit → Shared → Prop}
    (hC : h.get? C = some (excClassObj nm q C N bs bm hdct sn sub ab col dd k0 k1 k2 k3 k5 "LookupError.__new__")) (hq : Q () ⟨h, g, d, t, os⟩) : wpAny M A (checkBuiltinCall "LookupError.__new__" ⟨.ref C :: rest, []⟩) Q E ⟨h, g, d, t, os⟩ := by
  have c1 : (Value.ref C :: bm).contains (.type "LookupError") = true := by
    rw [List.contains_cons, hT, show keyMro.contains (.type "LookupError") = true by decide +kernel, Bool.or_true]
  have ns := FL'.noStar
  simp only [checkBuiltinCall, FL'.newKind, FL'.newSplit, FL'.newRow]
  repeat (first | refine wpAny_loadPart_at hC ?_ | (refine wpAny_isSubtype_exc hC ?_; rw [c1]) | refine wpAny_staticBase_exc hC ?_ | refine wpAny_madeBy_exc hC ?_ | simp only [bne_self_eq_false, Bool.false_eq_true, if_false] | wp_step)
  exact hq
theorem key_new (hT : ∀ X : String, bm.contains (.type X) = keyMro.contains (.type X)) {rest : List Value} (hC : h.get? C = some (excClassObj nm q C N bs bm hdct sn sub ab col dd k0 k1 k2 k3 k5 "LookupError.__new__"))
    (hq : R (.ok (.ret (.ref (h.objs.size + 1)))) ⟨(h.push (kdv_tup rest)).push (PySem.HandSPX.excO C h.objs.size), g, d, t, os⟩) (hrest : rest.length ≤ sizeLine) : codeAny (model prog w) A (.builtin "LookupError.__new__" ⟨.ref C :: rest, []⟩) R ⟨h, g, d, t, os⟩ := by
  have c0 := FL'.ends
  have has : ∀ (X : String) (b : Bool), keyMro.contains (.type X) = b → (Value.ref C :: bm).contains (.type X) = b := fun X b e => by
    rw [List.contains_cons, hT, e]
    cases b <;> rfl
  have c1 := has "LookupError" true (by decide +kernel)
  have c2 := has "AttributeError" false (by decide +kernel)
  have c3 := has "NameError" false (by decide +kernel)
  refine codeAny_builtinAt FL'.entry ?_
  unfold Builtin.«BaseException.__new__»
  refine PySem.wpAt_bind ?_
  show PySem.wpAt _ _ _ (stack >>= _) _ _ _
  refine PySem.wpAt_bind (PySem.wpAt_stack fun p below => PySem.wpAt_of_wpAny ?_)
  wp_walk
  refine PySem.wpAt_of_wpAny ?_
  rw [FL'.owner]
  repeat (first | with_reducible refine wpAny_madeHere_exc FL'.canon hC ?_ | with_reducible refine wpAny_loadPart_at hC ?_ | (with_reducible refine wpAny_isSubtype_exc hC ?_; first | rw [c1] | rw [c2] | rw [c3]) | wp_step)
  show R _ _
  rw [Heap.size_push]
  exact hq
theorem key_typeCall (hT : ∀ X : String, bm.contains (.type X) = keyMro.contains (.type X)) {rest : List Value} {fI : Addr} {Q : Fin → Shared → Prop} (hC : h.get? C = some (excClassObj nm q C N bs bm hdct sn sub ab col dd k0 k1 k2 k3 k5 "LookupError.__new__"))
    (hi : Looks (model prog w) h (typeLookup (.ref C) "__init__") (some (.ref fI))) (hb : ∀ self, Looks (model prog w) h (bindSpecial (.ref fI) self) (.ref fI, [self])) (hrest : rest.length ≤ sizeLine)
    (hq : codeAny (model prog w) A (.call (.ref fI) ⟨.ref (h.objs.size + 1) :: rest, []⟩) (fun r s' => match r with | .ok (.ret v) => v = .none ∧ Q (.done (.ret (.ref (h.objs.size + 1)))) s' | .ok _ => False | .error e => E e s') ⟨(h.push (kdv_tup rest)).push (PySem.HandSPX.excO C h.objs.size), g, d, t, os⟩) :
    wpAny (model prog w) A (Builtin.«type.__call__» ⟨.ref C :: rest, []⟩) Q E ⟨h, g, d, t, os⟩ := by
  repeat (first | with_reducible refine wpAny_loadPart_at hC ?_ | with_reducible refine wpAny_madeBy_exc hC ?_ | wp_step)
  refine codeAny_call_builtin_code (Code.quiet_builtin _ FL'.quiet) (key_newCheck hT hC (key_new hT hC ?_ hrest))
  show wpAny _ _ _ _ _ _
  have up : ∀ b o, h.get? b = some o → ((h.push (kdv_tup rest)).push (PySem.HandSPX.excO C h.objs.size)).get? b = some o := fun b o z => Heap.get?_push_of_some _ (Heap.get?_push_of_some _ z)
  have atC := up _ _ hC
  have atE : ((h.push (kdv_tup rest)).push (PySem.HandSPX.excO C h.objs.size)).get? (h.objs.size + 1) = some (PySem.HandSPX.excO C h.objs.size) := by heap_get
  have self : (Value.ref C :: bm).contains (.ref C) = true := by simp
  unfold isInstance
  repeat (first | with_reducible refine wpAny_loadPart_at atE ?_ | (with_reducible refine wpAny_isSubtype_exc atC ?_; rw [self]) | wp_step)
  show wpAny _ _ (typeLookup (.ref C) _) _ _ _
  refine (hi.keeps up).at (wpAny_holding (wpAny_bind (((hb (.ref (h.objs.size + 1))).keeps up).at ?_)))
  refine wpAny_bind (wpAny_call (codeAny_mono hq fun r s' z => ?_))
  rcases r with e | (v | _ | _ | _) <;> first | exact z | exact z.elim | skip
  obtain ⟨rfl, z⟩ := z
  first
    | exact wpAny_pure (wpAny_pure z)
    | (wp_walk; exact z)
theorem key_call (hT : ∀ X : String, bm.contains (.type X) = keyMro.contains (.type X)) {rest : List Value} {fI : Addr} (hC : h.get? C = some (excClassObj nm q C N bs bm hdct sn sub ab col dd k0 k1 k2 k3 k5 "LookupError.__new__"))
    (hi : Looks (model prog w) h (typeLookup (.ref C) "__init__") (some (.ref fI))) (hb : ∀ self, Looks (model prog w) h (bindSpecial (.ref fI) self) (.ref fI, [self])) (hrest : rest.length ≤ sizeLine)
    (hq : codeAny (model prog w) (A.under (.builtin "type.__call__" ⟨.ref C :: rest, []⟩)) (.call (.ref fI) ⟨.ref (h.objs.size + 1) :: rest, []⟩) (InitBack (h.objs.size + 1) R) ⟨(h.push (kdv_tup rest)).push (PySem.HandSPX.excO C h.objs.size), g, d, t, os⟩) :
    codeAny (model prog w) A (.call (.ref C) ⟨rest, []⟩) R ⟨h, g, d, t, os⟩ := by
  have a1 := tc_lookup
  have a2 := tc_bind (.ref C)
  have a3 : (⟨h, g, d, t, os⟩ : Shared).TypeIs (.ref C) "type" := ⟨_, hC, rfl⟩
  refine codeAny_of_tree ?_
  show wpAny _ _ (callAny (.ref C) _) _ _ _
  repeat (any_goals (first | assumption | with_reducible refine wpAny_loadPart_at hC ?_ | wp_step))
  refine ⟨rfl, codeAny_call_builtin_at (Code.quiet_builtin _ (by decide +kernel)) entry_typeCall (wpAny_check_type_call_sub hC (key_typeCall hT hC hi hb hrest (codeAny_mono hq fun r s' z => ?_)))⟩
  rcases r with e | (v | _ | _ | _) <;> exact z
theorem key_bound {e : Addr} {oe : Obj} {rest : List Value} {Q : Unit → Shared → Prop} (hC : h.get? C = some (excClassObj nm q C N bs bm hdct sn sub ab col dd k0 k1 k2 k3 k5 "LookupError.__new__")) (he : h.get? e = some oe) (hcls : oe.cls = .ref C) (hq : Q () ⟨h, g, d, t, os⟩) :
    wpAny M A (checkBoundCall "KeyError.__init__" ⟨.ref e :: rest, []⟩) Q E ⟨h, g, d, t, os⟩ := by
  have ns := FK'.notStar
  simp only [checkBoundCall, FK'.initKind, FK'.initSig]
  repeat (first | (with_reducible refine wpAny_loadPart_at he ?_; rw [hcls]) | with_reducible refine wpAny_loadPart_at hC ?_ | wp_step)
  refine wpAny_onRaise ?_
  rw [show ∀ (a b : String) (n : Nat), Bind.check ⟨.positional, "*", "KeyError", .self, [⟨"args", .varPos, false⟩]⟩ a b n (List.map (fun x => x.fst) ({ pos := Value.ref e :: rest } : Args).kw) = pure () from fun a b n => check_star_args _ _ _ _ _ _]
  exact wpAny_pure hq
end
theorem key_kc {prog : Program} {w : World} {A : Around} {E : Value → Shared → Prop} {s : Shared} {h₀ : Heap} {L : Addr} {m : Str → Option Value} {news : List (Addr × Obj)} {K : Frag} {x C u : Addr} {t : Addr} {dv : Option Addr} {c2 : Value} {rest : List Value} {nw : Obj → List (Addr × Obj)} {Q : Value → Shared → Prop}
    (F : PyProof.Rows.Fr h₀ L s.heap m) (X : K.In h₀) (N : News h₀ L s.heap news) (qi : excInitIn K C keyMro "LookupError.__new__" = true) (hm : (u, kxs_mw "KeyError.__init__" x) ∈ news) (U : UpdF x (excObj C t dv c2) news nw) (hz : rest.length ≤ sizeLine)
    (fin : ∀ t' h', PyProof.Rows.Fr h₀ L h' m → News h₀ L h' ((t', excTup rest) :: nw (excObj C t' dv c2)) → (∀ p ∈ news, p.1 < t') → Q .none { s with heap := h' }) : wpAny (model prog w) A (call (.ref u) rest) Q E s := by
  obtain ⟨nm, N', qn, bs, bm, hdct, sn, sub, ab, col, dd, k0, k1, k2, k3, k5, hC, hT⟩ := excInit_of (X.keeps F.keep) qi
  have atU := (N _ hm).1
  obtain ⟨pre, post, rfl, hg, n1, n2⟩ := U.split
  have mx : (x, excObj C t dv c2) ∈ pre ++ (x, excObj C t dv c2) :: post := List.mem_append_right _ (.head _)
  obtain ⟨atX, xL, x0⟩ := N _ mx
  obtain ⟨hh, gg, dr, tk, os⟩ := s
  refine wpAny_call (codeAny_of_tree ?_)
  show wpAny _ A.in1 (callAny (.ref u) ⟨rest, []⟩) _ _ _
  simp only [callAny]
  refine wpAny_bind (wpAny_load atU ?_)
  simp only [kxs_mw, show (Value.type "method-wrapper" == Value.type "method" || Value.type "method-wrapper" == Value.type "builtin_function_or_method" || Value.type "method-wrapper" == Value.type "method-wrapper") = true by decide, if_true]
  refine KFB.if_so (by decide) (wpAny_bind (key_bound hC atX rfl (wpAny_bind (wpAny_pure (wpAny_pure ?_)))))
  refine ⟨plainId_quiet FK'.init.plain _, codeAny_builtin FK'.initEntry (exc_init_tree (cls := .ref C) (t0 := t) (dv := dv) (c2 := c2) (c3 := .none) (b4 := .bool false) atX hz fun h' keep atX' atT => ?_)⟩
  have below : ∀ r ∈ pre ++ (x, excObj C t dv c2) :: post, r.1 < hh.objs.size := fun r hr => Heap.lt_size (N r hr).1
  obtain ⟨oL, es, ep, atL, rL⟩ := F.ns
  refine fin hh.objs.size h' ⟨⟨oL, es, ep, keep _ _ (Ne.symm xL) atL, rL⟩, fun b o z => keep b o (fun y => by rw [y, x0] at z; cases z) (F.keep b o z), F.above⟩ ?_ below
  rw [hg]
  have side : ∀ r, r ∈ pre ++ (x, excObj C t dv c2) :: post → r.1 ≠ x → h'.get? r.1 = some r.2 ∧ r.1 ≠ L ∧ h₀.get? r.1 = none := fun r hr ne => ⟨keep _ _ ne (N r hr).1, (N r hr).2⟩
  intro r hr
  rcases List.mem_cons.mp hr with rfl | hr
  · refine ⟨atT, fun z => ?_, ?_⟩
    · have y := Heap.lt_size (show hh.get? L = some oL from atL)
      exact absurd y (by rw [← z]; exact Nat.lt_irrefl _)
    · cases z : h₀.get? hh.objs.size with
      | none => rfl
      | some o => exact absurd (Heap.lt_size (F.keep _ _ z)) (Nat.lt_irrefl _)
  · rcases List.mem_append.mp hr with hr | hr
    · exact side r (List.mem_append_left _ hr) (n1 r hr)
    · rcases List.mem_cons.mp hr with rfl | hr
      · exact ⟨atX', xL, x0⟩
      · exact side r (List.mem_append_right _ (.tail _ hr)) (n2 r hr)
theorem exBaseKey : ExBase "KeyError" "KeyError.__init__" "LookupError.__new__" keyMro :=
  ⟨fun hT _ _ hC hi hb hr hq => key_call hT hC hi hb hr hq, fun F X N q hm U hz h => key_kc F X N q hm U hz h⟩
end DL

set_option Elab.async false
set_option linter.all false
set_option maxRecDepth 100000
set_option maxHeartbeats 4000000
namespace DL
open PySem PySem.Spec PyProof.Rows L2
/-! ### repr of a dict of one number -/
abbrev oneD (a b : Int) : PyData := .dict [(.int a, .int b)]
def reprZ : D → Option D
  | .dct [.int a] [.int b] => if (oneD a b).showable && decide ((oneD a b).shown.length ≤ 16777216) && decide ((oneD a b).depth ≤ 50) then some (.str (oneD a b).shown) else none
  | d => reprX d
def rReprZ (K : PySem.W.Frag) : List V → Hp → VK → Prop := fun xs H Q => rReprX K xs H Q ∨ ∃ ad a b, xs = [.ref ad] ∧ H ad = some (.dK [(.inl a, .int b)]) ∧ (oneD a b).showable = true ∧ (oneD a b).shown.length ≤ sizeLine ∧ (oneD a b).depth ≤ 50 ∧ Q (.str (oneD a b).shown) H
theorem call_reprZ {X : Cx} (gu : X.A.guards = some []) (hu : X.A.units + 64 < cLine) : CallR X (.builtin "repr") (rReprZ X.K) := by
  intro pins s σ H xs us Q I r h
  rcases h with h | ⟨ad, a, b, rfl, hH, h1, h2, h3, q⟩
  · exact call_reprX gu hu pins s σ H xs us Q I r h
  · obtain ⟨u, rfl, ru⟩ := vals1 r
    obtain rfl : u = Value.ref ad := ru
    obtain ⟨_, hne, vs, kv, o, es, ep, e, ex, dd, _, pr, _⟩ := (show ObjOk X.prog X.w H s.heap ad (.dK [(.inl a, .int b)]) from I.hok ad _ hH)
    cases kv with
    | @cons _ vv _ vs r1 r2 =>
      cases r2
      obtain ⟨kk, uu⟩ := vv
      obtain ⟨e1, t, e2⟩ := r1
      dsimp only at e1 e2
      subst e1 e2
      obtain ⟨l, hl⟩ : ∃ l, l = es.toList := ⟨_, rfl⟩
      rw [← hl] at pr
      cases pr with
      | @cons en _ es2 _ p1 p2 p3 =>
        cases p3
        obtain ⟨i, t2, q1, q2⟩ | ⟨i, t2, q1, q2⟩ := keyIs_shape (show keyIs (.inl a) en.key = true from p1)
        · cases q1
          have rd : Reads s.heap (.ref ad) (oneD a b) (ad :: ([] ++ []) ++ ([] ++ [])) := Reads.dict e ex.1 dd (by
            rw [← hl]
            show ReadsAll s.heap [en.key] [.int a] _
            rw [q2]
            exact .cons (.int _ _) .nil) (by
            rw [← hl]
            show ReadsAll s.heap [en.val] [.int b] _
            rw [p2]
            exact .cons (.int _ _) .nil)
          refine repr_of_reads' rd h1 (fun _ z => ?_) gu (by omega) (fun b o e => e) (fun h' u tk k => ⟨.str _, H, I.kept (t' := tk) k, ⟨_, rfl⟩, q⟩) h2
          simp at z
          rw [← z] at hne
          simp at hne
        · cases q1
theorem reprZ_other (x : D) (h : ∀ a b, x ≠ .dct [.int a] [.int b]) : reprZ x = reprX x := by
  unfold reprZ
  split
  · exact absurd rfl (h _ _)
  · rfl
theorem c_reprZ {K : PySem.W.Frag} : C1 K reprZ (rReprZ K) := by
  intro as H x z v Q n e r k
  have old : reprX x = some z → rReprZ K [v] H Q := fun e => .inl (c_reprX as H x z v Q n e r k)
  have new : ∀ a b, x = .dct [.int a] [.int b] → rReprZ K [v] H Q := by
    rintro a b rfl
    have e : (if (oneD a b).showable && decide ((oneD a b).shown.length ≤ 16777216) && decide ((oneD a b).depth ≤ 50) then some (D.str (oneD a b).shown) else none) = some z := e
    by_cases hc : ((oneD a b).showable && decide ((oneD a b).shown.length ≤ 16777216) && decide ((oneD a b).depth ≤ 50)) = true
    · rw [if_pos hc] at e
      have e := Option.some.inj e
      subst e
      simp only [Bool.and_eq_true, decide_eq_true_eq] at hc
      obtain ⟨⟨h1, h2⟩, h3⟩ := hc
      obtain ⟨ad, rfl, hH⟩ : ∃ ad, v = .ref ad ∧ H ad = some (.dK [(.inl a, .int b)]) := by
        have key : ∀ (ad : Addr) (kvs : List (Key × V)), H ad = some (.dK kvs) → kvs.map (fun p => kD p.1) = [.int a] → RVs K H as [.int b] (kvs.map (fun p => p.2)) → H ad = some (.dK [(.inl a, .int b)]) := by
          intro ad kvs h5 h6 h7
          cases kvs with
          | nil => simp at h6
          | cons p l =>
            cases l with
            | cons _ _ => simp at h6
            | nil =>
              obtain ⟨pk, pv⟩ := p
              simp only [List.map_cons, List.map_nil, List.cons.injEq, and_true] at h6 h7
              cases h7 with
              | cons r _ =>
                cases r
                cases pk with
                | inl i => cases h6; exact h5
                | inr y => cases h6
        cases r with
        | val r => cases r with
          | dct h5 _ h6 h7 => exact ⟨_, rfl, key _ _ h5 h6 h7⟩
        | cell r => cases r with
          | dct h5 h6 h7 => exact ⟨_, rfl, key _ _ h5 h6 h7⟩
      exact .inr ⟨ad, a, b, rfl, hH, h1, by rw [sizeLine_eq]; exact h2, h3, k _ H (Same.refl H) (.str _)⟩
    · rw [if_neg hc] at e; exact absurd e (by simp)
  by_cases hx : ∃ a b, x = .dct [.int a] [.int b]
  · obtain ⟨a, b, hx⟩ := hx
    exact new a b hx
  · refine old ?_
    rw [← reprZ_other x fun a b h => hx ⟨a, b, h⟩]
    exact e
theorem b_reprZ {X : Cx} (gu : X.A.guards = some []) (hu : X.A.units + 64 < cLine) (h : X.mg "repr" = none) : Bi X "repr" (on1 reprZ) := ⟨.inl ⟨_, _, call_reprZ gu hu, c_reprZ.s, h, by decide +kernel⟩⟩
end DL

set_option Elab.async false
set_option linter.all false
set_option maxRecDepth 100000
set_option maxHeartbeats 1000000
namespace W
open PySem PySem.Spec PyProof.Rows L2 DL
def top (i : Nat) : Stmt := PySem.Challenge.pw_pauseplay_k00_whole_errors_and_what_they.main.body.getD i (.Pass ⟨0, 0, 0, 0⟩)
def clsStm (s : Stmt) (k : Nat) : Stmt := match s with
  | .ClassDef _ _ _ body _ _ _ _ _ _ _ => body.getD k s
  | _ => s
abbrev s__law_spins : Stmt := top 20
def d__law_spins : He.DefD := ⟨("_law_spins", none), "_law_spins", "_law_spins", defArgs s__law_spins, defBody s__law_spins, defScope s__law_spins, [], []⟩
abbrev s__law_spin : Stmt := top 21
def d__law_spin : He.DefD := ⟨("_law_spin", none), "_law_spin", "_law_spin", defArgs s__law_spin, defBody s__law_spin, defScope s__law_spin, [], []⟩
abbrev s__law_among : Stmt := top 22
def d__law_among : He.DefD := ⟨("_law_among", none), "_law_among", "_law_among", defArgs s__law_among, defBody s__law_among, defScope s__law_among, [], []⟩
abbrev s__law_raise : Stmt := top 23
def d__law_raise : He.DefD := ⟨("_law_raise", none), "_law_raise", "_law_raise", defArgs s__law_raise, defBody s__law_raise, defScope s__law_raise, [], []⟩
abbrev s__law_forth : Stmt := top 24
def d__law_forth : He.DefD := ⟨("_law_forth", none), "_law_forth", "_law_forth", defArgs s__law_forth, defBody s__law_forth, defScope s__law_forth, [], []⟩
abbrev s__law_back : Stmt := top 25
def d__law_back : He.DefD := ⟨("_law_back", none), "_law_back", "_law_back", defArgs s__law_back, defBody s__law_back, defScope s__law_back, [], []⟩
abbrev s__law_base : Stmt := top 26
def d__law_base : He.DefD := ⟨("_law_base", none), "_law_base", "_law_base", defArgs s__law_base, defBody s__law_base, defScope s__law_base, [], []⟩
abbrev s__law_all_bases : Stmt := top 27
def d__law_all_bases : He.DefD := ⟨("_law_all_bases", none), "_law_all_bases", "_law_all_bases", defArgs s__law_all_bases, defBody s__law_all_bases, defScope s__law_all_bases, [], []⟩
abbrev s__law_right : Stmt := top 28
def d__law_right : He.DefD := ⟨("_law_right", none), "_law_right", "_law_right", defArgs s__law_right, defBody s__law_right, defScope s__law_right, [], []⟩
abbrev s_law : Stmt := top 29
def d_law : He.DefD := ⟨("law", none), "law", "law", defArgs s_law, defBody s_law, defScope s_law, [], []⟩
def fn : List He.DefD := ([d__law_spins, d__law_spin, d__law_among, d__law_raise, d__law_forth, d__law_back, d__law_base, d__law_all_bases, d__law_right, d_law] : List He.DefD)
abbrev s_err_ParseError : Stmt := clsStm (top 13) 0
def d_err_ParseError : He.DefD := ⟨("ParseError", some ("__init__" : Str)), "__init__", "ParseError.__init__", defArgs s_err_ParseError, defBody s_err_ParseError, defScope s_err_ParseError, [], []⟩
abbrev s_err_InvalidNumber : Stmt := clsStm (top 14) 0
def d_err_InvalidNumber : He.DefD := ⟨("InvalidNumber", some ("__init__" : Str)), "__init__", "InvalidNumber.__init__", defArgs s_err_InvalidNumber, defBody s_err_InvalidNumber, defScope s_err_InvalidNumber, [], []⟩
abbrev s_err_UnknownName : Stmt := clsStm (top 15) 0
def d_err_UnknownName : He.DefD := ⟨("UnknownName", some ("__init__" : Str)), "__init__", "UnknownName.__init__", defArgs s_err_UnknownName, defBody s_err_UnknownName, defScope s_err_UnknownName, [], []⟩
abbrev s_err_NothingToUndo : Stmt := clsStm (top 16) 0
def d_err_NothingToUndo : He.DefD := ⟨("NothingToUndo", some ("__init__" : Str)), "__init__", "NothingToUndo.__init__", defArgs s_err_NothingToUndo, defBody s_err_NothingToUndo, defScope s_err_NothingToUndo, [], []⟩
abbrev s_err_TooMany : Stmt := clsStm (top 17) 0
def d_err_TooMany : He.DefD := ⟨("TooMany", some ("__init__" : Str)), "__init__", "TooMany.__init__", defArgs s_err_TooMany, defBody s_err_TooMany, defScope s_err_TooMany, [], []⟩
abbrev s_err_Refused : Stmt := clsStm (top 18) 0
def d_err_Refused : He.DefD := ⟨("Refused", some ("__init__" : Str)), "__init__", "Refused.__init__", defArgs s_err_Refused, defBody s_err_Refused, defScope s_err_Refused, [], []⟩
def cs : List He.DefD := [d_err_ParseError, d_err_InvalidNumber, d_err_UnknownName, d_err_NothingToUndo, d_err_TooMany, d_err_Refused]
def tabL : List (Str × Str × Bool) := ([("InvalidArea", "InvalidBound", false), ("InvalidArea", "InvalidPoint", false), ("InvalidArea", "InvalidLot", false), ("InvalidArea", "InvalidArea", true), ("InvalidArea", "InvalidField", false), ("InvalidArea", "InvalidMachine", false), ("InvalidArea", "InvalidStanding", false), ("InvalidArea", "InvalidPlaces", false), ("InvalidArea", "InvalidName", false), ("InvalidArea", "InvalidText", false), ("InvalidArea", "InvalidOperation", false), ("InvalidArea", "ParseError", false), ("InvalidArea", "InvalidNumber", false), ("InvalidArea", "UnknownName", false), ("InvalidArea", "NothingToUndo", false), ("InvalidArea", "TooMany", false), ("InvalidArea", "Refused", false), ("InvalidArea", "PlayError", true), ("InvalidBound", "InvalidBound", true), ("InvalidBound", "InvalidPoint", false), ("InvalidBound", "InvalidLot", false), ("InvalidBound", "InvalidArea", false), ("InvalidBound", "InvalidField", false), ("InvalidBound", "InvalidMachine", false), ("InvalidBound", "InvalidStanding", false), ("InvalidBound", "InvalidPlaces", false), ("InvalidBound", "InvalidName", false), ("InvalidBound", "InvalidText", false), ("InvalidBound", "InvalidOperation", false), ("InvalidBound", "ParseError", false)] : List (Str × Str × Bool)) ++ ([("InvalidBound", "InvalidNumber", false), ("InvalidBound", "UnknownName", false), ("InvalidBound", "NothingToUndo", false), ("InvalidBound", "TooMany", false), ("InvalidBound", "Refused", false), ("InvalidBound", "PlayError", true), ("InvalidField", "InvalidBound", false), ("InvalidField", "InvalidPoint", false), ("InvalidField", "InvalidLot", false), ("InvalidField", "InvalidArea", false), ("InvalidField", "InvalidField", true), ("InvalidField", "InvalidMachine", false), ("InvalidField", "InvalidStanding", false), ("InvalidField", "InvalidPlaces", false), ("InvalidField", "InvalidName", false), ("InvalidField", "InvalidText", false), ("InvalidField", "InvalidOperation", false), ("InvalidField", "ParseError", false), ("InvalidField", "InvalidNumber", false), ("InvalidField", "UnknownName", false), ("InvalidField", "NothingToUndo", false), ("InvalidField", "TooMany", false), ("InvalidField", "Refused", false), ("InvalidField", "PlayError", true), ("InvalidLot", "InvalidBound", false), ("InvalidLot", "InvalidPoint", false), ("InvalidLot", "InvalidLot", true), ("InvalidLot", "InvalidArea", false), ("InvalidLot", "InvalidField", false), ("InvalidLot", "InvalidMachine", false)] : List (Str × Str × Bool)) ++ ([("InvalidLot", "InvalidStanding", false), ("InvalidLot", "InvalidPlaces", false), ("InvalidLot", "InvalidName", false), ("InvalidLot", "InvalidText", false), ("InvalidLot", "InvalidOperation", false), ("InvalidLot", "ParseError", false), ("InvalidLot", "InvalidNumber", false), ("InvalidLot", "UnknownName", false), ("InvalidLot", "NothingToUndo", false), ("InvalidLot", "TooMany", false), ("InvalidLot", "Refused", false), ("InvalidLot", "PlayError", true), ("InvalidMachine", "InvalidBound", false), ("InvalidMachine", "InvalidPoint", false), ("InvalidMachine", "InvalidLot", false), ("InvalidMachine", "InvalidArea", false), ("InvalidMachine", "InvalidField", false), ("InvalidMachine", "InvalidMachine", true), ("InvalidMachine", "InvalidStanding", false), ("InvalidMachine", "InvalidPlaces", false), ("InvalidMachine", "InvalidName", false), ("InvalidMachine", "InvalidText", false), ("InvalidMachine", "InvalidOperation", false), ("InvalidMachine", "ParseError", false), ("InvalidMachine", "InvalidNumber", false), ("InvalidMachine", "UnknownName", false), ("InvalidMachine", "NothingToUndo", false), ("InvalidMachine", "TooMany", false), ("InvalidMachine", "Refused", false), ("InvalidMachine", "PlayError", true)] : List (Str × Str × Bool)) ++ ([("InvalidName", "InvalidBound", false), ("InvalidName", "InvalidPoint", false), ("InvalidName", "InvalidLot", false), ("InvalidName", "InvalidArea", false), ("InvalidName", "InvalidField", false), ("InvalidName", "InvalidMachine", false), ("InvalidName", "InvalidStanding", false), ("InvalidName", "InvalidPlaces", false), ("InvalidName", "InvalidName", true), ("InvalidName", "InvalidText", false), ("InvalidName", "InvalidOperation", false), ("InvalidName", "ParseError", false), ("InvalidName", "InvalidNumber", false), ("InvalidName", "UnknownName", false), ("InvalidName", "NothingToUndo", false), ("InvalidName", "TooMany", false), ("InvalidName", "Refused", false), ("InvalidName", "PlayError", true), ("InvalidNumber", "InvalidBound", false), ("InvalidNumber", "InvalidPoint", false), ("InvalidNumber", "InvalidLot", false), ("InvalidNumber", "InvalidArea", false), ("InvalidNumber", "InvalidField", false), ("InvalidNumber", "InvalidMachine", false), ("InvalidNumber", "InvalidStanding", false), ("InvalidNumber", "InvalidPlaces", false), ("InvalidNumber", "InvalidName", false), ("InvalidNumber", "InvalidText", false), ("InvalidNumber", "InvalidOperation", false), ("InvalidNumber", "ParseError", false)] : List (Str × Str × Bool)) ++ ([("InvalidNumber", "InvalidNumber", true), ("InvalidNumber", "UnknownName", false), ("InvalidNumber", "NothingToUndo", false), ("InvalidNumber", "TooMany", false), ("InvalidNumber", "Refused", false), ("InvalidNumber", "PlayError", false), ("InvalidOperation", "InvalidBound", false), ("InvalidOperation", "InvalidPoint", false), ("InvalidOperation", "InvalidLot", false), ("InvalidOperation", "InvalidArea", false), ("InvalidOperation", "InvalidField", false), ("InvalidOperation", "InvalidMachine", false), ("InvalidOperation", "InvalidStanding", false), ("InvalidOperation", "InvalidPlaces", false), ("InvalidOperation", "InvalidName", false), ("InvalidOperation", "InvalidText", false), ("InvalidOperation", "InvalidOperation", true), ("InvalidOperation", "ParseError", false), ("InvalidOperation", "InvalidNumber", false), ("InvalidOperation", "UnknownName", false), ("InvalidOperation", "NothingToUndo", false), ("InvalidOperation", "TooMany", false), ("InvalidOperation", "Refused", false), ("InvalidOperation", "PlayError", true), ("InvalidPlaces", "InvalidBound", false), ("InvalidPlaces", "InvalidPoint", false), ("InvalidPlaces", "InvalidLot", false), ("InvalidPlaces", "InvalidArea", false), ("InvalidPlaces", "InvalidField", false), ("InvalidPlaces", "InvalidMachine", false)] : List (Str × Str × Bool)) ++ ([("InvalidPlaces", "InvalidStanding", false), ("InvalidPlaces", "InvalidPlaces", true), ("InvalidPlaces", "InvalidName", false), ("InvalidPlaces", "InvalidText", false), ("InvalidPlaces", "InvalidOperation", false), ("InvalidPlaces", "ParseError", false), ("InvalidPlaces", "InvalidNumber", false), ("InvalidPlaces", "UnknownName", false), ("InvalidPlaces", "NothingToUndo", false), ("InvalidPlaces", "TooMany", false), ("InvalidPlaces", "Refused", false), ("InvalidPlaces", "PlayError", true), ("InvalidPoint", "InvalidBound", false), ("InvalidPoint", "InvalidPoint", true), ("InvalidPoint", "InvalidLot", false), ("InvalidPoint", "InvalidArea", false), ("InvalidPoint", "InvalidField", false), ("InvalidPoint", "InvalidMachine", false), ("InvalidPoint", "InvalidStanding", false), ("InvalidPoint", "InvalidPlaces", false), ("InvalidPoint", "InvalidName", false), ("InvalidPoint", "InvalidText", false), ("InvalidPoint", "InvalidOperation", false), ("InvalidPoint", "ParseError", false), ("InvalidPoint", "InvalidNumber", false), ("InvalidPoint", "UnknownName", false), ("InvalidPoint", "NothingToUndo", false), ("InvalidPoint", "TooMany", false), ("InvalidPoint", "Refused", false), ("InvalidPoint", "PlayError", true)] : List (Str × Str × Bool)) ++ ([("InvalidStanding", "InvalidBound", false), ("InvalidStanding", "InvalidPoint", false), ("InvalidStanding", "InvalidLot", false), ("InvalidStanding", "InvalidArea", false), ("InvalidStanding", "InvalidField", false), ("InvalidStanding", "InvalidMachine", false), ("InvalidStanding", "InvalidStanding", true), ("InvalidStanding", "InvalidPlaces", false), ("InvalidStanding", "InvalidName", false), ("InvalidStanding", "InvalidText", false), ("InvalidStanding", "InvalidOperation", false), ("InvalidStanding", "ParseError", false), ("InvalidStanding", "InvalidNumber", false), ("InvalidStanding", "UnknownName", false), ("InvalidStanding", "NothingToUndo", false), ("InvalidStanding", "TooMany", false), ("InvalidStanding", "Refused", false), ("InvalidStanding", "PlayError", true), ("InvalidText", "InvalidBound", false), ("InvalidText", "InvalidPoint", false), ("InvalidText", "InvalidLot", false), ("InvalidText", "InvalidArea", false), ("InvalidText", "InvalidField", false), ("InvalidText", "InvalidMachine", false), ("InvalidText", "InvalidStanding", false), ("InvalidText", "InvalidPlaces", false), ("InvalidText", "InvalidName", false), ("InvalidText", "InvalidText", true), ("InvalidText", "InvalidOperation", false), ("InvalidText", "ParseError", false)] : List (Str × Str × Bool)) ++ ([("InvalidText", "InvalidNumber", false), ("InvalidText", "UnknownName", false), ("InvalidText", "NothingToUndo", false), ("InvalidText", "TooMany", false), ("InvalidText", "Refused", false), ("InvalidText", "PlayError", true), ("NothingToUndo", "InvalidBound", false), ("NothingToUndo", "InvalidPoint", false), ("NothingToUndo", "InvalidLot", false), ("NothingToUndo", "InvalidArea", false), ("NothingToUndo", "InvalidField", false), ("NothingToUndo", "InvalidMachine", false), ("NothingToUndo", "InvalidStanding", false), ("NothingToUndo", "InvalidPlaces", false), ("NothingToUndo", "InvalidName", false), ("NothingToUndo", "InvalidText", false), ("NothingToUndo", "InvalidOperation", false), ("NothingToUndo", "ParseError", false), ("NothingToUndo", "InvalidNumber", false), ("NothingToUndo", "UnknownName", false), ("NothingToUndo", "NothingToUndo", true), ("NothingToUndo", "TooMany", false), ("NothingToUndo", "Refused", false), ("NothingToUndo", "PlayError", false), ("ParseError", "InvalidBound", false), ("ParseError", "InvalidPoint", false), ("ParseError", "InvalidLot", false), ("ParseError", "InvalidArea", false), ("ParseError", "InvalidField", false), ("ParseError", "InvalidMachine", false)] : List (Str × Str × Bool)) ++ ([("ParseError", "InvalidStanding", false), ("ParseError", "InvalidPlaces", false), ("ParseError", "InvalidName", false), ("ParseError", "InvalidText", false), ("ParseError", "InvalidOperation", false), ("ParseError", "ParseError", true), ("ParseError", "InvalidNumber", false), ("ParseError", "UnknownName", false), ("ParseError", "NothingToUndo", false), ("ParseError", "TooMany", false), ("ParseError", "Refused", false), ("ParseError", "PlayError", true), ("Refused", "InvalidBound", false), ("Refused", "InvalidPoint", false), ("Refused", "InvalidLot", false), ("Refused", "InvalidArea", false), ("Refused", "InvalidField", false), ("Refused", "InvalidMachine", false), ("Refused", "InvalidStanding", false), ("Refused", "InvalidPlaces", false), ("Refused", "InvalidName", false), ("Refused", "InvalidText", false), ("Refused", "InvalidOperation", false), ("Refused", "ParseError", false), ("Refused", "InvalidNumber", false), ("Refused", "UnknownName", false), ("Refused", "NothingToUndo", false), ("Refused", "TooMany", false), ("Refused", "Refused", true), ("Refused", "PlayError", false)] : List (Str × Str × Bool)) ++ ([("TooMany", "InvalidBound", false), ("TooMany", "InvalidPoint", false), ("TooMany", "InvalidLot", false), ("TooMany", "InvalidArea", false), ("TooMany", "InvalidField", false), ("TooMany", "InvalidMachine", false), ("TooMany", "InvalidStanding", false), ("TooMany", "InvalidPlaces", false), ("TooMany", "InvalidName", false), ("TooMany", "InvalidText", false), ("TooMany", "InvalidOperation", false), ("TooMany", "ParseError", false), ("TooMany", "InvalidNumber", false), ("TooMany", "UnknownName", false), ("TooMany", "NothingToUndo", false), ("TooMany", "TooMany", true), ("TooMany", "Refused", false), ("TooMany", "PlayError", false), ("UnknownName", "InvalidBound", false), ("UnknownName", "InvalidPoint", false), ("UnknownName", "InvalidLot", false), ("UnknownName", "InvalidArea", false), ("UnknownName", "InvalidField", false), ("UnknownName", "InvalidMachine", false), ("UnknownName", "InvalidStanding", false), ("UnknownName", "InvalidPlaces", false), ("UnknownName", "InvalidName", false), ("UnknownName", "InvalidText", false), ("UnknownName", "InvalidOperation", false), ("UnknownName", "ParseError", false)] : List (Str × Str × Bool)) ++ ([("UnknownName", "InvalidNumber", false), ("UnknownName", "UnknownName", true), ("UnknownName", "NothingToUndo", false), ("UnknownName", "TooMany", false), ("UnknownName", "Refused", false), ("UnknownName", "PlayError", false)] : List (Str × Str × Bool))
def tab (c y : Str) : Option Bool := (tabL.find? fun r => decide (r.1 = c) && decide (r.2.1 = y)).map fun r => r.2.2
def isiOwn : List String := ["PlayError"]
def isiL : List (Str × String × Bool) := ([("InvalidArea", "ArithmeticError", false), ("InvalidArea", "IndexError", false), ("InvalidArea", "KeyError", false), ("InvalidArea", "LookupError", false), ("InvalidArea", "OverflowError", false), ("InvalidArea", "PlayError", true), ("InvalidArea", "ValueError", true), ("InvalidBound", "ArithmeticError", false), ("InvalidBound", "IndexError", false), ("InvalidBound", "KeyError", false), ("InvalidBound", "LookupError", false), ("InvalidBound", "OverflowError", false), ("InvalidBound", "PlayError", true), ("InvalidBound", "ValueError", true), ("InvalidField", "ArithmeticError", false), ("InvalidField", "IndexError", false), ("InvalidField", "KeyError", false), ("InvalidField", "LookupError", false), ("InvalidField", "OverflowError", false), ("InvalidField", "PlayError", true), ("InvalidField", "ValueError", true), ("InvalidLot", "ArithmeticError", false), ("InvalidLot", "IndexError", false), ("InvalidLot", "KeyError", false), ("InvalidLot", "LookupError", false), ("InvalidLot", "OverflowError", false), ("InvalidLot", "PlayError", true), ("InvalidLot", "ValueError", true), ("InvalidMachine", "ArithmeticError", false), ("InvalidMachine", "IndexError", false)] : List (Str × String × Bool)) ++ ([("InvalidMachine", "KeyError", false), ("InvalidMachine", "LookupError", false), ("InvalidMachine", "OverflowError", false), ("InvalidMachine", "PlayError", true), ("InvalidMachine", "ValueError", true), ("InvalidName", "ArithmeticError", false), ("InvalidName", "IndexError", false), ("InvalidName", "KeyError", false), ("InvalidName", "LookupError", false), ("InvalidName", "OverflowError", false), ("InvalidName", "PlayError", true), ("InvalidName", "ValueError", true), ("InvalidNumber", "ArithmeticError", false), ("InvalidNumber", "IndexError", true), ("InvalidNumber", "KeyError", false), ("InvalidNumber", "LookupError", true), ("InvalidNumber", "OverflowError", false), ("InvalidNumber", "PlayError", false), ("InvalidNumber", "ValueError", false), ("InvalidOperation", "ArithmeticError", false), ("InvalidOperation", "IndexError", false), ("InvalidOperation", "KeyError", false), ("InvalidOperation", "LookupError", false), ("InvalidOperation", "OverflowError", false), ("InvalidOperation", "PlayError", true), ("InvalidOperation", "ValueError", true), ("InvalidPlaces", "ArithmeticError", false), ("InvalidPlaces", "IndexError", false), ("InvalidPlaces", "KeyError", false), ("InvalidPlaces", "LookupError", false)] : List (Str × String × Bool)) ++ ([("InvalidPlaces", "OverflowError", false), ("InvalidPlaces", "PlayError", true), ("InvalidPlaces", "ValueError", true), ("InvalidPoint", "ArithmeticError", false), ("InvalidPoint", "IndexError", false), ("InvalidPoint", "KeyError", false), ("InvalidPoint", "LookupError", false), ("InvalidPoint", "OverflowError", false), ("InvalidPoint", "PlayError", true), ("InvalidPoint", "ValueError", true), ("InvalidStanding", "ArithmeticError", false), ("InvalidStanding", "IndexError", false), ("InvalidStanding", "KeyError", false), ("InvalidStanding", "LookupError", false), ("InvalidStanding", "OverflowError", false), ("InvalidStanding", "PlayError", true), ("InvalidStanding", "ValueError", true), ("InvalidText", "ArithmeticError", false), ("InvalidText", "IndexError", false), ("InvalidText", "KeyError", false), ("InvalidText", "LookupError", false), ("InvalidText", "OverflowError", false), ("InvalidText", "PlayError", true), ("InvalidText", "ValueError", true), ("NothingToUndo", "ArithmeticError", false), ("NothingToUndo", "IndexError", false), ("NothingToUndo", "KeyError", false), ("NothingToUndo", "LookupError", true), ("NothingToUndo", "OverflowError", false), ("NothingToUndo", "PlayError", false)] : List (Str × String × Bool)) ++ ([("NothingToUndo", "ValueError", false), ("ParseError", "ArithmeticError", false), ("ParseError", "IndexError", false), ("ParseError", "KeyError", false), ("ParseError", "LookupError", false), ("ParseError", "OverflowError", false), ("ParseError", "PlayError", true), ("ParseError", "ValueError", true), ("PlayError", "ArithmeticError", false), ("PlayError", "IndexError", false), ("PlayError", "KeyError", false), ("PlayError", "LookupError", false), ("PlayError", "OverflowError", false), ("PlayError", "PlayError", true), ("PlayError", "ValueError", true), ("Refused", "ArithmeticError", true), ("Refused", "IndexError", false), ("Refused", "KeyError", false), ("Refused", "LookupError", false), ("Refused", "OverflowError", false), ("Refused", "PlayError", false), ("Refused", "ValueError", false), ("TooMany", "ArithmeticError", true), ("TooMany", "IndexError", false), ("TooMany", "KeyError", false), ("TooMany", "LookupError", false), ("TooMany", "OverflowError", true), ("TooMany", "PlayError", false), ("TooMany", "ValueError", false), ("UnknownName", "ArithmeticError", false)] : List (Str × String × Bool)) ++ ([("UnknownName", "IndexError", false), ("UnknownName", "KeyError", true), ("UnknownName", "LookupError", true), ("UnknownName", "OverflowError", false), ("UnknownName", "PlayError", false), ("UnknownName", "ValueError", false)] : List (Str × String × Bool))
def tf : List Str := []
def tfD : List He.Defn := tf.map fun x => (x, none)
def fa_1 : List He.Fa := [.glo "_law_spins", .glo "_law_spin", .glo "_law_among", .glo "_law_raise", .glo "_law_forth", .glo "_law_back", .glo "_law_base", .glo "_law_all_bases", .glo "_law_right", .glo "law", .glo "InvalidArea", .glo "InvalidBound", .glo "InvalidField", .glo "InvalidLot", .glo "InvalidMachine", .glo "InvalidName", .glo "InvalidNumber", .glo "InvalidOperation", .glo "InvalidPlaces", .glo "InvalidPoint", .glo "InvalidStanding", .glo "InvalidText", .glo "NothingToUndo", .glo "ParseError", .glo "Refused", .glo "TooMany", .glo "UnknownName", .free "len", .free "int", .free "abs", .free "max", .glo "PlayError", .free "isinstance", .free "ValueError", .free "IndexError", .free "KeyError", .free "LookupError", .free "OverflowError", .free "ArithmeticError", .exc "InvalidBound", .exc "InvalidPoint", .exc "InvalidLot", .exc "InvalidArea", .exc "InvalidField", .exc "InvalidMachine", .exc "InvalidStanding", .exc "InvalidPlaces", .exc "InvalidName", .exc "InvalidText", .exc "InvalidOperation", .free "super", .exc "PlayError", .free "repr", .free "min", .free "range"]
def fa : List He.Fa := fa_1
def xf : List Xf := ([.may (tabB tabL), .may (isiTab isiOwn isiL), .may fun K => xfB K (He.ga K "ParseError"), .may fun K => He.eqO (PySem.W.findIn K (.ref (He.ga K "ParseError")) "spot") (some none), .may fun K => xfB K (He.ga K "InvalidNumber"), .may fun K => He.eqO (PySem.W.findIn K (.ref (He.ga K "InvalidNumber")) "given") (some none), .may fun K => xfB K (He.ga K "UnknownName"), .may fun K => He.eqO (PySem.W.findIn K (.ref (He.ga K "UnknownName")) "asked") (some none), .may fun K => xfB K (He.ga K "NothingToUndo"), .may fun K => He.eqO (PySem.W.findIn K (.ref (He.ga K "NothingToUndo")) "wanted") (some none), .may fun K => xfB K (He.ga K "TooMany"), .may fun K => He.eqO (PySem.W.findIn K (.ref (He.ga K "TooMany")) "limit") (some none), .may fun K => xfB K (He.ga K "Refused"), .may fun K => He.eqO (PySem.W.findIn K (.ref (He.ga K "Refused")) "reason") (some none), .may (exsB "ParseError" "spot" "ValueError" "ValueError.__init__" "ValueError.__new__" [.type "ValueError", .type "Exception", .type "BaseException", .type "object"] "/claim/cut.py"), .may (exsB "InvalidNumber" "given" "IndexError" "IndexError.__init__" "IndexError.__new__" [.type "IndexError", .type "LookupError", .type "Exception", .type "BaseException", .type "object"] "/claim/cut.py"), .may (exsB "UnknownName" "asked" "KeyError" "KeyError.__init__" "LookupError.__new__" [.type "KeyError", .type "LookupError", .type "Exception", .type "BaseException", .type "object"] "/claim/cut.py"), .may (exsB "NothingToUndo" "wanted" "LookupError" "LookupError.__init__" "LookupError.__new__" [.type "LookupError", .type "Exception", .type "BaseException", .type "object"] "/claim/cut.py"), .may (exsB "TooMany" "limit" "OverflowError" "OverflowError.__init__" "OverflowError.__new__" [.type "OverflowError", .type "ArithmeticError", .type "Exception", .type "BaseException", .type "object"] "/claim/cut.py"), .may (exsB "Refused" "reason" "ArithmeticError" "ArithmeticError.__init__" "ArithmeticError.__new__" [.type "ArithmeticError", .type "Exception", .type "BaseException", .type "object"] "/claim/cut.py")] : List Xf)
end W

set_option Elab.async false
set_option linter.all false
set_option maxRecDepth 100000
set_option maxHeartbeats 1000000
namespace W
open PySem PySem.Spec PyProof.Rows L2 DL
abbrev Rq : PySem.W.OpenRow := PySem.W.OpenLaw.row PySem.Challenge.rw_pauseplay_k00_whole_errors_and_what_they
abbrev exf (K : PySem.W.Frag) : Bool := xf.all fun f => f.ok K
abbrev hk : PySem.W.Hook := hookY 6000 fa fn tfD exf cs
def ob (s : PySem.W.SharedT) : AlY := obsY 6000 fa fn tfD exf cs (HandSHeadRun.getT s)
theorem ob_eq (s : PySem.W.SharedT) : ob s = hk.obs s.abs := obsY_eq (HandSHeadRun.getT_eq s)
def loose : List Str := (["PlayError", "InvalidBound", "InvalidPoint", "InvalidLot", "InvalidArea", "InvalidField", "InvalidMachine", "InvalidStanding", "InvalidPlaces", "InvalidName", "InvalidText", "InvalidOperation", "ParseError", "InvalidNumber", "UnknownName", "NothingToUndo", "TooMany", "Refused", "_law_spins", "_law_spin", "_law_among", "_law_raise", "_law_forth", "_law_back", "_law_base", "_law_all_bases", "_law_right"] : List Str)
def pf_1 : List He.Fa := [.glo "_law_spins", .glo "_law_spin", .glo "_law_among", .glo "_law_raise", .glo "_law_forth", .glo "_law_back", .glo "_law_base", .glo "_law_all_bases", .glo "_law_right", .glo "law", .glo "InvalidArea", .glo "InvalidBound", .glo "InvalidField", .glo "InvalidLot", .glo "InvalidMachine", .glo "InvalidName", .glo "InvalidNumber", .glo "InvalidOperation", .glo "InvalidPlaces", .glo "InvalidPoint", .glo "InvalidStanding", .glo "InvalidText", .glo "NothingToUndo", .glo "ParseError", .glo "Refused", .glo "TooMany", .glo "UnknownName", .free "len", .free "int", .free "abs", .free "max", .glo "PlayError", .free "isinstance", .free "ValueError", .free "IndexError", .free "KeyError", .free "LookupError", .free "OverflowError", .free "ArithmeticError", .exc "InvalidBound", .exc "InvalidPoint", .exc "InvalidLot", .exc "InvalidArea", .exc "InvalidField", .exc "InvalidMachine", .exc "InvalidStanding", .exc "InvalidPlaces", .exc "InvalidName", .exc "InvalidText", .exc "InvalidOperation", .free "super", .exc "PlayError", .free "repr", .free "min", .free "range"]
theorem pf_eq : fa = pf_1 := rfl
def pn_1 : List He.DefD := [d__law_spins, d__law_spin, d__law_among, d__law_raise, d__law_forth, d__law_back, d__law_base, d__law_all_bases, d__law_right, d_law]
theorem pn_eq : fn = pn_1 := rfl
def px_1 : List Xf := [.may (tabB tabL), .may (isiTab isiOwn isiL), .may fun K => xfB K (He.ga K "ParseError"), .may fun K => He.eqO (PySem.W.findIn K (.ref (He.ga K "ParseError")) "spot") (some none), .may fun K => xfB K (He.ga K "InvalidNumber"), .may fun K => He.eqO (PySem.W.findIn K (.ref (He.ga K "InvalidNumber")) "given") (some none), .may fun K => xfB K (He.ga K "UnknownName"), .may fun K => He.eqO (PySem.W.findIn K (.ref (He.ga K "UnknownName")) "asked") (some none), .may fun K => xfB K (He.ga K "NothingToUndo"), .may fun K => He.eqO (PySem.W.findIn K (.ref (He.ga K "NothingToUndo")) "wanted") (some none), .may fun K => xfB K (He.ga K "TooMany"), .may fun K => He.eqO (PySem.W.findIn K (.ref (He.ga K "TooMany")) "limit") (some none), .may fun K => xfB K (He.ga K "Refused"), .may fun K => He.eqO (PySem.W.findIn K (.ref (He.ga K "Refused")) "reason") (some none), .may (exsB "ParseError" "spot" "ValueError" "ValueError.__init__" "ValueError.__new__" [.type "ValueError", .type "Exception", .type "BaseException", .type "object"] "/claim/cut.py"), .may (exsB "InvalidNumber" "given" "IndexError" "IndexError.__init__" "IndexError.__new__" [.type "IndexError", .type "LookupError", .type "Exception", .type "BaseException", .type "object"] "/claim/cut.py"), .may (exsB "UnknownName" "asked" "KeyError" "KeyError.__init__" "LookupError.__new__" [.type "KeyError", .type "LookupError", .type "Exception", .type "BaseException", .type "object"] "/claim/cut.py"), .may (exsB "NothingToUndo" "wanted" "LookupError" "LookupError.__init__" "LookupError.__new__" [.type "LookupError", .type "Exception", .type "BaseException", .type "object"] "/claim/cut.py"), .may (exsB "TooMany" "limit" "OverflowError" "OverflowError.__init__" "OverflowError.__new__" [.type "OverflowError", .type "ArithmeticError", .type "Exception", .type "BaseException", .type "object"] "/claim/cut.py"), .may (exsB "Refused" "reason" "ArithmeticError" "ArithmeticError.__init__" "ArithmeticError.__new__" [.type "ArithmeticError", .type "Exception", .type "BaseException", .type "object"] "/claim/cut.py")]
theorem px_eq : xf = px_1 := rfl
section
open PySem.W HandSHeadRun
noncomputable abbrev theRun (w : World) (os : OsState) := (endF (stepQ (denQ tabQ) Rq.prog w) 20000 Rq.prog w os)
theorem p0n (w : World) (os : OsState) : (theRun w os).map (fun x => namesBound Rq.prog x.abs.heap) = some (true) := by
  kernel_rfl
theorem pa1 (w : World) (os : OsState) : (theRun w os).map (fun x => pf_1.all fun f => f.ok (fgY 6000 (HandSHeadRun.getT x))) = some (true) := by
  kernel_rfl
theorem p0 (w : World) (os : OsState) : (theRun w os).map (fun x => staticsOk (importedModules Rq.prog.main.body) (boot_heap w.params) x.abs.heap) = some (true) := by
  kernel_rfl
theorem p0s (w : World) (os : OsState) : (theRun w os).map (fun x => seenQ (PySem.W.view Rq.prog [29]) loose (importedModules Rq.prog.main.body) (fun s => xlAt (PySem.W.view Rq.prog [29]) [] s && recOk Rq.toRowW.records s) x.abs) = some (openGood (PySem.W.view Rq.prog [29]) loose) := by
  kernel_rfl
theorem pb1 (w : World) (os : OsState) : (theRun w os).map (fun x => ((pn_1.all fun d => d.ok (fgY 6000 (HandSHeadRun.getT x))), pn_1.map fun d => He.fnW (fgY 6000 (HandSHeadRun.getT x)) d.at_)) = some ((true, pn_1.map He.DefD.val)) := by
  kernel_rfl
theorem p0g (w : World) (os : OsState) : (theRun w os).map (fun x => gensDone x.abs) = some (true) := by
  kernel_rfl
theorem p0l (w : World) (os : OsState) : (theRun w os).map (fun x => laidKept (boot_heap w.params) x.abs.heap) = some (true) := by
  kernel_rfl
theorem pc1 (w : World) (os : OsState) : (theRun w os).map (fun x => px_1.all fun f => f.ok (fgY 6000 (HandSHeadRun.getT x))) = some (true) := by
  kernel_rfl
theorem pd (w : World) (os : OsState) : (theRun w os).map (fun x => (He.tabsB (HandSHeadRun.getT x) tfD (fgY 6000 (HandSHeadRun.getT x)), cs.map fun d => fnC (fgY 6000 (HandSHeadRun.getT x)) d.at_)) = some ((true, cs.map valC)) := by
  kernel_rfl
end
open PySem.W HandSHeadRun in
theorem run (w : World) : HandSHeadRun.RunEq Rq (PySem.W.view Rq.prog [29]) hk ob 20000 loose w := by
  unfold HandSHeadRun.RunEq
  intro os
  obtain ⟨x, es, e0⟩ := Option.map_eq_some_iff.mp (p0 w os)
  have k0 : staticsOk (importedModules Rq.prog.main.body) (boot_heap w.params) x.abs.heap = true := e0
  have k1 : namesBound Rq.prog x.abs.heap = true := by
    have z := at_some es (p0n w os)
    exact z
  have k2 : gensDone x.abs = true := by
    have z := at_some es (p0g w os)
    exact z
  have k3 : laidKept (boot_heap w.params) x.abs.heap = true := by
    have z := at_some es (p0l w os)
    exact z
  have e0a : looksF Rq.prog (boot_heap w.params) x.abs = true := by
    show (staticsOk (importedModules Rq.prog.main.body) (boot_heap w.params) x.abs.heap && namesBound Rq.prog x.abs.heap && gensDone x.abs && laidKept (boot_heap w.params) x.abs.heap) = true
    rw [k0, k1, k2, k3]; rfl
  have e0s : seenQ (PySem.W.view Rq.prog [29]) loose (importedModules Rq.prog.main.body) (fun s => xlAt (PySem.W.view Rq.prog [29]) [] s && recOk Rq.toRowW.records s) x.abs = openGood (PySem.W.view Rq.prog [29]) loose := by
    have z := at_some es (p0s w os)
    exact z
  have a1v : (pf_1.all fun f => f.ok (fgY 6000 (HandSHeadRun.getT x))) = true := by
    have z := at_some es (pa1 w os)
    exact z
  have b1v : (pn_1.all fun d => d.ok (fgY 6000 (HandSHeadRun.getT x))) = true := by
    have z := at_some es (pb1 w os)
    exact (Prod.mk.inj z).1
  have b1m : (pn_1.map fun d => He.fnW (fgY 6000 (HandSHeadRun.getT x)) d.at_) = pn_1.map He.DefD.val := by
    have z := at_some es (pb1 w os)
    exact (Prod.mk.inj z).2
  have c1v : (px_1.all fun f => f.ok (fgY 6000 (HandSHeadRun.getT x))) = true := by
    have z := at_some es (pc1 w os)
    exact z
  have zd := at_some es (pd w os)
  have dv : He.tabsB (HandSHeadRun.getT x) tfD (fgY 6000 (HandSHeadRun.getT x)) = true := (Prod.mk.inj zd).1
  have dm : (cs.map fun d => fnC (fgY 6000 (HandSHeadRun.getT x)) d.at_) = cs.map valC := (Prod.mk.inj zd).2
  have ha : (fa.all fun f => f.ok (fgY 6000 (HandSHeadRun.getT x))) = true := by rw [pf_eq]; exact a1v
  have hb : (fn.all fun d => d.ok (fgY 6000 (HandSHeadRun.getT x))) = true := by rw [pn_eq]; exact b1v
  have hm : (fn.map fun d => He.fnW (fgY 6000 (HandSHeadRun.getT x)) d.at_) = fn.map He.DefD.val := by rw [pn_eq]; exact b1m
  have hc : exf (fgY 6000 (HandSHeadRun.getT x)) = true := by
    show (xf.all fun f => f.ok (fgY 6000 (HandSHeadRun.getT x))) = true
    rw [px_eq]; exact c1v
  have e1 : ob x = valY fn cs w := by
    unfold ob
    exact obsY_parts w ha hb hm hc dv dm
  show Option.map _ (theRun w os) = _
  rw [es]
  show some (_, _, ob x) = some (true, _, valY fn cs w)
  rw [e0a, e0s, e1]
end W

namespace W
open PySem PySem.Spec PyProof.Rows L2 DL
structure Zx (P : Program) (K : PySem.W.Frag) (mg : Str → Option Value) (h base : Heap) : Prop where
  X : K.In h
  G : h.Ns mainGlobals mg
  c : SaysL fa fn xf K
  tb : ∀ x : Str, x ∈ tf → LamX.TabB base mg (He.cT K (x, none)).1 (He.cT K (x, none)).2
  fil : ((P.main.file : Str) == ("/claim/cut.py" : String)) = true
  sup : (P.main.scope.names.lookup ("super" : Str)).isSome = false
  cl : (cs.map fun d => fnC K d.at_) = cs.map valC
section
variable {P : Program} {w : World} {K : PySem.W.Frag} {mg : Str → Option Value} {h base : Heap}
def b__law_spins : SM := sSeq (sAsg (.nm 2) (mIf (mTB (mBin ltD (mVar 1) (mB (on1 len1) (mCons (mVar 0) (mNil))))) (mB (on1 toInt1) (mCons (mBin ixD (mVar 0) (mVar 1)) (mNil))) (mBin addD (mBin mulD (mC (.int 311)) (mVar 1)) (mC (.int 97))))) (sSeq (sAsg (.nm 3) (mBin modD (mB (on1 toInt1) (mCons (mB (on1 abs1) (mCons (mVar 2) (mNil))) (mNil))) (mBin powD (mBin powD (mC (.int 10)) (mC (.int 54))) (mC (.int 6))))) (sRet (mNew (mCons (mB (on2 max2) (mCons (mC (.int 0)) (mCons (mBin subD (mVar 3) (mBin powD (mC (.int 10)) (mC (.int 16)))) (mNil)))) (mCons (mBin addD (mBin addD (mBin addD (mBin mulD (mBin modD (mB (on1 toInt1) (mCons (mVar 3) (mNil))) (mC (.int 2305843009213693921))) (mC (.int 73))) (mBin mulD (mC (.int 967)) (mVar 1))) (mBin mulD (mC (.int 43)) (mB (on1 toInt1) (mCons (mBin ltD (mVar 2) (mC (.int 0))) (mNil))))) (mC (.int 23))) (mCons (mC (.int 0)) (mNil)))))))
def f__law_spins : List D → Hs → R D := mkF 2 2 finK b__law_spins
def b__law_spin : SM := sSeq (sIf (mTB (mBin gtD (mBin ixD (mVar 0) (mC (.int 0))) (mC (.int 0)))) (sSeq (sAsg (.nm 2) (mBin modD (mB (on1 toInt1) (mCons (mBin ixD (mVar 0) (mC (.int 0))) (mNil))) (mVar 1))) (sSeq (sPut (mVar 0) (mC (.int 0)) (mBin fdivD (mBin ixD (mVar 0) (mC (.int 0))) (mVar 1))) (sRet (mVar 2)))) (sPass)) (sSeq (sPut (mVar 0) (mC (.int 2)) (mBin addD (mBin ixD (mVar 0) (mC (.int 2))) (mC (.int 1)))) (sSeq (sAsg (.nm 3) (mBin modD (mB (on1 toInt1) (mCons (mBin addD (mBin ixD (mVar 0) (mC (.int 1))) (mBin mulD (mC (.int 32452867)) (mBin ixD (mVar 0) (mC (.int 2))))) (mNil))) (mC (.int 2305843009213693951)))) (sSeq (sAsg (.nm 4) (mBin addD (mBin mulD (mBin modD (mB (on1 toInt1) (mCons (mBin addD (mBin mulD (mVar 3) (mVar 3)) (mBin mulD (mC (.int 131)) (mBin ixD (mVar 0) (mC (.int 2))))) (mNil))) (mC (.int 2305843009213693907))) (mC (.int 49979687))) (mVar 3))) (sRet (mBin modD (mB (on1 toInt1) (mCons (mBin fdivD (mVar 4) (mC (.int 65579))) (mNil))) (mVar 1))))))
def f__law_spin : List D → Hs → R D := mkF 2 3 finK b__law_spin
def b__law_base : SM := sSeq (sAsg (.nm 1) (mLst (mCons (mTup (mCons (mC (.str "play")) (mCons (mIsiE (isiLook isiL) "PlayError" (mVar 0)) (mNil)))) (mCons (mTup (mCons (mC (.str "value")) (mCons (mIsiE (isiLook isiL) "ValueError" (mVar 0)) (mNil)))) (mNil))))) (sSeq (sAsg (.nm 1) (mBin addD (mVar 1) (mLst (mCons (mTup (mCons (mC (.str "index")) (mCons (mIsiE (isiLook isiL) "IndexError" (mVar 0)) (mNil)))) (mCons (mTup (mCons (mC (.str "key")) (mCons (mIsiE (isiLook isiL) "KeyError" (mVar 0)) (mNil)))) (mNil)))))) (sSeq (sAsg (.nm 1) (mBin addD (mVar 1) (mLst (mCons (mTup (mCons (mC (.str "lookup")) (mCons (mIsiE (isiLook isiL) "LookupError" (mVar 0)) (mNil)))) (mCons (mTup (mCons (mC (.str "overflow")) (mCons (mIsiE (isiLook isiL) "OverflowError" (mVar 0)) (mNil)))) (mNil)))))) (sRet (mLc (mSeq (mBin addD (mVar 1) (mLst (mCons (mTup (mCons (mC (.str "arithmetic")) (mCons (mIsiE (isiLook isiL) "ArithmeticError" (mVar 0)) (mNil)))) (mNil))))) [2, 3] (.tp (.cons (.nm 2) (.cons (.nm 3) (.nil)))) (mTru (mVar 3)) (mVar 2)))))
def f__law_base : List D → Hs → R D := mkF 1 3 finK b__law_base
def b__law_among : SM := sRet (mBin ixD (mVar 1) (mCall 2 f__law_spin (mCons (mVar 0) (mCons (mB (on1 len1) (mCons (mVar 1) (mNil))) (mNil)))))
def f__law_among : List D → Hs → R D := mkF 2 0 finK b__law_among
def b__law_raise : SM := sSeq (sIf (mTB (mBin eqD (mVar 0) (mC (.str "bound")))) (sRaiseE "InvalidBound" (mVar 1)) (sPass)) (sSeq (sIf (mTB (mBin eqD (mVar 0) (mC (.str "point")))) (sRaiseE "InvalidPoint" (mVar 1)) (sPass)) (sSeq (sIf (mTB (mBin eqD (mVar 0) (mC (.str "lot")))) (sRaiseE "InvalidLot" (mVar 1)) (sPass)) (sSeq (sIf (mTB (mBin eqD (mVar 0) (mC (.str "area")))) (sRaiseE "InvalidArea" (mVar 1)) (sPass)) (sSeq (sIf (mTB (mBin eqD (mVar 0) (mC (.str "field")))) (sRaiseE "InvalidField" (mVar 1)) (sPass)) (sSeq (sIf (mTB (mBin eqD (mVar 0) (mC (.str "machine")))) (sRaiseE "InvalidMachine" (mVar 1)) (sPass)) (sSeq (sIf (mTB (mBin eqD (mVar 0) (mC (.str "standing")))) (sRaiseE "InvalidStanding" (mVar 1)) (sPass)) (sSeq (sIf (mTB (mBin eqD (mVar 0) (mC (.str "places")))) (sRaiseE "InvalidPlaces" (mVar 1)) (sPass)) (sSeq (sIf (mTB (mBin eqD (mVar 0) (mC (.str "name")))) (sRaiseE "InvalidName" (mVar 1)) (sPass)) (sSeq (sIf (mTB (mBin eqD (mVar 0) (mC (.str "text")))) (sRaiseE "InvalidText" (mVar 1)) (sPass)) (sSeq (sIf (mTB (mBin eqD (mVar 0) (mC (.str "operation")))) (sRaiseE "InvalidOperation" (mVar 1)) (sPass)) (sSeq (sIf (mTB (mBin eqD (mVar 0) (mC (.str "parse")))) (sRaiseV "ParseError" (mVar 1)) (sPass)) (sSeq (sIf (mTB (mBin eqD (mVar 0) (mC (.str "number")))) (sRaiseV "InvalidNumber" (mVar 1)) (sPass)) (sSeq (sIf (mTB (mBin eqD (mVar 0) (mC (.str "unknown")))) (sRaiseV "UnknownName" (mVar 1)) (sPass)) (sSeq (sIf (mTB (mBin eqD (mVar 0) (mC (.str "undo")))) (sRaiseV "NothingToUndo" (mVar 1)) (sPass)) (sSeq (sIf (mTB (mBin eqD (mVar 0) (mC (.str "many")))) (sRaiseV "TooMany" (mVar 1)) (sPass)) (sSeq (sIf (mTB (mBin eqD (mVar 0) (mC (.str "refused")))) (sRaiseV "Refused" (mVar 1)) (sPass)) (sNo)))))))))))))))))
def f__law_raise : List D → Hs → R D := mkF 2 0 finK b__law_raise
def b__law_all_bases : SM := sSeq (sAsg (.nm 1) (mLst (mCons (mTup (mCons (mC (.str "bound")) (mCons (mExi "InvalidBound" (mVar 0)) (mNil)))) (mCons (mTup (mCons (mC (.str "point")) (mCons (mExi "InvalidPoint" (mVar 0)) (mNil)))) (mCons (mTup (mCons (mC (.str "lot")) (mCons (mExi "InvalidLot" (mVar 0)) (mNil)))) (mNil)))))) (sSeq (sAsg (.nm 1) (mBin addD (mVar 1) (mLst (mCons (mTup (mCons (mC (.str "area")) (mCons (mExi "InvalidArea" (mVar 0)) (mNil)))) (mCons (mTup (mCons (mC (.str "field")) (mCons (mExi "InvalidField" (mVar 0)) (mNil)))) (mCons (mTup (mCons (mC (.str "machine")) (mCons (mExi "InvalidMachine" (mVar 0)) (mNil)))) (mNil))))))) (sSeq (sAsg (.nm 1) (mBin addD (mVar 1) (mLst (mCons (mTup (mCons (mC (.str "standing")) (mCons (mExi "InvalidStanding" (mVar 0)) (mNil)))) (mCons (mTup (mCons (mC (.str "places")) (mCons (mExi "InvalidPlaces" (mVar 0)) (mNil)))) (mNil)))))) (sSeq (sAsg (.nm 1) (mBin addD (mVar 1) (mLst (mCons (mTup (mCons (mC (.str "name")) (mCons (mExi "InvalidName" (mVar 0)) (mNil)))) (mCons (mTup (mCons (mC (.str "text")) (mCons (mExi "InvalidText" (mVar 0)) (mNil)))) (mNil)))))) (sSeq (sAsg (.nm 1) (mBin addD (mVar 1) (mLst (mCons (mTup (mCons (mC (.str "operation")) (mCons (mExi "InvalidOperation" (mVar 0)) (mNil)))) (mCons (mTup (mCons (mC (.str "parse")) (mCons (mExi "ParseError" (mVar 0)) (mNil)))) (mNil)))))) (sSeq (sAsg (.nm 1) (mBin addD (mVar 1) (mLst (mCons (mTup (mCons (mC (.str "number")) (mCons (mExi "InvalidNumber" (mVar 0)) (mNil)))) (mCons (mTup (mCons (mC (.str "unknown")) (mCons (mExi "UnknownName" (mVar 0)) (mNil)))) (mNil)))))) (sSeq (sAsg (.nm 1) (mBin addD (mVar 1) (mLst (mCons (mTup (mCons (mC (.str "undo")) (mCons (mExi "NothingToUndo" (mVar 0)) (mNil)))) (mCons (mTup (mCons (mC (.str "many")) (mCons (mExi "TooMany" (mVar 0)) (mNil)))) (mCons (mTup (mCons (mC (.str "refused")) (mCons (mExi "Refused" (mVar 0)) (mNil)))) (mNil))))))) (sRet (mLc (mSeq (mBin addD (mVar 1) (mLst (mCons (mTup (mCons (mC (.str "play")) (mCons (mExi "PlayError" (mVar 0)) (mNil)))) (mNil))))) [2, 3] (.tp (.cons (.nm 2) (.cons (.nm 3) (.nil)))) (mYes) (mTup (mCons (mVar 2) (mCons (mCall 1 f__law_base (mCons (mVar 3) (mNil))) (mNil))))))))))))
def f__law_all_bases : List D → Hs → R D := mkF 1 3 finK b__law_all_bases
def b__law_forth : SM := sSeq (sTry tab (sDrop (mCall 2 f__law_raise (mCons (mVar 0) (mCons (mVar 1) (mNil))))) [("InvalidBound", sRet (mC (.str "bound"))), ("InvalidPoint", sRet (mC (.str "point"))), ("InvalidLot", sRet (mC (.str "lot"))), ("InvalidArea", sRet (mC (.str "area"))), ("InvalidField", sRet (mC (.str "field"))), ("InvalidMachine", sRet (mC (.str "machine"))), ("InvalidStanding", sRet (mC (.str "standing"))), ("InvalidPlaces", sRet (mC (.str "places"))), ("InvalidName", sRet (mC (.str "name"))), ("InvalidText", sRet (mC (.str "text"))), ("InvalidOperation", sRet (mC (.str "operation"))), ("ParseError", sRet (mC (.str "parse"))), ("InvalidNumber", sRet (mC (.str "number"))), ("UnknownName", sRet (mC (.str "unknown"))), ("NothingToUndo", sRet (mC (.str "undo"))), ("TooMany", sRet (mC (.str "many"))), ("Refused", sRet (mC (.str "refused"))), ("PlayError", sNo)]) (sNo)
def f__law_forth : List D → Hs → R D := mkF 2 0 finK b__law_forth
def b__law_back : SM := sSeq (sTry tab (sDrop (mCall 2 f__law_raise (mCons (mVar 0) (mCons (mVar 1) (mNil))))) [("Refused", sRet (mC (.str "refused"))), ("TooMany", sRet (mC (.str "many"))), ("NothingToUndo", sRet (mC (.str "undo"))), ("UnknownName", sRet (mC (.str "unknown"))), ("InvalidNumber", sRet (mC (.str "number"))), ("ParseError", sRet (mC (.str "parse"))), ("InvalidOperation", sRet (mC (.str "operation"))), ("InvalidText", sRet (mC (.str "text"))), ("InvalidName", sRet (mC (.str "name"))), ("InvalidPlaces", sRet (mC (.str "places"))), ("InvalidStanding", sRet (mC (.str "standing"))), ("InvalidMachine", sRet (mC (.str "machine"))), ("InvalidField", sRet (mC (.str "field"))), ("InvalidArea", sRet (mC (.str "area"))), ("InvalidLot", sRet (mC (.str "lot"))), ("InvalidPoint", sRet (mC (.str "point"))), ("InvalidBound", sRet (mC (.str "bound"))), ("PlayError", sNo)]) (sNo)
def f__law_back : List D → Hs → R D := mkF 2 0 finK b__law_back
def b__law_right : SM := sSeq (sAsg (.nm 1) (mCall 2 f__law_among (mCons (mVar 0) (mCons (mLst (mCons (mC .non) (mCons (mC (.int 0)) (mCons (mBin powD (mC (.int 10)) (mC (.int 60))) (mCons (mC (.bl true)) (mCons (mC (.str "a b")) (mCons (mTup (mNil)) (mCons (mTup (mCons (mC (.int 1)) (mCons (mC (.str "x")) (mNil)))) (mCons (mLst (mCons (mC (.int 1)) (mNil))) (mCons (mC (.dct [.int 1] [.int 2])) (mCons (mTup (mCons (mC (.str "goal")) (mCons (mC (.int 3)) (mNil)))) (mNil)))))))))))) (mNil))))) (sSeq (sAsg (.nm 2) (mLst (mCons (mC (.str "bound")) (mCons (mC (.str "point")) (mCons (mC (.str "lot")) (mCons (mC (.str "area")) (mCons (mC (.str "field")) (mCons (mC (.str "machine")) (mCons (mC (.str "standing")) (mCons (mC (.str "places")) (mCons (mC (.str "name")) (mCons (mC (.str "text")) (mCons (mC (.str "operation")) (mCons (mC (.str "parse")) (mNil))))))))))))))) (sSeq (sAsg (.nm 3) (mLst (mCons (mC (.str "number")) (mCons (mC (.str "unknown")) (mCons (mC (.str "undo")) (mCons (mC (.str "many")) (mCons (mC (.str "refused")) (mNil)))))))) (sSeq (sIf (mTB (mBin neD (mLc (mSeq (mBin addD (mVar 2) (mVar 3))) [6] (.nm 6) (mTB (mBin neD (mTup (mCons (mCall 2 f__law_forth (mCons (mVar 6) (mCons (mVar 1) (mNil)))) (mCons (mCall 2 f__law_back (mCons (mVar 6) (mCons (mVar 1) (mNil)))) (mNil)))) (mTup (mCons (mVar 6) (mCons (mVar 6) (mNil)))))) (mVar 6)) (mLst (mNil)))) (sNo) (sPass)) (sSeq (sAsg (.nm 4) (mLc (mSeq (mVar 2)) [6] (.nm 6) (mYes) (mTup (mCons (mVar 6) (mCons (mLst (mCons (mC (.str "play")) (mCons (mC (.str "value")) (mNil)))) (mNil)))))) (sSeq (sAsg (.nm 4) (mBin addD (mVar 4) (mLst (mCons (mTup (mCons (mC (.str "number")) (mCons (mLst (mCons (mC (.str "index")) (mCons (mC (.str "lookup")) (mNil)))) (mNil)))) (mCons (mTup (mCons (mC (.str "unknown")) (mCons (mLst (mCons (mC (.str "key")) (mCons (mC (.str "lookup")) (mNil)))) (mNil)))) (mNil)))))) (sSeq (sAsg (.nm 4) (mBin addD (mVar 4) (mLst (mCons (mTup (mCons (mC (.str "undo")) (mCons (mLst (mCons (mC (.str "lookup")) (mNil))) (mNil)))) (mCons (mTup (mCons (mC (.str "many")) (mCons (mLst (mCons (mC (.str "overflow")) (mCons (mC (.str "arithmetic")) (mNil)))) (mNil)))) (mCons (mTup (mCons (mC (.str "refused")) (mCons (mLst (mCons (mC (.str "arithmetic")) (mNil))) (mNil)))) (mNil))))))) (sSeq (sIf (mTB (mBin neD (mCall 1 f__law_all_bases (mCons (mVar 1) (mNil))) (mBin addD (mVar 4) (mLst (mCons (mTup (mCons (mC (.str "play")) (mCons (mLst (mCons (mC (.str "play")) (mCons (mC (.str "value")) (mNil)))) (mNil)))) (mNil)))))) (sNo) (sPass)) (sSeq (sAsg (.nm 5) (mLst (mCons (mB (on1 reprZ) (mCons (mExf (mVar 1)) (mNil))) (mCons (mB (on1 reprZ) (mCons (mExf (mVar 1)) (mNil))) (mCons (mB (on1 reprZ) (mCons (mExf (mVar 1)) (mNil))) (mNil)))))) (sSeq (sAsg (.nm 5) (mBin addD (mVar 5) (mLst (mCons (mB (on1 reprZ) (mCons (mExf (mVar 1)) (mNil))) (mCons (mB (on1 reprZ) (mCons (mExf (mVar 1)) (mNil))) (mCons (mB (on1 reprZ) (mCons (mExf (mVar 1)) (mNil))) (mNil))))))) (sRet (mBin eqD (mVar 5) (mBin mulD (mLst (mCons (mB (on1 reprZ) (mCons (mVar 1) (mNil))) (mNil))) (mC (.int 6))))))))))))))
def f__law_right : List D → Hs → R D := mkF 1 6 finG b__law_right
def b_law : SM := sSeq (sForG (mSrcA rng1 (mCons (mB (on2 max2) (mCons (mC (.int 1)) (mCons (mB (on2 min2) (mCons (mC (.int 3)) (mCons (mB (on1 len1) (mCons (mVar 0) (mNil))) (mNil)))) (mNil)))) (mNil))) (.nm 1) (sSeq (sAsg (.nm 2) (mCall 2 f__law_spins (mCons (mVar 0) (mCons (mVar 1) (mNil))))) (sForG (mSrcA rng1 (mCons (mC (.int 3)) (mNil))) (.nm 3) (sIf (mNotT (mTru (mCall 1 f__law_right (mCons (mVar 2) (mNil))))) (sRet (mC (.bl false))) (sPass))))) (sRet (mC (.bl true)))
def f_law : List D → Hs → R D := mkF 1 3 finK b_law
theorem tab_ok (Z : Zx P K mg h base) (hs : List (Str × SM)) (_ : (hs.map (·.1)).all (fun _ => true) = true) : TabOk K mg tab (hs.map (·.1)) := by
  intro c y b _ e
  unfold tab at e
  obtain ⟨r, hr, rfl⟩ := Option.map_eq_some_iff.mp e
  have h1 := List.find?_some hr
  have h2 := List.mem_of_find?_eq_some hr
  simp only [Bool.and_eq_true, decide_eq_true_eq] at h1
  obtain ⟨rfl, rfl⟩ := h1
  have h3 := List.all_eq_true.mp (show tabB tabL K = true from Z.c.xfact 0 rfl) r h2
  simp only [Bool.and_eq_true] at h3
  exact ⟨He.exm_ok h3.1, He.glo_ok Z.X Z.G h3.2⟩
theorem err_ParseError (Z : Zx P K mg h base) : ExC P K (He.ga K "ParseError") (fieldOf "ParseError") := by
  have e : fnC K d_err_ParseError.at_ = valC d_err_ParseError := Option.some.inj (congrArg (fun l => l[0]?) Z.cl)
  have f : fieldOf "ParseError" = "spot" := by decide +kernel
  rw [f]
  exact exC_ok (d := d_err_ParseError) (y := "spot") rfl e (Z.c.xfact 14 rfl) (exBase_of PySem.F.excBase_ValueError) PySem.W.kxs_ValueError PySem.F.store_ValueError rfl rfl Z.fil Z.sup (fun _ _ _ _ _ _ _ us hl => match us, hl with | [_, _], _ => rfl) rfl rfl (by decide) rfl rfl rfl rfl (by decide +kernel) rfl rfl rfl (by decide)
    (fun _ _ _ _ _ _ _ _ _ => rfl) (fun _ _ _ _ _ _ _ _ _ => ⟨_, rfl⟩)
theorem err_InvalidNumber (Z : Zx P K mg h base) : ExC P K (He.ga K "InvalidNumber") (fieldOf "InvalidNumber") := by
  have e : fnC K d_err_InvalidNumber.at_ = valC d_err_InvalidNumber := Option.some.inj (congrArg (fun l => l[1]?) Z.cl)
  have f : fieldOf "InvalidNumber" = "given" := by decide +kernel
  rw [f]
  exact exC_ok (d := d_err_InvalidNumber) (y := "given") rfl e (Z.c.xfact 15 rfl) (exBase_of PySem.F.excBase_IndexError) PySem.W.kxs_IndexError PySem.F.store_IndexError rfl rfl Z.fil Z.sup (fun _ _ _ _ _ _ _ us hl => match us, hl with | [_, _], _ => rfl) rfl rfl (by decide) rfl rfl rfl rfl (by decide +kernel) rfl rfl rfl (by decide)
    (fun _ _ _ _ _ _ _ _ _ => rfl) (fun _ _ _ _ _ _ _ _ _ => ⟨_, rfl⟩)
theorem err_UnknownName (Z : Zx P K mg h base) : ExC P K (He.ga K "UnknownName") (fieldOf "UnknownName") := by
  have e : fnC K d_err_UnknownName.at_ = valC d_err_UnknownName := Option.some.inj (congrArg (fun l => l[2]?) Z.cl)
  have f : fieldOf "UnknownName" = "asked" := by decide +kernel
  rw [f]
  exact exC_ok (d := d_err_UnknownName) (y := "asked") rfl e (Z.c.xfact 16 rfl) exBaseKey kxsKey storeKey rfl rfl Z.fil Z.sup (fun _ _ _ _ _ _ _ us hl => match us, hl with | [_, _], _ => rfl) rfl rfl (by decide) rfl rfl rfl rfl (by decide +kernel) rfl rfl rfl (by decide)
    (fun _ _ _ _ _ _ _ _ _ => rfl) (fun _ _ _ _ _ _ _ _ _ => ⟨_, rfl⟩)
theorem err_NothingToUndo (Z : Zx P K mg h base) : ExC P K (He.ga K "NothingToUndo") (fieldOf "NothingToUndo") := by
  have e : fnC K d_err_NothingToUndo.at_ = valC d_err_NothingToUndo := Option.some.inj (congrArg (fun l => l[3]?) Z.cl)
  have f : fieldOf "NothingToUndo" = "wanted" := by decide +kernel
  rw [f]
  exact exC_ok (d := d_err_NothingToUndo) (y := "wanted") rfl e (Z.c.xfact 17 rfl) (exBase_of PySem.F.excBase_LookupError) PySem.W.kxs_LookupError PySem.F.store_LookupError rfl rfl Z.fil Z.sup (fun _ _ _ _ _ _ _ us hl => match us, hl with | [_, _], _ => rfl) rfl rfl (by decide) rfl rfl rfl rfl (by decide +kernel) rfl rfl rfl (by decide)
    (fun _ _ _ _ _ _ _ _ _ => rfl) (fun _ _ _ _ _ _ _ _ _ => ⟨_, rfl⟩)
theorem err_TooMany (Z : Zx P K mg h base) : ExC P K (He.ga K "TooMany") (fieldOf "TooMany") := by
  have e : fnC K d_err_TooMany.at_ = valC d_err_TooMany := Option.some.inj (congrArg (fun l => l[4]?) Z.cl)
  have f : fieldOf "TooMany" = "limit" := by decide +kernel
  rw [f]
  exact exC_ok (d := d_err_TooMany) (y := "limit") rfl e (Z.c.xfact 18 rfl) (exBase_of PySem.F.excBase_OverflowError) PySem.W.kxs_OverflowError PySem.F.store_OverflowError rfl rfl Z.fil Z.sup (fun _ _ _ _ _ _ _ us hl => match us, hl with | [_, _], _ => rfl) rfl rfl (by decide) rfl rfl rfl rfl (by decide +kernel) rfl rfl rfl (by decide)
    (fun _ _ _ _ _ _ _ _ _ => rfl) (fun _ _ _ _ _ _ _ _ _ => ⟨_, rfl⟩)
theorem err_Refused (Z : Zx P K mg h base) : ExC P K (He.ga K "Refused") (fieldOf "Refused") := by
  have e : fnC K d_err_Refused.at_ = valC d_err_Refused := Option.some.inj (congrArg (fun l => l[5]?) Z.cl)
  have f : fieldOf "Refused" = "reason" := by decide +kernel
  rw [f]
  exact exC_ok (d := d_err_Refused) (y := "reason") rfl e (Z.c.xfact 19 rfl) (exBase_of PySem.F.excBase_ArithmeticError) PySem.W.kxs_ArithmeticError PySem.F.store_ArithmeticError rfl rfl Z.fil Z.sup (fun _ _ _ _ _ _ _ us hl => match us, hl with | [_, _], _ => rfl) rfl rfl (by decide) rfl rfl rfl rfl (by decide +kernel) rfl rfl rfl (by decide)
    (fun _ _ _ _ _ _ _ _ _ => rfl) (fun _ _ _ _ _ _ _ _ _ => ⟨_, rfl⟩)
theorem sc__law_spins : FnScope ["script", "spot", "cell", "great"] ["script", "spot"] (defScope s__law_spins) := ⟨rfl, rfl, rfl, by decide +kernel, rfl, by decide +kernel, by decide +kernel⟩
theorem ok__law_spins (Z : Zx P K mg h base) : FD P w K mg base 1 "_law_spins" 2 f__law_spins := by
  obtain ⟨fd, F⟩ := Z.c.def_ 0 (d := d__law_spins) rfl
  have nd := sc__law_spins.nd
  exact fd_mk d__law_spins ["script", "spot", "cell", "great"] ["script", "spot"] 0 2 2 rfl rfl F (He.glo_ok Z.X Z.G (Z.c.fact 0 rfl)) finK_ok sc__law_spins (FunD.bindsN F fun _ _ _ _ _ _ us hl => match us, hl with | [_, _], _ => rfl) fun cdv A outer s H E hr =>
    (dss_cons (ds_set nd rfl (by first | exact Or.inl rfl | exact Or.inr rfl) (de_if (dt_cm (ck_lt hr) (de_var 1) (de_bi (b_len (He.free_ok Z.X Z.G (Z.c.fact 27 rfl))) (da_cons (de_var 0) (da_nil)))) (de_bi (b_int (He.free_ok Z.X Z.G (Z.c.fact 28 rfl))) (da_cons (de_ix (fun _ _ => rfl) (de_var 0) (de_var 1)) (da_nil))) (de_add (de_mul (de_int) (de_var 1)) (de_int)))) (dss_cons (ds_set nd rfl (by first | exact Or.inl rfl | exact Or.inr rfl) (de_mod (de_bi (b_int (He.free_ok Z.X Z.G (Z.c.fact 28 rfl))) (da_cons (de_bi (b_abs (He.free_ok Z.X Z.G (Z.c.fact 29 rfl))) (da_cons (de_var 2) (da_nil))) (da_nil))) (de_pow (de_pow (de_int) (de_int)) (de_int)))) (dss_one (ds_ret (de_new (da_cons (de_bi (b_max (He.free_ok Z.X Z.G (Z.c.fact 30 rfl))) (da_cons (de_int) (da_cons (de_sub (de_var 3) (de_pow (de_int) (de_int))) (da_nil)))) (da_cons (de_add (de_add (de_add (de_mul (de_mod (de_bi (b_int (He.free_ok Z.X Z.G (Z.c.fact 28 rfl))) (da_cons (de_var 3) (da_nil))) (de_int)) (de_int)) (de_mul (de_int) (de_var 1))) (de_mul (de_int) (de_bi (b_int (He.free_ok Z.X Z.G (Z.c.fact 28 rfl))) (da_cons (de_cm (ck_lt hr) (de_var 2) (de_int)) (da_nil))))) (de_int)) (da_cons (de_int) (da_nil)))))))))
theorem sc__law_spin : FnScope ["spins", "total", "found", "one", "two"] ["spins", "total"] (defScope s__law_spin) := ⟨rfl, rfl, rfl, by decide +kernel, rfl, by decide +kernel, by decide +kernel⟩
theorem ok__law_spin (Z : Zx P K mg h base) : FD P w K mg base 1 "_law_spin" 2 f__law_spin := by
  obtain ⟨fd, F⟩ := Z.c.def_ 1 (d := d__law_spin) rfl
  have nd := sc__law_spin.nd
  exact fd_mk d__law_spin ["spins", "total", "found", "one", "two"] ["spins", "total"] 0 2 3 rfl rfl F (He.glo_ok Z.X Z.G (Z.c.fact 1 rfl)) finK_ok sc__law_spin (FunD.bindsN F fun _ _ _ _ _ _ us hl => match us, hl with | [_, _], _ => rfl) fun cdv A outer s H E hr =>
    (dss_cons (ds_if (dt_cm ck_gt (de_ix (fun _ _ => rfl) (de_var 0) (de_int)) (de_int)) (dss_cons (ds_set nd rfl (by first | exact Or.inl rfl | exact Or.inr rfl) (de_mod (de_bi (b_int (He.free_ok Z.X Z.G (Z.c.fact 28 rfl))) (da_cons (de_ix (fun _ _ => rfl) (de_var 0) (de_int)) (da_nil))) (de_var 1))) (dss_cons (ds_put (de_var 0) (de_int) (de_fdiv (de_ix (fun _ _ => rfl) (de_var 0) (de_int)) (de_var 1))) (dss_one (ds_ret (de_var 2))))) (dss_nil)) (dss_cons (ds_put (de_var 0) (de_int) (de_add (de_ix (fun _ _ => rfl) (de_var 0) (de_int)) (de_int))) (dss_cons (ds_set nd rfl (by first | exact Or.inl rfl | exact Or.inr rfl) (de_mod (de_bi (b_int (He.free_ok Z.X Z.G (Z.c.fact 28 rfl))) (da_cons (de_add (de_ix (fun _ _ => rfl) (de_var 0) (de_int)) (de_mul (de_int) (de_ix (fun _ _ => rfl) (de_var 0) (de_int)))) (da_nil))) (de_int))) (dss_cons (ds_set nd rfl (by first | exact Or.inl rfl | exact Or.inr rfl) (de_add (de_mul (de_mod (de_bi (b_int (He.free_ok Z.X Z.G (Z.c.fact 28 rfl))) (da_cons (de_add (de_mul (de_var 3) (de_var 3)) (de_mul (de_int) (de_ix (fun _ _ => rfl) (de_var 0) (de_int)))) (da_nil))) (de_int)) (de_int)) (de_var 3))) (dss_one (ds_ret (de_mod (de_bi (b_int (He.free_ok Z.X Z.G (Z.c.fact 28 rfl))) (da_cons (de_fdiv (de_var 4) (de_int)) (da_nil))) (de_var 1))))))))
theorem sc__law_base : FnScope ["error", "kinds", "word", "is_one"] ["error"] (defScope s__law_base) := ⟨rfl, rfl, rfl, by decide +kernel, rfl, by decide +kernel, by decide +kernel⟩
theorem ok__law_base (Z : Zx P K mg h base) : FD P w K mg base 1 "_law_base" 1 f__law_base := by
  obtain ⟨fd, F⟩ := Z.c.def_ 6 (d := d__law_base) rfl
  have nd := sc__law_base.nd
  exact fd_mk d__law_base ["error", "kinds", "word", "is_one"] ["error"] 0 1 3 rfl rfl F (He.glo_ok Z.X Z.G (Z.c.fact 6 rfl)) finK_ok sc__law_base (FunD.bindsN F fun _ _ _ _ _ _ us hl => match us, hl with | [_], _ => rfl) fun cdv A outer s H E hr =>
    (dss_cons (ds_set nd rfl (by first | exact Or.inl rfl | exact Or.inr rfl) (de_lst (da_cons (de_tup (da_cons (de_str) (da_cons (de_isiE (y := "PlayError") (own := isiOwn) (l := isiL) (show isiTab isiOwn isiL K = true from Z.c.xfact 1 rfl) (He.free_ok Z.X Z.G (Z.c.fact 32 rfl)) _ (de_gl (He.glo_ok Z.X Z.G (Z.c.fact 31 rfl))) (clsV_own (by decide +kernel)) (de_var 0)) (da_nil)))) (da_cons (de_tup (da_cons (de_str) (da_cons (de_isiE (y := "ValueError") (own := isiOwn) (l := isiL) (show isiTab isiOwn isiL K = true from Z.c.xfact 1 rfl) (He.free_ok Z.X Z.G (Z.c.fact 32 rfl)) _ (de_ty (He.free_ok Z.X Z.G (Z.c.fact 33 rfl)) (by decide +kernel)) (clsV_blt (by decide +kernel)) (de_var 0)) (da_nil)))) (da_nil))))) (dss_cons (ds_set nd rfl (by first | exact Or.inl rfl | exact Or.inr rfl) (de_add (de_var 1) (de_lst (da_cons (de_tup (da_cons (de_str) (da_cons (de_isiE (y := "IndexError") (own := isiOwn) (l := isiL) (show isiTab isiOwn isiL K = true from Z.c.xfact 1 rfl) (He.free_ok Z.X Z.G (Z.c.fact 32 rfl)) _ (de_ty (He.free_ok Z.X Z.G (Z.c.fact 34 rfl)) (by decide +kernel)) (clsV_blt (by decide +kernel)) (de_var 0)) (da_nil)))) (da_cons (de_tup (da_cons (de_str) (da_cons (de_isiE (y := "KeyError") (own := isiOwn) (l := isiL) (show isiTab isiOwn isiL K = true from Z.c.xfact 1 rfl) (He.free_ok Z.X Z.G (Z.c.fact 32 rfl)) _ (de_ty (He.free_ok Z.X Z.G (Z.c.fact 35 rfl)) (by decide +kernel)) (clsV_blt (by decide +kernel)) (de_var 0)) (da_nil)))) (da_nil)))))) (dss_cons (ds_set nd rfl (by first | exact Or.inl rfl | exact Or.inr rfl) (de_add (de_var 1) (de_lst (da_cons (de_tup (da_cons (de_str) (da_cons (de_isiE (y := "LookupError") (own := isiOwn) (l := isiL) (show isiTab isiOwn isiL K = true from Z.c.xfact 1 rfl) (He.free_ok Z.X Z.G (Z.c.fact 32 rfl)) _ (de_ty (He.free_ok Z.X Z.G (Z.c.fact 36 rfl)) (by decide +kernel)) (clsV_blt (by decide +kernel)) (de_var 0)) (da_nil)))) (da_cons (de_tup (da_cons (de_str) (da_cons (de_isiE (y := "OverflowError") (own := isiOwn) (l := isiL) (show isiTab isiOwn isiL K = true from Z.c.xfact 1 rfl) (He.free_ok Z.X Z.G (Z.c.fact 32 rfl)) _ (de_ty (He.free_ok Z.X Z.G (Z.c.fact 37 rfl)) (by decide +kernel)) (clsV_blt (by decide +kernel)) (de_var 0)) (da_nil)))) (da_nil)))))) (dss_one (ds_ret (de_lcF endV_ok (own := [("word", 2), ("is_one", 3)]) nd (di_seq (de_add (de_var 1) (de_lst (da_cons (de_tup (da_cons (de_str) (da_cons (de_isiE (y := "ArithmeticError") (own := isiOwn) (l := isiL) (show isiTab isiOwn isiL K = true from Z.c.xfact 1 rfl) (He.free_ok Z.X Z.G (Z.c.fact 32 rfl)) _ (de_ty (He.free_ok Z.X Z.G (Z.c.fact 38 rfl)) (by decide +kernel)) (clsV_blt (by decide +kernel)) (de_var 0)) (da_nil)))) (da_nil))))) (blkOk_by (N := ["error", "kinds", "word", "is_one"]) (sc := defScope s__law_base) (by decide +kernel)) (fun _ _ _ _ _ => dg_tp (dgs_cons (dg_nm nd rfl (by first | exact Or.inl rfl | exact Or.inr rfl)) (dgs_cons (dg_nm nd rfl (by first | exact Or.inl rfl | exact Or.inr rfl)) (dgs_nil)))) (fun _ _ _ _ _ => dts_one (dt_tru (de_var 3))) (fun _ _ _ _ _ => de_var 2)))))))
theorem sc__law_among : FnScope ["spins", "items"] ["spins", "items"] (defScope s__law_among) := ⟨rfl, rfl, rfl, by decide +kernel, rfl, by decide +kernel, by decide +kernel⟩
theorem ok__law_among (Z : Zx P K mg h base) : FD P w K mg base 2 "_law_among" 2 f__law_among := by
  obtain ⟨fd, F⟩ := Z.c.def_ 2 (d := d__law_among) rfl
  have nd := sc__law_among.nd
  exact fd_mk d__law_among ["spins", "items"] ["spins", "items"] 1 2 0 rfl rfl F (He.glo_ok Z.X Z.G (Z.c.fact 2 rfl)) finK_ok sc__law_among (FunD.bindsN F fun _ _ _ _ _ _ us hl => match us, hl with | [_, _], _ => rfl) fun cdv A outer s H E hr =>
    (dss_one (ds_ret (de_ix (fun _ _ => rfl) (de_var 1) (de_call (ok__law_spin Z) (hr.mono (by decide)) (takes_of rfl rfl rfl rfl) (da_cons (de_var 0) (da_cons (de_bi (b_len (He.free_ok Z.X Z.G (Z.c.fact 27 rfl))) (da_cons (de_var 1) (da_nil))) (da_nil)))))))
theorem sc__law_raise : FnScope ["word", "value"] ["word", "value"] (defScope s__law_raise) := ⟨rfl, rfl, rfl, by decide +kernel, rfl, by decide +kernel, by decide +kernel⟩
theorem ok__law_raise (Z : Zx P K mg h base) : FD P w K mg base 2 "_law_raise" 2 f__law_raise := by
  obtain ⟨fd, F⟩ := Z.c.def_ 3 (d := d__law_raise) rfl
  have nd := sc__law_raise.nd
  exact fd_mk d__law_raise ["word", "value"] ["word", "value"] 1 2 0 rfl rfl F (He.glo_ok Z.X Z.G (Z.c.fact 3 rfl)) finK_ok sc__law_raise (FunD.bindsN F fun _ _ _ _ _ _ us hl => match us, hl with | [_, _], _ => rfl) fun cdv A outer s H E hr =>
    (dss_cons (ds_if (dt_cm (ck_eq hr) (de_var 0) (de_str)) (dss_one (ds_raiseE (takes_of rfl rfl rfl rfl) (Z.c.fact 39 rfl) (He.glo_ok Z.X Z.G (Z.c.fact 11 rfl)) (de_var 1))) (dss_nil)) (dss_cons (ds_if (dt_cm (ck_eq hr) (de_var 0) (de_str)) (dss_one (ds_raiseE (takes_of rfl rfl rfl rfl) (Z.c.fact 40 rfl) (He.glo_ok Z.X Z.G (Z.c.fact 19 rfl)) (de_var 1))) (dss_nil)) (dss_cons (ds_if (dt_cm (ck_eq hr) (de_var 0) (de_str)) (dss_one (ds_raiseE (takes_of rfl rfl rfl rfl) (Z.c.fact 41 rfl) (He.glo_ok Z.X Z.G (Z.c.fact 13 rfl)) (de_var 1))) (dss_nil)) (dss_cons (ds_if (dt_cm (ck_eq hr) (de_var 0) (de_str)) (dss_one (ds_raiseE (takes_of rfl rfl rfl rfl) (Z.c.fact 42 rfl) (He.glo_ok Z.X Z.G (Z.c.fact 10 rfl)) (de_var 1))) (dss_nil)) (dss_cons (ds_if (dt_cm (ck_eq hr) (de_var 0) (de_str)) (dss_one (ds_raiseE (takes_of rfl rfl rfl rfl) (Z.c.fact 43 rfl) (He.glo_ok Z.X Z.G (Z.c.fact 12 rfl)) (de_var 1))) (dss_nil)) (dss_cons (ds_if (dt_cm (ck_eq hr) (de_var 0) (de_str)) (dss_one (ds_raiseE (takes_of rfl rfl rfl rfl) (Z.c.fact 44 rfl) (He.glo_ok Z.X Z.G (Z.c.fact 14 rfl)) (de_var 1))) (dss_nil)) (dss_cons (ds_if (dt_cm (ck_eq hr) (de_var 0) (de_str)) (dss_one (ds_raiseE (takes_of rfl rfl rfl rfl) (Z.c.fact 45 rfl) (He.glo_ok Z.X Z.G (Z.c.fact 20 rfl)) (de_var 1))) (dss_nil)) (dss_cons (ds_if (dt_cm (ck_eq hr) (de_var 0) (de_str)) (dss_one (ds_raiseE (takes_of rfl rfl rfl rfl) (Z.c.fact 46 rfl) (He.glo_ok Z.X Z.G (Z.c.fact 18 rfl)) (de_var 1))) (dss_nil)) (dss_cons (ds_if (dt_cm (ck_eq hr) (de_var 0) (de_str)) (dss_one (ds_raiseE (takes_of rfl rfl rfl rfl) (Z.c.fact 47 rfl) (He.glo_ok Z.X Z.G (Z.c.fact 15 rfl)) (de_var 1))) (dss_nil)) (dss_cons (ds_if (dt_cm (ck_eq hr) (de_var 0) (de_str)) (dss_one (ds_raiseE (takes_of rfl rfl rfl rfl) (Z.c.fact 48 rfl) (He.glo_ok Z.X Z.G (Z.c.fact 21 rfl)) (de_var 1))) (dss_nil)) (dss_cons (ds_if (dt_cm (ck_eq hr) (de_var 0) (de_str)) (dss_one (ds_raiseE (takes_of rfl rfl rfl rfl) (Z.c.fact 49 rfl) (He.glo_ok Z.X Z.G (Z.c.fact 17 rfl)) (de_var 1))) (dss_nil)) (dss_cons (ds_if (dt_cm (ck_eq hr) (de_var 0) (de_str)) (dss_one (ds_raiseV (takes_of rfl rfl rfl rfl) (err_ParseError Z) (hr.mono (by decide)) (He.glo_ok Z.X Z.G (Z.c.fact 23 rfl)) (He.free_ok Z.X Z.G (Z.c.fact 50 rfl)) (de_var 1))) (dss_nil)) (dss_cons (ds_if (dt_cm (ck_eq hr) (de_var 0) (de_str)) (dss_one (ds_raiseV (takes_of rfl rfl rfl rfl) (err_InvalidNumber Z) (hr.mono (by decide)) (He.glo_ok Z.X Z.G (Z.c.fact 16 rfl)) (He.free_ok Z.X Z.G (Z.c.fact 50 rfl)) (de_var 1))) (dss_nil)) (dss_cons (ds_if (dt_cm (ck_eq hr) (de_var 0) (de_str)) (dss_one (ds_raiseV (takes_of rfl rfl rfl rfl) (err_UnknownName Z) (hr.mono (by decide)) (He.glo_ok Z.X Z.G (Z.c.fact 26 rfl)) (He.free_ok Z.X Z.G (Z.c.fact 50 rfl)) (de_var 1))) (dss_nil)) (dss_cons (ds_if (dt_cm (ck_eq hr) (de_var 0) (de_str)) (dss_one (ds_raiseV (takes_of rfl rfl rfl rfl) (err_NothingToUndo Z) (hr.mono (by decide)) (He.glo_ok Z.X Z.G (Z.c.fact 22 rfl)) (He.free_ok Z.X Z.G (Z.c.fact 50 rfl)) (de_var 1))) (dss_nil)) (dss_cons (ds_if (dt_cm (ck_eq hr) (de_var 0) (de_str)) (dss_one (ds_raiseV (takes_of rfl rfl rfl rfl) (err_TooMany Z) (hr.mono (by decide)) (He.glo_ok Z.X Z.G (Z.c.fact 25 rfl)) (He.free_ok Z.X Z.G (Z.c.fact 50 rfl)) (de_var 1))) (dss_nil)) (dss_cons (ds_if (dt_cm (ck_eq hr) (de_var 0) (de_str)) (dss_one (ds_raiseV (takes_of rfl rfl rfl rfl) (err_Refused Z) (hr.mono (by decide)) (He.glo_ok Z.X Z.G (Z.c.fact 24 rfl)) (He.free_ok Z.X Z.G (Z.c.fact 50 rfl)) (de_var 1))) (dss_nil)) (dss_no))))))))))))))))))
theorem sc__law_all_bases : FnScope ["value", "found", "word", "error"] ["value"] (defScope s__law_all_bases) := ⟨rfl, rfl, rfl, by decide +kernel, rfl, by decide +kernel, by decide +kernel⟩
theorem ok__law_all_bases (Z : Zx P K mg h base) : FD P w K mg base 2 "_law_all_bases" 1 f__law_all_bases := by
  obtain ⟨fd, F⟩ := Z.c.def_ 7 (d := d__law_all_bases) rfl
  have nd := sc__law_all_bases.nd
  exact fd_mk d__law_all_bases ["value", "found", "word", "error"] ["value"] 1 1 3 rfl rfl F (He.glo_ok Z.X Z.G (Z.c.fact 7 rfl)) finK_ok sc__law_all_bases (FunD.bindsN F fun _ _ _ _ _ _ us hl => match us, hl with | [_], _ => rfl) fun cdv A outer s H E hr =>
    (dss_cons (ds_set nd rfl (by first | exact Or.inl rfl | exact Or.inr rfl) (de_lst (da_cons (de_tup (da_cons (de_str) (da_cons (de_exi (Z.c.fact 39 rfl) (He.glo_ok Z.X Z.G (Z.c.fact 11 rfl)) (de_var 0)) (da_nil)))) (da_cons (de_tup (da_cons (de_str) (da_cons (de_exi (Z.c.fact 40 rfl) (He.glo_ok Z.X Z.G (Z.c.fact 19 rfl)) (de_var 0)) (da_nil)))) (da_cons (de_tup (da_cons (de_str) (da_cons (de_exi (Z.c.fact 41 rfl) (He.glo_ok Z.X Z.G (Z.c.fact 13 rfl)) (de_var 0)) (da_nil)))) (da_nil)))))) (dss_cons (ds_set nd rfl (by first | exact Or.inl rfl | exact Or.inr rfl) (de_add (de_var 1) (de_lst (da_cons (de_tup (da_cons (de_str) (da_cons (de_exi (Z.c.fact 42 rfl) (He.glo_ok Z.X Z.G (Z.c.fact 10 rfl)) (de_var 0)) (da_nil)))) (da_cons (de_tup (da_cons (de_str) (da_cons (de_exi (Z.c.fact 43 rfl) (He.glo_ok Z.X Z.G (Z.c.fact 12 rfl)) (de_var 0)) (da_nil)))) (da_cons (de_tup (da_cons (de_str) (da_cons (de_exi (Z.c.fact 44 rfl) (He.glo_ok Z.X Z.G (Z.c.fact 14 rfl)) (de_var 0)) (da_nil)))) (da_nil))))))) (dss_cons (ds_set nd rfl (by first | exact Or.inl rfl | exact Or.inr rfl) (de_add (de_var 1) (de_lst (da_cons (de_tup (da_cons (de_str) (da_cons (de_exi (Z.c.fact 45 rfl) (He.glo_ok Z.X Z.G (Z.c.fact 20 rfl)) (de_var 0)) (da_nil)))) (da_cons (de_tup (da_cons (de_str) (da_cons (de_exi (Z.c.fact 46 rfl) (He.glo_ok Z.X Z.G (Z.c.fact 18 rfl)) (de_var 0)) (da_nil)))) (da_nil)))))) (dss_cons (ds_set nd rfl (by first | exact Or.inl rfl | exact Or.inr rfl) (de_add (de_var 1) (de_lst (da_cons (de_tup (da_cons (de_str) (da_cons (de_exi (Z.c.fact 47 rfl) (He.glo_ok Z.X Z.G (Z.c.fact 15 rfl)) (de_var 0)) (da_nil)))) (da_cons (de_tup (da_cons (de_str) (da_cons (de_exi (Z.c.fact 48 rfl) (He.glo_ok Z.X Z.G (Z.c.fact 21 rfl)) (de_var 0)) (da_nil)))) (da_nil)))))) (dss_cons (ds_set nd rfl (by first | exact Or.inl rfl | exact Or.inr rfl) (de_add (de_var 1) (de_lst (da_cons (de_tup (da_cons (de_str) (da_cons (de_exi (Z.c.fact 49 rfl) (He.glo_ok Z.X Z.G (Z.c.fact 17 rfl)) (de_var 0)) (da_nil)))) (da_cons (de_tup (da_cons (de_str) (da_cons (de_exiF (err_ParseError Z) (hr.mono (by decide)) (He.glo_ok Z.X Z.G (Z.c.fact 23 rfl)) (He.free_ok Z.X Z.G (Z.c.fact 50 rfl)) (de_var 0)) (da_nil)))) (da_nil)))))) (dss_cons (ds_set nd rfl (by first | exact Or.inl rfl | exact Or.inr rfl) (de_add (de_var 1) (de_lst (da_cons (de_tup (da_cons (de_str) (da_cons (de_exiF (err_InvalidNumber Z) (hr.mono (by decide)) (He.glo_ok Z.X Z.G (Z.c.fact 16 rfl)) (He.free_ok Z.X Z.G (Z.c.fact 50 rfl)) (de_var 0)) (da_nil)))) (da_cons (de_tup (da_cons (de_str) (da_cons (de_exiF (err_UnknownName Z) (hr.mono (by decide)) (He.glo_ok Z.X Z.G (Z.c.fact 26 rfl)) (He.free_ok Z.X Z.G (Z.c.fact 50 rfl)) (de_var 0)) (da_nil)))) (da_nil)))))) (dss_cons (ds_set nd rfl (by first | exact Or.inl rfl | exact Or.inr rfl) (de_add (de_var 1) (de_lst (da_cons (de_tup (da_cons (de_str) (da_cons (de_exiF (err_NothingToUndo Z) (hr.mono (by decide)) (He.glo_ok Z.X Z.G (Z.c.fact 22 rfl)) (He.free_ok Z.X Z.G (Z.c.fact 50 rfl)) (de_var 0)) (da_nil)))) (da_cons (de_tup (da_cons (de_str) (da_cons (de_exiF (err_TooMany Z) (hr.mono (by decide)) (He.glo_ok Z.X Z.G (Z.c.fact 25 rfl)) (He.free_ok Z.X Z.G (Z.c.fact 50 rfl)) (de_var 0)) (da_nil)))) (da_cons (de_tup (da_cons (de_str) (da_cons (de_exiF (err_Refused Z) (hr.mono (by decide)) (He.glo_ok Z.X Z.G (Z.c.fact 24 rfl)) (He.free_ok Z.X Z.G (Z.c.fact 50 rfl)) (de_var 0)) (da_nil)))) (da_nil))))))) (dss_one (ds_ret (de_lcF endV_ok (own := [("word", 2), ("error", 3)]) nd (di_seq (de_add (de_var 1) (de_lst (da_cons (de_tup (da_cons (de_str) (da_cons (de_exi (Z.c.fact 51 rfl) (He.glo_ok Z.X Z.G (Z.c.fact 31 rfl)) (de_var 0)) (da_nil)))) (da_nil))))) (blkOk_by (N := ["value", "found", "word", "error"]) (sc := defScope s__law_all_bases) (by decide +kernel)) (fun _ _ _ _ _ => dg_tp (dgs_cons (dg_nm nd rfl (by first | exact Or.inl rfl | exact Or.inr rfl)) (dgs_cons (dg_nm nd rfl (by first | exact Or.inl rfl | exact Or.inr rfl)) (dgs_nil)))) (fun _ _ _ _ _ => dts_nil) (fun _ _ _ _ _ => de_tup (da_cons (de_var 2) (da_cons (de_call (ok__law_base Z) (hr.mono (by decide)) takes0 (da_cons (de_var 3) (da_nil))) (da_nil))))))))))))))
theorem sc__law_forth : FnScope ["word", "value"] ["word", "value"] (defScope s__law_forth) := ⟨rfl, rfl, rfl, by decide +kernel, rfl, by decide +kernel, by decide +kernel⟩
theorem ok__law_forth (Z : Zx P K mg h base) : FD P w K mg base 3 "_law_forth" 2 f__law_forth := by
  obtain ⟨fd, F⟩ := Z.c.def_ 4 (d := d__law_forth) rfl
  have nd := sc__law_forth.nd
  exact fd_mk d__law_forth ["word", "value"] ["word", "value"] 2 2 0 rfl rfl F (He.glo_ok Z.X Z.G (Z.c.fact 4 rfl)) finK_ok sc__law_forth (FunD.bindsN F fun _ _ _ _ _ _ us hl => match us, hl with | [_, _], _ => rfl) fun cdv A outer s H E hr =>
    (dss_cons (ds_try (takes_of rfl rfl rfl rfl) (tab_ok Z _ (by decide)) (fun W pn xe tk po => dss_one (ds_expr (de_call (ok__law_raise Z) (hr.mono (by decide)) tk (da_cons (de_var 0) (da_cons (de_var 1) (da_nil)))))) (.cons (He.glo_ok Z.X Z.G (Z.c.fact 11 rfl)) rfl (by decide) (fun _ _ _ => dss_one (ds_ret (de_str))) (.cons (He.glo_ok Z.X Z.G (Z.c.fact 19 rfl)) rfl (by decide) (fun _ _ _ => dss_one (ds_ret (de_str))) (.cons (He.glo_ok Z.X Z.G (Z.c.fact 13 rfl)) rfl (by decide) (fun _ _ _ => dss_one (ds_ret (de_str))) (.cons (He.glo_ok Z.X Z.G (Z.c.fact 10 rfl)) rfl (by decide) (fun _ _ _ => dss_one (ds_ret (de_str))) (.cons (He.glo_ok Z.X Z.G (Z.c.fact 12 rfl)) rfl (by decide) (fun _ _ _ => dss_one (ds_ret (de_str))) (.cons (He.glo_ok Z.X Z.G (Z.c.fact 14 rfl)) rfl (by decide) (fun _ _ _ => dss_one (ds_ret (de_str))) (.cons (He.glo_ok Z.X Z.G (Z.c.fact 20 rfl)) rfl (by decide) (fun _ _ _ => dss_one (ds_ret (de_str))) (.cons (He.glo_ok Z.X Z.G (Z.c.fact 18 rfl)) rfl (by decide) (fun _ _ _ => dss_one (ds_ret (de_str))) (.cons (He.glo_ok Z.X Z.G (Z.c.fact 15 rfl)) rfl (by decide) (fun _ _ _ => dss_one (ds_ret (de_str))) (.cons (He.glo_ok Z.X Z.G (Z.c.fact 21 rfl)) rfl (by decide) (fun _ _ _ => dss_one (ds_ret (de_str))) (.cons (He.glo_ok Z.X Z.G (Z.c.fact 17 rfl)) rfl (by decide) (fun _ _ _ => dss_one (ds_ret (de_str))) (.cons (He.glo_ok Z.X Z.G (Z.c.fact 23 rfl)) rfl (by decide) (fun _ _ _ => dss_one (ds_ret (de_str))) (.cons (He.glo_ok Z.X Z.G (Z.c.fact 16 rfl)) rfl (by decide) (fun _ _ _ => dss_one (ds_ret (de_str))) (.cons (He.glo_ok Z.X Z.G (Z.c.fact 26 rfl)) rfl (by decide) (fun _ _ _ => dss_one (ds_ret (de_str))) (.cons (He.glo_ok Z.X Z.G (Z.c.fact 22 rfl)) rfl (by decide) (fun _ _ _ => dss_one (ds_ret (de_str))) (.cons (He.glo_ok Z.X Z.G (Z.c.fact 25 rfl)) rfl (by decide) (fun _ _ _ => dss_one (ds_ret (de_str))) (.cons (He.glo_ok Z.X Z.G (Z.c.fact 24 rfl)) rfl (by decide) (fun _ _ _ => dss_one (ds_ret (de_str))) (.cons (He.glo_ok Z.X Z.G (Z.c.fact 31 rfl)) rfl (by decide) (fun _ _ _ => dss_no) (DHs.nil)))))))))))))))))))) (dss_no))
theorem sc__law_back : FnScope ["word", "value"] ["word", "value"] (defScope s__law_back) := ⟨rfl, rfl, rfl, by decide +kernel, rfl, by decide +kernel, by decide +kernel⟩
theorem ok__law_back (Z : Zx P K mg h base) : FD P w K mg base 3 "_law_back" 2 f__law_back := by
  obtain ⟨fd, F⟩ := Z.c.def_ 5 (d := d__law_back) rfl
  have nd := sc__law_back.nd
  exact fd_mk d__law_back ["word", "value"] ["word", "value"] 2 2 0 rfl rfl F (He.glo_ok Z.X Z.G (Z.c.fact 5 rfl)) finK_ok sc__law_back (FunD.bindsN F fun _ _ _ _ _ _ us hl => match us, hl with | [_, _], _ => rfl) fun cdv A outer s H E hr =>
    (dss_cons (ds_try (takes_of rfl rfl rfl rfl) (tab_ok Z _ (by decide)) (fun W pn xe tk po => dss_one (ds_expr (de_call (ok__law_raise Z) (hr.mono (by decide)) tk (da_cons (de_var 0) (da_cons (de_var 1) (da_nil)))))) (.cons (He.glo_ok Z.X Z.G (Z.c.fact 24 rfl)) rfl (by decide) (fun _ _ _ => dss_one (ds_ret (de_str))) (.cons (He.glo_ok Z.X Z.G (Z.c.fact 25 rfl)) rfl (by decide) (fun _ _ _ => dss_one (ds_ret (de_str))) (.cons (He.glo_ok Z.X Z.G (Z.c.fact 22 rfl)) rfl (by decide) (fun _ _ _ => dss_one (ds_ret (de_str))) (.cons (He.glo_ok Z.X Z.G (Z.c.fact 26 rfl)) rfl (by decide) (fun _ _ _ => dss_one (ds_ret (de_str))) (.cons (He.glo_ok Z.X Z.G (Z.c.fact 16 rfl)) rfl (by decide) (fun _ _ _ => dss_one (ds_ret (de_str))) (.cons (He.glo_ok Z.X Z.G (Z.c.fact 23 rfl)) rfl (by decide) (fun _ _ _ => dss_one (ds_ret (de_str))) (.cons (He.glo_ok Z.X Z.G (Z.c.fact 17 rfl)) rfl (by decide) (fun _ _ _ => dss_one (ds_ret (de_str))) (.cons (He.glo_ok Z.X Z.G (Z.c.fact 21 rfl)) rfl (by decide) (fun _ _ _ => dss_one (ds_ret (de_str))) (.cons (He.glo_ok Z.X Z.G (Z.c.fact 15 rfl)) rfl (by decide) (fun _ _ _ => dss_one (ds_ret (de_str))) (.cons (He.glo_ok Z.X Z.G (Z.c.fact 18 rfl)) rfl (by decide) (fun _ _ _ => dss_one (ds_ret (de_str))) (.cons (He.glo_ok Z.X Z.G (Z.c.fact 20 rfl)) rfl (by decide) (fun _ _ _ => dss_one (ds_ret (de_str))) (.cons (He.glo_ok Z.X Z.G (Z.c.fact 14 rfl)) rfl (by decide) (fun _ _ _ => dss_one (ds_ret (de_str))) (.cons (He.glo_ok Z.X Z.G (Z.c.fact 12 rfl)) rfl (by decide) (fun _ _ _ => dss_one (ds_ret (de_str))) (.cons (He.glo_ok Z.X Z.G (Z.c.fact 10 rfl)) rfl (by decide) (fun _ _ _ => dss_one (ds_ret (de_str))) (.cons (He.glo_ok Z.X Z.G (Z.c.fact 13 rfl)) rfl (by decide) (fun _ _ _ => dss_one (ds_ret (de_str))) (.cons (He.glo_ok Z.X Z.G (Z.c.fact 19 rfl)) rfl (by decide) (fun _ _ _ => dss_one (ds_ret (de_str))) (.cons (He.glo_ok Z.X Z.G (Z.c.fact 11 rfl)) rfl (by decide) (fun _ _ _ => dss_one (ds_ret (de_str))) (.cons (He.glo_ok Z.X Z.G (Z.c.fact 31 rfl)) rfl (by decide) (fun _ _ _ => dss_no) (DHs.nil)))))))))))))))))))) (dss_no))
theorem sc__law_right : FnScope ["spins", "value", "words", "further", "due", "told", "word"] ["spins"] (defScope s__law_right) := ⟨rfl, rfl, rfl, by decide +kernel, rfl, by decide +kernel, by decide +kernel⟩
theorem ok__law_right (Z : Zx P K mg h base) : FDG P w K mg base 4 "_law_right" 1 f__law_right := by
  obtain ⟨fd, F⟩ := Z.c.def_ 8 (d := d__law_right) rfl
  have nd := sc__law_right.nd
  exact fd_mkG d__law_right ["spins", "value", "words", "further", "due", "told", "word"] ["spins"] 3 1 6 rfl rfl F (He.glo_ok Z.X Z.G (Z.c.fact 8 rfl)) finG_ok sc__law_right (FunD.bindsN F fun _ _ _ _ _ _ us hl => match us, hl with | [_], _ => rfl) fun cdv A outer s H E hG hcd hr =>
    (dss_cons (ds_set nd rfl (by first | exact Or.inl rfl | exact Or.inr rfl) (de_call (ok__law_among Z) (hr.mono (by decide)) (takes_of rfl rfl rfl rfl) (da_cons (de_var 0) (da_cons (de_lst (da_cons (de_non) (da_cons (de_int) (da_cons (de_pow (de_int) (de_int)) (da_cons (de_bl) (da_cons (de_str) (da_cons (de_tup (da_nil)) (da_cons (de_tup (da_cons (de_int) (da_cons (de_str) (da_nil)))) (da_cons (de_lst (da_cons (de_int) (da_nil))) (da_cons (de_disp1) (da_cons (de_tup (da_cons (de_str) (da_cons (de_int) (da_nil)))) (da_nil)))))))))))) (da_nil))))) (dss_cons (ds_set nd rfl (by first | exact Or.inl rfl | exact Or.inr rfl) (de_lst (da_cons (de_str) (da_cons (de_str) (da_cons (de_str) (da_cons (de_str) (da_cons (de_str) (da_cons (de_str) (da_cons (de_str) (da_cons (de_str) (da_cons (de_str) (da_cons (de_str) (da_cons (de_str) (da_cons (de_str) (da_nil))))))))))))))) (dss_cons (ds_set nd rfl (by first | exact Or.inl rfl | exact Or.inr rfl) (de_lst (da_cons (de_str) (da_cons (de_str) (da_cons (de_str) (da_cons (de_str) (da_cons (de_str) (da_nil)))))))) (dss_cons (ds_if (dt_cm (ck_ne hr) (de_lcF endV_ok (own := [("word", 6)]) nd (di_seq (de_add (de_var 2) (de_var 3))) (blkOk_by (N := ["spins", "value", "words", "further", "due", "told", "word"]) (sc := defScope s__law_right) (by decide +kernel)) (fun _ _ _ _ _ => dg_nm nd rfl (by first | exact Or.inl rfl | exact Or.inr rfl)) (fun _ _ _ _ _ => dts_one (dt_cm (ck_ne hr) (de_tup (da_cons (de_call (ok__law_forth Z) (hr.mono (by decide)) takes0 (da_cons (de_var 6) (da_cons (de_var 1) (da_nil)))) (da_cons (de_call (ok__law_back Z) (hr.mono (by decide)) takes0 (da_cons (de_var 6) (da_cons (de_var 1) (da_nil)))) (da_nil)))) (de_tup (da_cons (de_var 6) (da_cons (de_var 6) (da_nil)))))) (fun _ _ _ _ _ => de_var 6)) (de_lst (da_nil))) (dss_no) (dss_nil)) (dss_cons (ds_lcF endV_ok (own := [("word", 6)]) nd rfl rfl (sw_true rfl rfl rfl (by decide +kernel)) (di_seq (de_var 2)) (blkOk_by (N := ["spins", "value", "words", "further", "due", "told", "word"]) (sc := defScope s__law_right) (by decide +kernel)) (fun _ _ _ _ _ => dg_nm nd rfl (by first | exact Or.inl rfl | exact Or.inr rfl)) (fun _ _ _ _ _ => dts_nil) (fun _ _ _ _ _ => de_tup (da_cons (de_var 6) (da_cons (de_lst (da_cons (de_str) (da_cons (de_str) (da_nil)))) (da_nil))))) (dss_cons (ds_set nd rfl (by first | exact Or.inl rfl | exact Or.inr rfl) (de_add (de_var 4) (de_lst (da_cons (de_tup (da_cons (de_str) (da_cons (de_lst (da_cons (de_str) (da_cons (de_str) (da_nil)))) (da_nil)))) (da_cons (de_tup (da_cons (de_str) (da_cons (de_lst (da_cons (de_str) (da_cons (de_str) (da_nil)))) (da_nil)))) (da_nil)))))) (dss_cons (ds_set nd rfl (by first | exact Or.inl rfl | exact Or.inr rfl) (de_add (de_var 4) (de_lst (da_cons (de_tup (da_cons (de_str) (da_cons (de_lst (da_cons (de_str) (da_nil))) (da_nil)))) (da_cons (de_tup (da_cons (de_str) (da_cons (de_lst (da_cons (de_str) (da_cons (de_str) (da_nil)))) (da_nil)))) (da_cons (de_tup (da_cons (de_str) (da_cons (de_lst (da_cons (de_str) (da_nil))) (da_nil)))) (da_nil))))))) (dss_cons (ds_if (dt_cm (ck_ne hr) (de_call (ok__law_all_bases Z) (hr.mono (by decide)) (takes_of rfl rfl rfl rfl) (da_cons (de_var 1) (da_nil))) (de_add (de_var 4) (de_lst (da_cons (de_tup (da_cons (de_str) (da_cons (de_lst (da_cons (de_str) (da_cons (de_str) (da_nil)))) (da_nil)))) (da_nil))))) (dss_no) (dss_nil)) (dss_cons (ds_set nd rfl (by first | exact Or.inl rfl | exact Or.inr rfl) (de_lst (da_cons (de_bi (b_reprZ hG (hr.mono (Nat.zero_le _)).units (He.free_ok Z.X Z.G (Z.c.fact 52 rfl))) (da_cons (de_exf (err_ParseError Z) (xfB_ok (Z.c.xfact 2 rfl)) (He.eqO_ok (Z.c.xfact 3 rfl)) (by decide +kernel) (hr.mono (by decide)) (He.glo_ok Z.X Z.G (Z.c.fact 23 rfl)) (He.free_ok Z.X Z.G (Z.c.fact 50 rfl)) (de_var 1)) (da_nil))) (da_cons (de_bi (b_reprZ hG (hr.mono (Nat.zero_le _)).units (He.free_ok Z.X Z.G (Z.c.fact 52 rfl))) (da_cons (de_exf (err_InvalidNumber Z) (xfB_ok (Z.c.xfact 4 rfl)) (He.eqO_ok (Z.c.xfact 5 rfl)) (by decide +kernel) (hr.mono (by decide)) (He.glo_ok Z.X Z.G (Z.c.fact 16 rfl)) (He.free_ok Z.X Z.G (Z.c.fact 50 rfl)) (de_var 1)) (da_nil))) (da_cons (de_bi (b_reprZ hG (hr.mono (Nat.zero_le _)).units (He.free_ok Z.X Z.G (Z.c.fact 52 rfl))) (da_cons (de_exf (err_UnknownName Z) (xfB_ok (Z.c.xfact 6 rfl)) (He.eqO_ok (Z.c.xfact 7 rfl)) (by decide +kernel) (hr.mono (by decide)) (He.glo_ok Z.X Z.G (Z.c.fact 26 rfl)) (He.free_ok Z.X Z.G (Z.c.fact 50 rfl)) (de_var 1)) (da_nil))) (da_nil)))))) (dss_cons (ds_set nd rfl (by first | exact Or.inl rfl | exact Or.inr rfl) (de_add (de_var 5) (de_lst (da_cons (de_bi (b_reprZ hG (hr.mono (Nat.zero_le _)).units (He.free_ok Z.X Z.G (Z.c.fact 52 rfl))) (da_cons (de_exf (err_NothingToUndo Z) (xfB_ok (Z.c.xfact 8 rfl)) (He.eqO_ok (Z.c.xfact 9 rfl)) (by decide +kernel) (hr.mono (by decide)) (He.glo_ok Z.X Z.G (Z.c.fact 22 rfl)) (He.free_ok Z.X Z.G (Z.c.fact 50 rfl)) (de_var 1)) (da_nil))) (da_cons (de_bi (b_reprZ hG (hr.mono (Nat.zero_le _)).units (He.free_ok Z.X Z.G (Z.c.fact 52 rfl))) (da_cons (de_exf (err_TooMany Z) (xfB_ok (Z.c.xfact 10 rfl)) (He.eqO_ok (Z.c.xfact 11 rfl)) (by decide +kernel) (hr.mono (by decide)) (He.glo_ok Z.X Z.G (Z.c.fact 25 rfl)) (He.free_ok Z.X Z.G (Z.c.fact 50 rfl)) (de_var 1)) (da_nil))) (da_cons (de_bi (b_reprZ hG (hr.mono (Nat.zero_le _)).units (He.free_ok Z.X Z.G (Z.c.fact 52 rfl))) (da_cons (de_exf (err_Refused Z) (xfB_ok (Z.c.xfact 12 rfl)) (He.eqO_ok (Z.c.xfact 13 rfl)) (by decide +kernel) (hr.mono (by decide)) (He.glo_ok Z.X Z.G (Z.c.fact 24 rfl)) (He.free_ok Z.X Z.G (Z.c.fact 50 rfl)) (de_var 1)) (da_nil))) (da_nil))))))) (dss_one (ds_ret (de_cm (ck_eq hr) (de_var 5) (de_mul (de_lst (da_cons (de_bi (b_reprZ hG (hr.mono (Nat.zero_le _)).units (He.free_ok Z.X Z.G (Z.c.fact 52 rfl))) (da_cons (de_var 1) (da_nil))) (da_nil))) (de_int)))))))))))))))
theorem sc_law : FnScope ["script", "spot", "spins", "turn"] ["script"] (defScope s_law) := ⟨rfl, rfl, rfl, by decide +kernel, rfl, by decide +kernel, by decide +kernel⟩
theorem ok_law {fd : FuncData} (Z : Zx P K mg h base) (F : FunD K d_law.name d_law.qual d_law.params d_law.body d_law.scope (d_law.dvs K) (d_law.kws K) (He.fAd K d_law.at_) fd) : FnG P w K mg base (L2.CX P w) 5 (He.fAd K d_law.at_) fd ["script"] (spD K mg 1 f_law) := by
  have nd := sc_law.nd
  exact fn_mkG d_law ["script", "spot", "spins", "turn"] ["script"] 4 1 3 rfl rfl F finK_ok sc_law fun cdv A outer s H E hG hcd hr =>
    (dss_cons (ds_for (passes_of rfl) (di_range1 (da_cons (de_bi (b_max (He.free_ok Z.X Z.G (Z.c.fact 30 rfl))) (da_cons (de_int) (da_cons (de_bi (b_min (He.free_ok Z.X Z.G (Z.c.fact 53 rfl))) (da_cons (de_int) (da_cons (de_bi (b_len (He.free_ok Z.X Z.G (Z.c.fact 27 rfl))) (da_cons (de_var 0) (da_nil))) (da_nil)))) (da_nil)))) (da_nil)) (He.free_ok Z.X Z.G (Z.c.fact 54 rfl))) (dg_nm nd rfl (by first | exact Or.inl rfl | exact Or.inr rfl)) (dss_cons (ds_set nd rfl (by first | exact Or.inl rfl | exact Or.inr rfl) (de_call (ok__law_spins Z) (hr.mono (by decide)) (takes_of rfl rfl rfl rfl) (da_cons (de_var 0) (da_cons (de_var 1) (da_nil))))) (dss_one (ds_for (passes_of rfl) (di_range1 (da_cons (de_int) (da_nil)) (He.free_ok Z.X Z.G (Z.c.fact 54 rfl))) (dg_nm nd rfl (by first | exact Or.inl rfl | exact Or.inr rfl)) (dss_one (ds_if (dt_not (dt_tru (de_callG (ok__law_right Z) hG (hr.mono (by decide)) (takes_of rfl rfl rfl rfl) (da_cons (de_var 2) (da_nil))))) (dss_one (ds_ret (de_bl))) (dss_nil))))))) (dss_one (ds_ret (de_bl))))
end
end W

namespace W
open PySem PySem.Spec PyProof.Rows L2 DL
/-- the law's answer at every list of ints -/
def Answers : Prop := ∀ ns : List Int, ns.length ≤ 63 → ∃ h', f_law [.frz (ns.map .int)] (tf.map .tbl) = .ok (.bl true) h'
theorem facts {P : Program} {w : World} {K : PySem.W.Frag} {h : Heap} {mg : Str → Option Value} {f : Addr} (KX : K.In h) (G : h.Ns mainGlobals mg) (c : SaysL fa fn xf K) (fil : ((P.main.file : Str) == ("/claim/cut.py" : String)) = true) (sup : (P.main.scope.names.lookup ("super" : Str)).isSome = false) (cl : (cs.map fun d => fnC K d.at_) = cs.map valC) (hfa : mg ("law" : Str) = some (.ref f)) :
    ∃ fd : FuncData, (∀ (s : Shared) (v : Value), BindsTo s fd ⟨[v], []⟩ [("script", v)]) ∧ ∀ base : Heap, K.In base → base.Ns mainGlobals mg → (∀ x : Str, x ∈ tf → LamX.TabB base mg (He.cT K (x, none)).1 (He.cT K (x, none)).2) → FnG P w K mg base CX0 5 f fd ["script"] (fun vs H Q _ => spD K mg 1 f_law vs H Q E0) := by
  obtain ⟨fd, F⟩ := c.def_ 9 (d := d_law) rfl
  have e := hfa.symm.trans (He.glo_ok KX G (c.fact 9 (f := .glo "law") rfl))
  cases e
  have b := FunD.bindsA (ps := ["script"]) F fun _ _ _ _ _ _ us hl => match us, hl with | [_], _ => rfl
  refine ⟨fd, fun s v => b s [v] rfl, fun base _ _ tb => ?_⟩
  exact fn_quietG (ok_law (P := P) (w := w) (base := base) ⟨KX, G, c, tb, fil, sup, cl⟩ F)
theorem nodupT {K : PySem.W.Frag} (c : SaysL fa fn xf K) : (tfD.map fun p => (He.cT K p).2).Nodup := by simp [tfD, tf]
end W
section
open PySem PySem.W PySem.Calls PyProof.Rows
theorem W.main (an : W.Answers) : PySem.Challenge.rw_pauseplay_k00_whole_errors_and_what_they.Holds := by
  w_on; o_law
  refine HandSHeadRun.head_any (r := OpenLaw.row PySem.Challenge.rw_pauseplay_k00_whole_errors_and_what_they) (q := view (OpenLaw.row PySem.Challenge.rw_pauseplay_k00_whole_errors_and_what_they).prog [29]) (H := W.hk) (ob := W.ob) (M := 20000) (loose := W.loose) (d := HandSHeadRun.topDef (OpenLaw.row PySem.Challenge.rw_pauseplay_k00_whole_errors_and_what_they).prog 29) (kwd := []) W.ob_eq
    (by kernel_rfl) (fun s => by kernel_rfl) W.run (by kernel_rfl) (by kernel_rfl) (by kernel_rfl) (by rfl) (by first | assumption | decide +kernel) (by decide +kernel) ⟨rfl, rfl, rfl, rfl, rfl, by decide +kernel⟩ ?hw ?hc
  case hw => w_witness2
  case hc =>
    refine DL.walk_ofG (l := PySem.Challenge.rw_pauseplay_k00_whole_errors_and_what_they) (n := 63) (k := 5) (x := "script") rfl (by decide) (by kernel_rfl) ⟨rfl, by decide, by decide⟩ ?F
    intro w mg fa h Y G hmg0
    obtain ⟨K, KX, y⟩ := Y
    have c := y.x
    have hmg : mg ("law" : PySem.Str) = some (.ref fa) := by
      have e : (HandSHeadRun.topDef (OpenLaw.row PySem.Challenge.rw_pauseplay_k00_whole_errors_and_what_they).prog 29).name = ("law" : PySem.Str) := by kernel_rfl
      rw [← e]
      exact hmg0
    have c2 : DL.SaysL W.fa W.fn W.xf K := ⟨c.t.d, c.more⟩
    obtain ⟨fd, hb, hF⟩ := W.facts (P := (PySem.Challenge.rw_pauseplay_k00_whole_errors_and_what_they).prog) (w := w) KX G c2 (by kernel_rfl) (by kernel_rfl) y.c hmg
    exact ⟨K, KX, DL.lawAtG_of KX c hb (W.nodupT c2) (fun ns hl => an ns hl) (fun base h1 h2 h3 => hF base h1 h2 h3)⟩
end

set_option Elab.async false
set_option linter.all false
set_option maxRecDepth 100000
set_option maxHeartbeats 4000000
set_option exponentiation.threshold 5000
namespace W
open PySem PySem.Spec PyProof.Rows L2 DL
/-! ### the draws -/
theorem log2_small {x : Int} {n : Nat} (h : x.natAbs < 2 ^ n) (h0 : 0 < n) : x.natAbs.log2 < n := PySem.Flt.log2_lt_of h0 h
theorem mul_ok {i j : Int} (hi : i.natAbs < 2 ^ 4000) (hj : j.natAbs < 2 ^ 4000) : mulD (.int i) (.int j) = some (.int (i * j)) := by
  have h1 := log2_small hi (by decide)
  have h2 := log2_small hj (by decide)
  rw [mulD, if_pos (by omega)]
theorem fdiv_ok {i j : Int} (h0 : 0 < j) (hj : j.natAbs < 2 ^ 4000) : fdivD (.int i) (.int j) = some (.int (i / j)) := by
  have h2 := log2_small hj (by decide)
  rw [fdivD, if_pos ⟨h0, by omega⟩]
theorem mod_ok {i j : Int} (h0 : 0 < j) : modD (.int i) (.int j) = some (.int (i % j)) := by rw [modD, if_pos h0]
theorem pow_ok {i j : Int} (h : 0 ≤ j ∧ (Builtin.Int.intBits i : Int) * j ≤ 2 ^ 27) : powD (.int i) (.int j) = some (.int (i ^ j.toNat)) := by rw [powD, if_pos h]
theorem p4000 : (2 : Nat) ^ 1000 ≤ 2 ^ 4000 := Nat.pow_le_pow_right (by decide) (by decide)
theorem sm {x : Int} (h1 : -(2 ^ 1000) < x) (h2 : x < 2 ^ 1000) : x.natAbs < 2 ^ 4000 := Nat.lt_of_lt_of_le (by omega) p4000
/-- the spins' cell, drawn from so often -/
def Sp (m : Int) (s : D) : Prop := ∃ a b c : Int, s = .lst [.int a, .int b, .int c] ∧ 0 ≤ a ∧ 0 ≤ b ∧ b < 2 ^ 80 ∧ 0 ≤ c ∧ c ≤ m
theorem Sp.mono {m n : Int} {h : D} (s : Sp m h) (e : m ≤ n) : Sp n h := by
  obtain ⟨a, b, c, h1, h2, h3, h4, h5, h6⟩ := s
  exact ⟨a, b, c, h1, h2, h3, h4, h5, by omega⟩
theorem getD_some {h : Hs} {n : Nat} {d : D} (e : h[n]? = some d) : h.getD n .non = d := by
  rw [List.getD_eq_getElem?_getD, e]; rfl
theorem set_at {h : Hs} {n : Nat} {d e : D} (hn : h[n]? = some d) : (h.set n e)[n]? = some e := by
  rw [List.getElem?_set_self (List.getElem?_eq_some_iff.mp hn).1]
theorem spin_ok {m t : Int} {n : Nat} {s : D} {h : Hs} (S : Sp m s) (hn : h[n]? = some s) (hm : m < 2 ^ 60) (h0 : 0 < t) (ht : t < 2 ^ 1000) : ∃ r s', f__law_spin [.loc n, .int t] h = .ok (.int r) (h.set n s') ∧ 0 ≤ r ∧ r < t ∧ Sp (m + 1) s' := by
  obtain ⟨a, b, c, rfl, ha, hb, hb2, hc, hcm⟩ := S
  have g0 := getD_some hn
  by_cases hp : 0 < a
  · refine ⟨a % t, .lst [.int (a / t), .int b, .int c], ?_, Int.emod_nonneg _ (by omega), Int.emod_lt_of_pos _ h0, a / t, b, c, rfl, Int.ediv_nonneg ha (by omega), hb, hb2, hc, by omega⟩
    simp [f__law_spin, b__law_spin, mkF, sSeq, sIf, mTB, mBin, mVar, mC, R.bind, rd, g0, hn, ixD, L2.atI, ixN, gtD, cmpI, isBl, hp, sAsg, mB, on1, toInt1, mCons, mNil, mod_ok h0, asgT, sPut, fdiv_ok h0 (sm (by omega) ht), sRet, finK]
  · let one := (b + 32452867 * (c + 1)) % 2305843009213693951
    have o1 : 0 ≤ one := Int.emod_nonneg _ (by decide)
    have o2 : one < 2305843009213693951 := Int.emod_lt_of_pos _ (by decide)
    let two := (one * one + 131 * (c + 1)) % 2305843009213693907
    have t1 : 0 ≤ two := Int.emod_nonneg _ (by decide)
    have t2 : two < 2305843009213693907 := Int.emod_lt_of_pos _ (by decide)
    refine ⟨(two * 49979687 + one) / 65579 % t, .lst [.int a, .int b, .int (c + 1)], ?_, Int.emod_nonneg _ (by omega), Int.emod_lt_of_pos _ h0, a, b, c + 1, rfl, ha, hb, hb2, by omega, by omega⟩
    have e1 : mulD (.int 32452867) (.int (c + 1)) = some (.int (32452867 * (c + 1))) := mul_ok (sm (by decide) (by decide)) (sm (by omega) (by omega))
    have e2 : mulD (.int one) (.int one) = some (.int (one * one)) := mul_ok (sm (by omega) (by omega)) (sm (by omega) (by omega))
    have e3 : mulD (.int 131) (.int (c + 1)) = some (.int (131 * (c + 1))) := mul_ok (sm (by decide) (by decide)) (sm (by omega) (by omega))
    have e4 : mulD (.int two) (.int 49979687) = some (.int (two * 49979687)) := mul_ok (sm (by omega) (by omega)) (sm (by decide) (by decide))
    have e5 : fdivD (.int (two * 49979687 + one)) (.int 65579) = some (.int ((two * 49979687 + one) / 65579)) := fdiv_ok (by decide) (sm (by decide) (by decide))
    have e6 : modD (.int (b + 32452867 * (c + 1))) (.int 2305843009213693951) = some (.int one) := mod_ok (by decide)
    have e7 : modD (.int (one * one + 131 * (c + 1))) (.int 2305843009213693907) = some (.int two) := mod_ok (by decide)
    have g1 := set_at (e := .lst [.int a, .int b, .int (c + 1)]) hn
    simp [f__law_spin, b__law_spin, mkF, sSeq, sIf, mTB, mBin, mVar, mC, R.bind, rd, g0, g1, hn, ixD, L2.atI, ixN, gtD, cmpI, isBl, hp, sAsg, mB, on1, toInt1, mCons, mNil, mod_ok h0, asgT, sPut, sRet, finK, sPass, addD, e1, e2, e3, e4, e5, e6, e7]
/-- one of some items -/
theorem among_ok {m : Int} {n : Nat} {s : D} {h : Hs} {l : List D} (S : Sp m s) (hn : h[n]? = some s) (hm : m < 2 ^ 60) (h0 : l ≠ []) (hl : l.length < 1000) : ∃ d s', f__law_among [.loc n, .lst l] h = .ok d (h.set n s') ∧ d ∈ l ∧ Sp (m + 1) s' := by
  have l0 : 0 < l.length := List.length_pos_iff.mpr h0
  obtain ⟨r, s', e, r0, r1, S'⟩ := spin_ok (t := (l.length : Int)) S hn hm (by omega) (by omega)
  have hr : r.toNat < l.length := by omega
  refine ⟨l[r.toNat], s', ?_, List.getElem_mem _, S'⟩
  simp [f__law_among, b__law_among, mkF, mBin, mVar, mC, R.bind, rd, ixD, L2.atI, ixN, mCall, mB, on1, len1, mCons, mNil, e, r0, r1, hr, sRet, finK]
theorem pow54 : ((10 : Int) ^ 54) ^ 6 = 10 ^ 324 := by decide
/-- the spins as they are made -/
theorem spins_ok {ns : List Int} {spot : Int} (h : Hs) (h0 : 0 ≤ spot) (h1 : spot < 64) : ∃ s, f__law_spins [.frz (ns.map .int), .int spot] h = .ok (.loc h.length) (h ++ [s]) ∧ Sp 0 s := by
  obtain ⟨cell, hc⟩ : ∃ cell : Int, (mIf (mTB (mBin ltD (mVar 1) (mB (on1 len1) (mCons (mVar 0) (mNil))))) (mB (on1 toInt1) (mCons (mBin ixD (mVar 0) (mVar 1)) (mNil))) (mBin addD (mBin mulD (mC (.int 311)) (mVar 1)) (mC (.int 97)))) [some (.frz (ns.map .int)), some (.int spot), none, none] h = .ok (.int cell) h := by
    by_cases hs : spot < (ns.length : Int)
    · have hn : spot.toNat < ns.length := by omega
      refine ⟨ns[spot.toNat], ?_⟩
      simp [mIf, mTB, mBin, mVar, mB, mCons, mNil, R.bind, rd, on1, len1, ltD, isBl, hs, ixD, L2.atI, ixN, h0, toInt1, hn]
    · refine ⟨311 * spot + 97, ?_⟩
      simp [mIf, mTB, mBin, mVar, mB, mCons, mNil, R.bind, rd, on1, len1, ltD, isBl, hs, mC, mul_ok (i := 311) (j := spot) (sm (by decide) (by decide)) (sm (by omega) (by omega)), addD]
  obtain ⟨P54, h54⟩ : ∃ x : Int, x = 10 ^ 54 := ⟨_, rfl⟩
  obtain ⟨P324, h324⟩ : ∃ x : Int, x = 10 ^ 324 := ⟨_, rfl⟩
  obtain ⟨P16, h16⟩ : ∃ x : Int, x = 10 ^ 16 := ⟨_, rfl⟩
  have p1 : powD (.int 10) (.int 54) = some (.int P54) := by rw [h54]; exact pow_ok (by decide +kernel)
  have p2 : powD (.int P54) (.int 6) = some (.int P324) := by rw [h54, h324, ← pow54]; exact pow_ok (by decide +kernel)
  have p3 : powD (.int 10) (.int 16) = some (.int P16) := by rw [h16]; exact pow_ok (by decide +kernel)
  obtain ⟨great, hgr⟩ : ∃ x : Int, x = (if cell < 0 then -cell else cell) % P324 := ⟨_, rfl⟩
  obtain ⟨one, hone⟩ : ∃ x : Int, x = great % 2305843009213693921 := ⟨_, rfl⟩
  have o1 : 0 ≤ one := by rw [hone]; exact Int.emod_nonneg _ (by decide)
  have o2 : one < 2305843009213693921 := by rw [hone]; exact Int.emod_lt_of_pos _ (by decide)
  obtain ⟨neg, hneg⟩ : ∃ x : Int, x = if cell < 0 then 1 else 0 := ⟨_, rfl⟩
  have n1 : 0 ≤ neg ∧ neg ≤ 1 := by rw [hneg]; split <;> omega
  refine ⟨.lst [.int (if great - P16 > 0 then great - P16 else 0), .int (one * 73 + 967 * spot + 43 * neg + 23), .int 0], ?_, _, _, _, rfl, ?_, by omega, by omega, by omega, by omega⟩
  · have e1 : mulD (.int one) (.int 73) = some (.int (one * 73)) := mul_ok (sm (by omega) (by omega)) (sm (by decide) (by decide))
    have e2 : mulD (.int 967) (.int spot) = some (.int (967 * spot)) := mul_ok (sm (by decide) (by decide)) (sm (by omega) (by omega))
    have e3 : mulD (.int 43) (.int neg) = some (.int (43 * neg)) := mul_ok (sm (by decide) (by decide)) (sm (by omega) (by omega))
    have m1 : modD (.int (if cell < 0 then -cell else cell)) (.int P324) = some (.int great) := by rw [hgr]; exact mod_ok (by rw [h324]; decide)
    have m2 : modD (.int great) (.int 2305843009213693921) = some (.int one) := by rw [hone]; exact mod_ok (by decide)
    have hn : toInt1 (.bl (decide (cell < 0))) = some (.int neg) := by
      rw [hneg]
      show some (D.int (if decide (cell < 0) = true then 1 else 0)) = _
      simp
    have ha : abs1 (.int cell) = some (.int (if cell < 0 then -cell else cell)) := rfl
    generalize (if cell < 0 then -cell else cell) = acell at ha m1
    have hi : toInt1 (.int acell) = some (.int acell) := rfl
    have hg : toInt1 (.int great) = some (.int great) := rfl
    simp [f__law_spins, b__law_spins, mkF, sSeq, sAsg, hc, asgT, mBin, mB, on1, on2, mCons, mNil, mVar, mC, R.bind, rd, ha, hi, hg, p1, p2, p3, m1, m2, sRet, mNew, max2, subD, addD, e1, e2, e3, ltD, hn, finK]
  · split <;> omega
/-! ### loops, statements -/
theorem for_ok {gc : Bool} {n0 : Nat} {l : List D} {t : Tg} {body : SM} (I : Nat → Ev → Hs → Prop)
    (step : ∀ (i : Nat) (x : D) (ds : Ev) (h : Hs), l[i]? = some x → I i ds h → ∃ ds1 ds2 h2 ds3 h3, asgT t x ds = some ds1 ∧ body ds1 h = .nx ds2 h2 ∧ (∀ k, keepS gc n0 ds2 h2 k = k ds3 h3) ∧ I (i + 1) ds3 h3) :
    ∀ (m i : Nat) (ds : Ev) (h : Hs), m + i = l.length → I i ds h → ∃ ds' h', forGo gc n0 (.its l) t body m i ds h = .nx ds' h' ∧ I l.length ds' h'
  | 0, i, ds, h, e, hI => by
    have : i = l.length := by omega
    subst this
    exact ⟨ds, h, rfl, hI⟩
  | m + 1, i, ds, h, e, hI => by
    have hi : i < l.length := by omega
    obtain ⟨ds1, ds2, h2, ds3, h3, e1, e2, e3, hI2⟩ := step i l[i] ds h (List.getElem?_eq_getElem hi) hI
    obtain ⟨ds', h', e4, hI3⟩ := for_ok I step m (i + 1) ds3 h3 (by omega) hI2
    refine ⟨ds', h', ?_, hI3⟩
    have ea : (srcAt (.its l) h i).bind (fun x => asgT t x ds) = some ds1 := by
      show (l[i]?).bind _ = _
      rw [List.getElem?_eq_getElem hi]
      exact e1
    simp only [forGo, ea, e2, e3, e4]
theorem seq_nx {m1 m2 : SM} {ds ds' : Ev} {h h' : Hs} (e : m1 ds h = .nx ds' h') : sSeq m1 m2 ds h = m2 ds' h' := by
  unfold sSeq
  rw [e]
theorem among_ok3 {m : Int} {n : Nat} {s : D} {h : Hs} {l : List D} (S : Sp m s) (hn : h[n]? = some s) (hm : m < 2 ^ 60) (h0 : l ≠ []) (hl : l.length < 1000) : ∃ d a b c, f__law_among [.loc n, .lst l] h = .ok d (h.set n (.lst [.int a, .int b, .int c])) ∧ d ∈ l ∧ Sp (m + 1) (.lst [.int a, .int b, .int c]) := by
  obtain ⟨d, s', e, hd, S'⟩ := among_ok S hn hm h0 hl
  obtain ⟨a, b, c, rfl, h⟩ := id S'
  exact ⟨d, a, b, c, e, hd, S'⟩
theorem callA {ds : Ev} {h h' : Hs} {n : Nat} {items : M D} {L : List D} {d : D} (hv : ds[0]? = some (some (.loc n))) (hi : items ds h = .ok (.lst L) h) (ha : f__law_among [.loc n, .lst L] h = .ok d h') :
    mCall 2 f__law_among (mCons (mVar 0) (mCons items mNil)) ds h = .ok d h' := by
  simp [mCall, mCons, mNil, mVar, R.bind, hv, hi, ha]
theorem draw1 {ds : Ev} {h h' : Hs} {n i : Nat} {items : M D} {L : List D} {d : D} (hv : ds[0]? = some (some (.loc n))) (hi : items ds h = .ok (.lst L) h) (ha : f__law_among [.loc n, .lst L] h = .ok d h') :
    sAsg (.nm i) (mCall 2 f__law_among (mCons (mVar 0) (mCons items mNil))) ds h = .nx (ds.set i (some d)) h' := by
  unfold sAsg
  rw [callA hv hi ha]
  rfl
theorem par2 {ds : Ev} {h h1 h2 : Hs} {i j : Nat} {X Y : M D} {x y : D} (hx : X ds h = .ok x h1) (hy : Y ds h1 = .ok y h2) : sPar [i, j] (mCons X (mCons Y mNil)) ds h = .nx ((ds.set i (some x)).set j (some y)) h2 := by
  simp [sPar, mCons, mNil, R.bind, hx, hy]
theorem par3 {ds : Ev} {h h1 h2 h3 : Hs} {i j k : Nat} {X Y Z : M D} {x y z : D} (hx : X ds h = .ok x h1) (hy : Y ds h1 = .ok y h2) (hz : Z ds h2 = .ok z h3) : sPar [i, j, k] (mCons X (mCons Y (mCons Z mNil))) ds h = .nx (((ds.set i (some x)).set j (some y)).set k (some z)) h3 := by
  simp [sPar, mCons, mNil, R.bind, hx, hy, hz]
theorem for2 {ds ds1 ds2 : Ev} {h h1 h2 : Hs} {i : Nat} {src : M Src} {x1 x2 : D} {b : SM} (hs : src ds h = .ok (.its [x1, x2]) h) (e1 : b (ds.set i (some x1)) h = .nx ds1 h1) (e2 : b (ds1.set i (some x2)) h1 = .nx ds2 h2) : sFor src (.nm i) b ds h = .nx ds2 h2 := by
  simp [sForB, hs, forGo, srcAt, srcEnd, asgT, Src.len, e1, e2, keepS]
theorem for3 {ds ds1 ds2 ds3 : Ev} {h h1 h2 h3 : Hs} {i : Nat} {src : M Src} {x1 x2 x3 : D} {b : SM} (hs : src ds h = .ok (.its [x1, x2, x3]) h) (e1 : b (ds.set i (some x1)) h = .nx ds1 h1) (e2 : b (ds1.set i (some x2)) h1 = .nx ds2 h2) (e3 : b (ds2.set i (some x3)) h2 = .nx ds3 h3) : sFor src (.nm i) b ds h = .nx ds3 h3 := by
  simp [sForB, hs, forGo, srcAt, srcEnd, asgT, Src.len, e1, e2, e3, keepS]
theorem asg2 {ds : Ev} {h h1 h2 : Hs} {i j : Nat} {X Y : M D} {x y : D} (hx : X ds h = .ok x h1) (hy : Y ds h1 = .ok y h2) : sAsg (.tp (.cons (.nm i) (.cons (.nm j) (.nil)))) (mTup (mCons X (mCons Y mNil))) ds h = .nx ((ds.set i (some x)).set j (some y)) h2 := by
  simp [sAsg, mTup, mCons, mNil, R.bind, hx, hy, asgT, asgTs]
theorem asg3 {ds : Ev} {h h1 h2 h3 : Hs} {i j k : Nat} {X Y Z : M D} {x y z : D} (hx : X ds h = .ok x h1) (hy : Y ds h1 = .ok y h2) (hz : Z ds h2 = .ok z h3) : sAsg (.tp (.cons (.nm i) (.cons (.nm j) (.cons (.nm k) (.nil))))) (mTup (mCons X (mCons Y (mCons Z mNil)))) ds h = .nx (((ds.set i (some x)).set j (some y)).set k (some z)) h3 := by
  simp [sAsg, mTup, mCons, mNil, R.bind, hx, hy, hz, asgT, asgTs]
theorem callAH {ds : Ev} {h h1 h' : Hs} {n : Nat} {items : M D} {L : List D} {d : D} (hv : ds[0]? = some (some (.loc n))) (hi : items ds h = .ok (.lst L) h1) (ha : f__law_among [.loc n, .lst L] h1 = .ok d h') :
    mCall 2 f__law_among (mCons (mVar 0) (mCons items mNil)) ds h = .ok d h' := by
  simp [mCall, mCons, mNil, mVar, R.bind, hv, hi, ha]
theorem draw0 {ds : Ev} {h h' : Hs} {i : Nat} {X : M D} {d : D} (e : X ds h = .ok d h') : sAsg (.nm i) X ds h = .nx (ds.set i (some d)) h' := by
  unfold sAsg
  rw [e]
  rfl
theorem lst3 {ds : Ev} {h h1 h2 h3 : Hs} {i : Nat} {X Y Z : M D} {x y z : D} (hx : X ds h = .ok x h1) (hy : Y ds h1 = .ok y h2) (hz : Z ds h2 = .ok z h3) : sAsg (.nm i) (mLst (mCons X (mCons Y (mCons Z mNil)))) ds h = .nx (ds.set i (some (.lst [x, y, z]))) h3 := by
  simp [sAsg, mLst, mCons, mNil, R.bind, hx, hy, hz, asgT]
theorem for4 {ds ds1 ds2 ds3 ds4 : Ev} {h h1 h2 h3 h4 : Hs} {i : Nat} {src : M Src} {x1 x2 x3 x4 : D} {b : SM} (hs : src ds h = .ok (.its [x1, x2, x3, x4]) h) (e1 : b (ds.set i (some x1)) h = .nx ds1 h1) (e2 : b (ds1.set i (some x2)) h1 = .nx ds2 h2) (e3 : b (ds2.set i (some x3)) h2 = .nx ds3 h3) (e4 : b (ds3.set i (some x4)) h3 = .nx ds4 h4) : sFor src (.nm i) b ds h = .nx ds4 h4 := by
  simp [sForB, hs, forGo, srcAt, srcEnd, asgT, Src.len, e1, e2, e3, e4, keepS]
theorem for5 {ds ds1 ds2 ds3 ds4 ds5 : Ev} {h h1 h2 h3 h4 h5 : Hs} {i : Nat} {src : M Src} {x1 x2 x3 x4 x5 : D} {b : SM} (hs : src ds h = .ok (.its [x1, x2, x3, x4, x5]) h) (e1 : b (ds.set i (some x1)) h = .nx ds1 h1) (e2 : b (ds1.set i (some x2)) h1 = .nx ds2 h2) (e3 : b (ds2.set i (some x3)) h2 = .nx ds3 h3) (e4 : b (ds3.set i (some x4)) h3 = .nx ds4 h4) (e5 : b (ds4.set i (some x5)) h4 = .nx ds5 h5) : sFor src (.nm i) b ds h = .nx ds5 h5 := by
  simp [sForB, hs, forGo, srcAt, srcEnd, asgT, Src.len, e1, e2, e3, e4, e5, keepS]
end W

set_option Elab.async false
set_option linter.all false
set_option maxRecDepth 100000
set_option maxHeartbeats 4000000
set_option exponentiation.threshold 5000
namespace W
open PySem PySem.Spec PyProof.Rows L2 DL
def tx_ (p : Str) (d : D) : Str := match reprX d with
  | some (.str s) => p ++ s
  | _ => p
theorem subF {b : SM} {nl : Nat} {x d : D} {h h1 : Hs} (e : b (some x :: List.replicate nl none) h = .rt d h1) : mkF 1 nl finK b [x] h = .ok d h1 := by
  simp [mkF, e, finK]
theorem subA {f : List D → Hs → DL.R D} {ds : Ev} {h h1 : Hs} {n : Nat} {d : D} (hv : ds[0]? = some (some (.loc n))) (ha : f [.loc n] h = .ok d h1) : mCall 1 f (mCons (mVar 0) mNil) ds h = .ok d h1 := by
  simp [mCall, mCons, mNil, mVar, R.bind, hv, ha]
def q_1 : SM := sAsg (.nm 1) (mCall 2 f__law_among (mCons (mVar 0) (mCons (mLst (mCons (mC .non) (mCons (mC (.int 0)) (mCons (mBin powD (mC (.int 10)) (mC (.int 60))) (mCons (mC (.bl true)) (mCons (mC (.str "a b")) (mCons (mTup (mNil)) (mCons (mTup (mCons (mC (.int 1)) (mCons (mC (.str "x")) (mNil)))) (mCons (mLst (mCons (mC (.int 1)) (mNil))) (mCons (mC (.dct [.int 1] [.int 2])) (mCons (mTup (mCons (mC (.str "goal")) (mCons (mC (.int 3)) (mNil)))) (mNil)))))))))))) (mNil))))
def q_2 : SM := sAsg (.nm 2) (mLst (mCons (mC (.str "bound")) (mCons (mC (.str "point")) (mCons (mC (.str "lot")) (mCons (mC (.str "area")) (mCons (mC (.str "field")) (mCons (mC (.str "machine")) (mCons (mC (.str "standing")) (mCons (mC (.str "places")) (mCons (mC (.str "name")) (mCons (mC (.str "text")) (mCons (mC (.str "operation")) (mCons (mC (.str "parse")) (mNil))))))))))))))
def q_3 : SM := sAsg (.nm 3) (mLst (mCons (mC (.str "number")) (mCons (mC (.str "unknown")) (mCons (mC (.str "undo")) (mCons (mC (.str "many")) (mCons (mC (.str "refused")) (mNil)))))))
def q_4 : SM := sIf (mTB (mBin neD (mLc (mSeq (mBin addD (mVar 2) (mVar 3))) [6] (.nm 6) (mTB (mBin neD (mTup (mCons (mCall 2 f__law_forth (mCons (mVar 6) (mCons (mVar 1) (mNil)))) (mCons (mCall 2 f__law_back (mCons (mVar 6) (mCons (mVar 1) (mNil)))) (mNil)))) (mTup (mCons (mVar 6) (mCons (mVar 6) (mNil)))))) (mVar 6)) (mLst (mNil)))) (sNo) (sPass)
def q_5 : SM := sAsg (.nm 4) (mLc (mSeq (mVar 2)) [6] (.nm 6) (mYes) (mTup (mCons (mVar 6) (mCons (mLst (mCons (mC (.str "play")) (mCons (mC (.str "value")) (mNil)))) (mNil)))))
def q_6 : SM := sAsg (.nm 4) (mBin addD (mVar 4) (mLst (mCons (mTup (mCons (mC (.str "number")) (mCons (mLst (mCons (mC (.str "index")) (mCons (mC (.str "lookup")) (mNil)))) (mNil)))) (mCons (mTup (mCons (mC (.str "unknown")) (mCons (mLst (mCons (mC (.str "key")) (mCons (mC (.str "lookup")) (mNil)))) (mNil)))) (mNil)))))
def q_7 : SM := sAsg (.nm 4) (mBin addD (mVar 4) (mLst (mCons (mTup (mCons (mC (.str "undo")) (mCons (mLst (mCons (mC (.str "lookup")) (mNil))) (mNil)))) (mCons (mTup (mCons (mC (.str "many")) (mCons (mLst (mCons (mC (.str "overflow")) (mCons (mC (.str "arithmetic")) (mNil)))) (mNil)))) (mCons (mTup (mCons (mC (.str "refused")) (mCons (mLst (mCons (mC (.str "arithmetic")) (mNil))) (mNil)))) (mNil))))))
def q_8 : SM := sIf (mTB (mBin neD (mCall 1 f__law_all_bases (mCons (mVar 1) (mNil))) (mBin addD (mVar 4) (mLst (mCons (mTup (mCons (mC (.str "play")) (mCons (mLst (mCons (mC (.str "play")) (mCons (mC (.str "value")) (mNil)))) (mNil)))) (mNil)))))) (sNo) (sPass)
def q_9 : SM := sAsg (.nm 5) (mLst (mCons (mB (on1 reprZ) (mCons (mExf (mVar 1)) (mNil))) (mCons (mB (on1 reprZ) (mCons (mExf (mVar 1)) (mNil))) (mCons (mB (on1 reprZ) (mCons (mExf (mVar 1)) (mNil))) (mNil)))))
def q_10 : SM := sAsg (.nm 5) (mBin addD (mVar 5) (mLst (mCons (mB (on1 reprZ) (mCons (mExf (mVar 1)) (mNil))) (mCons (mB (on1 reprZ) (mCons (mExf (mVar 1)) (mNil))) (mCons (mB (on1 reprZ) (mCons (mExf (mVar 1)) (mNil))) (mNil))))))
def q_11 : SM := sRet (mBin eqD (mVar 5) (mBin mulD (mLst (mCons (mB (on1 reprZ) (mCons (mVar 1) (mNil))) (mNil))) (mC (.int 6))))
theorem b_eq : b__law_right = sSeq q_1 (sSeq q_2 (sSeq q_3 (sSeq q_4 (sSeq q_5 (sSeq q_6 (sSeq q_7 (sSeq q_8 (sSeq q_9 (sSeq q_10 (q_11)))))))))) := rfl
def M_value : List D := [.non, .int 0, .int 1000000000000000000000000000000000000000000000000000000000000, .bl true, .str "a b", .tup [], .tup [.int 1, .str "x"], .lst [.int 1], .dct [.int 1] [.int 2], .tup [.str "goal", .int 3]]
theorem it_q_1_0 (a0 b0 c0 : Int) : (mLst (mCons (mC .non) (mCons (mC (.int 0)) (mCons (mBin powD (mC (.int 10)) (mC (.int 60))) (mCons (mC (.bl true)) (mCons (mC (.str "a b")) (mCons (mTup (mNil)) (mCons (mTup (mCons (mC (.int 1)) (mCons (mC (.str "x")) (mNil)))) (mCons (mLst (mCons (mC (.int 1)) (mNil))) (mCons (mC (.dct [.int 1] [.int 2])) (mCons (mTup (mCons (mC (.str "goal")) (mCons (mC (.int 3)) (mNil)))) (mNil)))))))))))) [some (.loc 0), none, none, none, none, none, none] [.lst [.int a0, .int b0, .int c0]] = .ok (.lst M_value) [.lst [.int a0, .int b0, .int c0]] := by kernel_rfl
def v_1 : D := .lst [.str "bound", .str "point", .str "lot", .str "area", .str "field", .str "machine", .str "standing", .str "places", .str "name", .str "text", .str "operation", .str "parse"]
theorem st_q_2 (a1 b1 c1 : Int) (d_value : D)  : q_2 [some (.loc 0), some d_value, none, none, none, none, none] [.lst [.int a1, .int b1, .int c1]] = .nx [some (.loc 0), some d_value, some v_1, none, none, none, none] [.lst [.int a1, .int b1, .int c1]] := by
  kernel_rfl

def v_2 : D := .lst [.str "number", .str "unknown", .str "undo", .str "many", .str "refused"]
theorem st_q_3 (a1 b1 c1 : Int) (d_value : D)  : q_3 [some (.loc 0), some d_value, some v_1, none, none, none, none] [.lst [.int a1, .int b1, .int c1]] = .nx [some (.loc 0), some d_value, some v_1, some v_2, none, none, none] [.lst [.int a1, .int b1, .int c1]] := by
  kernel_rfl

theorem st_q_4 (a1 b1 c1 : Int) (d_value : D)  : q_4 [some (.loc 0), some d_value, some v_1, some v_2, none, none, none] [.lst [.int a1, .int b1, .int c1]] = .nx [some (.loc 0), some d_value, some v_1, some v_2, none, none, none] [.lst [.int a1, .int b1, .int c1]] := by
  kernel_rfl

def v_3 : D := .lst [.tup [.str "bound", .lst [.str "play", .str "value"]], .tup [.str "point", .lst [.str "play", .str "value"]], .tup [.str "lot", .lst [.str "play", .str "value"]], .tup [.str "area", .lst [.str "play", .str "value"]], .tup [.str "field", .lst [.str "play", .str "value"]], .tup [.str "machine", .lst [.str "play", .str "value"]], .tup [.str "standing", .lst [.str "play", .str "value"]], .tup [.str "places", .lst [.str "play", .str "value"]], .tup [.str "name", .lst [.str "play", .str "value"]], .tup [.str "text", .lst [.str "play", .str "value"]], .tup [.str "operation", .lst [.str "play", .str "value"]], .tup [.str "parse", .lst [.str "play", .str "value"]]]
theorem st_q_5 (a1 b1 c1 : Int) (d_value : D)  : q_5 [some (.loc 0), some d_value, some v_1, some v_2, none, none, none] [.lst [.int a1, .int b1, .int c1]] = .nx [some (.loc 0), some d_value, some v_1, some v_2, some v_3, none, none] [.lst [.int a1, .int b1, .int c1]] := by
  kernel_rfl

def v_4 : D := .lst [.tup [.str "bound", .lst [.str "play", .str "value"]], .tup [.str "point", .lst [.str "play", .str "value"]], .tup [.str "lot", .lst [.str "play", .str "value"]], .tup [.str "area", .lst [.str "play", .str "value"]], .tup [.str "field", .lst [.str "play", .str "value"]], .tup [.str "machine", .lst [.str "play", .str "value"]], .tup [.str "standing", .lst [.str "play", .str "value"]], .tup [.str "places", .lst [.str "play", .str "value"]], .tup [.str "name", .lst [.str "play", .str "value"]], .tup [.str "text", .lst [.str "play", .str "value"]], .tup [.str "operation", .lst [.str "play", .str "value"]], .tup [.str "parse", .lst [.str "play", .str "value"]], .tup [.str "number", .lst [.str "index", .str "lookup"]], .tup [.str "unknown", .lst [.str "key", .str "lookup"]]]
theorem st_q_6 (a1 b1 c1 : Int) (d_value : D)  : q_6 [some (.loc 0), some d_value, some v_1, some v_2, some v_3, none, none] [.lst [.int a1, .int b1, .int c1]] = .nx [some (.loc 0), some d_value, some v_1, some v_2, some v_4, none, none] [.lst [.int a1, .int b1, .int c1]] := by
  kernel_rfl

def v_5 : D := .lst [.tup [.str "bound", .lst [.str "play", .str "value"]], .tup [.str "point", .lst [.str "play", .str "value"]], .tup [.str "lot", .lst [.str "play", .str "value"]], .tup [.str "area", .lst [.str "play", .str "value"]], .tup [.str "field", .lst [.str "play", .str "value"]], .tup [.str "machine", .lst [.str "play", .str "value"]], .tup [.str "standing", .lst [.str "play", .str "value"]], .tup [.str "places", .lst [.str "play", .str "value"]], .tup [.str "name", .lst [.str "play", .str "value"]], .tup [.str "text", .lst [.str "play", .str "value"]], .tup [.str "operation", .lst [.str "play", .str "value"]], .tup [.str "parse", .lst [.str "play", .str "value"]], .tup [.str "number", .lst [.str "index", .str "lookup"]], .tup [.str "unknown", .lst [.str "key", .str "lookup"]], .tup [.str "undo", .lst [.str "lookup"]], .tup [.str "many", .lst [.str "overflow", .str "arithmetic"]], .tup [.str "refused", .lst [.str "arithmetic"]]]
theorem st_q_7 (a1 b1 c1 : Int) (d_value : D)  : q_7 [some (.loc 0), some d_value, some v_1, some v_2, some v_4, none, none] [.lst [.int a1, .int b1, .int c1]] = .nx [some (.loc 0), some d_value, some v_1, some v_2, some v_5, none, none] [.lst [.int a1, .int b1, .int c1]] := by
  kernel_rfl

theorem st_q_8 (a1 b1 c1 : Int) (d_value : D)  : q_8 [some (.loc 0), some d_value, some v_1, some v_2, some v_5, none, none] [.lst [.int a1, .int b1, .int c1]] = .nx [some (.loc 0), some d_value, some v_1, some v_2, some v_5, none, none] [.lst [.int a1, .int b1, .int c1]] := by
  kernel_rfl

def w_1 (d_value : D) : D := match q_9 [some (.loc 0), some d_value, some v_1, some v_2, some v_5, none, none] [.lst [.int 0, .int 0, .int 0]] with
  | .nx e h => (e.getD 5 none).getD .uns
  | _ => .uns
theorem st_q_9 (a1 b1 c1 : Int) (d_value : D) (h_value : d_value ∈ M_value) : q_9 [some (.loc 0), some d_value, some v_1, some v_2, some v_5, none, none] [.lst [.int a1, .int b1, .int c1]] = .nx [some (.loc 0), some d_value, some v_1, some v_2, some v_5, some (w_1 d_value), none] [.lst [.int a1, .int b1, .int c1]] := by
  simp only [M_value, List.mem_cons, List.not_mem_nil, or_false] at h_value
  rcases h_value with rfl | rfl | rfl | rfl | rfl | rfl | rfl | rfl | rfl | rfl <;> kernel_rfl

def w_2 (d_value : D) : D := match q_10 [some (.loc 0), some d_value, some v_1, some v_2, some v_5, some (w_1 d_value), none] [.lst [.int 0, .int 0, .int 0]] with
  | .nx e h => (e.getD 5 none).getD .uns
  | _ => .uns
theorem st_q_10 (a1 b1 c1 : Int) (d_value : D) (h_value : d_value ∈ M_value) : q_10 [some (.loc 0), some d_value, some v_1, some v_2, some v_5, some (w_1 d_value), none] [.lst [.int a1, .int b1, .int c1]] = .nx [some (.loc 0), some d_value, some v_1, some v_2, some v_5, some (w_2 d_value), none] [.lst [.int a1, .int b1, .int c1]] := by
  simp only [M_value, List.mem_cons, List.not_mem_nil, or_false] at h_value
  rcases h_value with rfl | rfl | rfl | rfl | rfl | rfl | rfl | rfl | rfl | rfl <;> kernel_rfl

theorem st_q_11 (a1 b1 c1 : Int) (d_value : D) (h_value : d_value ∈ M_value) : q_11 [some (.loc 0), some d_value, some v_1, some v_2, some v_5, some (w_2 d_value), none] [.lst [.int a1, .int b1, .int c1]] = .rt (.bl true) [.lst [.int a1, .int b1, .int c1]] := by
  simp only [M_value, List.mem_cons, List.not_mem_nil, or_false] at h_value
  rcases h_value with rfl | rfl | rfl | rfl | rfl | rfl | rfl | rfl | rfl | rfl <;> kernel_rfl

theorem body_ok {m a0 b0 c0 : Int} (S0 : Sp m (.lst [.int a0, .int b0, .int c0])) (hm : m < 2 ^ 59) : ∃ a b c tl, b__law_right [some (.loc 0), none, none, none, none, none, none] [.lst [.int a0, .int b0, .int c0]] = .rt (.bl true) ([] ++ .lst [.int a, .int b, .int c] :: tl) ∧ Sp (m + 1) (.lst [.int a, .int b, .int c]) := by
  rw [b_eq]
  obtain ⟨d_value, a1, b1, c1, am_value, h_value, S1⟩ := among_ok3 (n := 0) (l := M_value) (h := [.lst [.int a0, .int b0, .int c0]]) S0 rfl (by omega) (by simp [M_value]) (by simp [M_value])
  have e_q_1 : q_1 [some (.loc 0), none, none, none, none, none, none] [.lst [.int a0, .int b0, .int c0]] = .nx [some (.loc 0), some d_value, none, none, none, none, none] [.lst [.int a1, .int b1, .int c1]] := draw0 (callA rfl (it_q_1_0 a0 b0 c0) am_value)
  rw [seq_nx e_q_1]
  rw [seq_nx (st_q_2 a1 b1 c1 d_value )]
  rw [seq_nx (st_q_3 a1 b1 c1 d_value )]
  rw [seq_nx (st_q_4 a1 b1 c1 d_value )]
  rw [seq_nx (st_q_5 a1 b1 c1 d_value )]
  rw [seq_nx (st_q_6 a1 b1 c1 d_value )]
  rw [seq_nx (st_q_7 a1 b1 c1 d_value )]
  rw [seq_nx (st_q_8 a1 b1 c1 d_value )]
  rw [seq_nx (st_q_9 a1 b1 c1 d_value h_value)]
  rw [seq_nx (st_q_10 a1 b1 c1 d_value h_value)]
  exact ⟨a1, b1, c1, [], st_q_11 a1 b1 c1 d_value h_value, (S1.mono (by omega))⟩
end W

set_option Elab.async false
set_option linter.all false
set_option maxRecDepth 100000
set_option maxHeartbeats 4000000
set_option exponentiation.threshold 5000
namespace W
open PySem PySem.Spec PyProof.Rows L2 DL
/-! ### the law's end, for every law of errors -/
def cel (a b c : Int) : D := .lst [.int a, .int b, .int c]
def RightOk (fr : List D → Hs → DL.R D) (tb : Hs) (N : Int) : Prop := ∀ m a b c : Int, Sp m (cel a b c) → m < 2 ^ 59 → ∃ a' b' c', fr [.loc tb.length] (tb ++ [cel a b c]) = .ok (.bl true) (tb ++ [cel a' b' c']) ∧ Sp (m + N) (cel a' b' c')
section
variable {fr : List D → Hs → R D} {tb : Hs} {N : Int}
def askA (fr : List D → Hs → DL.R D) : SM := sIf (mNotT (mTru (mCall 1 fr (mCons (mVar 2) (mNil))))) (sRet (mC (.bl false))) (sPass)
theorem askA_ok {ds : Ev} {n : Nat} {h h' : Hs} (hv : ds[2]? = some (some (.loc n))) (e : fr [.loc n] h = .ok (.bl true) h') : askA fr ds h = .nx ds h' := by
  simp [askA, sIf, mNotT, mTru, mCall, mCons, mNil, mVar, R.bind, hv, e, rd, truD, sPass]
def turnA (fr : List D → Hs → DL.R D) (k : Int) : SM := sSeq (sAsg (.nm 2) (mCall 2 f__law_spins (mCons (mVar 0) (mCons (mVar 1) (mNil))))) (sForG (mSrcA rng1 (mCons (mC (.int k)) (mNil))) (.nm 3) (askA fr))
def outer (q : Int) (turn : SM) : SM := sForG (mSrcA rng1 (mCons (mB (on2 max2) (mCons (mC (.int 1)) (mCons (mB (on2 min2) (mCons (mC (.int q)) (mCons (mB (on1 len1) (mCons (mVar 0) (mNil))) (mNil)))) (mNil)))) (mNil))) (.nm 1) turn
/-- what one spot's turn leaves -/
def TurnOk (turn : SM) (tb : Hs) (rest : Ev) : Prop := ∀ (ns : List Int) (i : Int) (x2 x3 : Option D), 0 ≤ i → i < 64 → ∃ y2 y3 cell, turn (some (.frz (ns.map .int)) :: some (.int i) :: x2 :: x3 :: rest) tb = .nx (some (.frz (ns.map .int)) :: some (.int i) :: y2 :: y3 :: rest) (tb ++ [cell])
theorem rng_its {ds : Ev} {h : Hs} {k : Int} (hk : 0 ≤ k ∧ k < 1000) : mSrcA rng1 (mCons (mC (.int k)) (mNil)) ds h = .ok (.its (rangeL 0 k.toNat)) h := by
  have c3 : rng1 [.int k] = some (.its (rangeL 0 k.toNat)) := by
    rw [rng1, if_pos (by omega)]
  simp only [mSrcA, mCons, mNil, mC, R.bind, List.map_cons, List.map_nil, rd, c3]
theorem mem_its {n j : Nat} {x : D} (hx : (rangeL 0 n)[j]? = some x) : j < n ∧ ∃ i : Int, x = .int i ∧ 0 ≤ i ∧ i < n := by
  have h1 := (List.getElem?_eq_some_iff.mp hx).1
  have := List.mem_of_getElem? hx
  simp only [rangeL, List.mem_map, List.mem_range, List.length_map, List.length_range] at this h1
  obtain ⟨z, hz, rfl⟩ := this
  exact ⟨h1, _, rfl, by omega, by omega⟩
theorem gc_rest {n : Nat} {rest : Ev} (hr : ∀ x ∈ rest, x = none) : gcE n rest = rest := by
  unfold gcE
  conv => rhs; rw [← List.map_id rest]
  refine List.map_congr_left fun x hx => ?_
  rw [hr x hx]
  rfl
theorem gc_ns {n : Nat} (ns : List Int) : bel n (.frz (ns.map .int)) = true := by
  show bels n (ns.map .int) = true
  induction ns with
  | nil => rfl
  | cons a l ih => simp [bels, bel, ih]
theorem bels_app {n : Nat} : ∀ {l k : List D}, bels n l = true → bels n k = true → bels n (l ++ k) = true
  | [], _, _, h => h
  | d :: l, k, h, h2 => by
    simp only [bels, Bool.and_eq_true, List.cons_append] at h ⊢
    exact ⟨h.1, bels_app h.2 h2⟩
theorem turnA_ok {k : Int} (hR : RightOk fr tb N) (hN : 0 ≤ N ∧ N < 100) (hk : 0 ≤ k ∧ k < 100) {rest : Ev} (hr : ∀ x ∈ rest, x = none) (ht : ∀ n, bels n tb = true) : TurnOk (turnA fr k) tb rest := by
  intro ns i x2 x3 i0 i1
  obtain ⟨s, e1, S0⟩ := spins_ok (ns := ns) (spot := i) tb i0 i1
  obtain ⟨a, b, c, rfl, hS⟩ := id S0
  have A : sAsg (.nm 2) (mCall 2 f__law_spins (mCons (mVar 0) (mCons (mVar 1) (mNil)))) (some (.frz (ns.map .int)) :: some (.int i) :: x2 :: x3 :: rest) tb = .nx (some (.frz (ns.map .int)) :: some (.int i) :: some (.loc tb.length) :: x3 :: rest) (tb ++ [cel a b c]) := by
    simp [sAsg, mCall, mCons, mNil, mVar, R.bind, e1, asgT, cel]
  obtain ⟨ds', h2, e2, y3, a', b', c', hds, hh, -⟩ := for_ok (gc := true) (n0 := tb.length + 1) (l := rangeL 0 k.toNat) (t := .nm 3) (body := askA fr)
    (fun j ds hh => ∃ (y3 : Option D) (a b c : Int), ds = some (.frz (ns.map .int)) :: some (.int i) :: some (.loc tb.length) :: y3 :: rest ∧ hh = tb ++ [cel a b c] ∧ Sp (N * (j : Nat)) (cel a b c)) (by
      rintro j x ds hh hx ⟨y3, a, b, c, rfl, rfl, sj⟩
      obtain ⟨hj, z, rfl, z0, z1⟩ := mem_its hx
      have hM : N * (j : Int) ≤ 100 * (j : Int) := Int.mul_le_mul_of_nonneg_right (by omega) (by omega)
      obtain ⟨a', b', c', e3, s3⟩ := hR _ _ _ _ sj (by omega)
      refine ⟨some (.frz (ns.map .int)) :: some (.int i) :: some (.loc tb.length) :: some (.int z) :: rest, some (.frz (ns.map .int)) :: some (.int i) :: some (.loc tb.length) :: some (.int z) :: rest, tb ++ [cel a' b' c'], some (.frz (ns.map .int)) :: some (.int i) :: some (.loc tb.length) :: some (.int z) :: rest, tb ++ [cel a' b' c'], rfl, askA_ok rfl e3, ?_, some (.int z), a', b', c', rfl, rfl, ?_⟩
      · intro q
        have hl : (tb ++ [cel a' b' c']).length = tb.length + 1 := by simp
        have hb : bels (tb.length + 1) (tb ++ [cel a' b' c']) = true := bels_app (ht _) rfl
        have hg := gc_rest (n := tb.length + 1) hr
        have h1 := gc_ns (n := tb.length + 1) ns
        have h3 : bel (tb.length + 1) (.loc tb.length) = true := by simp [bel]
        have hE : gcE (tb.length + 1) (some (.frz (ns.map .int)) :: some (.int i) :: some (.loc tb.length) :: some (.int z) :: rest) = some (.frz (ns.map .int)) :: some (.int i) :: some (.loc tb.length) :: some (.int z) :: rest := by
          unfold gcE at hg ⊢
          simp only [List.map_cons, hg, h1, h3, if_true, show ∀ x : Int, bel (tb.length + 1) (.int x) = true from fun _ => rfl]
        rw [keepS, if_pos rfl, ← hl, List.take_length, hl, if_pos hb, hE]
      · refine s3.mono ?_
        have : N * ((j + 1 : Nat) : Int) = N * j + N := by
          rw [Int.natCast_add, Int.mul_add]; simp
        omega) (rangeL 0 k.toNat).length 0 (some (.frz (ns.map .int)) :: some (.int i) :: some (.loc tb.length) :: x3 :: rest) (tb ++ [cel a b c]) (by omega) ⟨x3, a, b, c, rfl, rfl, by rw [show N * ((0 : Nat) : Int) = 0 from Int.mul_zero N]; exact S0⟩
  subst hds hh
  refine ⟨some (.loc tb.length), y3, cel a' b' c', ?_⟩
  unfold turnA
  rw [seq_nx A]
  show sForB true _ _ _ _ _ = _
  unfold sForB
  rw [rng_its (by omega)]
  have hl : (tb ++ [cel a b c]).length = tb.length + 1 := by simp
  show forGo true (tb ++ [cel a b c]).length _ _ _ _ _ _ _ = _
  rw [hl]
  exact e2
theorem outer_ok {q : Int} (hq : 1 ≤ q ∧ q < 10) {turn : SM} {rest : Ev} (hT : TurnOk turn tb rest) (hr : ∀ x ∈ rest, x = none) (ht : ∀ n, bels n tb = true) (ns : List Int) : ∃ x1 x2 x3, outer q turn (some (.frz (ns.map .int)) :: none :: none :: none :: rest) tb = .nx (some (.frz (ns.map .int)) :: x1 :: x2 :: x3 :: rest) tb := by
  obtain ⟨k, hk0, hk⟩ : ∃ k : Nat, k ≤ 10 ∧ mSrcA rng1 (mCons (mB (on2 max2) (mCons (mC (.int 1)) (mCons (mB (on2 min2) (mCons (mC (.int q)) (mCons (mB (on1 len1) (mCons (mVar 0) (mNil))) (mNil)))) (mNil)))) (mNil)) (some (.frz (ns.map .int)) :: none :: none :: none :: rest) tb = .ok (.its (rangeL 0 k)) tb := by
    obtain ⟨x, hx, x1, x3⟩ : ∃ x : Int, x = (if (if (ns.length : Int) < q then (ns.length : Int) else q) > 1 then (if (ns.length : Int) < q then (ns.length : Int) else q) else 1) ∧ 1 ≤ x ∧ x ≤ q := by
      refine ⟨_, rfl, ?_, ?_⟩ <;> split <;> (try split) <;> omega
    refine ⟨x.toNat, by omega, ?_⟩
    have c1 : max2 (.int 1) (.int (if (ns.length : Int) < q then (ns.length : Int) else q)) = some (.int x) := by rw [hx]; rfl
    have c2 : min2 (.int q) (.int (ns.length : Int)) = some (.int (if (ns.length : Int) < q then (ns.length : Int) else q)) := rfl
    have c3 : rng1 [.int x] = some (.its (rangeL 0 x.toNat)) := by
      rw [rng1, if_pos (by omega)]
    simp only [mSrcA, mCons, mNil, mB, mC, mVar, R.bind, List.getElem?_cons_zero, List.map_cons, List.map_nil, rd, on1, on2, len1, List.length_map, c2, c1, c3]
  obtain ⟨ds', h2, e2, x1, x2, x3, hds, hh⟩ := for_ok (gc := true) (n0 := tb.length) (l := rangeL 0 k) (t := .nm 1) (body := turn)
    (fun j ds hh => ∃ x1 x2 x3 : Option D, ds = some (.frz (ns.map .int)) :: x1 :: x2 :: x3 :: rest ∧ hh = tb) (by
      rintro j x ds hh hx ⟨x1, x2, x3, rfl, rfl⟩
      obtain ⟨hj, i, rfl, i0, i1⟩ := mem_its hx
      obtain ⟨y2, y3, cell, e3⟩ := hT ns i x2 x3 i0 (by omega)
      refine ⟨some (.frz (ns.map .int)) :: some (.int i) :: x2 :: x3 :: rest, _, _, gcE hh.length (some (.frz (ns.map .int)) :: some (.int i) :: y2 :: y3 :: rest), hh, rfl, e3, ?_, some (.int i), (gcE hh.length [y2]).headD none, (gcE hh.length [y3]).headD none, ?_, rfl⟩
      · intro q
        rw [keepS, if_pos rfl, List.take_left', if_pos (ht _)]
        rfl
      · have hg := gc_rest (n := hh.length) hr
        have h1 := gc_ns (n := hh.length) ns
        unfold gcE at hg ⊢
        simp only [List.map_cons, hg, h1, if_true, show bel hh.length (.int i) = true from rfl]
        rfl) (rangeL 0 k).length 0 (some (.frz (ns.map .int)) :: none :: none :: none :: rest) tb (by omega) ⟨none, none, none, rfl, rfl⟩
  subst hds hh
  refine ⟨x1, x2, x3, ?_⟩
  show sForB true _ _ _ _ _ = _
  unfold sForB
  rw [hk]
  exact e2
theorem right_of {body : SM} {nl : Nat} {a b c a' b' c' : Int} {tl : Hs} {E0 : Ev} {H0 H1 : Hs} (e : body E0 H0 = .rt (.bl true) H1) (hE : E0 = some (.loc tb.length) :: List.replicate nl none) (hH : H0 = tb ++ [cel a b c]) (h1 : H1 = tb ++ cel a' b' c' :: tl) (ht : ∀ n, bels n tb = true) : mkF 1 nl finG body [.loc tb.length] (tb ++ [cel a b c]) = .ok (.bl true) (tb ++ [cel a' b' c']) := by
  subst hE hH h1
  show finG (tb ++ [cel a b c]).length (body (some (.loc tb.length) :: List.replicate nl none) (tb ++ [cel a b c])) = _
  rw [e]
  have hl : (tb ++ [cel a b c]).length = (tb ++ [cel a' b' c']).length := by simp
  have hk : (tb ++ cel a' b' c' :: tl).take (tb ++ [cel a' b' c']).length = tb ++ [cel a' b' c'] := by
    rw [show tb ++ cel a' b' c' :: tl = (tb ++ [cel a' b' c']) ++ tl by simp, List.take_left']
    rfl
  have hb : bels (tb ++ [cel a' b' c']).length (tb ++ [cel a' b' c']) = true := bels_app (ht _) rfl
  simp only [finG]
  rw [hl, hk, if_pos (by rw [hb]; rfl)]
  rfl
end

/-! ### two draws of the law's judge behind one another; spins made within the question -/
def turnB (fr : List D → Hs → DL.R D) : SM := sSeq (sAsg (.nm 2) (mCall 2 f__law_spins (mCons (mVar 0) (mCons (mVar 1) (mNil))))) (sIf (mOrT (mNotT (mTru (mCall 1 fr (mCons (mVar 2) (mNil))))) (mNotT (mTru (mCall 1 fr (mCons (mVar 2) (mNil)))))) (sRet (mC (.bl false))) (sPass))
def turnC (fr : List D → Hs → DL.R D) : SM := sIf (mNotT (mTru (mCall 1 fr (mCons (mCall 2 f__law_spins (mCons (mVar 0) (mCons (mVar 1) (mNil)))) (mNil))))) (sRet (mC (.bl false))) (sPass)
def TurnOk2 (turn : SM) (tb : Hs) (rest : Ev) : Prop := ∀ (ns : List Int) (i : Int) (x2 : Option D), 0 ≤ i → i < 64 → ∃ y2 cell, turn (some (.frz (ns.map .int)) :: some (.int i) :: x2 :: rest) tb = .nx (some (.frz (ns.map .int)) :: some (.int i) :: y2 :: rest) (tb ++ [cell])
theorem turnB_ok {fr : List D → Hs → DL.R D} {tb : Hs} {N : Int} {rest : Ev} (hR : RightOk fr tb N) (hN : 0 ≤ N ∧ N < 100) : TurnOk2 (turnB fr) tb rest := by
  intro ns i x2 i0 i1
  obtain ⟨s, e1, S0⟩ := spins_ok (ns := ns) (spot := i) tb i0 i1
  obtain ⟨a, b, c, rfl, hS⟩ := id S0
  have A : sAsg (.nm 2) (mCall 2 f__law_spins (mCons (mVar 0) (mCons (mVar 1) (mNil)))) (some (.frz (ns.map .int)) :: some (.int i) :: x2 :: rest) tb = .nx (some (.frz (ns.map .int)) :: some (.int i) :: some (.loc tb.length) :: rest) (tb ++ [cel a b c]) := by
    simp [sAsg, mCall, mCons, mNil, mVar, R.bind, e1, asgT, cel]
  obtain ⟨a1, b1, c1, e2, S1⟩ := hR _ _ _ _ S0 (by decide)
  obtain ⟨a2, b2, c2, e3, S2⟩ := hR _ _ _ _ S1 (by omega)
  refine ⟨some (.loc tb.length), cel a2 b2 c2, ?_⟩
  unfold turnB
  rw [seq_nx A]
  simp [sIf, mOrT, mNotT, mTru, mCall, mCons, mNil, mVar, R.bind, e2, e3, rd, truD, sPass]
theorem turnC_ok {fr : List D → Hs → DL.R D} {tb : Hs} {N : Int} {rest : Ev} (hR : RightOk fr tb N) : TurnOk2 (turnC fr) tb rest := by
  intro ns i x2 i0 i1
  obtain ⟨s, e1, S0⟩ := spins_ok (ns := ns) (spot := i) tb i0 i1
  obtain ⟨a, b, c, rfl, hS⟩ := id S0
  obtain ⟨a1, b1, c1, e2, S1⟩ := hR _ _ _ _ S0 (by decide)
  refine ⟨x2, cel a1 b1 c1, ?_⟩
  have e1' : f__law_spins [.frz (ns.map .int), .int i] tb = .ok (.loc tb.length) (tb ++ [cel a b c]) := e1
  simp [turnC, sIf, mNotT, mTru, mCall, mCons, mNil, mVar, R.bind, e1', e2, rd, truD, sPass]
theorem outer2_ok {tb : Hs} {q : Int} (hq : 1 ≤ q ∧ q < 10) {turn : SM} {rest : Ev} (hT : TurnOk2 turn tb rest) (hr : ∀ x ∈ rest, x = none) (ht : ∀ n, bels n tb = true) (ns : List Int) : ∃ x1 x2, outer q turn (some (.frz (ns.map .int)) :: none :: none :: rest) tb = .nx (some (.frz (ns.map .int)) :: x1 :: x2 :: rest) tb := by
  obtain ⟨k, hk0, hk⟩ : ∃ k : Nat, k ≤ 10 ∧ mSrcA rng1 (mCons (mB (on2 max2) (mCons (mC (.int 1)) (mCons (mB (on2 min2) (mCons (mC (.int q)) (mCons (mB (on1 len1) (mCons (mVar 0) (mNil))) (mNil)))) (mNil)))) (mNil)) (some (.frz (ns.map .int)) :: none :: none :: rest) tb = .ok (.its (rangeL 0 k)) tb := by
    obtain ⟨x, hx, x1, x3⟩ : ∃ x : Int, x = (if (if (ns.length : Int) < q then (ns.length : Int) else q) > 1 then (if (ns.length : Int) < q then (ns.length : Int) else q) else 1) ∧ 1 ≤ x ∧ x ≤ q := by
      refine ⟨_, rfl, ?_, ?_⟩ <;> split <;> (try split) <;> omega
    refine ⟨x.toNat, by omega, ?_⟩
    have c1 : max2 (.int 1) (.int (if (ns.length : Int) < q then (ns.length : Int) else q)) = some (.int x) := by rw [hx]; rfl
    have c2 : min2 (.int q) (.int (ns.length : Int)) = some (.int (if (ns.length : Int) < q then (ns.length : Int) else q)) := rfl
    have c3 : rng1 [.int x] = some (.its (rangeL 0 x.toNat)) := by
      rw [rng1, if_pos (by omega)]
    simp only [mSrcA, mCons, mNil, mB, mC, mVar, R.bind, List.getElem?_cons_zero, List.map_cons, List.map_nil, rd, on1, on2, len1, List.length_map, c2, c1, c3]
  obtain ⟨ds', h2, e2, x1, x2, hds, hh⟩ := for_ok (gc := true) (n0 := tb.length) (l := rangeL 0 k) (t := .nm 1) (body := turn)
    (fun j ds hh => ∃ x1 x2 : Option D, ds = some (.frz (ns.map .int)) :: x1 :: x2 :: rest ∧ hh = tb) (by
      rintro j x ds hh hx ⟨x1, x2, rfl, rfl⟩
      obtain ⟨hj, i, rfl, i0, i1⟩ := mem_its hx
      obtain ⟨y2, cell, e3⟩ := hT ns i x2 i0 (by omega)
      refine ⟨some (.frz (ns.map .int)) :: some (.int i) :: x2 :: rest, _, _, gcE hh.length (some (.frz (ns.map .int)) :: some (.int i) :: y2 :: rest), hh, rfl, e3, ?_, some (.int i), (gcE hh.length [y2]).headD none, ?_, rfl⟩
      · intro q
        rw [keepS, if_pos rfl, List.take_left', if_pos (ht _)]
        rfl
      · have hg := gc_rest (n := hh.length) hr
        have h1 := gc_ns (n := hh.length) ns
        unfold gcE at hg ⊢
        simp only [List.map_cons, hg, h1, if_true, show bel hh.length (.int i) = true from rfl]
        rfl) (rangeL 0 k).length 0 (some (.frz (ns.map .int)) :: none :: none :: rest) tb (by omega) ⟨none, none, rfl, rfl⟩
  subst hds hh
  refine ⟨x1, x2, ?_⟩
  show sForB true _ _ _ _ _ = _
  unfold sForB
  rw [hk]
  exact e2
theorem right_ok : RightOk f__law_right (tf.map .tbl) 1 := by
  intro m a b c S hm
  obtain ⟨a', b', c', tl, e, S'⟩ := body_ok S hm
  refine ⟨a', b', c', ?_, S'.mono (by omega)⟩
  unfold f__law_right
  exact right_of (tb := tf.map .tbl) (nl := 6) e rfl rfl rfl (fun n => rfl)
def isT (r : DL.R D) : Bool := match r with
  | .ok (.bl b) _ => b
  | _ => false
theorem isT_ok {r : DL.R D} (h : isT r = true) : ∃ h', r = .ok (.bl true) h' := by
  unfold isT at h
  split at h
  · exact ⟨_, by rw [h]⟩
  · cases h
def r_1 : SM := sRet (mC (.bl true))
theorem rs_1 (ns : List Int) (x1 x2 x3 : Option D) : r_1 (some (.frz (ns.map .int)) :: x1 :: x2 :: x3 :: List.replicate 0 none) (tf.map .tbl) = .rt (.bl true) [] := by kernel_rfl
def lawRest : SM := r_1
theorem rest_ok (ns : List Int) (x1 x2 x3 : Option D) : isT (finK (tf.map D.tbl).length (lawRest (some (.frz (ns.map .int)) :: x1 :: x2 :: x3 :: List.replicate 0 none) (tf.map .tbl))) = true := by
  unfold lawRest
  rw [rs_1 ns x1 x2 x3]
  rfl
theorem answersA : ∀ ns : List Int, ns.length ≤ 63 → ∃ h', f_law [.frz (ns.map .int)] (tf.map .tbl) = .ok (.bl true) h' := by
  intro ns _
  obtain ⟨x1, x2, x3, e⟩ := outer_ok (q := 3) (by omega) (turnA_ok (k := 3) (rest := List.replicate 0 none) right_ok (by omega) (by omega) (fun x hx => List.eq_of_mem_replicate hx) (fun n => rfl)) (fun x hx => List.eq_of_mem_replicate hx) (fun n => rfl) ns
  have e2 : f_law [.frz (ns.map .int)] (tf.map .tbl) = finK (tf.map D.tbl).length (sSeq (outer 3 (turnA f__law_right 3)) lawRest (some (.frz (ns.map .int)) :: none :: none :: none :: List.replicate 0 none) (tf.map .tbl)) := rfl
  rw [e2, seq_nx e]
  exact isT_ok (rest_ok ns x1 x2 x3)
end W

theorem PySem.Challenge.cw_pauseplay_k00_whole_errors_and_what_they_holds : PySem.Challenge.rw_pauseplay_k00_whole_errors_and_what_they.Holds := by
  exact W.main W.answersA

